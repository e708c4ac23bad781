import PyProof.Rows.All
import Wide.All
import OpenK.AllK
import Wide.FinOn
import HandS.ForMost
import HandS.Evl
import HandS.Wide
import HandS.IsInst
import HandS.SortInts
import HandS.TupAny
import HandS.Dict
import HandS.More
import KE.KDictPairs
import KE.KDictCopyH
import HandS.ForExc
import HandS.ExcInit
import HandS.ExcField
import HandS.Iter
import KE.KExcIs
import HandS.Style
import KE.SortData
import HandS.Sort
import HandS.StrMore
import PyProof.SumAny
import HandS.DictComp
import HandS.OwnEq
import HandS.DeepEq
import PyProof.NeKinds
import PyProof.DictUpdate
import HandS.Text
import HandS.SetFor
import HandS.Strs
import PySem.Challenge.RW_boxgalley_k77_what_the_checker_of_pages
set_option Elab.async false
set_option linter.all false
set_option maxRecDepth 100000
set_option maxHeartbeats 2000000
/-! Wk: typed mirrors over the hand layer: what a value stands for, a state by slots and owned objects, one rule a construct. -/
namespace Wk
open PySem PySem.Spec L2 Evl

abbrev Fg := PySem.W.Frag
def isDk : HO → Prop
  | .dK _ => True
  | .dT _ => True
  | _ => False
/-- all that stood stands; a dict may be locked, or set free again -/
def Sw (H H' : Hp) : Prop := ∀ q u, H q = some u → H' q = some u ∨ ∃ o w, isDk w ∧ ((u = w ∧ H' q = some (.frz o w)) ∨ (u = .frz o w ∧ H' q = some w))
theorem Sw.of {H H' : Hp} (e : Ex H H') : Sw H H' := fun q u h => .inl (e q u h)
theorem Sw.keep {H H' : Hp} (e : Sw H H') {q : Addr} {u : HO} (h : H q = some u) (n1 : ¬ isDk u) (n2 : ∀ o w, u ≠ .frz o w) : H' q = some u := by
  rcases e q u h with h | ⟨o, w, hw, ⟨rfl, _⟩ | ⟨h, _⟩⟩
  · exact h
  · exact absurd hw n1
  · exact absurd h (n2 o w)
theorem Sw.lst {H H' : Hp} (e : Sw H H') {q : Addr} {vs : List V} (h : H q = some (.lst vs)) : H' q = some (.lst vs) := e.keep h (fun z => z) (fun _ _ z => nomatch z)
theorem Sw.tup {H H' : Hp} (e : Sw H H') {q : Addr} {vs : List V} (h : H q = some (.tup vs)) : H' q = some (.tup vs) := e.keep h (fun z => z) (fun _ _ z => nomatch z)
theorem Sw.rdl {H H' : Hp} (e : Sw H H') {q : Addr} {u : HO} (h : Rd H q u) (n1 : ¬ isDk u) (n2 : ∀ o w, u ≠ .frz o w) : Rd H' q u := by
  rcases h with h | ⟨o, h⟩
  · exact .inl (e.keep h n1 n2)
  · rcases e q _ h with h | ⟨o2, w, hw, ⟨z, _⟩ | ⟨h, h2⟩⟩
    · exact .inr ⟨o, h⟩
    · subst z
      exact False.elim hw
    · cases h
      exact absurd hw n1
theorem Sw.rd {H H' : Hp} (e : Sw H H') {q : Addr} {u : HO} (h : Rd H q u) (n1 : isDk u) : Rd H' q u := by
  have n2 : ∀ o w, u ≠ .frz o w := fun o w z => by
    subst z
    exact n1
  rcases h with h | ⟨o, h⟩
  · rcases e q _ h with h | ⟨o2, w, hw, ⟨rfl, h⟩ | ⟨h, _⟩⟩
    · exact .inl h
    · exact .inr ⟨o2, h⟩
    · exact absurd h (n2 _ _)
  · rcases e q _ h with h | ⟨o2, w, hw, ⟨z, _⟩ | ⟨h, h2⟩⟩
    · exact .inr ⟨o, h⟩
    · subst z
      exact False.elim hw
    · cases h
      exact .inl h2
theorem Sw.l {K : Fg} {H H' : Hp} (e : Sw H H') {a : Addr} {xs : List V} (h : SqL K H a xs) : SqL K H' a xs := by
  rcases h with h | h
  · exact .inl (e.rdl h (fun z => z) (fun _ _ z => nomatch z))
  · exact .inr h
theorem Sw.t {K : Fg} {H H' : Hp} (e : Sw H H') {a : Addr} {xs : List V} (h : SqT K H a xs) : SqT K H' a xs := by
  rcases h with h | h
  · exact .inl (e.rdl h (fun z => z) (fun _ _ z => nomatch z))
  · exact .inr h
/-- v stands for a, by what is known in H -/
class Rp (α : Type) where
  rep : Fg → Hp → V → α → Prop
  swap : ∀ {K : Fg} {H H' : Hp} {v : V} {a : α}, Sw H H' → rep K H v a → rep K H' v a
theorem Rp.mono {α : Type} [i : Rp α] {K : Fg} {H H' : Hp} {v : V} {a : α} (e : Ex H H') (h : Rp.rep K H v a) : Rp.rep K H' v a := i.swap (.of e) h
/-- the places of a tuple | the arguments of a call -/
class Tp (τ : Type) where
  n : Nat
  rept : Fg → Hp → List V → τ → Prop
  len : ∀ {K : Fg} {H : Hp} {vs : List V} {t : τ}, rept K H vs t → vs.length = n
  swap : ∀ {K : Fg} {H H' : Hp} {vs : List V} {t : τ}, Sw H H' → rept K H vs t → rept K H' vs t
theorem Tp.mono {τ : Type} [i : Tp τ] {K : Fg} {H H' : Hp} {vs : List V} {t : τ} (e : Ex H H') (h : Tp.rept K H vs t) : Tp.rept K H' vs t := i.swap (.of e) h
abbrev rep {α : Type} [Rp α] (K : Fg) (H : Hp) (v : V) (a : α) : Prop := Rp.rep K H v a
abbrev rept {τ : Type} [Tp τ] (K : Fg) (H : Hp) (vs : List V) (t : τ) : Prop := Tp.rept K H vs t
/-- what needs no heap -/
class Fl (α : Type) [Rp α] where
  toV : α → V
  iff : ∀ {K : Fg} {H : Hp} {v : V} {a : α}, Rp.rep K H v a ↔ v = toV a

inductive Nn where | nn
  deriving DecidableEq
instance rpInt : Rp Int := { rep := fun _ _ v a => v = .int a, swap := fun _ h => h }
instance : Fl Int := { toV := V.int, iff := Iff.rfl }
instance rpBool : Rp Bool := { rep := fun _ _ v a => v = .bl a, swap := fun _ h => h }
instance : Fl Bool := { toV := V.bl, iff := Iff.rfl }
instance rpStr : Rp Str := { rep := fun _ _ v a => v = .str a, swap := fun _ h => h }
instance : Fl Str := { toV := V.str, iff := Iff.rfl }
instance rpNn : Rp Nn := { rep := fun _ _ v _ => v = .non, swap := fun _ h => h }
instance : Fl Nn := { toV := fun _ => V.non, iff := Iff.rfl }
/-- None, or something -/
instance {α : Type} [Rp α] : Rp (Option α) where
  rep K H v a := match a with | none => v = .non | some x => v ≠ .non ∧ rep K H v x
  swap {K H H' v a} e h := match a, h with
    | none, h => h
    | some _, h => ⟨h.1, Rp.swap e h.2⟩

theorem paired_mono {α : Type} [Rp α] {K : Fg} {H H' : Hp} (e : Ex H H') {vs : List V} {xs : List α} (h : Paired (rep K H) vs xs) : Paired (rep K H') vs xs :=
  Paired.mapP h fun _ _ q => Rp.mono e q
theorem paired_swap {α : Type} [Rp α] {K : Fg} {H H' : Hp} (e : Sw H H') {vs : List V} {xs : List α} (h : Paired (rep K H) vs xs) : Paired (rep K H') vs xs :=
  Paired.mapP h fun _ _ q => Rp.swap e q
/-- a list that stands exactly so -/
instance {α : Type} [Rp α] : Rp (List α) where
  rep K H v xs := ∃ p vs, v = .ref p ∧ H p = some (.lst vs) ∧ Paired (rep K H) vs xs
  swap e h := by
    obtain ⟨p, vs, h1, h2, h3⟩ := h
    exact ⟨p, vs, h1, e.lst h2, paired_swap e h3⟩
/-- a list that is read (the script, a list of the top) -/
structure Fz (α : Type) where
  l : List α
instance {α : Type} [Rp α] : Rp (Fz α) where
  rep K H v xs := ∃ p vs, v = .ref p ∧ SqL K H p vs ∧ Paired (rep K H) vs xs.l
  swap e h := by
    obtain ⟨p, vs, h1, h2, h3⟩ := h
    exact ⟨p, vs, h1, e.l h2, paired_swap e h3⟩
/-- a tuple of the top -/
structure Kt (α : Type) where
  l : List α
instance {α : Type} [Rp α] : Rp (Kt α) where
  rep K H v xs := ∃ p vs, v = .ref p ∧ SqT K H p vs ∧ Paired (rep K H) vs xs.l
  swap e h := by
    obtain ⟨p, vs, h1, h2, h3⟩ := h
    exact ⟨p, vs, h1, e.t h2, paired_swap e h3⟩
/-- a tuple of alike things, of any length -/
structure Tu (α : Type) where
  l : List α
  deriving DecidableEq
instance {α : Type} [Rp α] : Rp (Tu α) where
  rep K H v xs := ∃ p vs, v = .ref p ∧ H p = some (.tup vs) ∧ Paired (rep K H) vs xs.l
  swap e h := by
    obtain ⟨p, vs, h1, h2, h3⟩ := h
    exact ⟨p, vs, h1, e.tup h2, paired_swap e h3⟩
instance : Tp Unit where
  n := 0
  rept _ _ vs _ := vs = []
  len h := by rw [h]; rfl
  swap _ h := h
instance {α τ : Type} [Rp α] [Tp τ] : Tp (α × τ) where
  n := Tp.n τ + 1
  rept K H vs t := ∃ v r, vs = v :: r ∧ rep K H v t.1 ∧ rept K H r t.2
  len h := by
    obtain ⟨v, r, h1, h2, h3⟩ := h
    rw [h1, List.length_cons, Tp.len h3]
  swap e h := by
    obtain ⟨v, r, h1, h2, h3⟩ := h
    exact ⟨v, r, h1, Rp.swap e h2, Tp.swap e h3⟩
/-- a tuple: (a, (b, (c, ()))) -/
instance {α τ : Type} [Rp α] [Tp τ] : Rp (α × τ) where
  rep K H v t := ∃ p vs, v = .ref p ∧ H p = some (.tup vs) ∧ rept K H vs t
  swap e h := by
    obtain ⟨p, vs, h1, h2, h3⟩ := h
    exact ⟨p, vs, h1, e.tup h2, Tp.swap e h3⟩

/-! ### the state -/
inductive Sl : Type 1 where
  | any
  | val (α : Type) (i : Rp α) (x : α)
  | at (p : Addr)
def sv {α : Type} [i : Rp α] (x : α) : Sl := .val α i x
def Sl.ok (K : Fg) (Kn : Hp) : Sl → Option V → Prop
  | .any, _ => True
  | .val _ i x, o => ∃ v, o = some v ∧ i.rep K Kn v x
  | .at p, o => o = some (.ref p)
def SlsOk (K : Fg) (Kn : Hp) : List Sl → St → Prop
  | [], [] => True
  | s :: ss, o :: os => s.ok K Kn o ∧ SlsOk K Kn ss os
  | _, _ => False
theorem Sl.ok_mono {K : Fg} {H H' : Hp} (e : Ex H H') : ∀ {s : Sl} {o : Option V}, s.ok K H o → s.ok K H' o
  | .any, _, _ => trivial
  | .val _ i _, _, ⟨v, h1, h2⟩ => ⟨v, h1, i.swap (.of e) h2⟩
  | .at _, _, h => h
theorem SlsOk.mono {K : Fg} {H H' : Hp} (e : Ex H H') : ∀ {ss : List Sl} {σ : St}, SlsOk K H ss σ → SlsOk K H' ss σ
  | [], [], _ => trivial
  | _ :: _, _ :: _, h => ⟨Sl.ok_mono e h.1, SlsOk.mono e h.2⟩
theorem Sl.ok_swap {K : Fg} {H H' : Hp} (e : Sw H H') : ∀ {s : Sl} {o : Option V}, s.ok K H o → s.ok K H' o
  | .any, _, _ => trivial
  | .val _ i _, _, ⟨v, h1, h2⟩ => ⟨v, h1, i.swap e h2⟩
  | .at _, _, h => h
theorem SlsOk.swap {K : Fg} {H H' : Hp} (e : Sw H H') : ∀ {ss : List Sl} {σ : St}, SlsOk K H ss σ → SlsOk K H' ss σ
  | [], [], _ => trivial
  | _ :: _, _ :: _, h => ⟨Sl.ok_swap e h.1, SlsOk.swap e h.2⟩
theorem SlsOk.get {K : Fg} {H : Hp} : ∀ {ss : List Sl} {σ : St} {i : Nat} {s : Sl}, SlsOk K H ss σ → ss[i]? = some s → ∃ o, σ[i]? = some o ∧ s.ok K H o
  | _ :: _, o :: _, 0, _, h, e => by
    cases Option.some.inj e
    exact ⟨o, rfl, h.1⟩
  | _ :: ss, _ :: os, i + 1, s, h, e => SlsOk.get (ss := ss) (σ := os) (i := i) h.2 e
theorem SlsOk.set {K : Fg} {H : Hp} {s : Sl} {o : Option V} (hs : s.ok K H o) : ∀ {ss : List Sl} {σ : St} (i : Nat), SlsOk K H ss σ → SlsOk K H (ss.set i s) (σ.set i o)
  | [], [], _, _ => trivial
  | _ :: _, _ :: _, 0, h => ⟨hs, h.2⟩
  | _ :: _, _ :: _, i + 1, h => ⟨h.1, SlsOk.set hs i h.2⟩
/-- less is known -/
inductive SlLe : List Sl → List Sl → Prop
  | nil : SlLe [] []
  | keep {s : Sl} {a b : List Sl} : SlLe a b → SlLe (s :: a) (s :: b)
  | drop {s : Sl} {a b : List Sl} : SlLe a b → SlLe (s :: a) (.any :: b)
theorem SlLe.refl : ∀ (a : List Sl), SlLe a a
  | [] => .nil
  | _ :: r => .keep (SlLe.refl r)
theorem SlsOk.le {K : Fg} {H : Hp} : ∀ {a b : List Sl} {σ : St}, SlLe a b → SlsOk K H a σ → SlsOk K H b σ
  | _, _, [], .nil, _ => trivial
  | _, _, _ :: _, .keep l, h => ⟨h.1, SlsOk.le l h.2⟩
  | _, _, _ :: _, .drop l, h => ⟨trivial, SlsOk.le l h.2⟩

/-- what an object stands for, by what is known in H -/
class Ob (γ : Type) where
  ob : Fg → Hp → HO → γ → Prop
  swap : ∀ {K : Fg} {H H' : Hp} {o : HO} {x : γ}, Sw H H' → ob K H o x → ob K H' o x
theorem Ob.mono {γ : Type} [i : Ob γ] {K : Fg} {H H' : Hp} {o : HO} {x : γ} (e : Ex H H') (h : Ob.ob K H o x) : Ob.ob K H' o x := i.swap (.of e) h
/-- an object of one's own, that may change -/
inductive Ow : Type 1 where
  | lst (p : Addr) (α : Type) (i : Rp α) (xs : List α)
  | obj (p : Addr) (γ : Type) (i : Ob γ) (x : γ)
def oo {γ : Type} [i : Ob γ] (p : Addr) (x : γ) : Ow := .obj p γ i x
def ol {α : Type} [i : Rp α] (p : Addr) (xs : List α) : Ow := .lst p α i xs
def Ow.ad : Ow → Addr
  | .lst p _ _ _ => p
  | .obj p _ _ _ => p
def Ow.ok (K : Fg) (Kn H : Hp) : Ow → Prop
  | .lst p _ i xs => ∃ vs, H p = some (.lst vs) ∧ Paired (i.rep K Kn) vs xs
  | .obj p _ i x => ∃ o, H p = some o ∧ i.ob K Kn o x
theorem Ow.ok_swap {K : Fg} {Kn Kn' H H' : Hp} (e : Sw Kn Kn') : ∀ {o : Ow}, H' o.ad = H o.ad → o.ok K Kn H → o.ok K Kn' H'
  | .lst _ _ i _, eh, ⟨vs, h1, h2⟩ => ⟨vs, eh.trans h1, Paired.mapP h2 fun _ _ q => i.swap e q⟩
  | .obj _ _ i _, eh, ⟨o, h1, h2⟩ => ⟨o, eh.trans h1, i.swap e h2⟩
theorem Ow.ok_mono {K : Fg} {Kn Kn' H H' : Hp} (e : Ex Kn Kn') {o : Ow} (eh : H' o.ad = H o.ad) (h : o.ok K Kn H) : o.ok K Kn' H' := Ow.ok_swap (.of e) eh h
theorem ne_none_of {H : Hp} {p : Addr} {o : HO} (h : H p = some o) : H p ≠ none := fun z => by
  rw [h] at z
  cases z
theorem Ow.there {K : Fg} {Kn H : Hp} : ∀ {o : Ow}, o.ok K Kn H → H o.ad ≠ none
  | .lst p _ _ _, h => by
    obtain ⟨vs, h, _⟩ := h
    exact ne_none_of (show H p = some (.lst vs) from h)
  | .obj p _ _ _, h => by
    obtain ⟨o, h, _⟩ := h
    exact ne_none_of (show H p = some o from h)
structure OwsOk (K : Fg) (F Kn H : Hp) (ow : List Ow) : Prop where
  each : ∀ o ∈ ow, F o.ad = none ∧ Kn o.ad = none ∧ o.ok K Kn H
  nd : (ow.map Ow.ad).Nodup

/-- the state: F stands untouched, Kn is known (by and by more), the slots, the objects of one's own -/
structure S (K : Fg) (F Kn0 : Hp) (sl : List Sl) (ow : List Ow) (σ : St) (Kn H : Hp) : Prop where
  e0 : Ex Kn0 Kn
  ek : Ex Kn H
  ef : Ex F H
  sep : ∀ p, F p ≠ none → Kn0 p = none → Kn p = none
  sl : SlsOk K Kn sl σ
  ow : OwsOk K F Kn H ow

/-- growth: nothing that stood is touched, nothing that stood unknown is known -/
structure Gr (Kn H Kn' H' : Hp) : Prop where
  kk : Ex Kn Kn'
  hh : Ex H H'
  kh : Ex Kn' H'
  sp : ∀ p, H p ≠ none → Kn p = none → Kn' p = none
theorem Gr.refl {Kn H : Hp} (e : Ex Kn H) : Gr Kn H Kn H := ⟨Ex.refl _, Ex.refl _, e, fun _ _ h => h⟩
theorem Ex.nn {H H' : Hp} (e : Ex H H') {p : Addr} (h : H p ≠ none) : H' p ≠ none := by
  cases q : H p with
  | none => exact absurd q h
  | some o => exact ne_none_of (e _ _ q)
theorem Ex.at_eq {H H' : Hp} (e : Ex H H') {p : Addr} (h : H p ≠ none) : H' p = H p := by
  cases q : H p with
  | none => exact absurd q h
  | some o => exact e _ _ q
theorem Gr.trans {Kn H Kn1 H1 Kn2 H2 : Hp} (a : Gr Kn H Kn1 H1) (b : Gr Kn1 H1 Kn2 H2) : Gr Kn H Kn2 H2 :=
  ⟨a.kk.trans b.kk, a.hh.trans b.hh, b.kh, fun p h1 h2 => b.sp p (Ex.nn a.hh h1) (a.sp p h1 h2)⟩
/-- a new object, known -/
theorem Gr.new {Kn H : Hp} {p : Addr} {o : HO} (e : Ex Kn H) (hp : H p = none) : Gr Kn H (upd Kn p o) (upd H p o) := by
  have kp : Kn p = none := fresh_back e hp
  refine ⟨Ex.new kp, Ex.new hp, fun a u h => ?_, fun q h1 h2 => ?_⟩
  · by_cases hq : a = p
    · subst hq
      rw [upd_same] at h ⊢
      exact h
    · rw [upd_ne hq] at h ⊢
      exact e _ _ h
  · have hq : q ≠ p := fun z => by
      subst z
      exact h1 hp
    rw [upd_ne hq]
    exact h2
/-- a new object, not known yet -/
theorem Gr.newU {Kn H : Hp} {p : Addr} {o : HO} (e : Ex Kn H) (hp : H p = none) : Gr Kn H Kn (upd H p o) :=
  ⟨Ex.refl _, Ex.new hp, e.trans (Ex.new hp), fun _ _ h2 => h2⟩
/-- what was new is known from now on -/
theorem Gr.know {Kn H Kn' H' : Hp} {p : Addr} {o : HO} (g : Gr Kn H Kn' H') (hp : H p = none) (kp : Kn' p = none) (hp' : H' p = some o) : Gr Kn H (upd Kn' p o) H' :=
  ⟨g.kk.trans (Ex.new kp), g.hh, fun a u h => by
    by_cases hq : a = p
    · subst hq
      rw [upd_same] at h
      rw [← h]
      exact hp'
    · rw [upd_ne hq] at h
      exact g.kh _ _ h, fun q h1 h2 => by
    have hq : q ≠ p := fun z => by
      subst z
      exact h1 hp
    rw [upd_ne hq]
    exact g.sp q h1 h2⟩

section
variable {K : Fg} {F Kn0 : Hp} {sl sl' : List Sl} {ow ow' : List Ow} {σ : St} {Kn H Kn' H' : Hp}
theorem S.grow (s : S K F Kn0 sl ow σ Kn H) (g : Gr Kn H Kn' H') : S K F Kn0 sl ow σ Kn' H' :=
  ⟨s.e0.trans g.kk, g.kh, s.ef.trans g.hh, fun p h1 h2 => g.sp p (Ex.nn s.ef h1) (s.sep p h1 h2), s.sl.mono g.kk,
    ⟨fun o ho => by
      obtain ⟨h1, h2, h3⟩ := s.ow.each o ho
      have h4 := Ow.there h3
      exact ⟨h1, g.sp _ h4 h2, Ow.ok_mono g.kk (Ex.at_eq g.hh h4) h3⟩, s.ow.nd⟩⟩
theorem S.le (s : S K F Kn0 sl ow σ Kn H) (l : SlLe sl sl') : S K F Kn0 sl' ow σ Kn H := ⟨s.e0, s.ek, s.ef, s.sep, s.sl.le l, s.ow⟩
theorem S.set (s : S K F Kn0 sl ow σ Kn H) {x : Sl} {o : Option V} (i : Nat) (h : x.ok K Kn o) : S K F Kn0 (sl.set i x) ow (σ.set i o) Kn H :=
  ⟨s.e0, s.ek, s.ef, s.sep, SlsOk.set h i s.sl, s.ow⟩
theorem S.setv (s : S K F Kn0 sl ow σ Kn H) {α : Type} [Rp α] {x : α} {v : V} (i : Nat) (h : rep K Kn v x) : S K F Kn0 (sl.set i (sv x)) ow (σ.set i (some v)) Kn H :=
  s.set i ⟨v, rfl, h⟩
/-- some objects are not named any more -/
theorem S.sub (s : S K F Kn0 sl ow σ Kn H) (l : ow'.Sublist ow) : S K F Kn0 sl ow' σ Kn H :=
  ⟨s.e0, s.ek, s.ef, s.sep, s.sl, ⟨fun o ho => s.ow.each o (l.subset ho), s.ow.nd.sublist (l.map _)⟩⟩
theorem S.fin (s : S K F Kn0 sl ow σ Kn H) : S K F Kn0 [] ow [] Kn H := ⟨s.e0, s.ek, s.ef, s.sep, trivial, s.ow⟩
end

/-! ### the judgements -/
section
variable (K : Fg) (F Kn0 : Hp) (sl : List Sl) (ow : List Ow)
def EV {α : Type} [Rp α] (te : TE) (x : α) : Prop := ∀ σ Kn H, S K F Kn0 sl ow σ Kn H → ∀ Q : VK, (∀ v Kn' H', Gr Kn H Kn' H' → rep K Kn' v x → Q v H') → te σ H Q
/-- a new list -/
def EN {α : Type} [Rp α] (te : TE) (xs : List α) : Prop := ∀ σ Kn H, S K F Kn0 sl ow σ Kn H → ∀ Q : VK,
  (∀ p ws Kn' H', Gr Kn H Kn' H' → H p = none → Kn' p = none → H' p = some (.lst ws) → Paired (rep K Kn') ws xs → Q (.ref p) H') → te σ H Q
/-- what is changed on the way is told: ow, then ow' -/
def EM {α : Type} [Rp α] (te : TE) (ow' : List Ow) (x : α) : Prop := ∀ σ Kn H, S K F Kn0 sl ow σ Kn H → ∀ Q : VK,
  (∀ v Kn' H', Ex Kn Kn' → S K F Kn0 sl ow' σ Kn' H' → rep K Kn' v x → Q v H') → te σ H Q
def ENM {α : Type} [Rp α] (te : TE) (ow' : List Ow) (xs : List α) : Prop := ∀ σ Kn H, S K F Kn0 sl ow σ Kn H → ∀ Q : VK,
  (∀ p ws Kn' H', Ex Kn Kn' → S K F Kn0 sl ow' σ Kn' H' → F p = none → Kn' p = none → (∀ o ∈ ow', o.ad ≠ p) → H' p = some (.lst ws) → Paired (rep K Kn') ws xs → Q (.ref p) H') → te σ H Q
def ET (tt : TT) (b : Bool) : Prop := ∀ σ Kn H, S K F Kn0 sl ow σ Kn H → ∀ Q : Bool → Hp → Prop, (∀ Kn' H', Gr Kn H Kn' H' → Q b H') → tt σ H Q
def EA {τ : Type} [Tp τ] (ta : TA) (t : τ) : Prop := ∀ σ Kn H, S K F Kn0 sl ow σ Kn H → ∀ Q : List V → Hp → Prop, (∀ vs Kn' H', Gr Kn H Kn' H' → rept K Kn' vs t → Q vs H') → ta σ H Q
def EAM {τ : Type} [Tp τ] (ta : TA) (ow' : List Ow) (t : τ) : Prop := ∀ σ Kn H, S K F Kn0 sl ow σ Kn H → ∀ Q : List V → Hp → Prop,
  (∀ vs Kn' H', Ex Kn Kn' → S K F Kn0 sl ow' σ Kn' H' → rept K Kn' vs t → Q vs H') → ta σ H Q
def SB (D : Ends) (ts : TS) : Prop := ∀ σ Kn H, S K F Kn0 sl ow σ Kn H → ts D σ H
/-- what is wanted of a return -/
def RT (R : VK) {α : Type} [Rp α] (x : α) : Prop := ∀ v Kn H, S K F Kn0 [] ow [] Kn H → rep K Kn v x → R v H
def RN (R : VK) {α : Type} [Rp α] (xs : List α) : Prop := ∀ p ws Kn H, S K F Kn0 [] ow [] Kn H → F p = none → Kn p = none → H p = some (.lst ws) → Paired (rep K Kn) ws xs → R (.ref p) H
end

section
variable {K : Fg} {F Kn0 : Hp} {sl sl' : List Sl} {ow ow1 ow2 : List Ow} {α β γ : Type} [Rp α] [Rp β] [Rp γ] {ta tb te : TE} {x : α} {y : β} {z : γ}
theorem EN.ev {xs : List α} (h : EN K F Kn0 sl ow te xs) : EV K F Kn0 sl ow te xs := fun σ Kn H s Q q => h σ Kn H s Q fun p ws Kn' H' g hp kp hw r =>
  q _ (upd Kn' p (.lst ws)) H' (g.know hp kp hw) ⟨p, ws, rfl, upd_same, paired_mono (Ex.new kp) r⟩
theorem EV.em (h : EV K F Kn0 sl ow te x) : EM K F Kn0 sl ow te ow x := fun σ Kn H s Q q => h σ Kn H s Q fun v Kn' H' g r => q v Kn' H' g.kk (s.grow g) r
theorem owned_ne {σ : St} {Kn H : Hp} (s : S K F Kn0 sl ow σ Kn H) {p : Addr} (hp : H p = none) : ∀ o ∈ ow, o.ad ≠ p := fun o ho z => by
  have := Ow.there (s.ow.each o ho).2.2
  rw [z] at this
  exact this hp
theorem EN.em {xs : List α} (h : EN K F Kn0 sl ow te xs) : ENM K F Kn0 sl ow te ow xs := fun σ Kn H s Q q => h σ Kn H s Q fun p ws Kn' H' g hp kp hw r =>
  q p ws Kn' H' g.kk (s.grow g) (fresh_back s.ef hp) kp (owned_ne s hp) hw r
theorem S.know {σ : St} {Kn H : Hp} (s : S K F Kn0 sl ow σ Kn H) {p : Addr} {o : HO} (fp : F p = none) (kp : Kn p = none) (no : ∀ o ∈ ow, o.ad ≠ p) (hp : H p = some o) : S K F Kn0 sl ow σ (upd Kn p o) H :=
  ⟨s.e0.trans (Ex.new kp), fun a u h => by
    by_cases hq : a = p
    · subst hq
      rw [upd_same] at h
      rw [← h]
      exact hp
    · rw [upd_ne hq] at h
      exact s.ek _ _ h, s.ef, fun q h1 h2 => by
    have hq : q ≠ p := fun z => by
      subst z
      exact h1 fp
    rw [upd_ne hq]
    exact s.sep q h1 h2, s.sl.mono (Ex.new kp), ⟨fun o ho => by
      obtain ⟨h1, h2, h3⟩ := s.ow.each o ho
      exact ⟨h1, by rw [upd_ne (no o ho)]; exact h2, Ow.ok_mono (Ex.new kp) rfl h3⟩, s.ow.nd⟩⟩
theorem ENM.em {xs : List α} (h : ENM K F Kn0 sl ow te ow1 xs) : EM K F Kn0 sl ow te ow1 xs := fun σ Kn H s Q q => h σ Kn H s Q fun p ws Kn' H' e s' fp kp no hw r =>
  q _ (upd Kn' p (.lst ws)) H' (e.trans (Ex.new kp)) (s'.know fp kp no hw) ⟨p, ws, rfl, upd_same, paired_mono (Ex.new kp) r⟩
theorem EV.cast {x' : α} (h : EV K F Kn0 sl ow te x) (e : x = x') : EV K F Kn0 sl ow te x' := e ▸ h
theorem ET.cast {tt : TT} {b b' : Bool} (h : ET K F Kn0 sl ow tt b) (e : b = b') : ET K F Kn0 sl ow tt b' := e ▸ h
end
end Wk
/-! Wk2: rules for expressions -/
namespace Wk
open PySem PySem.Spec L2 Evl
section
variable {K : Fg} {F Kn0 : Hp} {sl sl' : List Sl} {ow ow1 ow2 : List Ow} {α β γ τ : Type} [Rp α] [Rp β] [Rp γ] [Tp τ] {ta tb te : TE} {x : α} {y : β} {z : γ}

theorem paired_fl {α : Type} [Rp α] [Fl α] {H : Hp} : ∀ {vs : List V} {xs : List α}, Paired (rep K H) vs xs → vs = xs.map Fl.toV
  | _, _, .nil => rfl
  | _, _, .cons h t => by rw [List.map_cons, ← paired_fl t, Fl.iff.mp h]
theorem fl_paired {α : Type} [Rp α] [Fl α] {H : Hp} : ∀ (xs : List α), Paired (rep K H) (xs.map Fl.toV) xs
  | [] => .nil
  | _ :: t => .cons (Fl.iff.mpr rfl) (fl_paired t)
theorem paired_len {H : Hp} {vs : List V} {xs : List α} (h : Paired (rep K H) vs xs) : vs.length = xs.length := Paired.length h
theorem paired_at {F : V → α → Prop} : ∀ {vs : List V} {xs : List α}, Paired F vs xs → ∀ {j : Nat} {a : α}, xs[j]? = some a → ∃ v, vs[j]? = some v ∧ F v a
  | _, _, .nil, _, _, e => by simp at e
  | _, _, .cons r _, 0, _, e => by
    simp at e
    subst e
    exact ⟨_, rfl, r⟩
  | _, _, .cons _ t, j + 1, a, e => by
    obtain ⟨v, h1, h2⟩ := paired_at t (j := j) (a := a) (by simpa using e)
    exact ⟨v, by simpa using h1, h2⟩
theorem paired_append {F : V → α → Prop} : ∀ {vs ws : List V} {xs ys : List α}, Paired F vs xs → Paired F ws ys → Paired F (vs ++ ws) (xs ++ ys)
  | _, _, _, _, .nil, h => h
  | _, _, _, _, .cons r t, h => .cons r (paired_append t h)
theorem paired_drop {F : V → α → Prop} : ∀ {vs : List V} {xs : List α} (n : Nat), Paired F vs xs → Paired F (vs.drop n) (xs.drop n)
  | _, _, 0, h => h
  | _, _, _ + 1, .nil => .nil
  | _, _, n + 1, .cons _ t => paired_drop n t
theorem paired_take {F : V → α → Prop} : ∀ {vs : List V} {xs : List α} (n : Nat), Paired F vs xs → Paired F (vs.take n) (xs.take n)
  | _, _, 0, _ => .nil
  | _, _, _ + 1, .nil => .nil
  | _, _, n + 1, .cons r t => .cons r (paired_take n t)
theorem paired_set {F : V → α → Prop} {v : V} {a : α} (h : F v a) : ∀ {vs : List V} {xs : List α} (n : Nat), Paired F vs xs → Paired F (vs.set n v) (xs.set n a)
  | _, _, _, .nil => .nil
  | _, _, 0, .cons _ t => .cons h t
  | _, _, n + 1, .cons r t => .cons r (paired_set h n t)
theorem paired_atI {H : Hp} {vs : List V} {xs : List α} (h : Paired (rep K H) vs xs) {i : Int} {a : α} (e : atI xs i = some a) : ∃ v, atI vs i = some v ∧ rep K H v a := by
  unfold atI at e ⊢
  rw [paired_len h]
  cases q : ixN xs.length i with
  | none => rw [q] at e; cases e
  | some j =>
    rw [q] at e
    exact paired_at h e

/-! ### results of rules by values -/
def RS (K : Fg) (Kn H : Hp) (Q : VK) (z : γ) : Prop := ∀ u Kn' H', Gr Kn H Kn' H' → rep K Kn' u z → Q u H'
def RL (K : Fg) (Kn H : Hp) (Q : VK) (zs : List γ) : Prop := ∀ p ws Kn' H', Gr Kn H Kn' H' → H p = none → Kn' p = none → H' p = some (.lst ws) → Paired (rep K Kn') ws zs → Q (.ref p) H'
theorem RS.rl {Kn H : Hp} {Q : VK} {zs : List γ} (h : RS K Kn H Q zs) : RL K Kn H Q zs := fun p ws Kn' H' g hp kp hw r =>
  h _ (upd Kn' p (.lst ws)) H' (g.know hp kp hw) ⟨p, ws, rfl, upd_same, paired_mono (Ex.new kp) r⟩
theorem RS.fl {γ : Type} [Rp γ] [Fl γ] {z : γ} {Kn H : Hp} {Q : VK} (h : RS K Kn H Q z) (e : Ex Kn H) : Q (Fl.toV z) H := h _ Kn H (Gr.refl e) (Fl.iff.mpr rfl)
theorem RS.at {Kn H : Hp} {Q : VK} {z : γ} (h : RS K Kn H Q z) (e : Ex Kn H) {v : V} (r : rep K Kn v z) : Q v H := h _ Kn H (Gr.refl e) r

def R1V (r : V → Hp → VK → Prop) (x : α) (z : γ) : Prop := ∀ (K : Fg) Kn H v, Ex Kn H → rep K Kn v x → ∀ Q, RS K Kn H Q z → r v H Q
def R2V (K : Fg) (r : R2) (x : α) (y : β) (z : γ) : Prop := ∀ Kn H v w, Ex Kn H → rep K Kn v x → rep K Kn w y → ∀ Q, RS K Kn H Q z → r v w H Q
def R2L (K : Fg) (r : R2) (x : α) (y : β) (zs : List γ) : Prop := ∀ Kn H v w, Ex Kn H → rep K Kn v x → rep K Kn w y → ∀ Q, RL K Kn H Q zs → r v w H Q
def RCV (K : Fg) (r : List V → Hp → VK → Prop) (t : τ) (z : γ) : Prop := ∀ Kn H vs, Ex Kn H → rept K Kn vs t → ∀ Q, RS K Kn H Q z → r vs H Q
def RCL (K : Fg) (r : List V → Hp → VK → Prop) (t : τ) (zs : List γ) : Prop := ∀ Kn H vs, Ex Kn H → rept K Kn vs t → ∀ Q, RL K Kn H Q zs → r vs H Q

/-! ### names, constants, operators -/
theorem ev_var {i : Nat} (h : sl[i]? = some (sv x)) : EV K F Kn0 sl ow (tVar i) x := fun σ Kn H s Q q => by
  obtain ⟨o, h1, v, h2, h3⟩ := s.sl.get h
  exact ⟨v, by rw [h1, h2], q v Kn H (Gr.refl s.ek) h3⟩
theorem ev_c {γ : Type} [Rp γ] [Fl γ] (z : γ) {v : V} (e : v = Fl.toV z := by rfl) : EV K F Kn0 sl ow (tC v) z := fun σ Kn H s Q q => q v Kn H (Gr.refl s.ek) (Fl.iff.mpr e)
theorem ev_none : EV K F Kn0 sl ow (tC .non) (none : Option α) := fun σ Kn H s Q q => q .non Kn H (Gr.refl s.ek) rfl
theorem ev_un {r : V → Hp → VK → Prop} (ha : EV K F Kn0 sl ow ta x) (hr : R1V r x z) : EV K F Kn0 sl ow (tUn r ta) z := fun σ Kn H s Q q =>
  ha σ Kn H s _ fun v Kn1 H1 g1 r1 => hr K Kn1 H1 v g1.kh r1 Q fun u Kn' H' g' r' => q u Kn' H' (g1.trans g') r'
theorem ev_op {r : R2} (ha : EV K F Kn0 sl ow ta x) (hb : EV K F Kn0 sl ow tb y) (hr : R2V K r x y z) : EV K F Kn0 sl ow (tOp r ta tb) z := fun σ Kn H s Q q =>
  ha σ Kn H s _ fun v Kn1 H1 g1 r1 => hb σ Kn1 H1 (s.grow g1) _ fun w Kn2 H2 g2 r2 => hr Kn2 H2 v w g2.kh (Rp.mono g2.kk r1) r2 Q fun u Kn' H' g' r' => q u Kn' H' ((g1.trans g2).trans g') r'
theorem en_op {r : R2} {zs : List γ} (ha : EV K F Kn0 sl ow ta x) (hb : EV K F Kn0 sl ow tb y) (hr : R2L K r x y zs) : EN K F Kn0 sl ow (tOp r ta tb) zs := fun σ Kn H s Q q =>
  ha σ Kn H s _ fun v Kn1 H1 g1 r1 => hb σ Kn1 H1 (s.grow g1) _ fun w Kn2 H2 g2 r2 => hr Kn2 H2 v w g2.kh (Rp.mono g2.kk r1) r2 Q fun p ws Kn' H' g' hp kp hw r' =>
    q p ws Kn' H' ((g1.trans g2).trans g') (fresh_back (g1.trans g2).hh hp) kp hw r'
theorem em_op {r : R2} (ha : EM K F Kn0 sl ow ta ow1 x) (hb : EM K F Kn0 sl ow1 tb ow2 y) (hr : R2V K r x y z) : EM K F Kn0 sl ow (tOp r ta tb) ow2 z := fun σ Kn H s Q q =>
  ha σ Kn H s _ fun v Kn1 H1 e1 s1 r1 => hb σ Kn1 H1 s1 _ fun w Kn2 H2 e2 s2 r2 => hr Kn2 H2 v w s2.ek (Rp.mono e2 r1) r2 Q fun u Kn' H' g' r' => q u Kn' H' ((e1.trans e2).trans g'.kk) (s2.grow g') r'
theorem r2_I0 {γ : Type} [Rp γ] [Fl γ] {z : γ} {g : Int → Int → V} {i j : Int} (e : g i j = Fl.toV z := by rfl) : R2V K (rI0 g) i j z := fun Kn H v w ek h1 h2 Q q => ⟨i, j, h1, h2, e ▸ q.fl ek⟩
theorem r2_I {γ : Type} [Rp γ] [Fl γ] {z : γ} {C : Int → Int → Prop} {g : Int → Int → V} {i j : Int} (c : C i j) (e : g i j = Fl.toV z := by rfl) : R2V K (rI C g) i j z := fun Kn H v w ek h1 h2 Q q => ⟨i, j, h1, h2, c, e ▸ q.fl ek⟩
theorem r1_neg {i : Int} : R1V (rU fun i => .int (-i)) i (-i) := fun K Kn H v ek h1 Q q => ⟨i, h1, q.fl ek⟩
theorem r2_eqI {i j : Int} : R2V K rEq i j (decide (i = j)) := fun Kn H v w ek h1 h2 Q q => by
  cases h1
  cases h2
  refine ⟨rfl, ?_⟩
  have e : decide (V.int i = V.int j) = decide (i = j) := by simp
  rw [e]
  exact q.fl ek
theorem r2_neI {i j : Int} : R2V K rNe i j (!decide (i = j)) := fun Kn H v w ek h1 h2 Q q => by
  cases h1
  cases h2
  refine ⟨rfl, ?_⟩
  have e : decide (V.int i = V.int j) = decide (i = j) := by simp
  rw [e]
  exact q.fl ek
theorem r2_eqS {i j : Str} : R2V K rEq i j (decide (i = j)) := fun Kn H v w ek h1 h2 Q q => by
  cases h1
  cases h2
  refine ⟨rfl, ?_⟩
  have e : decide (V.str i = V.str j) = decide (i = j) := by simp
  rw [e]
  exact q.fl ek
theorem r2_neS {i j : Str} : R2V K rNe i j (!decide (i = j)) := fun Kn H v w ek h1 h2 Q q => by
  cases h1
  cases h2
  refine ⟨rfl, ?_⟩
  have e : decide (V.str i = V.str j) = decide (i = j) := by simp
  rw [e]
  exact q.fl ek
theorem r2_eqB {i j : Bool} : R2V K rEq i j (decide (i = j)) := fun Kn H v w ek h1 h2 Q q => by
  cases h1
  cases h2
  refine ⟨rfl, ?_⟩
  have e : decide (V.bl i = V.bl j) = decide (i = j) := by simp
  rw [e]
  exact q.fl ek

/-! ### arguments, tuples, lists -/
theorem ea_nil : EA K F Kn0 sl ow tNil () := fun σ Kn H s Q q => q [] Kn H (Gr.refl s.ek) rfl
theorem ea_cons {tr : TA} {t : τ} (h : EV K F Kn0 sl ow ta x) (hr : EA K F Kn0 sl ow tr t) : EA K F Kn0 sl ow (tCons ta tr) (x, t) := fun σ Kn H s Q q =>
  h σ Kn H s _ fun v Kn1 H1 g1 r1 => hr σ Kn1 H1 (s.grow g1) _ fun vs Kn2 H2 g2 r2 => q _ Kn2 H2 (g1.trans g2) ⟨v, vs, rfl, Rp.mono g2.kk r1, r2⟩
theorem eam_nil : EAM K F Kn0 sl ow tNil ow () := fun σ Kn H s Q q => q [] Kn H (Ex.refl _) s rfl
theorem eam_cons {tr : TA} {t : τ} (h : EM K F Kn0 sl ow ta ow1 x) (hr : EAM K F Kn0 sl ow1 tr ow2 t) : EAM K F Kn0 sl ow (tCons ta tr) ow2 (x, t) := fun σ Kn H s Q q =>
  h σ Kn H s _ fun v Kn1 H1 e1 s1 r1 => hr σ Kn1 H1 s1 _ fun vs Kn2 H2 e2 s2 r2 => q _ Kn2 H2 (e1.trans e2) s2 ⟨v, vs, rfl, Rp.mono e2 r1, r2⟩
theorem EA.eam {ta : TA} {t : τ} (h : EA K F Kn0 sl ow ta t) : EAM K F Kn0 sl ow ta ow t := fun σ Kn H s Q q => h σ Kn H s Q fun vs Kn' H' g r => q vs Kn' H' g.kk (s.grow g) r
/-- alike things -/
def EL {α : Type} [Rp α] (K : Fg) (F Kn0 : Hp) (sl : List Sl) (ow : List Ow) (ta : TA) (xs : List α) : Prop := ∀ σ Kn H, S K F Kn0 sl ow σ Kn H → ∀ Q : List V → Hp → Prop, (∀ vs Kn' H', Gr Kn H Kn' H' → Paired (rep K Kn') vs xs → Q vs H') → ta σ H Q
def ELM {α : Type} [Rp α] (K : Fg) (F Kn0 : Hp) (sl : List Sl) (ow : List Ow) (ta : TA) (ow' : List Ow) (xs : List α) : Prop := ∀ σ Kn H, S K F Kn0 sl ow σ Kn H → ∀ Q : List V → Hp → Prop, (∀ vs Kn' H', Ex Kn Kn' → S K F Kn0 sl ow' σ Kn' H' → Paired (rep K Kn') vs xs → Q vs H') → ta σ H Q
theorem el_nil : EL K F Kn0 sl ow tNil ([] : List α) := fun σ Kn H s Q q => q [] Kn H (Gr.refl s.ek) .nil
theorem el_cons {tr : TA} {xs : List α} (h : EV K F Kn0 sl ow ta x) (hr : EL K F Kn0 sl ow tr xs) : EL K F Kn0 sl ow (tCons ta tr) (x :: xs) := fun σ Kn H s Q q =>
  h σ Kn H s _ fun v Kn1 H1 g1 r1 => hr σ Kn1 H1 (s.grow g1) _ fun vs Kn2 H2 g2 r2 => q _ Kn2 H2 (g1.trans g2) (.cons (Rp.mono g2.kk r1) r2)
theorem elm_nil : ELM K F Kn0 sl ow tNil ow ([] : List α) := fun σ Kn H s Q q => q [] Kn H (Ex.refl _) s .nil
theorem elm_cons {tr : TA} {xs : List α} (h : EM K F Kn0 sl ow ta ow1 x) (hr : ELM K F Kn0 sl ow1 tr ow2 xs) : ELM K F Kn0 sl ow (tCons ta tr) ow2 (x :: xs) := fun σ Kn H s Q q =>
  h σ Kn H s _ fun v Kn1 H1 e1 s1 r1 => hr σ Kn1 H1 s1 _ fun vs Kn2 H2 e2 s2 r2 => q _ Kn2 H2 (e1.trans e2) s2 (.cons (Rp.mono e2 r1) r2)
theorem le_line {n : Nat} (h : n ≤ 1000000) : n ≤ sizeLine := Nat.le_trans h (by decide)
theorem lt_line {n : Nat} (h : n < 1000000) : n < sizeLine := Nat.lt_of_lt_of_le h (by decide)
theorem en_lst {ta : TA} {xs : List α} (h : EL K F Kn0 sl ow ta xs) (hz : xs.length ≤ 1000000 := by exact Nat.le_of_ble_eq_true rfl) : EN K F Kn0 sl ow (tLst ta) xs := fun σ Kn H s Q q =>
  h σ Kn H s _ fun vs Kn1 H1 g1 r1 => ⟨by rw [paired_len r1]; exact le_line hz, fun p hp => q p vs Kn1 _ (g1.trans (Gr.newU g1.kh hp)) (fresh_back g1.hh hp) (fresh_back g1.kh hp) upd_same r1⟩
theorem enm_lst {ta : TA} {xs : List α} (h : ELM K F Kn0 sl ow ta ow1 xs) (hz : xs.length ≤ 1000000 := by exact Nat.le_of_ble_eq_true rfl) : ENM K F Kn0 sl ow (tLst ta) ow1 xs := fun σ Kn H s Q q =>
  h σ Kn H s _ fun vs Kn1 H1 e1 s1 r1 => ⟨by rw [paired_len r1]; exact le_line hz, fun p hp =>
    q p vs Kn1 _ e1 (s1.grow (Gr.newU s1.ek hp)) (fresh_back s1.ef hp) (fresh_back s1.ek hp) (owned_ne s1 hp) upd_same r1⟩
theorem ev_tup {ta : TA} {t : α × τ} (h : EA K F Kn0 sl ow ta t) (hz : Tp.n (α × τ) ≤ 1000000 := by decide) : EV K F Kn0 sl ow (tTup ta) t := fun σ Kn H s Q q =>
  h σ Kn H s _ fun vs Kn1 H1 g1 r1 => ⟨by rw [Tp.len r1]; exact le_line hz, fun p hp =>
    q _ (upd Kn1 p (.tup vs)) _ (g1.trans (Gr.new g1.kh hp)) ⟨p, vs, rfl, upd_same, Tp.mono (Gr.new g1.kh hp).kk r1⟩⟩
theorem em_tup {ta : TA} {t : α × τ} (h : EAM K F Kn0 sl ow ta ow1 t) (hz : Tp.n (α × τ) ≤ 1000000 := by decide) : EM K F Kn0 sl ow (tTup ta) ow1 t := fun σ Kn H s Q q =>
  h σ Kn H s _ fun vs Kn1 H1 e1 s1 r1 => ⟨by rw [Tp.len r1]; exact le_line hz, fun p hp =>
    q _ (upd Kn1 p (.tup vs)) _ (e1.trans (Gr.new s1.ek hp).kk) (s1.grow (Gr.new s1.ek hp)) ⟨p, vs, rfl, upd_same, Tp.mono (Gr.new s1.ek hp).kk r1⟩⟩
theorem ev_tuH {ta : TA} {xs : List α} (h : EL K F Kn0 sl ow ta xs) (hz : xs.length ≤ 1000000 := by exact Nat.le_of_ble_eq_true rfl) : EV K F Kn0 sl ow (tTup ta) (Tu.mk xs) := fun σ Kn H s Q q =>
  h σ Kn H s _ fun vs Kn1 H1 g1 r1 => ⟨by rw [paired_len r1]; exact le_line hz, fun p hp =>
    q _ (upd Kn1 p (.tup vs)) _ (g1.trans (Gr.new g1.kh hp)) ⟨p, vs, rfl, upd_same, paired_mono (Gr.new g1.kh hp).kk r1⟩⟩

/-! ### built-ins, defs -/
theorem ev_cb {r : List V → Hp → VK → Prop} {ta : TA} {t : τ} (h : EA K F Kn0 sl ow ta t) (hr : RCV K r t z) : EV K F Kn0 sl ow (tCB r ta) z := fun σ Kn H s Q q =>
  h σ Kn H s _ fun vs Kn1 H1 g1 r1 => hr Kn1 H1 vs g1.kh r1 Q fun u Kn' H' g' r' => q u Kn' H' (g1.trans g') r'
theorem en_cb {r : List V → Hp → VK → Prop} {ta : TA} {t : τ} {zs : List γ} (h : EA K F Kn0 sl ow ta t) (hr : RCL K r t zs) : EN K F Kn0 sl ow (tCB r ta) zs := fun σ Kn H s Q q =>
  h σ Kn H s _ fun vs Kn1 H1 g1 r1 => hr Kn1 H1 vs g1.kh r1 Q fun p ws Kn' H' g' hp kp hw r' => q p ws Kn' H' (g1.trans g') (fresh_back g1.hh hp) kp hw r'
theorem em_cb {r : List V → Hp → VK → Prop} {ta : TA} {t : τ} (h : EAM K F Kn0 sl ow ta ow1 t) (hr : RCV K r t z) : EM K F Kn0 sl ow (tCB r ta) ow1 z := fun σ Kn H s Q q =>
  h σ Kn H s _ fun vs Kn1 H1 e1 s1 r1 => hr Kn1 H1 vs s1.ek r1 Q fun u Kn' H' g' r' => q u Kn' H' (e1.trans g'.kk) (s1.grow g') r'
theorem one_arg {Kn : Hp} {vs : List V} {x : α} (h : rept K Kn vs (x, ())) : ∃ v, vs = [v] ∧ rep K Kn v x := by
  obtain ⟨v, r, rfl, h1, h2⟩ := h
  cases h2
  exact ⟨v, rfl, h1⟩
theorem two_args {Kn : Hp} {vs : List V} {x : α} {y : β} (h : rept K Kn vs (x, y, ())) : ∃ v w, vs = [v, w] ∧ rep K Kn v x ∧ rep K Kn w y := by
  obtain ⟨v, r, rfl, h1, h2⟩ := h
  obtain ⟨w, rfl, h3⟩ := one_arg h2
  exact ⟨v, w, rfl, h1, h3⟩
theorem rc_max {i j : Int} : RCV K (fun xs H Q => ∃ i j, xs = [.int i, .int j] ∧ Q (.int (if j > i then j else i)) H) (i, j, ()) (max i j) := fun Kn H vs ek h Q q => by
  obtain ⟨v, w, rfl, h1, h2⟩ := two_args h
  cases h1
  cases h2
  refine ⟨i, j, rfl, ?_⟩
  have e : (if j > i then j else i) = max i j := by split <;> omega
  rw [e]
  exact q.fl ek
theorem rc_min {i j : Int} : RCV K (fun xs H Q => ∃ i j, xs = [.int i, .int j] ∧ Q (.int (if j < i then j else i)) H) (i, j, ()) (min i j) := fun Kn H vs ek h Q q => by
  obtain ⟨v, w, rfl, h1, h2⟩ := two_args h
  cases h1
  cases h2
  refine ⟨i, j, rfl, ?_⟩
  have e : (if j < i then j else i) = min i j := by split <;> omega
  rw [e]
  exact q.fl ek
theorem rc_abs {i : Int} : RCV K (fun xs H Q => ∃ i, xs = [.int i] ∧ Q (.int (if i < 0 then -i else i)) H) (i, ()) ((i.natAbs : Int)) := fun Kn H vs ek h Q q => by
  obtain ⟨v, rfl, h1⟩ := one_arg h
  cases h1
  refine ⟨i, rfl, ?_⟩
  have e : (if i < 0 then -i else i) = (i.natAbs : Int) := by split <;> omega
  rw [e]
  exact q.fl ek
theorem rc_len {xs : List α} : RCV K (fun xs H Q => ∃ p ys, xs = [.ref p] ∧ (SqL K H p ys ∨ SqT K H p ys) ∧ Q (.int ys.length) H) (xs, ()) (xs.length : Int) := fun Kn H vs ek h Q q => by
  obtain ⟨v, rfl, p, ws, rfl, h1, h2⟩ := one_arg h
  refine ⟨p, ws, rfl, .inl (sq_of (ek _ _ h1)), ?_⟩
  rw [paired_len h2]
  exact q.fl ek
theorem rc_lenF {xs : Fz α} : RCV K (fun xs H Q => ∃ p ys, xs = [.ref p] ∧ (SqL K H p ys ∨ SqT K H p ys) ∧ Q (.int ys.length) H) (xs, ()) (xs.l.length : Int) := fun Kn H vs ek h Q q => by
  obtain ⟨v, rfl, p, ws, rfl, h1, h2⟩ := one_arg h
  refine ⟨p, ws, rfl, .inl (ex_l ek h1), ?_⟩
  rw [paired_len h2]
  exact q.fl ek
theorem rc_lenT {xs : Tu α} : RCV K (fun xs H Q => ∃ p ys, xs = [.ref p] ∧ (SqL K H p ys ∨ SqT K H p ys) ∧ Q (.int ys.length) H) (xs, ()) (xs.l.length : Int) := fun Kn H vs ek h Q q => by
  obtain ⟨v, rfl, p, ws, rfl, h1, h2⟩ := one_arg h
  refine ⟨p, ws, rfl, .inr (st_of (ek _ _ h1)), ?_⟩
  rw [paired_len h2]
  exact q.fl ek
theorem rc_lenP {t : α × τ} : RCV K (fun xs H Q => ∃ p ys, xs = [.ref p] ∧ (SqL K H p ys ∨ SqT K H p ys) ∧ Q (.int ys.length) H) (t, ()) ((Tp.n (α × τ) : Nat) : Int) := fun Kn H vs ek h Q q => by
  obtain ⟨v, rfl, p, ws, rfl, h1, h2⟩ := one_arg h
  refine ⟨p, ws, rfl, .inr (st_of (ek _ _ h1)), ?_⟩
  rw [Tp.len h2]
  exact q.fl ek
theorem rc_sum {xs : List Int} : RCV K (rSum K) (xs, ()) xs.sum := fun Kn H vs ek h Q q => by
  obtain ⟨v, rfl, p, ws, rfl, h1, h2⟩ := one_arg h
  have e := paired_fl h2
  subst e
  exact ⟨p, xs, rfl, sq_of (ek _ _ h1), q.fl ek⟩
theorem rc_all {xs : List Bool} : RCV K (rAll K) (xs, ()) (xs.all id) := fun Kn H vs ek h Q q => by
  obtain ⟨v, rfl, p, ws, rfl, h1, h2⟩ := one_arg h
  have e := paired_fl h2
  subst e
  exact ⟨p, xs, rfl, sq_of (ek _ _ h1), q.fl ek⟩
theorem rc_any {xs : List Bool} : RCV K (rAny K) (xs, ()) (xs.any id) := fun Kn H vs ek h Q q => by
  obtain ⟨v, rfl, p, ws, rfl, h1, h2⟩ := one_arg h
  have e := paired_fl h2
  subst e
  exact ⟨p, xs, rfl, sq_of (ek _ _ h1), q.fl ek⟩
theorem rc_list {xs : List α} : RCL K (fun xs H Q => ∃ p ys, xs = [.ref p] ∧ (SqL K H p ys ∨ SqT K H p ys) ∧ ∀ l, H l = none → Q (.ref l) (upd H l (.lst ys))) (xs, ()) xs := fun Kn H vs ek h Q q => by
  obtain ⟨v, rfl, p, ws, rfl, h1, h2⟩ := one_arg h
  exact ⟨p, ws, rfl, .inl (sq_of (ek _ _ h1)), fun l hl => q l ws Kn _ (Gr.newU ek hl) hl (fresh_back ek hl) upd_same h2⟩
theorem rc_listF {xs : Fz α} : RCL K (fun xs H Q => ∃ p ys, xs = [.ref p] ∧ (SqL K H p ys ∨ SqT K H p ys) ∧ ∀ l, H l = none → Q (.ref l) (upd H l (.lst ys))) (xs, ()) xs.l := fun Kn H vs ek h Q q => by
  obtain ⟨v, rfl, p, ws, rfl, h1, h2⟩ := one_arg h
  exact ⟨p, ws, rfl, .inl (ex_l ek h1), fun l hl => q l ws Kn _ (Gr.newU ek hl) hl (fresh_back ek hl) upd_same h2⟩
theorem rc_listT {xs : Tu α} : RCL K (fun xs H Q => ∃ p ys, xs = [.ref p] ∧ (SqL K H p ys ∨ SqT K H p ys) ∧ ∀ l, H l = none → Q (.ref l) (upd H l (.lst ys))) (xs, ()) xs.l := fun Kn H vs ek h Q q => by
  obtain ⟨v, rfl, p, ws, rfl, h1, h2⟩ := one_arg h
  exact ⟨p, ws, rfl, .inr (st_of (ek _ _ h1)), fun l hl => q l ws Kn _ (Gr.newU ek hl) hl (fresh_back ek hl) upd_same h2⟩
theorem rc_tuple {xs : List α} : RCV K (fun xs H Q => ∃ p ys, xs = [.ref p] ∧ ((SqL K H p ys ∧ ∀ l, H l = none → Q (.ref l) (upd H l (.tup ys))) ∨ (SqT K H p ys ∧ Q (.ref p) H))) (xs, ()) (Tu.mk xs) := fun Kn H vs ek h Q q => by
  obtain ⟨v, rfl, p, ws, rfl, h1, h2⟩ := one_arg h
  exact ⟨p, ws, rfl, .inl ⟨sq_of (ek _ _ h1), fun l hl => q _ (upd Kn l (.tup ws)) _ (Gr.new ek hl) ⟨l, ws, rfl, upd_same, paired_mono (Gr.new ek hl).kk h2⟩⟩⟩
end

/-! ### items, slices -/
section
variable {K : Fg} {F Kn0 : Hp} {sl sl' : List Sl} {ow ow1 ow2 : List Ow} {α β γ τ : Type} [Rp α] [Rp β] [Rp γ] [Tp τ] {ta tb te : TE}
theorem r2_ixL {xs : List α} {i : Int} {z : α} (h : atI xs i = some z) : R2V K (rIxL K) xs i z := fun Kn H v w ek h1 h2 Q q => by
  obtain ⟨p, ws, rfl, h3, h4⟩ := h1
  cases h2
  obtain ⟨u, e, r⟩ := paired_atI h4 h
  exact ⟨p, ws, i, u, rfl, rfl, sq_of (ek _ _ h3), e, q.at ek r⟩
theorem r2_ixF {xs : Fz α} {i : Int} {z : α} (h : atI xs.l i = some z) : R2V K (rIxL K) xs i z := fun Kn H v w ek h1 h2 Q q => by
  obtain ⟨p, ws, rfl, h3, h4⟩ := h1
  cases h2
  obtain ⟨u, e, r⟩ := paired_atI h4 h
  exact ⟨p, ws, i, u, rfl, rfl, ex_l ek h3, e, q.at ek r⟩
theorem r2_ixU {xs : Tu α} {i : Int} {z : α} (h : atI xs.l i = some z) : R2V K (rIxT K) xs i z := fun Kn H v w ek h1 h2 Q q => by
  obtain ⟨p, ws, rfl, h3, h4⟩ := h1
  cases h2
  obtain ⟨u, e, r⟩ := paired_atI h4 h
  exact ⟨p, ws, i, u, rfl, rfl, st_of (ek _ _ h3), e, q.at ek r⟩
theorem r2_ixK {xs : Kt α} {i : Int} {z : α} (h : atI xs.l i = some z) : R2V K (rIxT K) xs i z := fun Kn H v w ek h1 h2 Q q => by
  obtain ⟨p, ws, rfl, h3, h4⟩ := h1
  cases h2
  obtain ⟨u, e, r⟩ := paired_atI h4 h
  exact ⟨p, ws, i, u, rfl, rfl, ex_t ek h3, e, q.at ek r⟩
/-- the n-th place of a tuple -/
inductive At : {τ : Type} → [Tp τ] → Nat → {α : Type} → [Rp α] → τ → α → Prop
  | z {α τ : Type} [Rp α] [Tp τ] (x : α) (t : τ) : At 0 (x, t) x
  | s {α β τ : Type} [Rp α] [Rp β] [Tp τ] {n : Nat} (x : α) {t : τ} {y : β} : At n t y → At (n + 1) (x, t) y
theorem At.get {K : Fg} {H : Hp} {τ : Type} [i : Tp τ] {n : Nat} {α : Type} [j : Rp α] {t : τ} {a : α} (h : At n t a) : ∀ {vs : List V}, rept K H vs t → ∃ v, vs[n]? = some v ∧ rep K H v a := by
  induction h with
  | z x t =>
    intro vs r
    obtain ⟨v, r, rfl, h1, h2⟩ := r
    exact ⟨v, rfl, h1⟩
  | s x _ ih =>
    intro vs r
    obtain ⟨v, r, rfl, h1, h2⟩ := r
    obtain ⟨w, e, h3⟩ := ih h2
    exact ⟨w, e, h3⟩
theorem r2_tix {t : α × τ} {n : Nat} {z : γ} (h : At n t z) : R2V K (rIxT K) t (n : Int) z := fun Kn H v w ek h1 h2 Q q => by
  obtain ⟨p, ws, rfl, h3, h4⟩ := h1
  cases h2
  obtain ⟨u, e, r⟩ := h.get h4
  exact ⟨p, ws, n, u, rfl, rfl, st_of (ek _ _ h3), atI_nat e, q.at ek r⟩
/-- one sign of a text -/
def ixS (z : Str) (i : Int) : Option Str := if z.length ≤ 100000 then (atI z.cps.toList i).map (fun c => ⟨#[c]⟩) else none
theorem r2_ixS {x : Str} {i : Int} {z : Str} (h : ixS x i = some z) : R2V K rIxS x i z := fun Kn H v w ek h1 h2 Q q => by
  cases h1
  cases h2
  unfold ixS at h
  split at h
  · rename_i hl
    cases e : atI x.cps.toList i with
    | none => rw [e] at h; cases h
    | some c =>
      rw [e] at h
      cases h
      exact ⟨x, i, c, rfl, rfl, le_line (by omega), e, q.fl ek⟩
  · cases h
def cut {α : Type} (xs : List α) (lo hi : Option Int) : List α := (xs.drop (HT.sIx xs.length 0 lo)).take (HT.sIx xs.length xs.length hi - HT.sIx xs.length 0 lo)
theorem paired_cut {F : V → α → Prop} {vs : List V} {xs : List α} (h : Paired F vs xs) (lo hi : Option Int) : Paired F (cutV vs lo hi) (cut xs lo hi) := by
  unfold cutV cut
  rw [Paired.length h]
  exact paired_take _ (paired_drop _ h)
def EO (K : Fg) (F Kn0 : Hp) (sl : List Sl) (ow : List Ow) (to : TO) (o : Option Int) : Prop := ∀ σ Kn H, S K F Kn0 sl ow σ Kn H → ∀ Q : Option Int → Hp → Prop, (∀ Kn' H', Gr Kn H Kn' H' → Q o H') → to σ H Q
theorem eo_none : EO K F Kn0 sl ow tNoPart none := fun σ Kn H s Q q => q Kn H (Gr.refl s.ek)
theorem eo_some {i : Int} (h : EV K F Kn0 sl ow te i) : EO K F Kn0 sl ow (tPart te) (some i) := fun σ Kn H s Q q => h σ Kn H s _ fun v Kn1 H1 g1 r1 => ⟨i, r1, q Kn1 H1 g1⟩
theorem en_sl {xs : List α} {tl th : TO} {lo hi : Option Int} (h : EV K F Kn0 sl ow te xs) (hl : EO K F Kn0 sl ow tl lo) (hh : EO K F Kn0 sl ow th hi) : EN K F Kn0 sl ow (tSl (rSlL K) te tl th) (cut xs lo hi) := fun σ Kn H s Q q =>
  h σ Kn H s _ fun v Kn1 H1 g1 r1 => hl σ Kn1 H1 (s.grow g1) _ fun Kn2 H2 g2 => hh σ Kn2 H2 ((s.grow g1).grow g2) _ fun Kn3 H3 g3 => by
    obtain ⟨p, ws, rfl, h3, h4⟩ := r1
    have g : Gr Kn H Kn3 H3 := (g1.trans g2).trans g3
    have e13 : Ex Kn1 Kn3 := g2.kk.trans g3.kk
    exact ⟨p, ws, rfl, sq_of (g3.kh _ _ (e13 _ _ h3)), fun l hl => q l _ Kn3 _ (g.trans (Gr.newU g3.kh hl)) (fresh_back g.hh hl) (fresh_back g3.kh hl) upd_same (paired_cut (paired_mono e13 h4) lo hi)⟩
theorem en_slF {xs : Fz α} {tl th : TO} {lo hi : Option Int} (h : EV K F Kn0 sl ow te xs) (hl : EO K F Kn0 sl ow tl lo) (hh : EO K F Kn0 sl ow th hi) : EN K F Kn0 sl ow (tSl (rSlL K) te tl th) (cut xs.l lo hi) := fun σ Kn H s Q q =>
  h σ Kn H s _ fun v Kn1 H1 g1 r1 => hl σ Kn1 H1 (s.grow g1) _ fun Kn2 H2 g2 => hh σ Kn2 H2 ((s.grow g1).grow g2) _ fun Kn3 H3 g3 => by
    obtain ⟨p, ws, rfl, h3, h4⟩ := r1
    have g : Gr Kn H Kn3 H3 := (g1.trans g2).trans g3
    have e13 : Ex Kn1 Kn3 := g2.kk.trans g3.kk
    exact ⟨p, ws, rfl, ex_l (e13.trans g3.kh) h3, fun l hl => q l _ Kn3 _ (g.trans (Gr.newU g3.kh hl)) (fresh_back g.hh hl) (fresh_back g3.kh hl) upd_same (paired_cut (paired_mono e13 h4) lo hi)⟩
theorem r2_cat {xs ys : List α} (hz : xs.length + ys.length ≤ 1000000) : R2L K rCat xs ys (xs ++ ys) := fun Kn H v w ek h1 h2 Q q => by
  obtain ⟨p, ws, rfl, h3, h4⟩ := h1
  obtain ⟨p2, ws2, rfl, h5, h6⟩ := h2
  exact ⟨p, p2, ws, ws2, rfl, rfl, ek _ _ h3, ek _ _ h5, by rw [paired_len h4, paired_len h6]; exact le_line hz, fun l hl =>
    q l _ Kn _ (Gr.newU ek hl) hl (fresh_back ek hl) upd_same (paired_append h4 h6)⟩

/-! ### tests -/
variable {t u : TT} {a b c : Bool}
theorem et_test (h : EV K F Kn0 sl ow te b) : ET K F Kn0 sl ow (tTest te) b := fun σ Kn H s Q q => h σ Kn H s _ fun v Kn' H' g r => ⟨b, r, q Kn' H' g⟩
theorem et_B (h : EV K F Kn0 sl ow te b) : ET K F Kn0 sl ow (tB te) b := fun σ Kn H s Q q => h σ Kn H s _ fun v Kn' H' g r => ⟨b, r, q Kn' H' g⟩
theorem et_not (h : ET K F Kn0 sl ow t b) : ET K F Kn0 sl ow (tNot t) (!b) := fun σ Kn H s Q q => h σ Kn H s _ fun Kn' H' g => q Kn' H' g
theorem et_and (h1 : ET K F Kn0 sl ow t a) (h2 : a = true → ET K F Kn0 sl ow u b) : ET K F Kn0 sl ow (tAnd t u) (a && b) := fun σ Kn H s Q q => h1 σ Kn H s _ fun Kn1 H1 g1 => by
  cases a with
  | true => exact iteT (h2 rfl σ Kn1 H1 (s.grow g1) Q fun Kn2 H2 g2 => q Kn2 H2 (g1.trans g2))
  | false => exact iteF (q Kn1 H1 g1)
theorem et_or (h1 : ET K F Kn0 sl ow t a) (h2 : a = false → ET K F Kn0 sl ow u b) : ET K F Kn0 sl ow (tOr t u) (a || b) := fun σ Kn H s Q q => h1 σ Kn H s _ fun Kn1 H1 g1 => by
  cases a with
  | true => exact iteT (q Kn1 H1 g1)
  | false => exact iteF (h2 rfl σ Kn1 H1 (s.grow g1) Q fun Kn2 H2 g2 => q Kn2 H2 (g1.trans g2))
theorem et_andO {m : Option Bool} (h : (if a = true then m else some false) = some c) (h1 : ET K F Kn0 sl ow t a) (h2 : ∀ b, a = true → m = some b → ET K F Kn0 sl ow u b) : ET K F Kn0 sl ow (tAnd t u) c := fun σ Kn H s Q q => h1 σ Kn H s _ fun Kn1 H1 g1 => by
  cases a with
  | true => exact iteT (h2 c rfl h σ Kn1 H1 (s.grow g1) Q fun Kn2 H2 g2 => q Kn2 H2 (g1.trans g2))
  | false =>
    cases h
    exact iteF (q Kn1 H1 g1)
theorem et_orO {m : Option Bool} (h : (if a = true then some true else m) = some c) (h1 : ET K F Kn0 sl ow t a) (h2 : ∀ b, a = false → m = some b → ET K F Kn0 sl ow u b) : ET K F Kn0 sl ow (tOr t u) c := fun σ Kn H s Q q => h1 σ Kn H s _ fun Kn1 H1 g1 => by
  cases a with
  | false => exact iteF (h2 c rfl h σ Kn1 H1 (s.grow g1) Q fun Kn2 H2 g2 => q Kn2 H2 (g1.trans g2))
  | true =>
    cases h
    exact iteT (q Kn1 H1 g1)
theorem ev_andO {m : Option Bool} (h : (if a = true then m else some false) = some c) (h1 : EV K F Kn0 sl ow ta a) (h2 : ∀ b, a = true → m = some b → EV K F Kn0 sl ow tb b) : EV K F Kn0 sl ow (tAndV ta tb) c := fun σ Kn H s Q q => h1 σ Kn H s _ fun v Kn1 H1 g1 r1 => ⟨a, r1, by
  cases a with
  | true => exact iteT (h2 c rfl h σ Kn1 H1 (s.grow g1) Q fun v Kn2 H2 g2 r2 => q v Kn2 H2 (g1.trans g2) r2)
  | false =>
    cases h
    exact iteF (q _ Kn1 H1 g1 rfl)⟩
theorem ev_orO {m : Option Bool} (h : (if a = true then some true else m) = some c) (h1 : EV K F Kn0 sl ow ta a) (h2 : ∀ b, a = false → m = some b → EV K F Kn0 sl ow tb b) : EV K F Kn0 sl ow (tOrV ta tb) c := fun σ Kn H s Q q => h1 σ Kn H s _ fun v Kn1 H1 g1 r1 => ⟨a, r1, by
  cases a with
  | false => exact iteF (h2 c rfl h σ Kn1 H1 (s.grow g1) Q fun v Kn2 H2 g2 r2 => q v Kn2 H2 (g1.trans g2) r2)
  | true =>
    cases h
    exact iteT (q _ Kn1 H1 g1 rfl)⟩
theorem ev_andV (h1 : EV K F Kn0 sl ow ta a) (h2 : a = true → EV K F Kn0 sl ow tb b) : EV K F Kn0 sl ow (tAndV ta tb) (a && b) := fun σ Kn H s Q q => h1 σ Kn H s _ fun v Kn1 H1 g1 r1 => ⟨a, r1, by
  cases a with
  | true => exact iteT (h2 rfl σ Kn1 H1 (s.grow g1) Q fun v Kn2 H2 g2 r2 => q v Kn2 H2 (g1.trans g2) r2)
  | false => exact iteF (q _ Kn1 H1 g1 rfl)⟩
theorem ev_orV (h1 : EV K F Kn0 sl ow ta a) (h2 : a = false → EV K F Kn0 sl ow tb b) : EV K F Kn0 sl ow (tOrV ta tb) (a || b) := fun σ Kn H s Q q => h1 σ Kn H s _ fun v Kn1 H1 g1 r1 => ⟨a, r1, by
  cases a with
  | false => exact iteF (h2 rfl σ Kn1 H1 (s.grow g1) Q fun v Kn2 H2 g2 r2 => q v Kn2 H2 (g1.trans g2) r2)
  | true => exact iteT (q _ Kn1 H1 g1 rfl)⟩
theorem ev_notV (h1 : EV K F Kn0 sl ow ta a) : EV K F Kn0 sl ow (tNotV ta) (!a) := fun σ Kn H s Q q => h1 σ Kn H s _ fun v Kn1 H1 g1 r1 => ⟨a, r1, q _ Kn1 H1 g1 rfl⟩
theorem ev_if {x y : α} (h : ET K F Kn0 sl ow t b) (h1 : b = true → EV K F Kn0 sl ow ta x) (h2 : b = false → EV K F Kn0 sl ow tb y) : EV K F Kn0 sl ow (tIf t ta tb) (if b = true then x else y) := fun σ Kn H s Q q => h σ Kn H s _ fun Kn1 H1 g1 => by
  cases b with
  | true => exact iteT (h1 rfl σ Kn1 H1 (s.grow g1) Q fun v Kn2 H2 g2 r2 => q v Kn2 H2 (g1.trans g2) r2)
  | false => exact iteF (h2 rfl σ Kn1 H1 (s.grow g1) Q fun v Kn2 H2 g2 r2 => q v Kn2 H2 (g1.trans g2) r2)
theorem ev_ifO {m n : Option α} {z : α} (hz : (if b = true then m else n) = some z) (h : ET K F Kn0 sl ow t b) (h1 : ∀ x, b = true → m = some x → EV K F Kn0 sl ow ta x) (h2 : ∀ y, b = false → n = some y → EV K F Kn0 sl ow tb y) : EV K F Kn0 sl ow (tIf t ta tb) z := fun σ Kn H s Q q => h σ Kn H s _ fun Kn1 H1 g1 => by
  cases b with
  | true => exact iteT (h1 z rfl hz σ Kn1 H1 (s.grow g1) Q fun v Kn2 H2 g2 r2 => q v Kn2 H2 (g1.trans g2) r2)
  | false => exact iteF (h2 z rfl hz σ Kn1 H1 (s.grow g1) Q fun v Kn2 H2 g2 r2 => q v Kn2 H2 (g1.trans g2) r2)
/-- truth of a list -/
theorem et_truL {xs : List α} (h : EV K F Kn0 sl ow ta xs) : ET K F Kn0 sl ow (fun σ H Q => ta σ H fun x H' => ∃ k, TruV K x H' k ∧ Q k H') (!xs.isEmpty) := fun σ Kn H s Q q => h σ Kn H s _ fun v Kn1 H1 g1 r1 => by
  obtain ⟨p, ws, rfl, h3, h4⟩ := r1
  refine ⟨_, .inl ⟨ws, sq_of (g1.kh _ _ h3), rfl⟩, ?_⟩
  have e : (!ws.isEmpty) = !xs.isEmpty := by
    cases h4 <;> rfl
  rw [e]
  exact q Kn1 H1 g1
end
end Wk
/-! Wk3: calls, statements, loops, comprehensions -/
namespace Wk
open PySem PySem.Spec L2 Evl

/-! ### promises -/
section
variable {α τ : Type} [Rp α] [Tp τ]
/-- a def that changes nothing: it tells f of its arguments -/
def PF (K : Fg) (f : τ → Option α) : Sp := fun vs H Q _ => ∃ Kn t r, Ex Kn H ∧ rept K Kn vs t ∧ f t = some r ∧ RS K Kn H Q r
/-- .. a new list -/
def PL (K : Fg) (f : τ → Option (List α)) : Sp := fun vs H Q _ => ∃ Kn t r, Ex Kn H ∧ rept K Kn vs t ∧ f t = some r ∧ RL K Kn H Q r
/-- its first argument is a list that it changes -/
def PM {β : Type} [Rp β] (K : Fg) (f : List β → τ → Option (α × List β)) : Sp := fun vs H Q _ => ∃ Kn p ws rest t xs r xs', vs = .ref p :: rest ∧ Ex Kn H ∧ Kn p = none ∧ H p = some (.lst ws) ∧ Paired (rep K Kn) ws xs ∧ rept K Kn rest t ∧ f xs t = some (r, xs') ∧
  ∀ v Kn' H' ws', Ex Kn Kn' → Ex Kn' H' → (∀ q, q ≠ p → H q ≠ none → H' q = H q) → (∀ q, H q ≠ none → Kn q = none → Kn' q = none) → H' p = some (.lst ws') → Paired (rep K Kn') ws' xs' → rep K Kn' v r → Q v H'
end
section
variable {K : Fg} {F Kn0 : Hp} {sl sl' : List Sl} {ow ow1 ow2 : List Ow} {α β γ τ : Type} [Rp α] [Rp β] [Rp γ] [Tp τ] {ta : TA} {te : TE} {t : τ} {E : XK}
theorem ev_call {f : τ → Option α} {r : α} (h : EA K F Kn0 sl ow ta t) (hf : f t = some r) : EV K F Kn0 sl ow (tCall (PF K f) [] E ta) r := fun σ Kn H s Q q =>
  h σ Kn H s _ fun vs Kn1 H1 g1 r1 => by
    show PF K f (vs ++ []) H1 Q E
    rw [List.append_nil]
    exact ⟨Kn1, t, r, g1.kh, r1, hf, fun u Kn' H' g' r' => q u Kn' H' (g1.trans g') r'⟩
theorem en_call {f : τ → Option (List α)} {r : List α} (h : EA K F Kn0 sl ow ta t) (hf : f t = some r) : EN K F Kn0 sl ow (tCall (PL K f) [] E ta) r := fun σ Kn H s Q q =>
  h σ Kn H s _ fun vs Kn1 H1 g1 r1 => by
    show PL K f (vs ++ []) H1 Q E
    rw [List.append_nil]
    exact ⟨Kn1, t, r, g1.kh, r1, hf, fun p ws Kn' H' g' hp kp hw r' => q p ws Kn' H' (g1.trans g') (fresh_back g1.hh hp) kp hw r'⟩
theorem em_call {f : τ → Option α} {r : α} (h : EAM K F Kn0 sl ow ta ow1 t) (hf : f t = some r) : EM K F Kn0 sl ow (tCall (PF K f) [] E ta) ow1 r := fun σ Kn H s Q q =>
  h σ Kn H s _ fun vs Kn1 H1 e1 s1 r1 => by
    show PF K f (vs ++ []) H1 Q E
    rw [List.append_nil]
    exact ⟨Kn1, t, r, s1.ek, r1, hf, fun u Kn' H' g' r' => q u Kn' H' (e1.trans g'.kk) (s1.grow g') r'⟩
theorem enm_call {f : τ → Option (List α)} {r : List α} (h : EAM K F Kn0 sl ow ta ow1 t) (hf : f t = some r) : ENM K F Kn0 sl ow (tCall (PL K f) [] E ta) ow1 r := fun σ Kn H s Q q =>
  h σ Kn H s _ fun vs Kn1 H1 e1 s1 r1 => by
    show PL K f (vs ++ []) H1 Q E
    rw [List.append_nil]
    exact ⟨Kn1, t, r, s1.ek, r1, hf, fun p ws Kn' H' g' hp kp hw r' => q p ws Kn' H' (e1.trans g'.kk) (s1.grow g') (fresh_back s1.ef hp) kp (owned_ne s1 hp) hw r'⟩
theorem ow_at {ow : List Ow} (h : (ow.map Ow.ad).Nodup) {i j : Nat} {o u : Ow} (hi : ow[i]? = some o) (hj : ow[j]? = some u) (e : o.ad = u.ad) : i = j := by
  have a1 : (ow.map Ow.ad)[i]? = some o.ad := by rw [List.getElem?_map, hi]; rfl
  have a2 : (ow.map Ow.ad)[j]? = some o.ad := by rw [List.getElem?_map, hj, e]; rfl
  exact nd_ix h a1 a2
/-- the object at place j is another one now, all else as it was -/
theorem S.write {σ : L2.St} {Kn H Kn' H' : Hp} {p : Addr} {xs xs' : List β} {ws : List V} {j : Nat} (s : S K F Kn0 sl ow σ Kn H) (hj : ow[j]? = some (ol p xs)) (kk : Ex Kn Kn') (kh : Ex Kn' H')
    (hq : ∀ q, q ≠ p → H q ≠ none → H' q = H q) (sp : ∀ q, H q ≠ none → Kn q = none → Kn' q = none) (hp : H' p = some (.lst ws)) (r : Paired (rep K Kn') ws xs') : S K F Kn0 sl (ow.set j (ol p xs')) σ Kn' H' := by
  obtain ⟨f1, f2, f3⟩ := s.ow.each _ (List.mem_of_getElem? hj)
  have f1 : F p = none := f1
  have f2 : Kn p = none := f2
  have f4 : H p ≠ none := Ow.there f3
  have jl : j < ow.length := (List.getElem?_eq_some_iff.mp hj).1
  refine ⟨s.e0.trans kk, kh, fun a u h => ?_, fun a h1 h2 => sp a (Ex.nn s.ef h1) (s.sep a h1 h2), s.sl.mono kk, ⟨fun o ho => ?_, ?_⟩⟩
  · have hne : a ≠ p := fun z => by rw [z, f1] at h; cases h
    rw [hq a hne (ne_none_of (s.ef _ _ h))]
    exact s.ef _ _ h
  · obtain ⟨i, hi⟩ := List.getElem?_of_mem ho
    by_cases e : i = j
    · subst e
      rw [List.getElem?_set_self jl] at hi
      cases hi
      exact ⟨f1, sp p f4 f2, ws, hp, r⟩
    · rw [List.getElem?_set_ne (Ne.symm e)] at hi
      obtain ⟨h1, h2, h3⟩ := s.ow.each o (List.mem_of_getElem? hi)
      have h4 := Ow.there h3
      have hne : o.ad ≠ p := fun z => e (ow_at s.ow.nd hi hj z)
      exact ⟨h1, sp _ h4 h2, Ow.ok_mono kk (hq _ hne h4) h3⟩
  · have e : (ow.set j (ol p xs')).map Ow.ad = ow.map Ow.ad := by
      rw [List.map_set]
      refine List.ext_getElem? fun i => ?_
      by_cases e : j = i
      · subst e
        rw [List.getElem?_set_self (by rw [List.length_map]; exact jl), List.getElem?_map, hj]
        rfl
      · rw [List.getElem?_set_ne e]
    rw [e]
    exact s.ow.nd
theorem em_callM {f : List β → τ → Option (α × List β)} {r : α} {i j : Nat} {p : Addr} {xs xs' : List β} (hi : sl[i]? = some (.at p)) (h : EAM K F Kn0 sl ow ta ow1 t) (hj : ow1[j]? = some (ol p xs)) (hf : f xs t = some (r, xs')) :
    EM K F Kn0 sl ow (tCall (PM K f) [] E (tCons (tVar i) ta)) (ow1.set j (ol p xs')) r := fun σ Kn H s Q q => by
  obtain ⟨o, h1, h2⟩ := s.sl.get hi
  refine ⟨.ref p, by rw [h1]; exact congrArg some h2, h σ Kn H s _ fun vs Kn1 H1 e1 s1 r1 => ?_⟩
  show PM K f ((.ref p :: vs) ++ []) H1 Q E
  rw [List.append_nil]
  obtain ⟨f1, f2, ws, f3, f4⟩ := s1.ow.each _ (List.mem_of_getElem? hj)
  exact ⟨Kn1, p, ws, vs, t, xs, r, xs', rfl, s1.ek, f2, f3, f4, r1, hf, fun v Kn' H' ws' kk kh hq sp hp rr rv => q v Kn' H' (e1.trans kk) (s1.write hj kk kh hq sp hp rr) rv⟩
end

/-! ### statements -/
section
variable (K : Fg) (F Kn0 : Hp) (sl : List Sl) (ow : List Ow)
def SN (D : Ends) : Prop := ∀ σ Kn H, S K F Kn0 sl ow σ Kn H → D.nx σ H
def SC (D : Ends) : Prop := ∀ σ Kn H, S K F Kn0 sl ow σ Kn H → D.ct σ H
def SK (D : Ends) : Prop := ∀ σ Kn H, S K F Kn0 sl ow σ Kn H → D.bk σ H
end
section
variable {K : Fg} {F Kn0 : Hp} {sl sl' : List Sl} {ow ow0 ow1 ow2 : List Ow} {α β γ τ : Type} [Rp α] [Rp β] [Rp γ] [Tp τ] {ta tb te : TE} {x : α} {D : Ends} {t u tz : TS} {tt : TT} {b : Bool} {i j : Nat} {p : Addr}
theorem SB.seq (h : SB K F Kn0 sl ow { D with nx := tz D } t) : SB K F Kn0 sl ow D (tSeq t tz) := h
theorem SB.le (h : SB K F Kn0 sl' ow D t) (l : SlLe sl sl') : SB K F Kn0 sl ow D t := fun σ Kn H s => h σ Kn H (s.le l)
theorem SB.sub (h : SB K F Kn0 sl ow1 D t) (l : ow1.Sublist ow) : SB K F Kn0 sl ow D t := fun σ Kn H s => h σ Kn H (s.sub l)
theorem SN.le (h : SN K F Kn0 sl' ow D) (l : SlLe sl sl') : SN K F Kn0 sl ow D := fun σ Kn H s => h σ Kn H (s.le l)
theorem SN.sub (h : SN K F Kn0 sl ow1 D) (l : ow1.Sublist ow) : SN K F Kn0 sl ow D := fun σ Kn H s => h σ Kn H (s.sub l)
theorem EN.le {xs : List α} (h : EN K F Kn0 sl' ow te xs) (l : SlLe sl sl') : EN K F Kn0 sl ow te xs := fun σ Kn H s => h σ Kn H (s.le l)
theorem EV.le (h : EV K F Kn0 sl' ow te x) (l : SlLe sl sl') : EV K F Kn0 sl ow te x := fun σ Kn H s => h σ Kn H (s.le l)
theorem sb_nx (k : SN K F Kn0 sl ow D) : SB K F Kn0 sl ow D tNext := k
theorem sb_ct (k : SC K F Kn0 sl ow D) : SB K F Kn0 sl ow D tCont := k
theorem sb_bk (k : SK K F Kn0 sl ow D) : SB K F Kn0 sl ow D tBreak := k
theorem sb_asg (hs : sl.set i (sv x) = sl') (h : EV K F Kn0 sl ow te x) (k : SN K F Kn0 sl' ow D) : SB K F Kn0 sl ow D (tAsg te (gName i)) := fun σ Kn H s =>
  h σ Kn H s _ fun v Kn1 H1 g1 r1 => k _ Kn1 H1 (hs ▸ (s.grow g1).setv i r1)
theorem sb_asgM (hs : sl.set i (sv x) = sl') (h : EM K F Kn0 sl ow te ow1 x) (k : SN K F Kn0 sl' ow1 D) : SB K F Kn0 sl ow D (tAsg te (gName i)) := fun σ Kn H s =>
  h σ Kn H s _ fun v Kn1 H1 e1 s1 r1 => k _ Kn1 H1 (hs ▸ s1.setv i r1)
/-- a new object is one's own -/
theorem S.own {σ : L2.St} {Kn H : Hp} {xs : List α} {ws : List V} (s : S K F Kn0 sl ow σ Kn H) (fp : F p = none) (kp : Kn p = none) (no : ∀ o ∈ ow, o.ad ≠ p) (hp : H p = some (.lst ws)) (r : Paired (rep K Kn) ws xs) : S K F Kn0 sl (ol p xs :: ow) σ Kn H :=
  ⟨s.e0, s.ek, s.ef, s.sep, s.sl, ⟨fun o ho => by
    rcases List.mem_cons.mp ho with rfl | ho
    · exact ⟨fp, kp, ws, hp, r⟩
    · exact s.ow.each o ho, List.nodup_cons.mpr ⟨fun h => by
      obtain ⟨o, ho, e⟩ := List.mem_map.mp h
      exact no o ho e, s.ow.nd⟩⟩⟩
theorem S.seta {σ : L2.St} {Kn H : Hp} (s : S K F Kn0 sl ow σ Kn H) (i : Nat) : S K F Kn0 (sl.set i (.at p)) ow (σ.set i (some (.ref p))) Kn H := s.set i rfl
theorem sb_asgO {xs : List α} {sl' : Addr → List Sl} (hs : ∀ p, sl.set i (.at p) = sl' p) (h : EN K F Kn0 sl ow te xs) (k : ∀ p, SN K F Kn0 (sl' p) (ol p xs :: ow) D) : SB K F Kn0 sl ow D (tAsg te (gName i)) := fun σ Kn H s =>
  h σ Kn H s _ fun p ws Kn1 H1 g1 hp kp hw r1 => k p _ Kn1 H1 (hs p ▸ ((s.grow g1).own (fresh_back s.ef hp) kp (owned_ne s hp) hw r1).seta i)
theorem sb_asgOM {xs : List α} {sl' : Addr → List Sl} (hs : ∀ p, sl.set i (.at p) = sl' p) (h : ENM K F Kn0 sl ow te ow1 xs) (k : ∀ p, SN K F Kn0 (sl' p) (ol p xs :: ow1) D) : SB K F Kn0 sl ow D (tAsg te (gName i)) := fun σ Kn H s =>
  h σ Kn H s _ fun p ws Kn1 H1 e1 s1 fp kp no hw r1 => k p _ Kn1 H1 (hs p ▸ (s1.own fp kp no hw r1).seta i)
theorem sb_aug {a c : Int} {f : Int → Int → Int} (hi : sl[i]? = some (sv a)) (hs : sl.set i (sv (f a c)) = sl') (h : EV K F Kn0 sl ow te c) (k : SN K F Kn0 sl' ow D) : SB K F Kn0 sl ow D (tAug i te (ipI f)) := fun σ Kn H s => by
  obtain ⟨o, h1, v, h2, h3⟩ := s.sl.get hi
  cases h3
  exact ⟨.int a, by rw [h1, h2], h σ Kn H s _ fun v Kn1 H1 g1 r1 => ⟨a, c, rfl, r1, k _ Kn1 H1 (hs ▸ (s.grow g1).setv (x := f a c) i rfl)⟩⟩
theorem sb_drop (h : EV K F Kn0 sl ow te x) (k : SN K F Kn0 sl ow D) : SB K F Kn0 sl ow D (tDrop te) := fun σ Kn H s => h σ Kn H s _ fun v Kn1 H1 g1 r1 => k _ Kn1 H1 (s.grow g1)
theorem sb_dropM (h : EM K F Kn0 sl ow te ow1 x) (k : SN K F Kn0 sl ow1 D) : SB K F Kn0 sl ow D (tDrop te) := fun σ Kn H s => h σ Kn H s _ fun v Kn1 H1 e1 s1 r1 => k _ Kn1 H1 s1
theorem upd_in {Kn H : Hp} {o : HO} (ek : Ex Kn H) (kp : Kn p = none) : Ex Kn (upd H p o) := fun a u h => by
  have hq : a ≠ p := fun z => by rw [z, kp] at h; cases h
  rw [upd_ne hq]
  exact ek _ _ h
/-- found.append(e) -/
theorem sb_app {xs : List α} (hi : sl[i]? = some (.at p)) (hj : ow[j]? = some (ol p xs)) (h : EV K F Kn0 sl ow te x) (hz : xs.length < 1000000) (k : SN K F Kn0 sl (ow.set j (ol p (xs ++ [x]))) D) :
    SB K F Kn0 sl ow D (tDrop (tBM K "list" rAppend (tVar i) (tCons te tNil))) := fun σ Kn H s => by
  obtain ⟨o, h1, h2⟩ := s.sl.get hi
  obtain ⟨f1, f2, ws, f3, f4⟩ := s.ow.each _ (List.mem_of_getElem? hj)
  refine ⟨.ref p, by rw [h1]; exact congrArg some h2, Or.inl ⟨rfl, ws, sq_of f3⟩, h σ Kn H s _ fun v Kn1 H1 g1 r1 => ?_⟩
  refine ⟨p, ws, v, rfl, rfl, g1.hh _ _ f3, by rw [paired_len f4]; exact lt_line hz, k _ Kn1 _ ?_⟩
  have kp1 : Kn1 p = none := g1.sp p (ne_none_of f3) f2
  exact (s.grow g1).write hj (Ex.refl _) (upd_in g1.kh kp1) (fun q hq _ => upd_ne hq) (fun _ _ h => h) upd_same (paired_append (paired_mono g1.kk f4) (.cons r1 .nil))
theorem sb_appM {xs : List α} (hi : sl[i]? = some (.at p)) (hi0 : ow[j]? = some (ol p xs)) (h : EM K F Kn0 sl ow te ow1 x) (hj : ow1[j]? = some (ol p xs)) (hz : xs.length < 1000000) (k : SN K F Kn0 sl (ow1.set j (ol p (xs ++ [x]))) D) :
    SB K F Kn0 sl ow D (tDrop (tBM K "list" rAppend (tVar i) (tCons te tNil))) := fun σ Kn H s => by
  obtain ⟨o, h1, h2⟩ := s.sl.get hi
  obtain ⟨_, _, ws0, f0, _⟩ := s.ow.each _ (List.mem_of_getElem? hi0)
  refine ⟨.ref p, by rw [h1]; exact congrArg some h2, Or.inl ⟨rfl, ws0, sq_of f0⟩, h σ Kn H s _ fun v Kn1 H1 e1 s1 r1 => ?_⟩
  obtain ⟨f1, f2, ws, f3, f4⟩ := s1.ow.each _ (List.mem_of_getElem? hj)
  refine ⟨p, ws, v, rfl, rfl, f3, by rw [paired_len f4]; exact lt_line hz, k _ Kn1 _ ?_⟩
  exact s1.write hj (Ex.refl _) (upd_in s1.ek f2) (fun q hq _ => upd_ne hq) (fun _ _ h => h) upd_same (paired_append f4 (.cons r1 .nil))
/-- the place of a written index -/
def setI {α : Type} (xs : List α) (i : Int) (x : α) : Option (List α) := (ixN xs.length i).map fun j => xs.set j x
/-- found[e] = x -/
theorem sb_setI {xs xs' : List α} {n : Int} (hi : sl[i]? = some (.at p)) (hj : ow[j]? = some (ol p xs)) (h : EV K F Kn0 sl ow te x) (hn : EV K F Kn0 sl ow tb n) (hx : setI xs n x = some xs') (k : SN K F Kn0 sl (ow.set j (ol p xs')) D) :
    SB K F Kn0 sl ow D (tAsg te (gSub (tVar i) tb rSetL)) := fun σ Kn H s => h σ Kn H s _ fun v Kn1 H1 g1 r1 => by
  obtain ⟨o, h1, h2⟩ := s.sl.get hi
  refine ⟨.ref p, by rw [h1]; exact congrArg some h2, hn σ Kn1 H1 (s.grow g1) _ fun w Kn2 H2 g2 r2 => ?_⟩
  have s2 := (s.grow g1).grow g2
  obtain ⟨f1, f2, ws, f3, f4⟩ := s2.ow.each _ (List.mem_of_getElem? hj)
  unfold setI at hx
  cases e : ixN xs.length n with
  | none => rw [e] at hx; cases hx
  | some m =>
    rw [e] at hx
    cases hx
    cases r2
    refine ⟨p, ws, n, m, rfl, rfl, f3, by rw [paired_len f4]; exact e, k _ Kn2 _ ?_⟩
    exact s2.write hj (Ex.refl _) (upd_in g2.kh f2) (fun q hq _ => upd_ne hq) (fun _ _ h => h) upd_same (paired_set (Rp.mono g2.kk r1) m f4)
/-- from now on it is known and stays as it is -/
theorem sb_freeze {xs : List α} (hi : sl[i]? = some (.at p)) (hj : ow[j]? = some (ol p xs)) (hs : sl.set i (sv xs) = sl') (ho : ow.eraseIdx j = ow1) (k : SB K F Kn0 sl' ow1 D t) : SB K F Kn0 sl ow D t := fun σ Kn H s => by
  obtain ⟨o, h1, h2⟩ := s.sl.get hi
  have h2 : o = some (.ref p) := h2
  obtain ⟨f1, f2, ws, f3, f4⟩ := s.ow.each _ (List.mem_of_getElem? hj)
  have hsub : ow1.Sublist ow := ho ▸ List.eraseIdx_sublist ow j
  have s1 := s.sub hsub
  have no : ∀ o ∈ ow1, o.ad ≠ p := fun o hm z => by
    have hnd := s.ow.nd
    subst ho
    obtain ⟨m, hm'⟩ := List.getElem?_of_mem hm
    rw [List.getElem?_eraseIdx] at hm'
    split at hm'
    · rename_i hlt
      have := ow_at hnd hm' hj z
      omega
    · rename_i hge
      have := ow_at hnd hm' hj z
      omega
  have s2 := s1.know (o := .lst ws) f1 f2 no f3
  have hσ : σ.set i o = σ := by
    refine List.ext_getElem? fun m => ?_
    by_cases e : i = m
    · subst e
      rw [List.getElem?_set_self (List.getElem?_eq_some_iff.mp h1).1, h1]
    · rw [List.getElem?_set_ne e]
  have s3 := s2.set (x := sv xs) (o := o) i ⟨.ref p, h2, p, ws, rfl, upd_same, paired_mono (Ex.new f2) f4⟩
  rw [hs, hσ] at s3
  exact k σ _ H s3
theorem sb_if (h : ET K F Kn0 sl ow tt b) (h1 : b = true → SB K F Kn0 sl ow D t) (h2 : b = false → SB K F Kn0 sl ow D u) : SB K F Kn0 sl ow D (tIfS tt t u) := fun σ Kn H s => h σ Kn H s _ fun Kn1 H1 g1 => by
  cases b with
  | true => exact iteT (h1 rfl σ Kn1 H1 (s.grow g1))
  | false => exact iteF (h2 rfl σ Kn1 H1 (s.grow g1))
theorem sb_cut (h : SB K F Kn0 sl ow { D with nx := fun σ H => ∃ Kn, S K F Kn0 sl' ow1 σ Kn H } t) (k : SB K F Kn0 sl' ow1 D tz) : SB K F Kn0 sl ow D (tCut t tz) := fun σ Kn H s => ⟨_, h σ Kn H s, fun σ' H' ⟨Kn', s'⟩ => k σ' Kn' H' s'⟩
theorem sn_mid (l : SlLe sl sl') (l2 : ow1.Sublist ow) : SN K F Kn0 sl ow { D with nx := fun σ H => ∃ Kn, S K F Kn0 sl' ow1 σ Kn H } := fun σ Kn H s => ⟨Kn, (s.le l).sub l2⟩
/-- returns -/
theorem sb_ret {R : VK} (h : EV K F Kn0 sl ow te x) (q : RT K F Kn0 ow0 R x) (l : ow0.Sublist ow) (hR : D.rt = R := by rfl) : SB K F Kn0 sl ow D (tRet te) := fun σ Kn H s => by
  subst hR
  exact h σ Kn H s _ fun v Kn1 H1 g1 r1 => q v Kn1 H1 ((s.grow g1).sub l).fin r1
theorem sb_retM {R : VK} (h : EM K F Kn0 sl ow te ow1 x) (q : RT K F Kn0 ow0 R x) (l : ow0.Sublist ow1) (hR : D.rt = R := by rfl) : SB K F Kn0 sl ow D (tRet te) := fun σ Kn H s => by
  subst hR
  exact h σ Kn H s _ fun v Kn1 H1 e1 s1 r1 => q v Kn1 H1 (s1.sub l).fin r1
theorem sb_retL {R : VK} {xs : List α} (h : EN K F Kn0 sl ow te xs) (q : RN K F Kn0 ow0 R xs) (l : ow0.Sublist ow) (hR : D.rt = R := by rfl) : SB K F Kn0 sl ow D (tRet te) := fun σ Kn H s => by
  subst hR
  exact h σ Kn H s _ fun p ws Kn1 H1 g1 hp kp hw r1 => q p ws Kn1 H1 ((s.grow g1).sub l).fin (fresh_back s.ef hp) kp hw r1
/-- a list of one's own is told -/
theorem sb_retO {R : VK} {xs : List α} (hi : sl[i]? = some (.at p)) (hj : ow[j]? = some (ol p xs)) (q : RN K F Kn0 ow0 R xs) (l : ow0.Sublist ow) (hR : D.rt = R := by rfl) : SB K F Kn0 sl ow D (tRet (tVar i)) := fun σ Kn H s => by
  subst hR
  obtain ⟨o, h1, h2⟩ := s.sl.get hi
  obtain ⟨f1, f2, ws, f3, f4⟩ := s.ow.each _ (List.mem_of_getElem? hj)
  exact ⟨.ref p, by rw [h1]; exact congrArg some h2, q p ws Kn H (s.sub l).fin f1 f2 f3 f4⟩
theorem SB.seqB (h : (∀ sl' ow', SB K F Kn0 sl' ow' D tz → SN K F Kn0 sl' ow' { D with nx := tz D }) → SB K F Kn0 sl ow { D with nx := tz D } t) : SB K F Kn0 sl ow D (tSeq t tz) := h fun _ _ k => k
theorem SB.cutB (h : (∀ sl2 ow2, SlLe sl2 sl' → ow1.Sublist ow2 → SN K F Kn0 sl2 ow2 { D with nx := fun σ H => ∃ Kn, S K F Kn0 sl' ow1 σ Kn H }) → SB K F Kn0 sl ow { D with nx := fun σ H => ∃ Kn, S K F Kn0 sl' ow1 σ Kn H } t) (k : SB K F Kn0 sl' ow1 D tz) : SB K F Kn0 sl ow D (tCut t tz) :=
  sb_cut (h fun _ _ l l2 => sn_mid l l2) k
end

/-! ### targets -/
section
variable {α β τ : Type} [Rp α] [Rp β] [Tp τ] {sl sl' sl2 : List Sl} {K : Fg}
theorem wipe_set : ∀ {vs : List Nat} {i : Nat} {o : Option V} {σ : L2.St}, i ∈ vs → wipe (σ.set i o) vs = wipe σ vs
  | v :: vs, i, o, σ, h => by
    by_cases e : i ∈ vs
    · unfold wipe
      rw [wipe_set e]
    · have hv : i = v := (List.mem_cons.mp h).resolve_right e
      subst hv
      have w : ∀ (vs : List Nat) (σ : L2.St), i ∉ vs → wipe (σ.set i o) vs = (wipe σ vs).set i o := by
        intro vs
        induction vs with
        | nil => intro σ _; rfl
        | cons a r ih =>
          intro σ hn
          show (wipe (σ.set i o) r).set a none = ((wipe σ r).set a none).set i o
          rw [ih σ (fun z => hn (List.mem_cons_of_mem _ z)), List.set_comm]
          exact fun z => hn (by rw [z]; exact List.mem_cons_self)
      show (wipe (σ.set i o) vs).set i none = (wipe σ vs).set i none
      rw [w vs σ e, List.set_set]
def GT (K : Fg) (g : TG) (sl sl' : List Sl) (js : List Nat) (x : α) : Prop := ∀ σ Kn H v, SlsOk K Kn sl σ → Ex Kn H → rep K Kn v x → ∀ Q : L2.St → Hp → Prop, (∀ σ', SlsOk K Kn sl' σ' → (∀ vs, (∀ j ∈ js, j ∈ vs) → wipe σ' vs = wipe σ vs) → Q σ' H) → g v σ H Q
def GTs (K : Fg) (g : TGs) (sl sl' : List Sl) (js : List Nat) (t : τ) : Prop := ∀ σ Kn H vs, SlsOk K Kn sl σ → Ex Kn H → rept K Kn vs t → ∀ Q : L2.St → Hp → Prop, (∀ σ', SlsOk K Kn sl' σ' → (∀ vs, (∀ j ∈ js, j ∈ vs) → wipe σ' vs = wipe σ vs) → Q σ' H) → g vs σ H Q
theorem gt_name {i : Nat} {x : α} (hs : sl.set i (sv x) = sl') : GT K (gName i) sl sl' [i] x := fun σ Kn H v s ek r Q q => q _ (hs ▸ SlsOk.set (s := sv x) ⟨v, rfl, r⟩ i s) fun vs h => wipe_set (h i (by simp))
theorem gts_nil : GTs K gNil sl sl [] () := fun σ Kn H vs s ek r Q q => ⟨r, q σ s fun _ _ => rfl⟩
theorem gts_cons {g : TG} {gs : TGs} {js ks : List Nat} {x : α} {t : τ} (h1 : GT K g sl sl' js x) (h2 : GTs K gs sl' sl2 ks t) : GTs K (gCons g gs) sl sl2 (js ++ ks) (x, t) := fun σ Kn H vs s ek r Q q => by
  obtain ⟨v, rest, rfl, r1, r2⟩ := r
  exact ⟨v, rest, rfl, h1 σ Kn H v s ek r1 _ fun σ1 s1 w1 => h2 σ1 Kn H rest s1 ek r2 _ fun σ2 s2 w2 => q σ2 s2 fun vs h => (w2 vs fun j hj => h j (List.mem_append_right _ hj)).trans (w1 vs fun j hj => h j (List.mem_append_left _ hj))⟩
theorem gt_tup {gs : TGs} {js : List Nat} {n : Nat} {t : α × τ} (h : GTs K gs sl sl' js t) (hn : Tp.n (α × τ) = n := by rfl) : GT K (gTup K n gs) sl sl' js t := fun σ Kn H v s ek r Q q => by
  obtain ⟨p, ws, rfl, h1, h2⟩ := r
  exact ⟨p, ws, rfl, st_of (ek _ _ h1), (Tp.len h2).trans hn, h σ Kn H ws s ek h2 Q q⟩
end
section
variable {K : Fg} {F Kn0 : Hp} {sl sl' : List Sl} {ow ow1 : List Ow} {α : Type} [Rp α] {te : TE} {x : α} {D : Ends} {g : TG} {js : List Nat}
/-- a, b = e -/
theorem sb_unp (h : EV K F Kn0 sl ow te x) (hg : GT K g sl sl' js x) (k : SN K F Kn0 sl' ow D) : SB K F Kn0 sl ow D (tAsg te g) := fun σ Kn H s =>
  h σ Kn H s _ fun v Kn1 H1 g1 r1 => by
    have s1 := s.grow g1
    exact hg σ Kn1 H1 v s1.sl s1.ek r1 _ fun σ' h' _ => k σ' Kn1 H1 ⟨s1.e0, s1.ek, s1.ef, s1.sep, h', s1.ow⟩
theorem sb_unpM (h : EM K F Kn0 sl ow te ow1 x) (hg : GT K g sl sl' js x) (k : SN K F Kn0 sl' ow1 D) : SB K F Kn0 sl ow D (tAsg te g) := fun σ Kn H s =>
  h σ Kn H s _ fun v Kn1 H1 e1 s1 r1 => hg σ Kn1 H1 v s1.sl s1.ek r1 _ fun σ' h' _ => k σ' Kn1 H1 ⟨s1.e0, s1.ek, s1.ef, s1.sep, h', s1.ow⟩
/-- a, b = e1, e2 -/
theorem sb_par {α β : Type} [Rp α] [Rp β] {ta : TA} {i j : Nat} {x : α} {y : β} (hs : (sl.set i (sv x)).set j (sv y) = sl') (h : EA K F Kn0 sl ow ta (x, y, ())) (k : SN K F Kn0 sl' ow D) : SB K F Kn0 sl ow D (tPar i j ta) := fun σ Kn H s =>
  h σ Kn H s _ fun vs Kn1 H1 g1 r1 => by
    obtain ⟨v, w, rfl, h1, h2⟩ := two_args r1
    exact ⟨v, w, rfl, k _ Kn1 H1 (hs ▸ ((s.grow g1).setv i h1).setv j h2)⟩
end

/-! ### what is walked -/
def WK {β : Type} [Rp β] (K : Fg) (Kn1 : Hp) (J : It) (xs : List β) : Prop := ∀ i Kn' H', Ex Kn1 Kn' → Ex Kn' H' →
  (∀ x, xs[i]? = some x → J.go i H' ∧ ∀ v H2, J.yld i H' v H2 → ∃ Kn2, Gr Kn' H' Kn2 H2 ∧ rep K Kn2 v x) ∧ (xs.length ≤ i → J.stop i H')
section
variable (K : Fg) (F Kn0 : Hp) (sl : List Sl) (ow : List Ow)
def IT {β : Type} [Rp β] (wi : TI) (xs : List β) : Prop := ∀ σ Kn H, S K F Kn0 sl ow σ Kn H → ∀ R : It → Hp → Prop, (∀ J Kn1 H1, Gr Kn H Kn1 H1 → WK K Kn1 J xs → R J H1) → wi σ H R
def ITM {β : Type} [Rp β] (wi : TI) (ow' : List Ow) (xs : List β) : Prop := ∀ σ Kn H, S K F Kn0 sl ow σ Kn H → ∀ R : It → Hp → Prop, (∀ J Kn1 H1, Ex Kn Kn1 → S K F Kn0 sl ow' σ Kn1 H1 → WK K Kn1 J xs → R J H1) → wi σ H R
end
/-- lo, lo + 1 .. below hi -/
def irange (lo hi : Int) : List Int := (List.range (hi - lo).toNat).map fun (k : Nat) => lo + (k : Int)
def rngO (lo hi : Int) : Option (List Int) := if -1000000000000 ≤ lo ∧ lo ≤ 1000000000000 ∧ -1000000000000 ≤ hi ∧ hi ≤ 1000000000000 then some (irange lo hi) else none
def enumI {α : Type} (xs : List α) : List (Int × α × Unit) := xs.mapIdx fun i x => ((i : Int), x, ())
def zipI {α β : Type} (xs : List α) (ys : List β) : List (α × β × Unit) := List.zipWith (fun a b => (a, b, ())) xs ys
section
variable {K : Fg} {F Kn0 : Hp} {sl sl' : List Sl} {ow ow1 : List Ow} {α β : Type} [Rp α] [Rp β] {te : TE} {ta : TA}
theorem IT.m {wi : TI} {xs : List β} (h : IT K F Kn0 sl ow wi xs) : ITM K F Kn0 sl ow wi ow xs := fun σ Kn H s R q => h σ Kn H s R fun J Kn1 H1 g w => q J Kn1 H1 g.kk (s.grow g) w
theorem wk_list {Kn1 : Hp} {p : Addr} {ws : List V} {xs : List α} (h : SqL K Kn1 p ws) (r : Paired (rep K Kn1) ws xs) : WK K Kn1 (Itl K p) xs := fun i Kn' H' e1 e2 => by
  have hq : SqL K H' p ws := ex_l (e1.trans e2) h
  refine ⟨fun x hx => ?_, fun hl => ⟨ws, hq, by rw [paired_len r]; exact hl⟩⟩
  obtain ⟨v, hv, rv⟩ := paired_at r hx
  refine ⟨⟨ws, v, hq, hv⟩, fun u H2 hy => ?_⟩
  obtain ⟨rfl, f⟩ := hy
  have : v = u := Option.some.inj (hv.symm.trans (f ws hq))
  subst this
  exact ⟨Kn', Gr.refl e2, Rp.mono e1 rv⟩
theorem it_list {xs : List α} (h : EV K F Kn0 sl ow te xs) : IT K F Kn0 sl ow (iList K te) xs := fun σ Kn H s R q => h σ Kn H s _ fun v Kn1 H1 g1 r1 => by
  obtain ⟨p, ws, rfl, h3, h4⟩ := r1
  exact ⟨p, rfl, ⟨ws, sq_of (g1.kh _ _ h3)⟩, q _ Kn1 H1 g1 (wk_list (sq_of h3) h4)⟩
theorem it_listF {xs : Fz α} (h : EV K F Kn0 sl ow te xs) : IT K F Kn0 sl ow (iList K te) xs.l := fun σ Kn H s R q => h σ Kn H s _ fun v Kn1 H1 g1 r1 => by
  obtain ⟨p, ws, rfl, h3, h4⟩ := r1
  exact ⟨p, rfl, ⟨ws, ex_l g1.kh h3⟩, q _ Kn1 H1 g1 (wk_list h3 h4)⟩
theorem itm_list {xs : List α} (h : ENM K F Kn0 sl ow te ow1 xs) : ITM K F Kn0 sl ow (iList K te) ow1 xs := fun σ Kn H s R q => h σ Kn H s _ fun p ws Kn1 H1 e1 s1 fp kp no hw r1 => by
  have s2 := s1.know (o := .lst ws) fp kp no hw
  exact ⟨p, rfl, ⟨ws, sq_of hw⟩, q _ _ H1 (e1.trans (Ex.new kp)) s2 (wk_list (sq_of upd_same) (paired_mono (Ex.new kp) r1))⟩
theorem it_tup {xs : Tu α} (h : EV K F Kn0 sl ow te xs) : IT K F Kn0 sl ow (iTup K te) xs.l := fun σ Kn H s R q => h σ Kn H s _ fun v Kn1 H1 g1 r1 => by
  obtain ⟨p, ws, rfl, h3, h4⟩ := r1
  refine ⟨p, rfl, ⟨ws, st_of (g1.kh _ _ h3)⟩, q _ Kn1 H1 g1 fun i Kn' H' e1 e2 => ?_⟩
  have hq : SqT K H' p ws := st_of ((e1.trans e2) _ _ h3)
  refine ⟨fun x hx => ?_, fun hl => ⟨ws, hq, by rw [paired_len h4]; exact hl⟩⟩
  obtain ⟨v, hv, rv⟩ := paired_at h4 hx
  refine ⟨⟨ws, v, hq, hv⟩, fun u H2 hy => ?_⟩
  obtain ⟨rfl, f⟩ := hy
  have : v = u := Option.some.inj (hv.symm.trans (f ws hq))
  subst this
  exact ⟨Kn', Gr.refl e2, Rp.mono e1 rv⟩
theorem wk_range {Kn1 : Hp} (lo hi : Int) : WK K Kn1 (Itr lo (hi - lo).toNat) (irange lo hi) := fun i Kn' H' e1 e2 => by
  refine ⟨fun x hx => ?_, fun hl => ?_⟩
  · unfold irange at hx
    rw [List.getElem?_map] at hx
    cases q : (List.range (hi - lo).toNat)[i]? with
    | none => rw [q] at hx; cases hx
    | some m =>
      rw [q] at hx
      obtain ⟨hlt, he⟩ := List.getElem?_eq_some_iff.mp q
      rw [List.getElem_range] at he
      rw [List.length_range] at hlt
      subst he
      cases hx
      refine ⟨hlt, fun v H2 hy => ?_⟩
      obtain ⟨rfl, rfl⟩ := hy
      exact ⟨Kn', Gr.refl e2, rfl⟩
  · unfold irange at hl
    rw [List.length_map, List.length_range] at hl
    exact hl
theorem it_rng1 {n : Int} {xs : List Int} (h : EA K F Kn0 sl ow ta (n, ())) (hx : rngO 0 n = some xs) : IT K F Kn0 sl ow (iRng1 ta) xs := fun σ Kn H s R q => h σ Kn H s _ fun vs Kn1 H1 g1 r1 => by
  obtain ⟨v, rfl, h1⟩ := one_arg r1
  cases h1
  unfold rngO at hx
  split at hx
  · rename_i hb
    cases hx
    refine ⟨n, rfl, by omega, by omega, q _ Kn1 H1 g1 ?_⟩
    have w := wk_range (K := K) (Kn1 := Kn1) 0 n
    rw [Int.sub_zero] at w
    exact w
  · cases hx
theorem itm_rng1 {n : Int} {xs : List Int} (h : EAM K F Kn0 sl ow ta ow1 (n, ())) (hx : rngO 0 n = some xs) : ITM K F Kn0 sl ow (iRng1 ta) ow1 xs := fun σ Kn H s R q => h σ Kn H s _ fun vs Kn1 H1 e1 s1 r1 => by
  obtain ⟨v, rfl, h1⟩ := one_arg r1
  cases h1
  unfold rngO at hx
  split at hx
  · rename_i hb
    cases hx
    refine ⟨n, rfl, by omega, by omega, q _ Kn1 H1 e1 s1 ?_⟩
    have w := wk_range (K := K) (Kn1 := Kn1) 0 n
    rw [Int.sub_zero] at w
    exact w
  · cases hx
theorem it_rng2 {lo n : Int} {xs : List Int} (h : EA K F Kn0 sl ow ta (lo, n, ())) (hx : rngO lo n = some xs) : IT K F Kn0 sl ow (iRng2 ta) xs := fun σ Kn H s R q => h σ Kn H s _ fun vs Kn1 H1 g1 r1 => by
  obtain ⟨v, w, rfl, h1, h2⟩ := two_args r1
  cases h1
  cases h2
  unfold rngO at hx
  split at hx
  · rename_i hb
    cases hx
    exact ⟨lo, n, rfl, ⟨by omega, by omega, by omega, by omega⟩, q _ Kn1 H1 g1 (wk_range lo n)⟩
  · cases hx
theorem enum_get {xs : List α} {i : Nat} {y : Int × α × Unit} (h : (enumI xs)[i]? = some y) : ∃ x, xs[i]? = some x ∧ y = ((i : Int), x, ()) := by
  unfold enumI at h
  rw [List.getElem?_mapIdx] at h
  cases q : xs[i]? with
  | none => rw [q] at h; cases h
  | some x => rw [q] at h; cases h; exact ⟨x, rfl, rfl⟩
theorem wk_enum {Kn1 : Hp} {p : Addr} {ws : List V} {xs : List α} (h : SqL K Kn1 p ws) (r : Paired (rep K Kn1) ws xs) : WK K Kn1 (Ite K p) (enumI xs) := fun i Kn' H' e1 e2 => by
  have hq : SqL K H' p ws := ex_l (e1.trans e2) h
  refine ⟨fun y hy => ?_, fun hl => ⟨ws, hq, by rw [paired_len r]; simpa [enumI] using hl⟩⟩
  obtain ⟨x, hx, rfl⟩ := enum_get hy
  obtain ⟨v, hv, rv⟩ := paired_at r hx
  refine ⟨⟨ws, v, hq, hv⟩, fun u H2 hy => ?_⟩
  obtain ⟨T, z, rfl, hT, rfl, f⟩ := hy
  have : v = z := Option.some.inj (hv.symm.trans (f ws hq))
  subst this
  have g : Gr Kn' H' (upd Kn' T (.tup [.int (i : Nat), v])) (upd H' T (.tup [.int (i : Nat), v])) := Gr.new e2 hT
  exact ⟨_, g, T, _, rfl, upd_same, .int (i : Nat), [v], rfl, rfl, v, [], rfl, Rp.mono (e1.trans g.kk) rv, rfl⟩
theorem it_enum {xs : List α} (h : EA K F Kn0 sl ow ta (xs, ())) : IT K F Kn0 sl ow (iEnum K ta) (enumI xs) := fun σ Kn H s R q => h σ Kn H s _ fun vs Kn1 H1 g1 r1 => by
  obtain ⟨v, rfl, p, ws, rfl, h3, h4⟩ := one_arg r1
  exact ⟨p, ws, rfl, sq_of (g1.kh _ _ h3), q _ Kn1 H1 g1 (wk_enum (sq_of h3) h4)⟩
theorem zip_get {xs : List α} {ys : List β} {i : Nat} {z : α × β × Unit} (h : (zipI xs ys)[i]? = some z) : ∃ x y, xs[i]? = some x ∧ ys[i]? = some y ∧ z = (x, y, ()) := by
  unfold zipI at h
  rw [List.getElem?_zipWith] at h
  cases q : xs[i]? with
  | none => rw [q] at h; simp at h
  | some x =>
    cases q2 : ys[i]? with
    | none => rw [q, q2] at h; simp at h
    | some y =>
      rw [q, q2] at h
      simp at h
      exact ⟨x, y, rfl, rfl, h.symm⟩
theorem it_zip {xs : List α} {ys : List β} (h : EA K F Kn0 sl ow ta (xs, ys, ())) : IT K F Kn0 sl ow (iZip K ta) (zipI xs ys) := fun σ Kn H s R q => h σ Kn H s _ fun vs Kn1 H1 g1 r1 => by
  obtain ⟨v, w, rfl, ⟨p, ws, rfl, h3, h4⟩, ⟨p2, ws2, rfl, h5, h6⟩⟩ := two_args r1
  refine ⟨p, p2, ws, ws2, rfl, sq_of (g1.kh _ _ h3), sq_of (g1.kh _ _ h5), q _ Kn1 H1 g1 fun i Kn' H' e1 e2 => ?_⟩
  have hq : SqL K H' p ws := sq_of ((e1.trans e2) _ _ h3)
  have hq2 : SqL K H' p2 ws2 := sq_of ((e1.trans e2) _ _ h5)
  refine ⟨fun y hy => ?_, fun hl => ⟨ws, ws2, hq, hq2, ?_⟩⟩
  · obtain ⟨x, y, hx, hy2, rfl⟩ := zip_get hy
    obtain ⟨v, hv, rv⟩ := paired_at h4 hx
    obtain ⟨v2, hv2, rv2⟩ := paired_at h6 hy2
    refine ⟨⟨ws, ws2, v, v2, hq, hq2, hv, hv2⟩, fun u H2 hy => ?_⟩
    obtain ⟨T, z, z2, rfl, hT, rfl, f, f2⟩ := hy
    have e3 : v = z := Option.some.inj (hv.symm.trans (f ws hq))
    have e4 : v2 = z2 := Option.some.inj (hv2.symm.trans (f2 ws2 hq2))
    subst e3
    subst e4
    have g : Gr Kn' H' (upd Kn' T (.tup [v, v2])) (upd H' T (.tup [v, v2])) := Gr.new e2 hT
    exact ⟨_, g, T, _, rfl, upd_same, v, [v2], rfl, Rp.mono (e1.trans g.kk) rv, v2, [], rfl, Rp.mono (e1.trans g.kk) rv2, rfl⟩
  · rw [paired_len h4, paired_len h6]
    simp [zipI] at hl
    omega
end

/-! ### loops -/
structure Bs (F Kn0 Kn1 : Hp) : Prop where
  e : Ex Kn0 Kn1
  sp : ∀ p, F p ≠ none → Kn0 p = none → Kn1 p = none
section
variable {K : Fg} {F Kn0 Kn1 : Hp} {sl sl' : List Sl} {ow ow0 ow1 : List Ow} {α β γ : Type} [Rp α] [Rp β] [Rp γ] {D : Ends} {σ : L2.St} {Kn H : Hp}
theorem Bs.refl : Bs F Kn0 Kn0 := ⟨Ex.refl _, fun _ _ h => h⟩
theorem S.bs (s : S K F Kn0 sl ow σ Kn H) : Bs F Kn0 Kn := ⟨s.e0, s.sep⟩
theorem S.rebase (s : S K F Kn0 sl ow σ Kn H) : S K F Kn sl ow σ Kn H := ⟨Ex.refl _, s.ek, s.ef, fun _ _ h => h, s.sl, s.ow⟩
theorem S.unbase (b : Bs F Kn0 Kn1) (s : S K F Kn1 sl ow σ Kn H) : S K F Kn0 sl ow σ Kn H := ⟨b.e.trans s.e0, s.ek, s.ef, fun p h1 h2 => s.sep p h1 (b.sp p h1 h2), s.sl, s.ow⟩
theorem RT.base {R : VK} {x : α} (q : RT K F Kn0 ow R x) (b : Bs F Kn0 Kn1) : RT K F Kn1 ow R x := fun v Kn H s => q v Kn H (s.unbase b)
theorem RN.base {R : VK} {xs : List α} (q : RN K F Kn0 ow R xs) (b : Bs F Kn0 Kn1) : RN K F Kn1 ow R xs := fun p ws Kn H s => q p ws Kn H (s.unbase b)
theorem SN.base (q : SN K F Kn0 sl ow D) (b : Bs F Kn0 Kn1) : SN K F Kn1 sl ow D := fun σ Kn H s => q σ Kn H (s.unbase b)
theorem sb_for {wi : TI} {g : TG} {tb : TS} {Sx : Type} {xs : List β} (slx : Sx → List Sl) (owx : Sx → List Ow) (gx : β → Sx → List Sl) (js : List Nat) (P : List β → Sx → Prop) (s0 : Sx) (hi : ITM K F Kn0 sl ow wi ow1 xs) (h0 : P xs s0) (le : SlLe sl (slx s0)) (eo : (owx s0).Sublist ow1)
    (hg : ∀ x s, GT K g (slx s) (gx x s) js x)
    (step : ∀ Kn1, Bs F Kn0 Kn1 → ∀ x rest s, P (x :: rest) s → ∀ N : L2.St → Hp → Prop, (∀ s', P rest s' → ∀ σ Kn H, S K F Kn1 (slx s') (owx s') σ Kn H → N σ H) → SB K F Kn1 (gx x s) (owx s) { D with nx := N, ct := N, bk := D.nx } tb)
    (done : ∀ s, P [] s → SN K F Kn0 (slx s) (owx s) D) : SB K F Kn0 sl ow D (tFor wi g tb) := fun σ Kn H s =>
  hi σ Kn H s _ fun J Kn1 H1 e1 s1 w => by
    have b : Bs F Kn0 Kn1 := s1.bs
    refine ⟨fun i m σ H => i + m = xs.length ∧ ∃ Kn s, P (xs.drop i) s ∧ S K F Kn1 (slx s) (owx s) σ Kn H, ⟨xs.length, by omega, Kn1, s0, h0, (s1.rebase.le le).sub eo⟩, fun i m σ H hW => ?_⟩
    obtain ⟨em, Kn, s, hP, hS⟩ := hW
    by_cases hlt : i < xs.length
    · have hx : xs[i]? = some xs[i] := List.getElem?_eq_getElem hlt
      have hd : xs.drop i = xs[i] :: xs.drop (i + 1) := List.drop_eq_getElem_cons hlt
      rw [hd] at hP
      obtain ⟨go, yl⟩ := (w i Kn H hS.e0 hS.ek).1 _ hx
      refine .inr ⟨go, fun σ' H' => ∃ Kn s, P (xs.drop (i + 1)) s ∧ S K F Kn1 (slx s) (owx s) σ' Kn H', fun σ' H' ⟨Kn', s', h1, h2⟩ => ⟨m - 1, by omega, by omega, Kn', s', h1, h2⟩, fun v H' hy => ?_⟩
      obtain ⟨Kn2, g2, rv⟩ := yl v H' hy
      have hS2 := hS.grow g2
      refine hg _ s σ Kn2 H' v hS2.sl hS2.ek rv _ fun σ2 h2 _ => ?_
      exact step Kn1 b _ _ s hP _ (fun s' hs' σ Kn H hS' => ⟨Kn, s', hs', hS'⟩) σ2 Kn2 H' ⟨hS2.e0, hS2.ek, hS2.ef, hS2.sep, h2, hS2.ow⟩
    · have hd : xs.drop i = [] := List.drop_eq_nil_of_le (by omega)
      rw [hd] at hP
      exact .inl ⟨(w i Kn H hS.e0 hS.ek).2 (by omega), done s hP σ Kn H (hS.unbase b)⟩
theorem sb_while {tt : TT} {tb : TS} {Sx : Type} (slx : Sx → List Sl) (owx : Sx → List Ow) (P : Nat → Sx → Prop) (n0 : Nat) (s0 : Sx) (h0 : P n0 s0) (le : SlLe sl (slx s0)) (eo : (owx s0).Sublist ow)
    (step : ∀ n s, P n s → ∃ b, ET K F Kn0 (slx s) (owx s) tt b ∧
      (b = true → ∀ N : L2.St → Hp → Prop, (∀ m s', m < n → P m s' → ∀ σ Kn H, S K F Kn0 (slx s') (owx s') σ Kn H → N σ H) → SB K F Kn0 (slx s) (owx s) { D with nx := N, ct := N, bk := D.nx } tb) ∧ (b = false → SN K F Kn0 (slx s) (owx s) D)) :
    SB K F Kn0 sl ow D (tWhile tt tb) := fun σ Kn H s => by
  refine ⟨fun n σ H => ∃ Kn s, P n s ∧ S K F Kn0 (slx s) (owx s) σ Kn H, ⟨n0, Kn, s0, h0, (s.le le).sub eo⟩, fun n σ H hW => ?_⟩
  obtain ⟨Kn, s, hP, hS⟩ := hW
  obtain ⟨b, h1, h2, h3⟩ := step n s hP
  refine h1 σ Kn H hS _ fun Kn1 H1 g1 => ?_
  cases b with
  | true => exact iteT ⟨fun σ H => ∃ m Kn s, m < n ∧ P m s ∧ S K F Kn0 (slx s) (owx s) σ Kn H, fun σ' H' ⟨m, Kn', s', hm, hp, hs⟩ => ⟨m, hm, Kn', s', hp, hs⟩, h2 rfl _ (fun m s' hm hp σ Kn H hs => ⟨m, Kn, s', hm, hp, hs⟩) σ Kn1 H1 (hS.grow g1)⟩
  | false => exact iteF (h3 rfl σ Kn1 H1 (hS.grow g1))
end

/-! ### comprehensions -/
def lcGo {β γ : Type} (c : β → Option Bool) (f : β → Option γ) : List β → Option (List γ)
  | [] => some []
  | x :: xs => (c x).bind fun b => if b = true then (f x).bind fun z => (lcGo c f xs).bind fun zs => some (z :: zs) else lcGo c f xs
def lcM {β γ : Type} (c : β → Option Bool) (f : β → Option γ) (xs : List β) : Option (List γ) := if xs.length < 1000000 then lcGo c f xs else none
def lcSGo {β γ Sx : Type} (f : β → Sx → Option (γ × Sx)) : List β → Sx → Option (List γ × Sx)
  | [], s => some ([], s)
  | x :: xs, s => (f x s).bind fun r => (lcSGo f xs r.2).bind fun q => some (r.1 :: q.1, q.2)
def lcS {β γ Sx : Type} (f : β → Sx → Option (γ × Sx)) (xs : List β) (s : Sx) : Option (List γ × Sx) := if xs.length < 1000000 then lcSGo f xs s else none
section
variable {K : Fg} {F Kn0 : Hp} {sl sl' : List Sl} {ow ow0 ow1 : List Ow} {α β γ : Type} [Rp α] [Rp β] [Rp γ] {σ : L2.St} {Kn H : Hp} {tt : TT} {te : TE} {wi : TI} {g : TG} {vs js : List Nat}
theorem bind_some {α β : Type} {m : Option α} {f : α → Option β} {r : β} (h : m.bind f = some r) : ∃ a, m = some a ∧ f a = some r := by
  cases m with
  | none => cases h
  | some a => exact ⟨a, rfl, h⟩
theorem SlsOk.wipe : ∀ {vs : List Nat} {Kn : Hp} {sl : List Sl} {σ : L2.St}, (∀ j ∈ vs, sl[j]? = some .any) → SlsOk K Kn sl σ → SlsOk K Kn sl (wipe σ vs)
  | [], _, _, _, _, h => h
  | v :: vs, Kn, sl, σ, hv, h => by
    have h1 := SlsOk.wipe (vs := vs) (fun j hj => hv j (List.mem_cons_of_mem _ hj)) h
    have h2 := SlsOk.set (K := K) (H := Kn) (s := .any) (o := none) trivial v h1
    have e : sl.set v .any = sl := by
      refine List.ext_getElem? fun m => ?_
      have hm := hv v List.mem_cons_self
      by_cases q : v = m
      · subst q
        rw [List.getElem?_set_self (List.getElem?_eq_some_iff.mp hm).1, hm]
      · rw [List.getElem?_set_ne q]
    rw [e] at h2
    exact h2
theorem S.wipe (s : S K F Kn0 sl ow σ Kn H) (hv : ∀ j ∈ vs, sl[j]? = some .any) : S K F Kn0 sl ow (wipe σ vs) Kn H := ⟨s.e0, s.ek, s.ef, s.sep, s.sl.wipe hv, s.ow⟩
theorem Gr.mut {Kn' H' : Hp} {p : Addr} {o : HO} (g : Gr Kn H Kn' H') (hp : H p = none) (kp : Kn' p = none) : Gr Kn H Kn' (upd H' p o) :=
  ⟨g.kk, Ex.mut g.hh hp, upd_in g.kh kp, g.sp⟩
theorem S.slots {σ2 : L2.St} (s : S K F Kn0 sl ow σ Kn H) (h : SlsOk K Kn sl' σ2) : S K F Kn0 sl' ow σ2 Kn H := ⟨s.e0, s.ek, s.ef, s.sep, h, s.ow⟩
theorem en_lc {xs : List β} {zs : List γ} {c : β → Option Bool} {f : β → Option γ} (gx : β → List Sl) (hm : lcM c f xs = some zs) (hi : IT K F Kn0 sl ow wi xs) (hv : ∀ j ∈ vs, sl[j]? = some .any) (hg : ∀ x, GT K g sl (gx x) js x) (hj : ∀ j ∈ js, j ∈ vs)
    (ht : ∀ p (acc : List γ) x b, c x = some b → ET K F Kn0 (gx x) (ol p acc :: ow) tt b) (he : ∀ p (acc : List γ) x z, c x = some true → f x = some z → EV K F Kn0 (gx x) (ol p acc :: ow) te z) :
    EN K F Kn0 sl ow (tLc wi g tt te vs) zs := fun σ Kn H s Q q => by
  unfold lcM at hm
  split at hm
  case isFalse => cases hm
  rename_i hlen
  refine hi σ Kn H s _ fun J Kn1 H1 g1 w D hD => ?_
  have s1 := s.grow g1
  have kD : Kn1 D = none := fresh_back s1.ek hD
  have fD : F D = none := fresh_back s1.ef hD
  refine ⟨fun i m H' => i + m = xs.length ∧ ∃ Kn' ws acc rest, Gr Kn1 H1 Kn' H' ∧ Kn' D = none ∧ H' D = some (.lst ws) ∧ Paired (rep K Kn') ws acc ∧ acc.length ≤ i ∧ lcGo c f (xs.drop i) = some rest ∧ acc ++ rest = zs,
    ⟨xs.length, by omega, Kn1, [], [], zs, (Gr.newU g1.kh hD), kD, upd_same, .nil, Nat.le_refl _, hm, rfl⟩, fun i m H' hW => ?_⟩
  obtain ⟨em, Kn', ws, acc, rest, gr, kD', hD', rp, hal, hrest, hz⟩ := hW
  have s' : S K F Kn0 sl (ol D acc :: ow) σ Kn' H' := (s1.grow gr).own fD kD' (owned_ne s1 hD) hD' rp
  by_cases hlt : i < xs.length
  · have hx : xs[i]? = some xs[i] := List.getElem?_eq_getElem hlt
    have hd : xs.drop i = xs[i] :: xs.drop (i + 1) := List.drop_eq_getElem_cons hlt
    rw [hd] at hrest
    obtain ⟨b, hb, hrest⟩ := bind_some hrest
    obtain ⟨go, yl⟩ := (w i Kn' H' gr.kk gr.kh).1 _ hx
    refine .inr ⟨go, fun H'' => ∃ Kn' ws acc rest, Gr Kn1 H1 Kn' H'' ∧ Kn' D = none ∧ H'' D = some (.lst ws) ∧ Paired (rep K Kn') ws acc ∧ acc.length ≤ i + 1 ∧ lcGo c f (xs.drop (i + 1)) = some rest ∧ acc ++ rest = zs, fun H'' h => ⟨m - 1, by omega, by omega, h⟩, fun v H2 hy => ?_⟩
    obtain ⟨Kn2, g2, rv⟩ := yl v H2 hy
    have s2 := (s'.grow g2).wipe hv
    refine hg _ _ Kn2 H2 v s2.sl s2.ek rv _ fun σ3 h3 hw3 => ?_
    have s3 := s2.slots h3
    have hDn : H' D ≠ none := ne_none_of hD'
    refine ⟨(hw3 vs hj).trans ?_, ht D acc _ b hb σ3 Kn2 H2 s3 _ fun Kn3 H3 g3 => ?_⟩
    · have ww : ∀ (vs us : List Nat) (σ : L2.St), (∀ j ∈ vs, j ∈ us) → L2.wipe (L2.wipe σ vs) us = L2.wipe σ us := by
        intro vs
        induction vs with
        | nil => intro us σ _; rfl
        | cons a r ih =>
          intro us σ hh
          show L2.wipe ((L2.wipe σ r).set a none) us = L2.wipe σ us
          rw [wipe_set (hh a List.mem_cons_self)]
          exact ih us σ fun j hj => hh j (List.mem_cons_of_mem _ hj)
      exact ww vs vs σ fun _ h => h
    · have g123 : Gr Kn1 H1 Kn3 H3 := (gr.trans g2).trans g3
      have kD3 : Kn3 D = none := (g2.trans g3).sp D hDn kD'
      have hD3 : H3 D = some (.lst ws) := (g2.trans g3).hh _ _ hD'
      cases b with
      | true =>
        obtain ⟨z, hfz, hrest⟩ := bind_some (show (f xs[i]).bind _ = some rest from hrest)
        obtain ⟨zs', hzs, hrest⟩ := bind_some hrest
        cases hrest
        refine iteT (he D acc _ z hb hfz σ3 Kn3 H3 (s3.grow g3) _ fun y Kn4 H4 g4 ry => ?_)
        have g234 := (g2.trans g3).trans g4
        have kD4 : Kn4 D = none := g4.sp D (ne_none_of hD3) kD3
        refine ⟨ws, g4.hh _ _ hD3, by rw [paired_len rp]; exact lt_line (by omega), Kn4, ws ++ [y], acc ++ [z], zs', (gr.trans g234).mut hD kD4, kD4, upd_same, paired_append (paired_mono g234.kk rp) (.cons ry .nil), ?_, hzs, ?_⟩
        · rw [List.length_append, List.length_singleton]; omega
        · rw [List.append_assoc]; exact hz
      | false =>
        have hrest : lcGo c f (xs.drop (i + 1)) = some rest := hrest
        exact iteF ⟨Kn3, ws, acc, rest, g123, kD3, hD3, paired_mono (g2.trans g3).kk rp, by omega, hrest, hz⟩
  · have hd : xs.drop i = [] := List.drop_eq_nil_of_le (by omega)
    rw [hd] at hrest
    cases hrest
    rw [List.append_nil] at hz
    subst hz
    exact .inl ⟨(w i Kn' H' gr.kk gr.kh).2 (by omega), q D ws Kn' H' (g1.trans gr) (fresh_back g1.hh hD) kD' hD' rp⟩
theorem et_yes : ET K F Kn0 sl ow tYes true := fun σ Kn H s Q q => q Kn H (Gr.refl s.ek)
/-- what changes on the way: owx -/
theorem enm_lc {Sx : Type} {xs : List β} {zs : List γ} {f : β → Sx → Option (γ × Sx)} (owx : Sx → List Ow) (gx : β → List Sl) (s0 s9 : Sx) (hm : lcS f xs s0 = some (zs, s9)) (hi : ITM K F Kn0 sl ow wi (owx s0) xs) (hv : ∀ j ∈ vs, sl[j]? = some .any) (hg : ∀ x, GT K g sl (gx x) js x) (hj : ∀ j ∈ js, j ∈ vs)
    (he : ∀ Kn1, Bs F Kn0 Kn1 → ∀ p (acc : List γ) x s z s', f x s = some (z, s') → EM K F Kn1 (gx x) (ol p acc :: owx s) te (ol p acc :: owx s') z) :
    ENM K F Kn0 sl ow (tLc wi g tYes te vs) (owx s9) zs := fun σ Kn H s Q q => by
  unfold lcS at hm
  split at hm
  case isFalse => cases hm
  rename_i hlen
  refine hi σ Kn H s _ fun J Kn1 H1 e1 s1 w D hD => ?_
  have kD : Kn1 D = none := fresh_back s1.ek hD
  have fD : F D = none := fresh_back s1.ef hD
  have b1 : Bs F Kn0 Kn1 := s1.bs
  refine ⟨fun i m H' => i + m = xs.length ∧ ∃ Kn' st acc rest, S K F Kn1 sl (ol D acc :: owx st) σ Kn' H' ∧ acc.length ≤ i ∧ lcSGo f (xs.drop i) st = some (rest, s9) ∧ acc ++ rest = zs,
    ⟨xs.length, by omega, Kn1, s0, [], zs, ?_, Nat.le_refl _, hm, rfl⟩, fun i m H' hW => ?_⟩
  · have s2 := s1.rebase.grow (Gr.newU (o := .lst []) s1.ek hD)
    exact s2.own fD kD (owned_ne s1 hD) upd_same .nil
  obtain ⟨em, Kn', st, acc, rest, s', hal, hrest, hz⟩ := hW
  obtain ⟨_, kD', ws, hD', rp⟩ := s'.ow.each (ol D acc) List.mem_cons_self
  have hD' : H' D = some (.lst ws) := hD'
  by_cases hlt : i < xs.length
  · have hx : xs[i]? = some xs[i] := List.getElem?_eq_getElem hlt
    have hd : xs.drop i = xs[i] :: xs.drop (i + 1) := List.drop_eq_getElem_cons hlt
    rw [hd] at hrest
    obtain ⟨⟨z, st'⟩, hf, hrest⟩ := bind_some hrest
    obtain ⟨⟨zs', s9'⟩, hzs, hrest⟩ := bind_some hrest
    have h9 := Option.some.inj hrest
    have h91 : z :: zs' = rest := congrArg Prod.fst h9
    have h92 : s9' = s9 := congrArg Prod.snd h9
    rw [h92] at hzs
    subst h91
    obtain ⟨go, yl⟩ := (w i Kn' H' s'.e0 s'.ek).1 _ hx
    refine .inr ⟨go, fun H'' => ∃ Kn' st acc rest, S K F Kn1 sl (ol D acc :: owx st) σ Kn' H'' ∧ acc.length ≤ i + 1 ∧ lcSGo f (xs.drop (i + 1)) st = some (rest, s9) ∧ acc ++ rest = zs, fun H'' h => ⟨m - 1, by omega, by omega, h⟩, fun v H2 hy => ?_⟩
    obtain ⟨Kn2, g2, rv⟩ := yl v H2 hy
    have s2 := (s'.grow g2).wipe hv
    refine hg _ _ Kn2 H2 v s2.sl s2.ek rv _ fun σ3 h3 hw3 => ?_
    have s3 := s2.slots h3
    refine ⟨(hw3 vs hj).trans ?_, ?_⟩
    · have ww : ∀ (vs us : List Nat) (σ : L2.St), (∀ j ∈ vs, j ∈ us) → L2.wipe (L2.wipe σ vs) us = L2.wipe σ us := by
        intro vs
        induction vs with
        | nil => intro us σ _; rfl
        | cons a r ih =>
          intro us σ hh
          show L2.wipe ((L2.wipe σ r).set a none) us = L2.wipe σ us
          rw [wipe_set (hh a List.mem_cons_self)]
          exact ih us σ fun j hj => hh j (List.mem_cons_of_mem _ hj)
      exact ww vs vs σ fun _ h => h
    · unfold tYes
      refine iteT ?_
      refine he Kn1 b1 D acc _ st z st' hf σ3 Kn2 H2 s3 _ fun y Kn4 H4 e4 s4 ry => ?_
      obtain ⟨_, kD4, ws4, hD4, rp4⟩ := s4.ow.each (ol D acc) List.mem_cons_self
      have kD4 : Kn4 D = none := kD4
      have s5 : S K F Kn1 (gx xs[i]) (ol D (acc ++ [z]) :: owx st') σ3 Kn4 (upd H4 D (.lst (ws4 ++ [y]))) := s4.write (j := 0) (xs' := acc ++ [z]) rfl (Ex.refl _) (upd_in s4.ek kD4) (fun q hq _ => upd_ne hq) (fun _ _ h => h) upd_same (paired_append rp4 (.cons ry .nil))
      have hsl : SlsOk K Kn4 sl σ := s'.sl.mono (g2.kk.trans e4)
      refine ⟨ws4, hD4, by rw [paired_len rp4]; exact lt_line (by omega), Kn4, st', acc ++ [z], zs', s5.slots hsl, ?_, hzs, ?_⟩
      · rw [List.length_append, List.length_singleton]; omega
      · rw [List.append_assoc]; exact hz
  · have hd : xs.drop i = [] := List.drop_eq_nil_of_le (by omega)
    rw [hd] at hrest
    have h9 := Option.some.inj hrest
    have h91 : [] = rest := congrArg Prod.fst h9
    have h92 : st = s9 := congrArg Prod.snd h9
    subst h91
    subst h92
    rw [List.append_nil] at hz
    subst hz
    have no : ∀ o ∈ owx st, o.ad ≠ D := fun o ho z => (List.nodup_cons.mp s'.ow.nd).1 (List.mem_map.mpr ⟨o, ho, z⟩)
    exact .inl ⟨(w i Kn' H' s'.e0 s'.ek).2 (by omega), q D ws Kn' H' (e1.trans s'.e0) ((s'.unbase b1).sub (List.sublist_cons_self _ _)) fD kD' no hD' rp⟩
end
end Wk
/-! Wk4: loops as functions, == of data, kinds, lists of one's own that are read -/
namespace Wk
open PySem PySem.Spec L2 Evl

/-! ### the mirrors' words -/
inductive Ctl (Sx R : Type) where
  | nx (s : Sx)
  | bk (s : Sx)
  | rt (r : R)
def forS {β Sx : Type} (f : β → Sx → Option Sx) : List β → Sx → Option Sx
  | [], s => some s
  | x :: xs, s => (f x s).bind (forS f xs)
def forC {β Sx R : Type} (f : β → Sx → Option (Ctl Sx R)) : List β → Sx → Option (Ctl Sx R)
  | [], s => some (.nx s)
  | x :: xs, s => (f x s).bind fun c => match c with
    | .nx s' => forC f xs s'
    | .bk s' => some (.nx s')
    | .rt r => some (.rt r)
def whileS {Sx : Type} (c : Sx → Option Bool) (f : Sx → Option Sx) : Nat → Sx → Option Sx
  | 0, _ => none
  | n + 1, s => (c s).bind fun b => if b = true then (f s).bind (whileS c f n) else some s
def whileC {Sx R : Type} (c : Sx → Option Bool) (f : Sx → Option (Ctl Sx R)) : Nat → Sx → Option (Ctl Sx R)
  | 0, _ => none
  | n + 1, s => (c s).bind fun b => if b = true then (f s).bind fun c' => match c' with
    | .nx s' => whileC c f n s'
    | .bk s' => some (.nx s')
    | .rt r => some (.rt r) else some (.nx s)
theorem whileS_more {Sx : Type} {c : Sx → Option Bool} {f : Sx → Option Sx} : ∀ {n m : Nat} {s r : Sx}, whileS c f n s = some r → n ≤ m → whileS c f m s = some r
  | 0, _, _, _, h, _ => by cases h
  | n + 1, 0, _, _, _, h => absurd h (Nat.not_succ_le_zero _)
  | n + 1, m + 1, s, r, h, hm => by
    unfold whileS at h ⊢
    cases e : c s with
    | none => rw [e] at h; cases h
    | some b =>
      rw [e] at h
      cases b with
      | false => exact h
      | true =>
        have h : ((f s).bind (whileS c f n)) = some r := h
        show ((f s).bind (whileS c f m)) = some r
        cases e2 : f s with
        | none => rw [e2] at h; cases h
        | some s' =>
          rw [e2] at h
          exact whileS_more (show whileS c f n s' = some r from h) (Nat.le_of_succ_le_succ hm)
theorem whileC_more {Sx R : Type} {c : Sx → Option Bool} {f : Sx → Option (Ctl Sx R)} : ∀ {n m : Nat} {s : Sx} {r : Ctl Sx R}, whileC c f n s = some r → n ≤ m → whileC c f m s = some r
  | 0, _, _, _, h, _ => by cases h
  | n + 1, 0, _, _, _, h => absurd h (Nat.not_succ_le_zero _)
  | n + 1, m + 1, s, r, h, hm => by
    unfold whileC at h ⊢
    cases e : c s with
    | none => rw [e] at h; cases h
    | some b =>
      rw [e] at h
      cases b with
      | false => exact h
      | true =>
        have h : ((f s).bind _) = some r := h
        show ((f s).bind _) = some r
        cases e2 : f s with
        | none => rw [e2] at h; cases h
        | some k =>
          rw [e2] at h
          cases k with
          | nx s' => exact whileC_more (show whileC c f n s' = some r from h) (Nat.le_of_succ_le_succ hm)
          | bk _ => exact h
          | rt _ => exact h
/-- a while, for as many turns as it takes -/
noncomputable def whileF {Sx : Type} (c : Sx → Option Bool) (f : Sx → Option Sx) (s : Sx) : Option Sx := by
  classical exact if h : ∃ n r, whileS c f n s = some r then some h.choose_spec.choose else none
theorem whileF_some {Sx : Type} {c : Sx → Option Bool} {f : Sx → Option Sx} {s r : Sx} (h : whileF c f s = some r) : ∃ n, whileS c f n s = some r := by
  unfold whileF at h
  split at h
  · rename_i he
    refine ⟨he.choose, ?_⟩
    rw [← Option.some.inj h]
    exact he.choose_spec.choose_spec
  · cases h
theorem whileF_of {Sx : Type} {c : Sx → Option Bool} {f : Sx → Option Sx} {n : Nat} {s r : Sx} (h : whileS c f n s = some r) : whileF c f s = some r := by
  have he : ∃ n r, whileS c f n s = some r := ⟨n, r, h⟩
  unfold whileF
  rw [dif_pos he]
  have h2 := he.choose_spec.choose_spec
  have a := whileS_more h (Nat.le_max_left n he.choose)
  have b := whileS_more h2 (Nat.le_max_right n he.choose)
  exact b.symm.trans a
noncomputable def whileCF {Sx R : Type} (c : Sx → Option Bool) (f : Sx → Option (Ctl Sx R)) (s : Sx) : Option (Ctl Sx R) := by
  classical exact if h : ∃ n r, whileC c f n s = some r then some h.choose_spec.choose else none
theorem whileCF_some {Sx R : Type} {c : Sx → Option Bool} {f : Sx → Option (Ctl Sx R)} {s : Sx} {r : Ctl Sx R} (h : whileCF c f s = some r) : ∃ n, whileC c f n s = some r := by
  unfold whileCF at h
  split at h
  · rename_i he
    refine ⟨he.choose, ?_⟩
    rw [← Option.some.inj h]
    exact he.choose_spec.choose_spec
  · cases h
theorem whileCF_of {Sx R : Type} {c : Sx → Option Bool} {f : Sx → Option (Ctl Sx R)} {n : Nat} {s : Sx} {r : Ctl Sx R} (h : whileC c f n s = some r) : whileCF c f s = some r := by
  have he : ∃ n r, whileC c f n s = some r := ⟨n, r, h⟩
  unfold whileCF
  rw [dif_pos he]
  have h2 := he.choose_spec.choose_spec
  have a := whileC_more h (Nat.le_max_left n he.choose)
  have b := whileC_more h2 (Nat.le_max_right n he.choose)
  exact b.symm.trans a
def appO {α : Type} (xs : List α) (x : α) : Option (List α) := if xs.length < 1000000 then some (xs ++ [x]) else none
def modO (i j : Int) : Option Int := if 0 < j then some (i % j) else none
def divO (i j : Int) : Option Int := if 0 < j ∧ j < 18446744073709551616 then some (i / j) else none
def mulO (i j : Int) : Option Int := if -18446744073709551616 < i ∧ i < 18446744073709551616 then some (i * j) else none
def catO {α : Type} (xs ys : List α) : Option (List α) := if xs.length + ys.length ≤ 1000000 then some (xs ++ ys) else none
theorem appO_some {α : Type} {xs ys : List α} {x : α} (h : appO xs x = some ys) : xs.length < 1000000 ∧ ys = xs ++ [x] := by
  unfold appO at h
  split at h
  · exact ⟨by assumption, (Option.some.inj h).symm⟩
  · cases h
theorem appO_ok {α : Type} {xs : List α} {x : α} (h : xs.length < 1000000) : appO xs x = some (xs ++ [x]) := if_pos h
theorem modO_ok {i j : Int} (h : 0 < j) : modO i j = some (i % j) := if_pos h
theorem divO_ok {i j : Int} (h : 0 < j) (h2 : j < 18446744073709551616) : divO i j = some (i / j) := if_pos ⟨h, h2⟩
theorem mulO_ok {i j : Int} (h : -18446744073709551616 < i) (h2 : i < 18446744073709551616) : mulO i j = some (i * j) := if_pos ⟨h, h2⟩
theorem catO_ok {α : Type} {xs ys : List α} (h : xs.length + ys.length ≤ 1000000) : catO xs ys = some (xs ++ ys) := if_pos h

section
variable {K : Fg} {F Kn0 : Hp} {sl sl' : List Sl} {ow ow0 ow1 ow2 : List Ow} {α β γ τ : Type} [Rp α] [Rp β] [Rp γ] [Tp τ] {ta tb te : TE} {x : α} {D : Ends} {t u tz : TS} {tt : TT} {b : Bool} {i j : Nat} {p : Addr}
theorem SB.sn (h : SB K F Kn0 sl ow D tz) : SN K F Kn0 sl ow { D with nx := tz D } := h
theorem r2_modO {i j z : Int} (h : modO i j = some z) : R2V K (rI (fun _ j => 0 < j) fun i j => .int (i % j)) i j z := by
  unfold modO at h
  split at h
  · cases h
    exact r2_I (by assumption)
  · cases h
theorem r2_divO {i j z : Int} (h : divO i j = some z) : R2V K (rI CDivW fun i j => .int (i / j)) i j z := by
  unfold divO at h
  split at h
  · rename_i hb
    cases h
    exact r2_I (wide_div (b := 64) hb.1 (by omega) (by decide) (by decide))
  · cases h
theorem r2_mulO {i j z : Int} (h : mulO i j = some z) : R2V K (rI CMul fun i j => .int (i * j)) i j z := by
  unfold mulO at h
  split at h
  · rename_i hb
    cases h
    exact r2_I (.inl ⟨by omega, by omega⟩)
  · cases h
theorem r2_catO {xs ys zs : List α} (h : catO xs ys = some zs) : R2L K rCat xs ys zs := by
  unfold catO at h
  split at h
  · cases h
    exact r2_cat (by assumption)
  · cases h
theorem sb_appO {xs xs' : List α} (hi : sl[i]? = some (.at p)) (hj : ow[j]? = some (ol p xs)) (h : EV K F Kn0 sl ow te x) (hx : appO xs x = some xs') (ho : ow.set j (ol p xs') = ow1) (k : SN K F Kn0 sl ow1 D) :
    SB K F Kn0 sl ow D (tDrop (tBM K "list" rAppend (tVar i) (tCons te tNil))) := by
  obtain ⟨h1, rfl⟩ := appO_some hx
  subst ho
  exact sb_app hi hj h h1 k
theorem sb_appOM {xs xs' : List α} (hi : sl[i]? = some (.at p)) (hi0 : ow[j]? = some (ol p xs)) (h : EM K F Kn0 sl ow te ow1 x) (hj : ow1[j]? = some (ol p xs)) (hx : appO xs x = some xs') (ho : ow1.set j (ol p xs') = ow2) (k : SN K F Kn0 sl ow2 D) :
    SB K F Kn0 sl ow D (tDrop (tBM K "list" rAppend (tVar i) (tCons te tNil))) := by
  obtain ⟨h1, rfl⟩ := appO_some hx
  subst ho
  exact sb_appM hi hi0 h hj h1 k
theorem sb_setO {xs xs' : List α} {n : Int} (hi : sl[i]? = some (.at p)) (hj : ow[j]? = some (ol p xs)) (h : EV K F Kn0 sl ow te x) (hn : EV K F Kn0 sl ow tb n) (hx : setI xs n x = some xs') (ho : ow.set j (ol p xs') = ow1) (k : SN K F Kn0 sl ow1 D) :
    SB K F Kn0 sl ow D (tAsg te (gSub (tVar i) tb rSetL)) := by
  subst ho
  exact sb_setI hi hj h hn hx k

/-! ### lists of one's own, read -/
theorem S.borrow {σ : L2.St} {Kn H : Hp} {xs : List α} (s : S K F Kn0 sl ow σ Kn H) (hi : sl[i]? = some (.at p)) (hj : ow[j]? = some (ol p xs)) : ∃ ws, Kn p = none ∧ H p = some (.lst ws) ∧ S K F Kn0 (sl.set i (sv xs)) (ow.eraseIdx j) σ (upd Kn p (.lst ws)) H := by
  obtain ⟨o, h1, h2⟩ := s.sl.get hi
  have h2 : o = some (.ref p) := h2
  obtain ⟨f1, f2, ws, f3, f4⟩ := s.ow.each _ (List.mem_of_getElem? hj)
  have s1 := s.sub (List.eraseIdx_sublist ow j)
  have no : ∀ o ∈ ow.eraseIdx j, o.ad ≠ p := fun o hm z => by
    obtain ⟨m, hm'⟩ := List.getElem?_of_mem hm
    rw [List.getElem?_eraseIdx] at hm'
    split at hm'
    · have := ow_at s.ow.nd hm' hj z
      omega
    · have := ow_at s.ow.nd hm' hj z
      omega
  have s2 := s1.know (o := .lst ws) f1 f2 no f3
  have hσ : σ.set i o = σ := by
    refine List.ext_getElem? fun m => ?_
    by_cases e : i = m
    · subst e
      rw [List.getElem?_set_self (List.getElem?_eq_some_iff.mp h1).1, h1]
    · rw [List.getElem?_set_ne e]
  have s3 := s2.set (x := sv xs) (o := o) i ⟨.ref p, h2, p, ws, rfl, upd_same, paired_mono (Ex.new f2) f4⟩
  rw [hσ] at s3
  exact ⟨ws, f2, f3, s3⟩
theorem ev_bor {γ : Type} [Rp γ] [Fl γ] {z : γ} {xs : List α} (hi : sl[i]? = some (.at p)) (hj : ow[j]? = some (ol p xs)) (hs : sl.set i (sv xs) = sl') (ho : ow.eraseIdx j = ow1) (h : EV K F Kn0 sl' ow1 te z) : EV K F Kn0 sl ow te z := fun σ Kn H s Q q => by
  obtain ⟨ws, kp, hp, s1⟩ := s.borrow hi hj
  subst hs
  subst ho
  exact h σ _ H s1 Q fun v Kn' H' g r => q v Kn H' ⟨Ex.refl _, g.hh, s.ek.trans g.hh, fun _ _ h => h⟩ (Fl.iff.mpr (Fl.iff.mp r))
theorem et_bor {xs : List α} (hi : sl[i]? = some (.at p)) (hj : ow[j]? = some (ol p xs)) (hs : sl.set i (sv xs) = sl') (ho : ow.eraseIdx j = ow1) (h : ET K F Kn0 sl' ow1 tt b) : ET K F Kn0 sl ow tt b := fun σ Kn H s Q q => by
  obtain ⟨ws, kp, hp, s1⟩ := s.borrow hi hj
  subst hs
  subst ho
  exact h σ _ H s1 Q fun Kn' H' g => q Kn H' ⟨Ex.refl _, g.hh, s.ek.trans g.hh, fun _ _ h => h⟩
theorem ev_ixO {xs : List α} {n : Int} {z : α} (hi : sl[i]? = some (.at p)) (hj : ow[j]? = some (ol p xs)) (hn : EV K F Kn0 sl ow tb n) (hz : atI xs n = some z) : EV K F Kn0 sl ow (tOp (rIxL K) (tVar i) tb) z := fun σ Kn H s Q q => by
  obtain ⟨o, h1, h2⟩ := s.sl.get hi
  obtain ⟨f1, f2, ws, f3, f4⟩ := s.ow.each _ (List.mem_of_getElem? hj)
  refine ⟨.ref p, by rw [h1]; exact congrArg some h2, hn σ Kn H s _ fun v Kn1 H1 g1 r1 => ?_⟩
  cases r1
  obtain ⟨u, e, r⟩ := paired_atI f4 hz
  exact ⟨p, ws, n, u, rfl, rfl, sq_of (g1.hh _ _ f3), e, q u Kn1 H1 g1 (Rp.mono g1.kk r)⟩
theorem en_slO {xs : List α} {tl th : TO} {lo hi : Option Int} (hx : sl[i]? = some (.at p)) (hj : ow[j]? = some (ol p xs)) (hl : EO K F Kn0 sl ow tl lo) (hh : EO K F Kn0 sl ow th hi) : EN K F Kn0 sl ow (tSl (rSlL K) (tVar i) tl th) (cut xs lo hi) := fun σ Kn H s Q q => by
  obtain ⟨o, h1, h2⟩ := s.sl.get hx
  obtain ⟨f1, f2, ws, f3, f4⟩ := s.ow.each _ (List.mem_of_getElem? hj)
  refine ⟨.ref p, by rw [h1]; exact congrArg some h2, hl σ Kn H s _ fun Kn2 H2 g2 => hh σ Kn2 H2 (s.grow g2) _ fun Kn3 H3 g3 => ?_⟩
  have g := g2.trans g3
  exact ⟨p, ws, rfl, sq_of (g.hh _ _ f3), fun l hl => q l _ Kn3 _ (g.trans (Gr.newU g3.kh hl)) (fresh_back g.hh hl) (fresh_back g3.kh hl) upd_same (paired_cut (paired_mono g.kk f4) lo hi)⟩
end

/-! ### == -/
class Pd (α : Type) [Rp α] where
  toD : α → PyData
  dp : Nat
  isD : ∀ {K : Fg} {H : Hp} {v : V} {a : α}, rep K H v a → Dp K H v (toD a)
  dep : ∀ a, (toD a).depth ≤ dp
  eqd : ∀ a b : α, PyData.eqv (toD a) (toD b) = true ↔ a = b
class Pq (τ : Type) [Tp τ] where
  toDs : τ → List PyData
  dp : Nat
  isD : ∀ {K : Fg} {H : Hp} {vs : List V} {a : τ}, rept K H vs a → DpAll K H vs (toDs a)
  dep : ∀ a, PyData.depthAll (toDs a) ≤ dp
  eqd : ∀ a b : τ, PyData.eqvAll (toDs a) (toDs b) = true ↔ a = b
def okD {α : Type} [Rp α] [Pd α] (a : α) : Bool := (Pd.toD a).canLay0
instance : Pd Int := { toD := .int, dp := 0, isD := fun h => by cases h; exact .int _, dep := fun a => Nat.le_refl _, eqd := fun a b => by simp [PyData.eqv] }
instance : Pd Bool := { toD := .bool, dp := 0, isD := fun h => by cases h; exact .bl _, dep := fun a => Nat.le_refl _, eqd := fun a b => by simp [PyData.eqv] }
instance : Pd Str := { toD := .str, dp := 0, isD := fun h => by cases h; exact .str _, dep := fun a => Nat.le_refl _, eqd := fun a b => by simp [PyData.eqv] }
theorem eqvAll_map {α : Type} [Rp α] [Pd α] : ∀ (xs ys : List α), PyData.eqvAll (xs.map Pd.toD) (ys.map Pd.toD) = true ↔ xs = ys
  | [], [] => by simp [PyData.eqvAll]
  | [], y :: ys => by simp [PyData.eqvAll]
  | x :: xs, [] => by simp [PyData.eqvAll]
  | x :: xs, y :: ys => by
    simp only [List.map_cons, PyData.eqvAll, Bool.and_eq_true, Pd.eqd, eqvAll_map xs ys, List.cons.injEq]
theorem depthAll_map {α : Type} [Rp α] [Pd α] : ∀ (xs : List α), PyData.depthAll (xs.map Pd.toD) ≤ Pd.dp α
  | [] => Nat.zero_le _
  | x :: xs => by
    simp only [List.map_cons, PyData.depthAll]
    exact Nat.max_le.mpr ⟨Pd.dep x, depthAll_map xs⟩
theorem dpAll_of {α : Type} [Rp α] [Pd α] {K : Fg} {H : Hp} : ∀ {vs : List V} {xs : List α}, Paired (rep K H) vs xs → DpAll K H vs (xs.map Pd.toD)
  | _, _, .nil => .nil
  | _, _, .cons r t => .cons (Pd.isD r) (dpAll_of t)
instance {α : Type} [Rp α] [Pd α] : Pd (List α) where
  toD xs := .list (xs.map Pd.toD)
  dp := Pd.dp α + 1
  isD h := by
    obtain ⟨p, vs, rfl, h1, h2⟩ := h
    exact .lst (sq_of h1) (dpAll_of h2)
  dep a := by
    simp only [PyData.depth]
    exact Nat.succ_le_succ (depthAll_map a)
  eqd a b := by
    simp only [PyData.eqv]
    exact eqvAll_map a b
instance {α : Type} [Rp α] [Pd α] : Pd (Tu α) where
  toD xs := .tuple (xs.l.map Pd.toD)
  dp := Pd.dp α + 1
  isD h := by
    obtain ⟨p, vs, rfl, h1, h2⟩ := h
    exact .tup (st_of h1) (dpAll_of h2)
  dep a := by
    simp only [PyData.depth]
    exact Nat.succ_le_succ (depthAll_map a.l)
  eqd a b := by
    simp only [PyData.eqv]
    rw [eqvAll_map]
    cases a
    cases b
    simp
instance : Pq Unit where
  toDs _ := []
  dp := 0
  isD h := by cases h; exact .nil
  dep _ := Nat.le_refl _
  eqd _ _ := by simp [PyData.eqvAll]
instance {α τ : Type} [Rp α] [Tp τ] [Pd α] [Pq τ] : Pq (α × τ) where
  toDs t := Pd.toD t.1 :: Pq.toDs t.2
  dp := max (Pd.dp α) (Pq.dp τ)
  isD h := by
    obtain ⟨v, r, rfl, h1, h2⟩ := h
    exact .cons (Pd.isD h1) (Pq.isD h2)
  dep a := by
    simp only [PyData.depthAll]
    exact Nat.max_le.mpr ⟨Nat.le_trans (Pd.dep _) (Nat.le_max_left _ _), Nat.le_trans (Pq.dep _) (Nat.le_max_right _ _)⟩
  eqd a b := by
    simp only [PyData.eqvAll, Bool.and_eq_true, Pd.eqd, Pq.eqd]
    constructor
    · rintro ⟨h1, h2⟩
      exact Prod.ext h1 h2
    · rintro rfl
      exact ⟨rfl, rfl⟩
instance {α τ : Type} [Rp α] [Tp τ] [Pd α] [Pq τ] : Pd (α × τ) where
  toD t := .tuple (Pq.toDs t)
  dp := Pq.dp (α × τ) + 1
  isD h := by
    obtain ⟨p, vs, rfl, h1, h2⟩ := h
    exact .tup (st_of h1) (Pq.isD h2)
  dep a := by
    simp only [PyData.depth]
    exact Nat.succ_le_succ (Pq.dep a)
  eqd a b := by
    simp only [PyData.eqv]
    exact Pq.eqd a b
/-- the same kind on both sides -/
def eqO {α : Type} [Rp α] [Pd α] [DecidableEq α] (a b : α) : Option Bool := if (okD a && okD b && decide (Pd.dp α ≤ 64)) = true then some (decide (a = b)) else none
def neO {α : Type} [Rp α] [Pd α] [DecidableEq α] (a b : α) : Option Bool := if (okD a && okD b && decide (Pd.dp α ≤ 64)) = true then some (!decide (a = b)) else none
section
variable {K : Fg} {α : Type} [Rp α] [Pd α] [DecidableEq α]
theorem shaped_of {a : α} (h : okD a = true) (h2 : Pd.dp α ≤ 64) : SeqAt.shaped (Pd.toD a) = true := by
  unfold SeqAt.shaped
  rw [Bool.and_eq_true]
  exact ⟨h, decide_eq_true (Nat.le_trans (Pd.dep a) h2)⟩
theorem eqv_dec (a b : α) : PyData.eqv (Pd.toD a) (Pd.toD b) = decide (a = b) := by
  by_cases h : a = b
  · rw [decide_eq_true h]
    exact (Pd.eqd a b).mpr h
  · rw [decide_eq_false h]
    cases e : PyData.eqv (Pd.toD a) (Pd.toD b) with
    | false => rfl
    | true => exact absurd ((Pd.eqd a b).mp e) h
theorem dp_mono {H H' : Hp} (e : Ex H H') : ∀ {v : V} {d : PyData}, Dp K H v d → Dp K H' v d := fun h =>
  Dp.rec (motive_1 := fun v d _ => Dp K H' v d) (motive_2 := fun vs ds _ => DpAll K H' vs ds) .non .bl .int .str (fun s _ ih => .lst (ex_l e s) ih) (fun s _ ih => .tup (ex_t e s) ih) .nil (fun _ _ h1 h2 => .cons h1 h2) h
theorem r2_eqO {a b : α} {c : Bool} (h : eqO a b = some c) : R2V K (rEqD K) a b c := fun Kn H v w ek h1 h2 Q q => by
  unfold eqO at h
  split at h
  · rename_i hb
    rw [Bool.and_eq_true, Bool.and_eq_true] at hb
    cases h
    refine ⟨Pd.toD a, Pd.toD b, dp_mono ek (Pd.isD h1), dp_mono ek (Pd.isD h2), shaped_of hb.1.1 (of_decide_eq_true hb.2), shaped_of hb.1.2 (of_decide_eq_true hb.2), ?_⟩
    rw [eqv_dec]
    exact q.fl ek
  · cases h
theorem r2_neO {a b : α} {c : Bool} (h : neO a b = some c) : R2V K (rNeD K) a b c := fun Kn H v w ek h1 h2 Q q => by
  unfold neO at h
  split at h
  · rename_i hb
    rw [Bool.and_eq_true, Bool.and_eq_true] at hb
    cases h
    refine ⟨Pd.toD a, Pd.toD b, dp_mono ek (Pd.isD h1), dp_mono ek (Pd.isD h2), shaped_of hb.1.1 (of_decide_eq_true hb.2), shaped_of hb.1.2 (of_decide_eq_true hb.2), ?_⟩
    rw [eqv_dec]
    exact q.fl ek
  · cases h
/-- data without texts: always -/
class Pt (α : Type) [Rp α] [Pd α] : Prop where
  ok : ∀ a : α, okD a = true
class Pu (τ : Type) [Tp τ] [Pq τ] : Prop where
  ok : ∀ a : τ, PyData.canLayAll0 (Pq.toDs a) = true
instance : Pt Int := ⟨fun _ => rfl⟩
instance : Pt Bool := ⟨fun _ => rfl⟩
theorem canLayAll_map {α : Type} [Rp α] [Pd α] : ∀ (xs : List α), (∀ x ∈ xs, okD x = true) → PyData.canLayAll0 (xs.map Pd.toD) = true
  | [], _ => by simp [PyData.canLayAll0]
  | x :: xs, h => by
    simp only [List.map_cons, PyData.canLayAll0, Bool.and_eq_true]
    exact ⟨h x List.mem_cons_self, canLayAll_map xs fun y hy => h y (List.mem_cons_of_mem _ hy)⟩
theorem okD_list {α : Type} [Rp α] [Pd α] {xs : List α} (h : ∀ x ∈ xs, okD x = true) : okD xs = true := by
  show PyData.canLay0 (.list _) = true
  simp only [PyData.canLay0]
  exact canLayAll_map xs h
theorem okD_tu {α : Type} [Rp α] [Pd α] {xs : Tu α} (h : ∀ x ∈ xs.l, okD x = true) : okD xs = true := by
  show PyData.canLay0 (.tuple _) = true
  simp only [PyData.canLay0]
  exact canLayAll_map xs.l h
theorem okD_pair {α τ : Type} [Rp α] [Tp τ] [Pd α] [Pq τ] {t : α × τ} (h : okD t.1 = true) (h2 : PyData.canLayAll0 (Pq.toDs t.2) = true) : okD t = true := by
  show PyData.canLay0 (.tuple (Pd.toD t.1 :: Pq.toDs t.2)) = true
  simp only [PyData.canLay0, PyData.canLayAll0, Bool.and_eq_true]
  exact ⟨h, h2⟩
theorem okDs_cons {α τ : Type} [Rp α] [Tp τ] [Pd α] [Pq τ] {t : α × τ} (h : okD t.1 = true) (h2 : PyData.canLayAll0 (Pq.toDs t.2) = true) : PyData.canLayAll0 (Pq.toDs t) = true := by
  show PyData.canLayAll0 (Pd.toD t.1 :: Pq.toDs t.2) = true
  simp only [PyData.canLayAll0, Bool.and_eq_true]
  exact ⟨h, h2⟩
instance {α : Type} [Rp α] [Pd α] [Pt α] : Pt (List α) := ⟨fun _ => okD_list fun x _ => Pt.ok x⟩
instance {α : Type} [Rp α] [Pd α] [Pt α] : Pt (Tu α) := ⟨fun _ => okD_tu fun x _ => Pt.ok x⟩
instance : Pu Unit := ⟨fun _ => rfl⟩
instance {α τ : Type} [Rp α] [Tp τ] [Pd α] [Pq τ] [Pt α] [Pu τ] : Pu (α × τ) := ⟨fun _ => okDs_cons (Pt.ok _) (Pu.ok _)⟩
instance {α τ : Type} [Rp α] [Tp τ] [Pd α] [Pq τ] [Pt α] [Pu τ] : Pt (α × τ) := ⟨fun _ => okD_pair (Pt.ok _) (Pu.ok _)⟩
theorem r2_eqT [Pt α] {a b : α} (hd : Pd.dp α ≤ 64 := by decide) : R2V K (rEqD K) a b (decide (a = b)) := r2_eqO (by
  unfold eqO
  rw [Pt.ok a, Pt.ok b, decide_eq_true hd]
  rfl)
theorem r2_neT [Pt α] {a b : α} (hd : Pd.dp α ≤ 64 := by decide) : R2V K (rNeD K) a b (!decide (a = b)) := r2_neO (by
  unfold neO
  rw [Pt.ok a, Pt.ok b, decide_eq_true hd]
  rfl)
theorem eqO_ok {a b : α} (h1 : okD a = true) (h2 : okD b = true) (hd : Pd.dp α ≤ 64 := by decide) : eqO a b = some (decide (a = b)) := by
  unfold eqO
  rw [h1, h2, decide_eq_true hd]
  rfl
theorem neO_ok {a b : α} (h1 : okD a = true) (h2 : okD b = true) (hd : Pd.dp α ≤ 64 := by decide) : neO a b = some (!decide (a = b)) := by
  unfold neO
  rw [h1, h2, decide_eq_true hd]
  rfl
end

/-! ### isinstance -/
structure TyN where
  n : String
instance rpTyN : Rp TyN := { rep := fun _ _ v a => v = .ty a.n, swap := fun _ h => h }
instance : Fl TyN := { toV := fun a => V.ty a.n, iff := Iff.rfl }
class Tn (α : Type) [Rp α] where
  nm : String
  is : ∀ {K : Fg} {H : Hp} {v : V} {a : α}, rep K H v a → TyX K H v (.type nm)
instance : Tn Int := ⟨"int", fun h => by cases h; exact .base (.int _)⟩
instance : Tn Bool := ⟨"bool", fun h => by cases h; exact .base (.bl _)⟩
instance : Tn Str := ⟨"str", fun h => by cases h; exact .base (.str _)⟩
instance : Tn Nn := ⟨"NoneType", fun h => by cases h; exact .base .non⟩
instance {α : Type} [Rp α] : Tn (List α) := ⟨"list", fun h => by
  obtain ⟨p, vs, rfl, h1, _⟩ := h
  exact .base (.lst h1)⟩
instance {α : Type} [Rp α] : Tn (Tu α) := ⟨"tuple", fun h => by
  obtain ⟨p, vs, rfl, h1, _⟩ := h
  exact .base (.tup h1)⟩
instance {α τ : Type} [Rp α] [Tp τ] : Tn (α × τ) := ⟨"tuple", fun h => by
  obtain ⟨p, vs, rfl, h1, _⟩ := h
  exact .base (.tup h1)⟩
theorem rc_isi {K : Fg} {α : Type} [Rp α] [Tn α] {x : α} {n : String} {b : Bool} (h : kitB (Tn.nm α) n = some b) : RCV K (rIsi K) (x, TyN.mk n, ()) b := fun Kn H vs ek hr Q q => by
  obtain ⟨v, w, rfl, h1, h2⟩ := two_args hr
  cases h2
  refine ⟨v, .ty n, .type (Tn.nm α), .type n, b, rfl, .ty n, ?_, kit_ty h, q.fl ek⟩
  exact Tn.is (Rp.mono ek h1)

/-! ### great divisors -/
theorem r2_divW {K : Fg} {i j : Int} {b : Nat} (h : 0 < j) (hb : j.natAbs < 2 ^ b) (h0 : 0 < b) (h9 : b ≤ 9000) : R2V K (rI CDivW fun i j => .int (i / j)) i j (i / j) := r2_I (wide_div h hb h0 h9)

/-! ### sorted of whole numbers -/
def srt (xs : List Int) : List Int := xs.mergeSort fun a b => decide (a ≤ b)
theorem srt_perm (xs : List Int) : (srt xs).Perm xs := List.mergeSort_perm xs _
theorem srt_pw (xs : List Int) : (srt xs).Pairwise (· ≤ ·) := by
  have h := List.pairwise_mergeSort (le := fun a b => decide (a ≤ b)) (fun a b c h1 h2 => by
    have h1 := of_decide_eq_true h1
    have h2 := of_decide_eq_true h2
    exact decide_eq_true (by omega)) (fun a b => by
    rcases Int.le_total a b with h | h
    · rw [decide_eq_true h]; rfl
    · rw [decide_eq_true h]; exact Bool.or_true _) xs
  exact h.imp fun h => of_decide_eq_true h
theorem srt_one {xs ys : List Int} (p : ys.Perm xs) (s : ys.Pairwise (· ≤ ·)) : ys = srt xs :=
  List.Perm.eq_of_pairwise (le := fun a b : Int => a ≤ b) (fun a b _ _ h1 h2 => Int.le_antisymm h1 h2) s (srt_pw xs) (p.trans (srt_perm xs).symm)
theorem rc_sorted {K : Fg} {xs : List Int} : RCL K (rSortedI K) (xs, ()) (srt xs) := fun Kn H vs ek h Q q => by
  obtain ⟨v, rfl, p, ws, rfl, h1, h2⟩ := one_arg h
  have e := paired_fl h2
  subst e
  refine ⟨p, xs, rfl, sq_of (ek _ _ h1), fun ns' l pm pw hl => ?_⟩
  rw [srt_one pm pw]
  exact q l _ Kn _ (Gr.newU ek hl) hl (fresh_back ek hl) upd_same (fl_paired (srt xs))
end Wk

namespace Wk
open PySem PySem.Spec L2 Evl
section
variable {K : Fg} {F Kn0 : Hp} {sl sl' : List Sl} {ow ow0 ow1 ow2 : List Ow} {α β γ τ : Type} [Rp α] [Rp β] [Rp γ] [Tp τ] {ta tb te : TE} {x : α} {D : Ends} {t u tz : TS} {tt : TT} {b : Bool} {i j : Nat} {p : Addr}
theorem ev_int (n : Int) : EV K F Kn0 sl ow (tC (.int n)) n := ev_c n
theorem ev_bool (n : Bool) : EV K F Kn0 sl ow (tC (.bl n)) n := ev_c n
theorem ev_str (n : Str) : EV K F Kn0 sl ow (tC (.str n)) n := ev_c n
theorem ev_nn : EV K F Kn0 sl ow (tC .non) Nn.nn := ev_c Nn.nn
theorem ev_ty (n : String) : EV K F Kn0 sl ow (tC (.ty n)) (TyN.mk n) := ev_c (TyN.mk n)
variable {m n : Int}
theorem r2_add : R2V K (rI0 fun i j => .int (i + j)) m n (m + n) := r2_I0
theorem r2_sub : R2V K (rI0 fun i j => .int (i - j)) m n (m - n) := r2_I0
theorem r2_lt : R2V K (rI0 fun i j => .bl (decide (i < j))) m n (decide (m < n)) := r2_I0
theorem r2_le : R2V K (rI0 fun i j => .bl (decide (i ≤ j))) m n (decide (m ≤ n)) := r2_I0
theorem r2_gt : R2V K (rI0 fun i j => .bl (decide (j < i))) m n (decide (n < m)) := r2_I0
theorem r2_ge : R2V K (rI0 fun i j => .bl (decide (j ≤ i))) m n (decide (n ≤ m)) := r2_I0
theorem r2_mod (h : 0 < n := by decide) : R2V K (rI (fun _ j => 0 < j) fun i j => .int (i % j)) m n (m % n) := r2_I h
theorem r2_div (h : 0 < n ∧ n < 1073741824 := by decide) : R2V K (rI CDiv fun i j => .int (i / j)) m n (m / n) := r2_I h
theorem r2_mulr (h : -18446744073709551616 < n ∧ n < 18446744073709551616 := by decide) : R2V K (rI CMul fun i j => .int (i * j)) m n (m * n) := r2_I (.inr ⟨by omega, by omega⟩)
theorem r2_mull (h : -18446744073709551616 < m ∧ m < 18446744073709551616 := by decide) : R2V K (rI CMul fun i j => .int (i * j)) m n (m * n) := r2_I (.inl ⟨by omega, by omega⟩)
theorem r2_divw (h : 0 < n ∧ n < 18446744073709551616 := by decide) : R2V K (rI CDivW fun i j => .int (i / j)) m n (m / n) := r2_divW h.1 (b := 64) (by omega) (by decide) (by decide)
theorem r2_pow {r : Int} (h : 0 ≤ n ∧ n ≤ 1000000 ∧ m.natAbs < 18446744073709551616 := by decide) (e : m ^ n.toNat = r := by decide) : R2V K (rI CPow fun i j => .int (i ^ j.toNat)) m n r := e ▸ r2_I ⟨h.1, h.2.1, by omega⟩
theorem EN.cast {xs ys : List α} (h : EN K F Kn0 sl ow te xs) (e : xs = ys) : EN K F Kn0 sl ow te ys := e ▸ h
theorem EM.cast {y : α} (h : EM K F Kn0 sl ow te ow1 x) (e : x = y) : EM K F Kn0 sl ow te ow1 y := e ▸ h
theorem ENM.cast {xs ys : List α} (h : ENM K F Kn0 sl ow te ow1 xs) (e : xs = ys) : ENM K F Kn0 sl ow te ow1 ys := e ▸ h
theorem SB.is (h1 : sl = sl') (h2 : ow = ow1) (h : SB K F Kn0 sl' ow1 D t) : SB K F Kn0 sl ow D t := by subst h1; subst h2; exact h
theorem EV.is (h1 : sl = sl') (h : EV K F Kn0 sl' ow te x) : EV K F Kn0 sl ow te x := by subst h1; exact h
theorem EM.is (h1 : sl = sl') (h2 : ow = ow2) (h3 : ow1 = ow0) (h : EM K F Kn0 sl' ow2 te ow0 x) : EM K F Kn0 sl ow te ow1 x := by subst h1; subst h2; subst h3; exact h
theorem ET.is (h1 : sl = sl') (h : ET K F Kn0 sl' ow tt b) : ET K F Kn0 sl ow tt b := by subst h1; exact h
theorem ite_t {γ : Type} {b : Bool} {A B : Option γ} {r : γ} (hb : b = true) (h : (if b = true then A else B) = some r) : A = some r := by rw [if_pos hb] at h; exact h
theorem ite_f {γ : Type} {b : Bool} {A B : Option γ} {r : γ} (hb : b = false) (h : (if b = true then A else B) = some r) : B = some r := by rw [if_neg (by rw [hb]; exact Bool.false_ne_true)] at h; exact h
def anyAt (sl : List Sl) (vs : List Nat) : Bool := vs.all fun j => match sl[j]? with
  | some .any => true
  | _ => false
theorem anyAt_of {sl : List Sl} {vs : List Nat} (h : anyAt sl vs = true) : ∀ j ∈ vs, sl[j]? = some .any := fun j hj => by
  have q := List.all_eq_true.mp h j hj
  cases e : sl[j]? with
  | none => rw [e] at q; cases q
  | some s =>
    rw [e] at q
    cases s with
    | any => rfl
    | val _ _ _ => cases q
    | «at» _ => cases q
theorem sub_of {js vs : List Nat} (h : (js.all fun j => vs.contains j) = true) : ∀ j ∈ js, j ∈ vs := fun j hj => by
  have q := List.all_eq_true.mp h j hj
  simpa using q
theorem sn_end {R : VK} (q : RT K F Kn0 ow0 R Nn.nn) (hd : ∀ σ H, R .non H → D.nx σ H) (l : ow0.Sublist ow) : SN K F Kn0 sl ow D := fun σ Kn H s => hd σ H (q _ Kn H (s.sub l).fin rfl)
def EOM (K : Fg) (F Kn0 : Hp) (sl : List Sl) (ow : List Ow) (to : TO) (ow' : List Ow) (o : Option Int) : Prop := ∀ σ Kn H, S K F Kn0 sl ow σ Kn H → ∀ Q : Option Int → Hp → Prop, (∀ Kn' H', Ex Kn Kn' → S K F Kn0 sl ow' σ Kn' H' → Q o H') → to σ H Q
theorem EO.eom {to : TO} {o : Option Int} (h : EO K F Kn0 sl ow to o) : EOM K F Kn0 sl ow to ow o := fun σ Kn H s Q q => h σ Kn H s Q fun Kn' H' g => q Kn' H' g.kk (s.grow g)
theorem eom_some {i : Int} (h : EM K F Kn0 sl ow te ow1 i) : EOM K F Kn0 sl ow (tPart te) ow1 (some i) := fun σ Kn H s Q q => h σ Kn H s _ fun v Kn1 H1 e1 s1 r1 => ⟨i, r1, q Kn1 H1 e1 s1⟩
theorem enm_sl {ow3 : List Ow} {xs : List α} {tl th : TO} {lo hi : Option Int} (h : EM K F Kn0 sl ow te ow1 xs) (hl : EOM K F Kn0 sl ow1 tl ow2 lo) (hh : EOM K F Kn0 sl ow2 th ow3 hi) : ENM K F Kn0 sl ow (tSl (rSlL K) te tl th) ow3 (cut xs lo hi) := fun σ Kn H s Q q =>
  h σ Kn H s _ fun v Kn1 H1 e1 s1 r1 => hl σ Kn1 H1 s1 _ fun Kn2 H2 e2 s2 => hh σ Kn2 H2 s2 _ fun Kn3 H3 e3 s3 => by
    obtain ⟨p, ws, rfl, h3, h4⟩ := r1
    have e13 : Ex Kn1 Kn3 := e2.trans e3
    exact ⟨p, ws, rfl, sq_of (s3.ek _ _ (e13 _ _ h3)), fun l hl => q l _ Kn3 _ (e1.trans e13) (s3.grow (Gr.newU s3.ek hl)) (fresh_back s3.ef hl) (fresh_back s3.ek hl) (owned_ne s3 hl) upd_same (paired_cut (paired_mono e13 h4) lo hi)⟩
/-- the entry of a def -/
theorem enter {σ : L2.St} {Kn H : Hp} {D : Ends} {t : TS} (ek : Ex Kn H) (hs : SlsOk K Kn sl σ) (h : SB K H Kn sl [] D t) : t D σ H := h σ Kn H ⟨Ex.refl _, ek, Ex.refl _, fun _ _ h => h, hs, ⟨(fun _ h => nomatch h), List.nodup_nil⟩⟩
theorem rt_of {H Kn : Hp} {r : α} {Q : VK} (q : RS K Kn H Q r) : RT K H Kn [] Q r := fun v Kn' H' s rv => q v Kn' H' ⟨s.e0, s.ef, s.ek, s.sep⟩ rv
theorem rn_of {H Kn : Hp} {r : List α} {Q : VK} (q : RL K Kn H Q r) : RN K H Kn [] Q r := fun p ws Kn' H' s fp kp hw rv => q p ws Kn' H' ⟨s.e0, s.ef, s.ek, s.sep⟩ fp kp hw rv
/-- all but p -/
def but (H : Hp) (p : Addr) : Hp := fun a => if a = p then none else H a
theorem enterM {σ : L2.St} {Kn H : Hp} {D : Ends} {t : TS} {p : Addr} {ws : List V} {xs : List α} (ek : Ex Kn H) (kp : Kn p = none) (hp : H p = some (.lst ws)) (r : Paired (rep K Kn) ws xs) (hs : SlsOk K Kn sl σ) (h : SB K (but H p) Kn sl [ol p xs] D t) : t D σ H :=
  h σ Kn H ⟨Ex.refl _, ek, fun a u e => by
    unfold but at e
    split at e
    · cases e
    · exact e, fun _ _ h => h, hs, ⟨fun o ho => by
      cases List.mem_singleton.mp ho
      exact ⟨if_pos rfl, kp, ws, hp, r⟩, List.nodup_cons.mpr ⟨(fun h => nomatch h), List.nodup_nil⟩⟩⟩
theorem rt_ofM {H Kn : Hp} {r : β} {p : Addr} {xs' : List α} {Q : VK} (kp : Kn p = none) (q : ∀ v Kn' H' ws', Ex Kn Kn' → Ex Kn' H' → (∀ q, q ≠ p → H q ≠ none → H' q = H q) → (∀ q, H q ≠ none → Kn q = none → Kn' q = none) → H' p = some (.lst ws') → Paired (rep K Kn') ws' xs' → rep K Kn' v r → Q v H') :
    RT K (but H p) Kn [ol p xs'] Q r := fun v Kn' H' s rv => by
  obtain ⟨_, k1, ws, h1, h2⟩ := s.ow.each (ol p xs') List.mem_cons_self
  refine q v Kn' H' ws s.e0 s.ek (fun a ha hn => ?_) (fun a hn hk => ?_) h1 h2 rv
  · have e : but H p a = H a := if_neg ha
    exact (Ex.at_eq s.ef (by rw [e]; exact hn)).trans e
  · by_cases ha : a = p
    · subst ha
      exact k1
    · exact s.sep a (by unfold but; rw [if_neg ha]; exact hn) hk
end
end Wk

/-! ### rules whose readings name K itself (within comprehensions) -/
namespace Wk
open PySem PySem.Spec L2 Evl
section
variable {X : Cx} {K : Fg}
theorem k_isi (h : X.K = K := by rfl) : CallR X (.builtin "isinstance") (rIsi K) := h ▸ call_isi
theorem k_len (h : X.K = K := by rfl) : CallR X (.builtin "len") (fun xs H Q => ∃ p ys, xs = [.ref p] ∧ (SqL K H p ys ∨ SqT K H p ys) ∧ Q (.int ys.length) H) := h ▸ call_len_seq
theorem k_list (h : X.K = K := by rfl) : CallR X (.type "list") (fun xs H Q => ∃ p ys, xs = [.ref p] ∧ (SqL K H p ys ∨ SqT K H p ys) ∧ ∀ l, H l = none → Q (.ref l) (upd H l (.lst ys))) := h ▸ call_list_of
theorem k_tuple (h : X.K = K := by rfl) : CallR X (.type "tuple") (fun xs H Q => ∃ p ys, xs = [.ref p] ∧ ((SqL K H p ys ∧ ∀ l, H l = none → Q (.ref l) (upd H l (.tup ys))) ∨ (SqT K H p ys ∧ Q (.ref p) H))) := h ▸ call_tuple_of
theorem k_sum (hc : X.calm = true := by rfl) (h : X.K = K := by rfl) : CallR X (.builtin "sum") (rSum K) := h ▸ cr_sum hc
theorem k_any (hc : X.calm = true := by rfl) (h : X.K = K := by rfl) : CallR X (.builtin "any") (rAny K) := h ▸ cr_any hc
theorem k_all (hc : X.calm = true := by rfl) (h : X.K = K := by rfl) : CallR X (.builtin "all") (rAll K) := h ▸ cr_all hc
theorem k_max2 (hc : X.calm = true := by rfl) : CallR X (.builtin "max") (fun xs H Q => ∃ i j, xs = [.int i, .int j] ∧ Q (.int (if j > i then j else i)) H) := call_max2 hc
theorem k_min2 (hc : X.calm = true := by rfl) : CallR X (.builtin "min") (fun xs H Q => ∃ i j, xs = [.int i, .int j] ∧ Q (.int (if j < i then j else i)) H) := call_min2 hc
theorem k_sorted (h : X.K = K := by rfl) : CallR X (.builtin "sorted") (rSortedI K) := h ▸ cr_sortedI
theorem k_ixl (h : X.K = K := by rfl) : IxR X (rIxL K) := h ▸ ix_list
theorem k_ixt (h : X.K = K := by rfl) : IxR X (rIxT K) := h ▸ ix_tup
theorem k_sll (h : X.K = K := by rfl) : SlR X (rSlL K) := h ▸ sl_list
theorem k_eqD (hu : X.A.units + 64 < cLine) (h : X.K = K := by rfl) : OpR X (compareOp .Eq) (rEqD K) := h ▸ op_eqD hu
theorem k_neD (hu : X.A.units + 64 < cLine) (h : X.K = K := by rfl) : OpR X (compareOp .NotEq) (rNeD K) := h ▸ op_neD hu
theorem k_in (h : X.K = K := by rfl) : OpR X (compareOp .In) (rIn K false) := h ▸ op_in_seq
theorem k_notIn (h : X.K = K := by rfl) : OpR X (compareOp .NotIn) (rIn K true) := h ▸ op_notIn_seq
theorem kpg_tup {es : List Expr} {k : Nat} {t : TGs} {n : Nat} {pos : Pos} (hs : PGs X es t) (hc : X.calm = true := by rfl) (h : X.K = K := by rfl)
    (hn : (assignEach es X.env).length = n := by rfl) (hst : (assignEach es X.env).findIdx? (·.1) = none := by rfl) : PG X (.Tuple es k pos) (gTup K n t) := h ▸ pg_tup hc hs hn hst
theorem kpi_list {tg e : Expr} {te : TE} (he : PE X e te) (h : X.K = K := by rfl) : PI X tg e (iList K te) := h ▸ pi_list he
theorem kpi_tup {tg e : Expr} {te : TE} (he : PE X e te) (h : X.K = K := by rfl) : PI X tg e (iTup K te) := h ▸ pi_tup he
theorem kpt_truth {a : Expr} {ta : TE} (ha : PE X a ta) (he : ∀ whole, isTrue a X.env whole = (do let v ← whole; standAt a.pos; holding [v] (truthy v)) := by intro _; rfl) (h : X.K = K := by rfl) : PT X a (fun σ H Q => ta σ H fun x H' => ∃ k, TruV K x H' k ∧ Q k H') := h ▸ pt_truth ha he
end
end Wk
/-! Wk5: in, lists made longer, texts, chains, tuples put together -/
namespace Wk
open PySem PySem.Spec L2 Evl
class Fe (α : Type) [Rp α] [Fl α] [DecidableEq α] : Prop where
  flat : ∀ a : α, flatV (Fl.toV a) = true
  eq : ∀ a b : α, eqV (Fl.toV a) (Fl.toV b) = decide (a = b)
instance : Fe Int := ⟨fun _ => rfl, fun a b => by show (a == b) = decide (a = b); by_cases h : a = b <;> simp [h]⟩
instance : Fe Str := ⟨fun _ => rfl, fun a b => by show (a == b) = decide (a = b); by_cases h : a = b <;> simp [h]⟩
def repO {α : Type} (xs : List α) (k : Int) : Option (List α) := if -1000000000 ≤ k ∧ k ≤ 1000000000 ∧ xs.length * k.toNat ≤ 1000000 then some (List.replicate k.toNat xs).flatten else none
def addS (x y : Str) : Option Str := if x.length + y.length ≤ 1000000 then some (x ++ y) else none
def lenS (x : Str) : Option Int := if x.length ≤ 1000000 then some (x.length : Int) else none
def joinO (a : Str) (ys : List Str) : Option Str := if (ys.map (·.length)).sum + ys.length * a.length ≤ 1000000 then some (Txt.join a ys) else none
def powO (i j : Int) : Option Int := if 0 ≤ j ∧ j ≤ 1000000 ∧ i.natAbs < 18446744073709551616 then some (i ^ j.toNat) else none
section
variable {K : Fg} {F Kn0 : Hp} {sl sl' : List Sl} {ow ow0 ow1 ow2 : List Ow} {α β γ τ : Type} [Rp α] [Rp β] [Rp γ] [Tp τ] {ta tb tc te : TE} {x : α} {y : β} {z : γ} {D : Ends} {t u tz : TS} {tt : TT} {a b : Bool} {i j : Nat} {p : Addr}
theorem any_mem {α : Type} [Rp α] [Fl α] [DecidableEq α] [Fe α] (x : α) : ∀ xs : List α, inV (Fl.toV x) (xs.map Fl.toV) = decide (x ∈ xs)
  | [] => by simp [inV]
  | y :: ys => by
    have ih := any_mem x ys
    unfold inV at ih ⊢
    rw [List.map_cons, List.any_cons, ih, Fe.eq]
    by_cases h : y = x
    · subst h
      simp
    · have h' : ¬ x = y := fun e => h e.symm
      simp [h, h']
theorem all_flat {α : Type} [Rp α] [Fl α] [DecidableEq α] [Fe α] : ∀ xs : List α, (xs.map Fl.toV).all flatV = true
  | [] => rfl
  | y :: ys => by
    rw [List.map_cons, List.all_cons, Fe.flat, all_flat ys]
    rfl
theorem r2_in {α : Type} [Rp α] [Fl α] [DecidableEq α] [Fe α] {x : α} {xs : List α} : R2V K (rIn K false) x xs (decide (x ∈ xs)) := fun Kn H v w ek h1 h2 Q q => by
  obtain ⟨p, ws, rfl, h3, h4⟩ := h2
  have e := paired_fl h4
  subst e
  rw [Fl.iff.mp h1]
  refine ⟨p, _, rfl, .inl (sq_of (ek _ _ h3)), Fe.flat x, all_flat xs, ?_⟩
  rw [any_mem]
  exact q.fl ek
theorem r2_notIn {α : Type} [Rp α] [Fl α] [DecidableEq α] [Fe α] {x : α} {xs : List α} : R2V K (rIn K true) x xs (!decide (x ∈ xs)) := fun Kn H v w ek h1 h2 Q q => by
  obtain ⟨p, ws, rfl, h3, h4⟩ := h2
  have e := paired_fl h4
  subst e
  rw [Fl.iff.mp h1]
  refine ⟨p, _, rfl, .inl (sq_of (ek _ _ h3)), Fe.flat x, all_flat xs, ?_⟩
  rw [any_mem]
  exact q.fl ek
theorem r2_inU {α : Type} [Rp α] [Fl α] [DecidableEq α] [Fe α] {x : α} {xs : Tu α} : R2V K (rIn K false) x xs (decide (x ∈ xs.l)) := fun Kn H v w ek h1 h2 Q q => by
  obtain ⟨p, ws, rfl, h3, h4⟩ := h2
  have e := paired_fl h4
  subst e
  rw [Fl.iff.mp h1]
  refine ⟨p, _, rfl, .inr (st_of (ek _ _ h3)), Fe.flat x, all_flat xs.l, ?_⟩
  rw [any_mem]
  exact q.fl ek
theorem r2_notInU {α : Type} [Rp α] [Fl α] [DecidableEq α] [Fe α] {x : α} {xs : Tu α} : R2V K (rIn K true) x xs (!decide (x ∈ xs.l)) := fun Kn H v w ek h1 h2 Q q => by
  obtain ⟨p, ws, rfl, h3, h4⟩ := h2
  have e := paired_fl h4
  subst e
  rw [Fl.iff.mp h1]
  refine ⟨p, _, rfl, .inr (st_of (ek _ _ h3)), Fe.flat x, all_flat xs.l, ?_⟩
  rw [any_mem]
  exact q.fl ek
theorem paired_rep {F : V → α → Prop} {vs : List V} {xs : List α} (h : Paired F vs xs) : ∀ n : Nat, Paired F (List.replicate n vs).flatten (List.replicate n xs).flatten
  | 0 => .nil
  | n + 1 => by
    rw [List.replicate_succ, List.replicate_succ, List.flatten_cons, List.flatten_cons]
    exact paired_append h (paired_rep h n)
theorem r2_repO {xs zs : List α} {k : Int} (h : repO xs k = some zs) : R2L K rRep xs k zs := fun Kn H v w ek h1 h2 Q q => by
  unfold repO at h
  split at h
  · rename_i hb
    cases h
    obtain ⟨p, ws, rfl, h3, h4⟩ := h1
    cases h2
    refine ⟨p, k, ws, rfl, rfl, ek _ _ h3, by omega, by omega, by rw [paired_len h4]; exact le_line hb.2.2, fun l hl => q l _ Kn _ (Gr.newU ek hl) hl (fresh_back ek hl) upd_same (paired_rep h4 _)⟩
  · cases h
theorem r2_addS {x y z : Str} (h : addS x y = some z) : R2V K (fun x y H Q => ∃ i j, x = .str i ∧ y = .str j ∧ i.length + j.length ≤ sizeLine ∧ Q (.str (i ++ j)) H) x y z := fun Kn H v w ek h1 h2 Q q => by
  unfold addS at h
  split at h
  · rename_i hb
    cases h
    exact ⟨x, y, h1, h2, le_line hb, q.fl ek⟩
  · cases h
theorem rc_lenS {x : Str} {z : Int} (h : lenS x = some z) : RCV K (fun xs H Q => ∃ z, xs = [.str z] ∧ z.length ≤ sizeLine ∧ Q (.int z.length) H) (x, ()) z := fun Kn H vs ek hr Q q => by
  obtain ⟨v, rfl, h1⟩ := one_arg hr
  cases h1
  unfold lenS at h
  split at h
  · rename_i hb
    cases h
    exact ⟨x, rfl, le_line hb, q.fl ek⟩
  · cases h
theorem ev_joinO {s : Str} {ys : List Str} {z : Str} (ha : EV K F Kn0 sl ow ta s) (hb : EV K F Kn0 sl ow tb ys) (h : joinO s ys = some z) :
    EV K F Kn0 sl ow (tM1 (fun x xs H Q => ∃ a p, ∃ ys : List Str, x = .str a ∧ xs = [.ref p] ∧ (SqL K H p (ys.map V.str) ∨ SqT K H p (ys.map V.str)) ∧ (ys.map (·.length)).sum + ys.length * a.length ≤ 16777216 ∧ Q (.str (Txt.join a ys)) H) ta tb) z := fun σ Kn H s' Q q =>
  ha σ Kn H s' _ fun v Kn1 H1 g1 r1 => by
    cases r1
    refine ⟨⟨s, rfl⟩, hb σ Kn1 H1 (s'.grow g1) _ fun w Kn2 H2 g2 r2 => ?_⟩
    obtain ⟨p, ws, rfl, h3, h4⟩ := r2
    have e := paired_fl h4
    subst e
    unfold joinO at h
    split at h
    · rename_i hz
      cases h
      exact ⟨s, p, ys, rfl, rfl, .inl (sq_of (g2.kh _ _ h3)), by omega, q _ Kn2 H2 (g1.trans g2) rfl⟩
    · cases h
theorem rc_intB {x : Bool} : RCV K (fun xs H Q => (∃ i, xs = [.int i] ∧ Q (.int i) H) ∨ ∃ k, xs = [.bl k] ∧ Q (.int (if k then 1 else 0)) H) (x, ()) (if x = true then (1 : Int) else 0) := fun Kn H vs ek hr Q q => by
  obtain ⟨v, rfl, h1⟩ := one_arg hr
  cases h1
  exact .inr ⟨x, rfl, q.fl ek⟩
theorem rc_intI {x : Int} : RCV K (fun xs H Q => (∃ i, xs = [.int i] ∧ Q (.int i) H) ∨ ∃ k, xs = [.bl k] ∧ Q (.int (if k then 1 else 0)) H) (x, ()) x := fun Kn H vs ek hr Q q => by
  obtain ⟨v, rfl, h1⟩ := one_arg hr
  cases h1
  exact .inl ⟨x, rfl, q.fl ek⟩
theorem r2_powO {i j z : Int} (h : powO i j = some z) : R2V K (rI CPow fun i j => .int (i ^ j.toNat)) i j z := by
  unfold powO at h
  split at h
  · rename_i hb
    cases h
    exact r2_I ⟨hb.1, hb.2.1, by omega⟩
  · cases h
/-- x < y < z -/
theorem ev_chain {r r' : R2} (ha : EV K F Kn0 sl ow ta x) (hb : EV K F Kn0 sl ow tb y) (hr : R2V K r x y a) (hc : EV K F Kn0 sl ow tc z) (hr' : R2V K r' y z b) : EV K F Kn0 sl ow (tChain r r' ta tb tc) (a && b) := fun σ Kn H s Q q =>
  ha σ Kn H s _ fun v Kn1 H1 g1 r1 => hb σ Kn1 H1 (s.grow g1) _ fun w Kn2 H2 g2 r2 => hr Kn2 H2 v w g2.kh (Rp.mono g2.kk r1) r2 _ fun u Kn3 H3 g3 r3 => by
    refine ⟨a, r3, ?_⟩
    cases a with
    | true => exact iteT (hc σ Kn3 H3 (((s.grow g1).grow g2).grow g3) _ fun v4 Kn4 H4 g4 r4 => hr' Kn4 H4 w v4 g4.kh (Rp.mono (g3.kk.trans g4.kk) r2) r4 Q fun u5 Kn5 H5 g5 r5 => q u5 Kn5 H5 ((((g1.trans g2).trans g3).trans g4).trans g5) r5)
    | false => exact iteF (q _ Kn3 H3 ((g1.trans g2).trans g3) rfl)
/-- t3 is t1 and t2 put together -/
inductive Ap : {τ1 τ2 τ3 : Type} → [Tp τ1] → [Tp τ2] → [Tp τ3] → τ1 → τ2 → τ3 → Prop
  | z {τ : Type} [Tp τ] (t : τ) : Ap () t t
  | s {α τ1 τ2 τ3 : Type} [Rp α] [Tp τ1] [Tp τ2] [Tp τ3] (x : α) {t1 : τ1} {t2 : τ2} {t3 : τ3} : Ap t1 t2 t3 → Ap (x, t1) t2 (x, t3)
theorem Ap.rept {K : Fg} {H : Hp} {τ1 τ2 τ3 : Type} [i1 : Tp τ1] [i2 : Tp τ2] [i3 : Tp τ3] {t1 : τ1} {t2 : τ2} {t3 : τ3} (h : Ap t1 t2 t3) : ∀ {vs ws : List V}, Wk.rept K H vs t1 → Wk.rept K H ws t2 → Wk.rept K H (vs ++ ws) t3 := by
  induction h with
  | z t =>
    intro vs ws h1 h2
    cases h1
    exact h2
  | s x _ ih =>
    intro vs ws h1 h2
    obtain ⟨v, r, rfl, h3, h4⟩ := h1
    exact ⟨v, r ++ ws, rfl, h3, ih h4 h2⟩
theorem r2_catA {α1 τ1 α2 τ2 α3 τ3 : Type} [Rp α1] [Tp τ1] [Rp α2] [Tp τ2] [Rp α3] [Tp τ3] {t1 : α1 × τ1} {t2 : α2 × τ2} {t3 : α3 × τ3} (h : Ap t1 t2 t3) (hn : Tp.n (α1 × τ1) + Tp.n (α2 × τ2) ≤ 1000 := by decide) : R2V K (rCatA K) t1 t2 t3 := fun Kn H v w ek h1 h2 Q q => by
  obtain ⟨p, vs, rfl, h3, h4⟩ := h1
  obtain ⟨p2, ws, rfl, h5, h6⟩ := h2
  have n1 : vs ≠ [] := by
    obtain ⟨_, _, rfl, _⟩ := h4
    simp
  have n2 : ws ≠ [] := by
    obtain ⟨_, _, rfl, _⟩ := h6
    simp
  refine ⟨p, p2, vs, ws, rfl, rfl, st_of (ek _ _ h3), st_of (ek _ _ h5), ?_, fun e => absurd e n1, fun _ e => absurd e n2, fun _ _ l hl => ?_⟩
  · rw [Tp.len h4, Tp.len h6]
    exact le_line (by omega)
  · exact q _ (upd Kn l (.tup (vs ++ ws))) _ (Gr.new ek hl) ⟨l, _, rfl, upd_same, h.rept (Tp.mono (Gr.new ek hl).kk h4) (Tp.mono (Gr.new ek hl).kk h6)⟩
/-- found.clear() -/
theorem sb_clr {xs : List α} (hi : sl[i]? = some (.at p)) (hj : ow[j]? = some (ol p xs)) (ho : ow.set j (ol p ([] : List α)) = ow1) (k : SN K F Kn0 sl ow1 D) : SB K F Kn0 sl ow D (tDrop (tBM0 K "list" rClear (tVar i))) := fun σ Kn H s => by
  obtain ⟨o, h1, h2⟩ := s.sl.get hi
  obtain ⟨f1, f2, ws, f3, f4⟩ := s.ow.each _ (List.mem_of_getElem? hj)
  subst ho
  refine ⟨.ref p, by rw [h1]; exact congrArg some h2, Or.inl ⟨rfl, ws, sq_of f3⟩, p, ws, rfl, rfl, f3, k _ Kn _ ?_⟩
  exact s.write hj (Ex.refl _) (upd_in s.ek f2) (fun q hq _ => upd_ne hq) (fun _ _ h => h) upd_same .nil
theorem en_listO {xs : List α} (hi : sl[i]? = some (.at p)) (hj : ow[j]? = some (ol p xs)) : EN K F Kn0 sl ow (tCB (fun xs H Q => ∃ p ys, xs = [.ref p] ∧ (SqL K H p ys ∨ SqT K H p ys) ∧ ∀ l, H l = none → Q (.ref l) (upd H l (.lst ys))) (tCons (tVar i) tNil)) xs := fun σ Kn H s Q q => by
  obtain ⟨o, h1, h2⟩ := s.sl.get hi
  obtain ⟨f1, f2, ws, f3, f4⟩ := s.ow.each _ (List.mem_of_getElem? hj)
  exact ⟨.ref p, by rw [h1]; exact congrArg some h2, p, ws, rfl, .inl (sq_of f3), fun l hl => q l ws Kn _ (Gr.newU s.ek hl) hl (fresh_back s.ek hl) upd_same f4⟩
/-- a test that changes something on its way -/
def ETM (K : Fg) (F Kn0 : Hp) (sl : List Sl) (ow : List Ow) (tt : TT) (ow' : List Ow) (b : Bool) : Prop := ∀ σ Kn H, S K F Kn0 sl ow σ Kn H → ∀ Q : Bool → Hp → Prop, (∀ Kn' H', Ex Kn Kn' → S K F Kn0 sl ow' σ Kn' H' → Q b H') → tt σ H Q
theorem ET.etm (h : ET K F Kn0 sl ow tt b) : ETM K F Kn0 sl ow tt ow b := fun σ Kn H s Q q => h σ Kn H s Q fun Kn' H' g => q Kn' H' g.kk (s.grow g)
theorem etm_test (h : EM K F Kn0 sl ow te ow1 b) : ETM K F Kn0 sl ow (tTest te) ow1 b := fun σ Kn H s Q q => h σ Kn H s _ fun v Kn' H' e s' r => ⟨b, r, q Kn' H' e s'⟩
theorem etm_and {t u : TT} (h1 : ETM K F Kn0 sl ow t ow1 a) (h2 : a = true → ET K F Kn0 sl ow1 u b) : ETM K F Kn0 sl ow (tAnd t u) ow1 (a && b) := fun σ Kn H s Q q => h1 σ Kn H s _ fun Kn1 H1 e1 s1 => by
  cases a with
  | true => exact iteT (h2 rfl σ Kn1 H1 s1 Q fun Kn2 H2 g2 => q Kn2 H2 (e1.trans g2.kk) (s1.grow g2))
  | false => exact iteF (q Kn1 H1 e1 s1)
theorem etm_or {t u : TT} (h1 : ETM K F Kn0 sl ow t ow1 a) (h2 : a = false → ET K F Kn0 sl ow1 u b) : ETM K F Kn0 sl ow (tOr t u) ow1 (a || b) := fun σ Kn H s Q q => h1 σ Kn H s _ fun Kn1 H1 e1 s1 => by
  cases a with
  | true => exact iteT (q Kn1 H1 e1 s1)
  | false => exact iteF (h2 rfl σ Kn1 H1 s1 Q fun Kn2 H2 g2 => q Kn2 H2 (e1.trans g2.kk) (s1.grow g2))
theorem sb_ifM {t u : TS} (h : ETM K F Kn0 sl ow tt ow1 b) (h1 : b = true → SB K F Kn0 sl ow1 D t) (h2 : b = false → SB K F Kn0 sl ow1 D u) : SB K F Kn0 sl ow D (tIfS tt t u) := fun σ Kn H s => h σ Kn H s _ fun Kn1 H1 e1 s1 => by
  cases b with
  | true => exact iteT (h1 rfl σ Kn1 H1 s1)
  | false => exact iteF (h2 rfl σ Kn1 H1 s1)
end
section
variable {X : Cx} {K : Fg}
theorem k_catA (h : X.K = K := by rfl) : OpR X (binaryOp .Add) (rCatA K) := h ▸ op_catA
theorem k_join {to te : TE} {o e : Expr} {apos pos : Pos} (ho : PE X o to) (he : PE X e te) (hs : starEach [e] X.env = [(false, eval e X.env)] := by rfl) (hbase : attributeBase o "join" X.env (eval o X.env) = eval o X.env := by rfl) (hline : (apos.endLine == pos.line) = true := by rfl) (h : X.K = K := by rfl) :
    PE X (.Call (.Attribute o "join" apos) [e] [] pos) (tM1 (fun x xs H Q => ∃ a p, ∃ ys : List Str, x = .str a ∧ xs = [.ref p] ∧ (SqL K H p (ys.map V.str) ∨ SqT K H p (ys.map V.str)) ∧ (ys.map (·.length)).sum + ys.length * a.length ≤ 16777216 ∧ Q (.str (Txt.join a ys)) H) to te) := h ▸ pe_join ho he hs hbase hline
end
end Wk
/-! Wk6: dicts. -/
namespace Wk
open PySem PySem.Spec L2 Evl
/-- what may be a key -/
class K1 (α : Type) [Rp α] where
  key : α → Key
  inj : ∀ {a b : α}, key a = key b → a = b
  iff : ∀ {K : Fg} {H : Hp} {v : V} {a : α}, rep K H v a → v = kV (key a)
instance : K1 Int := { key := Sum.inl, inj := fun h => Sum.inl.inj h, iff := fun h => h }
instance : K1 Str := { key := Sum.inr, inj := fun h => Sum.inr.inj h, iff := fun h => h }
class KT1 (τ : Type) [Tp τ] where
  keys : τ → List Key
  inj : ∀ {a b : τ}, keys a = keys b → a = b
  iff : ∀ {K : Fg} {H : Hp} {vs : List V} {a : τ}, rept K H vs a → vs = (keys a).map kV
instance : KT1 Unit := { keys := fun _ => [], inj := fun _ => rfl, iff := fun h => h }
instance {α τ : Type} [Rp α] [Tp τ] [K1 α] [KT1 τ] : KT1 (α × τ) where
  keys t := K1.key t.1 :: KT1.keys t.2
  inj h := Prod.ext (K1.inj (List.cons.inj h).1) (KT1.inj (List.cons.inj h).2)
  iff h := by
    obtain ⟨v, r, h1, h2, h3⟩ := h
    rw [h1, K1.iff h2, KT1.iff h3]
    rfl
class Ky (κ : Type) [Rp κ] where
  kt : Type
  dec : DecidableEq kt
  key : κ → kt
  inj : ∀ {a b : κ}, key a = key b → a = b
  ho : List (kt × V) → HO
  isd : ∀ ws, isDk (ho ws)
  get : ∀ {K : Fg} {Kh H : Hp} {p : Addr} {v : V} {a : κ} {ws : List (kt × V)}, rep K Kh v a → Ex Kh H → Rd H p (ho ws) → DGet H p v (valV ws (key a))
  put : ∀ {K : Fg} {Kh H : Hp} {p : Addr} {v y : V} {a : κ} {ws : List (kt × V)}, rep K Kh v a → Ex Kh H → H p = some (ho ws) → ws.length < sizeLine → DPut H p v y (upd H p (ho (putK ws (key a) y)))
instance {κ : Type} [Rp κ] [Ky κ] : DecidableEq (Ky.kt κ) := Ky.dec
instance {α : Type} [Rp α] [K1 α] : Ky α where
  kt := Key
  dec := inferInstance
  key := K1.key
  inj := K1.inj
  ho := .dK
  isd _ := trivial
  get h _ e := by
    rw [K1.iff h]
    exact .inl ⟨_, _, e, rfl, rfl⟩
  put h _ e l := by
    rw [K1.iff h]
    exact DPut.k e l
instance {α τ : Type} [Rp α] [Tp τ] [KT1 (α × τ)] : Ky (α × τ) where
  kt := List Key
  dec := inferInstance
  key := KT1.keys
  inj := KT1.inj
  ho := .dT
  isd _ := trivial
  get h x e := by
    obtain ⟨p, vs, h1, h2, h3⟩ := h
    rw [h1]
    have h4 := x _ _ h2
    rw [KT1.iff (τ := α × _) h3] at h4
    exact .inr ⟨_, _, _, e, rfl, h4, rfl⟩
  put h x e l := by
    obtain ⟨p, vs, h1, h2, h3⟩ := h
    rw [h1]
    have h4 := x _ _ h2
    rw [KT1.iff (τ := α × _) h3] at h4
    exact DPut.t e h4 l
/-- the table of a dict -/
structure Dc (κ β : Type) where
  l : List (κ × β)
section
variable {κ β : Type} [DecidableEq κ]
def getD (kvs : List (κ × β)) (k : κ) : Option β := (kvs.find? fun kv => decide (kv.1 = k)).map (·.2)
def putD (kvs : List (κ × β)) (k : κ) (y : β) : List (κ × β) := if (getD kvs k).isSome = true then kvs.map (fun kv => if kv.1 = k then (kv.1, y) else kv) else kvs ++ [(k, y)]
def putO (kvs : Dc κ β) (k : κ) (y : β) : Option (Dc κ β) := if kvs.l.length < 1000000 then some ⟨putD kvs.l k y⟩ else none
def mergeD (kvs more : List (κ × β)) : List (κ × β) := more.foldl (fun acc kv => putD acc kv.1 kv.2) kvs
end
section
variable {κ β : Type} [Rp κ] [Ky κ] [Rp β]
abbrev DK (K : Fg) (H : Hp) : List (Ky.kt κ × V) → List (κ × β) → Prop := Paired fun w kv => w.1 = Ky.key kv.1 ∧ rep K H w.2 kv.2
theorem DK.mono {K : Fg} {H H' : Hp} {ws : List (Ky.kt κ × V)} {kvs : List (κ × β)} (e : Ex H H') (h : DK K H ws kvs) : DK K H' ws kvs := Paired.mapP h fun _ _ q => ⟨q.1, Rp.mono e q.2⟩
theorem DK.swap {K : Fg} {H H' : Hp} {ws : List (Ky.kt κ × V)} {kvs : List (κ × β)} (e : Sw H H') (h : DK K H ws kvs) : DK K H' ws kvs := Paired.mapP h fun _ _ q => ⟨q.1, Rp.swap e q.2⟩
instance obDc : Ob (Dc κ β) where
  ob K H o x := ∃ ws, o = Ky.ho (κ := κ) ws ∧ DK K H ws x.l
  swap e h := by
    obtain ⟨ws, h1, h2⟩ := h
    exact ⟨ws, h1, DK.swap e h2⟩
instance rpDc : Rp (Dc κ β) where
  rep K H v x := ∃ p ws, v = .ref p ∧ Rd H p (Ky.ho (κ := κ) ws) ∧ DK K H ws x.l
  swap e h := by
    obtain ⟨p, ws, h1, h2, h3⟩ := h
    exact ⟨p, ws, h1, e.rd h2 (Ky.isd ws), DK.swap e h3⟩
theorem rd_ex {H H' : Hp} (e : Ex H H') {q : Addr} {u : HO} (h : Rd H q u) : Rd H' q u := by
  rcases h with h | ⟨o, h⟩
  · exact .inl (e _ _ h)
  · exact .inr ⟨o, e _ _ h⟩
variable [DecidableEq κ]
theorem DK.get {K : Fg} {H : Hp} {ws : List (Ky.kt κ × V)} {kvs : List (κ × β)} (k : κ) (h : DK K H ws kvs) : (getD kvs k = none ∧ valV ws (Ky.key k) = none) ∨ ∃ y v, getD kvs k = some y ∧ valV ws (Ky.key k) = some v ∧ rep K H v y := by
  unfold DK at h
  induction h with
  | nil => exact .inl ⟨rfl, rfl⟩
  | @cons w kv ws kvs h t ih =>
    unfold getD valV
    by_cases e : kv.1 = k
    · have e2 : w.1 = Ky.key k := h.1.trans (congrArg _ e)
      rw [List.find?_cons_of_pos (by simpa using e), List.find?_cons_of_pos (by simpa using e2)]
      exact .inr ⟨_, _, rfl, rfl, h.2⟩
    · have e2 : ¬ w.1 = Ky.key k := fun z => e (Ky.inj (h.1.symm.trans z))
      rw [List.find?_cons_of_neg (by simpa using e), List.find?_cons_of_neg (by simpa using e2)]
      exact ih
theorem DK.some {K : Fg} {H : Hp} {ws : List (Ky.kt κ × V)} {kvs : List (κ × β)} (k : κ) (h : DK K H ws kvs) : (valV ws (Ky.key k)).isSome = (getD kvs k).isSome := by
  rcases h.get k with ⟨h1, h2⟩ | ⟨y, v, h1, h2, _⟩
  · rw [h1, h2]
    rfl
  · rw [h1, h2]
    rfl
theorem DK.repl {K : Fg} {H : Hp} {ws : List (Ky.kt κ × V)} {kvs : List (κ × β)} (k : κ) {v : V} {y : β} (hv : rep K H v y) (h : DK K H ws kvs) : DK K H (ws.map fun kv => if kv.1 = Ky.key k then (kv.1, v) else kv) (kvs.map fun kv => if kv.1 = k then (kv.1, y) else kv) := by
  unfold DK at h ⊢
  induction h with
  | nil => exact .nil
  | @cons w kv ws kvs h t ih =>
    rw [List.map_cons, List.map_cons]
    refine .cons ?_ ih
    by_cases e : kv.1 = k
    · have e2 : w.1 = Ky.key k := h.1.trans (congrArg _ e)
      rw [if_pos e, if_pos e2]
      exact ⟨h.1, hv⟩
    · have e2 : ¬ w.1 = Ky.key k := fun z => e (Ky.inj (h.1.symm.trans z))
      rw [if_neg e, if_neg e2]
      exact h
theorem Paired.app2 {α β : Type} {R : α → β → Prop} : ∀ {xs xs' : List α} {ys ys' : List β}, Paired R xs ys → Paired R xs' ys' → Paired R (xs ++ xs') (ys ++ ys')
  | _, _, _, _, .nil, h => h
  | _, _, _, _, .cons q t, h => .cons q (Paired.app2 t h)
theorem DK.put {K : Fg} {H : Hp} {ws : List (Ky.kt κ × V)} {kvs : List (κ × β)} (k : κ) {v : V} {y : β} (hv : rep K H v y) (h : DK K H ws kvs) : DK K H (putK ws (Ky.key k) v) (putD kvs k y) := by
  unfold putK putD
  rw [valV_any, h.some k]
  split
  · exact DK.repl k hv h
  · exact Paired.app2 h (.cons ⟨rfl, hv⟩ .nil)
end
section
variable {K : Fg} {F Kn0 : Hp} {sl sl' : List Sl} {ow ow0 ow1 ow2 : List Ow} {κ β γ : Type} [Rp κ] [Ky κ] [DecidableEq κ] [Rp β] [Rp γ] {ta tb te td tk : TE} {k : κ} {x : γ} {D : Ends} {t u tz : TS} {b : Bool} {i j : Nat} {p : Addr}
/-- the object at place j is another one now, all else as it was -/
theorem S.writeG {σ : L2.St} {Kn H Kn' H' : Hp} {o1 o2 : Ow} (s : S K F Kn0 sl ow σ Kn H) (hj : ow[j]? = some o1) (ha : o1.ad = p) (hb : o2.ad = p) (kk : Ex Kn Kn') (kh : Ex Kn' H')
    (hq : ∀ q, q ≠ p → H q ≠ none → H' q = H q) (sp : ∀ q, H q ≠ none → Kn q = none → Kn' q = none) (hp : o2.ok K Kn' H') : S K F Kn0 sl (ow.set j o2) σ Kn' H' := by
  obtain ⟨f1, f2, f3⟩ := s.ow.each _ (List.mem_of_getElem? hj)
  have f4 := Ow.there f3
  rw [ha] at f1 f2 f4
  have jl : j < ow.length := (List.getElem?_eq_some_iff.mp hj).1
  refine ⟨s.e0.trans kk, kh, fun a u h => ?_, fun a h1 h2 => sp a (Ex.nn s.ef h1) (s.sep a h1 h2), s.sl.mono kk, ⟨fun o ho => ?_, ?_⟩⟩
  · have hne : a ≠ p := fun z => by rw [z, f1] at h; cases h
    rw [hq a hne (ne_none_of (s.ef _ _ h))]
    exact s.ef _ _ h
  · obtain ⟨i, hi⟩ := List.getElem?_of_mem ho
    by_cases e : i = j
    · subst e
      rw [List.getElem?_set_self jl] at hi
      cases hi
      rw [hb]
      exact ⟨f1, sp p f4 f2, hp⟩
    · rw [List.getElem?_set_ne (Ne.symm e)] at hi
      obtain ⟨h1, h2, h3⟩ := s.ow.each o (List.mem_of_getElem? hi)
      have h4 := Ow.there h3
      have hne : o.ad ≠ p := fun z => e (ow_at s.ow.nd hi hj (z.trans ha.symm))
      exact ⟨h1, sp _ h4 h2, Ow.ok_mono kk (hq _ hne h4) h3⟩
  · have e : (ow.set j o2).map Ow.ad = ow.map Ow.ad := by
      rw [List.map_set]
      refine List.ext_getElem? fun i => ?_
      by_cases e : j = i
      · subst e
        rw [List.getElem?_set_self (by rw [List.length_map]; exact jl), List.getElem?_map, hj, hb, ← ha]
        rfl
      · rw [List.getElem?_set_ne e]
    rw [e]
    exact s.ow.nd
theorem S.ownG {σ : L2.St} {Kn H : Hp} {o : Ow} (s : S K F Kn0 sl ow σ Kn H) (ha : o.ad = p) (fp : F p = none) (kp : Kn p = none) (no : ∀ o ∈ ow, o.ad ≠ p) (ok : o.ok K Kn H) : S K F Kn0 sl (o :: ow) σ Kn H :=
  ⟨s.e0, s.ek, s.ef, s.sep, s.sl, ⟨fun o ho => by
    rcases List.mem_cons.mp ho with rfl | ho
    · rw [ha]
      exact ⟨fp, kp, ok⟩
    · exact s.ow.each o ho, List.nodup_cons.mpr ⟨fun h => by
      obtain ⟨o, ho, e⟩ := List.mem_map.mp h
      exact no o ho (e.trans ha), s.ow.nd⟩⟩⟩
/-- x = {} -/
theorem sb_dnewK {sl' : Addr → List Sl} (hm : Ky.ho (κ := κ) [] = HO.dK []) (hs : ∀ p, sl.set i (.at p) = sl' p) (k : ∀ p, SN K F Kn0 (sl' p) (oo p (Dc.mk ([] : List (κ × β))) :: ow) D) : SB K F Kn0 sl ow D (tAsg tDNewK (gName i)) := fun σ Kn H s p hp =>
  k p _ Kn _ (hs p ▸ ((s.grow (Gr.newU s.ek hp)).ownG (p := p) (o := oo p (Dc.mk ([] : List (κ × β)))) rfl (fresh_back s.ef hp) (fresh_back s.ek hp) (owned_ne s hp) ⟨_, upd_same, [], hm.symm, .nil⟩).seta i)
theorem sb_dnewT {sl' : Addr → List Sl} (hm : Ky.ho (κ := κ) [] = HO.dT []) (hs : ∀ p, sl.set i (.at p) = sl' p) (k : ∀ p, SN K F Kn0 (sl' p) (oo p (Dc.mk ([] : List (κ × β))) :: ow) D) : SB K F Kn0 sl ow D (tAsg tDNewT (gName i)) := fun σ Kn H s p hp =>
  k p _ Kn _ (hs p ▸ ((s.grow (Gr.newU s.ek hp)).ownG (p := p) (o := oo p (Dc.mk ([] : List (κ × β)))) rfl (fresh_back s.ef hp) (fresh_back s.ek hp) (owned_ne s hp) ⟨_, upd_same, [], hm.symm, .nil⟩).seta i)
/-- d[k] = y -/
theorem sb_dput {y : β} {d d' : Dc κ β} (hi : sl[i]? = some (.at p)) (hj : ow[j]? = some (oo p d)) (h : EV K F Kn0 sl ow te y) (hk : EV K F Kn0 sl ow tk k) (hx : putO d k y = some d') (ho : ow.set j (oo p d') = ow1) (n : SN K F Kn0 sl ow1 D) :
    SB K F Kn0 sl ow D (sDPut (tVar i) tk te) := fun σ Kn H s => h σ Kn H s _ fun v Kn1 H1 g1 r1 => by
  obtain ⟨o, h1, h2⟩ := s.sl.get hi
  refine ⟨.ref p, by rw [h1]; exact congrArg some h2, hk σ Kn1 H1 (s.grow g1) _ fun w Kn2 H2 g2 r2 => ?_⟩
  have s2 := (s.grow g1).grow g2
  obtain ⟨f1, f2, o1, f3, ws, f4, f5⟩ := s2.ow.each _ (List.mem_of_getElem? hj)
  subst f4
  unfold putO at hx
  split at hx
  · case isTrue hl =>
    cases hx
    subst ho
    refine ⟨p, _, rfl, Ky.put r2 s2.ek f3 (by rw [f5.length]; exact lt_line hl), n _ Kn2 _ ?_⟩
    exact s2.writeG hj rfl rfl (Ex.refl _) (upd_in s2.ek f2) (fun q hq _ => upd_ne hq) (fun _ _ h => h) ⟨_, upd_same, _, rfl, DK.put k (Rp.mono g2.kk r1) f5⟩
  · cases hx
/-- k in d -/
theorem ev_dinO {d : Dc κ β} (hi : sl[i]? = some (.at p)) (hj : ow[j]? = some (oo p d)) (hk : EV K F Kn0 sl ow tk k) : EV K F Kn0 sl ow (tDIn tk (tVar i)) (getD d.l k).isSome := fun σ Kn H s Q q => hk σ Kn H s _ fun v Kn1 H1 g1 r1 => by
  have s1 := s.grow g1
  obtain ⟨o, h1, h2⟩ := s1.sl.get hi
  obtain ⟨f1, f2, o1, f3, ws, f4, f5⟩ := s1.ow.each _ (List.mem_of_getElem? hj)
  subst f4
  exact ⟨.ref p, by rw [h1]; exact congrArg some h2, p, _, rfl, Ky.get r1 s1.ek (Rd.of f3), q _ Kn1 H1 g1 (congrArg V.bl (f5.some k))⟩
theorem ev_din {d : Dc κ β} (hd : EV K F Kn0 sl ow td d) (hk : EV K F Kn0 sl ow tk k) : EV K F Kn0 sl ow (tDIn tk td) (getD d.l k).isSome := fun σ Kn H s Q q => hk σ Kn H s _ fun v Kn1 H1 g1 r1 => hd σ Kn1 H1 (s.grow g1) _ fun u Kn2 H2 g2 r2 => by
  obtain ⟨p, ws, e1, e2, f5⟩ := r2
  exact ⟨p, _, e1, Ky.get (Rp.mono g2.kk r1) g2.kh (rd_ex g2.kh e2), q _ Kn2 H2 (g1.trans g2) (congrArg V.bl (f5.some k))⟩
theorem ev_dnotinO {d : Dc κ β} (hi : sl[i]? = some (.at p)) (hj : ow[j]? = some (oo p d)) (hk : EV K F Kn0 sl ow tk k) : EV K F Kn0 sl ow (tDNotIn tk (tVar i)) (!(getD d.l k).isSome) := fun σ Kn H s Q q => hk σ Kn H s _ fun v Kn1 H1 g1 r1 => by
  have s1 := s.grow g1
  obtain ⟨o, h1, h2⟩ := s1.sl.get hi
  obtain ⟨f1, f2, o1, f3, ws, f4, f5⟩ := s1.ow.each _ (List.mem_of_getElem? hj)
  subst f4
  exact ⟨.ref p, by rw [h1]; exact congrArg some h2, p, _, rfl, Ky.get r1 s1.ek (Rd.of f3), q _ Kn1 H1 g1 (congrArg (fun b => V.bl (!b)) (f5.some k))⟩
theorem ev_dnotin {d : Dc κ β} (hd : EV K F Kn0 sl ow td d) (hk : EV K F Kn0 sl ow tk k) : EV K F Kn0 sl ow (tDNotIn tk td) (!(getD d.l k).isSome) := fun σ Kn H s Q q => hk σ Kn H s _ fun v Kn1 H1 g1 r1 => hd σ Kn1 H1 (s.grow g1) _ fun u Kn2 H2 g2 r2 => by
  obtain ⟨p, ws, e1, e2, f5⟩ := r2
  exact ⟨p, _, e1, Ky.get (Rp.mono g2.kk r1) g2.kh (rd_ex g2.kh e2), q _ Kn2 H2 (g1.trans g2) (congrArg (fun b => V.bl (!b)) (f5.some k))⟩
/-- d[k] -/
theorem ev_dgetO {d : Dc κ β} {y : β} (hi : sl[i]? = some (.at p)) (hj : ow[j]? = some (oo p d)) (hk : EV K F Kn0 sl ow tk k) (hy : getD d.l k = some y) : EV K F Kn0 sl ow (tDGet (tVar i) tk) y := fun σ Kn H s Q q => by
  obtain ⟨o, h1, h2⟩ := s.sl.get hi
  refine ⟨.ref p, by rw [h1]; exact congrArg some h2, hk σ Kn H s _ fun v Kn1 H1 g1 r1 => ?_⟩
  have s1 := s.grow g1
  obtain ⟨f1, f2, o1, f3, ws, f4, f5⟩ := s1.ow.each _ (List.mem_of_getElem? hj)
  subst f4
  rcases f5.get k with ⟨h1, h2⟩ | ⟨y2, w, h1, h2, h3⟩
  · rw [h1] at hy
    cases hy
  · rw [h1] at hy
    cases hy
    exact ⟨p, w, rfl, h2 ▸ Ky.get r1 s1.ek (Rd.of f3), q w Kn1 H1 g1 h3⟩
theorem ev_dget {d : Dc κ β} {y : β} (hd : EV K F Kn0 sl ow td d) (hk : EV K F Kn0 sl ow tk k) (hy : getD d.l k = some y) : EV K F Kn0 sl ow (tDGet td tk) y := fun σ Kn H s Q q => hd σ Kn H s _ fun u Kn1 H1 g1 r1 => hk σ Kn1 H1 (s.grow g1) _ fun v Kn2 H2 g2 r2 => by
  obtain ⟨p, ws, e1, e2, f5⟩ := Rp.mono g2.kk r1
  rcases f5.get k with ⟨h1, h2⟩ | ⟨y2, w, h1, h2, h3⟩
  · rw [h1] at hy
    cases hy
  · rw [h1] at hy
    cases hy
    exact ⟨p, w, e1, h2 ▸ Ky.get r2 g2.kh (rd_ex g2.kh e2), q w Kn2 H2 (g1.trans g2) h3⟩
/-- a dict of one's own, lent -/
theorem S.borrowG {σ : L2.St} {Kn H : Hp} {d : Dc κ β} (s : S K F Kn0 sl ow σ Kn H) (hi : sl[i]? = some (.at p)) (hj : ow[j]? = some (oo p d)) : ∃ o, Kn p = none ∧ H p = some o ∧ S K F Kn0 (sl.set i (sv d)) (ow.eraseIdx j) σ (upd Kn p o) H := by
  obtain ⟨o, h1, h2⟩ := s.sl.get hi
  have h2 : o = some (.ref p) := h2
  obtain ⟨f1, f2, ob, f3, f4⟩ := s.ow.each _ (List.mem_of_getElem? hj)
  have s1 := s.sub (List.eraseIdx_sublist ow j)
  have no : ∀ o ∈ ow.eraseIdx j, o.ad ≠ p := fun o hm z => by
    obtain ⟨m, hm'⟩ := List.getElem?_of_mem hm
    rw [List.getElem?_eraseIdx] at hm'
    split at hm'
    · have := ow_at s.ow.nd hm' hj z
      omega
    · have := ow_at s.ow.nd hm' hj z
      omega
  have s2 := s1.know (o := ob) f1 f2 no f3
  have hσ : σ.set i o = σ := by
    refine List.ext_getElem? fun m => ?_
    by_cases e : i = m
    · subst e
      rw [List.getElem?_set_self (List.getElem?_eq_some_iff.mp h1).1, h1]
    · rw [List.getElem?_set_ne e]
  have s3 := s2.set (x := sv d) (o := o) i ⟨.ref p, h2, by
    obtain ⟨ws, rfl, f5⟩ := f4
    exact ⟨p, ws, rfl, Rd.of upd_same, DK.mono (Ex.new f2) f5⟩⟩
  rw [hσ] at s3
  exact ⟨ob, f2, f3, s3⟩
theorem ev_borG [Fl γ] {z : γ} {d : Dc κ β} (hi : sl[i]? = some (.at p)) (hj : ow[j]? = some (oo p d)) (hs : sl.set i (sv d) = sl') (ho : ow.eraseIdx j = ow1) (h : EV K F Kn0 sl' ow1 te z) : EV K F Kn0 sl ow te z := fun σ Kn H s Q q => by
  obtain ⟨ws, kp, hp, s1⟩ := s.borrowG hi hj
  subst hs
  subst ho
  exact h σ _ H s1 Q fun v Kn' H' g r => q v Kn H' ⟨Ex.refl _, g.hh, s.ek.trans g.hh, fun _ _ h => h⟩ (Fl.iff.mpr (Fl.iff.mp r))
theorem et_borG {tt : TT} {d : Dc κ β} (hi : sl[i]? = some (.at p)) (hj : ow[j]? = some (oo p d)) (hs : sl.set i (sv d) = sl') (ho : ow.eraseIdx j = ow1) (h : ET K F Kn0 sl' ow1 tt b) : ET K F Kn0 sl ow tt b := fun σ Kn H s Q q => by
  obtain ⟨ws, kp, hp, s1⟩ := s.borrowG hi hj
  subst hs
  subst ho
  exact h σ _ H s1 Q fun Kn' H' g => q Kn H' ⟨Ex.refl _, g.hh, s.ek.trans g.hh, fun _ _ h => h⟩
end
section
variable {X : Cx} {o i e value : Expr} {pos pos' tpos : Pos} {td ty tv : TE}
theorem k_dget (hu : X.A.units + 64 < cLine) (ho : PE X o td) (hi : PE X i ty) (hs : NoSl i) : PE X (.Subscript o i pos) (tDGet td ty) := pe_dget (by omega) ho hi hs
theorem k_din (hu : X.A.units + 64 < cLine) (hi : PE X i ty) (ho : PE X o td) : PC X .In i o (tDIn ty td) := pc_din (by omega) hi ho
theorem k_dnotin (hu : X.A.units + 64 < cLine) (hi : PE X i ty) (ho : PE X o td) : PC X .NotIn i o (tDNotIn ty td) := pc_dnotin (by omega) hi ho
theorem k_dput (hu : X.A.units + 64 < cLine) (ho : PE X o td) (hi : PE X i ty) (hv : PE X value tv) (hs : swapsWith value (some (.Subscript o i pos')) pos.line X.env = pure false) : PS X (.Assign [.Subscript o i pos'] value pos) (sDPut td ty tv) := ps_dput (by omega) ho hi hv hs
end
/-! ### a new list out of an operation with effects -/
section
variable {K : Fg} {F Kn0 : Hp} {sl : List Sl} {ow ow1 ow2 : List Ow} {α β γ : Type} [Rp α] [Rp β] [Rp γ] {ta tb : TE} {x : α} {y : β}
theorem enm_op {r : R2} {zs : List γ} (ha : EM K F Kn0 sl ow ta ow1 x) (hb : EM K F Kn0 sl ow1 tb ow2 y) (hr : R2L K r x y zs) : ENM K F Kn0 sl ow (tOp r ta tb) ow2 zs := fun σ Kn H s Q q =>
  ha σ Kn H s _ fun v Kn1 H1 e1 s1 r1 => hb σ Kn1 H1 s1 _ fun w Kn2 H2 e2 s2 r2 => hr Kn2 H2 v w s2.ek (Rp.mono e2 r1) r2 Q fun p ws Kn' H' g' hp kp hw r' =>
    q p ws Kn' H' ((e1.trans e2).trans g'.kk) (s2.grow g') (fresh_back s2.ef hp) kp (owned_ne s2 hp) hw r'
end
/-! ### a display -/
section
variable {K : Fg} {F Kn0 : Hp} {sl : List Sl} {ow : List Ow} {κ β : Type} [Rp κ] [K1 κ] [DecidableEq κ] [Rp β] {tk tv : TE} {k : κ} {y : β} {trs : List (TE × TE)} {kvs : List (κ × β)}
def EPs (K : Fg) (F Kn0 : Hp) (sl : List Sl) (ow : List Ow) (trs : List (TE × TE)) (kvs : List (κ × β)) : Prop := ∀ σ Kn H, S K F Kn0 sl ow σ Kn H → ∀ Q : List (V × V) → Hp → Prop,
  (∀ ws Kn' H', Gr Kn H Kn' H' → DK K Kn' ws kvs → Q (ws.map fun w => (kV w.1, w.2)) H') → tPairs trs σ H Q
theorem eps_nil : EPs K F Kn0 sl ow [] ([] : List (κ × β)) := fun σ Kn H s Q q => q [] Kn H (Gr.refl s.ek) .nil
theorem eps_cons (hk : EV K F Kn0 sl ow tk k) (hv : EV K F Kn0 sl ow tv y) (hr : EPs K F Kn0 sl ow trs kvs) : EPs K F Kn0 sl ow ((tk, tv) :: trs) ((k, y) :: kvs) := fun σ Kn H s Q q =>
  hk σ Kn H s _ fun v Kn1 H1 g1 r1 => hv σ Kn1 H1 (s.grow g1) _ fun w Kn2 H2 g2 r2 => hr σ Kn2 H2 ((s.grow g1).grow g2) _ fun ws Kn3 H3 g3 r3 => by
    have e := K1.iff r1
    subst e
    exact q ((K1.key k, w) :: ws) Kn3 H3 ((g1.trans g2).trans g3) (.cons ⟨rfl, Rp.mono g3.kk r2⟩ r3)
theorem DK.merge {K : Fg} {H : Hp} : ∀ {ms : List (Key × V)} {more : List (κ × β)} {ws : List (Key × V)} {kvs : List (κ × β)}, DK K H ms more → DK K H ws kvs → DK K H (mergeK ws ms) (mergeD kvs more) := by
  intro ms more ws kvs h
  unfold DK at h
  induction h generalizing ws kvs with
  | nil => exact fun h => h
  | @cons w kv ms more h t ih =>
    intro q
    refine ih ?_
    show DK K H (putK ws w.1 w.2) (putD kvs kv.1 kv.2)
    rw [h.1]
    exact DK.put kv.1 h.2 q
/-- {..}[k] -/
theorem ev_pick (hp : EPs K F Kn0 sl ow trs kvs) (hk : EV K F Kn0 sl ow tk k) (hl : kvs.length ≤ 15) (hy : getD (mergeD [] kvs) k = some y) : EV K F Kn0 sl ow (tDGet (tDisp trs) tk) y := fun σ Kn H s Q q p hp0 => by
  have g0 : Gr Kn H Kn (upd H p (.dK [])) := Gr.newU s.ek hp0
  refine hp σ Kn _ (s.grow g0) _ fun ws Kn1 H1 g1 r1 => ?_
  have e1 : H1 p = some (.dK []) := g1.hh _ _ upd_same
  have kp : Kn1 p = none := g1.sp p (ne_none_of upd_same) (fresh_back s.ek hp0)
  have g : Gr Kn H Kn1 (upd H1 p (.dK (mergeK [] ws))) := ⟨g1.kk, fun a u h => by
    have hne : a ≠ p := fun z => by rw [z, hp0] at h; cases h
    rw [upd_ne hne]
    exact g1.hh _ _ (by rw [upd_ne hne]; exact h), upd_in g1.kh kp, fun a h1 h2 => g1.sp a (Ex.nn g0.hh h1) h2⟩
  refine ⟨e1, ws, rfl, by rw [r1.length]; exact hl, hk σ Kn1 _ (s.grow g) _ fun v Kn2 H2 g2 r2 => ?_⟩
  have r3 : DK K Kn1 (mergeK [] ws) (mergeD [] kvs) := DK.merge r1 .nil
  rcases r3.get k with ⟨h1, h2⟩ | ⟨y2, w, h1, h2, h3⟩
  · rw [h1] at hy
    cases hy
  · rw [h1] at hy
    cases hy
    exact ⟨p, w, rfl, h2 ▸ Ky.get r2 g2.kh (Rd.of (g2.hh _ _ upd_same)), q w Kn2 H2 (g.trans g2) (Rp.mono g2.kk h3)⟩
end
end Wk
/-! Wdy: values of any kind (None, truths, numbers, texts, tuples and lists of these), read as data; a dict of the module; a def that calls itself -/
namespace Wk
open PySem PySem.Spec L2 Evl
mutual
inductive Dq (H : Hp) : V → PyData → Prop
  | non : Dq H .non .none
  | bl (b : Bool) : Dq H (.bl b) (.bool b)
  | int (i : Int) : Dq H (.int i) (.int i)
  | str (x : Str) : Dq H (.str x) (.str x)
  | lst {a : Addr} {xs : List V} {ds : List PyData} : H a = some (.lst xs) → DqAll H xs ds → Dq H (.ref a) (.list ds)
  | tup {a : Addr} {xs : List V} {ds : List PyData} : H a = some (.tup xs) → DqAll H xs ds → Dq H (.ref a) (.tuple ds)
inductive DqAll (H : Hp) : List V → List PyData → Prop
  | nil : DqAll H [] []
  | cons {v : V} {vs : List V} {d : PyData} {ds : List PyData} : Dq H v d → DqAll H vs ds → DqAll H (v :: vs) (d :: ds)
end
theorem Dq.swap {H H' : Hp} (e : Sw H H') {v : V} {d : PyData} (h : Dq H v d) : Dq H' v d :=
  Dq.rec (motive_1 := fun v d _ => Dq H' v d) (motive_2 := fun vs ds _ => DqAll H' vs ds) .non .bl .int .str (fun s _ ih => .lst (e.lst s) ih) (fun s _ ih => .tup (e.tup s) ih) .nil (fun _ _ h1 h2 => .cons h1 h2) h
theorem DqAll.swap {H H' : Hp} (e : Sw H H') {v : List V} {d : List PyData} (h : DqAll H v d) : DqAll H' v d :=
  DqAll.rec (motive_1 := fun v d _ => Dq H' v d) (motive_2 := fun vs ds _ => DqAll H' vs ds) .non .bl .int .str (fun s _ ih => .lst (e.lst s) ih) (fun s _ ih => .tup (e.tup s) ih) .nil (fun _ _ h1 h2 => .cons h1 h2) h
theorem Dq.dp {K : Fg} {H : Hp} {v : V} {d : PyData} (h : Dq H v d) : Dp K H v d :=
  Dq.rec (motive_1 := fun v d _ => Dp K H v d) (motive_2 := fun vs ds _ => DpAll K H vs ds) .non .bl .int .str (fun s _ ih => .lst (sq_of s) ih) (fun s _ ih => .tup (st_of s) ih) .nil (fun _ _ h1 h2 => .cons h1 h2) h
structure Dy where
  d : PyData
instance : Rp Dy := { rep := fun _ H v x => Dq H v x.d, swap := fun e h => Dq.swap e h }
/-- to data -/
class Ud (α : Type) [Rp α] where
  toD : α → PyData
  is : ∀ {K : Fg} {H : Hp} {v : V} {a : α}, rep K H v a → Dq H v (toD a)
class Us (τ : Type) [Tp τ] where
  toDs : τ → List PyData
  is : ∀ {K : Fg} {H : Hp} {vs : List V} {a : τ}, rept K H vs a → DqAll H vs (toDs a)
instance : Ud Int := ⟨.int, fun h => by cases h; exact .int _⟩
instance : Ud Bool := ⟨.bool, fun h => by cases h; exact .bl _⟩
instance : Ud Str := ⟨.str, fun h => by cases h; exact .str _⟩
instance : Ud Nn := ⟨fun _ => .none, fun h => by cases h; exact .non⟩
instance : Ud Dy := ⟨Dy.d, fun h => h⟩
instance {α : Type} [Rp α] [Ud α] : Ud (Option α) where
  toD x := match x with | none => .none | some a => Ud.toD a
  is {K H v a} h := by
    cases a with
    | none => cases h; exact .non
    | some a => exact Ud.is h.2
theorem dqAll_of {α : Type} [Rp α] [Ud α] {K : Fg} {H : Hp} : ∀ {vs : List V} {xs : List α}, Paired (rep K H) vs xs → DqAll H vs (xs.map Ud.toD)
  | _, _, .nil => .nil
  | _, _, .cons r t => .cons (Ud.is r) (dqAll_of t)
instance {α : Type} [Rp α] [Ud α] : Ud (List α) where
  toD xs := .list (xs.map Ud.toD)
  is h := by
    obtain ⟨p, vs, rfl, h1, h2⟩ := h
    exact .lst h1 (dqAll_of h2)
instance {α : Type} [Rp α] [Ud α] : Ud (Tu α) where
  toD xs := .tuple (xs.l.map Ud.toD)
  is h := by
    obtain ⟨p, vs, rfl, h1, h2⟩ := h
    exact .tup h1 (dqAll_of h2)
instance : Us Unit := ⟨fun _ => [], fun h => by cases h; exact .nil⟩
instance {α τ : Type} [Rp α] [Tp τ] [Ud α] [Us τ] : Us (α × τ) where
  toDs t := Ud.toD t.1 :: Us.toDs t.2
  is h := by
    obtain ⟨v, r, rfl, h1, h2⟩ := h
    exact .cons (Ud.is h1) (Us.is h2)
instance {α τ : Type} [Rp α] [Tp τ] [Ud α] [Us τ] : Ud (α × τ) where
  toD t := .tuple (Us.toDs (τ := α × τ) t)
  is h := by
    obtain ⟨p, vs, rfl, h1, h2⟩ := h
    exact .tup h1 (Us.is h2)
/-- out of data, where it is of the kind -/
class Od (α : Type) [Rp α] where
  of : PyData → Option α
  un : ∀ {K : Fg} {H : Hp} {v : V} {d : PyData} {a : α}, Dq H v d → of d = some a → rep K H v a
class Os (τ : Type) [Tp τ] where
  ofs : List PyData → Option τ
  un : ∀ {K : Fg} {H : Hp} {vs : List V} {ds : List PyData} {a : τ}, DqAll H vs ds → ofs ds = some a → rept K H vs a
instance : Od Int := ⟨fun d => match d with | .int i => some i | _ => none, fun h e => by cases h <;> cases e; rfl⟩
instance : Od Bool := ⟨fun d => match d with | .bool i => some i | _ => none, fun h e => by cases h <;> cases e; rfl⟩
instance : Od Str := ⟨fun d => match d with | .str i => some i | _ => none, fun h e => by cases h <;> cases e; rfl⟩
instance : Od Dy := ⟨fun d => some ⟨d⟩, fun h e => by cases e; exact h⟩
def ofAll {α : Type} [Rp α] [Od α] : List PyData → Option (List α)
  | [] => some []
  | d :: ds => (Od.of d).bind fun x => (ofAll ds).bind fun xs => some (x :: xs)
theorem ofAll_un {α : Type} [Rp α] [Od α] {K : Fg} {H : Hp} : ∀ {ds : List PyData} {vs : List V} {xs : List α}, DqAll H vs ds → ofAll ds = some xs → Paired (rep K H) vs xs
  | [], _, _, h, e => by
    cases h
    cases e
    exact .nil
  | d :: ds, _, xs, h, e => by
    cases h with
    | cons h1 h2 =>
      obtain ⟨x, ex, e⟩ := bind_some e
      obtain ⟨ys, ey, e⟩ := bind_some e
      cases e
      exact .cons (Od.un h1 ex) (ofAll_un h2 ey)
instance {α : Type} [Rp α] [Od α] : Od (Tu α) where
  of d := match d with | .tuple ds => (ofAll ds).map Tu.mk | _ => none
  un h e := by
    cases h with
    | tup h1 h2 =>
      obtain ⟨xs, e1, rfl⟩ := Option.map_eq_some_iff.mp e
      exact ⟨_, _, rfl, h1, ofAll_un h2 e1⟩
    | _ => cases e
instance {α : Type} [Rp α] [Od α] : Od (List α) where
  of d := match d with | .list ds => ofAll ds | _ => none
  un h e := by
    cases h with
    | lst h1 h2 => exact ⟨_, _, rfl, h1, ofAll_un h2 e⟩
    | _ => cases e
instance : Os Unit := ⟨fun ds => match ds with | [] => some () | _ => none, fun h e => by cases h <;> cases e; rfl⟩
instance {α τ : Type} [Rp α] [Tp τ] [Od α] [Os τ] : Os (α × τ) where
  ofs ds := match ds with | [] => none | d :: ds => (Od.of d).bind fun x => (Os.ofs ds).bind fun t => some (x, t)
  un h e := by
    cases h with
    | nil => cases e
    | cons h1 h2 =>
      obtain ⟨x, ex, e⟩ := bind_some e
      obtain ⟨t, et, e⟩ := bind_some e
      cases e
      exact ⟨_, _, rfl, Od.un h1 ex, Os.un h2 et⟩
instance {α τ : Type} [Rp α] [Tp τ] [Od α] [Os τ] : Od (α × τ) where
  of d := match d with | .tuple ds => Os.ofs (τ := α × τ) ds | _ => none
  un h e := by
    cases h with
    | tup h1 h2 => exact ⟨_, _, rfl, h1, Os.un h2 e⟩
    | _ => cases e
def ofD {α : Type} [Rp α] [Od α] (x : Dy) : Option α := Od.of x.d
def upD {α : Type} [Rp α] [Ud α] (x : α) : Dy := ⟨Ud.toD x⟩
def eqYO (a b : Dy) : Option Bool := if SeqAt.shaped a.d = true ∧ SeqAt.shaped b.d = true then some (PyData.eqv a.d b.d) else none
section
variable {K : Fg} {F Kn0 : Hp} {sl sl' : List Sl} {ow ow1 : List Ow} {α β τ : Type} [Rp α] [Rp β] [Tp τ] {te tk : TE} {x : Dy}
theorem ev_of [Od α] {y : α} (h : EV K F Kn0 sl ow te x) (e : ofD x = some y) : EV K F Kn0 sl ow te y := fun σ Kn H s Q q => h σ Kn H s Q fun v Kn' H' g r => q v Kn' H' g (Od.un r e)
theorem ev_up [Ud α] {y : α} (h : EV K F Kn0 sl ow te y) : EV K F Kn0 sl ow te (upD y) := fun σ Kn H s Q q => h σ Kn H s Q fun v Kn' H' g r => q v Kn' H' g (Ud.is r)
theorem em_up [Ud α] {y : α} (h : EM K F Kn0 sl ow te ow1 y) : EM K F Kn0 sl ow te ow1 (upD y) := fun σ Kn H s Q q => h σ Kn H s Q fun v Kn' H' e s' r => q v Kn' H' e s' (Ud.is r)
/-- a list, where a list is read -/
theorem ev_fz {xs : List α} (h : EV K F Kn0 sl ow te xs) : EV K F Kn0 sl ow te (Fz.mk xs) := fun σ Kn H s Q q => h σ Kn H s Q fun v Kn' H' g r => by
  obtain ⟨p, vs, rfl, h1, h2⟩ := r
  exact q _ Kn' H' g ⟨p, vs, rfl, sq_of h1, h2⟩
theorem r2_eqY {a b : Dy} {c : Bool} (h : eqYO a b = some c) : R2V K (rEqD K) a b c := fun Kn H v w ek h1 h2 Q q => by
  unfold eqYO at h
  split at h
  case isFalse => cases h
  rename_i hb
  cases h
  exact ⟨a.d, b.d, dp_mono ek (Dq.dp h1), dp_mono ek (Dq.dp h2), hb.1, hb.2, q.fl ek⟩
theorem r2_neY {a b : Dy} {c : Bool} (h : eqYO a b = some c) : R2V K (rNeD K) a b (!c) := fun Kn H v w ek h1 h2 Q q => by
  unfold eqYO at h
  split at h
  case isFalse => cases h
  rename_i hb
  cases h
  exact ⟨a.d, b.d, dp_mono ek (Dq.dp h1), dp_mono ek (Dq.dp h2), hb.1, hb.2, q.fl ek⟩
/-- D[k], D a dict of the module -/
theorem ev_kd {w : World} {p : Addr} {tab : List (Str × Str)} {k z : Str} (ht : ∀ kv ∈ tab, KDct K w p kv.1 (.str kv.2)) (hk : EV K F Kn0 sl ow tk k) (hz : getD tab k = some z) : EV K F Kn0 sl ow (tOp (rIxD K w) (tC (.ref p)) tk) z := fun σ Kn H s Q q =>
  hk σ Kn H s _ fun v Kn1 H1 g1 r1 => by
    cases r1
    unfold getD at hz
    obtain ⟨kv, hf, rfl⟩ := Option.map_eq_some_iff.mp hz
    have hk2 := List.find?_some hf
    rw [decide_eq_true_eq] at hk2
    have := ht kv (List.mem_of_find?_eq_some hf)
    rw [hk2] at this
    exact ⟨p, _, _, rfl, rfl, this, q _ Kn1 H1 g1 rfl⟩
theorem k_ixkd {X : Cx} {w : World} (h : X.K = K := by rfl) (hw : X.w = w := by rfl) : IxR X (rIxD K w) := by
  subst h
  subst hw
  exact ix_kdict


end
theorem fnok_none {P : Program} {w : World} {K : Fg} {mg : Str → Option Value} {base : Heap} {CX : CXT} {k : Nat} {f : Addr} {fd : FuncData} {ps : List Str} {τ α : Type} [Tp τ] [Rp α] : FnOk P w K mg base CX k f fd ps (PF K (fun _ : τ => (none : Option α))) := by
  refine ⟨fun vs H Q E h => ?_, fun A outer s H args us vs Q E hr he hb hv h => ?_⟩
  · obtain ⟨_, _, _, _, _, h, _⟩ := h
    cases h
  · obtain ⟨_, _, _, _, _, h, _⟩ := h
    cases h
theorem fnok_noneL {P : Program} {w : World} {K : Fg} {mg : Str → Option Value} {base : Heap} {CX : CXT} {k : Nat} {f : Addr} {fd : FuncData} {ps : List Str} {τ α : Type} [Tp τ] [Rp α] : FnOk P w K mg base CX k f fd ps (PL K (fun _ : τ => (none : Option (List α)))) := by
  refine ⟨fun vs H Q E h => ?_, fun A outer s H args us vs Q E hr he hb hv h => ?_⟩
  · obtain ⟨_, _, _, _, _, h, _⟩ := h
    cases h
  · obtain ⟨_, _, _, _, _, h, _⟩ := h
    cases h
end Wk
/-! Wupd: dict(pairs) and d.update(d2) with tuple keys. -/
namespace L2
open PySem PySem.Spec PyProof.Rows
def mergeT (kvs more : List (List Key × V)) : List (List Key × V) := more.foldl (fun acc kv => putK acc kv.1 kv.2) kvs
theorem length_mergeT : ∀ (more kvs : List (List Key × V)), (mergeT kvs more).length ≤ kvs.length + more.length
  | [], kvs => Nat.le_refl _
  | p :: r, kvs => by
    have h1 := length_mergeT r (putK kvs p.1 p.2)
    have h2 := length_putK kvs p.1 p.2
    show (mergeT (putK kvs p.1 p.2) r).length ≤ _
    rw [List.length_cons]
    omega
theorem KT.merge {H : Hp} : ∀ {more : List (List Key × V)} {ms : List (List Key × Addr × Value)} {kvs : List (List Key × V)} {xs : List (List Key × Addr × Value)}, KT H more ms → KT H kvs xs → KT H (mergeT kvs more) (storedAllH xs ms) := by
  intro more ms kvs xs r
  unfold KT at r
  induction r generalizing kvs xs with
  | nil => intro q; exact q
  | @cons p q ps qs h t ih =>
    intro r0
    have e : KT H (putK kvs p.1 p.2) (storedH xs q.1 q.2.1 q.2.2) := by
      have := r0.put p.1 h.2.1 h.2.2
      rw [← h.1]
      exact this
    exact ih e
section
variable {X : Cx} {pins : List (Addr × Obj)} {σ : St} {H : Hp} {s : Shared}
theorem pairsT_of (I : Inv X pins σ H s) : ∀ {ps : List Addr} {kvs : List (List Key × V)}, Paired (fun p kv => ∃ b, SqT X.K H p [.ref b, kv.2] ∧ H b = some (.tup (kv.1.map kV))) ps kvs →
    ∃ ms : List (List Key × Addr × Value), KT H kvs ms ∧ ms.length = ps.length ∧ ∀ (j : Nat) (m : List Key × Addr × Value), ms[j]? = some m → ∃ p : Addr, ps[j]? = some p ∧ IsTup s.heap p #[.ref m.2.1, m.2.2]
  | _, _, .nil => ⟨[], .nil, rfl, fun j q e => by simp at e⟩
  | _, _, .cons (a := p) (b := kv) h t => by
    obtain ⟨ms, r, hl, hp⟩ := pairsT_of I t
    obtain ⟨b, h1, h2⟩ := h
    obtain ⟨its, rv, ht, _⟩ := I.tuple h1
    obtain ⟨u, y, ei, ru, ry⟩ := vals2 rv
    subst ei
    cases ru
    refine ⟨(kv.1, b, y) :: ms, .cons ⟨rfl, h2, ry⟩ r, by rw [List.length_cons, List.length_cons, hl], fun j m e => ?_⟩
    cases j with
    | zero =>
      have e' : (kv.1, b, y) = m := Option.some.inj e
      subst e'
      exact ⟨p, rfl, ht⟩
    | succ j =>
      obtain ⟨p', e1, e2⟩ := hp j m (by simpa using e)
      exact ⟨p', by simpa using e1, e2⟩
theorem KT.is_all (I : Inv X pins σ H s) : ∀ {kvs : List (List Key × V)} {ms : List (List Key × Addr × Value)}, KT H kvs ms → ∀ x ∈ ms, (tupleKind (mixKind X.prog X.w)).is s.heap x.1 x.2.1 := by
  intro kvs ms q
  unfold KT at q
  induction q with
  | nil => intro x hx; exact nomatch hx
  | @cons p q ps qs hq t ih =>
    intro x hx
    rcases List.mem_cons.mp hx with e | hx
    · subst e
      exact key_of I.hok (by rw [← hq.1]; exact hq.2.1)
    · exact ih x hx
theorem key_stays {P : Program} {w : World} {h h' : Heap} {k : List Key} {b : Addr} (x : (tupleKind (mixKind P w)).is h k b) (e : ∀ o, h.get? b = some o → h'.get? b = some o) : (tupleKind (mixKind P w)).is h' k b := by
  obtain ⟨o, its, n, h1, h2, h3, h4⟩ := x
  exact ⟨o, its, n, e _ h1, h2, h3, h4⟩
theorem key_there {P : Program} {w : World} {h : Heap} {k : List Key} {b : Addr} (x : (tupleKind (mixKind P w)).is h k b) : b < h.objs.size := by
  obtain ⟨o, its, n, h1, h2, h3, h4⟩ := x
  exact Heap.lt_size h1
end
section
variable {X : Cx}
/-- dict(xs), xs a list of pairs whose keys are tuples -/
def rDictT (K : PySem.W.Frag) : List V → Hp → VK → Prop := fun xs H Q => ∃ (a : Addr) (ps : List Addr) (kvs : List (List Key × V)), xs = [.ref a] ∧ SqL K H a (ps.map V.ref) ∧ Paired (fun p kv => ∃ b, SqT K H p [.ref b, kv.2] ∧ H b = some (.tup (kv.1.map kV))) ps kvs ∧
    ∀ p, H p = none → Q (.ref p) (upd H p (.dT (mergeT [] kvs)))
theorem cr_dictT (hcalm : X.calm = true) (hu : X.A.units + 64 < cLine) : CallR X (.type "dict") (rDictT X.K) := by
  intro pins s σ H xs us Q I r q
  obtain ⟨a, ps, kvs, ex, hq, hp, q⟩ := q
  subst ex
  rw [Vals.ref1 r]
  obtain ⟨its, rv, pl, hz⟩ := I.list hq
  have ei := refs_at rv
  subst ei
  rw [List.length_map] at hz
  obtain ⟨ms, rel, hl, hpr⟩ := pairsT_of I hp
  obtain ⟨o, n, ho, hc, hd, hdat⟩ := pl
  have hall := KT.is_all I rel
  have hprs : (ms.map fun m => ((Value.ref m.2.1, m.2.2) : Value × Value)).length = ms.length := List.length_map _
  refine call_dict_pairsH (knd := tupleKind (mixKind X.prog X.w)) (ps := ms) (PairArg.list a (ps.map Value.ref).toArray (fun j => ps.getD j 0) (ms.map fun m => ((Value.ref m.2.1, m.2.2) : Value × Value))) (I.ok.hd hcalm)
    (show X.A.units + 1 + 1 < cLine by omega) ⟨⟨o, n, ho, hc, hd, hdat⟩, by simp [hl], fun j k v e => ?_⟩ ⟨by rw [hprs], fun i key v e => ?_⟩ (fun h' hk x hx => ?_) (by rw [hprs, hl]; exact hz) fun h' tk dd' k => ?_
  · rw [List.getElem?_map] at e
    cases em : ms[j]? with
    | none => rw [em] at e; cases e
    | some m =>
      rw [em] at e
      cases e
      obtain ⟨p, e1, e2⟩ := hpr j m em
      have eg : ps.getD j 0 = p := by rw [List.getD_eq_getElem?_getD, e1]; rfl
      refine ⟨by simp [e1], ?_⟩
      show PairAt s.heap (ps.getD j 0) _ _
      rw [eg]
      exact .inl e2
  · have e : (ms.map fun m => ((Value.ref m.2.1, m.2.2) : Value × Value))[i]? = some (key, v) := e
    rw [List.getElem?_map] at e
    cases em : ms[i]? with
    | none => rw [em] at e; cases e
    | some m =>
      rw [em] at e
      cases e
      exact ⟨m.1, m.2.1, rfl, rfl⟩
  · exact key_stays (hall x hx) fun o e => hk _ o (Nat.ne_of_lt (key_there (hall x hx))) (by simp) e
  · have hm : (s.heap.objs.size == sysModules) = false := beq_eq_false_iff_ne.mpr (Nat.ne_of_gt I.big)
    have hlen : (mergeT [] kvs).length ≤ sizeLine := by
      refine Nat.le_trans (length_mergeT kvs []) ?_
      rw [List.length_nil, Nat.zero_add, Paired.length rel, hl]
      exact hz
    have hf : H s.heap.objs.size = none := I.hok.fresh (Nat.le_refl _)
    obtain ⟨ob, es, ep, hq2, h2, h3, h4, _, h5⟩ := dd'
    have rel2 : KT (upd H s.heap.objs.size (.dT (mergeT [] kvs))) (mergeT [] kvs) (storedAllH [] ms) := (KT.merge rel .nil).keeps fun b ys e => by
      rw [upd_ne (ne_of_none e hf)]
      exact e
    exact ⟨.ref s.heap.objs.size, upd H s.heap.objs.size (.dT (mergeT [] kvs)), I.laid (t' := tk) (fun b o e => k b o (by simp) e) (Nat.le_refl _) ⟨hlen, hm, _, rel2, ob, es, ep, hq2, h2, h3, h4, h5⟩, rfl, q _ hf⟩
/-- d.update(d2), both with tuple keys -/
def rUpdT (P : Program) (w : World) : V → List V → Hp → VK → Prop := fun x xs H Q => ∃ (a o : Addr) (kvs more : List (List Key × V)), x = .ref a ∧ xs = [.ref o] ∧ H a = some (.dT kvs) ∧ H o = some (.dT more) ∧ a ≠ o ∧ kvs.length + more.length ≤ sizeLine ∧
  (kvs ≠ [] ∨ (more.map fun kv => tupleKeyHash (mixKind P w) kv.1).Nodup) ∧ Q .non (upd H a (.dT (mergeT kvs more)))
theorem mt_updT (hu : X.A.units + 64 < cLine) : MtR X "dict.update" (rUpdT X.prog X.w) := by
  intro pins s σ H x xs v us Q I rx rxs h
  obtain ⟨a, o, kvs, more, rfl, rfl, ha, ho, hao, hsz, hap, q⟩ := h
  cases rx
  rw [Vals.ref1 rxs]
  obtain ⟨z1, hd1, xs1, rel1, dd1⟩ := dt_of I.hok ha
  obtain ⟨z2, hd2, xs2, rel2, dd2⟩ := dt_of I.hok ho
  have l1 := Paired.length rel1
  have l2 := Paired.length rel2
  have hall := KT.is_all I rel2
  refine call_update_dictH (knd := tupleKind (mixKind X.prog X.w)) (show X.A.units + 1 < cLine by omega) hao hd2 dd1 dd2 ?_ (by rw [← l1, ← l2]; exact hsz) fun h' dd' _ hs => ?_
  · rcases hap with h | h
    · refine .inl fun e => h ?_
      rw [e] at l1
      exact List.length_eq_zero_iff.mp l1
    · refine .inr ⟨fun x hx => IsTupleKey.typeIs (hall x hx), ?_⟩
      have e : xs2.map (fun x => (tupleKind (mixKind X.prog X.w)).hash x.1) = more.map fun kv => tupleKeyHash (mixKind X.prog X.w) kv.1 := by
        clear h hsz l1 l2 hall dd2 ho q z2
        unfold KT at rel2
        induction rel2 with
        | nil => rfl
        | cons h t ih =>
          rw [List.map_cons, List.map_cons, ih, h.1]
          rfl
      rw [e]
      exact h
  · have hlen : (mergeT kvs more).length ≤ sizeLine := Nat.le_trans (length_mergeT more kvs) hsz
    obtain ⟨ob, es, ep, hq2, h2, h3, h4, _, h5⟩ := dd'
    have rel3 : KT (upd H a (.dT (mergeT kvs more))) (mergeT kvs more) (storedAllH xs1 xs2) := (KT.merge rel2 rel1).keeps fun c ys ec => by
      rw [upd_ne (ne_of ec ha (fun z => nomatch z))]
      exact ec
    exact ⟨.non, upd H a (.dT (mergeT kvs more)), d_write (ob := .dT (mergeT kvs more)) (t' := s.toks) I (by rw [ha]; exact True.intro) hs ⟨ob, hq2⟩ ⟨hlen, hd1, _, rel3, ob, es, ep, hq2, h2, h3, h4, h5⟩, rfl, q⟩
end
end L2
namespace Wk
open PySem PySem.Spec L2 Evl
abbrev C2 := Int × Int × Unit
def hash2 (x : C2) : Int := reduceHash (Builtin.Tuple.tupleHashOf [hashInt x.1, hashInt x.2.1])
def prs {β : Type} (more : List (C2 × β × Unit)) : List (C2 × β) := more.map fun t => (t.1, t.2.1)
open Classical in
noncomputable def updO {β : Type} (d : Dc C2 β) (more : List (C2 × β × Unit)) : Option (Dc C2 β) :=
  if d.l.length + more.length ≤ 900000 ∧ (d.l ≠ [] ∨ ((mergeD [] (prs more)).map fun t => hash2 t.1).Nodup) then some ⟨mergeD d.l (mergeD [] (prs more))⟩ else none
section
variable {K : Fg} {F Kn0 : Hp} {sl : List Sl} {ow ow1 : List Ow} {β : Type} [Rp β] {te : TE} {D : Ends} {i j : Nat} {p : Addr} {P : Program} {w : World}
theorem prs_of {Kn H : Hp} (e : Ex Kn H) : ∀ {vs : List V} {more : List (C2 × β × Unit)}, Paired (rep K Kn) vs more → ∃ (ps : List Addr) (kvs : List (List Key × V)), vs = ps.map V.ref ∧
    Paired (fun p kv => ∃ b, SqT K H p [.ref b, kv.2] ∧ H b = some (.tup (kv.1.map kV))) ps kvs ∧ DK (κ := C2) K Kn kvs (prs more)
  | _, _, .nil => ⟨[], [], rfl, .nil, .nil⟩
  | _, _, .cons (a := v) (b := t) h r => by
    obtain ⟨ps, kvs, e1, e2, e3⟩ := prs_of e r
    obtain ⟨q, ws, rfl, hq, kv, rest, rfl, hk, yv, rest2, rfl, hy, hu⟩ := h
    cases hu
    obtain ⟨b, us, rfl, hb, h3⟩ := hk
    have hus : us = (KT1.keys t.1).map kV := KT1.iff (τ := C2) h3
    subst hus
    refine ⟨q :: ps, (KT1.keys t.1, yv) :: kvs, by rw [e1]; rfl, .cons ⟨b, st_of (e _ _ hq), e _ _ hb⟩ e2, .cons ⟨rfl, hy⟩ e3⟩
theorem DK.mergeT {Kn : Hp} : ∀ {ms : List (List Key × V)} {more : List (C2 × β)} {ws : List (List Key × V)} {kvs : List (C2 × β)}, DK (κ := C2) K Kn ms more → DK (κ := C2) K Kn ws kvs → DK (κ := C2) K Kn (L2.mergeT ws ms) (mergeD kvs more) := by
  intro ms more ws kvs h
  unfold DK at h
  induction h generalizing ws kvs with
  | nil => exact fun h => h
  | @cons w kv ms more h t ih =>
    intro q
    refine ih ?_
    show DK (κ := C2) K Kn (putK ws w.1 w.2) (putD kvs kv.1 kv.2)
    rw [h.1]
    exact DK.put kv.1 h.2 q
theorem DK.hash {Kn : Hp} : ∀ {ms : List (List Key × V)} {more : List (C2 × β)}, DK (κ := C2) K Kn ms more → (ms.map fun kv => tupleKeyHash (mixKind P w) kv.1) = more.map fun t => hash2 t.1 := by
  intro ms more h
  unfold DK at h
  induction h with
  | nil => rfl
  | cons h t ih =>
    rw [List.map_cons, List.map_cons, ih, h.1]
    rfl
theorem sb_upd {d d' : Dc C2 β} {more : List (C2 × β × Unit)} (hi : sl[i]? = some (.at p)) (hj : ow[j]? = some (oo p d)) (h : EV K F Kn0 sl ow te more) (hx : updO d more = some d') (ho : ow.set j (oo p d') = ow1) (n : SN K F Kn0 sl ow1 D) :
    SB K F Kn0 sl ow D (tDrop (tBM K "dict" (rUpdT P w) (tVar i) (tCons (tCB (rDictT K) (tCons te tNil)) tNil))) := fun σ Kn H s => by
  obtain ⟨o, h1, h2⟩ := s.sl.get hi
  obtain ⟨f1, f2, o1, f3, ws, f4, f5⟩ := s.ow.each _ (List.mem_of_getElem? hj)
  subst f4
  have f3 : H p = some (.dT ws) := f3
  unfold updO at hx
  split at hx
  · case isTrue hc =>
    cases hx
    subst ho
    refine ⟨.ref p, by rw [h1]; exact congrArg some h2, .inr (.inr (.inl ⟨rfl, .inr ⟨ws, f3⟩⟩)), h σ Kn H s _ fun v Kn1 H1 g1 r1 => ?_⟩
    obtain ⟨a, vs, rfl, ha, hv⟩ := r1
    obtain ⟨ps, kvs, rfl, e2, e3⟩ := prs_of g1.kh hv
    refine ⟨a, ps, kvs, rfl, sq_of (g1.kh _ _ ha), e2, fun p2 hp2 => ?_⟩
    have s1 := s.grow g1
    have g2 : Gr Kn1 H1 Kn1 (upd H1 p2 (.dT (L2.mergeT [] kvs))) := Gr.newU g1.kh hp2
    have s2 := s1.grow g2
    have hp1 : H1 p = some (.dT ws) := g1.hh _ _ f3
    have hne : p ≠ p2 := fun z => by
      rw [z, hp2] at hp1
      cases hp1
    have hH2 : (upd H1 p2 (.dT (L2.mergeT [] kvs))) p = some (.dT ws) := by
      rw [upd_ne hne]
      exact hp1
    have f6 : DK (κ := C2) K Kn1 ws d.l := DK.mono g1.kk f5
    have e4 : DK (κ := C2) K Kn1 (L2.mergeT [] kvs) (mergeD [] (prs more)) := DK.mergeT e3 .nil
    have l1 : ws.length = d.l.length := f6.length
    have l2 : kvs.length = more.length := by
      rw [e3.length]
      exact List.length_map _
    have l3 := length_mergeT kvs []
    rw [List.length_nil] at l3
    have kp : Kn1 p = none := g1.sp p (ne_none_of f3) f2
    refine ⟨p, p2, ws, L2.mergeT [] kvs, rfl, rfl, hH2, upd_same, hne, ?_, ?_, n _ Kn1 _ ?_⟩
    · have hs : sizeLine ≥ 1000000 := by rw [sizeLine_eq]; decide
      omega
    · rcases hc.2 with hc | hc
      · refine .inl fun z => hc ?_
        rw [z] at l1
        exact List.length_eq_zero_iff.mp l1.symm
      · refine .inr ?_
        rw [DK.hash e4]
        exact hc
    · exact s2.writeG hj rfl rfl (Ex.refl _) (upd_in s2.ek kp) (fun q hq _ => upd_ne hq) (fun _ _ h => h) ⟨_, upd_same, _, rfl, DK.mergeT e4 f6⟩
  · cases hx
end
section
variable {X : Cx} {K : Fg} {P : Program} {w : World}
theorem k_dictT (hu : X.A.units + 64 < cLine) (hc : X.calm = true := by rfl) (h : X.K = K := by rfl) : CallR X (.type "dict") (rDictT K) := by
  subst h
  exact cr_dictT hc hu
theorem k_updT (hu : X.A.units + 64 < cLine) (h : X.prog = P := by rfl) (hw : X.w = w := by rfl) : MtR X "dict.update" (rUpdT P w) := by
  subst h
  subst hw
  exact mt_updT hu
end
end Wk
namespace Wk
open PySem PySem.Spec L2 Evl
/-- a list with a None put behind -/
structure Nx (α : Type) where
  l : List α
section
variable {K : Fg} {F Kn0 : Hp} {sl : List Sl} {ow ow1 : List Ow} {α γ : Type} [Rp α] [Rp γ] {te : TE} {D : Ends} {i j : Nat} {p : Addr}
instance obNx : Ob (Nx α) where
  ob K H o x := ∃ ws, o = .lst (ws ++ [.non]) ∧ Paired (rep K H) ws x.l
  swap e h := by
    obtain ⟨ws, h1, h2⟩ := h
    exact ⟨ws, h1, paired_swap e h2⟩
theorem sb_appN {xs : List α} (hi : sl[i]? = some (.at p)) (hj : ow[j]? = some (ol p xs)) (h : EV K F Kn0 sl ow te Nn.nn) (hz : (if xs.length < 1000000 then some () else none) = some ()) (ho : ow.set j (oo p (Nx.mk xs)) = ow1) (k : SN K F Kn0 sl ow1 D) :
    SB K F Kn0 sl ow D (tDrop (tBM K "list" rAppend (tVar i) (tCons te tNil))) := fun σ Kn H s => by
  obtain ⟨o, h1, h2⟩ := s.sl.get hi
  obtain ⟨f1, f2, ws, f3, f4⟩ := s.ow.each _ (List.mem_of_getElem? hj)
  have hz : xs.length < 1000000 := by
    by_cases e : xs.length < 1000000
    · exact e
    · rw [if_neg e] at hz
      cases hz
  refine ⟨.ref p, by rw [h1]; exact congrArg some h2, Or.inl ⟨rfl, ws, sq_of f3⟩, h σ Kn H s _ fun v Kn1 H1 g1 r1 => ?_⟩
  cases r1
  refine ⟨p, ws, .non, rfl, rfl, g1.hh _ _ f3, by rw [paired_len f4]; exact lt_line hz, k _ Kn1 _ ?_⟩
  have kp1 : Kn1 p = none := g1.sp p (ne_none_of f3) f2
  subst ho
  exact (s.grow g1).writeG hj rfl rfl (Ex.refl _) (upd_in g1.kh kp1) (fun q hq _ => upd_ne hq) (fun _ _ h => h) ⟨_, upd_same, ws, rfl, paired_mono g1.kk f4⟩
theorem cut_snoc (ws : List V) (v : V) : cut (ws ++ [v]) none (some (-(1 : Int))) = ws := by
  unfold cut
  rw [HT.sIx_none, List.drop_zero, Nat.sub_zero]
  have e : HT.sIx (ws ++ [v]).length (ws ++ [v]).length (some (-(1 : Int))) = (-(1 : Int) + ((ws ++ [v]).length : Int)).toNat := rfl
  rw [e, List.length_append, List.length_singleton, show (-(1 : Int) + ((ws.length + 1 : Nat) : Int)).toNat = ws.length by omega]
  exact List.take_left
theorem en_slN {xs : List α} {tl th : TO} (hx : sl[i]? = some (.at p)) (hj : ow[j]? = some (oo p (Nx.mk xs))) (hl : EO K F Kn0 sl ow tl none) (hh : EO K F Kn0 sl ow th (some (-(1 : Int)))) : EN K F Kn0 sl ow (tSl (rSlL K) (tVar i) tl th) xs := fun σ Kn H s Q q => by
  obtain ⟨o, h1, h2⟩ := s.sl.get hx
  obtain ⟨f1, f2, o1, f3, ws, f4, f5⟩ := s.ow.each _ (List.mem_of_getElem? hj)
  subst f4
  have f3 : H p = some (.lst (ws ++ [.non])) := f3
  refine ⟨.ref p, by rw [h1]; exact congrArg some h2, hl σ Kn H s _ fun Kn2 H2 g2 => hh σ Kn2 H2 (s.grow g2) _ fun Kn3 H3 g3 => ?_⟩
  have g := g2.trans g3
  refine ⟨p, ws ++ [.non], rfl, sq_of (g.hh _ _ f3), fun l hl => ?_⟩
  have e : cutV (ws ++ [V.non]) none (some (-(1 : Int))) = ws := cut_snoc ws .non
  exact q l _ Kn3 _ (g.trans (Gr.newU g3.kh hl)) (fresh_back g.hh hl) (fresh_back g3.kh hl) upd_same (by rw [e]; exact paired_mono g.kk f5)
end
end Wk
namespace Wk
open PySem PySem.Spec L2 Evl
/-- more is untouched -/
def Fle (F F' : Hp) : Prop := Ex F F'
section
variable {K : Fg} {F F' Kn0 : Hp} {sl sl' : List Sl} {ow ow0 ow1 : List Ow} {α γ : Type} [Rp α] [Rp γ] {D : Ends} {i j : Nat} {p : Addr}
theorem S.back {σ : L2.St} {Kn H : Hp} (f : Fle F F') (s : S K F' Kn0 sl ow σ Kn H) : S K F Kn0 sl ow σ Kn H :=
  ⟨s.e0, s.ek, Ex.trans f s.ef, fun q h1 h2 => s.sep q (Ex.nn f h1) h2, s.sl, ⟨fun o ho => by
    obtain ⟨h1, h2, h3⟩ := s.ow.each o ho
    exact ⟨fresh_back f h1, h2, h3⟩, s.ow.nd⟩⟩
theorem RT.fr {R : VK} {x : γ} (f : Fle F F') (q : RT K F Kn0 ow0 R x) : RT K F' Kn0 ow0 R x := fun v Kn H s r => q v Kn H (s.back f) r
theorem RN.fr {R : VK} {xs : List γ} (f : Fle F F') (q : RN K F Kn0 ow0 R xs) : RN K F' Kn0 ow0 R xs := fun p ws Kn H s fp kp hp r => q p ws Kn H (s.back f) (fresh_back f fp) kp hp r
/-- for x in xs, xs one's own, not touched on the way and one's own behind it -/
theorem sb_forO {g : TG} {tb : TS} {Sx : Type} {xs : List α} (hi : sl[i]? = some (.at p)) (hj : ow[j]? = some (ol p xs)) (ho : ow.eraseIdx j = ow1)
    (slx : Sx → List Sl) (owx : Sx → List Ow) (gx : α → Sx → List Sl) (js : List Nat) (P : List α → Sx → Prop) (s0 : Sx) (h0 : P xs s0) (le : SlLe sl (slx s0)) (eo : (owx s0).Sublist ow1)
    (hg : ∀ x s, GT K g (slx s) (gx x s) js x)
    (step : ∀ F', Fle F F' → ∀ Kn1, Bs F' Kn0 Kn1 → ∀ x rest s, P (x :: rest) s → ∀ N : L2.St → Hp → Prop, (∀ s', P rest s' → ∀ σ Kn H, S K F' Kn1 (slx s') (owx s') σ Kn H → N σ H) → SB K F' Kn1 (gx x s) (owx s) { D with nx := N, ct := N, bk := D.nx } tb)
    (done : ∀ s, P [] s → SN K F Kn0 (slx s) (ol p xs :: owx s) D) : SB K F Kn0 sl ow D (tFor (iList K (tVar i)) g tb) := fun σ Kn H s => by
  obtain ⟨o, h1, h2⟩ := s.sl.get hi
  obtain ⟨f1, f2, ws, f3, f4⟩ := s.ow.each _ (List.mem_of_getElem? hj)
  have f1 : F p = none := f1
  have f2 : Kn p = none := f2
  have fl : Fle F (upd F p (.lst ws)) := Ex.new f1
  have s1 := s.sub (List.eraseIdx_sublist ow j)
  have no : ∀ o ∈ ow.eraseIdx j, o.ad ≠ p := fun o hm z => by
    obtain ⟨m, hm'⟩ := List.getElem?_of_mem hm
    rw [List.getElem?_eraseIdx] at hm'
    split at hm'
    · have := ow_at s.ow.nd hm' hj z
      omega
    · have := ow_at s.ow.nd hm' hj z
      omega
  have s2 : S K (upd F p (.lst ws)) Kn0 sl (ow.eraseIdx j) σ Kn H := ⟨s1.e0, s1.ek, fun a u h => by
    by_cases hq : a = p
    · subst hq
      rw [upd_same] at h
      rw [← h]
      exact f3
    · rw [upd_ne hq] at h
      exact s1.ef _ _ h, fun q h1 h2 => by
    by_cases hq : q = p
    · rw [hq]
      exact f2
    · rw [upd_ne hq] at h1
      exact s1.sep q h1 h2, s1.sl, ⟨fun o ho => by
        obtain ⟨a1, a2, a3⟩ := s1.ow.each o ho
        refine ⟨?_, a2, a3⟩
        rw [upd_ne (no o ho)]
        exact a1, s1.ow.nd⟩⟩
  have b : Bs (upd F p (.lst ws)) Kn0 Kn := s2.bs
  refine ⟨.ref p, by rw [h1]; exact congrArg some h2, p, rfl, ⟨ws, sq_of f3⟩, ?_⟩
  refine ⟨fun i m σ H => i + m = xs.length ∧ ∃ Kn2 s, P (xs.drop i) s ∧ S K (upd F p (.lst ws)) Kn (slx s) (owx s) σ Kn2 H, ⟨xs.length, by omega, Kn, s0, h0, (s2.rebase.le le).sub (ho ▸ eo)⟩, fun i m σ H hW => ?_⟩
  obtain ⟨em, Kn2, st, hP, hS⟩ := hW
  have hp2 : H p = some (.lst ws) := hS.ef _ _ upd_same
  have f5 : Paired (rep K Kn2) ws xs := paired_mono hS.e0 f4
  by_cases hlt : i < xs.length
  · have hx : xs[i]? = some xs[i] := List.getElem?_eq_getElem hlt
    have hd : xs.drop i = xs[i] :: xs.drop (i + 1) := List.drop_eq_getElem_cons hlt
    rw [hd] at hP
    obtain ⟨v, hv, rv⟩ := paired_at f5 hx
    refine .inr ⟨⟨ws, v, sq_of hp2, hv⟩, fun σ' H' => ∃ Kn2 s, P (xs.drop (i + 1)) s ∧ S K (upd F p (.lst ws)) Kn (slx s) (owx s) σ' Kn2 H', fun σ' H' ⟨Kn', s', h1, h2⟩ => ⟨m - 1, by omega, by omega, Kn', s', h1, h2⟩, fun u H' hy => ?_⟩
    obtain ⟨rfl, f⟩ := hy
    have : v = u := Option.some.inj (hv.symm.trans (f ws (sq_of hp2)))
    subst this
    refine hg _ st σ Kn2 H' v hS.sl hS.ek rv _ fun σ2 h2 _ => ?_
    exact step _ fl Kn b _ _ st hP _ (fun s' hs' σ Kn2 H hS' => ⟨Kn2, s', hs', hS'⟩) σ2 Kn2 H' ⟨hS.e0, hS.ek, hS.ef, hS.sep, h2, hS.ow⟩
  · have hd : xs.drop i = [] := List.drop_eq_nil_of_le (by omega)
    rw [hd] at hP
    refine .inl ⟨⟨ws, sq_of hp2, by rw [paired_len f5]; omega⟩, done st hP σ Kn2 H ?_⟩
    have s3 := (hS.unbase b).back fl
    refine s3.own f1 (hS.sep p (by rw [upd_same]; exact fun z => nomatch z) f2) (fun o ho z => ?_) hp2 f5
    have := (hS.ow.each o ho).1
    rw [z, upd_same] at this
    cases this
end
end Wk
set_option maxHeartbeats 4000000
/-! Wexc: a def that may raise; raise C(e, ..); try: .. except C as e: ..; e.f, isinstance(e, T) in the suite -/
namespace L2
open PySem PySem.Spec PyProof.Rows
section
variable {X : Cx} {e : Expr} {es : List Expr} {ta : TA} {p1 p2 pos : Pos}
/-- B.__init__(self, ..), B a class of the program over ValueError without an __init__ of its own -/
theorem pe_cinit {x : Str} {C0 : Addr} {pl : Sem Bool} (hg : Gl X x) (hm : X.mg x = some (.ref C0)) (sg : PySem.W.specialIn X.K (.ref C0) "__getattribute__" = some (some (.builtin "type.__getattribute__"))) (rd : PySem.W.readsIn X.K C0 (.type "type") = true)
    (fc : PySem.W.findCls X.K (.ref C0) (.type "type") "__init__" = some (.val (.builtin "ValueError.__init__"))) (ha : PA X (e :: es) ta) (hdb : (x == ("__debug__" : Str)) = false := by decide)
    (hc : eval (.Call (.Attribute (.Name x p1) "__init__" p2) (e :: es) [] pos) X.env = (do
      let ov ← eval (.Name x p1) X.env
      standAt p2.atName
      let (f, first) ← holding [ov] (getMethod ov "__init__" pl)
      callWith pos f first (backTo pos (starEach (e :: es) X.env)) (backToKw pos (keywordEach [] X.env))) := by rfl)
    (he : starEach (e :: es) X.env = (false, eval e X.env) :: starEach es X.env := by rfl) (hpl : (backTo pos (starEach es X.env)).any (·.1) = false := by rfl) :
    PE X (.Call (.Attribute (.Name x p1) "__init__" p2) (e :: es) [] pos) (tVeI X.K ta) := by
  refine ⟨fun pins s σ H Q I h => ?_⟩
  refine PySem.W.methodCall_KW (ld_glob I hg hm ?_ hdb) hc
  refine PySem.W.method_cls I.kIn sg (PySem.W.cls_value I.kIn rd fc (by decide +kernel) ?_)
  show wpAny _ _ (callWith pos (Value.builtin "ValueError.__init__") [] (backTo pos (starEach (e :: es) X.env)) []) _ _ _
  refine PyProof.Rows.callWith_method1 (thn (ha.run pos pins _ σ H _ (I.tok _) h) fun us s1 ⟨vs, H1, I1, r1, a, C, ws, ev, hl, T, ea, q⟩ => ?_) he hpl
  subst ev
  cases r1 with
  | @cons _ u0 _ ur ra rw' =>
    obtain rfl : u0 = Value.ref a := ra
    have hlen : ur.length ≤ sizeLine := by
      rw [← Paired.length rw', sizeLine_eq]
      omega
    exact oinit_ok T I1 ea hlen fun s' J => ⟨.non, H1, J, rfl, q⟩
/-- isinstance(e, c), e the exception that the suite holds -/
def rIsX (K : PySem.W.Frag) (D a : Addr) (cls : Value) (d : Option Addr) : List V → Hp → VK → Prop := fun xs H Q => ∃ (c : V) (cv : Value) (b : Bool), xs = [.ref a, c] ∧ cls = .ref D ∧ (d = none ∨ ∃ dd fs, d = some dd ∧ H dd = some (.xd fs)) ∧ (∀ u, RelV c u → u = cv) ∧ PySem.W.kitOne K (.ref D) cv = some b ∧ Q (.bl b) H
theorem call_isX {a D : Addr} {oe : Obj} {cls : Value} {d : Option Addr} {pn : List (Addr × Obj)} (C : PySem.W.findIn X.K (.ref D) "__getattribute__" = some (some (.builtin "BaseException.__getattribute__")) ∧ PySem.W.findIn X.K (.ref D) "__getattr__" = some none ∧ PySem.W.subIn X.K (.ref D) (.type "BaseException") = some true ∧ PySem.W.isClsIn X.K D = true ∧
      PySem.W.findIn X.K (.ref D) "__class__" = some (some (.builtin "object.__class__")) ∧ PySem.W.specialIn X.K (.builtin "object.__class__") "__get__" = some (some (.builtin "getset_descriptor.__get__")) ∧ PySem.W.takesIn X.K (.builtin "object.__class__") = some true ∧ PySem.W.mroIn X.K D (.type "object") = some true)
    (hz : Zc cls d oe) (hf : ∃ vs, oe.data = .fields vs) : CallR (X.suite a ((a, oe) :: pn)) (.builtin "isinstance") (rIsX X.K D a cls d) := by
  intro pins s σ H xs us Q I r h
  obtain ⟨c, cv, b, rfl, rfl, hd, hcv, e, q⟩ := h
  obtain ⟨c1, c2, c3, c4, c5, c6, c7, c8⟩ := C
  cases r with
  | cons rx rr =>
    cases rr with
    | cons rt rr =>
      cases rr
      cases rx
      have ec := hcv _ rt
      subst ec
      obtain ⟨hget, _⟩ := I.pin (a, oe) (List.mem_append.mpr (.inl List.mem_cons_self))
      obtain ⟨vs, hv⟩ := hf
      have J : ∃ od, PySem.W.InstAt s.heap a oe D od := by
        rcases hd with rfl | ⟨dd, fs, rfl, hdd⟩
        · refine ⟨none, hget, hz.1, by unfold PySem.W.notCls; rw [hv] <;> rfl, ?_⟩
          rw [hz.2]
          trivial
        · have hx : ObjOk X.prog X.w H s.heap dd (.xd fs) := I.hok dd _ hdd
          obtain ⟨mA, hns, _⟩ := hx
          obtain ⟨od, ho, _⟩ := lookIn_ns hns
          refine ⟨some od, hget, hz.1, by unfold PySem.W.notCls; rw [hv] <;> rfl, ?_⟩
          rw [hz.2]
          exact ho
      obtain ⟨od, J⟩ := J
      exact PySem.W.kia_one (PySem.W.kitx_exc c4 c1 c2 c3 c5 c6 c7 c8) I.kIn J e (fun z => nomatch z) fun tk => ⟨.bl b, H, I.kept (t' := tk) fun _ _ z => z, rfl, q⟩
end
end L2
namespace Wk
open PySem PySem.Spec L2 Evl
structure Xc where
  cls : Str
  fl : List (Str × PyData)
/-- what a def that may raise tells -/
inductive Er (α : Type) where
  | ok (x : α)
  | ex (e : Xc)
abbrev FP (Kn : Hp) (fs : List (Str × V)) (fl : List (Str × PyData)) : Prop := Paired (fun p q => p.1 = q.1 ∧ Dq Kn p.2 q.2) fs fl
/-- an exception of the class cls with the dict d stands for e -/
def XR (cm : Str → Option Addr) (Kn : Hp) (e : Xc) (cls : Value) (d : Option Addr) : Prop :=
  ∃ C, cm e.cls = some C ∧ cls = .ref C ∧ ((e.fl = [] ∧ d = none) ∨ ∃ dd fs, d = some dd ∧ Kn dd = some (.xd fs) ∧ FP Kn fs e.fl)
theorem XR.swap {cm : Str → Option Addr} {H H' : Hp} {e : Xc} {cls : Value} {d : Option Addr} (w : Sw H H') (h : XR cm H e cls d) : XR cm H' e cls d := by
  obtain ⟨C, h1, h2, h3⟩ := h
  refine ⟨C, h1, h2, h3.imp id fun ⟨dd, fs, e1, e2, e3⟩ => ⟨dd, fs, e1, w.keep e2 (fun z => z) (fun _ _ z => nomatch z), Paired.mapP e3 fun _ _ q => ⟨q.1, q.2.swap w⟩⟩⟩
/-- the exception that a suite holds -/
structure Xv (cm : Str → Option Addr) (a : Addr) (cls : Value) (d : Option Addr) where
  e : Xc
instance {cm : Str → Option Addr} {a : Addr} {cls : Value} {d : Option Addr} : Rp (Xv cm a cls d) where
  rep _ H v x := v = .ref a ∧ XR cm H x.e cls d
  swap w h := ⟨h.1, h.2.swap w⟩
def xcls (e : Xc) (n : Str) : Option Unit := if e.cls = n then some () else none
def xfl (e : Xc) (n f : Str) : Option Dy := if e.cls = n then (e.fl.lookup f).map Dy.mk else none
theorem xcls_eq {e : Xc} {n : Str} {u : Unit} (h : xcls e n = some u) : e.cls = n := by
  unfold xcls at h
  split at h
  · assumption
  · cases h
theorem fp_lookup {Kn : Hp} : ∀ {fs : List (Str × V)} {fl : List (Str × PyData)} {f : Str} {y : PyData}, FP Kn fs fl → fl.lookup f = some y → ∃ v, fs.lookup f = some v ∧ Dq Kn v y
  | _, _, f, y, .nil, h => by cases h
  | (g, v) :: fs, (g2, z) :: fl, f, y, .cons h t, e => by
    obtain ⟨h1, h2⟩ := h
    have h1 : g = g2 := h1
    subst h1
    rw [lookup_put]
    by_cases hf : f = g
    · subst hf
      have : z = y := by
        simp [List.lookup] at e
        exact e
      subst this
      exact ⟨v, if_pos rfl, h2⟩
    · rw [if_neg hf]
      refine fp_lookup t ?_
      have e2 : (f == g) = false := by simpa using hf
      simpa [List.lookup, e2] using e
section
variable (K : Fg) (F Kn0 : Hp) (sl : List Sl) (ow : List Ow) (cm : Str → Option Addr)
def RX (E : XK) (e : Xc) : Prop := ∀ cls d Kn H, S K F Kn0 [] ow [] Kn H → XR cm Kn e cls d → E cls d H
def RE {α : Type} [Rp α] (R : VK) (E : XK) : Er α → Prop
  | .ok x => RT K F Kn0 ow R x
  | .ex e => RX K F Kn0 ow cm E e
/-- the expression raises e -/
def ER (W : WX) (te : TE) (e : Xc) : Prop := ∀ σ Kn H, S K F Kn0 sl ow σ Kn H → (∀ cls d Kn' H', S K F Kn0 sl ow σ Kn' H' → XR cm Kn' e cls d → W cls d σ H') → ∀ Q, te σ H Q
/-- what is wished of it -/
def RW (W : WX) (e : Xc) : Prop := ∀ σ Kn H cls d, S K F Kn0 sl ow σ Kn H → XR cm Kn e cls d → W cls d σ H
end
def PX {τ α : Type} [Tp τ] [Rp α] (K : Fg) (cm : Str → Option Addr) (f : τ → Option (Er α)) : Sp := fun vs H Q E => ∃ Kn t r, Ex Kn H ∧ rept K Kn vs t ∧ f t = some r ∧
  match r with
  | .ok x => RS K Kn H Q x
  | .ex e => ∀ cls d Kn' H', Gr Kn H Kn' H' → XR cm Kn' e cls d → E cls d H'
section
variable {K : Fg} {F F' Kn0 Kn1 : Hp} {sl sl' : List Sl} {ow ow0 ow1 : List Ow} {cm : Str → Option Addr} {α β τ : Type} [Rp α] [Rp β] [Tp τ] {D : Ends} {E : XK} {R : VK} {W : WX} {te tb : TE} {ta tr : TA} {e : Xc} {i : Nat}
theorem RX.base (q : RX K F Kn0 ow cm E e) (b : Bs F Kn0 Kn1) : RX K F Kn1 ow cm E e := fun cls d Kn H s x => q cls d Kn H (s.unbase b) x
theorem RX.fr (f : Fle F F') (q : RX K F Kn0 ow cm E e) : RX K F' Kn0 ow cm E e := fun cls d Kn H s x => q cls d Kn H (s.back f) x
theorem RE.base {r : Er α} (q : RE K F Kn0 ow cm R E r) (b : Bs F Kn0 Kn1) : RE K F Kn1 ow cm R E r := by
  cases r with
  | ok x => exact RT.base (R := R) q b
  | ex e => exact RX.base q b
theorem RE.fr {r : Er α} (q : RE K F Kn0 ow cm R E r) (f : Fle F F') : RE K F' Kn0 ow cm R E r := by
  cases r with
  | ok x => exact RT.fr (R := R) f q
  | ex e => exact RX.fr f q
theorem re_of {H Kn : Hp} {r : Er α} {Q : VK} (q : match r with | .ok x => RS K Kn H Q x | .ex e => ∀ cls d Kn' H', Gr Kn H Kn' H' → XR cm Kn' e cls d → E cls d H') : RE K H Kn [] cm Q E r := by
  cases r with
  | ok x => exact rt_of q
  | ex e => exact fun cls d Kn' H' s x => q cls d Kn' H' ⟨s.e0, s.ef, s.ek, s.sep⟩ x
/-- the dict of a new exception -/
theorem XR.mk {Kn : Hp} {C dd : Addr} {fs : List (Str × V)} (hc : cm e.cls = some C) (h : FP Kn fs e.fl) (kd : Kn dd = none) : XR cm (upd Kn dd (.xd fs)) e (.ref C) (some dd) :=
  ⟨C, hc, rfl, .inr ⟨dd, fs, rfl, upd_same, Paired.mapP h fun _ _ q => ⟨q.1, q.2.swap (.of (Ex.new kd))⟩⟩⟩
/-- __init__(self, ..) of a class with fields: each is stored -/
def spI (K : Fg) (C : Addr) (fs : List Str) : Sp := fun vs H Q _ => ∃ a ws, vs = .ref a :: ws ∧ ws.length = fs.length ∧ OexC K C ∧ (∀ f ∈ fs, PySem.W.findIn K (.ref C) f = some none) ∧ H a = some (exo a C none) ∧
  ∀ H' dx, H dx = none → dx ≠ a → H' a = some (exo a C (some dx)) → H' dx = some (exd dx (fs.zip ws).reverse) → (∀ q, q ≠ a → q ≠ dx → H' q = H q) → Q .non H'
theorem spI_len {C : Addr} {fs : List Str} {vs : List V} {H : Hp} {Q : VK} {E : XK} (h : spI K C fs vs H Q E) : vs.length = fs.length + 1 := by
  obtain ⟨a, ws, rfl, hl, _⟩ := h
  rw [List.length_cons, hl]
theorem fp_zip {Kn : Hp} : ∀ {fs : List Str} {ws : List V} {ds : List PyData}, DqAll Kn ws ds → Paired (fun (p : Str × V) (q : Str × PyData) => p.1 = q.1 ∧ Dq Kn p.2 q.2) (fs.zip ws) (fs.zip ds)
  | [], _, _, _ => by
    rw [List.zip_nil_left, List.zip_nil_left]
    exact .nil
  | f :: fs, _, _, .nil => .nil
  | f :: fs, _, _, .cons h t => .cons ⟨rfl, h⟩ (fp_zip t)
theorem paired_rev {α β : Type} {G : α → β → Prop} : ∀ {xs : List α} {ys : List β}, Paired G xs ys → Paired G xs.reverse ys.reverse
  | _, _, .nil => .nil
  | _, _, .cons (a := x) (b := y) h t => by
    rw [List.reverse_cons, List.reverse_cons]
    have app : ∀ {as : List α} {bs : List β} {cs : List α} {ds : List β}, Paired G as bs → Paired G cs ds → Paired G (as ++ cs) (bs ++ ds) := fun {as bs cs ds} h1 h2 => by
      induction h1 with
      | nil => exact h2
      | cons h _ ih => exact .cons h ih
    exact app (paired_rev t) (.cons h .nil)
/-- raise C(e, ..) -/
theorem sb_raise [Us τ] {t : τ} {C : Addr} {n : Str} {fs : List Str} (h : EA K F Kn0 sl ow ta t) (hc : cm n = some C) (T : OexC K C) (no : ∀ f ∈ fs, PySem.W.findIn K (.ref C) f = some none) (hl : Tp.n τ = fs.length) (hl2 : fs.length ≤ 100)
    (q : RX K F Kn0 ow0 cm E ⟨n, (fs.zip (Us.toDs t)).reverse⟩) (l : ow0.Sublist ow) : SB K F Kn0 sl ow D (fun _ σ H => tMkO C (spI K C fs) [] ta σ H fun cls d H' => E cls d H') := fun σ Kn H s =>
  h σ Kn H s _ fun vs Kn1 H1 g1 r1 => by
    have hv : vs.length = fs.length := by rw [Tp.len r1, hl]
    refine ⟨by omega, fun a ha => ?_⟩
    rw [List.append_nil]
    refine ⟨a, vs, rfl, hv, T, no, upd_same, fun H2 dx hdx hne e1 e2 e3 => ⟨rfl, dx, _, e1, e2, ?_, ?_⟩⟩
    · rw [upd_ne hne] at hdx
      exact hdx
    · rw [upd_ne hne] at hdx
      have eH : upd (del H2 a) dx (.xd (fs.zip vs).reverse) = upd H1 dx (.xd (fs.zip vs).reverse) := by
        funext b
        by_cases hb : b = dx
        · rw [hb, upd_same, upd_same]
        · rw [upd_ne hb, upd_ne hb]
          by_cases hba : b = a
          · rw [hba, del_same, ha]
          · rw [del_ne hba, e3 b hba hb, upd_ne hba]
      rw [eH]
      have g2 := Gr.new (o := .xd (fs.zip vs).reverse) g1.kh hdx
      exact q _ _ _ _ (((s.grow g1).grow g2).fin.sub l) (XR.mk (e := ⟨n, _⟩) hc (paired_rev (fp_zip (Us.is r1))) (fresh_back g1.kh hdx))
/-- raise C('..'), C without fields -/
theorem sb_raise0 {C : Addr} {n : Str} (hc : cm n = some C) (q : RX K F Kn0 ow0 cm E ⟨n, []⟩) (l : ow0.Sublist ow) : SB K F Kn0 sl ow D (fun _ σ H => (fun (_ : St) (H : Hp) (Q : XK) => Q (.ref C) none H) σ H fun cls d H' => E cls d H') := fun σ Kn H s =>
  q _ _ Kn H (s.fin.sub l) ⟨C, hc, rfl, .inl ⟨rfl, rfl⟩⟩
/-! ### calls that may raise -/
theorem ev_callX {f : τ → Option (Er α)} {r : α} {E : St → XK} {t : τ} (h : EA K F Kn0 sl ow ta t) (hf : f t = some (.ok r)) : EV K F Kn0 sl ow (tCallS (PX K cm f) E ta) r := fun σ Kn H s Q q =>
  h σ Kn H s _ fun vs Kn1 H1 g1 r1 => ⟨Kn1, t, .ok r, g1.kh, r1, hf, fun u Kn' H' g' r' => q u Kn' H' (g1.trans g') r'⟩
theorem er_call {f : τ → Option (Er α)} {t : τ} (h : EA K F Kn0 sl ow ta t) (hf : f t = some (.ex e)) : ER K F Kn0 sl ow cm W (tCallS (PX K cm f) (WE W) ta) e := fun σ Kn H s w Q =>
  h σ Kn H s _ fun vs Kn1 H1 g1 r1 => ⟨Kn1, t, .ex e, g1.kh, r1, hf, fun cls d Kn' H' g' x => w cls d Kn' H' ((s.grow g1).grow g') x⟩
theorem er_opL {r : R2} (h : ER K F Kn0 sl ow cm W te e) : ER K F Kn0 sl ow cm W (tOp r te tb) e := fun σ Kn H s w _ => h σ Kn H s w _
theorem er_cb {r : List V → Hp → VK → Prop} (h : ER K F Kn0 sl ow cm W te e) : ER K F Kn0 sl ow cm W (tCB r (tCons te tr)) e := fun σ Kn H s w _ => h σ Kn H s w _
theorem er_tup (h : ER K F Kn0 sl ow cm W te e) : ER K F Kn0 sl ow cm W (tTup (tCons te tr)) e := fun σ Kn H s w _ => h σ Kn H s w _
theorem sb_asgR {g : TG} (h : ER K F Kn0 sl ow cm W te e) (w : RW K F Kn0 sl ow cm W e) : SB K F Kn0 sl ow D (tAsg te g) := fun σ Kn H s => h σ Kn H s (fun cls d Kn' H' s' x => w σ Kn' H' cls d s' x) _
theorem sb_dropR (h : ER K F Kn0 sl ow cm W te e) (w : RW K F Kn0 sl ow cm W e) : SB K F Kn0 sl ow D (tDrop te) := fun σ Kn H s => h σ Kn H s (fun cls d Kn' H' s' x => w σ Kn' H' cls d s' x) _
theorem sb_retR (h : ER K F Kn0 sl ow cm W te e) (w : RW K F Kn0 sl ow cm W e) : SB K F Kn0 sl ow D (tRet te) := fun σ Kn H s => h σ Kn H s (fun cls d Kn' H' s' x => w σ Kn' H' cls d s' x) _
/-- it leaves the def -/
theorem rw_out (q : RX K F Kn0 ow0 cm E e) (l : ow0.Sublist ow) : RW K F Kn0 sl ow cm (fun cls d _ H => E cls d H) e := fun _ Kn H cls d s x => q cls d Kn H (s.fin.sub l) x
/-! ### try -/
theorem sb_tryAs {C : Value} {ts : Addr → Value → Option Addr → TS} {Wout : WX} {tw : WX → TS} (h : SB K F Kn0 sl ow D (tw (wAs K C i ts Wout D))) : SB K F Kn0 sl ow D (fun D σ H => tw (wAs K C i ts Wout D) D σ H) := h
abbrev Dsu (i : Nat) (D : Ends) : Ends := { nx := fun σ' H' => D.nx (σ'.set i none) H', rt := D.rt, bk := fun σ' H' => D.bk (σ'.set i none) H', ct := fun σ' H' => D.ct (σ'.set i none) H' }
theorem rw_as {C : Value} {ts : Addr → Value → Option Addr → TS} {Wout : WX} {sl' : Addr → Value → Option Addr → List Sl} (hm : ∀ A, cm e.cls = some A → PySem.W.exmOne K (.ref A) C = some true) (hs : ∀ a cls d, sl.set i (sv (Xv.mk e : Xv cm a cls d)) = sl' a cls d)
    (h : ∀ a cls d, SB K F Kn0 (sl' a cls d) ow (Dsu i D) (ts a cls d)) : RW K F Kn0 sl ow cm (wAs K C i ts Wout D) e := fun σ Kn H cls d s x => by
  obtain ⟨A, hA, rfl, hx⟩ := id x
  refine ⟨true, hm A hA, fun _ a _ => ?_, fun z => nomatch z⟩
  exact h a _ d _ Kn H (hs a _ d ▸ s.setv (x := (Xv.mk e : Xv cm a (.ref A) d)) i ⟨rfl, x⟩)
theorem sn_suite (hs : sl.set i .any = sl') (k : SN K F Kn0 sl' ow D) : SN K F Kn0 sl ow (Dsu i D) := fun σ Kn H s => k _ Kn H (hs ▸ s.set (x := .any) (o := none) i trivial)
/-- e.f -/
theorem ev_xf {a C : Addr} {cls : Value} {d : Option Addr} {n f : Str} {y : Dy} (h : EV K F Kn0 sl ow te (Xv.mk e : Xv cm a cls d)) (hC : cm n = some C) (hx : xfl e n f = some y) : EV K F Kn0 sl ow (tXf a cls d C f te) y := fun σ Kn H s Q q =>
  h σ Kn H s _ fun v Kn1 H1 g1 r1 => by
    unfold xfl at hx
    split at hx
    case isFalse => cases hx
    rename_i hn
    obtain ⟨z, hz, rfl⟩ := Option.map_eq_some_iff.mp hx
    obtain ⟨r1, A, hA, hc, hd⟩ := r1
    rw [hn, hC] at hA
    cases hA
    refine ⟨r1, hc, ?_⟩
    rcases hd with ⟨h1, _⟩ | ⟨dd, fs, h1, h2, h3⟩
    · rw [h1] at hz
      cases hz
    · obtain ⟨u, hu, ru⟩ := fp_lookup h3 hz
      exact ⟨dd, fs, u, h1, g1.kh _ _ h2, hu, q u Kn1 H1 g1 ru⟩
theorem rc_isX {a D : Addr} {cls : Value} {d : Option Addr} {n : Str} {ty : String} {b : Bool} {u : Unit} (hD : cm n = some D) (hx : xcls e n = some u) (hk : PySem.W.kitOne K (.ref D) (.type ty) = some b) : RCV K (rIsX K D a cls d) ((Xv.mk e : Xv cm a cls d), TyN.mk ty, ()) b := fun Kn H vs ek h Q q => by
  obtain ⟨v, w, rfl, h1, h2⟩ := two_args h
  obtain ⟨rfl, A, hA, hc, hd⟩ := h1
  rw [xcls_eq hx, hD] at hA
  cases hA
  refine ⟨w, .type ty, b, rfl, hc, ?_, fun u hu => ?_, hk, q.fl ek⟩
  · rcases hd with ⟨_, h1⟩ | ⟨dd, fs, h1, h3, _⟩
    · exact .inl h1
    · exact .inr ⟨dd, fs, h1, ek _ _ h3⟩
  · have h2 : w = .ty ty := h2
    subst h2
    exact hu
end
/-! ### more -/
theorem unX_some {α : Type} {x : Option (Er α)} {r : α} (h : (x.bind fun y => match y with | .ok r => some r | .ex _ => none) = some r) : x = some (.ok r) := by
  obtain ⟨y, h1, h⟩ := bind_some h
  cases y with
  | ok z => cases h; exact h1
  | ex e => cases h
def unX {α : Type} (x : Er α) : Option α := match x with | .ok r => some r | .ex _ => none
theorem unX_is {α : Type} {x : Option (Er α)} {r : α} (h : x.bind unX = some r) : x = some (.ok r) := unX_some h
theorem er_cases {α : Type} (x : Er α) : (∃ e, x = .ex e) ∨ ∃ r, x = .ok r := by
  cases x with
  | ok r => exact .inr ⟨r, rfl⟩
  | ex e => exact .inl ⟨e, rfl⟩
theorem ite_some {α : Type} {c : Bool} {x : Option α} {y : α} (h : (if c = true then x else none) = some y) : c = true ∧ x = some y := by
  cases c with
  | true => exact ⟨rfl, h⟩
  | false => cases h
theorem exm_two {K : Fg} {A C : Addr} {b : Bool} (h1 : PySem.W.subIn K (.ref C) (.type "BaseException") = some true) (h2 : PySem.W.isClsIn K C = true) (h3 : PySem.W.typeIn K (.ref C) = some (.type "type")) (h4 : PySem.W.subIn K (.ref A) (.ref C) = some b) : PySem.W.exmOne K (.ref A) (.ref C) = some b := by
  have e1 : (PySem.W.subIn K (.ref C) (.type "BaseException") == some true) = true := by rw [h1] <;> rfl
  have e2 : ((PySem.W.clsIn K C).isSome && PySem.W.typeIn K (.ref C) == some (.type "type")) = true := by
    have h2' : (PySem.W.clsIn K C).isSome = true := h2
    rw [h2', h3] <;> rfl
  unfold PySem.W.exmOne
  rw [if_pos e1]
  unfold PySem.W.kitCls
  simp only
  rw [if_pos e2]
  exact h4
/-- for x in reversed(xs) -/
theorem wk_rev {K : Fg} {α : Type} [Rp α] {Kn1 : Hp} {p : Addr} {ws : List V} {xs : List α} (h : SqL K Kn1 p ws) (r : Paired (rep K Kn1) ws xs) : WK K Kn1 (Itv K p ws.length) xs.reverse := fun i Kn' H' e1 e2 => by
  have hq : SqL K H' p ws := ex_l (e1.trans e2) h
  have hl := paired_len r
  refine ⟨fun x hx => ?_, fun hle => by
    rw [List.length_reverse] at hle
    show ws.length ≤ i
    omega⟩
  have hi : i < xs.length := by
    have := (List.getElem?_eq_some_iff.mp hx).1
    rw [List.length_reverse] at this
    exact this
  rw [List.getElem?_reverse hi] at hx
  obtain ⟨v, hv, rv⟩ := paired_at r hx
  rw [← hl] at hv
  refine ⟨⟨by omega, ws, v, hq, hv⟩, fun u H2 hy => ?_⟩
  obtain ⟨rfl, f⟩ := hy
  have : v = u := Option.some.inj (hv.symm.trans (f ws hq))
  subst this
  exact ⟨Kn', Gr.refl e2, Rp.mono e1 rv⟩
theorem it_rev {K : Fg} {F Kn0 : Hp} {sl : List Sl} {ow : List Ow} {α : Type} [Rp α] {ta : TA} {xs : List α} (h : EA K F Kn0 sl ow ta (xs, ())) : IT K F Kn0 sl ow (iRev K ta) xs.reverse := fun σ Kn H s R q => h σ Kn H s _ fun vs Kn1 H1 g1 r1 => by
  obtain ⟨v, rfl, p, ws, rfl, h3, h4⟩ := one_arg r1
  exact ⟨p, ws, rfl, sq_of (g1.kh _ _ h3), q _ Kn1 H1 g1 (wk_rev (sq_of h3) h4)⟩
theorem kit_two {K : Fg} {D : Addr} {ty : String} {b : Bool} (h : PySem.W.subIn K (.ref D) (.type ty) = some b) (hm : PySem.W.kitMeta ty = true := by decide +kernel) : PySem.W.kitOne K (.ref D) (.type ty) = some b := by
  unfold PySem.W.kitOne
  rw [if_neg (show ¬ (Value.ref D == Value.type ty) = true from fun z => Value.noConfusion (eq_of_beq z))]
  show (if PySem.W.kitMeta ty = true then PySem.W.subIn K (.ref D) (.type ty) else none) = some b
  rw [if_pos hm]
  exact h
theorem RE.ok_rt {K : Fg} {F Kn0 : Hp} {ow : List Ow} {cm : Str → Option Addr} {α : Type} [Rp α] {R : VK} {E : XK} {x : α} (q : RE K F Kn0 ow cm R E (.ok x)) : RT K F Kn0 ow R x := q
end Wk
/-! Wopt: None or something; is; a tuple of alike things walked; a tuple of two lists of one's own -/
namespace Wk
open PySem PySem.Spec L2 Evl
/-- never None -/
class NN (α : Type) [Rp α] : Prop where
  nn : ∀ {K : Fg} {H : Hp} {v : V} {a : α}, rep K H v a → v ≠ .non
instance : NN Int := ⟨fun h z => by rw [show _ = V.int _ from h] at z; cases z⟩
instance : NN Bool := ⟨fun h z => by rw [show _ = V.bl _ from h] at z; cases z⟩
instance : NN Str := ⟨fun h z => by rw [show _ = V.str _ from h] at z; cases z⟩
instance {α : Type} [Rp α] : NN (List α) := ⟨fun h z => by
  obtain ⟨p, vs, rfl, _⟩ := h
  cases z⟩
instance {α τ : Type} [Rp α] [Tp τ] : NN (α × τ) := ⟨fun h z => by
  obtain ⟨p, vs, rfl, _⟩ := h
  cases z⟩
inductive Ho {α : Type} [Rp α] : {τ : Type} → [Tp τ] → τ → List α → Prop
  | nil : Ho () []
  | cons {τ : Type} [Tp τ] (x : α) {t : τ} {xs : List α} : Ho t xs → Ho (x, t) (x :: xs)
theorem Ho.get {α : Type} [Rp α] {K : Fg} {H : Hp} {τ : Type} [i : Tp τ] {t : τ} {xs : List α} (h : Ho t xs) : ∀ {vs : List V}, rept K H vs t → Paired (rep K H) vs xs := by
  induction h with
  | nil => intro vs r; cases r; exact .nil
  | cons x _ ih =>
    intro vs r
    obtain ⟨v, r, rfl, h1, h2⟩ := r
    exact .cons h1 (ih h2)
structure P2 where
  a : Addr
  b : Addr
instance : Ob P2 := { ob := fun _ _ o x => o = .tup [.ref x.a, .ref x.b], swap := fun _ h => h }
def appP {α : Type} (c : Bool) (xs ys : List α) (x : α) : Option (List α × List α) := if xs.length < 1000000 ∧ ys.length < 1000000 then some (if c = true then (xs, ys ++ [x]) else (xs ++ [x], ys)) else none
section
variable {K : Fg} {F Kn0 : Hp} {sl sl' : List Sl} {ow ow1 ow2 : List Ow} {α β γ τ : Type} [Rp α] [Rp β] [Rp γ] [Tp τ] {ta tb te tn : TE} {D : Ends} {i j k1 k2 : Nat} {p pt p1 p2 : Addr}
theorem ev_some [NN α] {x : α} (h : EV K F Kn0 sl ow te x) : EV K F Kn0 sl ow te (some x) := fun σ Kn H s Q q => h σ Kn H s Q fun v Kn' H' g r => q v Kn' H' g ⟨NN.nn r, r⟩
theorem ev_unopt {o : Option α} {x : α} (h : EV K F Kn0 sl ow te o) (e : o = some x) : EV K F Kn0 sl ow te x := fun σ Kn H s Q q => h σ Kn H s Q fun v Kn' H' g r => by
  subst e
  exact q v Kn' H' g r.2
theorem r2_isN {o : Option α} : R2V K (fun x y H Q => y = .non ∧ Q (.bl (decide (x = .non))) H) o Nn.nn o.isNone := fun Kn H v w ek h1 h2 Q q => by
  cases h2
  refine ⟨rfl, ?_⟩
  cases o with
  | none =>
    cases h1
    exact q.fl ek
  | some x =>
    rw [decide_eq_false h1.1]
    exact q.fl ek
theorem r2_notN {o : Option α} : R2V K (fun x y H Q => y = .non ∧ Q (.bl (!decide (x = .non))) H) o Nn.nn o.isSome := fun Kn H v w ek h1 h2 Q q => by
  cases h2
  refine ⟨rfl, ?_⟩
  cases o with
  | none =>
    cases h1
    exact q.fl ek
  | some x =>
    rw [decide_eq_false h1.1]
    exact q.fl ek
theorem r2_isB {a b : Bool} : R2V K L2.rIsB a b (decide (a = b)) := fun Kn H v w ek h1 h2 Q q => by
  cases h1
  cases h2
  exact ⟨a, b, rfl, rfl, q.fl ek⟩
theorem r2_notB {a b : Bool} : R2V K L2.rNotB a b (!decide (a = b)) := fun Kn H v w ek h1 h2 Q q => by
  cases h1
  cases h2
  exact ⟨a, b, rfl, rfl, q.fl ek⟩
theorem ev_hom {t : β × τ} {xs : List α} (h : EV K F Kn0 sl ow te t) (ho : Ho t xs) : EV K F Kn0 sl ow te (Tu.mk xs) := fun σ Kn H s Q q => h σ Kn H s Q fun v Kn' H' g r => by
  obtain ⟨p, vs, rfl, h1, h2⟩ := r
  exact q _ Kn' H' g ⟨p, vs, rfl, h1, ho.get h2⟩
/-- an object of one's own becomes known, and is no more named -/
theorem S.lend {σ : L2.St} {Kn H : Hp} {o1 : Ow} {ob : HO} (s : S K F Kn0 sl ow σ Kn H) (hj : ow[j]? = some o1) (hp : H o1.ad = some ob) : S K F Kn0 sl (ow.eraseIdx j) σ (upd Kn o1.ad ob) H := by
  obtain ⟨f1, f2, f3⟩ := s.ow.each _ (List.mem_of_getElem? hj)
  have s1 := s.sub (List.eraseIdx_sublist ow j)
  refine s1.know f1 f2 (fun o hm z => ?_) hp
  obtain ⟨m, hm'⟩ := List.getElem?_of_mem hm
  rw [List.getElem?_eraseIdx] at hm'
  split at hm'
  · have := ow_at s.ow.nd hm' hj z
    omega
  · have := ow_at s.ow.nd hm' hj z
    omega
theorem S.borrowP {σ : L2.St} {Kn H : Hp} {xs ys : List α} (s : S K F Kn0 sl ow σ Kn H) (hi : sl[i]? = some (.at pt)) (hj : ow[j]? = some (oo pt (P2.mk p1 p2))) (h1 : (ow.eraseIdx j)[k1]? = some (ol p1 xs)) (h2 : ((ow.eraseIdx j).eraseIdx k1)[k2]? = some (ol p2 ys)) :
    ∃ Kn', S K F Kn0 (sl.set i (sv ((xs, ys, ()) : List α × List α × Unit))) (((ow.eraseIdx j).eraseIdx k1).eraseIdx k2) σ Kn' H := by
  obtain ⟨o, q1, q2⟩ := s.sl.get hi
  have q2 : o = some (.ref pt) := q2
  obtain ⟨_, a2, ob, a3, a4⟩ := s.ow.each _ (List.mem_of_getElem? hj)
  have a4 : ob = .tup [.ref p1, .ref p2] := a4
  subst a4
  have s1 := s.lend hj a3
  obtain ⟨_, b2, w1, b3, b4⟩ := s1.ow.each _ (List.mem_of_getElem? h1)
  have s2 := s1.lend h1 b3
  obtain ⟨_, c2, w2, c3, c4⟩ := s2.ow.each _ (List.mem_of_getElem? h2)
  have s3 := s2.lend h2 c3
  have x2 : Ex (upd Kn pt (.tup [.ref p1, .ref p2])) (upd (upd Kn pt (.tup [.ref p1, .ref p2])) p1 (.lst w1)) := Ex.new b2
  have x3 : Ex (upd (upd Kn pt (.tup [.ref p1, .ref p2])) p1 (.lst w1)) (upd (upd (upd Kn pt (.tup [.ref p1, .ref p2])) p1 (.lst w1)) p2 (.lst w2)) := Ex.new c2
  have hσ : σ.set i o = σ := by
    refine List.ext_getElem? fun m => ?_
    by_cases e : i = m
    · subst e
      rw [List.getElem?_set_self (List.getElem?_eq_some_iff.mp q1).1, q1]
    · rw [List.getElem?_set_ne e]
  have s4 := s3.set (x := sv ((xs, ys, ()) : List α × List α × Unit)) (o := o) i ⟨.ref pt, q2, pt, _, rfl, (x2.trans x3) _ _ upd_same, .ref p1, _, rfl, ⟨p1, w1, rfl, x3 _ _ upd_same, paired_mono (x2.trans x3) b4⟩, .ref p2, _, rfl, ⟨p2, w2, rfl, upd_same, paired_mono x3 c4⟩, rfl⟩
  rw [hσ] at s4
  exact ⟨_, s4⟩
theorem ev_borP [Fl γ] {z : γ} {xs ys : List α} (hi : sl[i]? = some (.at pt)) (hj : ow[j]? = some (oo pt (P2.mk p1 p2))) (h1 : (ow.eraseIdx j)[k1]? = some (ol p1 xs)) (h2 : ((ow.eraseIdx j).eraseIdx k1)[k2]? = some (ol p2 ys)) (hs : sl.set i (sv ((xs, ys, ()) : List α × List α × Unit)) = sl')
    (ho : ((ow.eraseIdx j).eraseIdx k1).eraseIdx k2 = ow1) (h : EV K F Kn0 sl' ow1 te z) : EV K F Kn0 sl ow te z := fun σ Kn H s Q q => by
  obtain ⟨Kn', s1⟩ := s.borrowP hi hj h1 h2
  subst hs
  subst ho
  exact h σ _ H s1 Q fun v Kn' H' g r => q v Kn H' ⟨Ex.refl _, g.hh, s.ek.trans g.hh, fun _ _ h => h⟩ (Fl.iff.mpr (Fl.iff.mp r))
/-- a = (xs, ys), both new -/
theorem sb_asgPair {xs ys : List α} {sl' : Addr → List Sl} (hs : ∀ p, sl.set i (.at p) = sl' p) (ha : EN K F Kn0 sl ow ta xs) (hb : EN K F Kn0 sl ow tb ys) (k : ∀ pt p1 p2, SN K F Kn0 (sl' pt) (oo pt (P2.mk p1 p2) :: ol p1 xs :: ol p2 ys :: ow) D) :
    SB K F Kn0 sl ow D (tAsg (tTup (tCons ta (tCons tb tNil))) (gName i)) := fun σ Kn H s =>
  ha σ Kn H s _ fun p1 w1 Kn1 H1 g1 hp1 kp1 hw1 r1 => hb σ Kn1 H1 (s.grow g1) _ fun p2 w2 Kn2 H2 g2 hp2 kp2 hw2 r2 => by
    have g12 := g1.trans g2
    have h12 : H2 p1 = some (.lst w1) := g2.hh _ _ hw1
    have k12 : Kn2 p1 = none := g2.sp p1 (ne_none_of hw1) kp1
    have n12 : p1 ≠ p2 := fun z => by rw [← z, hw1] at hp2; cases hp2
    refine ⟨by show ([V.ref p1, V.ref p2] : List V).length ≤ sizeLine; exact le_line (Nat.le_of_ble_eq_true rfl), fun pt hp => ?_⟩
    have g3 := g12.trans (Gr.newU (o := .tup [V.ref p1, V.ref p2]) g12.kh hp)
    have n1 : p1 ≠ pt := fun z => by rw [← z, h12] at hp; cases hp
    have n2 : p2 ≠ pt := fun z => by rw [← z, hw2] at hp; cases hp
    have s3 := s.grow g3
    have u1 : upd H2 pt (.tup [V.ref p1, V.ref p2]) p1 = some (.lst w1) := by rw [upd_ne n1]; exact h12
    have u2 : upd H2 pt (.tup [V.ref p1, V.ref p2]) p2 = some (.lst w2) := by rw [upd_ne n2]; exact hw2
    have o2 := s3.own (p := p2) (fresh_back s.ef (fresh_back g1.hh hp2)) kp2 (owned_ne s (fresh_back g1.hh hp2)) u2 r2
    have o1 := o2.own (p := p1) (fresh_back s.ef hp1) k12 (fun o ho z => by
      rcases List.mem_cons.mp ho with rfl | ho
      · exact n12 z.symm
      · exact owned_ne s hp1 o ho z) u1 (paired_mono g2.kk r1)
    have hpH : H pt = none := fresh_back g12.hh hp
    have o0 := o1.ownG (p := pt) (o := oo pt (P2.mk p1 p2)) rfl (fresh_back s.ef hpH) (fresh_back g12.kh hp) (fun o ho z => by
      rcases List.mem_cons.mp ho with rfl | ho
      · exact n1 z
      · rcases List.mem_cons.mp ho with rfl | ho
        · exact n2 z
        · exact owned_ne s hpH o ho z) ⟨_, upd_same, rfl⟩
    exact k pt p1 p2 _ Kn2 _ (hs pt ▸ o0.seta (p := pt) i)
theorem set_ow {o : Ow} (h : ow[j]? = some o) : ow.set j o = ow := by
  refine List.ext_getElem? fun m => ?_
  by_cases e : j = m
  · subst e
    rw [List.getElem?_set_self (List.getElem?_eq_some_iff.mp h).1, h]
  · rw [List.getElem?_set_ne e]
/-- a[int(c)].append(x) -/
theorem sb_appP {xs ys xs' ys' : List α} {x : α} {c : Bool} (hi : sl[i]? = some (.at pt)) (hj : ow[j]? = some (oo pt (P2.mk p1 p2))) (h1 : ow[k1]? = some (ol p1 xs)) (h2 : ow[k2]? = some (ol p2 ys)) (hn : EV K F Kn0 sl ow tn (if c = true then (1 : Int) else 0)) (h : EV K F Kn0 sl ow te x) (hx : appP c xs ys x = some (xs', ys'))
    (ho : (ow.set k1 (ol p1 xs')).set k2 (ol p2 ys') = ow1) (hk : k1 ≠ k2) (k : SN K F Kn0 sl ow1 D) : SB K F Kn0 sl ow D (tDrop (tBM K "list" rAppend (tOp (rIxT K) (tVar i) tn) (tCons te tNil))) := fun σ Kn H s => by
  obtain ⟨o, q1, q2⟩ := s.sl.get hi
  refine ⟨.ref pt, by rw [q1]; exact congrArg some q2, hn σ Kn H s _ fun v Kn1 H1 g1 r1 => ?_⟩
  have s1 := s.grow g1
  obtain ⟨_, a2, ob, a3, a4⟩ := s1.ow.each _ (List.mem_of_getElem? hj)
  have a4 : ob = .tup [.ref p1, .ref p2] := a4
  subst a4
  cases r1
  obtain ⟨_, b2, w1, b3, b4⟩ := s1.ow.each _ (List.mem_of_getElem? h1)
  obtain ⟨_, c2, w2, c3, c4⟩ := s1.ow.each _ (List.mem_of_getElem? h2)
  unfold appP at hx
  split at hx
  case isFalse => cases hx
  rename_i hl
  have hx := Option.some.inj hx
  subst ho
  cases c with
  | true =>
    have e1 : xs = xs' := congrArg Prod.fst hx
    have e2 : ys ++ [x] = ys' := congrArg Prod.snd hx
    subst e1
    subst e2
    refine ⟨pt, _, 1, .ref p2, rfl, rfl, st_of a3, rfl, Or.inl ⟨rfl, w2, sq_of c3⟩, h σ Kn1 H1 s1 _ fun u Kn2 H2 g2 r2 => ?_⟩
    refine ⟨p2, w2, u, rfl, rfl, g2.hh _ _ c3, by rw [paired_len c4]; exact lt_line hl.2, k _ Kn2 _ ?_⟩
    have kp : Kn2 p2 = none := g2.sp p2 (ne_none_of c3) c2
    rw [set_ow h1]
    exact (s1.grow g2).write h2 (Ex.refl _) (upd_in g2.kh kp) (fun q hq _ => upd_ne hq) (fun _ _ h => h) upd_same (paired_append (paired_mono g2.kk c4) (.cons r2 .nil))
  | false =>
    have e1 : xs ++ [x] = xs' := congrArg Prod.fst hx
    have e2 : ys = ys' := congrArg Prod.snd hx
    subst e1
    subst e2
    refine ⟨pt, _, 0, .ref p1, rfl, rfl, st_of a3, rfl, Or.inl ⟨rfl, w1, sq_of b3⟩, h σ Kn1 H1 s1 _ fun u Kn2 H2 g2 r2 => ?_⟩
    refine ⟨p1, w1, u, rfl, rfl, g2.hh _ _ b3, by rw [paired_len b4]; exact lt_line hl.1, k _ Kn2 _ ?_⟩
    have kp : Kn2 p1 = none := g2.sp p1 (ne_none_of b3) b2
    have e : (ow.set k1 (ol p1 (xs ++ [x]))).set k2 (ol p2 ys) = ow.set k1 (ol p1 (xs ++ [x])) := set_ow (by rw [List.getElem?_set_ne hk]; exact h2)
    rw [e]
    exact (s1.grow g2).write h1 (Ex.refl _) (upd_in g2.kh kp) (fun q hq _ => upd_ne hq) (fun _ _ h => h) upd_same (paired_append (paired_mono g2.kk b4) (.cons r2 .nil))
end
end Wk
/-! Wsort: sorted of a list of alike data (numbers, texts, tuples of these); sorted of a dict's keys; xs[::-1] -/
namespace L2
open PySem PySem.Spec PyProof.Rows
/-- sorted(xs), xs a list of alike data -/
def rSortedD (K : PySem.W.Frag) : List V → Hp → VK → Prop := fun vs H Q => ∃ (a : Addr) (bs : List (V × PyData)), vs = [V.ref a] ∧ SqL K H a (bs.map (·.1)) ∧ (∀ b ∈ bs, Dp K H b.1 b.2) ∧ PySem.W.AllAlike (bs.map (·.2)) ∧ PySem.W.Sortable (bs.map (·.2)) ∧ bs.length ≤ 1000000 ∧ (∀ b ∈ bs, b.2.depth ≤ 60) ∧
  ∀ p, H p = none → Q (.ref p) (upd H p (.lst ((bs.mergeSort (PySem.W.dataLe false (fun b : V × PyData => b.2))).map (·.1))))
theorem each_vals : ∀ {bs : List (V × PyData)} {us : List Value}, Vals (bs.map (·.1)) us → PySem.W.EachIs (fun v (b : V × PyData) => RelV b.1 v) us bs
  | [], _, h => by
    have h' : Vals [] _ := h
    cases h'
    exact .nil
  | b :: bs, _, h => by
    have h' : Vals (b.1 :: bs.map (·.1)) _ := h
    cases h' with
    | cons r t => exact .cons r (each_vals t)
theorem vals_each : ∀ {bs : List (V × PyData)} {us : List Value}, PySem.W.EachIs (fun v (b : V × PyData) => RelV b.1 v) us bs → Vals (bs.map (·.1)) us
  | _, _, .nil => .nil
  | _, _, .cons r t => .cons r (vals_each t)
theorem each_reads {X : Cx} {pins : List (Addr × Obj)} {σ : St} {H : Hp} {s : Shared} (I : Inv X pins σ H s) : ∀ {bs : List (V × PyData)} {us : List Value}, (∀ b ∈ bs, Dp X.K H b.1 b.2) → PySem.W.EachIs (fun v (b : V × PyData) => RelV b.1 v) us bs → PySem.W.EachIs (fun v (b : V × PyData) => ∃ as, Reads s.heap v b.2 as) us bs
  | _, _, _, .nil => .nil
  | _, _, h, .cons r t => .cons (Dp.reads I _ _ _ (h _ List.mem_cons_self) r) (each_reads I (fun b hb => h b (List.mem_cons_of_mem _ hb)) t)
theorem cr_sortedD {X : Cx} (hu : X.A.units + 64 < cLine) : CallR X (.builtin "sorted") (rSortedD X.K) := by
  intro pins s σ H vs us Q I r h
  obtain ⟨a, bs, rfl, hs, hd, hal, hk, hL, hdp, q⟩ := h
  obtain ⟨its, rv, hl, hz⟩ := I.list hs
  rw [Vals.ref1 r]
  have e := each_vals rv
  have hL' : bs.length ≤ sizeLine := Nat.le_trans hL (by decide)
  refine PySem.W.sorted_data (vs := its) (enc := fun b : V × PyData => b.2) hl.isList e (each_reads I hd e) hal hk hL' (fun b hb => by have := hdp b hb; omega) fun out ho eo => ?_
  obtain ⟨ep, he'⟩ := PyProof.Rows.sortedAll_at s.heap its out.toArray
  have hlen : ((bs.mergeSort (PySem.W.dataLe false (fun b : V × PyData => b.2))).map (·.1)).length ≤ sizeLine := by
    rw [List.length_map, List.length_mergeSort]
    exact hL'
  exact ⟨.ref _, upd H (s.heap.objs.size + 1) (.lst _), I.laid (t' := s.toks) (fun _ _ => PyProof.Rows.sortedAll_old) (Nat.le_succ _) ⟨hlen, out, ep, vals_each eo, he'⟩, rfl, q _ (I.hok.fresh (Nat.le_succ _))⟩
end L2
namespace Wk
open PySem PySem.Spec L2 Evl
/-- alike, one with the other -/
class Al (α : Type) [Rp α] [Pd α] : Prop where
  al : ∀ a b : α, PySem.W.alike (Pd.toD a) (Pd.toD b) = true
class Als (τ : Type) [Tp τ] [Pq τ] : Prop where
  al : ∀ a b : τ, PySem.W.alikeAll (Pq.toDs a) (Pq.toDs b) = true
class So (α : Type) [Rp α] [Pd α] : Prop where
  so : (∀ a : α, ∃ x r, Pd.toD a = .tuple (x :: r)) ∨ ∀ a : α, Pd.toD a ≠ .none ∧ ∀ xs, Pd.toD a ≠ .tuple xs
instance : Al Int := ⟨fun _ _ => rfl⟩
instance : Al Str := ⟨fun _ _ => rfl⟩
instance : Al Bool := ⟨fun _ _ => rfl⟩
instance : Als Unit := ⟨fun _ _ => rfl⟩
instance {α τ : Type} [Rp α] [Tp τ] [Pd α] [Pq τ] [Al α] [Als τ] : Als (α × τ) := ⟨fun a b => by
  show PySem.W.alikeAll (Pd.toD a.1 :: Pq.toDs a.2) (Pd.toD b.1 :: Pq.toDs b.2) = true
  rw [PySem.W.alikeAll, Al.al, Als.al]
  rfl⟩
instance {α τ : Type} [Rp α] [Tp τ] [Pd α] [Pq τ] [Al α] [Als τ] : Al (α × τ) := ⟨fun a b => by
  show PySem.W.alike (.tuple (Pq.toDs a)) (.tuple (Pq.toDs b)) = true
  rw [PySem.W.alike, Als.al]⟩
instance : So Int := ⟨.inr fun a => ⟨(fun h => nomatch h), (fun _ h => nomatch h)⟩⟩
instance : So Str := ⟨.inr fun a => ⟨(fun h => nomatch h), (fun _ h => nomatch h)⟩⟩
instance : So Bool := ⟨.inr fun a => ⟨(fun h => nomatch h), (fun _ h => nomatch h)⟩⟩
instance {α τ : Type} [Rp α] [Tp τ] [Pd α] [Pq τ] : So (α × τ) := ⟨.inl fun a => ⟨_, _, rfl⟩⟩
def leD {α : Type} [Rp α] [Pd α] (a b : α) : Bool := PySem.W.dataLe false (fun c : α => Pd.toD c) a b
def srtD {α : Type} [Rp α] [Pd α] (xs : List α) : List α := xs.mergeSort leD
def srtDO {α : Type} [Rp α] [Pd α] (xs : List α) : Option (List α) := if xs.length ≤ 1000000 ∧ Pd.dp α ≤ 60 then some (srtD xs) else none
theorem paired_zip {α β : Type} {R : α → β → Prop} : ∀ {vs : List α} {xs : List β}, Paired R vs xs → ∃ ps : List (α × β), ps.map (·.1) = vs ∧ ps.map (·.2) = xs ∧ ∀ c ∈ ps, R c.1 c.2
  | _, _, .nil => ⟨[], rfl, rfl, (fun _ h => nomatch h)⟩
  | _, _, .cons r t => by
    obtain ⟨ps, h1, h2, h3⟩ := paired_zip t
    refine ⟨(_, _) :: ps, by rw [List.map_cons, h1], by rw [List.map_cons, h2], fun c hc => ?_⟩
    rcases List.mem_cons.mp hc with rfl | hc
    · exact r
    · exact h3 c hc
theorem zip_paired {α β : Type} {R : α → β → Prop} : ∀ {ps : List (α × β)}, (∀ c ∈ ps, R c.1 c.2) → Paired R (ps.map (·.1)) (ps.map (·.2))
  | [], _ => .nil
  | c :: ps, h => .cons (h c List.mem_cons_self) (zip_paired fun d hd => h d (List.mem_cons_of_mem _ hd))
section
variable {K : Fg} {F Kn0 : Hp} {sl sl' : List Sl} {ow ow1 : List Ow} {α β γ : Type} [Rp α] [Rp β] [Rp γ] {te : TE} {i j : Nat} {p : Addr}
theorem rc_sortD {α : Type} [Rp α] [Pd α] [Al α] [So α] {xs zs : List α} (h : srtDO xs = some zs) : RCL K (rSortedD K) (xs, ()) zs := fun Kn H vs ek hv Q q => by
  unfold srtDO at h
  split at h
  case isFalse => cases h
  rename_i hl
  cases h
  obtain ⟨v, rfl, l, ws, rfl, h1, h2⟩ := one_arg hv
  obtain ⟨ps, e1, e2, e3⟩ := paired_zip h2
  have eb1 : (ps.map fun c => ((c.1, Pd.toD c.2) : V × PyData)).map (·.1) = ws := by
    rw [List.map_map, ← e1]
    rfl
  have lp : ps.length = xs.length := by rw [← e2, List.length_map]
  refine ⟨l, ps.map fun c => (c.1, Pd.toD c.2), rfl, by rw [eb1]; exact sq_of (ek _ _ h1), fun b hb => ?_, ?_, ?_, by rw [List.length_map, lp]; exact hl.1, fun b hb => ?_, fun p hp => ?_⟩
  · obtain ⟨c, hc, rfl⟩ := List.mem_map.mp hb
    exact Pd.isD (Rp.mono ek (e3 c hc))
  · rw [List.map_map]
    exact PySem.W.AllAlike.of fun a b => Al.al _ _
  · rw [List.map_map]
    rcases (So.so : _ ∨ ∀ a : α, _) with h | h
    · exact PySem.W.Sortable.tuples fun c => h _
    · exact PySem.W.Sortable.others fun c => h _
  · obtain ⟨c, hc, rfl⟩ := List.mem_map.mp hb
    exact Nat.le_trans (Pd.dep _) hl.2
  · have m1 : (ps.mergeSort fun a b => leD a.2 b.2).map (fun c => ((c.1, Pd.toD c.2) : V × PyData)) = (ps.map fun c => ((c.1, Pd.toD c.2) : V × PyData)).mergeSort (PySem.W.dataLe false (fun b : V × PyData => b.2)) := List.map_mergeSort fun a _ b _ => rfl
    have m2 : (ps.mergeSort fun a b => leD a.2 b.2).map (·.2) = srtD xs := by
      unfold srtD
      rw [← e2]
      exact List.map_mergeSort fun a _ b _ => rfl
    rw [← m1, List.map_map]
    refine q p _ Kn _ (Gr.newU ek hp) hp (fresh_back ek hp) upd_same ?_
    rw [← m2]
    exact zip_paired fun c hc => e3 c ((List.mergeSort_perm _ _).mem_iff.mp hc)
theorem en_rev {xs : List α} (h : EV K F Kn0 sl ow te xs) : EN K F Kn0 sl ow (tRevL K te) xs.reverse := fun σ Kn H s Q q => h σ Kn H s _ fun v Kn1 H1 g1 r1 => by
  obtain ⟨p, ws, rfl, h3, h4⟩ := r1
  refine ⟨p, ws, rfl, sq_of (g1.kh _ _ h3), fun l hl => q l _ Kn1 _ (g1.trans (Gr.newU g1.kh hl)) (fresh_back g1.hh hl) (fresh_back g1.kh hl) upd_same ?_⟩
  obtain ⟨ps, e1, e2, e3⟩ := paired_zip h4
  rw [← e1, ← e2, ← List.map_reverse, ← List.map_reverse]
  exact zip_paired fun c hc => e3 c (List.mem_reverse.mp hc)
theorem k_sortedD {X : Cx} (hu : X.A.units + 64 < cLine) (h : X.K = K := by rfl) : CallR X (.builtin "sorted") (rSortedD K) := h ▸ cr_sortedD hu
theorem k_revL {X : Cx} {e : Expr} {te : TE} {k : Nat} {p1 p2 p3 pos : Pos} (he : PE X e te) (h : X.K = K := by rfl) : PE X (.Subscript e (.Slice none none (some (.UnaryOp .USub (.Constant (.int 1) k p1) p2)) p3) pos) (tRevL K te) := h ▸ pe_revL he
/-- sorted(d), d a dict with text keys -/
def rSortedK : List V → Hp → VK → Prop := fun xs H Q => ∃ (a : Addr) (kvs : List (Key × V)) (ks : List Str), xs = [.ref a] ∧ Rd H a (.dK kvs) ∧ kvs.map (·.1) = ks.map Sum.inr ∧ ks.length < 64 ∧ ∀ ys p, ys.Perm ks → PyProof.Rows.sortedS ys = true → H p = none → Q (.ref p) (upd H p (.lst (ys.map V.str)))
theorem k_sortedK {X : Cx} (hc : X.calm = true := by rfl) : CallR X (.builtin "sorted") rSortedK := call_sortedD hc
end
end Wk
/-! Wdeal: sum(d.values()), divmod, d[k] += c, xs[i] += c, str(n), zfill, a dict of one's own told -/
namespace L2
open PySem PySem.Spec PyProof.Rows
section
variable {X : Cx}
theorem get_list : PGet X (rIxL X.K) := by
  intro pins s σ H x y v u Q I rx ry h
  obtain ⟨p, xs, i, z, rfl, rfl, hq, he, q⟩ := h
  cases rx
  obtain ⟨t, rfl⟩ := ry
  obtain ⟨its, r, pl, hz⟩ := I.list hq
  obtain ⟨j, h1, h2, h3, h4, h5⟩ := atI_get he
  obtain ⟨w, ew, rw'⟩ := r.get h2
  have hl := r.length
  have hn := line63
  have fin : EP X pins σ Q w s := ⟨z, H, I, rw', q⟩
  by_cases h0 : 0 ≤ i
  · have hj : i.toNat = j := by
      rw [seqIndex_of h0 h5] at h1
      exact Option.some.inj h1
    exact wpAny_getItem_list pl.isList h0 (by omega) (by rw [hj]; simpa using ew) fin
  · have hj : (i + (its.toArray.size : Int)).toNat = j := by
      rw [seqIndex_neg (by omega) h4] at h1
      rw [List.size_toArray, ← hl]
      exact Option.some.inj h1
    exact wpAny_getItem_list_neg pl.isList (by omega) (by rw [List.size_toArray] <;> omega) (by omega) (by rw [hj]; simpa using ew) fin
/-- sum(o.values()), a dict with int values -/
def tSumVals (td : TE) : TE := fun σ H Q => td σ H fun x H1 => ∃ (a : Addr) (kvs : List (Key × V)) (is : List Int), x = V.ref a ∧ Rd H1 a (.dK kvs) ∧ kvs.map (·.2) = is.map V.int ∧ Q (.int is.sum) H1
theorem pre_sum (is : List Int) : ∀ n : Nat, n ≤ is.length → preSum (fun i => is.getD i 0) n = (is.take n).sum
  | 0, _ => rfl
  | n + 1, h => by
    have ih := pre_sum is n (by omega)
    show preSum (fun i => is.getD i 0) n + is.getD n 0 = _
    rw [ih, List.take_succ, List.sum_append, List.getD_eq_getElem?_getD, List.getElem?_eq_getElem (show n < is.length by omega)]
    simp
variable {o : Expr} {p pos apos mpos : Pos} {td : TE}
theorem pe_sumVals (hc : X.calm = true) (hg : Gl X "sum") (hm : X.mg "sum" = none) (hd : PE X o td) (hbase : attributeBase o "values" X.env (eval o X.env) = eval o X.env := by rfl) (hline : (apos.endLine == mpos.line) = true := by rfl)
    (hse : starEach [Expr.Call (.Attribute o "values" apos) [] [] mpos] X.env = [(false, eval (Expr.Call (.Attribute o "values" apos) [] [] mpos) X.env)] := by rfl) :
    PE X (.Call (.Name "sum" p) [.Call (.Attribute o "values" apos) [] [] mpos] [] pos) (tSumVals td) := by
  refine ⟨fun pins s σ H Q I h => ?_⟩
  refine wpAny_Call_Name_kw (ld_blt I hg hm (u := .builtin "sum") (by first | rfl | decide +kernel) ?_ (by first | decide +kernel | decide) (by first | decide +kernel | decide))
  rw [hse]
  refine PySem.callWith_builtin1 (wpAny_Call_method0_late hbase hline (thn (hd.run pins s σ H _ I h) fun v s1 ⟨x, H1, I1, r1, a, kvs, is, ex, ha, hv, q⟩ => ?_))
  subst ex
  obtain rfl : v = Value.ref a := r1
  obtain ⟨_, hsys, vs, rel, dof⟩ := dk_rd I1.hok ha
  obtain ⟨ep, dat⟩ := dof.dictAt
  have dat' := dat
  obtain ⟨ob, es, ho, ex, hdat, hko, hpr, hnd⟩ := dat'
  refine ⟨"dict", "dict.values", F.plainAttrs_dict, F.slot_dict_values, F.type_dict_values, ⟨ob, ho, ex.1⟩, fun b e => ?_, Calls.callWith_builtin rfl (PySem.evalArgs_none ?_)⟩
  · cases e
    exact ⟨ob, ho, ex.2.1⟩
  refine call_meetsIn F.slot_dict_values ⟨ob, ho, ex.1⟩ F.entry_dict_values (F.args_dict_values_1 _) (meets_dict_values (mixKind X.prog X.w) a hsys) ⟨⟨vs, dof⟩, ?_⟩
  have k1 : ∀ b u, s1.heap.get? b = some u → (s1.heap.push { cls := .type "dict_values", data := .fields #[.ref a] }).get? b = some u := fun b u e => Heap.get?_push_of_some _ e
  have dat1 : (s1.heap.push { cls := .type "dict_values", data := .fields #[.ref a] }).DictAt (mixKind X.prog X.w) a vs ep := dat.keep k1
  have hlv : vs.length = is.length := by
    have e1 := congrArg List.length hv
    rw [List.length_map, List.length_map] at e1
    rw [← e1]
    exact (KV.length rel).symm
  have hval : ∀ (i : Nat) (v : Value), (∃ k, vs[i]? = some (k, v)) → ∃ t, v = Value.int (is.getD i 0) t := fun i v ⟨k, hk⟩ => by
    obtain ⟨x, h1, h2⟩ := KV.at' rel hk
    have e1 : (kvs.map (·.2))[i]? = some x := by rw [List.getElem?_map, h1] <;> rfl
    rw [hv, List.getElem?_map] at e1
    obtain ⟨j, hj, e2⟩ := Option.map_eq_some_iff.mp e1
    subst e2
    obtain ⟨t, e3⟩ := h2
    refine ⟨t, ?_⟩
    rw [e3, List.getD_eq_getElem?_getD, hj] <;> rfl
  refine PySem.call_sum_walkAnyS (wpAny_pyIter_values (v := s1.heap.objs.size) (d := a) ⟨_, Heap.get?_push_size _ rfl, rfl, rfl⟩ dat1 ?_)
  have hlt : a < s1.heap.objs.size := Heap.lt_size ho
  have hsz : (s1.heap.push { cls := .type "dict_values", data := .fields #[.ref a] }).objs.size = s1.heap.objs.size + 1 := Heap.size_push _ _
  refine ⟨_, _, _, _, _, _, _, _, rfl, (Walks.dictValues (knd := mixKind X.prog X.w) (A := X.A.in1) (I.ok.hd hc) (s1.heap.push { cls := .type "dict_values", data := .fields #[.ref a] }).objs.size a (by rw [hsz]; exact Nat.ne_of_lt (Nat.lt_succ_of_lt hlt)) vs ep).toS,
    ⟨⟨_, Heap.get?_push_size _ rfl, rfl, rfl⟩, dat1.keep fun b u e => Heap.get?_push_of_some _ e⟩, fun b hb => ?_, hval, fun s' t' hmv => ?_⟩
  · show b < ((s1.heap.push _).push _).objs.size
    rw [Heap.size_push, Heap.size_push]
    rw [hsz] at hb
    rcases List.mem_cons.mp hb with e | hb
    · rw [e]
      exact Nat.lt_succ_self _
    · have e : b = a := List.mem_singleton.mp hb
      rw [e]
      exact Nat.lt_succ_of_lt (Nat.lt_succ_of_lt hlt)
  · have hk : ∀ b u, s1.heap.get? b = some u → s'.heap.get? b = some u := fun b u e => hmv.heap b u (fun hmem => by
      have e1 : b = (s1.heap.push { cls := .type "dict_values", data := .fields #[.ref a] }).objs.size := List.mem_singleton.mp hmem
      have e2 := Heap.lt_size e
      rw [hsz] at e1
      rw [e1] at e2
      exact absurd e2 (Nat.not_lt.mpr (Nat.le_succ _))) (Heap.get?_push_of_some _ (k1 b u e))
    rw [Moved.eq_with hmv]
    have es : preSum (fun i => is.getD i 0) vs.length = is.sum := by
      rw [pre_sum is _ (by omega), hlv, List.take_length]
    refine ⟨.int is.sum, H1, I1.kept (t' := s'.toks) hk, ⟨t', ?_⟩, q⟩
    rw [es]
end
end L2
namespace Wk
open PySem PySem.Spec L2 Evl
theorem leD_total {α : Type} [Rp α] [Pd α] : PySem.W.TotalLe (leD (α := α)) := by
  have h : PySem.W.TotalLe (PySem.W.dataLe false (fun c : α => Pd.toD c)) := by
    unfold PySem.W.dataLe
    exact PySem.W.sortLe_total _ _ _
  exact ⟨fun a b c => h.trans a b c, fun a b => h.total a b⟩
/-- neither less than the other: the same -/
class Ti (α : Type) [Rp α] [Pd α] : Prop where
  ti : ∀ {a b : α}, PySem.W.dataLt (Pd.toD a) (Pd.toD b) = false → PySem.W.dataLt (Pd.toD b) (Pd.toD a) = false → a = b
class Tis (τ : Type) [Tp τ] [Pq τ] : Prop where
  ti : ∀ {a b : τ}, PySem.W.rowLt (Pq.toDs a) (Pq.toDs b) = false → PySem.W.rowLt (Pq.toDs b) (Pq.toDs a) = false → a = b
instance : Ti Int := ⟨fun {a b} h1 h2 => by
  have h1 : PySem.W.dataLt (.int a) (.int b) = false := h1
  have h2 : PySem.W.dataLt (.int b) (.int a) = false := h2
  rw [PySem.W.dataLt_int, decide_eq_false_iff_not] at h1 h2
  omega⟩
instance : Ti Str := ⟨fun {a b} h1 h2 => by
  have h1 : PySem.W.dataLt (.str a) (.str b) = false := h1
  have h2 : PySem.W.dataLt (.str b) (.str a) = false := h2
  rw [PySem.W.dataLt_str, decide_eq_false_iff_not] at h1 h2
  refine PySem.W.str_of_cps ?_
  exact List.le_antisymm (List.not_lt.mp h2) (List.not_lt.mp h1)⟩
instance : Tis Unit := ⟨fun _ _ => rfl⟩
instance {α τ : Type} [Rp α] [Tp τ] [Pd α] [Pq τ] [Al α] [Ti α] [Tis τ] : Tis (α × τ) := ⟨fun {a b} h1 h2 => by
  have h1 : PySem.W.rowLt (Pd.toD a.1 :: Pq.toDs a.2) (Pd.toD b.1 :: Pq.toDs b.2) = false := h1
  have h2 : PySem.W.rowLt (Pd.toD b.1 :: Pq.toDs b.2) (Pd.toD a.1 :: Pq.toDs a.2) = false := h2
  unfold PySem.W.rowLt at h1 h2
  rw [PySem.W.dataLt_cons (Al.al _ _)] at h1 h2
  by_cases e : a.1 = b.1
  · have e1 : PyData.eqv (Pd.toD a.1) (Pd.toD b.1) = true := (Pd.eqd _ _).mpr e
    have e2 : PyData.eqv (Pd.toD b.1) (Pd.toD a.1) = true := (Pd.eqd _ _).mpr e.symm
    rw [if_pos e1] at h1
    rw [if_pos e2] at h2
    exact Prod.ext e (Tis.ti h1 h2)
  · rw [if_neg (fun z => e ((Pd.eqd _ _).mp z))] at h1
    rw [if_neg (fun z => e ((Pd.eqd _ _).mp z).symm)] at h2
    exact absurd (Ti.ti h1 h2) e⟩
instance {α τ : Type} [Rp α] [Tp τ] [Pd α] [Pq τ] [Al α] [Ti α] [Tis τ] : Ti (α × τ) := ⟨fun {a b} h1 h2 => by
  have h1 : PySem.W.dataLt (.tuple (Pq.toDs a)) (.tuple (Pq.toDs b)) = false := h1
  have h2 : PySem.W.dataLt (.tuple (Pq.toDs b)) (.tuple (Pq.toDs a)) = false := h2
  rw [PySem.W.dataLt_tuple] at h1 h2
  exact Tis.ti (τ := α × τ) h1 h2⟩
theorem leD_anti {α : Type} [Rp α] [Pd α] [Ti α] {a b : α} (h1 : leD a b = true) (h2 : leD b a = true) : a = b := by
  have h1 : (!PySem.W.dataLt (Pd.toD b) (Pd.toD a)) = true := h1
  have h2 : (!PySem.W.dataLt (Pd.toD a) (Pd.toD b)) = true := h2
  rw [Bool.not_eq_true'] at h1 h2
  exact Ti.ti h2 h1
theorem srtD_perm {α : Type} [Rp α] [Pd α] (xs : List α) : (srtD xs).Perm xs := List.mergeSort_perm xs _
theorem srtD_pw {α : Type} [Rp α] [Pd α] (xs : List α) : (srtD xs).Pairwise (fun a b => leD a b = true) := List.pairwise_mergeSort (fun a b c => leD_total.trans a b c) (fun a b => by have := leD_total.total a b; simpa using this) xs
theorem srtD_one {α : Type} [Rp α] [Pd α] [Ti α] {xs ys : List α} (p : ys.Perm xs) (s : ys.Pairwise (fun a b => leD a b = true)) : ys = srtD xs :=
  List.Perm.eq_of_pairwise (le := fun a b : α => leD a b = true) (fun a b _ _ h1 h2 => leD_anti h1 h2) s (srtD_pw xs) (p.trans (srtD_perm xs).symm)
theorem leD_str (a b : Str) : leD a b = decide (a.cps.toList ≤ b.cps.toList) := by
  have := congrFun (congrFun (PySem.W.dataLe_str (fun c : Str => c)) a) b
  exact this
theorem sortedS_pw : ∀ (ys : List Str), PyProof.Rows.sortedS ys = true → ys.Pairwise (fun a b => leD a b = true) := by
  have key : ∀ (ys : List Str) (p : Str), PyProof.Rows.risingS p ys = true → (p :: ys).Pairwise (fun a b => leD a b = true) := by
    intro ys
    induction ys with
    | nil => exact fun p _ => List.pairwise_singleton _ _
    | cons y ys ih =>
      intro p h
      have h : (!ltCps y.cps.toList p.cps.toList && PyProof.Rows.risingS y ys) = true := h
      rw [Bool.and_eq_true] at h
      have h2 := ih y h.2
      have h1 : leD p y = true := by
        rw [leD_str, decide_eq_true_eq]
        have := h.1
        rw [PyProof.Rows.ltCps_eq, Bool.not_eq_true', decide_eq_false_iff_not] at this
        exact List.not_lt.mp this
      refine List.pairwise_cons.mpr ⟨fun z hz => ?_, h2⟩
      rcases List.mem_cons.mp hz with rfl | hz
      · exact h1
      · exact leD_total.trans _ _ _ h1 ((List.pairwise_cons.mp h2).1 z hz)
  intro ys h
  match ys, h with
  | [], _ => exact List.Pairwise.nil
  | y :: ys, h => exact key ys y h
/-! rules -/
def skO {β : Type} (d : Dc Str β) : Option (List Str) := if d.l.length < 64 then some (srtD (d.l.map (·.1))) else none
def dmO (a b : Int) : Option (Int × Int × Unit) := if 0 < b ∧ b < 1073741824 then some (a / b, a % b, ()) else none
def strIO (n : Int) : Option Str := if n.natAbs.log2 < 1920 then some ((toString n : String) : Str) else none
def zfO (s : Str) (n : Int) : Option Str := if PadOk n = true then some (Txt.zfill s n) else none
section
variable {K : Fg} {F Kn0 : Hp} {sl sl' : List Sl} {ow ow1 ow2 : List Ow} {α β γ τ : Type} [Rp α] [Rp β] [Rp γ] [Tp τ] {ta : TA} {ta1 tb te ti tk : TE} {D : Ends} {t : TS} {i j : Nat} {p : Addr}
theorem ev_sumVals {d : Dc Str Int} (h : EV K F Kn0 sl ow te d) : EV K F Kn0 sl ow (tSumVals te) (d.l.map (·.2)).sum := fun σ Kn H s Q q => h σ Kn H s _ fun v Kn1 H1 g1 r1 => by
  obtain ⟨p, ws, rfl, h3, h4⟩ := r1
  refine ⟨p, ws, d.l.map (·.2), rfl, rd_ex g1.kh h3, ?_, q _ Kn1 H1 g1 rfl⟩
  unfold DK at h4
  clear h3 q h
  generalize d.l = kvs at h4
  induction h4 with
  | nil => rfl
  | cons r _ ih =>
    rw [List.map_cons, List.map_cons, List.map_cons, ih]
    congr 1
    exact r.2
theorem dk_keys {H : Hp} {ws : List (Key × V)} {kvs : List (Str × β)} (h : DK K H ws kvs) : ws.map (·.1) = (kvs.map (·.1)).map Sum.inr := by
  unfold DK at h
  induction h with
  | nil => rfl
  | cons r _ ih =>
    rw [List.map_cons, List.map_cons, List.map_cons, ih]
    congr 1
    exact r.1
theorem sk_fin {d : Dc Str β} {zs : List Str} (hz : skO d = some zs) {Kn H : Hp} {p : Addr} {ws : List (Key × V)} (ek : Ex Kn H) (hp : Rd H p (.dK ws)) (h4 : DK K Kn ws d.l) {Q : VK} (q : RL K Kn H Q zs) : rSortedK [.ref p] H Q := by
  unfold skO at hz
  split at hz
  case isFalse => cases hz
  rename_i hl
  cases hz
  refine ⟨p, ws, d.l.map (·.1), rfl, hp, dk_keys h4, by rw [List.length_map]; exact hl, fun ys l pm so hl2 => ?_⟩
  have e := srtD_one pm (sortedS_pw ys so)
  subst e
  exact q l _ Kn _ (Gr.newU ek hl2) hl2 (fresh_back ek hl2) upd_same (fl_paired _)
theorem rc_sortK {d : Dc Str β} {zs : List Str} (hz : skO d = some zs) : RCL K rSortedK (d, ()) zs := fun Kn H vs ek hv Q q => by
  obtain ⟨v, rfl, l, ws, rfl, h1, h2⟩ := one_arg hv
  exact sk_fin hz ek (rd_ex ek h1) h2 q
theorem en_sortKO {d : Dc Str β} {zs : List Str} (hi : sl[i]? = some (.at p)) (hj : ow[j]? = some (oo p d)) (hz : skO d = some zs) : EN K F Kn0 sl ow (tCB rSortedK (tCons (tVar i) tNil)) zs := fun σ Kn H s Q q => by
  obtain ⟨o, h1, h2⟩ := s.sl.get hi
  obtain ⟨f1, f2, ob, f3, ws, f4, f5⟩ := s.ow.each _ (List.mem_of_getElem? hj)
  subst f4
  exact ⟨.ref p, by rw [h1]; exact congrArg some h2, sk_fin hz s.ek (Rd.of f3) f5 q⟩
theorem rc_divmod {a b : Int} {r : Int × Int × Unit} (h : dmO a b = some r) : RCV K (fun xs H Q => ∃ i j, xs = [.int i, .int j] ∧ CDiv i j ∧ ∀ p, H p = none → Q (.ref p) (upd H p (.tup [.int (i / j), .int (i % j)]))) (a, b, ()) r := fun Kn H vs ek hv Q q => by
  obtain ⟨v, w, rfl, h1, h2⟩ := two_args hv
  cases h1
  cases h2
  unfold dmO at h
  split at h
  case isFalse => cases h
  rename_i hb
  cases h
  exact ⟨a, b, rfl, hb, fun p hp => q _ _ _ (Gr.new ek hp) ⟨p, _, rfl, upd_same, .int (a / b), _, rfl, rfl, .int (a % b), _, rfl, rfl, rfl⟩⟩
theorem rc_strI {n : Int} {r : Str} (h : strIO n = some r) : RCV K (fun xs H Q => ∃ i, xs = [.int i] ∧ i.natAbs.log2 < 1920 ∧ Q (.str (toString i)) H) (n, ()) r := fun Kn H vs ek hv Q q => by
  obtain ⟨v, rfl, h1⟩ := one_arg hv
  cases h1
  unfold strIO at h
  split at h
  case isFalse => cases h
  rename_i hb
  cases h
  exact ⟨n, rfl, hb, q.fl ek⟩
theorem ev_zfill {x r : Str} {n : Int} (h : EV K F Kn0 sl ow te x) (hn : EV K F Kn0 sl ow tb n) (hz : zfO x n = some r) : EV K F Kn0 sl ow (tBM K "str" (fun x xs H Q => ∃ (a : Str) (i : Int), x = .str a ∧ xs = [.int i] ∧ PadOk i = true ∧ Q (.str (Txt.zfill a i)) H) te (tCons tb tNil)) r := fun σ Kn H s Q q =>
  h σ Kn H s _ fun v Kn1 H1 g1 r1 => by
    cases r1
    refine ⟨rfl, hn σ Kn1 H1 (s.grow g1) _ fun w Kn2 H2 g2 r2 => ?_⟩
    cases r2
    unfold zfO at hz
    split at hz
    case isFalse => cases hz
    rename_i hb
    cases hz
    exact ⟨x, n, rfl, rfl, hb, q _ Kn2 H2 (g1.trans g2) rfl⟩
/-- d[k] += c -/
theorem sb_daug {κ : Type} [Rp κ] [Ky κ] [DecidableEq κ] {d d' : Dc κ Int} {k : κ} {y c : Int} (hi : sl[i]? = some (.at p)) (hj : ow[j]? = some (oo p d)) (hk : EV K F Kn0 sl ow tk k) (hy : getD d.l k = some y) (h : EV K F Kn0 sl ow te c) (hx : putO d k (y + c) = some d') (ho : ow.set j (oo p d') = ow1) (n : SN K F Kn0 sl ow1 D) :
    SB K F Kn0 sl ow D (sDAug (tVar i) tk te L2.rAdd) := fun σ Kn H s => by
  obtain ⟨o, h1, h2⟩ := s.sl.get hi
  refine ⟨.ref p, by rw [h1]; exact congrArg some h2, hk σ Kn H s _ fun w Kn1 H1 g1 r1 => ?_⟩
  have s1 := s.grow g1
  obtain ⟨f1, f2, o1, f3, ws, f4, f5⟩ := s1.ow.each _ (List.mem_of_getElem? hj)
  subst f4
  rcases f5.get k with ⟨q1, q2⟩ | ⟨y2, w2, q1, q2, q3⟩
  · rw [q1] at hy
    cases hy
  · rw [q1] at hy
    cases hy
    refine ⟨p, w2, rfl, q2 ▸ Ky.get r1 s1.ek (Rd.of f3), h σ Kn1 H1 s1 _ fun u Kn2 H2 g2 r2 => ?_⟩
    cases r2
    cases q3
    refine ⟨y, c, rfl, rfl, ?_⟩
    have s2 := s1.grow g2
    have f3' : H2 p = some (Ky.ho ws) := g2.hh _ _ f3
    have f2' : Kn2 p = none := g2.sp p (ne_none_of f3) f2
    unfold putO at hx
    split at hx
    case isFalse => cases hx
    rename_i hl
    cases hx
    subst ho
    refine ⟨_, Ky.put (Rp.mono g2.kk r1) s2.ek f3' (by rw [f5.length]; exact lt_line hl), n _ Kn2 _ ?_⟩
    exact s2.writeG hj rfl rfl (Ex.refl _) (upd_in s2.ek f2') (fun q hq _ => upd_ne hq) (fun _ _ h => h) ⟨_, upd_same, _, rfl, DK.put k rfl (DK.mono g2.kk f5)⟩
/-- xs[n] += c -/
theorem sb_augI {xs xs' : List Int} {n a c : Int} {f : Int → Int → Int} (hi : sl[i]? = some (.at p)) (hj : ow[j]? = some (ol p xs)) (hn : EV K F Kn0 sl ow ti n) (ha : atI xs n = some a) (h : EV K F Kn0 sl ow te c) (hx : setI xs n (f a c) = some xs') (ho : ow.set j (ol p xs') = ow1) (k : SN K F Kn0 sl ow1 D) :
    SB K F Kn0 sl ow D (tAugS (tVar i) ti te (rIxL K) (ipI f) rSetL) := fun σ Kn H s => by
  obtain ⟨o, h1, h2⟩ := s.sl.get hi
  refine ⟨.ref p, by rw [h1]; exact congrArg some h2, hn σ Kn H s _ fun w Kn1 H1 g1 r1 => ?_⟩
  cases r1
  have s1 := s.grow g1
  obtain ⟨f1, f2, ws, f3, f4⟩ := s1.ow.each _ (List.mem_of_getElem? hj)
  obtain ⟨u, e, r⟩ := paired_atI f4 ha
  cases r
  refine ⟨p, ws, n, _, rfl, rfl, sq_of f3, e, h σ Kn1 H1 s1 _ fun v Kn2 H2 g2 r2 => ?_⟩
  cases r2
  refine ⟨a, c, rfl, rfl, ?_⟩
  have s2 := s1.grow g2
  have f3' : H2 p = some (.lst ws) := g2.hh _ _ f3
  have f2' : Kn2 p = none := g2.sp p (ne_none_of f3) f2
  unfold setI at hx
  cases em : ixN xs.length n with
  | none => rw [em] at hx; cases hx
  | some m =>
    rw [em] at hx
    cases hx
    subst ho
    refine ⟨p, ws, n, m, rfl, rfl, f3', by rw [paired_len f4]; exact em, k _ Kn2 _ ?_⟩
    exact s2.write hj (Ex.refl _) (upd_in s2.ek f2') (fun q hq _ => upd_ne hq) (fun _ _ h => h) upd_same (paired_set (show rep K Kn2 (V.int (f a c)) (f a c) from rfl) m (paired_mono g2.kk f4))
/-- a dict of one's own: from now on it is known and stays as it is -/
theorem sb_freezeG {κ : Type} [Rp κ] [Ky κ] [DecidableEq κ] {d : Dc κ β} (hi : sl[i]? = some (.at p)) (hj : ow[j]? = some (oo p d)) (hs : sl.set i (sv d) = sl') (ho : ow.eraseIdx j = ow1) (k : SB K F Kn0 sl' ow1 D t) : SB K F Kn0 sl ow D t := fun σ Kn H s => by
  obtain ⟨ob, kp, hp, s1⟩ := s.borrowG hi hj
  subst hs
  subst ho
  exact k σ _ H s1
theorem k_listGet {X : Cx} (h : X.K = K := by rfl) : PGet X (rIxL K) := h ▸ get_list
end
end Wk
namespace Wk
open PySem PySem.Spec L2 Evl
section
variable {X : Cx} {o i value : Expr} {tpos tpos' : Pos} {td ty tv : TE}
theorem k_daug (hu : X.A.units + 64 < cLine) (ho : PE X o td) (hi : PE X i ty) (hv : PE X value tv) (ha : ∀ ov iv new, augStore i ov iv new = (do holding [new, ov, iv] (setItem ov iv new); release [new, ov, iv] []; pure .next)) : PS X (.AugAssign (.Subscript o i tpos) .Add value tpos') (sDAug td ty tv L2.rAdd) := ps_daug (by omega) ho hi hv in_add ha
end
end Wk
/-! Wpair: a def that tells two new lists in a tuple; a comprehension over a list of one's own -/
namespace Wk
open PySem PySem.Spec L2 Evl
structure PairAt {α β : Type} [Rp α] [Rp β] (K : Fg) (Kn H : Hp) (pt p1 p2 : Addr) (xs : List α) (ys : List β) : Prop where
  kt : Kn pt = none
  k1 : Kn p1 = none
  k2 : Kn p2 = none
  ne : p1 ≠ p2
  ht : H pt = some (.tup [.ref p1, .ref p2])
  e1 : ∃ w, H p1 = some (.lst w) ∧ Paired (rep K Kn) w xs
  e2 : ∃ w, H p2 = some (.lst w) ∧ Paired (rep K Kn) w ys
section
variable {α β τ : Type} [Rp α] [Rp β] [Tp τ]
def RP (K : Fg) (Kn H : Hp) (Q : VK) (xs : List α) (ys : List β) : Prop := ∀ pt p1 p2 Kn' H', Gr Kn H Kn' H' → H pt = none → H p1 = none → H p2 = none → PairAt K Kn' H' pt p1 p2 xs ys → Q (.ref pt) H'
def EP (K : Fg) (F Kn0 : Hp) (sl : List Sl) (ow : List Ow) (te : TE) (xs : List α) (ys : List β) : Prop := ∀ σ Kn H, S K F Kn0 sl ow σ Kn H → ∀ Q : VK, RP K Kn H Q xs ys → te σ H Q
def PP (K : Fg) (f : τ → Option (List α × List β × Unit)) : Sp := fun vs H Q _ => ∃ Kn t r, Ex Kn H ∧ rept K Kn vs t ∧ f t = some r ∧ RP K Kn H Q r.1 r.2.1
def RNP (K : Fg) (F Kn0 : Hp) (ow : List Ow) (R : VK) (xs : List α) (ys : List β) : Prop := ∀ pt p1 p2 Kn H, S K F Kn0 [] ow [] Kn H → F pt = none → F p1 = none → F p2 = none → PairAt K Kn H pt p1 p2 xs ys → R (.ref pt) H
end
section
variable {K : Fg} {F F' Kn0 Kn1 : Hp} {sl sl' : List Sl} {ow ow0 ow1 : List Ow} {α β γ τ : Type} [Rp α] [Rp β] [Rp γ] [Tp τ] {ta : TA} {te : TE} {t : τ} {E : XK} {D : Ends} {i j k1 k2 : Nat} {p p1 p2 : Addr} {xs : List α} {ys : List β}
theorem RNP.base {R : VK} (q : RNP K F Kn0 ow R xs ys) (b : Bs F Kn0 Kn1) : RNP K F Kn1 ow R xs ys := fun pt p1 p2 Kn H s => q pt p1 p2 Kn H (s.unbase b)
theorem RNP.fr {R : VK} (f : Fle F F') (q : RNP K F Kn0 ow0 R xs ys) : RNP K F' Kn0 ow0 R xs ys := fun pt p1 p2 Kn H s h1 h2 h3 h4 => q pt p1 p2 Kn H (s.back f) (fresh_back f h1) (fresh_back f h2) (fresh_back f h3) h4
theorem rnp_of {H Kn : Hp} {Q : VK} (q : RP K Kn H Q xs ys) : RNP K H Kn [] Q xs ys := fun pt p1 p2 Kn' H' s h1 h2 h3 h4 => q pt p1 p2 Kn' H' ⟨s.e0, s.ef, s.ek, s.sep⟩ h1 h2 h3 h4
theorem ep_call {f : τ → Option (List α × List β × Unit)} {r : List α × List β × Unit} (h : EA K F Kn0 sl ow ta t) (hf : f t = some r) : EP K F Kn0 sl ow (tCall (PP K f) [] E ta) r.1 r.2.1 := fun σ Kn H s Q q =>
  h σ Kn H s _ fun vs Kn1 H1 g1 r1 => by
    show PP K f (vs ++ []) H1 Q E
    rw [List.append_nil]
    exact ⟨Kn1, t, r, g1.kh, r1, hf, fun pt p1 p2 Kn' H' g' h1 h2 h3 h4 => q pt p1 p2 Kn' H' (g1.trans g') (fresh_back g1.hh h1) (fresh_back g1.hh h2) (fresh_back g1.hh h3) h4⟩
theorem EP.ev (h : EP K F Kn0 sl ow te xs ys) : EV K F Kn0 sl ow te (xs, ys, ()) := fun σ Kn H s Q q => h σ Kn H s Q fun pt p1 p2 Kn' H' g f0 f1 f2 a => by
  obtain ⟨kt, k1, k2, ne, ht, ⟨w1, e1, r1⟩, ⟨w2, e2, r2⟩⟩ := a
  have n1 : pt ≠ p1 := fun z => by rw [z, e1] at ht; cases ht
  have n2 : pt ≠ p2 := fun z => by rw [z, e2] at ht; cases ht
  have ga := g.know f1 k1 e1
  have kb : upd Kn' p1 (.lst w1) p2 = none := by rw [upd_ne (Ne.symm ne)]; exact k2
  have gb := ga.know f2 kb e2
  have kc : upd (upd Kn' p1 (.lst w1)) p2 (.lst w2) pt = none := by rw [upd_ne n2, upd_ne n1]; exact kt
  have gc := gb.know f0 kc ht
  have x1 : Ex Kn' (upd Kn' p1 (.lst w1)) := Ex.new k1
  have x2 : Ex (upd Kn' p1 (.lst w1)) (upd (upd Kn' p1 (.lst w1)) p2 (.lst w2)) := Ex.new kb
  have x3 := Ex.new (o := .tup [.ref p1, .ref p2]) kc
  have x := (x1.trans x2).trans x3
  refine q _ _ H' gc ⟨pt, _, rfl, upd_same, .ref p1, _, rfl, ⟨p1, w1, rfl, ?_, paired_mono x r1⟩, .ref p2, _, rfl, ⟨p2, w2, rfl, ?_, paired_mono x r2⟩, rfl⟩
  · exact x3 _ _ (x2 _ _ upd_same)
  · exact x3 _ _ upd_same
theorem EP.cast {xs' : List α} {ys' : List β} (h : EP K F Kn0 sl ow te xs ys) (e1 : xs = xs') (e2 : ys = ys') : EP K F Kn0 sl ow te xs' ys' := e1 ▸ e2 ▸ h
/-- a, b = f(..), both one's own -/
theorem sb_unpP {sl' : Addr → Addr → List Sl} (hs : ∀ p1 p2, (sl.set i (.at p1)).set j (.at p2) = sl' p1 p2) (h : EP K F Kn0 sl ow te xs ys) (k : ∀ p1 p2, SN K F Kn0 (sl' p1 p2) (ol p1 xs :: ol p2 ys :: ow) D) :
    SB K F Kn0 sl ow D (tAsg te (gTup K 2 (gCons (gName i) (gCons (gName j) gNil)))) := fun σ Kn H s => h σ Kn H s _ fun pt p1 p2 Kn' H' g f0 f1 f2 a => by
  obtain ⟨kt, k1, k2, ne, ht, ⟨w1, e1, r1⟩, ⟨w2, e2, r2⟩⟩ := a
  have s1 := s.grow g
  have s2 := s1.own (fresh_back s.ef f2) k2 (owned_ne s f2) e2 r2
  have s3 := s2.own (p := p1) (fresh_back s.ef f1) k1 (fun o ho z => by
    rcases List.mem_cons.mp ho with rfl | ho
    · exact ne z.symm
    · exact owned_ne s f1 o ho z) e1 r1
  exact ⟨pt, _, rfl, st_of ht, rfl, .ref p1, _, rfl, .ref p2, _, rfl, rfl, k p1 p2 _ Kn' H' (hs p1 p2 ▸ (s3.seta (p := p1) i).seta (p := p2) j)⟩
/-- return (a, b), both one's own -/
theorem sb_retP {R : VK} (hi : sl[i]? = some (.at p1)) (hj : sl[j]? = some (.at p2)) (h1 : ow[k1]? = some (ol p1 xs)) (h2 : ow[k2]? = some (ol p2 ys)) (hk : k1 ≠ k2) (q : RNP K F Kn0 ow0 R xs ys) (l : ow0.Sublist ow) (hR : D.rt = R := by rfl) :
    SB K F Kn0 sl ow D (tRet (tTup (tCons (tVar i) (tCons (tVar j) tNil)))) := fun σ Kn H s => by
  subst hR
  obtain ⟨o1, a1, a2⟩ := s.sl.get hi
  obtain ⟨o2, b1, b2⟩ := s.sl.get hj
  obtain ⟨f1, f2, w1, f3, f4⟩ := s.ow.each _ (List.mem_of_getElem? h1)
  obtain ⟨g1, g2, w2, g3, g4⟩ := s.ow.each _ (List.mem_of_getElem? h2)
  have f1 : F p1 = none := f1
  have f2 : Kn p1 = none := f2
  have g1 : F p2 = none := g1
  have g2 : Kn p2 = none := g2
  have ne : p1 ≠ p2 := fun z => hk (ow_at s.ow.nd h1 h2 z)
  refine ⟨.ref p1, by rw [a1]; exact congrArg some a2, .ref p2, by rw [b1]; exact congrArg some b2, by show 2 ≤ sizeLine; exact le_line (by decide), fun pt hp => ?_⟩
  have g : Gr Kn H Kn (upd H pt (.tup [.ref p1, .ref p2])) := Gr.newU s.ek hp
  exact q pt p1 p2 Kn _ ((s.grow g).sub l).fin (fresh_back s.ef hp) f1 g1 ⟨fresh_back s.ek hp, f2, g2, ne, upd_same, ⟨w1, g.hh _ _ f3, f4⟩, ⟨w2, g.hh _ _ g3, g4⟩⟩
/-- [.. for x in xs], xs one's own -/
theorem en_lcO {xs : List β} {zs : List γ} {c : β → Option Bool} {f : β → Option γ} {g : TG} {js vs : List Nat} {tt : TT} (hi : sl[i]? = some (.at p)) (hjw : ow[j]? = some (ol p xs)) (gx : β → List Sl) (hm : lcM c f xs = some zs) (hv : ∀ j ∈ vs, sl[j]? = some .any) (hg : ∀ x, GT K g sl (gx x) js x) (hj : ∀ j ∈ js, j ∈ vs)
    (ht : ∀ p (acc : List γ) x b, c x = some b → ET K F Kn0 (gx x) (ol p acc :: ow) tt b) (he : ∀ p (acc : List γ) x z, c x = some true → f x = some z → EV K F Kn0 (gx x) (ol p acc :: ow) te z) :
    EN K F Kn0 sl ow (tLc (iList K (tVar i)) g tt te vs) zs := fun σ Kn H s Q q => by
  unfold lcM at hm
  split at hm
  case isFalse => cases hm
  rename_i hlen
  obtain ⟨o1, a1, a2⟩ := s.sl.get hi
  obtain ⟨b1, b2, w0, b3, b4⟩ := s.ow.each _ (List.mem_of_getElem? hjw)
  refine ⟨.ref p, by rw [a1]; exact congrArg some a2, p, rfl, ⟨w0, sq_of b3⟩, fun D hD => ?_⟩
  have kD : Kn D = none := fresh_back s.ek hD
  have fD : F D = none := fresh_back s.ef hD
  have W : ∀ i Kn' H', Gr Kn H Kn' H' → (∀ x, xs[i]? = some x → (Itl K p).go i H' ∧ ∀ v H2, (Itl K p).yld i H' v H2 → ∃ Kn2, Gr Kn' H' Kn2 H2 ∧ rep K Kn2 v x) ∧ (xs.length ≤ i → (Itl K p).stop i H') := fun i Kn' H' gr => by
    have hq : SqL K H' p w0 := sq_of (gr.hh _ _ b3)
    refine ⟨fun x hx => ?_, fun hl => ⟨w0, hq, by rw [paired_len b4]; exact hl⟩⟩
    obtain ⟨v, hv, rv⟩ := paired_at b4 hx
    refine ⟨⟨w0, v, hq, hv⟩, fun u H2 hy => ?_⟩
    obtain ⟨rfl, f⟩ := hy
    have : v = u := Option.some.inj (hv.symm.trans (f w0 hq))
    subst this
    exact ⟨Kn', Gr.refl gr.kh, Rp.mono gr.kk rv⟩
  refine ⟨fun i m H' => i + m = xs.length ∧ ∃ Kn' ws acc rest, Gr Kn H Kn' H' ∧ Kn' D = none ∧ H' D = some (.lst ws) ∧ Paired (rep K Kn') ws acc ∧ acc.length ≤ i ∧ lcGo c f (xs.drop i) = some rest ∧ acc ++ rest = zs,
    ⟨xs.length, by omega, Kn, [], [], zs, (Gr.newU s.ek hD), kD, upd_same, .nil, Nat.le_refl _, hm, rfl⟩, fun i m H' hW => ?_⟩
  obtain ⟨em, Kn', ws, acc, rest, gr, kD', hD', rp, hal, hrest, hz⟩ := hW
  have s' : S K F Kn0 sl (ol D acc :: ow) σ Kn' H' := (s.grow gr).own fD kD' (owned_ne s hD) hD' rp
  by_cases hlt : i < xs.length
  · have hx : xs[i]? = some xs[i] := List.getElem?_eq_getElem hlt
    have hd : xs.drop i = xs[i] :: xs.drop (i + 1) := List.drop_eq_getElem_cons hlt
    rw [hd] at hrest
    obtain ⟨b, hb, hrest⟩ := bind_some hrest
    obtain ⟨go, yl⟩ := (W i Kn' H' gr).1 _ hx
    refine .inr ⟨go, fun H'' => ∃ Kn' ws acc rest, Gr Kn H Kn' H'' ∧ Kn' D = none ∧ H'' D = some (.lst ws) ∧ Paired (rep K Kn') ws acc ∧ acc.length ≤ i + 1 ∧ lcGo c f (xs.drop (i + 1)) = some rest ∧ acc ++ rest = zs, fun H'' h => ⟨m - 1, by omega, by omega, h⟩, fun v H2 hy => ?_⟩
    obtain ⟨Kn2, g2, rv⟩ := yl v H2 hy
    have s2 := (s'.grow g2).wipe hv
    refine hg _ _ Kn2 H2 v s2.sl s2.ek rv _ fun σ3 h3 hw3 => ?_
    have s3 := s2.slots h3
    have hDn : H' D ≠ none := ne_none_of hD'
    refine ⟨(hw3 vs hj).trans ?_, ht D acc _ b hb σ3 Kn2 H2 s3 _ fun Kn3 H3 g3 => ?_⟩
    · have ww : ∀ (vs us : List Nat) (σ : L2.St), (∀ j ∈ vs, j ∈ us) → L2.wipe (L2.wipe σ vs) us = L2.wipe σ us := by
        intro vs
        induction vs with
        | nil => intro us σ _; rfl
        | cons a r ih =>
          intro us σ hh
          show L2.wipe ((L2.wipe σ r).set a none) us = L2.wipe σ us
          rw [wipe_set (hh a List.mem_cons_self)]
          exact ih us σ fun j hj => hh j (List.mem_cons_of_mem _ hj)
      exact ww vs vs σ fun _ h => h
    · have g123 : Gr Kn H Kn3 H3 := (gr.trans g2).trans g3
      have kD3 : Kn3 D = none := (g2.trans g3).sp D hDn kD'
      have hD3 : H3 D = some (.lst ws) := (g2.trans g3).hh _ _ hD'
      cases b with
      | true =>
        obtain ⟨z, hfz, hrest⟩ := bind_some (show (f xs[i]).bind _ = some rest from hrest)
        obtain ⟨zs', hzs, hrest⟩ := bind_some hrest
        cases hrest
        refine iteT (he D acc _ z hb hfz σ3 Kn3 H3 (s3.grow g3) _ fun y Kn4 H4 g4 ry => ?_)
        have g234 := (g2.trans g3).trans g4
        have kD4 : Kn4 D = none := g4.sp D (ne_none_of hD3) kD3
        refine ⟨ws, g4.hh _ _ hD3, by rw [paired_len rp]; exact lt_line (by omega), Kn4, ws ++ [y], acc ++ [z], zs', (gr.trans g234).mut hD kD4, kD4, upd_same, paired_append (paired_mono g234.kk rp) (.cons ry .nil), ?_, hzs, ?_⟩
        · rw [List.length_append, List.length_singleton]; omega
        · rw [List.append_assoc]; exact hz
      | false =>
        have hrest : lcGo c f (xs.drop (i + 1)) = some rest := hrest
        exact iteF ⟨Kn3, ws, acc, rest, g123, kD3, hD3, paired_mono (g2.trans g3).kk rp, by omega, hrest, hz⟩
  · have hd : xs.drop i = [] := List.drop_eq_nil_of_le (by omega)
    rw [hd] at hrest
    cases hrest
    rw [List.append_nil] at hz
    subst hz
    exact .inl ⟨(W i Kn' H' gr).2 (by omega), q D ws Kn' H' gr hD kD' hD' rp⟩
end
end Wk
/-! Wdict: a dict walked (it is locked on the way), its values and pairs; a def that tells a new dict; dict(d); dicts alike -/
namespace L2
open PySem PySem.Spec PyProof.Rows
/-- lock it, or it is locked already -/
def tLk (t : TS) : TS := fun D σ H => tLock t D σ H ∨ t D σ H
def tLkE (t : TE) : TE := fun σ H Q => tLockE t σ H Q ∨ t σ H Q
theorem ps_lk {X : Cx} {st : Stmt} {t : TS} (h : PS X st t) : PS X st (tLk t) := by
  refine ⟨fun pins s σ H D I hw => ?_⟩
  rcases hw with hw | hw
  · exact (ps_lock h).run pins s σ H D I hw
  · exact h.run pins s σ H D I hw
theorem pe_lk {X : Cx} {e : Expr} {t : TE} (h : PE X e t) : PE X e (tLkE t) := by
  refine ⟨fun pins s σ H Q I hw => ?_⟩
  rcases hw with hw | hw
  · exact (pe_lock h).run pins s σ H Q I hw
  · exact h.run pins s σ H Q I hw
section
variable {X : Cx}
def rEqDR (r : Bool) : R2 := fun x y H Q => ∃ a b ks ls, x = .ref a ∧ y = .ref b ∧ Rd H a (.dK ks) ∧ Rd H b (.dK ls) ∧ ks.length = ls.length ∧ (∀ p ∈ ks, valV ls p.1 = some p.2 ∧ flatB p.2 = true) ∧ Q (.bl r) H
theorem op_eq_dictR (hu : X.A.units + 64 < cLine) : OpR X (compareOp .Eq) (rEqDR true) := by
  intro pins s σ H x y v u Q I rx ry h
  obtain ⟨a, b, ks, ls, rfl, rfl, ea, eb, hlen, hp, q⟩ := h
  obtain rfl : v = Value.ref a := rx
  obtain rfl : u = Value.ref b := ry
  obtain ⟨_, ya, va, ra, da⟩ := dk_rd I.hok ea
  obtain ⟨_, yb, vb, rb, db⟩ := dk_rd I.hok eb
  have hl : va.length = vb.length := by rw [← ra.length, ← rb.length]; exact hlen
  exact PySem.W.keq_eq (knd := mixKind X.prog X.w) (r := true) ya yb da db (by omega) (fun _ => hits_all rb ra hp) (fin_bl I q (by simp [hl]))
theorem op_ne_dictR (hu : X.A.units + 64 < cLine) : OpR X (compareOp .NotEq) (rEqDR false) := by
  intro pins s σ H x y v u Q I rx ry h
  obtain ⟨a, b, ks, ls, rfl, rfl, ea, eb, hlen, hp, q⟩ := h
  obtain rfl : v = Value.ref a := rx
  obtain rfl : u = Value.ref b := ry
  obtain ⟨_, ya, va, ra, da⟩ := dk_rd I.hok ea
  obtain ⟨_, yb, vb, rb, db⟩ := dk_rd I.hok eb
  have hl : va.length = vb.length := by rw [← ra.length, ← rb.length]; exact hlen
  exact PySem.W.keq_ne (knd := mixKind X.prog X.w) (r := true) ya yb da db (by omega) (fun _ => hits_all rb ra hp) (fin_bl I q (by simp [hl]))
end
end L2
namespace Wk
open PySem PySem.Spec L2 Evl
/-- where it may be walked, and how its results go back -/
structure Mv (K : Fg) (F Kn0 : Hp) (R : VK) (F' Kn1 : Hp) (R' : VK) : Prop where
  fn : ∀ q, F' q = none → F q = none
  st : ∀ sl ow σ Kn H, S K F' Kn1 sl ow σ Kn H → ∃ Kn' H', S K F Kn0 sl ow σ Kn' H' ∧ (∀ v, R v H' → R' v H) ∧ Sw Kn Kn' ∧ ∀ q, Kn q = none → Kn' q = none ∧ H' q = H q
section
variable {K : Fg} {F Kn0 F' Kn1 : Hp} {R R' : VK} {ow0 : List Ow} {α β : Type} [Rp α] [Rp β]
theorem RT.mv {x : α} (q : RT K F Kn0 ow0 R x) (m : Mv K F Kn0 R F' Kn1 R') : RT K F' Kn1 ow0 R' x := fun v Kn H s r => by
  obtain ⟨Kn', H', s', h1, h2, h3⟩ := m.st _ _ _ _ _ s
  exact h1 v (q v Kn' H' s' (Rp.swap h2 r))
theorem RN.mv {xs : List α} (q : RN K F Kn0 ow0 R xs) (m : Mv K F Kn0 R F' Kn1 R') : RN K F' Kn1 ow0 R' xs := fun p ws Kn H s fp kp hp r => by
  obtain ⟨Kn', H', s', h1, h2, h3⟩ := m.st _ _ _ _ _ s
  exact h1 _ (q p ws Kn' H' s' (m.fn p fp) (h3 p kp).1 ((h3 p kp).2.trans hp) (paired_swap h2 r))
theorem RNP.mv {xs : List α} {ys : List β} (q : RNP K F Kn0 ow0 R xs ys) (m : Mv K F Kn0 R F' Kn1 R') : RNP K F' Kn1 ow0 R' xs ys := fun pt p1 p2 Kn H s f0 f1 f2 a => by
  obtain ⟨Kn', H', s', h1, h2, h3⟩ := m.st _ _ _ _ _ s
  obtain ⟨kt, k1, k2, ne, ht, ⟨w1, e1, r1⟩, ⟨w2, e2, r2⟩⟩ := a
  exact h1 _ (q pt p1 p2 Kn' H' s' (m.fn _ f0) (m.fn _ f1) (m.fn _ f2) ⟨(h3 _ kt).1, (h3 _ k1).1, (h3 _ k2).1, ne, (h3 _ kt).2.trans ht, ⟨w1, (h3 _ k1).2.trans e1, paired_swap h2 r1⟩, ⟨w2, (h3 _ k2).2.trans e2, paired_swap h2 r2⟩⟩)
end
def lk (F : Hp) (p : Addr) (o : HO) : Hp := fun q => if q = p then (if F p = none then none else some o) else F q
theorem lk_ne {F : Hp} {p q : Addr} {o : HO} (h : q ≠ p) : lk F p o q = F q := if_neg h
theorem lk_none {F : Hp} {p q : Addr} {o : HO} : lk F p o q = none ↔ F q = none := by
  by_cases h : q = p
  · subst h
    unfold lk
    rw [if_pos rfl]
    constructor
    · intro h
      split at h
      · assumption
      · cases h
    · intro h
      rw [if_pos h]
  · rw [lk_ne h]
section
variable {K : Fg} {F Kn0 : Hp} {sl sl' : List Sl} {ow ow1 : List Ow} {σ : L2.St} {Kn H Kn1 Kn2 H2 : Hp} {p : Addr} {u : HO} {od : Obj}
theorem sw_lock (hu : isDk u) (hk : Kn p = some u) : Sw Kn (upd Kn p (.frz od u)) := fun q w h => by
  by_cases e : q = p
  · subst e
    rw [hk] at h
    cases h
    exact .inr ⟨od, u, hu, .inl ⟨rfl, upd_same⟩⟩
  · exact .inl (by rw [upd_ne e]; exact h)
theorem sw_unlock (hu : isDk u) (hk : Kn p = some (.frz od u)) : Sw Kn (upd Kn p u) := fun q w h => by
  by_cases e : q = p
  · subst e
    rw [hk] at h
    cases h
    exact .inr ⟨od, u, hu, .inr ⟨rfl, upd_same⟩⟩
  · exact .inl (by rw [upd_ne e]; exact h)
theorem S.lock (s : S K F Kn0 sl ow σ Kn H) (hu : isDk u) (hk : Kn p = some u) : S K (lk F p (.frz od u)) (upd Kn p (.frz od u)) sl ow σ (upd Kn p (.frz od u)) (upd H p (.frz od u)) := by
  refine ⟨Ex.refl _, fun a w h => ?_, fun a w h => ?_, fun _ _ h => h, s.sl.swap (sw_lock hu hk), ⟨fun o ho => ?_, s.ow.nd⟩⟩
  · by_cases e : a = p
    · subst e
      rw [upd_same] at h ⊢
      exact h
    · rw [upd_ne e] at h ⊢
      exact s.ek _ _ h
  · by_cases e : a = p
    · subst e
      unfold lk at h
      rw [if_pos rfl] at h
      split at h
      · cases h
      · rw [upd_same]
        exact h
    · rw [lk_ne e] at h
      rw [upd_ne e]
      exact s.ef _ _ h
  · obtain ⟨h1, h2, h3⟩ := s.ow.each o ho
    have hne : o.ad ≠ p := fun z => by rw [z, hk] at h2; cases h2
    exact ⟨lk_none.mpr h1, by rw [upd_ne hne]; exact h2, Ow.ok_swap (sw_lock hu hk) (upd_ne hne) h3⟩
theorem S.unlock (hu : isDk u) (hk : Kn p = some u) (hF : ∀ o, F p = some o → o = u) (s : S K (lk F p (.frz od u)) (upd Kn p (.frz od u)) sl ow σ Kn2 H2) : S K F Kn sl ow σ (upd Kn2 p u) (upd H2 p u) := by
  have hp : Kn2 p = some (.frz od u) := s.e0 _ _ upd_same
  refine ⟨fun a w h => ?_, fun a w h => ?_, fun a w h => ?_, fun a h1 h2 => ?_, s.sl.swap (sw_unlock hu hp), ⟨fun o ho => ?_, s.ow.nd⟩⟩
  · by_cases e : a = p
    · subst e
      rw [upd_same, ← hk]
      exact h
    · rw [upd_ne e]
      exact s.e0 _ _ (by rw [upd_ne e]; exact h)
  · by_cases e : a = p
    · subst e
      rw [upd_same] at h ⊢
      exact h
    · rw [upd_ne e] at h ⊢
      exact s.ek _ _ h
  · by_cases e : a = p
    · subst e
      rw [hF _ h, upd_same]
    · rw [upd_ne e]
      exact s.ef _ _ (by rw [lk_ne e]; exact h)
  · have e : a ≠ p := fun z => by rw [z, hk] at h2; cases h2
    rw [upd_ne e]
    exact s.sep a (fun z => h1 (lk_none.mp z)) (by rw [upd_ne e]; exact h2)
  · obtain ⟨h1, h2, h3⟩ := s.ow.each o ho
    have hne : o.ad ≠ p := fun z => by rw [z, hp] at h2; cases h2
    exact ⟨lk_none.mp h1, by rw [upd_ne hne]; exact h2, Ow.ok_swap (sw_unlock hu hp) (upd_ne hne) h3⟩
theorem mv_lock {R : VK} (b : Bs F Kn0 Kn) (hu : isDk u) (hk : Kn p = some u) (hF : ∀ o, F p = some o → o = u) (b2 : Bs (lk F p (.frz od u)) (upd Kn p (.frz od u)) Kn1) : Mv K F Kn0 R (lk F p (.frz od u)) Kn1 (fun v H' => H' p = some (.frz od u) ∧ R v (upd H' p u)) := by
  refine ⟨fun q h => lk_none.mp h, fun sl ow σ Kn2 H2 s => ?_⟩
  have s2 := s.unbase b2
  have hp : Kn2 p = some (.frz od u) := s2.e0 _ _ upd_same
  refine ⟨_, _, (S.unlock hu hk hF s2).unbase b, fun v h => ⟨s.ek _ _ hp, h⟩, sw_unlock hu hp, fun q h => ?_⟩
  have e : q ≠ p := fun z => by rw [z, hp] at h; cases h
  rw [upd_ne e, upd_ne e]
  exact ⟨h, rfl⟩
theorem mv_base {R : VK} (b : Bs F Kn0 Kn1) : Mv K F Kn0 R F Kn1 R :=
  ⟨fun _ h => h, fun sl ow σ Kn H s => ⟨Kn, H, s.unbase b, fun _ h => h, fun q u h => .inl h, fun q h => ⟨h, rfl⟩⟩⟩
end
/-! ### what is walked of a dict -/
class KB (κ : Type) [Rp κ] [K1 κ] : Prop where
  back : ∀ {K : Fg} {H : Hp} (a : κ), rep K H (kV (K1.key a)) a
instance : KB Int := ⟨fun _ => rfl⟩
instance : KB Str := ⟨fun _ => rfl⟩
section
variable {κ β γ : Type} [Rp κ] [K1 κ] [KB κ] [Rp β] [Rp γ] {K : Fg} {F Kn0 : Hp} {sl sl' : List Sl} {ow ow1 : List Ow} {σ : L2.St} {Kn H Kn1 : Hp} {p : Addr} {i : Nat}
structure DIt (K : Fg) (i : Nat) (d : Dc κ β) {γ : Type} [Rp γ] (wi : TI) (J : Addr → Obj → List (Key × V) → It) (xs : List γ) : Prop where
  w : ∀ (σ : L2.St) (H : Hp) (R : It → Hp → Prop) (p : Addr) (od : Obj) (ws : List (Key × V)), σ[i]? = some (some (.ref p)) → H p = some (.frz od (.dK ws)) → R (J p od ws) H → wi σ H R
  k : ∀ {Kn : Hp} {p : Addr} {od : Obj} {ws : List (Key × V)}, Kn p = some (.frz od (.dK ws)) → DK K Kn ws d.l → WK K Kn (J p od ws) xs
theorem dk_at {ws : List (Key × V)} {kvs : List (κ × β)} (h : DK K Kn ws kvs) {n : Nat} {y : κ × β} (e : kvs[n]? = some y) : ∃ v, ws[n]? = some (K1.key y.1, v) ∧ rep K Kn v y.2 := by
  unfold DK at h
  induction h generalizing n with
  | nil => cases e
  | @cons w kv ws kvs q t ih =>
    cases n with
    | zero =>
      cases e
      exact ⟨w.2, by rw [List.getElem?_cons_zero]; exact congrArg some (Prod.ext q.1 rfl), q.2⟩
    | succ n =>
      obtain ⟨v, h1, h2⟩ := ih (n := n) e
      exact ⟨v, h1, h2⟩
theorem dit_keys {d : Dc κ β} : DIt K i d (iKeys (tVar i)) Itk (d.l.map (·.1)) := by
  refine ⟨fun σ H R p od ws h1 h2 h3 => ⟨.ref p, h1, p, od, rfl, .inl ⟨ws, h2, h3⟩⟩, fun {Kn p od ws} h1 h2 i Kn' H' e1 e2 => ⟨fun x hx => ?_, fun hl => ⟨e2 _ _ (e1 _ _ h1), ?_⟩⟩⟩
  · rw [List.getElem?_map] at hx
    obtain ⟨y, hy, rfl⟩ := Option.map_eq_some_iff.mp hx
    obtain ⟨v, hv, rv⟩ := dk_at h2 hy
    refine ⟨⟨e2 _ _ (e1 _ _ h1), (List.getElem?_eq_some_iff.mp hv).1⟩, fun u H2 hh => ?_⟩
    obtain ⟨rfl, k, v2, e, rfl⟩ := hh
    rw [hv] at e
    cases e
    exact ⟨Kn', Gr.refl e2, KB.back _⟩
  · have := h2.length
    rw [List.length_map] at hl
    omega
theorem dit_vals {d : Dc κ β} : DIt K i d (iVals (tVar i)) Itd (d.l.map (·.2)) := by
  refine ⟨fun σ H R p od ws h1 h2 h3 => ⟨.ref p, h1, p, od, ws, rfl, h2, h3⟩, fun {Kn p od ws} h1 h2 i Kn' H' e1 e2 => ⟨fun x hx => ?_, fun hl => ⟨e2 _ _ (e1 _ _ h1), ?_⟩⟩⟩
  · rw [List.getElem?_map] at hx
    obtain ⟨y, hy, rfl⟩ := Option.map_eq_some_iff.mp hx
    obtain ⟨v, hv, rv⟩ := dk_at h2 hy
    refine ⟨⟨e2 _ _ (e1 _ _ h1), (List.getElem?_eq_some_iff.mp hv).1⟩, fun u H2 hh => ?_⟩
    obtain ⟨rfl, k, e⟩ := hh
    rw [hv] at e
    cases e
    exact ⟨Kn', Gr.refl e2, Rp.mono e1 rv⟩
  · have := h2.length
    rw [List.length_map] at hl
    omega
def itemsD {κ β : Type} (d : Dc κ β) : List (κ × β × Unit) := d.l.map fun kv => (kv.1, kv.2, ())
theorem dit_items {d : Dc κ β} : DIt K i d (iItems (tVar i)) Iti (itemsD d) := by
  unfold itemsD
  refine ⟨fun σ H R p od ws h1 h2 h3 => ⟨.ref p, h1, p, od, ws, rfl, h2, h3⟩, fun {Kn p od ws} h1 h2 i Kn' H' e1 e2 => ⟨fun x hx => ?_, fun hl => ⟨e2 _ _ (e1 _ _ h1), ?_⟩⟩⟩
  · rw [List.getElem?_map] at hx
    obtain ⟨y, hy, rfl⟩ := Option.map_eq_some_iff.mp hx
    obtain ⟨v, hv, rv⟩ := dk_at h2 hy
    refine ⟨⟨e2 _ _ (e1 _ _ h1), (List.getElem?_eq_some_iff.mp hv).1⟩, fun u H2 hh => ?_⟩
    obtain ⟨T, k, v2, e, rfl, hT, rfl⟩ := hh
    rw [hv] at e
    cases e
    have g : Gr Kn' H' (upd Kn' T (.tup [kV (K1.key y.1), v])) (upd H' T (.tup [kV (K1.key y.1), v])) := Gr.new e2 hT
    exact ⟨_, g, T, _, rfl, upd_same, _, _, rfl, KB.back _, v, [], rfl, Rp.mono (e1.trans g.kk) rv, rfl⟩
  · have := h2.length
    rw [List.length_map] at hl
    omega
theorem DIt.it {d : Dc κ β} {wi : TI} {J : Addr → Obj → List (Key × V) → It} {xs : List γ} (h : DIt K i d wi J xs) {od : Obj} {ws : List (Key × V)} (hk : Kn1 p = some (.frz od (.dK ws))) (r : DK K Kn1 ws d.l) : IT K F Kn1 sl ow (fun σ H R => R (J p od ws) H) xs := fun σ Kn H s R q =>
  q _ Kn H (Gr.refl s.ek) (h.k (s.e0 _ _ hk) (DK.mono s.e0 r))
/-- for x in d, d.values(), d.items() -/
theorem sb_forD {g : TG} {tb : TS} {Sx : Type} {d : Dc κ β} {wi : TI} {J : Addr → Obj → List (Key × V) → It} {xs : List γ} {D : Ends} (hd : DIt K i d wi J xs) (hi : sl[i]? = some (sv d))
    (slx : Sx → List Sl) (owx : Sx → List Ow) (gx : γ → Sx → List Sl) (js : List Nat) (P : List γ → Sx → Prop) (s0 : Sx) (h0 : P xs s0) (le : SlLe sl (slx s0)) (eo : (owx s0).Sublist ow)
    (hg : ∀ x s, GT K g (slx s) (gx x s) js x)
    (step : ∀ F' Kn1 R', Mv K F Kn0 D.rt F' Kn1 R' → ∀ bk x rest s, P (x :: rest) s → ∀ N : L2.St → Hp → Prop, (∀ s', P rest s' → ∀ σ Kn H, S K F' Kn1 (slx s') (owx s') σ Kn H → N σ H) → SB K F' Kn1 (gx x s) (owx s) ⟨N, R', bk, N⟩ tb)
    (done : ∀ s, P [] s → SN K F Kn0 (slx s) (owx s) D) : SB K F Kn0 sl ow D (tLk (tFor wi g tb)) := fun σ Kn H s => by
  obtain ⟨o, h1, v, h2, hv⟩ := s.sl.get hi
  obtain ⟨p, ws, rfl, h3, h4⟩ := hv
  have h3 : Rd Kn p (.dK ws) := h3
  have hσ : σ[i]? = some (some (.ref p)) := by rw [h1, h2]
  rcases h3 with h3 | ⟨od, h3⟩
  · refine .inl ⟨p, .dK ws, s.ek _ _ h3, trivial, fun od => ?_⟩
    have hF : ∀ o, F p = some o → o = .dK ws := fun o e => by
      have e1 := s.ef _ _ e
      rw [s.ek _ _ h3] at e1
      exact (Option.some.inj e1).symm
    have s1 := s.lock (u := .dK ws) (od := od) trivial h3
    refine hd.w σ _ _ p od ws hσ upd_same ?_
    have sw : Sw Kn (upd Kn p (.frz od (.dK ws))) := sw_lock (u := .dK ws) trivial h3
    exact sb_for (wi := fun σ H R => R (J p od ws) H) slx owx gx js P s0 (IT.m (hd.it upd_same (DK.swap sw h4))) h0 le eo hg
      (fun Kn1 b x rest st hP N hN => step _ Kn1 _ (mv_lock (u := .dK ws) s.bs trivial h3 hF b) _ x rest st hP N hN)
      (fun st hP σ2 Kn2 H2 s2 => show _ ∧ _ from ⟨s2.ek _ _ (s2.e0 _ _ upd_same), done st hP σ2 _ _ ((S.unlock (u := .dK ws) trivial h3 hF s2).unbase s.bs)⟩) σ _ _ s1
  · refine .inr (hd.w σ _ _ p od ws hσ (s.ek _ _ h3) ?_)
    exact sb_for (wi := fun σ H R => R (J p od ws) H) slx owx gx js P s0 (IT.m (hd.it h3 h4)) h0 le eo hg
      (fun Kn1 b x rest st hP N hN => step F Kn1 D.rt (mv_base ⟨s.e0.trans b.e, fun q h1 h2 => b.sp q h1 (s.sep q h1 h2)⟩) _ x rest st hP N hN)
      (fun st hP => (done st hP).base s.bs) σ Kn H s.rebase
/-- [.. for x in d] -/
theorem en_lcD {d : Dc κ β} {wi : TI} {J : Addr → Obj → List (Key × V) → It} {xs : List γ} {α : Type} [Rp α] {zs : List α} {c : γ → Option Bool} {f : γ → Option α} {g : TG} {tt : TT} {te : TE} {js vs : List Nat} (hd : DIt K i d wi J xs) (hi : sl[i]? = some (sv d)) (gx : γ → List Sl) (hm : lcM c f xs = some zs) (hv : ∀ j ∈ vs, sl[j]? = some .any) (hg : ∀ x, GT K g sl (gx x) js x) (hj : ∀ j ∈ js, j ∈ vs)
    (ht : ∀ F' Kn1 p (acc : List α) x b, c x = some b → ET K F' Kn1 (gx x) (ol p acc :: ow) tt b) (he : ∀ F' Kn1 p (acc : List α) x z, c x = some true → f x = some z → EV K F' Kn1 (gx x) (ol p acc :: ow) te z) :
    EN K F Kn0 sl ow (tLkE (tLc wi g tt te vs)) zs := fun σ Kn H s Q q => by
  obtain ⟨o, h1, v, h2, hv2⟩ := s.sl.get hi
  obtain ⟨p, ws, rfl, h3, h4⟩ := hv2
  have h3 : Rd Kn p (.dK ws) := h3
  have hσ : σ[i]? = some (some (.ref p)) := by rw [h1, h2]
  rcases h3 with h3 | ⟨od, h3⟩
  · refine .inl ⟨p, .dK ws, s.ek _ _ h3, trivial, fun od => ?_⟩
    have s1 := s.lock (u := .dK ws) (od := od) trivial h3
    refine hd.w σ _ _ p od ws hσ upd_same ?_
    have sw : Sw Kn (upd Kn p (.frz od (.dK ws))) := sw_lock (u := .dK ws) trivial h3
    show tLc (fun σ H R => R (J p od ws) H) g tt te vs σ (upd H p (.frz od (.dK ws))) (fun v H' => H' p = some (.frz od (.dK ws)) ∧ Q v (upd H' p (.dK ws)))
    refine en_lc (wi := fun σ H R => R (J p od ws) H) gx hm (hd.it upd_same (DK.swap sw h4)) hv hg hj (ht _ _) (he _ _) σ _ _ s1 _ fun l ys Kn' H' g hl kl hw rr => ?_
    have e1 : Kn' p = some (.frz od (.dK ws)) := g.kk _ _ upd_same
    have e2 : H' p = some (.frz od (.dK ws)) := g.kh _ _ e1
    have np : l ≠ p := fun z => by rw [z, e1] at kl; cases kl
    refine ⟨e2, q l ys (upd Kn' p (.dK ws)) (upd H' p (.dK ws)) ⟨fun a u h => ?_, fun a u h => ?_, fun a u h => ?_, fun a u h => ?_⟩ ?_ ?_ ?_ (paired_swap (sw_unlock (u := .dK ws) trivial e1) rr)⟩
    · by_cases e : a = p
      · subst e
        rw [upd_same, ← h3]
        exact h
      · rw [upd_ne e]
        exact g.kk _ _ (by rw [upd_ne e]; exact h)
    · by_cases e : a = p
      · subst e
        rw [upd_same, ← s.ek _ _ h3]
        exact h
      · rw [upd_ne e]
        exact g.hh _ _ (by rw [upd_ne e]; exact h)
    · by_cases e : a = p
      · subst e
        rw [upd_same] at h ⊢
        exact h
      · rw [upd_ne e] at h ⊢
        exact g.kh _ _ h
    · have e : a ≠ p := fun z => by rw [z, h3] at h; cases h
      rw [upd_ne e]
      exact g.sp a (by rw [upd_ne e]; exact u) (by rw [upd_ne e]; exact h)
    · rw [upd_ne np] at hl
      exact hl
    · rw [upd_ne np]
      exact kl
    · rw [upd_ne np]
      exact hw
  · refine .inr (hd.w σ _ _ p od ws hσ (s.ek _ _ h3) ?_)
    show tLc (fun σ H R => R (J p od ws) H) g tt te vs σ H Q
    refine en_lc (wi := fun σ H R => R (J p od ws) H) gx hm (hd.it h3 h4) hv hg hj (ht _ _) (he _ _) σ Kn H s.rebase _ fun l ys Kn' H' g hl kl hw rr => ?_
    exact q l ys Kn' H' g hl kl hw rr
end
/-! ### a new object told -/
section
variable {α τ γ : Type} [Rp α] [Tp τ] [Ob γ]
def RG (K : Fg) (Kn H : Hp) (Q : VK) (x : γ) : Prop := ∀ p o Kn' H', Gr Kn H Kn' H' → H p = none → Kn' p = none → H' p = some o → Ob.ob K Kn' o x → Q (.ref p) H'
def EG (K : Fg) (F Kn0 : Hp) (sl : List Sl) (ow : List Ow) (te : TE) (x : γ) : Prop := ∀ σ Kn H, S K F Kn0 sl ow σ Kn H → ∀ Q : VK, RG K Kn H Q x → te σ H Q
def PG (K : Fg) (f : τ → Option γ) : Sp := fun vs H Q _ => ∃ Kn t r, Ex Kn H ∧ rept K Kn vs t ∧ f t = some r ∧ RG K Kn H Q r
def RNG (K : Fg) (F Kn0 : Hp) (ow : List Ow) (R : VK) (x : γ) : Prop := ∀ p o Kn H, S K F Kn0 [] ow [] Kn H → F p = none → Kn p = none → H p = some o → Ob.ob K Kn o x → R (.ref p) H
end
section
variable {K : Fg} {F F' Kn0 Kn1 : Hp} {sl sl' : List Sl} {ow ow0 ow1 : List Ow} {α κ β τ γ : Type} [Rp α] [Rp κ] [Ky κ] [DecidableEq κ] [Rp β] [Tp τ] [Ob γ] {ta : TA} {te : TE} {t : τ} {E : XK} {D : Ends} {i j : Nat} {p : Addr} {x : γ} {R R' : VK}
theorem RNG.base (q : RNG K F Kn0 ow R x) (b : Bs F Kn0 Kn1) : RNG K F Kn1 ow R x := fun p o Kn H s => q p o Kn H (s.unbase b)
theorem RNG.fr (f : Fle F F') (q : RNG K F Kn0 ow0 R x) : RNG K F' Kn0 ow0 R x := fun p o Kn H s h1 h2 h3 h4 => q p o Kn H (s.back f) (fresh_back f h1) h2 h3 h4
theorem RNG.mv (q : RNG K F Kn0 ow0 R x) (m : Mv K F Kn0 R F' Kn1 R') : RNG K F' Kn1 ow0 R' x := fun p o Kn H s fp kp hp r => by
  obtain ⟨Kn', H', s', h1, h2, h3⟩ := m.st _ _ _ _ _ s
  exact h1 _ (q p o Kn' H' s' (m.fn p fp) (h3 p kp).1 ((h3 p kp).2.trans hp) (Ob.swap h2 r))
theorem rng_of {H Kn : Hp} {Q : VK} (q : RG K Kn H Q x) : RNG K H Kn [] Q x := fun p o Kn' H' s h1 h2 h3 h4 => q p o Kn' H' ⟨s.e0, s.ef, s.ek, s.sep⟩ h1 h2 h3 h4
theorem eg_call {f : τ → Option γ} {r : γ} (h : EA K F Kn0 sl ow ta t) (hf : f t = some r) : EG K F Kn0 sl ow (tCall (PG K f) [] E ta) r := fun σ Kn H s Q q =>
  h σ Kn H s _ fun vs Kn1 H1 g1 r1 => by
    show PG K f (vs ++ []) H1 Q E
    rw [List.append_nil]
    exact ⟨Kn1, t, r, g1.kh, r1, hf, fun p o Kn' H' g' h1 h2 h3 h4 => q p o Kn' H' (g1.trans g') (fresh_back g1.hh h1) h2 h3 h4⟩
theorem EG.ev {d : Dc κ β} (h : EG K F Kn0 sl ow te d) : EV K F Kn0 sl ow te d := fun σ Kn H s Q q => h σ Kn H s Q fun p o Kn' H' g hp kp ho r => by
  obtain ⟨ws, rfl, r⟩ := r
  exact q _ (upd Kn' p (Ky.ho ws)) H' (g.know hp kp ho) ⟨p, ws, rfl, Rd.of upd_same, DK.mono (Ex.new kp) r⟩
theorem EG.cast {x y : γ} (h : EG K F Kn0 sl ow te x) (e : x = y) : EG K F Kn0 sl ow te y := e ▸ h
/-- x = e, one's own from now on -/
theorem sb_asgG {sl' : Addr → List Sl} (hs : ∀ p, sl.set i (.at p) = sl' p) (h : EG K F Kn0 sl ow te x) (k : ∀ p, SN K F Kn0 (sl' p) (oo p x :: ow) D) : SB K F Kn0 sl ow D (tAsg te (gName i)) := fun σ Kn H s =>
  h σ Kn H s _ fun p o Kn1 H1 g1 hp kp ho r1 => k p _ Kn1 H1 (hs p ▸ ((s.grow g1).ownG (p := p) (o := oo p x) rfl (fresh_back s.ef hp) kp (owned_ne s hp) ⟨o, ho, r1⟩).seta i)
theorem sb_retG (hi : sl[i]? = some (.at p)) (hj : ow[j]? = some (oo p x)) (q : RNG K F Kn0 ow0 R x) (l : ow0.Sublist ow) (hR : D.rt = R := by rfl) : SB K F Kn0 sl ow D (tRet (tVar i)) := fun σ Kn H s => by
  subst hR
  obtain ⟨o, h1, h2⟩ := s.sl.get hi
  obtain ⟨f1, f2, ob, f3, f4⟩ := s.ow.each _ (List.mem_of_getElem? hj)
  exact ⟨.ref p, by rw [h1]; exact congrArg some h2, q p ob Kn H (s.sub l).fin f1 f2 f3 f4⟩
theorem sb_retE (h : EG K F Kn0 sl ow te x) (q : RNG K F Kn0 ow0 R x) (l : ow0.Sublist ow) (hR : D.rt = R := by rfl) : SB K F Kn0 sl ow D (tRet te) := fun σ Kn H s => by
  subst hR
  exact h σ Kn H s _ fun p o Kn' H' g hp kp ho r => q p o Kn' H' ((s.grow g).sub l).fin (fresh_back s.ef hp) kp ho r
end
/-! ### dict(d), dicts alike, a text many times -/
section
variable {K : Fg} {F Kn0 : Hp} {sl sl' : List Sl} {ow ow1 : List Ow} {κ β : Type} [Rp κ] [K1 κ] [DecidableEq κ] [Rp β] {te : TE} {i j : Nat} {p : Addr}
abbrev rDictD : List V → Hp → VK → Prop := fun xs H Q => ∃ (a : Addr) (kvs : List (Key × V)), xs = [.ref a] ∧ Rd H a (.dK kvs) ∧ ∀ p, H p = none → Q (.ref p) (upd H p (.dK kvs))
theorem eg_dict {d : Dc κ β} (h : EV K F Kn0 sl ow te d) : EG K F Kn0 sl ow (tCB rDictD (tCons te tNil)) d := fun σ Kn H s Q q => h σ Kn H s _ fun v Kn1 H1 g1 r1 => by
  obtain ⟨l, ws, rfl, h1, h2⟩ := r1
  exact ⟨l, ws, rfl, rd_ex g1.kh h1, fun p hp => q p _ Kn1 _ (g1.trans (Gr.newU g1.kh hp)) (fresh_back g1.hh hp) (fresh_back g1.kh hp) upd_same ⟨ws, rfl, h2⟩⟩
theorem eg_dictO {d : Dc κ β} (hi : sl[i]? = some (.at p)) (hj : ow[j]? = some (oo p d)) : EG K F Kn0 sl ow (tCB rDictD (tCons (tVar i) tNil)) d := fun σ Kn H s Q q => by
  obtain ⟨o, h1, h2⟩ := s.sl.get hi
  obtain ⟨f1, f2, ob, f3, ws, rfl, f5⟩ := s.ow.each _ (List.mem_of_getElem? hj)
  exact ⟨.ref p, by rw [h1]; exact congrArg some h2, p, ws, rfl, Rd.of f3, fun l hl => q l _ Kn _ (Gr.newU s.ek hl) hl (fresh_back s.ek hl) upd_same ⟨ws, rfl, f5⟩⟩
/-- {k: v, ..} -/
theorem eg_disp {trs : List (TE × TE)} {kvs : List (κ × β)} (hp : EPs K F Kn0 sl ow trs kvs) (hl : kvs.length ≤ 15) : EG K F Kn0 sl ow (tDisp trs) (Dc.mk (mergeD [] kvs)) := fun σ Kn H s Q q p hp0 => by
  have g0 : Gr Kn H Kn (upd H p (.dK [])) := Gr.newU s.ek hp0
  refine hp σ Kn _ (s.grow g0) _ fun ws Kn1 H1 g1 r1 => ?_
  have e1 : H1 p = some (.dK []) := g1.hh _ _ upd_same
  have kp : Kn1 p = none := g1.sp p (ne_none_of upd_same) (fresh_back s.ek hp0)
  have g : Gr Kn H Kn1 (upd H1 p (.dK (mergeK [] ws))) := ⟨g1.kk, fun a u h => by
    have hne : a ≠ p := fun z => by rw [z, hp0] at h; cases h
    rw [upd_ne hne]
    exact g1.hh _ _ (by rw [upd_ne hne]; exact h), upd_in g1.kh kp, fun a h1 h2 => g1.sp a (Ex.nn g0.hh h1) h2⟩
  exact ⟨e1, ws, rfl, by rw [r1.length]; exact hl, q p _ Kn1 _ g hp0 kp upd_same ⟨_, rfl, DK.merge r1 .nil⟩⟩
instance {κ β : Type} [Rp κ] [K1 κ] [Rp β] : Tn (Dc κ β) := ⟨"dict", fun h => by
  obtain ⟨p, ws, rfl, h1, _⟩ := h
  rcases h1 with h1 | ⟨o, h1⟩
  · exact .base (.dK h1)
  · exact .fDict h1⟩
/-- are the dicts alike? told where they are -/
def eqDO {κ β : Type} [DecidableEq κ] [DecidableEq β] (a b : Dc κ β) : Option Bool := if a.l.length = b.l.length ∧ (a.l.all fun kv => decide (getD b.l kv.1 = some kv.2)) = true then some true else none
class FlB (β : Type) [Rp β] : Prop where
  fb : ∀ {K : Fg} {H : Hp} {v : V} {x : β}, rep K H v x → flatB v = true
  un : ∀ {K : Fg} {H : Hp} {v w : V} {x : β}, rep K H v x → rep K H w x → v = w
instance : FlB Int := ⟨fun h => by cases h; rfl, fun h1 h2 => by cases h1; cases h2; rfl⟩
instance : FlB Str := ⟨fun h => by cases h; rfl, fun h1 h2 => by cases h1; cases h2; rfl⟩
instance : FlB Bool := ⟨fun h => by cases h; rfl, fun h1 h2 => by cases h1; cases h2; rfl⟩
theorem dk_mem {Kn : Hp} {ws : List (Key × V)} {kvs : List (κ × β)} (h : DK K Kn ws kvs) {w : Key × V} (hw : w ∈ ws) : ∃ kv ∈ kvs, w.1 = K1.key kv.1 ∧ rep K Kn w.2 kv.2 := by
  unfold DK at h
  induction h with
  | nil => cases hw
  | cons q t ih =>
    rcases List.mem_cons.mp hw with rfl | hw
    · exact ⟨_, List.mem_cons_self, q⟩
    · obtain ⟨kv, h1, h2⟩ := ih hw
      exact ⟨kv, List.mem_cons_of_mem _ h1, h2⟩
theorem eqD_go [DecidableEq β] [FlB β] {a b : Dc κ β} {r r' : Bool} (h : eqDO a b = some r) {Kn H : Hp} {v w : V} (ek : Ex Kn H) (h1 : rep K Kn v a) (h2 : rep K Kn w b) {Q : VK} (q : Q (.bl r') H) : rEqDR r' v w H Q ∧ r = true := by
  obtain ⟨p1, w1, rfl, a1, a2⟩ := h1
  obtain ⟨p2, w2, rfl, b1, b2⟩ := h2
  unfold eqDO at h
  split at h
  case isFalse => cases h
  rename_i hl
  cases h
  refine ⟨⟨p1, p2, w1, w2, rfl, rfl, rd_ex ek a1, rd_ex ek b1, ?_, fun x hx => ?_, q⟩, rfl⟩
  · rw [a2.length, b2.length]
    exact hl.1
  · obtain ⟨kv, hm, e1, e2⟩ := dk_mem a2 hx
    have g := of_decide_eq_true (List.all_eq_true.mp hl.2 kv hm)
    rcases b2.get kv.1 with ⟨z, _⟩ | ⟨y, v, z1, z2, z3⟩
    · rw [z] at g
      cases g
    · rw [z1] at g
      cases g
      refine ⟨?_, FlB.fb e2⟩
      rw [e1]
      have : valV w2 (K1.key kv.1) = some v := z2
      rw [this, FlB.un e2 z3]
theorem r2_eqD [DecidableEq β] [FlB β] {a b : Dc κ β} {r : Bool} (h : eqDO a b = some r) : R2V K (rEqDR true) a b r := fun Kn H v w ek h1 h2 Q q => by
  obtain ⟨_, e⟩ := eqD_go h ek h1 h2 (r' := true) (Q := fun _ _ => True) trivial
  subst e
  exact (eqD_go h ek h1 h2 (r' := true) (q.fl (z := true) ek)).1
theorem r2_neD [DecidableEq β] [FlB β] {a b : Dc κ β} {r : Bool} (h : eqDO a b = some r) : R2V K (rEqDR false) a b (!r) := fun Kn H v w ek h1 h2 Q q => by
  obtain ⟨_, e⟩ := eqD_go h ek h1 h2 (r' := true) (Q := fun _ _ => True) trivial
  subst e
  exact (eqD_go h ek h1 h2 (r' := false) (q.fl (z := false) ek)).1
end
end Wk
set_option maxHeartbeats 4000000
/-! Wpag: dict(xs) of a list of pairs; None asked of a value of any kind; isinstance of an exception by a class of the program -/
namespace Wk
open PySem PySem.Spec L2 Evl
section
variable {K : Fg} {F Kn0 : Hp} {sl : List Sl} {ow : List Ow} {κ β : Type} [Rp κ] [K1 κ] [DecidableEq κ] [Rp β] {te : TE}
def prs1 (xs : List (κ × β × Unit)) : List (κ × β) := xs.map fun t => (t.1, t.2.1)
abbrev rDictP (K : Fg) : List V → Hp → VK → Prop := fun xs H Q => ∃ (a : Addr) (ps : List Addr) (kvs : List (Key × V)), xs = [.ref a] ∧ SqL K H a (ps.map V.ref) ∧ Paired (fun p kv => SqT K H p [kV kv.1, kv.2]) ps kvs ∧
    ∀ p, H p = none → Q (.ref p) (upd H p (.dK (mergeK [] kvs)))
theorem prs1_of {Kn H : Hp} (e : Ex Kn H) : ∀ {vs : List V} {xs : List (κ × β × Unit)}, Paired (rep K Kn) vs xs → ∃ (ps : List Addr) (kvs : List (Key × V)), vs = ps.map V.ref ∧
    Paired (fun p kv => SqT K H p [kV kv.1, kv.2]) ps kvs ∧ DK K Kn kvs (prs1 xs)
  | _, _, .nil => ⟨[], [], rfl, .nil, .nil⟩
  | _, _, .cons (a := v) (b := t) h r => by
    obtain ⟨ps, kvs, e1, e2, e3⟩ := prs1_of e r
    obtain ⟨q, ws, rfl, hq, kv, rest, rfl, hk, yv, rest2, rfl, hy, hu⟩ := h
    cases hu
    have := K1.iff hk
    subst this
    exact ⟨q :: ps, (K1.key t.1, yv) :: kvs, by rw [e1]; rfl, .cons (st_of (e _ _ hq)) e2, .cons ⟨rfl, hy⟩ e3⟩
theorem eg_dictP {xs : List (κ × β × Unit)} (h : EV K F Kn0 sl ow te xs) : EG K F Kn0 sl ow (tCB (rDictP K) (tCons te tNil)) (Dc.mk (mergeD [] (prs1 xs))) := fun σ Kn H s Q q => h σ Kn H s _ fun v Kn1 H1 g1 r1 => by
  obtain ⟨a, vs, rfl, ha, hv⟩ := r1
  obtain ⟨ps, kvs, rfl, e2, e3⟩ := prs1_of g1.kh hv
  exact ⟨a, ps, kvs, rfl, sq_of (g1.kh _ _ ha), e2, fun p hp => q p _ Kn1 _ (g1.trans (Gr.newU g1.kh hp)) (fresh_back g1.hh hp) (fresh_back g1.kh hp) upd_same ⟨_, rfl, DK.merge e3 .nil⟩⟩
end
theorem k_dictP {X : Cx} {K : Fg} (hc : X.calm = true := by rfl) (h : X.K = K := by rfl) : CallR X (.type "dict") (rDictP K) := h ▸ call_dictP hc
/-- found.reverse() -/
theorem sb_rev {K : Fg} {F Kn0 : Hp} {sl : List Sl} {ow ow1 : List Ow} {D : Ends} {α : Type} [Rp α] {xs : List α} {i j : Nat} {p : Addr} (hi : sl[i]? = some (.at p)) (hj : ow[j]? = some (ol p xs)) (ho : ow.set j (ol p xs.reverse) = ow1) (k : SN K F Kn0 sl ow1 D) : SB K F Kn0 sl ow D (tDrop (tBM0 K "list" rReverse (tVar i))) := fun σ Kn H s => by
  obtain ⟨o, h1, h2⟩ := s.sl.get hi
  obtain ⟨f1, f2, ws, f3, f4⟩ := s.ow.each _ (List.mem_of_getElem? hj)
  subst ho
  refine ⟨.ref p, by rw [h1]; exact congrArg some h2, Or.inl ⟨rfl, ws, sq_of f3⟩, p, ws, rfl, rfl, f3, k _ Kn _ ?_⟩
  exact s.write hj (Ex.refl _) (upd_in s.ek f2) (fun q hq _ => upd_ne hq) (fun _ _ h => h) upd_same (paired_rev f4)
/-! ### None -/
def isNoD (x : Dy) : Bool := match x.d with | .none => true | _ => false
section
variable {K : Fg}
theorem r2_isND {x : Dy} : R2V K (fun x y H Q => y = .non ∧ Q (.bl (decide (x = .non))) H) x Nn.nn (isNoD x) := fun Kn H v w ek h1 h2 Q q => by
  cases h2
  refine ⟨rfl, ?_⟩
  have e : decide (v = V.non) = isNoD x := by
    obtain ⟨d⟩ := x
    have h1 : Dq Kn v d := h1
    cases h1 <;> rfl
  rw [e]
  exact q.fl ek
theorem r2_notND {x : Dy} : R2V K (fun x y H Q => y = .non ∧ Q (.bl (!decide (x = .non))) H) x Nn.nn (!isNoD x) := fun Kn H v w ek h1 h2 Q q => by
  cases h2
  refine ⟨rfl, ?_⟩
  have e : decide (v = V.non) = isNoD x := by
    obtain ⟨d⟩ := x
    have h1 : Dq Kn v d := h1
    cases h1 <;> rfl
  rw [e]
  exact q.fl ek
/-! ### classes of the program -/
structure ClN where
  a : Addr
instance rpClN : Rp ClN := { rep := fun _ _ v x => v = .ref x.a, swap := fun _ h => h }
instance : Fl ClN := { toV := fun x => V.ref x.a, iff := Iff.rfl }
theorem ev_cl {F Kn0 : Hp} {sl : List Sl} {ow : List Ow} (C : Addr) : EV K F Kn0 sl ow (tC (.ref C)) (ClN.mk C) := ev_c (ClN.mk C)
theorem rc_isXC {a D C : Addr} {cm : Str → Option Addr} {cls : Value} {d : Option Addr} {n : Str} {b : Bool} {u : Unit} {e : Xc} (hD : cm n = some D) (hx : xcls e n = some u) (hk : PySem.W.kitOne K (.ref D) (.ref C) = some b) : RCV K (rIsX K D a cls d) ((Xv.mk e : Xv cm a cls d), ClN.mk C, ()) b := fun Kn H vs ek h Q q => by
  obtain ⟨v, w, rfl, h1, h2⟩ := two_args h
  obtain ⟨rfl, A, hA, hc, hd⟩ := h1
  rw [xcls_eq hx, hD] at hA
  cases hA
  refine ⟨w, .ref C, b, rfl, hc, ?_, fun u hu => ?_, hk, q.fl ek⟩
  · rcases hd with ⟨_, h1⟩ | ⟨dd, fs, h1, h3, _⟩
    · exact .inl h1
    · exact .inr ⟨dd, fs, h1, ek _ _ h3⟩
  · have h2 : w = .ref C := h2
    subst h2
    exact hu
end
theorem kit_twoC {K : Fg} {D C : Addr} {b : Bool} (h : PySem.W.subIn K (.ref D) (.ref C) = some b) (hr : PySem.W.subIn K (.ref D) (.ref D) = some true) (h2 : PySem.W.isClsIn K C = true) (h3 : PySem.W.typeIn K (.ref C) = some (.type "type")) : PySem.W.kitOne K (.ref D) (.ref C) = some b := by
  unfold PySem.W.kitOne
  by_cases e : D = C
  · subst e
    rw [if_pos (by exact beq_self_eq_true _)]
    rw [hr] at h
    exact h
  · rw [if_neg (fun z => e (by have := eq_of_beq z; cases this; rfl))]
    unfold PySem.W.kitCls
    have e2 : ((PySem.W.clsIn K C).isSome && PySem.W.typeIn K (.ref C) == some (.type "type")) = true := by
      have h2' : (PySem.W.clsIn K C).isSome = true := h2
      rw [h2', h3] <;> rfl
    simp only
    rw [if_pos e2]
    exact h
end Wk
set_option maxHeartbeats 4000000
/-! Wany: isinstance of a value of any kind; lists read as lists of values of any kind -/
namespace Wk
open PySem PySem.Spec L2 Evl
def isiD (x : Dy) (n : String) : Bool := match x.d with
  | .none => n == "NoneType"
  | .bool _ => n == "bool" || n == "int"
  | .int _ => n == "int"
  | .str _ => n == "str"
  | .list _ => n == "list"
  | .tuple _ => n == "tuple"
  | _ => false
section
variable {K : Fg}
theorem rc_isiD {x : Dy} {n : String} (h0 : kitB "NoneType" n = some (n == "NoneType")) (h1 : kitB "bool" n = some (n == "bool" || n == "int")) (h2 : kitB "int" n = some (n == "int")) (h3 : kitB "str" n = some (n == "str")) (h4 : kitB "list" n = some (n == "list")) (h5 : kitB "tuple" n = some (n == "tuple")) :
    RCV K (rIsi K) (x, TyN.mk n, ()) (isiD x n) := fun Kn H vs ek hr Q q => by
  obtain ⟨v, w, rfl, r1, r2⟩ := two_args hr
  cases r2
  obtain ⟨d⟩ := x
  have r1 : Dq Kn v d := r1
  cases r1 with
  | non => exact ⟨_, .ty n, .type "NoneType", .type n, _, rfl, .ty n, Tn.is (α := Nn) (a := Nn.nn) (show rep K H V.non Nn.nn from rfl), kit_ty h0, q.fl ek⟩
  | bl b => exact ⟨_, .ty n, .type "bool", .type n, _, rfl, .ty n, Tn.is (α := Bool) (a := b) (show rep K H (V.bl b) b from rfl), kit_ty h1, q.fl ek⟩
  | int i => exact ⟨_, .ty n, .type "int", .type n, _, rfl, .ty n, Tn.is (α := Int) (a := i) (show rep K H (V.int i) i from rfl), kit_ty h2, q.fl ek⟩
  | str s => exact ⟨_, .ty n, .type "str", .type n, _, rfl, .ty n, Tn.is (α := Str) (a := s) (show rep K H (V.str s) s from rfl), kit_ty h3, q.fl ek⟩
  | lst h r => exact ⟨_, .ty n, .type "list", .type n, _, rfl, .ty n, .base (.lst (ek _ _ h)), kit_ty h4, q.fl ek⟩
  | tup h r => exact ⟨_, .ty n, .type "tuple", .type n, _, rfl, .ty n, .base (.tup (ek _ _ h)), kit_ty h5, q.fl ek⟩
end
section
variable {K : Fg} {F Kn0 : Hp} {sl : List Sl} {ow ow1 : List Ow} {α : Type} [Rp α] [Ud α] {te : TE}
theorem paired_up {H : Hp} : ∀ {vs : List V} {xs : List α}, Paired (rep K H) vs xs → Paired (rep K H) vs (xs.map upD)
  | _, _, .nil => .nil
  | _, _, .cons r t => .cons (Ud.is r) (paired_up t)
theorem ev_upL {xs : List α} (h : EV K F Kn0 sl ow te xs) : EV K F Kn0 sl ow te (xs.map upD) := fun σ Kn H s Q q => h σ Kn H s Q fun v Kn' H' g r => by
  obtain ⟨p, vs, rfl, h1, h2⟩ := r
  exact q _ Kn' H' g ⟨p, vs, rfl, h1, paired_up h2⟩
theorem en_upL {xs : List α} (h : EN K F Kn0 sl ow te xs) : EN K F Kn0 sl ow te (xs.map upD) := fun σ Kn H s Q q => h σ Kn H s Q fun l ws Kn' H' g hl kl hw r => q l ws Kn' H' g hl kl hw (paired_up r)
end
end Wk
/-! Wpour: lists of dicts alike; a tuple of a dict and more alike; d.update(d2) with keys of one piece; a def that tells a new dict and more in a tuple -/
namespace PySem.SeqAt
open AutoSeq1 (wpAny_loadPart')
open MeetsSeq MeetsSeq2 MeetsSeq3 SeqRoads2
section
variable {prog : Program} {w : World}
theorem wk_ne_loop (l b : Addr) (items items2 : Array Value) (n n2 : Nat) (dd dd2 : Option Addr) (sl sl2 : Array (Option Value)) (hsz : items.size = items2.size) (k : Nat) :
    ∀ i : Nat, items.size - i = k → MeetsIn prog w (Builtin.«list.__eq__.loop» ⟨[.ref l, .ref b, rawInt i, rawInt 3], []⟩)
      (fun A R s => s.heap.get? l = some { cls := .type "list", dict := dd, data := .seq items n, slots := sl } ∧ s.heap.get? b = some { cls := .type "list", dict := dd2, data := .seq items2 n2, slots := sl2 } ∧
        (∀ j (h1 : j < items.size) (h2 : j < items2.size), EqP prog w A.in1 s items[j] items2[j] true) ∧
        R (.ok (.ret (.bool false))) s) := by
  induction k with
  | zero =>
    intro i hk A R s h
    obtain ⟨hp, g, d, tk, os⟩ := s; obtain ⟨hl, hb, he, h⟩ := h
    wp_walk using wpAny_loadPart' hl, wpAny_loadPart' hb
    have hi1 : items[((i : Nat) : Int).toNat]? = none := by simp; omega
    have hi2 : items2[((i : Nat) : Int).toNat]? = none := by simp; omega
    rw [hi1, hi2]
    wp_walk using wpAny_loadPart' hl, wpAny_loadPart' hb
    show R (.ok (.ret (.bool (items.size != items2.size)))) _
    rw [hsz]
    simpa using h
  | succ k ih =>
    intro i hk A R s h
    obtain ⟨hp, g, d, tk, os⟩ := s; obtain ⟨hl, hb, he, h⟩ := h
    wp_walk using wpAny_loadPart' hl, wpAny_loadPart' hb
    have hlt : i < items.size := by omega
    have hlt2 : i < items2.size := by omega
    have hi1 : items[((i : Nat) : Int).toNat]? = some items[i] := by simp [hlt]
    have hi2 : items2[((i : Nat) : Int).toNat]? = some items2[i] := by simp [hlt2]
    have hc : ((i : Int) + 1) = ((i + 1 : Nat) : Int) := by push_cast; rfl
    rw [hi1, hi2]
    refine wpAny_bind (he i hlt hlt2 _ _ ?_)
    wp_walk
    rw [hc]
    exact ⟨plainId_quiet plain_eq_loop _, codeAny_builtin entry_eq_loop (by
      rw [Around.under_plainId plain_eq_loop _]
      exact ih (i + 1) (by omega) A R _ ⟨hl, hb, he, h⟩)⟩
theorem wk_list_ne (l b : Addr) (items items2 : Array Value) (n n2 : Nat) (dd dd2 : Option Addr) (sl sl2 : Array (Option Value)) (hsz : items.size = items2.size) :
    MeetsIn prog w (Builtin.«list.__ne__» ⟨[.ref l, .ref b], []⟩)
      (fun A R s => s.heap.get? l = some { cls := .type "list", dict := dd, data := .seq items n, slots := sl } ∧ s.heap.get? b = some { cls := .type "list", dict := dd2, data := .seq items2 n2, slots := sl2 } ∧
        (∀ j (h1 : j < items.size) (h2 : j < items2.size), EqP prog w A.in1 s items[j] items2[j] true) ∧
        R (.ok (.ret (.bool false))) s) := by
  intro A R s h
  obtain ⟨hp, g, d, tk, os⟩ := s; obtain ⟨hl, hb, he, h⟩ := h
  have f3 := AutoSeq1.sub_list_list
  have hne : ¬ (items.size != items2.size) = true := by simp [hsz]
  wp_walk using wpAny_loadPart' hl, wpAny_loadPart' hb
  exact ⟨plainId_quiet plain_eq_loop _, codeAny_builtin entry_eq_loop (by
    rw [Around.under_plainId plain_eq_loop _]
    exact wk_ne_loop l b items items2 n n2 dd dd2 sl sl2 hsz _ 0 rfl A R _ ⟨hl, hb, he, h⟩)⟩
theorem wk_ne_lists {A : Around} {s : Shared} {l b : Addr} {items items2 : Array Value} (hl : s.heap.IsList l items) (hb : s.heap.IsList b items2) (hsz : items.size = items2.size) (hu : A.units < cLine)
    (he : ∀ j (h1 : j < items.size) (h2 : j < items2.size), EqP prog w A.in1 s items[j] items2[j] true) (E Q : Value → Shared → Prop) (h : Q (.bool false) s) : wpAny (model prog w) A (richCompare .NotEq (.ref l) (.ref b)) Q E s := by
  obtain ⟨⟨cls, dd, data, sl⟩, ho, hc, n, hd⟩ := id hl
  obtain ⟨⟨cls2, dd2, data2, sl2⟩, ho2, hc2, n2, hd2⟩ := id hb
  simp only at hc hd hc2 hd2
  subst hc hd hc2 hd2
  have ta : s.TypeIs (.ref l) "list" := ⟨_, ho, rfl⟩
  have tb : s.TypeIs (.ref b) "list" := ⟨_, ho2, rfl⟩
  exact wpAny_richCompare_same_room (op := .NotEq) ta tb F.slot_list_ne (call_meetsIn F.slot_list_ne ta F.entry_list_ne (F.args_list_ne_2 _ _) (wk_list_ne l b items items2 n n2 dd dd2 sl sl2 hsz)
    ⟨ho, ho2, he, show Value.bool false ≠ Value.notImplemented ∧ Q (.bool false) s from ⟨(fun x => nomatch x), h⟩⟩) hu
end
end PySem.SeqAt
namespace L2
open PySem PySem.Spec PyProof.Rows
/-- two dicts alike, or the same flat thing -/
def DDf (H : Hp) (x y : V) : Prop := (x = y ∧ flatB x = true) ∨ ∃ a b ks ls, x = .ref a ∧ y = .ref b ∧ Rd H a (.dK ks) ∧ Rd H b (.dK ls) ∧ ks.length = ls.length ∧ ∀ p ∈ ks, valV ls p.1 = some p.2 ∧ flatB p.2 = true
section
variable {X : Cx}
theorem ddf_eqP {pins : List (Addr × Obj)} {σ : St} {H : Hp} {s : Shared} (I : Inv X pins σ H s) {A : Around} (hu : A.units < cLine) {x y : V} {v u : Value} (h : DDf H x y) (rx : RelV x v) (ry : RelV y u) : SeqAt.EqP X.prog X.w A s v u true := by
  rcases h with ⟨rfl, f⟩ | ⟨a, b, ks, ls, rfl, rfl, ea, eb, hl, hp⟩
  · exact (eqAt_same rx ry f).eqP
  · cases (show v = Value.ref a from rx)
    cases (show u = Value.ref b from ry)
    by_cases e : a = b
    · subst e
      exact (SeqAt.EqAt.same _).eqP
    · obtain ⟨_, ya, va, ra, da⟩ := dk_rd I.hok ea
      obtain ⟨_, yb, vb, rb, db⟩ := dk_rd I.hok eb
      refine SeqAt.eqP_refs e fun E Q q => PySem.W.rcP_dicts (knd := mixKind X.prog X.w) (r := true) ya yb da db hu (fun _ => hits_run (F := fun x y => x = y ∧ flatB x = true) (fun x y v u h rx ry => by
        obtain ⟨rfl, f⟩ := h
        exact (eqAt_same rx ry f).eqP) rb ra fun p hm => ⟨p.2, (hp p hm).1, rfl, (hp p hm).2⟩) E Q ?_
      have e : va.length = vb.length := by rw [← ra.length, ← rb.length]; exact hl
      rw [show (va.length == vb.length && true) = true from by rw [e]; simp]
      exact q
/-- xs != ys, alike -/
def rNeDL (K : PySem.W.Frag) : R2 := fun x y H Q => ∃ a b xs ys, x = .ref a ∧ y = .ref b ∧ SqL K H a xs ∧ SqL K H b ys ∧ Paired (DDf H) xs ys ∧ Q (.bl false) H
theorem ddf_items {pins : List (Addr × Obj)} {σ : St} {H : Hp} {s : Shared} (I : Inv X pins σ H s) {A : Around} (hu : A.units < cLine) : ∀ {xs ys : List V} {us ws : List Value}, Paired (DDf H) xs ys → Vals xs us → Vals ys ws → ∀ (j : Nat) (h1 : j < us.length) (h2 : j < ws.length), SeqAt.EqP X.prog X.w A s us[j] ws[j] true
  | _, _, _, _, .nil, r1, _, j, h1, _ => by
    cases r1
    exact absurd h1 (Nat.not_lt_zero _)
  | _, _, _, _, .cons h t, r1, r2, j, h1, h2 => by
    cases r1 with
    | cons a1 b1 =>
      cases r2 with
      | cons a2 b2 =>
        cases j with
        | zero => exact ddf_eqP I hu h a1 a2
        | succ j => exact ddf_items I hu t b1 b2 j (Nat.lt_of_succ_lt_succ h1) (Nat.lt_of_succ_lt_succ h2)
theorem op_neDL (hu : X.A.units + 64 < cLine) : OpR X (compareOp .NotEq) (rNeDL X.K) := by
  intro pins s σ H x y v u Q I rx ry h
  obtain ⟨a, b, xs, ys, rfl, rfl, ha, hb, hp, q⟩ := h
  cases (show v = Value.ref a from rx)
  cases (show u = Value.ref b from ry)
  obtain ⟨us, r1, p1, _⟩ := I.list ha
  obtain ⟨ws, r2, p2, _⟩ := I.list hb
  have hsz : us.toArray.size = ws.toArray.size := by
    rw [List.size_toArray, List.size_toArray, ← r1.length, ← r2.length]
    exact Paired.length hp
  show wpAny (model X.prog X.w) X.A (richCompare .NotEq _ _) _ _ _
  refine SeqAt.wk_ne_lists p1.isList p2.isList hsz (by omega) (fun j h1 h2 => ?_) _ _ ⟨.bl false, H, I, rfl, q⟩
  have k := ddf_items I (A := X.A.in1) (by show X.A.units + 1 < cLine; omega) hp r1 r2 j (by simpa using h1) (by simpa using h2)
  simpa using k
/-- a == b, two tuples alike -/
def rEqDT (K : PySem.W.Frag) : R2 := fun x y H Q => ∃ a b xs ys, x = .ref a ∧ y = .ref b ∧ SqT K H a xs ∧ SqT K H b ys ∧ Paired (DDf H) xs ys ∧ Q (.bl true) H
theorem op_eqDT (hu : X.A.units + 64 < cLine) : OpR X (compareOp .Eq) (rEqDT X.K) := by
  intro pins s σ H x y v u Q I rx ry h
  obtain ⟨a, b, xs, ys, rfl, rfl, ha, hb, hp, q⟩ := h
  cases (show v = Value.ref a from rx)
  cases (show u = Value.ref b from ry)
  obtain ⟨us, r1, p1, _⟩ := I.tuple ha
  obtain ⟨ws, r2, p2, _⟩ := I.tuple hb
  have hsz : us.toArray.size = ws.toArray.size := by
    rw [List.size_toArray, List.size_toArray, ← r1.length, ← r2.length]
    exact Paired.length hp
  show wpAny (model X.prog X.w) X.A (richCompare .Eq _ _) _ _ _
  refine GQ.rc_tupG hsz (by omega) (fun _ s' => s' = s) p1 p2 (fun i h1 h2 s' e => ?_) (fun s' e => ?_) rfl
  · subst e
    have k := ddf_items I (A := X.A.in1) (by show X.A.units + 1 < cLine; omega) hp r1 r2 i (by simpa using h1) (by simpa using h2)
    have k2 : SeqAt.EqP X.prog X.w X.A.in1 s' us.toArray[i] ws.toArray[i] true := by simpa using k
    exact k2 _ _ ⟨rfl, rfl⟩
  · subst e
    exact ⟨.bl true, H, I, rfl, q⟩
/-- d.update(d2) -/
def rUpdK : V → List V → Hp → VK → Prop := fun x xs H Q => ∃ (a o : Addr) (kvs more : List (Key × V)), x = .ref a ∧ xs = [.ref o] ∧ H a = some (.dK kvs) ∧ Rd H o (.dK more) ∧ a ≠ o ∧ kvs.length + more.length ≤ 1000000 ∧ Q .non (upd H a (.dK (mergeK kvs more)))
theorem length_mergeK' : ∀ (more kvs : List (Key × V)), (mergeK kvs more).length ≤ kvs.length + more.length
  | [], kvs => Nat.le_refl _
  | p :: r, kvs => by
    have h1 := length_mergeK' r (putK kvs p.1 p.2)
    have h2 := length_putK kvs p.1 p.2
    show (mergeK (putK kvs p.1 p.2) r).length ≤ _
    rw [List.length_cons]
    omega
theorem mt_updK : MtR X "dict.update" rUpdK := by
  intro pins s σ H x xs v us Q I rx rxs h
  obtain ⟨a, o, kvs, more, rfl, rfl, ha, ho, hao, hsz, q⟩ := h
  cases rx
  rw [Vals.ref1 rxs]
  obtain ⟨z1, hd1, xs1, rel1, dd1⟩ := dk_of I.hok ha
  obtain ⟨z2, hd2, xs2, rel2, dd2⟩ := dk_rd I.hok ho
  have hs0 : (1000000 : Nat) ≤ sizeLine := by decide
  refine call_meetsIn F.slot_dict_update dd1.typeIs F.entry_dict_update (F.args_dict_update_2 _ _) (meets_dict_update (mixKind X.prog X.w) a o hao hd2) ⟨xs1, xs2, dd1, dd2, by rw [← rel1.length, ← rel2.length]; omega, fun h' d1 d2 hs => ?_⟩
  have he : ∃ q, h'.get? a = some q := let ⟨q, _, _, hq, _⟩ := d1; ⟨q, hq⟩
  exact ⟨.non, upd H a (.dK (mergeK kvs more)), d_write (t' := s.toks) I (by rw [ha]; exact True.intro) hs he (dk_new (by have := length_mergeK' more kvs; omega) hd1 (KV.merge rel2 rel1) d1), rfl, q⟩
end
end L2
namespace Wk
open PySem PySem.Spec L2 Evl
section
variable {K : Fg} {F Kn0 : Hp} {sl sl' : List Sl} {ow ow1 : List Ow} {κ β : Type} [Rp κ] [K1 κ] [DecidableEq κ] [Rp β] [DecidableEq β] [FlB β]
def neLO (a b : List (Dc κ β)) : Option Bool := if a.length = b.length ∧ (List.zipWith (fun x y => decide (eqDO x y = some true)) a b).all id = true then some false else none
theorem ddf_of {a b : Dc κ β} (h : eqDO a b = some true) {Kn H : Hp} {v w : V} (ek : Ex Kn H) (h1 : rep K Kn v a) (h2 : rep K Kn w b) : DDf H v w := by
  obtain ⟨⟨p1, p2, w1, w2, e1, e2, r1, r2, hl, hp, _⟩, _⟩ := eqD_go h ek h1 h2 (r' := true) (Q := fun _ _ => True) trivial
  exact .inr ⟨p1, p2, w1, w2, e1, e2, r1, r2, hl, hp⟩
theorem ddfs_of {Kn H : Hp} (ek : Ex Kn H) : ∀ {a b : List (Dc κ β)} {vs ws : List V}, a.length = b.length → (List.zipWith (fun x y => decide (eqDO x y = some true)) a b).all id = true → Paired (rep K Kn) vs a → Paired (rep K Kn) ws b → Paired (DDf H) vs ws
  | [], [], _, _, _, _, .nil, .nil => .nil
  | x :: xs, y :: ys, _, _, hl, ha, .cons h1 t1, .cons h2 t2 => by
    rw [List.zipWith_cons_cons, List.all_cons, Bool.and_eq_true] at ha
    exact .cons (ddf_of (of_decide_eq_true ha.1) ek h1 h2) (ddfs_of ek (Nat.succ.inj hl) ha.2 t1 t2)
theorem r2_neL {a b : List (Dc κ β)} {r : Bool} (h : neLO a b = some r) : R2V K (rNeDL K) a b r := fun Kn H v w ek h1 h2 Q q => by
  obtain ⟨p1, w1, rfl, a1, a2⟩ := h1
  obtain ⟨p2, w2, rfl, b1, b2⟩ := h2
  unfold neLO at h
  split at h
  case isFalse => cases h
  rename_i hb
  cases h
  exact ⟨p1, p2, w1, w2, rfl, rfl, sq_of (ek _ _ a1), sq_of (ek _ _ b1), ddfs_of ek hb.1 hb.2 a2 b2, q.fl ek⟩
def eqTpO {γ : Type} (a b : Dc κ β × Option γ × Unit) : Option Bool := if eqDO a.1 b.1 = some true ∧ a.2.1.isNone = true ∧ b.2.1.isNone = true then some true else none
theorem r2_eqTp {γ : Type} [Rp γ] {a b : Dc κ β × Option γ × Unit} {r : Bool} (h : eqTpO a b = some r) : R2V K (rEqDT K) a b r := fun Kn H v w ek h1 h2 Q q => by
  obtain ⟨p1, w1, rfl, a1, v1, r1, rfl, a2, v2, r2, rfl, a3, a4⟩ := h1
  obtain ⟨p2, w2, rfl, b1, u1, s1, rfl, b2, u2, s2, rfl, b3, b4⟩ := h2
  cases a4
  cases b4
  unfold eqTpO at h
  split at h
  case isFalse => cases h
  rename_i hb
  cases h
  obtain ⟨e1, e2, e3⟩ := hb
  obtain ⟨a, ao, ⟨⟩⟩ := a
  obtain ⟨b, bo, ⟨⟩⟩ := b
  cases ao with
  | some x => cases e2
  | none =>
    cases bo with
    | some x => cases e3
    | none =>
      have a3 : v2 = .non := a3
      have b3 : u2 = .non := b3
      subst a3 b3
      exact ⟨p1, p2, _, _, rfl, rfl, st_of (ek _ _ a1), st_of (ek _ _ b1), .cons (ddf_of e1 ek a2 b2) (.cons (.inl ⟨rfl, rfl⟩) .nil), q.fl ek⟩
end
section
variable {K : Fg} {F Kn0 : Hp} {sl sl' : List Sl} {ow ow1 : List Ow} {κ β : Type} [Rp κ] [K1 κ] [DecidableEq κ] [Rp β] {te : TE} {D : Ends} {i j : Nat} {p : Addr}
theorem eg_new : EG K F Kn0 sl ow tDNewK (Dc.mk ([] : List (κ × β))) := fun σ Kn H s Q q p hp => q p _ Kn _ (Gr.newU s.ek hp) hp (fresh_back s.ek hp) upd_same ⟨[], rfl, .nil⟩
def updK (d e : Dc κ β) : Option (Dc κ β) := if d.l.length + e.l.length ≤ 1000000 then some ⟨mergeD d.l e.l⟩ else none
theorem sb_updK {d d' e : Dc κ β} (hi : sl[i]? = some (.at p)) (hj : ow[j]? = some (oo p d)) (h : EV K F Kn0 sl ow te e) (hx : updK d e = some d') (ho : ow.set j (oo p d') = ow1) (n : SN K F Kn0 sl ow1 D) :
    SB K F Kn0 sl ow D (tDrop (tBM K "dict" rUpdK (tVar i) (tCons te tNil))) := fun σ Kn H s => by
  obtain ⟨o, h1, h2⟩ := s.sl.get hi
  obtain ⟨f1, f2, o1, f3, ws, f4, f5⟩ := s.ow.each _ (List.mem_of_getElem? hj)
  subst f4
  have f3 : H p = some (.dK ws) := f3
  unfold updK at hx
  split at hx
  case isFalse => cases hx
  rename_i hc
  cases hx
  subst ho
  refine ⟨.ref p, by rw [h1]; exact congrArg some h2, .inr (.inr (.inl ⟨rfl, .inl ⟨ws, f3⟩⟩)), h σ Kn H s _ fun v Kn1 H1 g1 r1 => ?_⟩
  obtain ⟨a, vs, rfl, ha, hv⟩ := r1
  have ha : Rd Kn1 a (.dK vs) := ha
  have kp : Kn1 p = none := g1.sp p (ne_none_of f3) f2
  have hne : p ≠ a := fun z => by
    rw [← z] at ha
    rcases ha with ha | ⟨_, ha⟩
    · rw [kp] at ha; cases ha
    · rw [kp] at ha; cases ha
  refine ⟨p, a, ws, vs, rfl, rfl, g1.hh _ _ f3, rd_ex g1.kh ha, hne, by rw [f5.length, hv.length]; exact hc, n _ Kn1 _ ?_⟩
  exact (s.grow g1).writeG hj rfl rfl (Ex.refl _) (upd_in g1.kh kp) (fun q hq _ => upd_ne hq) (fun _ _ h => h) ⟨_, upd_same, _, rfl, DK.merge hv (DK.mono g1.kk f5)⟩
end
/-! ### a tuple of a new object and more -/
structure Tgp (β : Type) where
  a : Addr
  b : β
instance {β : Type} [Rp β] : Rp (Tgp β) where
  rep K H v x := ∃ p w, v = .ref p ∧ H p = some (.tup [.ref x.a, w]) ∧ rep K H w x.b
  swap e h := by
    obtain ⟨p, w, h1, h2, h3⟩ := h
    exact ⟨p, w, h1, e.tup h2, Rp.swap e h3⟩
instance {β : Type} [Rp β] : Tn (Tgp β) := ⟨"tuple", fun h => by
  obtain ⟨p, vs, rfl, h1, _⟩ := h
  exact .base (.tup h1)⟩
section
variable {β τ γ : Type} [Rp β] [Tp τ] [Ob γ]
def RPG (K : Fg) (Kn H : Hp) (Q : VK) (x : γ) (y : β) : Prop := ∀ p o v Kn' H', Gr Kn H Kn' H' → H p = none → Kn' p = none → H' p = some o → Ob.ob K Kn' o x → rep K Kn' v (Tgp.mk p y) → Q v H'
def EPG (K : Fg) (F Kn0 : Hp) (sl : List Sl) (ow : List Ow) (te : TE) (x : γ) (y : β) : Prop := ∀ σ Kn H, S K F Kn0 sl ow σ Kn H → ∀ Q : VK, RPG K Kn H Q x y → te σ H Q
def PPG (K : Fg) (f : τ → Option (γ × β × Unit)) : Sp := fun vs H Q _ => ∃ Kn t r, Ex Kn H ∧ rept K Kn vs t ∧ f t = some r ∧ RPG K Kn H Q r.1 r.2.1
def RNPG (K : Fg) (F Kn0 : Hp) (ow : List Ow) (R : VK) (x : γ) (y : β) : Prop := ∀ p o v Kn H, S K F Kn0 [] ow [] Kn H → F p = none → Kn p = none → H p = some o → Ob.ob K Kn o x → rep K Kn v (Tgp.mk p y) → R v H
end
section
variable {K : Fg} {F F' Kn0 Kn1 : Hp} {sl sl' : List Sl} {ow ow0 ow1 : List Ow} {α κ β τ γ δ : Type} [Rp α] [Rp κ] [Ky κ] [DecidableEq κ] [Rp β] [Rp δ] [Tp τ] [Ob γ] {ta : TA} {te : TE} {t : τ} {E : XK} {D : Ends} {i j : Nat} {p : Addr} {x : γ} {y : β} {R R' : VK}
theorem RNPG.base (q : RNPG K F Kn0 ow R x y) (b : Bs F Kn0 Kn1) : RNPG K F Kn1 ow R x y := fun p o v Kn H s => q p o v Kn H (s.unbase b)
theorem RNPG.fr (f : Fle F F') (q : RNPG K F Kn0 ow0 R x y) : RNPG K F' Kn0 ow0 R x y := fun p o v Kn H s h1 h2 h3 h4 h5 => q p o v Kn H (s.back f) (fresh_back f h1) h2 h3 h4 h5
theorem RNPG.mv (q : RNPG K F Kn0 ow0 R x y) (m : Mv K F Kn0 R F' Kn1 R') : RNPG K F' Kn1 ow0 R' x y := fun p o v Kn H s fp kp hp r r2 => by
  obtain ⟨Kn', H', s', h1, h2, h3⟩ := m.st _ _ _ _ _ s
  exact h1 _ (q p o v Kn' H' s' (m.fn p fp) (h3 p kp).1 ((h3 p kp).2.trans hp) (Ob.swap h2 r) (Rp.swap h2 r2))
theorem rnpg_of {H Kn : Hp} {Q : VK} (q : RPG K Kn H Q x y) : RNPG K H Kn [] Q x y := fun p o v Kn' H' s h1 h2 h3 h4 h5 => q p o v Kn' H' ⟨s.e0, s.ef, s.ek, s.sep⟩ h1 h2 h3 h4 h5
theorem epg_call {f : τ → Option (γ × β × Unit)} {r : γ × β × Unit} (h : EA K F Kn0 sl ow ta t) (hf : f t = some r) : EPG K F Kn0 sl ow (tCall (PPG K f) [] E ta) r.1 r.2.1 := fun σ Kn H s Q q =>
  h σ Kn H s _ fun vs Kn1 H1 g1 r1 => by
    show PPG K f (vs ++ []) H1 Q E
    rw [List.append_nil]
    exact ⟨Kn1, t, r, g1.kh, r1, hf, fun p o v Kn' H' g' h1 h2 h3 h4 h5 => q p o v Kn' H' (g1.trans g') (fresh_back g1.hh h1) h2 h3 h4 h5⟩
theorem EPG.ev {d : Dc κ δ} (h : EPG K F Kn0 sl ow te d y) : EV K F Kn0 sl ow te (d, y, ()) := fun σ Kn H s Q q => h σ Kn H s Q fun p o v Kn' H' g hp kp ho r r2 => by
  obtain ⟨ws, rfl, r⟩ := r
  obtain ⟨pt, w, rfl, ht, rw'⟩ := r2
  have n : pt ≠ p := fun z => by rw [z, kp] at ht; cases ht
  exact q _ (upd Kn' p (Ky.ho ws)) H' (g.know hp kp ho) ⟨pt, _, rfl, by rw [upd_ne n]; exact ht, .ref p, _, rfl, ⟨p, ws, rfl, Rd.of upd_same, DK.mono (Ex.new kp) r⟩, w, _, rfl, Rp.mono (Ex.new kp) rw', rfl⟩
theorem EPG.cast {x' : γ} {y' : β} (h : EPG K F Kn0 sl ow te x y) (e1 : x = x') (e2 : y = y') : EPG K F Kn0 sl ow te x' y' := e1 ▸ e2 ▸ h
/-- t = f(..): the object is one's own -/
theorem sb_asgPG {sl' : Addr → List Sl} (hs : ∀ p, sl.set i (sv (Tgp.mk p y)) = sl' p) (h : EPG K F Kn0 sl ow te x y) (k : ∀ p, SN K F Kn0 (sl' p) (oo p x :: ow) D) : SB K F Kn0 sl ow D (tAsg te (gName i)) := fun σ Kn H s =>
  h σ Kn H s _ fun p o v Kn1 H1 g1 hp kp ho r1 r2 => k p _ Kn1 H1 (hs p ▸ ((s.grow g1).ownG (p := p) (o := oo p x) rfl (fresh_back s.ef hp) kp (owned_ne s hp) ⟨o, ho, r1⟩).setv (x := Tgp.mk p y) i r2)
theorem S.seta' {σ : L2.St} {Kn H : Hp} (s : S K F Kn0 sl ow σ Kn H) (i : Nat) : S K F Kn0 (sl.set i (.at p)) ow (σ.set i (some (.ref p))) Kn H := s.set i rfl
/-- a, b = t -/
theorem sb_unpTg (hs : (sl.set i (.at p)).set j (sv y) = sl') (h : EV K F Kn0 sl ow te (Tgp.mk p y)) (k : SN K F Kn0 sl' ow D) : SB K F Kn0 sl ow D (tAsg te (gTup K 2 (gCons (gName i) (gCons (gName j) gNil)))) := fun σ Kn H s => h σ Kn H s _ fun v Kn' H' g r => by
  obtain ⟨pt, w, rfl, ht, rw'⟩ := r
  have s1 := s.grow g
  exact ⟨pt, _, rfl, st_of (s1.ek _ _ ht), rfl, .ref p, _, rfl, w, _, rfl, rfl, k _ Kn' H' (hs ▸ ((s1.seta' (p := p) i).setv (x := y) j rw'))⟩
theorem sb_retPG (hi : sl[i]? = some (.at p)) (hj : ow[j]? = some (oo p x)) (h : EV K F Kn0 sl ow te y) (q : RNPG K F Kn0 ow0 R x y) (l : ow0.Sublist ow) (hR : D.rt = R := by rfl) : SB K F Kn0 sl ow D (tRet (tTup (tCons (tVar i) (tCons te tNil)))) := fun σ Kn H s => by
  subst hR
  obtain ⟨o1, a1, a2⟩ := s.sl.get hi
  refine ⟨.ref p, by rw [a1]; exact congrArg some a2, h σ Kn H s _ fun v Kn1 H1 g1 r1 => ⟨by show 2 ≤ sizeLine; exact le_line (by decide), fun pt hp => ?_⟩⟩
  have s1 := s.grow g1
  obtain ⟨f1, f2, ob, f3, f4⟩ := s1.ow.each _ (List.mem_of_getElem? hj)
  have f1 : F p = none := f1
  have f2 : Kn1 p = none := f2
  have g : Gr Kn1 H1 (upd Kn1 pt (.tup [.ref p, v])) (upd H1 pt (.tup [.ref p, v])) := Gr.new s1.ek hp
  have n : p ≠ pt := fun z => by rw [z, hp] at f3; cases f3
  exact q p ob _ _ _ ((s1.grow g).sub l).fin f1 (by rw [upd_ne n]; exact f2) (g.hh _ _ f3) (Ob.mono g.kk f4) ⟨pt, v, rfl, upd_same, Rp.mono g.kk r1⟩
theorem rc_lenTg {x : Tgp β} : RCV K (fun xs H Q => ∃ p ys, xs = [.ref p] ∧ (SqL K H p ys ∨ SqT K H p ys) ∧ Q (.int ys.length) H) (x, ()) (2 : Int) := fun Kn H vs ek h Q q => by
  obtain ⟨v, rfl, p, ws, rfl, h1, h2⟩ := one_arg h
  exact ⟨p, _, rfl, .inr (st_of (ek _ _ h1)), q.fl (z := (2 : Int)) ek⟩
end
section
variable {X : Cx} {K : Fg}
theorem k_neDL (hu : X.A.units + 64 < cLine) (h : X.K = K := by rfl) : OpR X (compareOp .NotEq) (rNeDL K) := h ▸ op_neDL hu
theorem k_eqDT (hu : X.A.units + 64 < cLine) (h : X.K = K := by rfl) : OpR X (compareOp .Eq) (rEqDT K) := h ▸ op_eqDT hu
end
end Wk
/-! Wdeq: == of dicts of whole numbers, alike or not; xs + script; != of truths -/
namespace L2
open PySem PySem.Spec PyProof.Rows
inductive DH (ls : List (Key × V)) : List (Key × V) → Bool → Prop
  | nil : DH ls [] true
  | miss {k : Key} {v : V} {r : List (Key × V)} : valV ls k = none → DH ls ((k, v) :: r) false
  | hit {k : Key} {i j : Int} {r : List (Key × V)} {b : Bool} : valV ls k = some (.int j) → DH ls r b → DH ls ((k, .int i) :: r) (decide (i = j) && b)
theorem dh_hits {A : Around} {s : Shared} {ls : List (Key × V)} {vb : List (Key × Value)} (rb : KV ls vb) {ks : List (Key × V)} {r : Bool} (h : DH ls ks r) : ∀ {va : List (Key × Value)}, KV ks va → PySem.W.KeqHits A s vb va r := by
  induction h with
  | nil =>
    intro va ra
    unfold KV at ra
    cases ra
    exact .nil
  | @miss k v r hv =>
    intro va ra
    unfold KV at ra
    cases ra with
    | @cons _ q _ qs h t =>
      obtain ⟨key, y⟩ := q
      obtain ⟨h1, h2⟩ := h
      have h1 : k = key := h1
      subst h1
      refine .miss ?_
      have := rb.val k
      rw [hv] at this
      cases e : valueAt vb k with
      | none => rfl
      | some z => rw [e] at this; exact False.elim this
  | @hit k i j r b hv _ ih =>
    intro va ra
    unfold KV at ra
    cases ra with
    | @cons _ q _ qs h t =>
      obtain ⟨key, y⟩ := q
      obtain ⟨h1, h2⟩ := h
      have h1 : k = key := h1
      subst h1
      have rr : RelO (some (V.int j)) (valueAt vb k) := by rw [← hv]; exact rb.val k
      obtain ⟨z, hz, rz⟩ := rr.some_of
      obtain ⟨t1, rfl⟩ := h2
      obtain ⟨t2, rfl⟩ := rz
      exact .hit hz (SeqAt.EqAt.int_int i t1 j t2) (ih t)
def rEqDG : R2 := fun x y H Q => ∃ a b ks ls r, x = .ref a ∧ y = .ref b ∧ Rd H a (.dK ks) ∧ Rd H b (.dK ls) ∧ DH ls ks r ∧ Q (.bl (decide (ks.length = ls.length) && r)) H
section
variable {X : Cx}
theorem op_eqDG (hu : X.A.units + 64 < cLine) : OpR X (compareOp .Eq) rEqDG := by
  intro pins s σ H x y v u Q I rx ry h
  obtain ⟨a, b, ks, ls, r, rfl, rfl, ea, eb, hr, q⟩ := h
  obtain rfl : v = Value.ref a := rx
  obtain rfl : u = Value.ref b := ry
  obtain ⟨_, ya, va, ra, da⟩ := dk_rd I.hok ea
  obtain ⟨_, yb, vb, rb, db⟩ := dk_rd I.hok eb
  exact PySem.W.keq_eq (knd := mixKind X.prog X.w) (r := r) ya yb da db (by omega) (fun _ => dh_hits rb hr ra) (fin_bl I q (by rw [← ra.length, ← rb.length]; cases r <;> simp [BEq.beq, Nat.beq_eq]))
def rCatL (K : PySem.W.Frag) : R2 := fun x y H Q => ∃ l b xs zs, x = .ref l ∧ y = .ref b ∧ SqL K H l xs ∧ SqL K H b zs ∧ xs.length + zs.length ≤ sizeLine ∧ ∀ p, H p = none → Q (.ref p) (upd H p (.lst (xs ++ zs)))
theorem op_catL : OpR X (binaryOp .Add) (rCatL X.K) := by
  intro pins s σ H x y v u Q I rx ry h
  obtain ⟨l, b, xs, zs, rfl, rfl, hH, hB, hz, q⟩ := h
  cases rx
  cases ry
  obtain ⟨its, r, p1, _⟩ := I.list hH
  obtain ⟨its2, r2, p2, _⟩ := I.list hB
  have hl := r.length
  have hl2 := r2.length
  obtain ⟨⟨cls, dd, data, sl⟩, n, ho, hc, hd0, hd⟩ := id p1
  obtain ⟨⟨cls2, dd2, data2, sl2⟩, n2, ho2, hc2, hd02, hd2⟩ := id p2
  simp only at hc hd hc2 hd2
  subst hc hd hc2 hd2
  have ea : its.toArray ++ its2.toArray = (its ++ its2).toArray := by simp
  refine concat_meets ⟨_, ho, rfl⟩ ⟨_, ho2, rfl⟩ noFill_list_add seq_list_add F.slot_list_add F.entry_list_add (F.args_list_add_2 _ _) (PyProof.Rows.list_addW l b its.toArray its2.toArray n n2 dd dd2 sl sl2 (by rw [List.size_toArray, List.size_toArray]; omega)) ⟨ho, ho2, ?_⟩
  rw [ea]
  exact ⟨.ref _, _, I.lnew (t' := s.toks) (r.append r2) (by rw [List.length_append]; omega), rfl, q _ I.fresh⟩
end
end L2
namespace Wk
open PySem PySem.Spec L2 Evl
section
variable {K : Fg} {F Kn0 : Hp} {sl sl' : List Sl} {ow ow1 : List Ow} {κ α : Type} [Rp κ] [K1 κ] [DecidableEq κ] [Rp α]
/-- a == b for dicts of whole numbers -/
def eqDG (a b : Dc κ Int) : Bool := decide (a.l.length = b.l.length) && a.l.all fun kv => decide (getD b.l kv.1 = some kv.2)
theorem dh_of {H : Hp} {w2 : List (Key × V)} {bl : List (κ × Int)} (hb : DK K H w2 bl) : ∀ {w1 : List (Key × V)} {al : List (κ × Int)}, DK K H w1 al → DH w2 w1 (al.all fun kv => decide (getD bl kv.1 = some kv.2))
  | [], [], _ => .nil
  | (k, v) :: ws, (x, i) :: al, h => by
    unfold DK at h
    cases h with
    | cons q t =>
      obtain ⟨q1, q2⟩ := q
      have q1 : k = K1.key x := q1
      have q2 : v = .int i := q2
      subst q1 q2
      rw [List.all_cons]
      rcases hb.get x with ⟨z, zv⟩ | ⟨y, u, z1, z2, z3⟩
      · have e : decide (getD bl (x, i).1 = some (x, i).2) = false := by
          rw [show getD bl (x, i).1 = none from z]; simp
        rw [e, Bool.false_and]
        exact .miss zv
      · have z3 : u = .int y := z3
        subst z3
        have e : decide (getD bl (x, i).1 = some (x, i).2) = decide (i = y) := by
          rw [show getD bl (x, i).1 = some y from z1]
          exact decide_eq_decide.mpr ⟨fun h => (Option.some.inj h).symm, fun h => congrArg some h.symm⟩
        rw [e]
        exact .hit z2 (dh_of hb t)
theorem r2_eqDG {a b : Dc κ Int} : R2V K rEqDG a b (eqDG a b) := fun Kn H v w ek h1 h2 Q q => by
  obtain ⟨p1, w1, rfl, a1, a2⟩ := h1
  obtain ⟨p2, w2, rfl, b1, b2⟩ := h2
  refine ⟨p1, p2, w1, w2, _, rfl, rfl, rd_ex ek a1, rd_ex ek b1, dh_of b2 a2, ?_⟩
  rw [a2.length, b2.length]
  exact q.fl (z := eqDG a b) ek
theorem r2_neB {i j : Bool} : R2V K rNe i j (!decide (i = j)) := fun Kn H v w ek h1 h2 Q q => by
  cases h1
  cases h2
  refine ⟨rfl, ?_⟩
  have e : decide (V.bl i = V.bl j) = decide (i = j) := by simp
  rw [e]
  exact q.fl (z := !decide (i = j)) ek
/-- xs + script -/
def catF (xs : List α) (ys : Fz α) : Option (List α) := if xs.length + ys.l.length ≤ 1000000 then some (xs ++ ys.l) else none
theorem r2_catF {xs zs : List α} {ys : Fz α} (h : catF xs ys = some zs) : R2L K (rCatL K) xs ys zs := fun Kn H v w ek h1 h2 Q q => by
  obtain ⟨p1, w1, rfl, a1, a2⟩ := h1
  obtain ⟨p2, w2, rfl, b1, b2⟩ := h2
  unfold catF at h
  split at h
  case isFalse => cases h
  rename_i hc
  cases h
  have hs0 : (1000000 : Nat) ≤ sizeLine := by decide
  refine ⟨p1, p2, w1, w2, rfl, rfl, SqL.of (ek _ _ a1), ex_l ek b1, ?_, fun p hp => ?_⟩
  · rw [Paired.length a2, Paired.length b2]; omega
  · exact q p _ Kn _ (Gr.newU ek hp) hp (fresh_back ek hp) upd_same (paired_append a2 b2)
end
section
variable {X : Cx} {K : Fg}
theorem k_eqDG (hu : X.A.units + 64 < cLine) : OpR X (compareOp .Eq) rEqDG := op_eqDG hu
theorem k_catL (h : X.K = K := by rfl) : OpR X (binaryOp .Add) (rCatL K) := h ▸ op_catL
end
end Wk
/-! Wmin: min, max of a list of whole numbers. -/
namespace Wk
open PySem PySem.Spec L2 Evl
def minG : Int → List Int → Int
  | m, [] => m
  | m, x :: xs => minG (min m x) xs
def maxG : Int → List Int → Int
  | m, [] => m
  | m, x :: xs => maxG (max m x) xs
def minL : List Int → Option Int
  | [] => none
  | x :: xs => some (minG x xs)
def maxL : List Int → Option Int
  | [] => none
  | x :: xs => some (maxG x xs)
theorem minG_spec : ∀ (xs : List Int) (m : Int), (minG m xs = m ∨ minG m xs ∈ xs) ∧ minG m xs ≤ m ∧ ∀ x ∈ xs, minG m xs ≤ x
  | [], m => ⟨.inl rfl, Int.le_refl _, (fun _ h => nomatch h)⟩
  | y :: ys, m => by
    obtain ⟨h1, h2, h3⟩ := minG_spec ys (min m y)
    show (minG (min m y) ys = m ∨ minG (min m y) ys ∈ y :: ys) ∧ minG (min m y) ys ≤ m ∧ ∀ x ∈ y :: ys, minG (min m y) ys ≤ x
    refine ⟨?_, by omega, fun x hx => ?_⟩
    · rcases h1 with h1 | h1
      · by_cases e : m ≤ y
        · exact .inl (h1.trans (by omega))
        · exact .inr (by rw [h1, show min m y = y by omega]; exact List.mem_cons_self)
      · exact .inr (List.mem_cons_of_mem _ h1)
    · rcases List.mem_cons.mp hx with rfl | hx
      · omega
      · exact h3 x hx
theorem maxG_spec : ∀ (xs : List Int) (m : Int), (maxG m xs = m ∨ maxG m xs ∈ xs) ∧ m ≤ maxG m xs ∧ ∀ x ∈ xs, x ≤ maxG m xs
  | [], m => ⟨.inl rfl, Int.le_refl _, (fun _ h => nomatch h)⟩
  | y :: ys, m => by
    obtain ⟨h1, h2, h3⟩ := maxG_spec ys (max m y)
    show (maxG (max m y) ys = m ∨ maxG (max m y) ys ∈ y :: ys) ∧ m ≤ maxG (max m y) ys ∧ ∀ x ∈ y :: ys, x ≤ maxG (max m y) ys
    refine ⟨?_, by omega, fun x hx => ?_⟩
    · rcases h1 with h1 | h1
      · by_cases e : y ≤ m
        · exact .inl (h1.trans (by omega))
        · exact .inr (by rw [h1, show max m y = y by omega]; exact List.mem_cons_self)
      · exact .inr (List.mem_cons_of_mem _ h1)
    · rcases List.mem_cons.mp hx with rfl | hx
      · omega
      · exact h3 x hx
theorem minL_spec {xs : List Int} {m : Int} (h : minL xs = some m) : m ∈ xs ∧ ∀ x ∈ xs, m ≤ x := by
  match xs, h with
  | y :: ys, h =>
    cases h
    obtain ⟨h1, h2, h3⟩ := minG_spec ys y
    refine ⟨?_, fun x hx => ?_⟩
    · rcases h1 with h1 | h1
      · rw [h1]
        exact List.mem_cons_self
      · exact List.mem_cons_of_mem _ h1
    · rcases List.mem_cons.mp hx with rfl | hx
      · exact h2
      · exact h3 x hx
theorem maxL_spec {xs : List Int} {m : Int} (h : maxL xs = some m) : m ∈ xs ∧ ∀ x ∈ xs, x ≤ m := by
  match xs, h with
  | y :: ys, h =>
    cases h
    obtain ⟨h1, h2, h3⟩ := maxG_spec ys y
    refine ⟨?_, fun x hx => ?_⟩
    · rcases h1 with h1 | h1
      · rw [h1]
        exact List.mem_cons_self
      · exact List.mem_cons_of_mem _ h1
    · rcases List.mem_cons.mp hx with rfl | hx
      · exact h2
      · exact h3 x hx
theorem rc_minL {K : Fg} {xs : List Int} {m : Int} (hm : minL xs = some m) : RCV K (rMin K) (xs, ()) m := fun Kn H vs ek h Q q => by
  obtain ⟨v, rfl, p, ws, rfl, h1, h2⟩ := one_arg h
  have e := paired_fl h2
  subst e
  obtain ⟨s1, s2⟩ := minL_spec hm
  refine ⟨p, xs, rfl, sq_of (ek _ _ h1), List.length_pos_of_mem s1, fun k hk hle => ?_⟩
  have e : k = m := by
    have := s2 k hk
    have := hle m s1
    omega
  subst e
  exact q.fl ek
theorem rc_maxL {K : Fg} {xs : List Int} {m : Int} (hm : maxL xs = some m) : RCV K (rMax K) (xs, ()) m := fun Kn H vs ek h Q q => by
  obtain ⟨v, rfl, p, ws, rfl, h1, h2⟩ := one_arg h
  have e := paired_fl h2
  subst e
  obtain ⟨s1, s2⟩ := maxL_spec hm
  refine ⟨p, xs, rfl, sq_of (ek _ _ h1), List.length_pos_of_mem s1, fun k hk hle => ?_⟩
  have e : k = m := by
    have := s2 k hk
    have := hle m s1
    omega
  subst e
  exact q.fl ek
section
variable {X : Cx} {K : Fg}
theorem k_maxL (hc : X.calm = true := by rfl) (h : X.K = K := by rfl) : CallR X (.builtin "max") (rMax K) := h ▸ cr_max hc
theorem k_minL (hc : X.calm = true := by rfl) (h : X.K = K := by rfl) : CallR X (.builtin "min") (rMin K) := h ▸ cr_min hc
end
end Wk
/-! lists of one's own, lent where a tuple of plain values comes -/
namespace Wk
open PySem PySem.Spec L2 Evl
def del (Kn : Hp) (p : Addr) : Hp := fun a => if a = p then none else Kn a
theorem del_ne {Kn : Hp} {p a : Addr} (h : a ≠ p) : del Kn p a = Kn a := if_neg h
theorem del_same {Kn : Hp} {p : Addr} : del Kn p p = none := if_pos rfl
class Nl (α : Type) [Rp α] where
  out : ∀ {K : Fg} {Kn : Hp} {p : Addr} {ws : List V} {v : V} {x : α}, Kn p = some (.lst ws) → rep K Kn v x → rep K (del Kn p) v x
class NlT (τ : Type) [Tp τ] where
  out : ∀ {K : Fg} {Kn : Hp} {p : Addr} {ws vs : List V} {t : τ}, Kn p = some (.lst ws) → rept K Kn vs t → rept K (del Kn p) vs t
instance : Nl Int := ⟨fun _ h => h⟩
instance : Nl Bool := ⟨fun _ h => h⟩
instance : Nl Str := ⟨fun _ h => h⟩
instance : NlT Unit := ⟨fun _ h => h⟩
instance {α τ : Type} [Rp α] [Tp τ] [Nl α] [NlT τ] : NlT (α × τ) := ⟨fun e h => by
  obtain ⟨v, r, h1, h2, h3⟩ := h
  exact ⟨v, r, h1, Nl.out e h2, NlT.out e h3⟩⟩
instance {α τ : Type} [Rp α] [Tp τ] [NlT (α × τ)] : Nl (α × τ) := ⟨fun {K Kn p ws v x} e h => by
  obtain ⟨q, vs, h1, h2, h3⟩ := h
  have hne : q ≠ p := fun z => by
    rw [z, e] at h2
    cases h2
  exact ⟨q, vs, h1, (del_ne hne).trans h2, NlT.out (τ := α × τ) e h3⟩⟩
theorem ev_borT {K : Fg} {F Kn0 : Hp} {sl sl' : List Sl} {ow ow1 : List Ow} {α γ : Type} [Rp α] [Rp γ] {te : TE} {i j : Nat} {p : Addr} [Nl γ] {z : γ} {xs : List α} (hi : sl[i]? = some (.at p)) (hj : ow[j]? = some (ol p xs)) (hs : sl.set i (sv xs) = sl') (ho : ow.eraseIdx j = ow1) (h : EV K F Kn0 sl' ow1 te z) : EV K F Kn0 sl ow te z := fun σ Kn H s Q q => by
  obtain ⟨ws, kp, hp, s1⟩ := s.borrow hi hj
  subst hs
  subst ho
  refine h σ _ H s1 Q fun v Kn' H' g r => q v (del Kn' p) H' ⟨fun a u h => ?_, g.hh, fun a u h => ?_, fun a h1 h2 => ?_⟩ (Nl.out (g.kk _ _ upd_same) r)
  · have hne : a ≠ p := fun z => by
      rw [z, kp] at h
      cases h
    rw [del_ne hne]
    exact g.kk _ _ (by rw [upd_ne hne]; exact h)
  · by_cases e : a = p
    · subst e
      rw [del_same] at h
      cases h
    · rw [del_ne e] at h
      exact g.kh _ _ h
  · by_cases e : a = p
    · rw [e]
      exact del_same
    · rw [del_ne e]
      exact g.sp a h1 (by rw [upd_ne e]; exact h2)
end Wk
/-! Wmix: slices of tuples and texts, extend, a list of unlike things -/
namespace Wk
open PySem PySem.Spec L2 Evl
/-- the places from a on, b of them -/
inductive Cu : {τ : Type} → [Tp τ] → Nat → Nat → {υ : Type} → [Tp υ] → τ → υ → Prop
  | nil {τ : Type} [Tp τ] (t : τ) : Cu 0 0 t ()
  | take {α τ υ : Type} [Rp α] [Tp τ] [Tp υ] {b : Nat} (x : α) {t : τ} {u : υ} : Cu 0 b t u → Cu 0 (b + 1) (x, t) (x, u)
  | drop {α τ υ : Type} [Rp α] [Tp τ] [Tp υ] {a b : Nat} (x : α) {t : τ} {u : υ} : Cu a b t u → Cu (a + 1) b (x, t) u
theorem Cu.get {K : Fg} {H : Hp} {τ : Type} [i : Tp τ] {a b : Nat} {υ : Type} [j : Tp υ] {t : τ} {u : υ} (h : Cu a b t u) : ∀ {vs : List V}, rept K H vs t → rept K H ((vs.drop a).take b) u := by
  induction h with
  | nil t => exact fun _ => rfl
  | take x _ ih =>
    intro vs r
    obtain ⟨v, r, rfl, h1, h2⟩ := r
    exact ⟨v, _, rfl, h1, ih h2⟩
  | drop x _ ih =>
    intro vs r
    obtain ⟨v, r, rfl, h1, h2⟩ := r
    exact ih h2
structure Hl (τ : Type) where
  t : τ
  deriving DecidableEq
instance {τ : Type} [Tp τ] : Rp (Hl τ) where
  rep K H v x := ∃ p vs, v = .ref p ∧ H p = some (.lst vs) ∧ rept K H vs x.t
  swap e h := by
    obtain ⟨p, vs, h1, h2, h3⟩ := h
    exact ⟨p, vs, h1, e.lst h2, Tp.swap e h3⟩
instance {τ : Type} [Tp τ] [Pq τ] : Pd (Hl τ) where
  toD x := .list (Pq.toDs x.t)
  dp := Pq.dp τ + 1
  isD h := by
    obtain ⟨p, vs, rfl, h1, h2⟩ := h
    exact .lst (sq_of h1) (Pq.isD h2)
  dep a := by
    simp only [PyData.depth]
    exact Nat.succ_le_succ (Pq.dep a.t)
  eqd a b := by
    simp only [PyData.eqv]
    rw [Pq.eqd]
    cases a
    cases b
    simp
def cutSO (z : Str) (lo hi : Option Int) : Option Str := if z.length ≤ 1000000 then some (cutS z lo hi) else none
section
variable {K : Fg} {F Kn0 : Hp} {sl sl' : List Sl} {ow ow1 ow2 : List Ow} {α β γ τ υ : Type} [Rp α] [Rp β] [Rp γ] [Tp τ] [Tp υ] {ta : TA} {tb te : TE} {D : Ends} {i j : Nat} {p : Addr}
theorem ev_tsl {t : α × τ} {u : β × υ} {tl th : TO} {lo hi : Option Int} {a b : Nat} (h : EV K F Kn0 sl ow te t) (hl : EO K F Kn0 sl ow tl lo) (hh : EO K F Kn0 sl ow th hi)
    (ha : HT.sIx (Tp.n (α × τ)) 0 lo = a) (hb : HT.sIx (Tp.n (α × τ)) (Tp.n (α × τ)) hi - a = b) (hw : ¬ (HT.sIx (Tp.n (α × τ)) 0 lo = 0 ∧ HT.sIx (Tp.n (α × τ)) (Tp.n (α × τ)) hi = Tp.n (α × τ))) (hc : Cu a b t u) :
    EV K F Kn0 sl ow (tSl (rSlT K) te tl th) u := fun σ Kn H s Q q =>
  h σ Kn H s _ fun v Kn1 H1 g1 r1 => hl σ Kn1 H1 (s.grow g1) _ fun Kn2 H2 g2 => hh σ Kn2 H2 ((s.grow g1).grow g2) _ fun Kn3 H3 g3 => by
    obtain ⟨p, ws, rfl, h3, h4⟩ := r1
    have g : Gr Kn H Kn3 H3 := (g1.trans g2).trans g3
    have e13 : Ex Kn1 Kn3 := g2.kk.trans g3.kk
    have el := Tp.len h4
    refine ⟨p, ws, rfl, st_of ((e13.trans g3.kh) _ _ h3), by rw [el]; exact hw, fun l hl => ?_⟩
    have gn := Gr.new (o := .tup (cutV ws lo hi)) g3.kh hl
    refine q _ _ _ (g.trans gn) ⟨l, _, rfl, upd_same, ?_⟩
    have := hc.get (Tp.mono (e13.trans gn.kk) h4)
    have e : cutV ws lo hi = (ws.drop a).take b := by
      unfold cutV
      rw [el, ha, hb]
    rw [e] at this ⊢
    exact this
theorem ev_slS {z r : Str} {tl th : TO} {lo hi : Option Int} (h : EV K F Kn0 sl ow te z) (hl : EO K F Kn0 sl ow tl lo) (hh : EO K F Kn0 sl ow th hi) (hz : cutSO z lo hi = some r) : EV K F Kn0 sl ow (tSl rSlS te tl th) r := fun σ Kn H s Q q =>
  h σ Kn H s _ fun v Kn1 H1 g1 r1 => hl σ Kn1 H1 (s.grow g1) _ fun Kn2 H2 g2 => hh σ Kn2 H2 ((s.grow g1).grow g2) _ fun Kn3 H3 g3 => by
    cases r1
    unfold cutSO at hz
    split at hz
    · rename_i hq
      cases hz
      exact ⟨z, rfl, le_line hq, q _ Kn3 H3 ((g1.trans g2).trans g3) rfl⟩
    · cases hz
theorem ev_hl {t : τ} (h : EA K F Kn0 sl ow ta t) (hz : Tp.n τ ≤ 1000000 := by decide) : EV K F Kn0 sl ow (tLst ta) (Hl.mk t) := fun σ Kn H s Q q =>
  h σ Kn H s _ fun vs Kn1 H1 g1 r1 => ⟨by rw [Tp.len r1]; exact le_line hz, fun p hp =>
    q _ (upd Kn1 p (.lst vs)) _ (g1.trans (Gr.new g1.kh hp)) ⟨p, vs, rfl, upd_same, Tp.mono (Gr.new g1.kh hp).kk r1⟩⟩
theorem r2_hix {t : Hl τ} {n : Nat} {z : γ} (h : At n t.t z) : R2V K (rIxL K) t (n : Int) z := fun Kn H v w ek h1 h2 Q q => by
  obtain ⟨p, ws, rfl, h3, h4⟩ := h1
  cases h2
  obtain ⟨u, e, r⟩ := h.get h4
  exact ⟨p, ws, n, u, rfl, rfl, sq_of (ek _ _ h3), atI_nat e, q.at ek r⟩
theorem k_slt {X : Cx} (h : X.K = K := by rfl) : SlR X (rSlT K) := h ▸ sl_tup
/-- xs.extend(ys), xs one's own -/
theorem sb_extO {xs ys zs : List α} (hi : sl[i]? = some (.at p)) (hj : ow[j]? = some (ol p xs)) (h : EV K F Kn0 sl ow te ys) (hz : catO xs ys = some zs) (ho : ow.set j (ol p zs) = ow1) (k : SN K F Kn0 sl ow1 D) :
    SB K F Kn0 sl ow D (tDrop (tBM K "list" rExtend (tVar i) (tCons te tNil))) := fun σ Kn H s => by
  obtain ⟨o, h1, h2⟩ := s.sl.get hi
  obtain ⟨f1, f2, ws, f3, f4⟩ := s.ow.each _ (List.mem_of_getElem? hj)
  unfold catO at hz
  split at hz
  case isFalse => cases hz
  rename_i hq
  cases hz
  refine ⟨.ref p, by rw [h1]; exact congrArg some h2, Or.inl ⟨rfl, ws, sq_of f3⟩, h σ Kn H s _ fun v Kn1 H1 g1 r1 => ?_⟩
  obtain ⟨b, vs, rfl, h3, h4⟩ := r1
  refine ⟨p, b, ws, vs, rfl, rfl, g1.hh _ _ f3, g1.kh _ _ h3, by rw [paired_len f4, paired_len h4]; exact le_line hq, k _ Kn1 _ ?_⟩
  have kp1 : Kn1 p = none := g1.sp p (ne_none_of f3) f2
  subst ho
  exact (s.grow g1).write hj (Ex.refl _) (upd_in g1.kh kp1) (fun q hq _ => upd_ne hq) (fun _ _ h => h) upd_same (paired_append (paired_mono g1.kk f4) h4)
end
end Wk
set_option maxHeartbeats 4000000
/-! Wset: set(xs), sorted(set(xs)) of a list of whole numbers. -/
namespace L2
open PySem PySem.Spec PyProof.Rows
section
variable {P : Program} {w : World} {A : Around} {E : Value → Shared → Prop} {s : Shared}
abbrev newSetO (w : World) : Obj := { cls := .type "set", dict := none, data := .set #[] 0 (.fresh 0 0 (!w.params.followText "set-order")) }
theorem call_set_lstI {l : Addr} {items : Array Value} (ns : List Int) {Q : Value → Shared → Prop} (hh : A.handled = none) (hl : s.heap.IsList l items) (hit : IntsAre items.toList ns) (hb : ns.length + 1 < scanBound)
    (h : ∀ (h' : Heap) (tk c : Nat), SetR w h' s.heap.objs.size (fun j => decide (j ∈ ns)) c → c ≤ ns.length → (∀ b o, s.heap.get? b = some o → h'.get? b = some o) → Q (.ref s.heap.objs.size) { s with heap := h', toks := tk }) :
    wpAny (model P w) A (call (.type "set") [.ref l]) Q E s := by
  have hisz : items.size = ns.length := by
    have q := IntsAre.length hit
    rw [Array.length_toList] at q
    exact q
  obtain ⟨c, tl, hmro⟩ := F.called_set.mro
  have hmade := F.called_set.made
  have hsub := F.called_set.sub
  refine wpAny_call (codeAny_of_tree ?_)
  show wpAny _ _ (callAny (.type "set") _) _ _ _
  refine wpAny_pure ⟨Code.quiet_builtin _ (by decide +kernel), codeAny_builtin F.entry_type_call ?_⟩
  rw [Around.under_plain (weight_type_call_type "set" [.ref l] []) rfl]
  have h1 := F.called_set.notType
  have h2 := F.called_set.canCreate
  have hct := F.typeCall_set_1 (.ref l)
  repeat (any_goals (first | assumption | wp_step))
  refine codeAny_mono (code_set_led1 (.ref l) (E := E) (Q₁ := fun obj s₁ => obj = .ref s.heap.objs.size ∧ s₁ = { s with heap := s.heap.push (newSetO w) }) ⟨rfl, rfl⟩) fun r s₁ hr => ?_
  cases r with
  | error e => exact hr
  | ok fl =>
    cases fl with
    | ret obj =>
      obtain ⟨rfl, rfl⟩ := hr
      have hS : (s.heap.push (newSetO w)).get? s.heap.objs.size = some (newSetO w) := Heap.get?_push_size _ rfl
      have hT : Shared.TypeIs { s with heap := s.heap.push (newSetO w) } (.ref s.heap.objs.size) "set" := ⟨_, hS, rfl⟩
      have hli := F.called_set.init.lookup
      have hbi := F.called_set.init.bind (.ref s.heap.objs.size)
      repeat (any_goals (first | assumption | wp_step))
      refine codeAny_mono (codeAny_call_builtin (R := wants (fun r s₂ => r = .none ∧ ∃ h' tk c, s₂ = { s with heap := h', toks := tk } ∧ SetR w h' s.heap.objs.size (fun j => decide (j ∈ ns)) c ∧ c ≤ ns.length ∧
          (∀ b o, s.heap.get? b = some o → h'.get? b = some o)) E) F.called_set.init.plain F.entry_set_init (check_set_init_1 hT ?_)) fun r₂ s₂ hr₂ => ?_
      · obtain ⟨ol, hol, hcl, nl, hdl⟩ := hl
        obtain ⟨ocls, odict, odata, oslots⟩ := ol
        simp only at hcl hdl
        subst hcl
        subst hdl
        have hol' : (s.heap.push (newSetO w)).get? l = some { cls := .type "list", dict := odict, data := .seq items nl, slots := oslots } := Heap.get?_push_of_some _ hol
        have hsls := F.sub_list_set
        have hslf := F.sub_list_frozenset
        have hne : (Value.type "list" == Value.type "dict") = false := by decide
        have hl1 : (s.heap.push (newSetO w)).IsList l items := ⟨_, hol', rfl, nl, rfl⟩
        unfold Builtin.«set.__init__» noKeywords Builtin.Frozenset.updateFrom
        generalize hPI : pyIter = PI
        wp_walk
        subst hPI
        refine wpAny_pyIter_list hl1 ?_
        refine wpAny_bind (wpAny_runValue ?_)
        have hlS : l < s.heap.objs.size := Heap.lt_size hol
        have hh3 : A.in1.in1.in1.handled = none := by simp [hh]
        have hneI : l ≠ (s.heap.push (newSetO w)).objs.size := by
          rw [Heap.size_push]
          exact Nat.ne_of_lt (Nat.lt_succ_of_lt hlS)
        have hSf : s.heap.objs.size ∉ [(s.heap.push (newSetO w)).objs.size, l] := by
          rw [Heap.size_push]
          simp only [List.mem_cons, List.mem_singleton, List.not_mem_nil, or_false, not_or]
          exact ⟨Nat.ne_of_lt (Nat.lt_succ_self _), Nat.ne_of_gt hlS⟩
        have hval : ∀ (i : Nat) (v : Value), items[i]? = some v → ∃ k t, ns[i]? = some k ∧ v = .int k t := fun i v hv => by
          have hi : i < ns.length := by
            rw [← hisz]
            exact (Array.getElem?_eq_some_iff.mp hv).1
          obtain ⟨t, e⟩ := IntsAre.int_at hit i v (by rw [Array.getElem?_toList]; exact hv)
          refine ⟨ns[i], t, List.getElem?_eq_getElem hi, ?_⟩
          rw [e, List.getD_eq_getElem?_getD, List.getElem?_eq_getElem hi] <;> rfl
        refine set_update_ints ((Walks.list hh3 _ l hneI items).toS) s.heap.objs.size hSf ns hisz hb hval (items.size - 0) 0 _ (by omega) (Nat.zero_le _)
          ⟨⟨_, Heap.get?_push_size _ rfl, rfl, rfl⟩, (hl1.push _)⟩ ?hS0 ?hR
        case hS0 =>
          exact ⟨0, Nat.le_refl 0, setR_new_at (Heap.get?_push_of_some _ hS)⟩
        case hR =>
          intro s' c' hm hc' hS'
          obtain ⟨h', g2, d', tk', os'⟩ := s'
          obtain rfl : g2 = s.gens := hm.gens
          obtain rfl : d' = s.drawn := hm.drawn
          obtain rfl : os' = s.os := hm.os
          show wpAny _ _ _ _ _ _
          refine wpAny_pure ?_
          show wpAny _ _ (ret Value.none) _ _ _
          rw [hisz] at hc'
          refine wpAny_pure ⟨rfl, h', tk', c', rfl, hS', hc', fun b o e => ?_⟩
          have hb0 : b < s.heap.objs.size := Heap.lt_size e
          have hb2 : b ≠ (s.heap.push (newSetO w)).objs.size := by
            rw [Heap.size_push]
            exact Nat.ne_of_lt (Nat.lt_succ_of_lt hb0)
          exact hm.heap b o (by simp only [List.mem_cons, List.mem_singleton, List.not_mem_nil, or_false, not_or]; exact ⟨Nat.ne_of_lt hb0, hb2⟩) (Heap.get?_push_of_some _ (Heap.get?_push_of_some _ e))
      · cases r₂ with
        | error e => exact hr₂
        | ok fl₂ =>
          cases fl₂ with
          | ret r =>
            obtain ⟨rfl, h', tk, c', rfl, hS', hc', hk'⟩ := hr₂
            repeat (any_goals (first | assumption | wp_step))
            exact h _ _ _ hS' hc' hk'
          | _ => exact hr₂.elim
    | _ => exact hr.elim
end
section
variable {X : Cx}
/-- set(xs), xs a list of whole numbers -/
def rSetI (K : PySem.W.Frag) (w : World) : List V → Hp → VK → Prop := fun xs H Q => ∃ (l : Addr) (ns : List Int), xs = [V.ref l] ∧ SqL K H l (ns.map V.int) ∧ ns.length + 1 < scanBound ∧
  ∀ p c, c ≤ ns.length → H p = none → Q (.ref p) (upd H p (SetO w p (fun j => decide (j ∈ ns)) c))
theorem cr_setI (hc : X.calm = true) : CallR X (.type "set") (rSetI X.K X.w) := by
  intro pins s σ H xs us Q I r h
  obtain ⟨l, ns, rfl, hs, hb, q⟩ := h
  obtain ⟨its, rv, hl, hz⟩ := I.list hs
  rw [Vals.ref1 r]
  refine call_set_lstI ns (I.ok.hd hc) hl.isList (by simpa using rv.ints) hb fun h' tk c R hcn k => ?_
  exact ⟨.ref s.heap.objs.size, upd H s.heap.objs.size (SetO X.w s.heap.objs.size (fun j => decide (j ∈ ns)) c), I.laid (h' := h') (t' := tk) k (Nat.le_refl _) (setO_new R), rfl, q _ c hcn (I.hok.fresh (Nat.le_refl _))⟩
end
end L2
namespace Wk
open PySem PySem.Spec L2 Evl
/-- set(xs), sorted: rising, each once -/
def IsSS (xs ns : List Int) : Prop := ns.Pairwise (· < ·) ∧ (∀ k : Int, k ∈ ns ↔ k ∈ xs) ∧ ns.length ≤ xs.length
theorem ss_one : ∀ {a b : List Int}, a.Pairwise (· < ·) → b.Pairwise (· < ·) → (∀ k : Int, k ∈ a ↔ k ∈ b) → a = b
  | [], [], _, _, _ => rfl
  | [], y :: b, _, _, h => absurd ((h y).mpr List.mem_cons_self) (by simp)
  | x :: a, [], _, _, h => absurd ((h x).mp List.mem_cons_self) (by simp)
  | x :: a, y :: b, ha, hb, h => by
    rw [List.pairwise_cons] at ha hb
    have e : x = y := by
      rcases List.mem_cons.mp ((h x).mp List.mem_cons_self) with e | h1
      · exact e
      · rcases List.mem_cons.mp ((h y).mpr List.mem_cons_self) with e | h2
        · exact e.symm
        · have := hb.1 x h1
          have := ha.1 y h2
          omega
    subst e
    rw [ss_one ha.2 hb.2 fun k => ?_]
    constructor
    · intro hk
      rcases List.mem_cons.mp ((h k).mp (List.mem_cons_of_mem _ hk)) with e | h1
      · have := ha.1 k hk
        omega
      · exact h1
    · intro hk
      rcases List.mem_cons.mp ((h k).mpr (List.mem_cons_of_mem _ hk)) with e | h1
      · have := hb.1 k hk
        omega
      · exact h1
open Classical in
noncomputable def sset (xs : List Int) : List Int := if h : ∃ ns, IsSS xs ns then h.choose else []
theorem sset_eq {xs ns : List Int} (h : IsSS xs ns) : ns = sset xs := by
  have e : ∃ ns, IsSS xs ns := ⟨ns, h⟩
  unfold sset
  rw [dif_pos e]
  exact ss_one h.1 e.choose_spec.1 fun k => (h.2.1 k).trans (e.choose_spec.2.1 k).symm
theorem sset_len (xs : List Int) : (sset xs).length ≤ xs.length := by
  unfold sset
  split
  · next h => exact h.choose_spec.2.2
  · exact Nat.zero_le _
noncomputable def ssetO (xs : List Int) : Option (List Int) := if xs.length < 60 then some (sset xs) else none
theorem ssetO_ok {xs : List Int} (h : xs.length < 60) : ssetO xs = some (sset xs) := if_pos h
section
variable {K : Fg} {F Kn0 : Hp} {sl sl' : List Sl} {ow ow1 : List Ow} {α γ : Type} [Rp α] [Rp γ] {te : TE} {D : Ends} {i j : Nat} {p : Addr} {w : World}
theorem en_sset {xs zs : List Int} (h : EV K F Kn0 sl ow te xs) (hz : ssetO xs = some zs) : EN K F Kn0 sl ow (tCB (rSortedSet w) (tCons (tCB (rSetI K w) (tCons te tNil)) tNil)) zs := fun σ Kn H s Q q => by
  unfold ssetO at hz
  split at hz
  · case isTrue hl =>
    cases hz
    refine h σ Kn H s _ fun v Kn1 H1 g1 r1 => ?_
    obtain ⟨a, ws, rfl, h1, h2⟩ := r1
    have e := paired_fl h2
    subst e
    refine ⟨a, xs, rfl, sq_of (g1.kh _ _ h1), by unfold scanBound; omega, fun p c hc hp => ?_⟩
    refine ⟨p, _, c, rfl, upd_same, by omega, fun ns l pw hm hn hl2 => ?_⟩
    have g2 : Gr Kn1 H1 Kn1 (upd H1 p (SetO w p (fun j => decide (j ∈ xs)) c)) := Gr.newU g1.kh hp
    have g := g1.trans g2
    have e : ns = sset xs := sset_eq ⟨pw, fun k => by rw [hm k]; simp, by omega⟩
    rw [e]
    exact q l _ Kn1 _ (g.trans (Gr.newU g.kh hl2)) (fresh_back g.hh hl2) (fresh_back g.kh hl2) upd_same (fl_paired (sset xs))
  · cases hz
/-- whatever is put behind: the list is not followed any more -/
inductive Av where | av
instance : Rp Av := { rep := fun _ _ _ _ => True, swap := fun _ _ => trivial }
theorem av_all {K : Fg} {H : Hp} : ∀ ws : List V, Paired (rep K H) ws (ws.map fun _ => Av.av)
  | [] => .nil
  | _ :: ws => .cons trivial (av_all ws)
theorem sb_appX {z : γ} {xs : List α} (hi : sl[i]? = some (.at p)) (hj : ow[j]? = some (ol p xs)) (h : EV K F Kn0 sl ow te z) (hz : (if xs.length < 1000000 then some () else none) = some ()) (ho : ow.eraseIdx j = ow1) (k : SN K F Kn0 sl ow1 D) :
    SB K F Kn0 sl ow D (tDrop (tBM K "list" rAppend (tVar i) (tCons te tNil))) := fun σ Kn H s => by
  obtain ⟨o, h1, h2⟩ := s.sl.get hi
  obtain ⟨f1, f2, ws, f3, f4⟩ := s.ow.each _ (List.mem_of_getElem? hj)
  have hz : xs.length < 1000000 := by
    by_cases e : xs.length < 1000000
    · exact e
    · rw [if_neg e] at hz
      cases hz
  refine ⟨.ref p, by rw [h1]; exact congrArg some h2, Or.inl ⟨rfl, ws, sq_of f3⟩, h σ Kn H s _ fun v Kn1 H1 g1 r1 => ?_⟩
  refine ⟨p, ws, v, rfl, rfl, g1.hh _ _ f3, by rw [paired_len f4]; exact lt_line hz, k _ Kn1 _ ?_⟩
  have kp1 : Kn1 p = none := g1.sp p (ne_none_of f3) f2
  have s2 := (s.grow g1).writeG (o2 := ol p ((ws ++ [v]).map fun _ => Av.av)) hj rfl rfl (Ex.refl _) (upd_in g1.kh kp1) (fun q hq _ => upd_ne hq) (fun _ _ h => h) ⟨_, upd_same, av_all _⟩
  subst ho
  refine s2.sub ?_
  have e : (ow.set j (ol p ((ws ++ [v]).map fun _ => Av.av))).eraseIdx j = ow.eraseIdx j := by
    refine List.ext_getElem? fun m => ?_
    rw [List.getElem?_eraseIdx, List.getElem?_eraseIdx]
    split
    · rw [List.getElem?_set_ne (by omega)]
    · rw [List.getElem?_set_ne (by omega)]
  rw [← e]
  exact List.eraseIdx_sublist _ _
end
section
variable {X : Cx} {K : Fg} {w : World}
theorem k_setI (hc : X.calm = true := by rfl) (h : X.K = K := by rfl) (hw : X.w = w := by rfl) : CallR X (.type "set") (rSetI K w) := by
  subst h
  subst hw
  exact cr_setI hc
theorem k_sortedSet (hc : X.calm = true := by rfl) (hw : X.w = w := by rfl) : CallR X (.builtin "sorted") (rSortedSet w) := by
  subst hw
  exact cr_sortedSet hc
end
end Wk
set_option synthInstance.maxHeartbeats 4000000
set_option synthInstance.maxSize 20000
/-! the mirrors of k77, printed by gen.py -/
namespace Wk77
open PySem L2 Wk
noncomputable def m_cuts_of_L2 (top_4 : Int) (name_7 : Str) : Int → ((List (Int × Str × Unit))) → Option ((List (Int × Str × Unit))) := fun cut_17 told_16 =>
  (appO told_16 ((top_4 + cut_17), name_7, ())).bind fun told_23 =>
  some told_23
noncomputable def m_cuts_of_L1 (blocks_1 : (List (Str × Int × (Tu Int) × Bool × Unit))) : (Int × (Str × Int × (Tu Int) × Bool × Unit) × Unit) → (Int × (List (Int × Str × Unit))) → Option (Int × (List (Int × Str × Unit))) := fun (k_6, (name_7, height_8, cuts_9, keep_10, _), _) (top_4, told_5) =>
  (forS (m_cuts_of_L2 top_4 name_7) cuts_9.l told_5).bind fun told_24 =>
  (some (top_4 + height_8)).bind fun top_26 =>
  (if ((!keep_10) || (decide ((k_6 + (1 : Int)) = (blocks_1.length : Int)))) = true then ((appO told_24 (top_26, ("" : Str), ())).bind fun told_30 =>
  some (top_26, told_30)) else (some (top_26, told_24)))
noncomputable def m_cuts_of (blocks_1 : (List (Str × Int × (Tu Int) × Bool × Unit))) : Option (List (Int × Str × Unit)) :=
  (some ([] : List (Int × Str × Unit))).bind fun told_2 =>
  (some (0 : Int)).bind fun top_3 =>
  (forS (m_cuts_of_L1 blocks_1) (enumI blocks_1) (top_3, told_2)).bind fun (top_31, told_32) =>
  some told_32
noncomputable def m_page_cost (price_34 : Int) (height_35 : Int) (top_36 : Int) (cut_37 : (Int × Str × Unit)) : Option Int :=
  (some cut_37).bind fun (depth_38, within_39, _) =>
  (some (height_35 - (depth_38 - top_36))).bind fun room_40 =>
  (mulO room_40 room_40).bind fun m_41 =>
  (mulO price_34 (if (!decide (within_39 = ("" : Str))) = true then (1 : Int) else 0)).bind fun m_42 =>
  some (m_41 + m_42)
noncomputable def m_between_L1 (top_44 : Int) (end_45 : Int) : (Str × Int × (Tu Int) × Bool × Unit) → (Int × (List Str)) → Option (Int × (List Str)) := fun (name_50, height_51, cuts_52, keep_53, _) (depth_48, names_49) =>
  ((if ((decide (depth_48 < end_45)) && (decide (top_44 < (depth_48 + height_51)))) = true then ((appO names_49 name_50).bind fun names_61 =>
  some names_61) else (some names_49))).bind fun names_62 =>
  (some (depth_48 + height_51)).bind fun depth_64 =>
  some (depth_64, names_62)
noncomputable def m_between (blocks_43 : (List (Str × Int × (Tu Int) × Bool × Unit))) (top_44 : Int) (end_45 : Int) : Option (Str × Str × Unit) :=
  (some ([] : List Str)).bind fun names_46 =>
  (some (0 : Int)).bind fun depth_47 =>
  (forS (m_between_L1 top_44 end_45) blocks_43 (depth_47, names_46)).bind fun (depth_65, names_66) =>
  (atI names_66 (0 : Int)).bind fun i_68 =>
  (atI names_66 (-(1 : Int))).bind fun i_69 =>
  some (i_68, i_69, ())
noncomputable def m_costs_of_L2 (price_71 : Int) (height_72 : Int) (depth_75 : Int) (within_76 : Str) : (Int × (Option Int) × Unit) → ((Option Int)) → Option ((Option Int)) := fun (top_84, cost_85, _) least_83 =>
  (if ((cost_85.isSome) && (decide ((depth_75 - top_84) ≤ height_72))) = true then ((m_page_cost price_71 height_72 top_84 (depth_75, within_76, ())).bind fun r_94 =>
  (cost_85).bind fun s_95 =>
  (some (s_95 + r_94)).bind fun told_96 =>
  ((if (least_83.isNone) = true then some true else ((least_83).bind fun s_98 => some (decide (told_96 < s_98))))).bind fun b_99 =>
  (if b_99 = true then ((some (some told_96)).bind fun least_102 =>
  some least_102) else (some least_83))) else (some least_83))
noncomputable def m_costs_of_L1 (price_71 : Int) (height_72 : Int) : (Int × Str × Unit) → ((List (Int × (Option Int) × Unit))) → Option ((List (Int × (Option Int) × Unit))) := fun (depth_75, within_76, _) paper_74 =>
  (some none).bind fun least_82 =>
  (forS (m_costs_of_L2 price_71 height_72 depth_75 within_76) paper_74 least_82).bind fun least_103 =>
  (appO paper_74 (depth_75, least_103, ())).bind fun paper_105 =>
  some paper_105
noncomputable def m_costs_of (cuts_70 : (List (Int × Str × Unit))) (price_71 : Int) (height_72 : Int) : Option (List (Int × (Option Int) × Unit)) :=
  (some ([((0 : Int), (some (0 : Int)), ())] : List (Int × (Option Int) × Unit))).bind fun paper_73 =>
  (forS (m_costs_of_L1 price_71 height_72) (cut cuts_70 none (some (-(1 : Int)))) paper_73).bind fun paper_106 =>
  some paper_106
noncomputable def m_step_to_L1 (price_109 : Int) (height_110 : Int) (depth_111 : Int) (cost_112 : Int) (cut_113 : (Option (Int × Str × Unit))) : (Int × (Option Int) × Unit) → (Unit) → Option (Ctl (Unit) Int) := fun (top_114, told_115, _) _ =>
  (if ((told_115.isSome) && ((decide (top_114 < depth_111)) && (decide ((depth_111 - top_114) ≤ height_110)))) = true then (((if (cut_113.isNone) = true then ((told_115).bind fun s_125 => some (decide (s_125 = cost_112))) else some false)).bind fun b_126 =>
  (if b_126 = true then (some (Ctl.rt top_114)) else (((if (cut_113.isSome) = true then ((cut_113).bind fun s_130 => (m_page_cost price_109 height_110 top_114 s_130).bind fun r_131 => (told_115).bind fun s_132 => some (decide ((s_132 + r_131) = cost_112))) else some false)).bind fun b_133 =>
  (if b_133 = true then (some (Ctl.rt top_114)) else (some (Ctl.nx ())))))) else (some (Ctl.nx ())))
noncomputable def m_step_to (paper_108 : (List (Int × (Option Int) × Unit))) (price_109 : Int) (height_110 : Int) (depth_111 : Int) (cost_112 : Int) (cut_113 : (Option (Int × Str × Unit))) : Option Int :=
  (forC (m_step_to_L1 price_109 height_110 depth_111 cost_112 cut_113) paper_108 ()).bind fun tot_120 => match tot_120 with
  | .nx _ => (some (0 : Int))
  | .bk _ => none
  | .rt r_ => some r_
noncomputable def m_set_pages_L1 (blocks_137 : (List (Str × Int × (Tu Int) × Bool × Unit))) (height_139 : Int) : (Int × Str × Unit) → (Int) → Option (Ctl (Int) (Er ((List Int) × (List (Int × (Option Int) × Unit)) × Unit))) := fun (depth_144, within_145, _) top_143 =>
  (if (decide (height_139 < (depth_144 - top_143))) = true then ((m_between blocks_137 top_143 depth_144).bind fun r_154 =>
  (some r_154).bind fun (first_155, last_156, _) =>
  some (Ctl.rt (Er.ex ⟨"NoPages", ((["first", "last"] : List Str).zip (Us.toDs (first_155, last_156, ()))).reverse⟩))) else ((some depth_144).bind fun top_157 =>
  some (Ctl.nx top_157)))
noncomputable def m_set_pages_L2_c (price_138 : Int) (height_139 : Int) (within_170 : (Dc Int Str)) (paper_161 : (List (Int × (Option Int) × Unit))) (least_171 : (Dc Int (Option Int))) : (Int × (List Int)) → Option Bool := fun (top_175, depths_176) =>
  (some (decide ((0 : Int) < top_175)))
noncomputable def m_set_pages_L2 (price_138 : Int) (height_139 : Int) (within_170 : (Dc Int Str)) (paper_161 : (List (Int × (Option Int) × Unit))) (least_171 : (Dc Int (Option Int))) : (Int × (List Int)) → Option (Int × (List Int)) := fun (top_175, depths_176) =>
  (appO depths_176 top_175).bind fun depths_182 =>
  (getD least_171.l top_175).bind fun i_183 =>
  (getD within_170.l top_175).bind fun i_184 =>
  (i_183).bind fun s_185 =>
  (m_step_to paper_161 price_138 height_139 top_175 s_185 (some (top_175, i_184, ()))).bind fun r_186 =>
  (some r_186).bind fun top_187 =>
  some (top_187, depths_182)
noncomputable def m_set_pages (blocks_137 : (List (Str × Int × (Tu Int) × Bool × Unit))) (price_138 : Int) (height_139 : Int) : Option (Er ((List Int) × (List (Int × (Option Int) × Unit)) × Unit)) :=
  (m_cuts_of blocks_137).bind fun r_140 =>
  (some r_140).bind fun cuts_141 =>
  (some (0 : Int)).bind fun top_142 =>
  (forC (m_set_pages_L1 blocks_137 height_139) cuts_141 top_142).bind fun tot_150 => match tot_150 with
  | .nx top_158 => ((m_costs_of cuts_141 price_138 height_139).bind fun r_160 =>
  (some r_160).bind fun paper_161 =>
  (atI cuts_141 (-(1 : Int))).bind fun i_162 =>
  (some i_162.1).bind fun end_163 =>
  (lcM (fun (top_164, told_165, _) => (some ((told_165.isSome) && (decide ((end_163 - top_164) ≤ height_139))))) (fun (top_164, told_165, _) => ((told_165).bind fun s_167 => some s_167)) paper_161).bind fun zs_166 =>
  (minL zs_166).bind fun min_168 =>
  (some min_168).bind fun cost_169 =>
  (some (Dc.mk (mergeD ([] : List (Int × Str)) (prs1 cuts_141)))).bind fun within_170 =>
  (some (Dc.mk (mergeD ([] : List (Int × (Option Int))) (prs1 paper_161)))).bind fun least_171 =>
  (some ([end_163] : List Int)).bind fun depths_172 =>
  (m_step_to paper_161 price_138 height_139 end_163 cost_169 none).bind fun r_173 =>
  (some r_173).bind fun top_174 =>
  (whileF (m_set_pages_L2_c price_138 height_139 within_170 paper_161 least_171) (m_set_pages_L2 price_138 height_139 within_170 paper_161 least_171) (top_174, depths_172)).bind fun (top_188, depths_189) =>
  some (Er.ok ((depths_189.reverse), paper_161, ())))
  | .bk _ => none
  | .rt r_ => some r_
noncomputable def m_is_whole (thing_191 : Dy) : Option Bool :=
  ((if (isiD thing_191 "int") = true then (((if (!(isiD thing_191 "bool")) = true then (((ofD thing_191 : Option Int)).bind fun o_192 => some (decide ((0 : Int) ≤ o_192))) else some false)).bind fun b_193 => some b_193) else some false)).bind fun b_194 =>
  some b_194
noncomputable def m_is_page_paper_L1 (tops_206 : (List Int)) : (Int × Dy × Unit) → (Unit) → Option (Ctl (Unit) Bool) := fun (k_208, pair_209, _) _ =>
  ((if (!(isiD pair_209 "tuple")) = true then some true else (((ofD pair_209 : Option (Tu Dy))).bind fun o_216 => ((if (!decide ((o_216.l.length : Int) = (2 : Int))) = true then some true else (((ofD pair_209 : Option (Tu Dy))).bind fun o_217 => (atI o_217.l (0 : Int)).bind fun i_218 => (m_is_whole i_218).bind fun r_219 => ((if (!r_219) = true then some true else (((ofD pair_209 : Option (Tu Dy))).bind fun o_220 => (atI o_220.l (0 : Int)).bind fun i_221 => (atI tops_206 k_208).bind fun i_222 => ((ofD i_221 : Option Int)).bind fun o_223 => some (!decide (o_223 = i_222))))).bind fun b_224 => some b_224))).bind fun b_225 => some b_225))).bind fun b_226 =>
  (if b_226 = true then (some (Ctl.rt false)) else (((ofD pair_209 : Option (Tu Dy))).bind fun o_230 =>
  (atI o_230.l (1 : Int)).bind fun i_231 =>
  ((if (!isNoD i_231) = true then (((ofD pair_209 : Option (Tu Dy))).bind fun o_232 => (atI o_232.l (1 : Int)).bind fun i_233 => (m_is_whole i_233).bind fun r_234 => some (!r_234)) else some false)).bind fun b_235 =>
  (if b_235 = true then (some (Ctl.rt false)) else (some (Ctl.nx ())))))
noncomputable def m_is_page_paper (paper_195 : Dy) (cuts_196 : (List (Int × Str × Unit))) : Option Bool :=
  ((if (!(isiD paper_195 "list")) = true then some true else (((ofD paper_195 : Option (List Dy))).bind fun o_198 => some (!decide ((o_198.length : Int) = (cuts_196.length : Int)))))).bind fun b_199 =>
  (if b_199 = true then (some false) else ((lcM (fun _ => some true) (fun (depth_202, within_203, _) => (some depth_202)) (cut cuts_196 none (some (-(1 : Int))))).bind fun zs_204 =>
  (catO ([(0 : Int)] : List Int) zs_204).bind fun cat_205 =>
  (some cat_205).bind fun tops_206 =>
  ((ofD paper_195 : Option (List Dy))).bind fun o_207 =>
  (forC (m_is_page_paper_L1 tops_206) (enumI o_207) ()).bind fun tot_214 => match tot_214 with
  | .nx _ => (some true)
  | .bk _ => none
  | .rt r_ => some r_))
noncomputable def m_pages_cost_L1 (price_240 : Int) (height_241 : Int) (depths_242 : Dy) (within_253 : (Dc Int Str)) : (Int × Dy × Unit) → (Int × Int) → Option (Ctl (Int × Int) (Option Int)) := fun (k_259, depth_260, _) (top_257, cost_258) =>
  (m_is_whole depth_260).bind fun r_267 =>
  ((if (!r_267) = true then some true else (((ofD depth_260 : Option Int)).bind fun o_268 => ((if (!(getD within_253.l o_268).isSome) = true then some true else (((ofD depth_260 : Option Int)).bind fun o_269 => some (!((decide (top_257 < o_269)) && (decide (o_269 ≤ (top_257 + height_241)))))))).bind fun b_270 => some b_270))).bind fun b_271 =>
  (if b_271 = true then (some (Ctl.rt none)) else (((ofD depths_242 : Option (List Dy))).bind fun o_275 =>
  ((if (decide ((k_259 + (1 : Int)) < (o_275.length : Int))) = true then (((ofD depth_260 : Option Int)).bind fun o_277 =>
  (getD within_253.l o_277).bind fun i_278 =>
  ((ofD depth_260 : Option Int)).bind fun o_279 =>
  (m_page_cost price_240 height_241 top_257 (o_279, i_278, ())).bind fun r_280 =>
  (some (cost_258 + r_280)).bind fun cost_281 =>
  some cost_281) else (some cost_258))).bind fun cost_282 =>
  ((ofD depth_260 : Option Int)).bind fun o_284 =>
  (some o_284).bind fun top_285 =>
  some (Ctl.nx (top_285, cost_282))))
noncomputable def m_pages_cost (cuts_239 : (List (Int × Str × Unit))) (price_240 : Int) (height_241 : Int) (depths_242 : Dy) : Option (Option Int) :=
  ((if (!(isiD depths_242 "list")) = true then some true else (((ofD depths_242 : Option (List Dy))).bind fun o_244 => ((if (decide ((o_244.length : Int) = (0 : Int))) = true then some true else (((ofD depths_242 : Option (List Dy))).bind fun o_245 => (atI o_245 (-(1 : Int))).bind fun i_246 => (atI cuts_239 (-(1 : Int))).bind fun i_247 => ((ofD i_246 : Option Int)).bind fun o_248 => some (!decide (o_248 = i_247.1))))).bind fun b_249 => some b_249))).bind fun b_250 =>
  (if b_250 = true then (some none) else ((some (Dc.mk (mergeD ([] : List (Int × Str)) (prs1 cuts_239)))).bind fun within_253 =>
  (some (0 : Int)).bind fun top_254 =>
  (some (0 : Int)).bind fun cost_255 =>
  ((ofD depths_242 : Option (List Dy))).bind fun o_256 =>
  (forC (m_pages_cost_L1 price_240 height_241 depths_242 within_253) (enumI o_256) (top_254, cost_255)).bind fun tot_265 => match tot_265 with
  | .nx (top_286, cost_287) => (some (some cost_287))
  | .bk _ => none
  | .rt r_ => some r_))
noncomputable def m_pages_shown_L2 (price_290 : Int) (height_291 : Int) (paper_293 : Dy) (top_311 : Int) (told_312 : Dy) : (Int × (Int × Str × Unit) × Unit) → (Unit) → Option (Ctl (Unit) Bool) := fun (j_321, (depth_322, within_323, _), _) _ =>
  (if ((decide (top_311 < depth_322)) && (decide (depth_322 ≤ (top_311 + height_291)))) = true then ((m_page_cost price_290 height_291 top_311 (depth_322, within_323, ())).bind fun r_332 =>
  ((ofD told_312 : Option Int)).bind fun o_333 =>
  (some (o_333 + r_332)).bind fun least_334 =>
  ((ofD paper_293 : Option (List (Int × Dy × Unit)))).bind fun o_336 =>
  (atI o_336 (j_321 + (1 : Int))).bind fun i_337 =>
  ((if (isNoD i_337.2.1) = true then some true else (((ofD paper_293 : Option (List (Int × Dy × Unit)))).bind fun o_338 => (atI o_338 (j_321 + (1 : Int))).bind fun i_339 => ((ofD i_339.2.1 : Option Int)).bind fun o_340 => some (decide (least_334 < o_340))))).bind fun b_341 =>
  (if b_341 = true then (some (Ctl.rt false)) else (some (Ctl.nx ())))) else (some (Ctl.nx ())))
noncomputable def m_pages_shown_L1 (price_290 : Int) (height_291 : Int) (paper_293 : Dy) (cuts_295 : (List (Int × Str × Unit))) (cost_305 : (Option Int)) : (Int × (Int × Dy × Unit) × Unit) → (Unit) → Option (Ctl (Unit) Bool) := fun (k_310, (top_311, told_312, _), _) _ =>
  (if (!isNoD told_312) = true then ((forC (m_pages_shown_L2 price_290 height_291 paper_293 top_311 told_312) (enumI (cut cuts_295 none (some (-(1 : Int))))) ()).bind fun tot_328 => match tot_328 with
  | .nx _ => ((atI cuts_295 (-(1 : Int))).bind fun i_346 =>
  ((if (decide (i_346.1 ≤ (top_311 + height_291))) = true then ((cost_305).bind fun s_347 => ((ofD told_312 : Option Int)).bind fun o_348 => some (decide (o_348 < s_347))) else some false)).bind fun b_349 =>
  (if b_349 = true then (some (Ctl.rt false)) else (some (Ctl.nx ()))))
  | .bk _ => none
  | .rt r_ => some (Ctl.rt r_)) else (some (Ctl.nx ())))
noncomputable def m_pages_shown (blocks_289 : (List (Str × Int × (Tu Int) × Bool × Unit))) (price_290 : Int) (height_291 : Int) (depths_292 : Dy) (paper_293 : Dy) : Option Bool :=
  (m_cuts_of blocks_289).bind fun r_294 =>
  (some r_294).bind fun cuts_295 =>
  (m_is_page_paper paper_293 cuts_295).bind fun r_297 =>
  ((if (!r_297) = true then some true else (((ofD paper_293 : Option (List (Int × Dy × Unit)))).bind fun o_298 => (atI o_298 (0 : Int)).bind fun i_299 => (eqYO i_299.2.1 (upD (0 : Int))).bind fun e_300 => some (!e_300)))).bind fun b_301 =>
  (if b_301 = true then (some false) else ((m_pages_cost cuts_295 price_290 height_291 depths_292).bind fun r_304 =>
  (some r_304).bind fun cost_305 =>
  (if (cost_305.isNone) = true then (some false) else (((ofD paper_293 : Option (List (Int × Dy × Unit)))).bind fun o_309 =>
  (forC (m_pages_shown_L1 price_290 height_291 paper_293 cuts_295 cost_305) (enumI o_309) ()).bind fun tot_317 => match tot_317 with
  | .nx _ => (some true)
  | .bk _ => none
  | .rt r_ => some r_))))
noncomputable def m__law_cell_at (script_353 : (Fz Int)) (k_354 : Int) : Option Int :=
  (if (decide (k_354 < (script_353.l.length : Int))) = true then ((atI script_353.l k_354).bind fun i_358 =>
  some i_358) else (some (0 : Int)))
noncomputable def m__law_numbers_L1 : Int → (Int × (List Int)) → Option (Int × (List Int)) := fun k_369 (number_367, found_368) =>
  (appO found_368 (number_367 % (5040 : Int))).bind fun found_375 =>
  (some (number_367 / (5040 : Int))).bind fun number_376 =>
  some (number_376, found_375)
noncomputable def m__law_numbers_L2 : Int → (Int × (List Int)) → Option (Int × (List Int)) := fun k_384 (number_382, found_383) =>
  (some ((((number_382 + k_384) + (1 : Int)) * (48271 : Int)) % (2147483647 : Int))).bind fun number_390 =>
  (appO found_383 ((number_390 * (69621 : Int)) % (2147483629 : Int))).bind fun found_391 =>
  some (number_390, found_391)
noncomputable def m__law_numbers (cell_359 : Int) (many_360 : Int) : Option (List Int) :=
  (some ([] : List Int)).bind fun found_361 =>
  (some (cell_359 - (1000000000000000000 : Int))).bind fun number_362 =>
  (if (decide ((0 : Int) ≤ number_362)) = true then ((rngO 0 many_360).bind fun rg_366 =>
  (forS (m__law_numbers_L1) rg_366 (number_362, found_361)).bind fun (number_377, found_378) =>
  some found_378) else ((some (cell_359 % (2147483647 : Int))).bind fun number_380 =>
  (rngO 0 (many_360 + (1 : Int))).bind fun rg_381 =>
  (forS (m__law_numbers_L2) rg_381 (number_380, found_361)).bind fun (number_392, found_393) =>
  some (cut found_393 (some (1 : Int)) none)))
noncomputable def m__law_blocks_L2 (height_413 : Int) : Int → ((List Int)) → Option ((List Int)) := fun number_417 cuts_here_416 =>
  (if (decide ((1 : Int) < height_413)) = true then ((modO number_417 (height_413 - (1 : Int))).bind fun r_426 =>
  (appO cuts_here_416 ((1 : Int) + r_426)).bind fun cuts_here_427 =>
  some cuts_here_427) else (some cuts_here_416))
noncomputable def m__law_blocks_L1 : (Int × Int × Unit) → ((List (Str × Int × (Tu Int) × Bool × Unit))) → Option ((List (Str × Int × (Tu Int) × Bool × Unit))) := fun (k_398, cell_399, _) blocks_here_397 =>
  (m__law_numbers cell_399 (6 : Int)).bind fun r_405 =>
  (some r_405).bind fun some_406 =>
  (atI some_406 (0 : Int)).bind fun i_409 =>
  (atI some_406 (0 : Int)).bind fun i_410 =>
  (atI some_406 (1 : Int)).bind fun i_411 =>
  (atI ([(i_409 % (6 : Int)), (i_410 % (40 : Int))] : List Int) (i_411 % (2 : Int))).bind fun i_412 =>
  (some ((1 : Int) + i_412)).bind fun height_413 =>
  (some ([] : List Int)).bind fun cuts_here_414 =>
  (atI some_406 (1 : Int)).bind fun i_415 =>
  (forS (m__law_blocks_L2 height_413) (cut some_406 (some (2 : Int)) (some ((2 : Int) + ((i_415 / (2 : Int)) % (4 : Int))))) cuts_here_414).bind fun cuts_here_428 =>
  (ixS ("abcdefghijklmnopqrstuvwxyz" : Str) (k_398 % (26 : Int))).bind fun i_430 =>
  (ixS ("ab" : Str) (k_398 / (26 : Int))).bind fun i_431 =>
  (addS i_430 i_431).bind fun t_432 =>
  (some t_432).bind fun name_433 =>
  (ssetO cuts_here_428).bind fun ss_434 =>
  (atI some_406 (1 : Int)).bind fun i_435 =>
  (appO blocks_here_397 (name_433, height_413, (Tu.mk ss_434), (decide (((i_435 / (8 : Int)) % (3 : Int)) = (0 : Int))), ())).bind fun blocks_here_436 =>
  some blocks_here_436
noncomputable def m__law_blocks (cells_395 : (List Int)) : Option (List (Str × Int × (Tu Int) × Bool × Unit)) :=
  (some ([] : List (Str × Int × (Tu Int) × Bool × Unit))).bind fun blocks_here_396 =>
  (forS (m__law_blocks_L1) (enumI cells_395) blocks_here_396).bind fun blocks_here_437 =>
  some blocks_here_437
noncomputable def m__law_cuts_L2 (top_442 : Int) (block_445 : (Str × Int × (Tu Int) × Bool × Unit)) : Int → ((List (Int × Str × Unit))) → Option ((List (Int × Str × Unit))) := fun cut_452 cuts_here_451 =>
  (appO cuts_here_451 ((top_442 + cut_452), block_445.1, ())).bind fun cuts_here_458 =>
  some cuts_here_458
noncomputable def m__law_cuts_L1 (blocks_here_439 : (List (Str × Int × (Tu Int) × Bool × Unit))) : (Int × (Str × Int × (Tu Int) × Bool × Unit) × Unit) → (Int × (List (Int × Str × Unit))) → Option (Int × (List (Int × Str × Unit))) := fun (k_444, block_445, _) (top_442, cuts_here_443) =>
  (forS (m__law_cuts_L2 top_442 block_445) block_445.2.2.1.l cuts_here_443).bind fun cuts_here_459 =>
  (some (top_442 + block_445.2.1)).bind fun top_461 =>
  (if ((!block_445.2.2.2.1) || (decide ((k_444 + (1 : Int)) = (blocks_here_439.length : Int)))) = true then ((appO cuts_here_459 (top_461, ("" : Str), ())).bind fun cuts_here_465 =>
  some (top_461, cuts_here_465)) else (some (top_461, cuts_here_459)))
noncomputable def m__law_cuts (blocks_here_439 : (List (Str × Int × (Tu Int) × Bool × Unit))) : Option (List (Int × Str × Unit)) :=
  (some ([] : List (Int × Str × Unit))).bind fun cuts_here_440 =>
  (some (0 : Int)).bind fun top_441 =>
  (forS (m__law_cuts_L1 blocks_here_439) (enumI blocks_here_439) (top_441, cuts_here_440)).bind fun (top_466, cuts_here_467) =>
  some cuts_here_467
noncomputable def m__law_cost_L1 (price_470 : Int) (height_471 : Int) (depths_472 : Dy) (within_478 : (Dc Int Str)) : (Int × Dy × Unit) → (Int × Int) → Option (Ctl (Int × Int) (Option Int)) := fun (k_484, depth_485, _) (top_482, cost_here_483) =>
  ((if (!(isiD depth_485 "int")) = true then some true else (((if (isiD depth_485 "bool") = true then some true else (((ofD depth_485 : Option Int)).bind fun o_492 => some (!(getD within_478.l o_492).isSome)))).bind fun b_493 => some b_493))).bind fun b_494 =>
  (if b_494 = true then (some (Ctl.rt none)) else (((ofD depth_485 : Option Int)).bind fun o_498 =>
  (if (!((decide (top_482 < o_498)) && (decide (o_498 ≤ (top_482 + height_471))))) = true then (some (Ctl.rt none)) else (((ofD depths_472 : Option (List Dy))).bind fun o_502 =>
  ((if (decide ((k_484 + (1 : Int)) < (o_502.length : Int))) = true then (((ofD depth_485 : Option Int)).bind fun o_504 =>
  (powO ((height_471 - o_504) + top_482) (2 : Int)).bind fun w_505 =>
  ((ofD depth_485 : Option Int)).bind fun o_506 =>
  (getD within_478.l o_506).bind fun i_507 =>
  (mulO price_470 (if (!decide (i_507 = ("" : Str))) = true then (1 : Int) else 0)).bind fun m_508 =>
  (some ((cost_here_483 + w_505) + m_508)).bind fun cost_here_509 =>
  some cost_here_509) else (some cost_here_483))).bind fun cost_here_510 =>
  ((ofD depth_485 : Option Int)).bind fun o_512 =>
  (some o_512).bind fun top_513 =>
  some (Ctl.nx (top_513, cost_here_510))))))
noncomputable def m__law_cost (cuts_here_469 : (List (Int × Str × Unit))) (price_470 : Int) (height_471 : Int) (depths_472 : Dy) : Option (Option Int) :=
  ((if (!(isiD depths_472 "list")) = true then some true else (((ofD depths_472 : Option (List Dy))).bind fun o_474 => some (decide ((o_474.length : Int) = (0 : Int)))))).bind fun b_475 =>
  (if b_475 = true then (some none) else ((some (Dc.mk (mergeD ([] : List (Int × Str)) (prs1 cuts_here_469)))).bind fun within_478 =>
  (some (0 : Int)).bind fun top_479 =>
  (some (0 : Int)).bind fun cost_here_480 =>
  ((ofD depths_472 : Option (List Dy))).bind fun o_481 =>
  (forC (m__law_cost_L1 price_470 height_471 depths_472 within_478) (enumI o_481) (top_479, cost_here_480)).bind fun tot_490 => match tot_490 with
  | .nx (top_514, cost_here_515) => ((atI cuts_here_469 (-(1 : Int))).bind fun i_518 =>
  (if (!decide (top_514 = i_518.1)) = true then (some none) else (some (some cost_here_515))))
  | .bk _ => none
  | .rt r_ => some r_))
noncomputable def m__law_is_number (thing_521 : Dy) : Option Bool :=
  ((if (isiD thing_521 "int") = true then (((if (!(isiD thing_521 "bool")) = true then (((ofD thing_521 : Option Int)).bind fun o_522 => some (decide ((0 : Int) ≤ o_522))) else some false)).bind fun b_523 => some b_523) else some false)).bind fun b_524 =>
  some b_524
noncomputable def m__law_is_paper_L1 (tops_535 : (List Int)) : (Int × Dy × Unit) → (Unit) → Option (Ctl (Unit) Bool) := fun (k_537, pair_538, _) _ =>
  ((if (!(isiD pair_538 "tuple")) = true then some true else (((ofD pair_538 : Option (Tu Dy))).bind fun o_545 => ((if (!decide ((o_545.l.length : Int) = (2 : Int))) = true then some true else (((ofD pair_538 : Option (Tu Dy))).bind fun o_546 => (atI o_546.l (0 : Int)).bind fun i_547 => (m__law_is_number i_547).bind fun r_548 => ((if (!r_548) = true then some true else (((ofD pair_538 : Option (Tu Dy))).bind fun o_549 => (atI o_549.l (0 : Int)).bind fun i_550 => (atI tops_535 k_537).bind fun i_551 => (eqYO i_550 (upD i_551)).bind fun e_552 => some (!e_552)))).bind fun b_553 => some b_553))).bind fun b_554 => some b_554))).bind fun b_555 =>
  (if b_555 = true then (some (Ctl.rt false)) else (((ofD pair_538 : Option (Tu Dy))).bind fun o_559 =>
  (atI o_559.l (1 : Int)).bind fun i_560 =>
  ((if (!isNoD i_560) = true then (((ofD pair_538 : Option (Tu Dy))).bind fun o_561 => (atI o_561.l (1 : Int)).bind fun i_562 => (m__law_is_number i_562).bind fun r_563 => some (!r_563)) else some false)).bind fun b_564 =>
  (if b_564 = true then (some (Ctl.rt false)) else (some (Ctl.nx ())))))
noncomputable def m__law_is_paper (paper_525 : Dy) (cuts_here_526 : (List (Int × Str × Unit))) : Option Bool :=
  ((if (!(isiD paper_525 "list")) = true then some true else (((ofD paper_525 : Option (List Dy))).bind fun o_528 => some (!decide ((o_528.length : Int) = (cuts_here_526.length : Int)))))).bind fun b_529 =>
  (if b_529 = true then (some false) else ((lcM (fun _ => some true) (fun cut_532 => (some cut_532.1)) (cut cuts_here_526 none (some (-(1 : Int))))).bind fun zs_533 =>
  (catO ([(0 : Int)] : List Int) zs_533).bind fun cat_534 =>
  (some cat_534).bind fun tops_535 =>
  ((ofD paper_525 : Option (List Dy))).bind fun o_536 =>
  (forC (m__law_is_paper_L1 tops_535) (enumI o_536) ()).bind fun tot_543 => match tot_543 with
  | .nx _ => (((ofD paper_525 : Option (List Dy))).bind fun o_568 =>
  (atI o_568 (0 : Int)).bind fun i_569 =>
  ((ofD i_569 : Option (Tu Dy))).bind fun o_570 =>
  (atI o_570.l (1 : Int)).bind fun i_571 =>
  (eqYO i_571 (upD (0 : Int))).bind fun e_572 =>
  some e_572)
  | .bk _ => none
  | .rt r_ => some r_))
noncomputable def m__law_shows_L2 (price_574 : Int) (height_575 : Int) (paper_576 : Dy) (top_580 : Int) (told_581 : Dy) : (Int × (Int × Str × Unit) × Unit) → (Unit) → Option (Ctl (Unit) Bool) := fun (j_590, (depth_591, within_592, _), _) _ =>
  (if ((decide (top_580 < depth_591)) && (decide (depth_591 ≤ (top_580 + height_575)))) = true then ((powO ((height_575 - depth_591) + top_580) (2 : Int)).bind fun w_601 =>
  ((ofD told_581 : Option Int)).bind fun o_602 =>
  (mulO price_574 (if (!decide (within_592 = ("" : Str))) = true then (1 : Int) else 0)).bind fun m_603 =>
  (some ((o_602 + w_601) + m_603)).bind fun least_604 =>
  ((ofD paper_576 : Option (List (Int × Dy × Unit)))).bind fun o_606 =>
  (atI o_606 (j_590 + (1 : Int))).bind fun i_607 =>
  ((if (isNoD i_607.2.1) = true then some true else (((ofD paper_576 : Option (List (Int × Dy × Unit)))).bind fun o_608 => (atI o_608 (j_590 + (1 : Int))).bind fun i_609 => ((ofD i_609.2.1 : Option Int)).bind fun o_610 => some (decide (least_604 < o_610))))).bind fun b_611 =>
  (if b_611 = true then (some (Ctl.rt false)) else (some (Ctl.nx ())))) else (some (Ctl.nx ())))
noncomputable def m__law_shows_L1 (cuts_here_573 : (List (Int × Str × Unit))) (price_574 : Int) (height_575 : Int) (paper_576 : Dy) (cost_here_577 : Int) : (Int × (Int × Dy × Unit) × Unit) → (Unit) → Option (Ctl (Unit) Bool) := fun (k_579, (top_580, told_581, _), _) _ =>
  (if (isNoD told_581) = true then (some (Ctl.nx ())) else ((forC (m__law_shows_L2 price_574 height_575 paper_576 top_580 told_581) (enumI (cut cuts_here_573 none (some (-(1 : Int))))) ()).bind fun tot_597 => match tot_597 with
  | .nx _ => ((atI cuts_here_573 (-(1 : Int))).bind fun i_616 =>
  ((if (decide (i_616.1 ≤ (top_580 + height_575))) = true then (((ofD told_581 : Option Int)).bind fun o_617 => some (decide (o_617 < cost_here_577))) else some false)).bind fun b_618 =>
  (if b_618 = true then (some (Ctl.rt false)) else (some (Ctl.nx ()))))
  | .bk _ => none
  | .rt r_ => some (Ctl.rt r_)))
noncomputable def m__law_shows (cuts_here_573 : (List (Int × Str × Unit))) (price_574 : Int) (height_575 : Int) (paper_576 : Dy) (cost_here_577 : Int) : Option Bool :=
  ((ofD paper_576 : Option (List (Int × Dy × Unit)))).bind fun o_578 =>
  (forC (m__law_shows_L1 cuts_here_573 price_574 height_575 paper_576 cost_here_577) (enumI o_578) ()).bind fun tot_586 => match tot_586 with
  | .nx _ => (some true)
  | .bk _ => none
  | .rt r_ => some r_
noncomputable def m__law_another_L2 (cuts_here_622 : (List (Int × Str × Unit))) (price_623 : Int) (height_624 : Int) (within_628 : (Dc Int Str)) (depth_634 : Int) (cost_here_635 : (Option Int)) : (Int × (Option Int) × Unit) → ((List Int)) → Option ((List Int)) := fun (top_644, told_645, _) tops_643 =>
  (some (0 : Int)).bind fun more_651 =>
  (atI cuts_here_622 (-(1 : Int))).bind fun i_653 =>
  ((if (!decide (depth_634 = i_653.1)) = true then ((powO ((height_624 - depth_634) + top_644) (2 : Int)).bind fun w_655 =>
  (getD within_628.l depth_634).bind fun i_656 =>
  (mulO price_623 (if (!decide (i_656 = ("" : Str))) = true then (1 : Int) else 0)).bind fun m_657 =>
  (some (w_655 + m_657)).bind fun more_658 =>
  some more_658) else (some more_651))).bind fun more_659 =>
  ((if (told_645.isSome) = true then (((if ((decide ((depth_634 - height_624) ≤ top_644)) && (decide (top_644 < depth_634))) = true then ((told_645).bind fun s_662 => (cost_here_635).bind fun s_663 => some (decide ((s_662 + more_659) = s_663))) else some false)).bind fun b_664 => some b_664) else some false)).bind fun b_665 =>
  (if b_665 = true then ((appO tops_643 top_644).bind fun tops_668 =>
  some tops_668) else (some tops_643))
noncomputable def m__law_another_L1_c (cuts_here_622 : (List (Int × Str × Unit))) (price_623 : Int) (height_624 : Int) (paper_626 : (List (Int × (Option Int) × Unit))) (least_627 : (Dc Int (Option Int))) (within_628 : (Dc Int Str)) : (Int × (Option Int) × (List Int)) → Option Bool := fun (depth_634, cost_here_635, found_636) =>
  (some true)
noncomputable def m__law_another_L1 (cuts_here_622 : (List (Int × Str × Unit))) (price_623 : Int) (height_624 : Int) (paper_626 : (List (Int × (Option Int) × Unit))) (least_627 : (Dc Int (Option Int))) (within_628 : (Dc Int Str)) : (Int × (Option Int) × (List Int)) → Option (Ctl (Int × (Option Int) × (List Int)) (List Int)) := fun (depth_634, cost_here_635, found_636) =>
  (some ([] : List Int)).bind fun tops_642 =>
  (forS (m__law_another_L2 cuts_here_622 price_623 height_624 within_628 depth_634 cost_here_635) paper_626 tops_642).bind fun tops_669 =>
  (maxL tops_669).bind fun max_671 =>
  (some max_671).bind fun depth_672 =>
  (if (decide (depth_672 = (0 : Int))) = true then (some (Ctl.rt (found_636.reverse))) else ((appO found_636 depth_672).bind fun found_676 =>
  (getD least_627.l depth_672).bind fun i_677 =>
  (some i_677).bind fun cost_here_678 =>
  some (Ctl.nx (depth_672, cost_here_678, found_676))))
noncomputable def m__law_another (cuts_here_622 : (List (Int × Str × Unit))) (price_623 : Int) (height_624 : Int) (depths_625 : (List Int)) (paper_626 : (List (Int × (Option Int) × Unit))) : Option (List Int) :=
  (some (Dc.mk (mergeD ([] : List (Int × (Option Int))) (prs1 paper_626)))).bind fun least_627 =>
  (some (Dc.mk (mergeD ([] : List (Int × Str)) (prs1 cuts_here_622)))).bind fun within_628 =>
  (atI cuts_here_622 (-(1 : Int))).bind fun i_629 =>
  (some i_629.1).bind fun depth_630 =>
  (m__law_cost cuts_here_622 price_623 height_624 (upD depths_625)).bind fun r_631 =>
  (some r_631).bind fun cost_here_632 =>
  (some ([depth_630] : List Int)).bind fun found_633 =>
  (whileCF (m__law_another_L1_c cuts_here_622 price_623 height_624 paper_626 least_627 within_628) (m__law_another_L1 cuts_here_622 price_623 height_624 paper_626 least_627 within_628) (depth_630, cost_here_632, found_633)).bind fun tot_641 => match tot_641 with
  | .nx (depth_679, cost_here_680, found_681) => (none)
  | .bk _ => none
  | .rt r_ => some r_
noncomputable def m__law_other_depths (depths_683 : (List Int)) (some_684 : (List Int)) : Option Dy :=
  (atI some_684 (1 : Int)).bind fun i_685 =>
  (modO i_685 (depths_683.length : Int)).bind fun r_686 =>
  (some r_686).bind fun at_687 =>
  (atI some_684 (0 : Int)).bind fun i_689 =>
  (if (decide ((i_689 % (4 : Int)) = (0 : Int))) = true then ((atI depths_683 at_687).bind fun i_692 =>
  (atI some_684 (2 : Int)).bind fun i_693 =>
  (atI ([(1 : Int), (-(1 : Int))] : List Int) (i_693 % (2 : Int))).bind fun i_694 =>
  (catO (cut depths_683 none (some at_687)) ([(i_692 + i_694)] : List Int)).bind fun cat_695 =>
  (catO cat_695 (cut depths_683 (some (at_687 + (1 : Int))) none)).bind fun cat_696 =>
  some (upD cat_696)) else ((atI some_684 (0 : Int)).bind fun i_698 =>
  (if (decide ((i_698 % (4 : Int)) = (1 : Int))) = true then ((catO (cut depths_683 none (some at_687)) (cut depths_683 (some (at_687 + (1 : Int))) none)).bind fun cat_701 =>
  some (upD cat_701)) else ((atI some_684 (0 : Int)).bind fun i_703 =>
  (if (decide ((i_703 % (4 : Int)) = (2 : Int))) = true then ((atI some_684 (2 : Int)).bind fun i_706 =>
  (atI depths_683 (-(1 : Int))).bind fun i_707 =>
  (modO i_706 (i_707 + (1 : Int))).bind fun r_708 =>
  (catO (cut depths_683 none (some at_687)) ([r_708] : List Int)).bind fun cat_709 =>
  (catO cat_709 (cut depths_683 (some at_687) none)).bind fun cat_710 =>
  some (upD cat_710)) else ((catO ((cut depths_683 none (some at_687)).map upD) ([(upD true)] : List Dy)).bind fun cat_714 =>
  (catO cat_714 ((cut depths_683 (some at_687) none).map upD)).bind fun cat_715 =>
  (catO depths_683 (cut depths_683 (some (-(1 : Int))) none)).bind fun cat_716 =>
  (atI some_684 (2 : Int)).bind fun i_717 =>
  (atI ([(upD (Tu.mk depths_683)), (upD Nn.nn), (upD cat_715), (upD cat_716)] : List Dy) (i_717 % (4 : Int))).bind fun i_718 =>
  some i_718))))))
noncomputable def m__law_other_paper (paper_719 : (List (Int × (Option Int) × Unit))) (some_720 : (List Int)) : Option Dy :=
  (atI some_720 (1 : Int)).bind fun i_721 =>
  (modO i_721 (paper_719.length : Int)).bind fun r_722 =>
  (some r_722).bind fun at_723 =>
  (atI paper_719 at_723).bind fun i_724 =>
  (some i_724).bind fun (top_725, told_726, _) =>
  (atI some_720 (0 : Int)).bind fun i_728 =>
  (if ((decide ((i_728 % (4 : Int)) = (0 : Int))) && (told_726.isSome)) = true then ((atI some_720 (2 : Int)).bind fun i_731 =>
  (atI ([(1 : Int), (-(1 : Int))] : List Int) (i_731 % (2 : Int))).bind fun i_732 =>
  (told_726).bind fun s_733 =>
  (catO (cut paper_719 none (some at_723)) ([(top_725, (some (s_733 + i_732)), ())] : List (Int × (Option Int) × Unit))).bind fun cat_734 =>
  (catO cat_734 (cut paper_719 (some (at_723 + (1 : Int))) none)).bind fun cat_735 =>
  some (upD cat_735)) else ((atI some_720 (0 : Int)).bind fun i_737 =>
  (if (decide ((i_737 % (4 : Int)) = (1 : Int))) = true then ((atI some_720 (2 : Int)).bind fun i_741 =>
  (atI some_720 (2 : Int)).bind fun i_742 =>
  (atI ([(upD Nn.nn), (upD (0 : Int)), (upD (i_741 % (500 : Int))), (upD false), (upD (-(1 : Int)))] : List Dy) (i_742 % (5 : Int))).bind fun i_743 =>
  (catO ((cut paper_719 none (some at_723)).map upD) ([(upD (top_725, i_743, ()))] : List Dy)).bind fun cat_744 =>
  (catO cat_744 ((cut paper_719 (some (at_723 + (1 : Int))) none).map upD)).bind fun cat_745 =>
  some (upD cat_745)) else ((atI some_720 (0 : Int)).bind fun i_747 =>
  (if (decide ((i_747 % (4 : Int)) = (2 : Int))) = true then ((catO (cut paper_719 none (some at_723)) (cut paper_719 (some (at_723 + (1 : Int))) none)).bind fun cat_750 =>
  some (upD cat_750)) else ((catO (cut paper_719 none (some at_723)) ([((top_725 + (1 : Int)), told_726, ())] : List (Int × (Option Int) × Unit))).bind fun cat_754 =>
  (catO cat_754 (cut paper_719 (some (at_723 + (1 : Int))) none)).bind fun cat_755 =>
  (catO paper_719 (cut paper_719 (some (-(1 : Int))) none)).bind fun cat_756 =>
  (atI some_720 (2 : Int)).bind fun i_757 =>
  (atI ([(upD (Tu.mk paper_719)), (upD Nn.nn), (upD cat_755), (upD cat_756)] : List Dy) (i_757 % (4 : Int))).bind fun i_758 =>
  some i_758))))))
noncomputable def m_law_L1 (cuts_here_765 : (List (Int × Str × Unit))) : Int → (Int) → Option (Int) := fun k_772 apart_771 =>
  (atI cuts_here_765 k_772).bind fun i_778 =>
  (atI cuts_here_765 (k_772 - (1 : Int))).bind fun i_779 =>
  (some (max apart_771 (i_778.1 - i_779.1))).bind fun apart_780 =>
  some apart_780
noncomputable def m_law_L2 (blocks_here_763 : (List (Str × Int × (Tu Int) × Bool × Unit))) (cuts_here_765 : (List (Int × Str × Unit))) (price_767 : Int) (height_784 : Int) (depths_786 : (List Int)) (paper_787 : (List (Int × (Option Int) × Unit))) : Int → (Unit) → Option (Ctl (Unit) Bool) := fun cell_797 _ =>
  (m__law_numbers (cell_797 / (2 : Int)) (7 : Int)).bind fun r_803 =>
  (some r_803).bind fun some_804 =>
  (some ([(upD depths_786), (upD paper_787)] : List Dy)).bind fun others_805 =>
  (atI some_804 (6 : Int)).bind fun i_807 =>
  ((if (decide ((0 : Int) < (i_807 % (3 : Int)))) = true then ((m__law_other_depths depths_786 some_804).bind fun r_809 =>
  (setI others_805 (0 : Int) r_809).bind fun others_810 =>
  some others_810) else (some others_805))).bind fun others_811 =>
  (atI some_804 (6 : Int)).bind fun i_814 =>
  ((if (!decide ((i_814 % (3 : Int)) = (1 : Int))) = true then ((m__law_other_paper paper_787 (cut some_804 (some (3 : Int)) none)).bind fun r_816 =>
  (setI others_811 (1 : Int) r_816).bind fun others_817 =>
  some others_817) else (some others_811))).bind fun others_818 =>
  (atI others_818 (1 : Int)).bind fun i_820 =>
  (m__law_is_paper i_820 cuts_here_765).bind fun r_821 =>
  (some r_821).bind fun due_822 =>
  ((if due_822 = true then ((atI others_818 (0 : Int)).bind fun i_825 =>
  (m__law_cost cuts_here_765 price_767 height_784 i_825).bind fun r_826 =>
  (some r_826).bind fun cost_here_827 =>
  ((if (cost_here_827.isSome) = true then ((atI others_818 (1 : Int)).bind fun i_828 => (cost_here_827).bind fun s_829 => (m__law_shows cuts_here_765 price_767 height_784 i_828 s_829).bind fun r_830 => some r_830) else some false)).bind fun b_831 =>
  (some b_831).bind fun due_832 =>
  some due_832) else (some due_822))).bind fun due_833 =>
  (atI others_818 (0 : Int)).bind fun i_835 =>
  (atI others_818 (1 : Int)).bind fun i_836 =>
  (m_pages_shown blocks_here_763 price_767 height_784 i_835 i_836).bind fun r_837 =>
  (some r_837).bind fun found_838 =>
  (if ((!true) || (!decide (found_838 = due_833))) = true then (some (Ctl.rt false)) else (some (Ctl.nx ())))
noncomputable def m_law (script_759 : (Fz Int)) : Option Bool :=
  (m__law_cell_at script_759 (16 : Int)).bind fun r_760 =>
  (catO (cut script_759.l (some (16 : Int)) (some (27 : Int))) ([(r_760 / (3 : Int))] : List Int)).bind fun cat_761 =>
  (m__law_blocks cat_761).bind fun r_762 =>
  (some r_762).bind fun blocks_here_763 =>
  (m__law_cuts blocks_here_763).bind fun r_764 =>
  (some r_764).bind fun cuts_here_765 =>
  (m__law_cell_at script_759 (0 : Int)).bind fun r_766 =>
  (some (r_766 % (1000 : Int))).bind fun price_767 =>
  (atI cuts_here_765 (0 : Int)).bind fun i_768 =>
  (some i_768.1).bind fun apart_769 =>
  (rngO (1 : Int) (cuts_here_765.length : Int)).bind fun rg_770 =>
  (forS (m_law_L1 cuts_here_765) rg_770 apart_769).bind fun apart_781 =>
  (m__law_cell_at script_759 (1 : Int)).bind fun r_783 =>
  (some (apart_781 + (r_783 % (60 : Int)))).bind fun height_784 =>
  ((m_set_pages blocks_here_763 price_767 height_784).bind unX).bind fun r_785 =>
  (some r_785).bind fun (depths_786, paper_787, _) =>
  (m_pages_shown blocks_here_763 price_767 height_784 (upD depths_786) (upD paper_787)).bind fun r_789 =>
  (if (!decide (r_789 = true)) = true then (some false) else ((m__law_another cuts_here_765 price_767 height_784 depths_786 paper_787).bind fun r_793 =>
  (m_pages_shown blocks_here_763 price_767 height_784 (upD r_793) (upD paper_787)).bind fun r_794 =>
  (if (!decide (r_794 = true)) = true then (some false) else ((forC (m_law_L2 blocks_here_763 cuts_here_765 price_767 height_784 depths_786 paper_787) (cut script_759.l (some (2 : Int)) (some (16 : Int))) ()).bind fun tot_802 => match tot_802 with
  | .nx _ => ((m_pages_shown blocks_here_763 price_767 height_784 (upD depths_786) (upD paper_787)).bind fun r_843 =>
  some (decide (r_843 = true)))
  | .bk _ => none
  | .rt r_ => some r_))))
end Wk77
set_option synthInstance.maxHeartbeats 4000000
set_option synthInstance.maxSize 20000
/-! the walks of k77, printed by gen.py -/
namespace Wk77
open PySem L2 Wk
def topS (i : Nat) : Stmt := PySem.Challenge.pw_boxgalley_k77_what_the_checker_of_pages.main.body.getD i (.Pass ⟨0, 0, 0, 0⟩)
abbrev s_cuts_of : Stmt := topS 4
abbrev s_page_cost : Stmt := topS 5
abbrev s_between : Stmt := topS 6
abbrev s_costs_of : Stmt := topS 7
abbrev s_step_to : Stmt := topS 8
abbrev s_set_pages : Stmt := topS 9
abbrev s_is_whole : Stmt := topS 11
abbrev s_is_page_paper : Stmt := topS 13
abbrev s_pages_cost : Stmt := topS 14
abbrev s_pages_shown : Stmt := topS 15
abbrev s__law_cell_at : Stmt := topS 17
abbrev s__law_numbers : Stmt := topS 18
abbrev s__law_blocks : Stmt := topS 19
abbrev s__law_cuts : Stmt := topS 20
abbrev s__law_cost : Stmt := topS 21
abbrev s__law_is_number : Stmt := topS 22
abbrev s__law_is_paper : Stmt := topS 23
abbrev s__law_shows : Stmt := topS 24
abbrev s__law_another : Stmt := topS 25
abbrev s__law_other_depths : Stmt := topS 26
abbrev s__law_other_paper : Stmt := topS 27
abbrev s_law : Stmt := topS 28
structure TX (K : Fg) (mg : Str → Option Value) (w : World) where
  a_cuts_of : Addr
  d_cuts_of : FuncData
  F_cuts_of : Fun K "cuts_of" "cuts_of" s_cuts_of a_cuts_of d_cuts_of
  b_cuts_of : Binds K d_cuts_of ["blocks"] []
  g_cuts_of : mg "cuts_of" = some (.ref a_cuts_of)
  a_page_cost : Addr
  d_page_cost : FuncData
  F_page_cost : Fun K "page_cost" "page_cost" s_page_cost a_page_cost d_page_cost
  b_page_cost : Binds K d_page_cost ["price", "height", "top", "cut"] []
  g_page_cost : mg "page_cost" = some (.ref a_page_cost)
  a_between : Addr
  d_between : FuncData
  F_between : Fun K "between" "between" s_between a_between d_between
  b_between : Binds K d_between ["blocks", "top", "end"] []
  g_between : mg "between" = some (.ref a_between)
  a_costs_of : Addr
  d_costs_of : FuncData
  F_costs_of : Fun K "costs_of" "costs_of" s_costs_of a_costs_of d_costs_of
  b_costs_of : Binds K d_costs_of ["cuts", "price", "height"] []
  g_costs_of : mg "costs_of" = some (.ref a_costs_of)
  a_step_to : Addr
  d_step_to : FuncData
  F_step_to : Fun K "step_to" "step_to" s_step_to a_step_to d_step_to
  b_step_to : Binds K d_step_to ["paper", "price", "height", "depth", "cost", "cut"] []
  g_step_to : mg "step_to" = some (.ref a_step_to)
  a_set_pages : Addr
  d_set_pages : FuncData
  F_set_pages : Fun K "set_pages" "set_pages" s_set_pages a_set_pages d_set_pages
  b_set_pages : Binds K d_set_pages ["blocks", "price", "height"] []
  g_set_pages : mg "set_pages" = some (.ref a_set_pages)
  a_is_whole : Addr
  d_is_whole : FuncData
  F_is_whole : Fun K "is_whole" "is_whole" s_is_whole a_is_whole d_is_whole
  b_is_whole : Binds K d_is_whole ["thing"] []
  g_is_whole : mg "is_whole" = some (.ref a_is_whole)
  a_is_page_paper : Addr
  d_is_page_paper : FuncData
  F_is_page_paper : Fun K "is_page_paper" "is_page_paper" s_is_page_paper a_is_page_paper d_is_page_paper
  b_is_page_paper : Binds K d_is_page_paper ["paper", "cuts"] []
  g_is_page_paper : mg "is_page_paper" = some (.ref a_is_page_paper)
  a_pages_cost : Addr
  d_pages_cost : FuncData
  F_pages_cost : Fun K "pages_cost" "pages_cost" s_pages_cost a_pages_cost d_pages_cost
  b_pages_cost : Binds K d_pages_cost ["cuts", "price", "height", "depths"] []
  g_pages_cost : mg "pages_cost" = some (.ref a_pages_cost)
  a_pages_shown : Addr
  d_pages_shown : FuncData
  F_pages_shown : Fun K "pages_shown" "pages_shown" s_pages_shown a_pages_shown d_pages_shown
  b_pages_shown : Binds K d_pages_shown ["blocks", "price", "height", "depths", "paper"] []
  g_pages_shown : mg "pages_shown" = some (.ref a_pages_shown)
  a__law_cell_at : Addr
  d__law_cell_at : FuncData
  F__law_cell_at : Fun K "_law_cell_at" "_law_cell_at" s__law_cell_at a__law_cell_at d__law_cell_at
  b__law_cell_at : Binds K d__law_cell_at ["_law_script", "_law_k"] []
  g__law_cell_at : mg "_law_cell_at" = some (.ref a__law_cell_at)
  a__law_numbers : Addr
  d__law_numbers : FuncData
  F__law_numbers : Fun K "_law_numbers" "_law_numbers" s__law_numbers a__law_numbers d__law_numbers
  b__law_numbers : Binds K d__law_numbers ["_law_cell", "_law_many"] []
  g__law_numbers : mg "_law_numbers" = some (.ref a__law_numbers)
  a__law_blocks : Addr
  d__law_blocks : FuncData
  F__law_blocks : Fun K "_law_blocks" "_law_blocks" s__law_blocks a__law_blocks d__law_blocks
  b__law_blocks : Binds K d__law_blocks ["_law_cells"] []
  g__law_blocks : mg "_law_blocks" = some (.ref a__law_blocks)
  a__law_cuts : Addr
  d__law_cuts : FuncData
  F__law_cuts : Fun K "_law_cuts" "_law_cuts" s__law_cuts a__law_cuts d__law_cuts
  b__law_cuts : Binds K d__law_cuts ["_law_blocks_here"] []
  g__law_cuts : mg "_law_cuts" = some (.ref a__law_cuts)
  a__law_cost : Addr
  d__law_cost : FuncData
  F__law_cost : Fun K "_law_cost" "_law_cost" s__law_cost a__law_cost d__law_cost
  b__law_cost : Binds K d__law_cost ["_law_cuts_here", "_law_price", "_law_height", "_law_depths"] []
  g__law_cost : mg "_law_cost" = some (.ref a__law_cost)
  a__law_is_number : Addr
  d__law_is_number : FuncData
  F__law_is_number : Fun K "_law_is_number" "_law_is_number" s__law_is_number a__law_is_number d__law_is_number
  b__law_is_number : Binds K d__law_is_number ["_law_thing"] []
  g__law_is_number : mg "_law_is_number" = some (.ref a__law_is_number)
  a__law_is_paper : Addr
  d__law_is_paper : FuncData
  F__law_is_paper : Fun K "_law_is_paper" "_law_is_paper" s__law_is_paper a__law_is_paper d__law_is_paper
  b__law_is_paper : Binds K d__law_is_paper ["_law_paper", "_law_cuts_here"] []
  g__law_is_paper : mg "_law_is_paper" = some (.ref a__law_is_paper)
  a__law_shows : Addr
  d__law_shows : FuncData
  F__law_shows : Fun K "_law_shows" "_law_shows" s__law_shows a__law_shows d__law_shows
  b__law_shows : Binds K d__law_shows ["_law_cuts_here", "_law_price", "_law_height", "_law_paper", "_law_cost_here"] []
  g__law_shows : mg "_law_shows" = some (.ref a__law_shows)
  a__law_another : Addr
  d__law_another : FuncData
  F__law_another : Fun K "_law_another" "_law_another" s__law_another a__law_another d__law_another
  b__law_another : Binds K d__law_another ["_law_cuts_here", "_law_price", "_law_height", "_law_depths", "_law_paper"] []
  g__law_another : mg "_law_another" = some (.ref a__law_another)
  a__law_other_depths : Addr
  d__law_other_depths : FuncData
  F__law_other_depths : Fun K "_law_other_depths" "_law_other_depths" s__law_other_depths a__law_other_depths d__law_other_depths
  b__law_other_depths : Binds K d__law_other_depths ["_law_depths", "_law_some"] []
  g__law_other_depths : mg "_law_other_depths" = some (.ref a__law_other_depths)
  a__law_other_paper : Addr
  d__law_other_paper : FuncData
  F__law_other_paper : Fun K "_law_other_paper" "_law_other_paper" s__law_other_paper a__law_other_paper d__law_other_paper
  b__law_other_paper : Binds K d__law_other_paper ["_law_paper", "_law_some"] []
  g__law_other_paper : mg "_law_other_paper" = some (.ref a__law_other_paper)
  a_law : Addr
  d_law : FuncData
  F_law : Fun K "law" "law" s_law a_law d_law
  b_law : Binds K d_law ["_law_script"] []
  g_law : mg "law" = some (.ref a_law)
  z_bool : mg "bool" = none
  z_dict : mg "dict" = none
  z_enumerate : mg "enumerate" = none
  z_int : mg "int" = none
  z_isinstance : mg "isinstance" = none
  z_len : mg "len" = none
  z_list : mg "list" = none
  z_max : mg "max" = none
  z_min : mg "min" = none
  z_range : mg "range" = none
  z_set : mg "set" = none
  z_sorted : mg "sorted" = none
  z_tuple : mg "tuple" = none
  c_NoPages : Addr
  gC_NoPages : mg "NoPages" = some (.ref c_NoPages)
  c_BoxError : Addr
  gC_BoxError : mg "BoxError" = some (.ref c_BoxError)
  oex_NoPages : OexC K c_NoPages
  no_NoPages : ∀ f ∈ (["first", "last"] : List Str), PySem.W.findIn K (.ref c_NoPages) f = some none
  fi_NoPages : Addr
  fdi_NoPages : FuncData
  Fi_NoPages : Fun K "__init__" "NoPages.__init__" (inClass (topS 2) 0) fi_NoPages fdi_NoPages
  bi_NoPages : Binds K fdi_NoPages ["self", "first", "last"] []
  iC_NoPages : PySem.W.findIn K (.ref c_NoPages) "__init__" = some (some (.ref fi_NoPages))
  tI_NoPages : PySem.W.typeIn K (.ref fi_NoPages) = some (.type "function")
  xf_NoPages : XfC K c_NoPages
  sg_BoxError : PySem.W.specialIn K (.ref c_BoxError) "__getattribute__" = some (some (.builtin "type.__getattribute__"))
  rd_BoxError : PySem.W.readsIn K c_BoxError (.type "type") = true
  fc_BoxError : PySem.W.findCls K (.ref c_BoxError) (.type "type") "__init__" = some (.val (.builtin "ValueError.__init__"))
def spLaw (K : Fg) : Sp := fun vs H Q _ => ∃ (a : Addr) (ns : List Int), vs = [.ref a] ∧ SqL K H a (ns.map V.int) ∧ ns.length ≤ 63 ∧ ∀ H', Q (.bl true) H'
theorem fn_weak {P : Program} {w : World} {K : Fg} {mg : Str → Option Value} {base : Heap} {k : Nat} {f : Addr} {fd : FuncData} {m : Fz Int → Option Bool}
    (h : FnOk P w K mg base CX0 k f fd ["_law_script"] (PF (τ := Fz Int × Unit) K fun t => m t.1)) (main : ∀ ns : List Int, ns.length ≤ 63 → m (Fz.mk ns) = some true) : FnOk P w K mg base CX0 k f fd ["_law_script"] (spLaw K) :=
  h.imp fun vs H Q E hh => by
    obtain ⟨a, ns, rfl, hs, hl, q⟩ := hh
    exact ⟨H, (Fz.mk ns, ()), true, Evl.Ex.refl _, ⟨.ref a, [], rfl, ⟨a, ns.map V.int, rfl, hs, fl_paired ns⟩, rfl⟩, main ns hl, fun u Kn' H' g r => by cases r; exact q H'⟩
section
variable {P : Program} {w : World} {K : Fg} {mg : Str → Option Value} {base : Heap}
def cmT (T : TX K mg w) : Str → Option Addr := fun n =>
  if n = "NoPages" then some T.c_NoPages else none
theorem sci_NoPages : FnScope ["self", "first", "last"] ["self", "first", "last"] (defScope (inClass (topS 2) 0)) := ⟨rfl, rfl, rfl, by decide +kernel, rfl, by decide +kernel, by decide +kernel⟩
theorem oki_NoPages (T : TX K mg w) : FnOk P w K mg base CX0 1 T.fi_NoPages T.fdi_NoPages ["self", "first", "last"] (spI K T.c_NoPages ["first", "last"]) := by
  refine T.Fi_NoPages.ok sci_NoPages (fun vs H Q E h => spI_len h) (fun cdv A outer s H vs Q E hr h => ?_)
  obtain ⟨a, ws, rfl, hl, T0, hno, ha, q⟩ := h
  match ws, hl with
  | [v_0, v_1], _ =>
  refine ⟨_, (pss_cons (ps_expr (pe_cinit (by rfl) T.gC_BoxError T.sg_BoxError T.rd_BoxError T.fc_BoxError (pa_cons (pv 0) (pa_cons pe_str pa_nil)))) (pss_cons (ps_ost (pv 0) (pv 1)) (pss_one (ps_ost (pv 0) (pv 2))))), ?_⟩
  refine ⟨_, rfl, a, T.c_NoPages, [_], rfl, by decide, T0, ha, ?_⟩
  refine ⟨_, rfl, _, rfl, a, T.c_NoPages, rfl, T0, hno _ List.mem_cons_self, .inl ⟨ha, fun dx hdx hne => ?_⟩⟩
  refine ⟨_, rfl, _, rfl, a, T.c_NoPages, rfl, T0, hno _ (List.mem_cons_of_mem _ List.mem_cons_self), .inr ⟨dx, _, upd_same, by rw [upd_ne hne]; exact upd_same, (Nat.le_of_ble_eq_true rfl), ?_⟩⟩
  exact q _ dx hdx hne (by rw [upd_ne (Ne.symm hne)]; exact upd_same) upd_same (fun b h1 h2 => by rw [upd_ne h2, upd_ne h1, upd_ne h2])
theorem sc_cuts_of : FnScope ["blocks", "told", "top", "k", "name", "height", "cuts", "keep", "cut"] ["blocks"] (defScope s_cuts_of) := ⟨rfl, rfl, rfl, by decide +kernel, rfl, by decide +kernel, by decide +kernel⟩
set_option maxHeartbeats 4000000 in
theorem ok_cuts_of (T : TX K mg w) : FnOk P w K mg base CX0 1 T.a_cuts_of T.d_cuts_of ["blocks"] (PL (τ := (List (Str × Int × (Tu Int) × Bool × Unit)) × Unit) K (fun t => m_cuts_of t.1)) := by
  refine T.F_cuts_of.ok sc_cuts_of (fun vs H Q E h => ?_) (fun cdv A outer s H vs Q E hr h => ?_)
  · obtain ⟨Kn, t, r, ek, h, hf, q⟩ := h
    exact Tp.len h
  · obtain ⟨Kn, t, r_, ek, h, hf, q⟩ := h
    obtain ⟨blocks_1, u_⟩ := t
    obtain ⟨v_0, rr_, rfl, hv_0, h⟩ := h
    obtain rfl := h
    replace hf : m_cuts_of blocks_1 = some r_ := hf
    unfold m_cuts_of at hf
    refine ⟨_, (pss_cons (ps_set (i := 1) sc_cuts_of.nd rfl (.inl rfl) (pe_lst pa_nil))
      (pss_cons (ps_set (i := 2) sc_cuts_of.nd rfl (.inl rfl) pe_int)
      (pss_cons (ps_for PassesOwn.never rfl (pi_enum (by rfl) T.z_enumerate (pa_cons (pv 0) pa_nil)) (kpg_tup (pgs_cons (pg_name (i := 3) sc_cuts_of.nd rfl (.inl rfl)) (pgs_cons (kpg_tup (pgs_cons (pg_name (i := 4) sc_cuts_of.nd rfl (.inl rfl)) (pgs_cons (pg_name (i := 5) sc_cuts_of.nd rfl (.inl rfl)) (pgs_cons (pg_name (i := 6) sc_cuts_of.nd rfl (.inl rfl)) (pgs_cons (pg_name (i := 7) sc_cuts_of.nd rfl (.inl rfl)) pgs_nil))))) pgs_nil))) (pss_cons (ps_for PassesOwn.never rfl (kpi_tup (pv 6)) (pg_name (i := 8) sc_cuts_of.nd rfl (.inl rfl)) (pss_one (ps_expr (pe_bm PySem.F.plainAttrs_list PySem.F.slot_list_append PySem.F.type_list_append mt_append (pv 1) (pa_cons (pe_tup (pa_cons (pe_op op_add (pv 2) (pv 8)) (pa_cons (pv 4) pa_nil))) pa_nil)))))
      (pss_cons (ps_set (i := 2) sc_cuts_of.nd rfl (.inl rfl) (pe_op op_add (pv 2) (pv 5)))
      (pss_one (ps_if (PW.pt (pw_or (pt_not (pt_val (pv 7))) (pw_or1 (pt_cmpR op_eq (pe_op op_add (pv 3) pe_int) (pe_callB k_len (by rfl) T.z_len PySem.boot_len (pa_cons (pv 0) pa_nil)) (nomark _))))) (pss_one (ps_expr (pe_bm PySem.F.plainAttrs_list PySem.F.slot_list_append PySem.F.type_list_append mt_append (pv 1) (pa_cons (pe_tup (pa_cons (pv 2) (pa_cons pe_str pa_nil))) pa_nil)))) pss_nil)))))
      (pss_one (ps_ret (pv 1)))))), ?_⟩
    refine enter (Kn := Kn) (sl := [sv blocks_1, .any, .any, .any, .any, .any, .any, .any, .any]) ek ⟨⟨v_0, rfl, hv_0⟩, trivial, trivial, trivial, trivial, trivial, trivial, trivial, trivial, trivial⟩ ?_
    have q := rn_of q
    obtain ⟨told_2, h_told_2, hf⟩ := bind_some hf
    refine SB.seqB (fun kx_ => sb_asgO (sl' := fun p_told_2 => [sv blocks_1, .at p_told_2, .any, .any, .any, .any, .any, .any, .any]) (fun _ => rfl) (EN.cast (en_lst el_nil) (Option.some.inj h_told_2)) (fun p_told_2 => (kx_ _ _ ?_)))
    obtain ⟨top_3, h_top_3, hf⟩ := bind_some hf
    refine SB.seqB (fun kx_ => sb_asg (sl' := [sv blocks_1, .at p_told_2, sv top_3, .any, .any, .any, .any, .any, .any]) rfl (EV.cast (ev_int 0) (Option.some.inj h_top_3)) (kx_ _ _ ?_))
    obtain ⟨⟨top_31, told_32⟩, h_tot_15, hf⟩ := bind_some hf
    refine SB.seqB (fun kx_33 => sb_for (β := (Int × (Str × Int × (Tu Int) × Bool × Unit) × Unit)) (Sx := Int × (List (Int × Str × Unit))) (fun s => [sv blocks_1, .at p_told_2, sv s.1, .any, .any, .any, .any, .any, .any]) (fun s => [ol p_told_2 s.2]) (fun x s => [sv blocks_1, .at p_told_2, sv s.1, sv x.1, sv x.2.1.1, sv x.2.1.2.1, sv x.2.1.2.2.1, sv x.2.1.2.2.2.1, .any]) [3, 4, 5, 6, 7] (fun xs s => forS (m_cuts_of_L1 blocks_1) xs s = some (top_31, told_32)) (top_3, told_2) (IT.m (it_enum (ea_cons (ev_var (i := 0) rfl) ea_nil))) h_tot_15 (.keep (.keep (.keep (.keep (.keep (.keep (.keep (.keep (.keep .nil))))))))) (List.Sublist.refl _) (fun x s => (gt_tup (gts_cons (gt_name rfl) (gts_cons (gt_tup (gts_cons (gt_name rfl) (gts_cons (gt_name rfl) (gts_cons (gt_name rfl) (gts_cons (gt_name rfl) gts_nil))))) gts_nil)))) ?_ ?_)
    · intro Kn1 b1 x_ rest_ s_ hP_12 N_ hN_11
      obtain ⟨k_6, ⟨name_7, height_8, cuts_9, keep_10, _⟩, _⟩ := x_
      obtain ⟨top_4, told_5⟩ := s_
      obtain ⟨c_, hc_13, hP_12⟩ := bind_some hP_12
      have q_14 := q.base b1
      unfold m_cuts_of_L1 at hc_13
      refine SB.is (sl' := [sv blocks_1, .at p_told_2, sv top_4, sv k_6, sv name_7, sv height_8, sv cuts_9, sv keep_10, .any]) (ow1 := [ol p_told_2 told_5]) rfl rfl ?_
      obtain ⟨told_24, h_tot_22, hc_13⟩ := bind_some hc_13
      refine SB.seqB (fun kx_25 => sb_for (β := Int) (Sx := (List (Int × Str × Unit))) (fun s => [sv blocks_1, .at p_told_2, sv top_4, sv k_6, sv name_7, sv height_8, sv cuts_9, sv keep_10, .any]) (fun s => [ol p_told_2 s]) (fun x s => [sv blocks_1, .at p_told_2, sv top_4, sv k_6, sv name_7, sv height_8, sv cuts_9, sv keep_10, sv x]) [8] (fun xs s => forS (m_cuts_of_L2 top_4 name_7) xs s = some told_24) told_5 (IT.m (it_tup (ev_var (i := 6) rfl))) h_tot_22 (.keep (.keep (.keep (.keep (.keep (.keep (.keep (.keep (.keep .nil))))))))) (List.Sublist.refl _) (fun x s => (gt_name rfl)) ?_ ?_)
      · intro Kn1 b1 cut_17 rest_ told_16 hP_19 N_ hN_18
        obtain ⟨c_, hc_20, hP_19⟩ := bind_some hP_19
        have q_21 := q_14.base b1
        unfold m_cuts_of_L2 at hc_20
        refine SB.is (sl' := [sv blocks_1, .at p_told_2, sv top_4, sv k_6, sv name_7, sv height_8, sv cuts_9, sv keep_10, sv cut_17]) (ow1 := [ol p_told_2 told_16]) rfl rfl ?_
        obtain ⟨told_23, h_told_23, hc_20⟩ := bind_some hc_20
        refine sb_appO (i := 1) (j := 0) rfl rfl (ev_tup (ea_cons (ev_op (ev_var (i := 2) rfl) (ev_var (i := 8) rfl) r2_add) (ea_cons (ev_var (i := 4) rfl) ea_nil))) h_told_23 (ow1 := [ol p_told_2 told_23]) rfl ?_
        cases hc_20
        exact fun σ Kn H s => hN_18 _ hP_19 σ Kn H ((s.le (.keep (.keep (.keep (.keep (.keep (.keep (.keep (.keep (.drop .nil)))))))))).sub (List.Sublist.refl _))
      · intro s_ h0
        cases h0
        refine kx_25 _ _ ?_
        refine SB.is (sl' := [sv blocks_1, .at p_told_2, sv top_4, sv k_6, sv name_7, sv height_8, sv cuts_9, sv keep_10, .any]) (ow1 := [ol p_told_2 told_24]) rfl rfl ?_
        obtain ⟨top_26, h_top_26, hc_13⟩ := bind_some hc_13
        refine SB.seqB (fun kx_ => sb_asg (sl' := [sv blocks_1, .at p_told_2, sv top_26, sv k_6, sv name_7, sv height_8, sv cuts_9, sv keep_10, .any]) rfl (EV.cast (ev_op (ev_var (i := 2) rfl) (ev_var (i := 5) rfl) r2_add) (Option.some.inj h_top_26)) (kx_ _ _ ?_))
        refine sb_if (b := ((!keep_10) || (decide ((k_6 + (1 : Int)) = (blocks_1.length : Int))))) (et_or (et_not (et_B (ev_var (i := 7) rfl))) (fun _ => (et_test (ev_op (ev_op (ev_var (i := 3) rfl) (ev_int 1) r2_add) (ev_cb (ea_cons (ev_var (i := 0) rfl) ea_nil) rc_len) r2_eqI)))) (fun hb_28 => ?_) (fun hb_28 => ?_)
        · have hc_13 := ite_t hb_28 hc_13
          obtain ⟨told_30, h_told_30, hc_13⟩ := bind_some hc_13
          refine sb_appO (i := 1) (j := 0) rfl rfl (ev_tup (ea_cons (ev_var (i := 2) rfl) (ea_cons (ev_str ("" : Str)) ea_nil))) h_told_30 (ow1 := [ol p_told_2 told_30]) rfl ?_
          cases hc_13
          exact fun σ Kn H s => hN_11 _ hP_12 σ Kn H ((s.le (.keep (.keep (.keep (.drop (.drop (.drop (.drop (.drop (.keep .nil)))))))))).sub (List.Sublist.refl _))
        · have hc_13 := ite_f hb_28 hc_13
          refine sb_nx ?_
          cases hc_13
          exact fun σ Kn H s => hN_11 _ hP_12 σ Kn H ((s.le (.keep (.keep (.keep (.drop (.drop (.drop (.drop (.drop (.keep .nil)))))))))).sub (List.Sublist.refl _))
    · intro s_ h0
      cases h0
      refine kx_33 _ _ ?_
      refine SB.is (sl' := [sv blocks_1, .at p_told_2, sv top_31, .any, .any, .any, .any, .any, .any]) (ow1 := [ol p_told_2 told_32]) rfl rfl ?_
      cases hf
      exact sb_retO (i := 1) (j := 0) rfl rfl q (List.Sublist.cons _ List.Sublist.slnil)
theorem sc_page_cost : FnScope ["price", "height", "top", "cut", "depth", "within", "room"] ["price", "height", "top", "cut"] (defScope s_page_cost) := ⟨rfl, rfl, rfl, by decide +kernel, rfl, by decide +kernel, by decide +kernel⟩
set_option maxHeartbeats 4000000 in
theorem ok_page_cost (T : TX K mg w) : FnOk P w K mg base CX0 1 T.a_page_cost T.d_page_cost ["price", "height", "top", "cut"] (PF (τ := Int × Int × Int × (Int × Str × Unit) × Unit) K (fun t => m_page_cost t.1 t.2.1 t.2.2.1 t.2.2.2.1)) := by
  refine T.F_page_cost.ok sc_page_cost (fun vs H Q E h => ?_) (fun cdv A outer s H vs Q E hr h => ?_)
  · obtain ⟨Kn, t, r, ek, h, hf, q⟩ := h
    exact Tp.len h
  · obtain ⟨Kn, t, r_, ek, h, hf, q⟩ := h
    obtain ⟨price_34, height_35, top_36, cut_37, u_⟩ := t
    obtain ⟨v_0, rr_, rfl, hv_0, h⟩ := h
    obtain ⟨v_1, rr_, rfl, hv_1, h⟩ := h
    obtain ⟨v_2, rr_, rfl, hv_2, h⟩ := h
    obtain ⟨v_3, rr_, rfl, hv_3, h⟩ := h
    obtain rfl := h
    replace hf : m_page_cost price_34 height_35 top_36 cut_37 = some r_ := hf
    unfold m_page_cost at hf
    refine ⟨_, (pss_cons (ps_asg (pv 3) (kpg_tup (pgs_cons (pg_name (i := 4) sc_page_cost.nd rfl (.inl rfl)) (pgs_cons (pg_name (i := 5) sc_page_cost.nd rfl (.inl rfl)) pgs_nil))))
      (pss_cons (ps_set (i := 6) sc_page_cost.nd rfl (.inl rfl) (pe_op op_sub (pv 1) (pe_op op_sub (pv 4) (pv 2))))
      (pss_one (ps_ret (pe_op op_add (pe_op op_mul (pv 6) (pv 6)) (pe_op op_mul (pv 0) (pe_callTy call_int1 (by rfl) T.z_int (by decide +kernel) (pa_cons (pe_cmpR op_ne (pv 5) pe_str (nomark _)) pa_nil)))))))), ?_⟩
    refine enter (Kn := Kn) (sl := [sv price_34, sv height_35, sv top_36, sv cut_37, .any, .any, .any]) ek ⟨⟨v_0, rfl, hv_0⟩, ⟨v_1, rfl, hv_1⟩, ⟨v_2, rfl, hv_2⟩, ⟨v_3, rfl, hv_3⟩, trivial, trivial, trivial, trivial⟩ ?_
    have q := rt_of q
    obtain ⟨⟨depth_38, within_39, _⟩, h_depth_38, hf⟩ := bind_some hf
    refine SB.seqB (fun kx_ => sb_unp (sl' := [sv price_34, sv height_35, sv top_36, sv cut_37, sv depth_38, sv within_39, .any]) (EV.cast (ev_var (i := 3) rfl) (Option.some.inj h_depth_38)) (gt_tup (gts_cons (gt_name rfl) (gts_cons (gt_name rfl) gts_nil))) (kx_ _ _ ?_))
    obtain ⟨room_40, h_room_40, hf⟩ := bind_some hf
    refine SB.seqB (fun kx_ => sb_asg (sl' := [sv price_34, sv height_35, sv top_36, sv cut_37, sv depth_38, sv within_39, sv room_40]) rfl (EV.cast (ev_op (ev_var (i := 1) rfl) (ev_op (ev_var (i := 4) rfl) (ev_var (i := 2) rfl) r2_sub) r2_sub) (Option.some.inj h_room_40)) (kx_ _ _ ?_))
    obtain ⟨m_41, h_m_41, hf⟩ := bind_some hf
    obtain ⟨m_42, h_m_42, hf⟩ := bind_some hf
    cases hf
    exact sb_ret (ev_op (ev_op (ev_var (i := 6) rfl) (ev_var (i := 6) rfl) (r2_mulO h_m_41)) (ev_op (ev_var (i := 0) rfl) (ev_cb (ea_cons (ev_op (ev_var (i := 5) rfl) (ev_str ("" : Str)) r2_neS) ea_nil) rc_intB) (r2_mulO h_m_42)) r2_add) q (List.Sublist.refl _)
theorem sc_between : FnScope ["blocks", "top", "end", "names", "depth", "name", "height", "cuts", "keep"] ["blocks", "top", "end"] (defScope s_between) := ⟨rfl, rfl, rfl, by decide +kernel, rfl, by decide +kernel, by decide +kernel⟩
set_option maxHeartbeats 4000000 in
theorem ok_between (T : TX K mg w) : FnOk P w K mg base CX0 1 T.a_between T.d_between ["blocks", "top", "end"] (PF (τ := (List (Str × Int × (Tu Int) × Bool × Unit)) × Int × Int × Unit) K (fun t => m_between t.1 t.2.1 t.2.2.1)) := by
  refine T.F_between.ok sc_between (fun vs H Q E h => ?_) (fun cdv A outer s H vs Q E hr h => ?_)
  · obtain ⟨Kn, t, r, ek, h, hf, q⟩ := h
    exact Tp.len h
  · obtain ⟨Kn, t, r_, ek, h, hf, q⟩ := h
    obtain ⟨blocks_43, top_44, end_45, u_⟩ := t
    obtain ⟨v_0, rr_, rfl, hv_0, h⟩ := h
    obtain ⟨v_1, rr_, rfl, hv_1, h⟩ := h
    obtain ⟨v_2, rr_, rfl, hv_2, h⟩ := h
    obtain rfl := h
    replace hf : m_between blocks_43 top_44 end_45 = some r_ := hf
    unfold m_between at hf
    refine ⟨_, (pss_cons (ps_set (i := 3) sc_between.nd rfl (.inl rfl) (pe_lst pa_nil))
      (pss_cons (ps_set (i := 4) sc_between.nd rfl (.inl rfl) pe_int)
      (pss_cons (ps_for PassesOwn.never rfl (kpi_list (pv 0)) (kpg_tup (pgs_cons (pg_name (i := 5) sc_between.nd rfl (.inl rfl)) (pgs_cons (pg_name (i := 6) sc_between.nd rfl (.inl rfl)) (pgs_cons (pg_name (i := 7) sc_between.nd rfl (.inl rfl)) (pgs_cons (pg_name (i := 8) sc_between.nd rfl (.inl rfl)) pgs_nil))))) (Evl.pss_cut (ps_if (PW.pt (pw_and (pt_cmpR op_lt (pv 4) (pv 2) (nomark _)) (pw_and1 (pt_cmpR op_gt (pe_op op_add (pv 4) (pv 6)) (pv 1) (nomark _))))) (pss_one (ps_expr (pe_bm PySem.F.plainAttrs_list PySem.F.slot_list_append PySem.F.type_list_append mt_append (pv 3) (pa_cons (pv 5) pa_nil)))) pss_nil)
      (pss_one (ps_set (i := 4) sc_between.nd rfl (.inl rfl) (pe_op op_add (pv 4) (pv 6))))))
      (pss_one (ps_ret (pe_tup (pa_cons (pe_ix k_ixl (pv 3) pe_int (fun _ _ => rfl)) (pa_cons (pe_ix k_ixl (pv 3) (pe_un un_neg pe_int) (fun _ _ => rfl)) pa_nil)))))))), ?_⟩
    refine enter (Kn := Kn) (sl := [sv blocks_43, sv top_44, sv end_45, .any, .any, .any, .any, .any, .any]) ek ⟨⟨v_0, rfl, hv_0⟩, ⟨v_1, rfl, hv_1⟩, ⟨v_2, rfl, hv_2⟩, trivial, trivial, trivial, trivial, trivial, trivial, trivial⟩ ?_
    have q := rt_of q
    obtain ⟨names_46, h_names_46, hf⟩ := bind_some hf
    refine SB.seqB (fun kx_ => sb_asgO (sl' := fun p_names_46 => [sv blocks_43, sv top_44, sv end_45, .at p_names_46, .any, .any, .any, .any, .any]) (fun _ => rfl) (EN.cast (en_lst el_nil) (Option.some.inj h_names_46)) (fun p_names_46 => (kx_ _ _ ?_)))
    obtain ⟨depth_47, h_depth_47, hf⟩ := bind_some hf
    refine SB.seqB (fun kx_ => sb_asg (sl' := [sv blocks_43, sv top_44, sv end_45, .at p_names_46, sv depth_47, .any, .any, .any, .any]) rfl (EV.cast (ev_int 0) (Option.some.inj h_depth_47)) (kx_ _ _ ?_))
    obtain ⟨⟨depth_65, names_66⟩, h_tot_58, hf⟩ := bind_some hf
    refine SB.seqB (fun kx_67 => sb_for (β := (Str × Int × (Tu Int) × Bool × Unit)) (Sx := Int × (List Str)) (fun s => [sv blocks_43, sv top_44, sv end_45, .at p_names_46, sv s.1, .any, .any, .any, .any]) (fun s => [ol p_names_46 s.2]) (fun x s => [sv blocks_43, sv top_44, sv end_45, .at p_names_46, sv s.1, sv x.1, sv x.2.1, sv x.2.2.1, sv x.2.2.2.1]) [5, 6, 7, 8] (fun xs s => forS (m_between_L1 top_44 end_45) xs s = some (depth_65, names_66)) (depth_47, names_46) (IT.m (it_list (ev_var (i := 0) rfl))) h_tot_58 (.keep (.keep (.keep (.keep (.keep (.keep (.keep (.keep (.keep .nil))))))))) (List.Sublist.refl _) (fun x s => (gt_tup (gts_cons (gt_name rfl) (gts_cons (gt_name rfl) (gts_cons (gt_name rfl) (gts_cons (gt_name rfl) gts_nil)))))) ?_ ?_)
    · intro Kn1 b1 x_ rest_ s_ hP_55 N_ hN_54
      obtain ⟨name_50, height_51, cuts_52, keep_53, _⟩ := x_
      obtain ⟨depth_48, names_49⟩ := s_
      obtain ⟨c_, hc_56, hP_55⟩ := bind_some hP_55
      have q_57 := q.base b1
      unfold m_between_L1 at hc_56
      refine SB.is (sl' := [sv blocks_43, sv top_44, sv end_45, .at p_names_46, sv depth_48, sv name_50, sv height_51, sv cuts_52, sv keep_53]) (ow1 := [ol p_names_46 names_49]) rfl rfl ?_
      obtain ⟨names_62, hj_59, hc_56⟩ := bind_some hc_56
      refine SB.cutB (sl' := [sv blocks_43, sv top_44, sv end_45, .at p_names_46, sv depth_48, sv name_50, sv height_51, sv cuts_52, sv keep_53]) (ow1 := [ol p_names_46 names_62]) (fun km_63 => sb_if (b := ((decide (depth_48 < end_45)) && (decide (top_44 < (depth_48 + height_51))))) (et_and (et_test (ev_op (ev_var (i := 4) rfl) (ev_var (i := 2) rfl) r2_lt)) (fun _ => (et_test (ev_op (ev_op (ev_var (i := 4) rfl) (ev_var (i := 6) rfl) r2_add) (ev_var (i := 1) rfl) r2_gt)))) (fun hb_60 => ?_) (fun hb_60 => ?_)) ?_
      · have hj_59 := ite_t hb_60 hj_59
        obtain ⟨names_61, h_names_61, hj_59⟩ := bind_some hj_59
        refine sb_appO (i := 3) (j := 0) rfl rfl (ev_var (i := 5) rfl) h_names_61 (ow1 := [ol p_names_46 names_61]) rfl ?_
        cases hj_59
        exact km_63 _ _ (.keep (.keep (.keep (.keep (.keep (.keep (.keep (.keep (.keep .nil))))))))) (List.Sublist.refl _)
      · have hj_59 := ite_f hb_60 hj_59
        refine sb_nx ?_
        cases hj_59
        exact km_63 _ _ (.keep (.keep (.keep (.keep (.keep (.keep (.keep (.keep (.keep .nil))))))))) (List.Sublist.refl _)
      obtain ⟨depth_64, h_depth_64, hc_56⟩ := bind_some hc_56
      refine sb_asg (sl' := [sv blocks_43, sv top_44, sv end_45, .at p_names_46, sv depth_64, sv name_50, sv height_51, sv cuts_52, sv keep_53]) rfl (EV.cast (ev_op (ev_var (i := 4) rfl) (ev_var (i := 6) rfl) r2_add) (Option.some.inj h_depth_64)) ?_
      cases hc_56
      exact fun σ Kn H s => hN_54 _ hP_55 σ Kn H ((s.le (.keep (.keep (.keep (.keep (.keep (.drop (.drop (.drop (.drop .nil)))))))))).sub (List.Sublist.refl _))
    · intro s_ h0
      cases h0
      refine kx_67 _ _ ?_
      refine SB.is (sl' := [sv blocks_43, sv top_44, sv end_45, .at p_names_46, sv depth_65, .any, .any, .any, .any]) (ow1 := [ol p_names_46 names_66]) rfl rfl ?_
      refine sb_freeze (i := 3) (j := 0) (sl' := [sv blocks_43, sv top_44, sv end_45, sv names_66, sv depth_65, .any, .any, .any, .any]) (ow1 := []) rfl rfl rfl rfl ?_
      obtain ⟨i_68, h_i_68, hf⟩ := bind_some hf
      obtain ⟨i_69, h_i_69, hf⟩ := bind_some hf
      cases hf
      exact sb_ret (ev_tup (ea_cons (ev_op (ev_var (i := 3) rfl) (ev_int 0) (r2_ixL h_i_68)) (ea_cons (ev_op (ev_var (i := 3) rfl) (ev_un (ev_int 1) r1_neg) (r2_ixL h_i_69)) ea_nil))) q (List.Sublist.refl _)
theorem sc_costs_of : FnScope ["cuts", "price", "height", "paper", "depth", "within", "least", "top", "cost", "told"] ["cuts", "price", "height"] (defScope s_costs_of) := ⟨rfl, rfl, rfl, by decide +kernel, rfl, by decide +kernel, by decide +kernel⟩
set_option maxHeartbeats 4000000 in
theorem ok_costs_of (T : TX K mg w) : FnOk P w K mg base CX0 2 T.a_costs_of T.d_costs_of ["cuts", "price", "height"] (PL (τ := (List (Int × Str × Unit)) × Int × Int × Unit) K (fun t => m_costs_of t.1 t.2.1 t.2.2.1)) := by
  refine T.F_costs_of.ok sc_costs_of (fun vs H Q E h => ?_) (fun cdv A outer s H vs Q E hr h => ?_)
  · obtain ⟨Kn, t, r, ek, h, hf, q⟩ := h
    exact Tp.len h
  · obtain ⟨Kn, t, r_, ek, h, hf, q⟩ := h
    obtain ⟨cuts_70, price_71, height_72, u_⟩ := t
    obtain ⟨v_0, rr_, rfl, hv_0, h⟩ := h
    obtain ⟨v_1, rr_, rfl, hv_1, h⟩ := h
    obtain ⟨v_2, rr_, rfl, hv_2, h⟩ := h
    obtain rfl := h
    replace hf : m_costs_of cuts_70 price_71 height_72 = some r_ := hf
    unfold m_costs_of at hf
    refine ⟨_, (pss_cons (ps_set (i := 3) sc_costs_of.nd rfl (.inl rfl) (pe_lst (pa_cons (pe_tup (pa_cons pe_int (pa_cons pe_int pa_nil))) pa_nil)))
      (pss_cons (ps_for PassesOwn.never rfl (kpi_list (pe_slice k_sll (pv 0) po_none (po_some (pe_un un_neg pe_int)))) (kpg_tup (pgs_cons (pg_name (i := 4) sc_costs_of.nd rfl (.inl rfl)) (pgs_cons (pg_name (i := 5) sc_costs_of.nd rfl (.inl rfl)) pgs_nil))) (pss_cons (ps_set (i := 6) sc_costs_of.nd rfl (.inl rfl) pe_non)
      (pss_cons (ps_for PassesOwn.never rfl (kpi_list (pv 3)) (kpg_tup (pgs_cons (pg_name (i := 7) sc_costs_of.nd rfl (.inl rfl)) (pgs_cons (pg_name (i := 8) sc_costs_of.nd rfl (.inl rfl)) pgs_nil))) (pss_one (ps_if (PW.pt (pw_and (pt_cmpR op_notN (pv 8) pe_non (nomark _)) (pw_and1 (pt_cmpR op_le (pe_op op_sub (pv 4) (pv 7)) (pv 2) (nomark _))))) (pss_cons (ps_set (i := 9) sc_costs_of.nd rfl (.inl rfl) (pe_op op_add (pv 8) (pe_call (ok_page_cost T) hr (by rfl) T.g_page_cost T.F_page_cost.kp T.b_page_cost .nil pass0 (pa_cons (pv 1) (pa_cons (pv 2) (pa_cons (pv 7) (pa_cons (pe_tup (pa_cons (pv 4) (pa_cons (pv 5) pa_nil))) pa_nil)))))))
      (pss_one (ps_if (PW.pt (pw_or (pt_cmpR op_isN (pv 6) pe_non (nomark _)) (pw_or1 (pt_cmpR op_lt (pv 9) (pv 6) (nomark _))))) (pss_one (ps_set (i := 6) sc_costs_of.nd rfl (.inl rfl) (pv 9))) pss_nil))) pss_nil)))
      (pss_one (ps_expr (pe_bm PySem.F.plainAttrs_list PySem.F.slot_list_append PySem.F.type_list_append mt_append (pv 3) (pa_cons (pe_tup (pa_cons (pv 4) (pa_cons (pv 6) pa_nil))) pa_nil)))))))
      (pss_one (ps_ret (pv 3))))), ?_⟩
    refine enter (Kn := Kn) (sl := [sv cuts_70, sv price_71, sv height_72, .any, .any, .any, .any, .any, .any, .any]) ek ⟨⟨v_0, rfl, hv_0⟩, ⟨v_1, rfl, hv_1⟩, ⟨v_2, rfl, hv_2⟩, trivial, trivial, trivial, trivial, trivial, trivial, trivial, trivial⟩ ?_
    have q := rn_of q
    obtain ⟨paper_73, h_paper_73, hf⟩ := bind_some hf
    refine SB.seqB (fun kx_ => sb_asgO (sl' := fun p_paper_73 => [sv cuts_70, sv price_71, sv height_72, .at p_paper_73, .any, .any, .any, .any, .any, .any]) (fun _ => rfl) (EN.cast (en_lst (el_cons (ev_tup (ea_cons (ev_int 0) (ea_cons (ev_some (ev_int 0)) ea_nil))) el_nil)) (Option.some.inj h_paper_73)) (fun p_paper_73 => (kx_ _ _ ?_)))
    obtain ⟨paper_106, h_tot_81, hf⟩ := bind_some hf
    refine SB.seqB (fun kx_107 => sb_for (β := (Int × Str × Unit)) (Sx := (List (Int × (Option Int) × Unit))) (fun s => [sv cuts_70, sv price_71, sv height_72, .at p_paper_73, .any, .any, .any, .any, .any, .any]) (fun s => [ol p_paper_73 s]) (fun x s => [sv cuts_70, sv price_71, sv height_72, .at p_paper_73, sv x.1, sv x.2.1, .any, .any, .any, .any]) [4, 5] (fun xs s => forS (m_costs_of_L1 price_71 height_72) xs s = some paper_106) paper_73 (IT.m (it_list (EN.ev (en_sl (ev_var (i := 0) rfl) eo_none (eo_some (ev_un (ev_int 1) r1_neg)))))) h_tot_81 (.keep (.keep (.keep (.keep (.keep (.keep (.keep (.keep (.keep (.keep .nil)))))))))) (List.Sublist.refl _) (fun x s => (gt_tup (gts_cons (gt_name rfl) (gts_cons (gt_name rfl) gts_nil)))) ?_ ?_)
    · intro Kn1 b1 x_ rest_ paper_74 hP_78 N_ hN_77
      obtain ⟨depth_75, within_76, _⟩ := x_
      obtain ⟨c_, hc_79, hP_78⟩ := bind_some hP_78
      have q_80 := q.base b1
      unfold m_costs_of_L1 at hc_79
      refine SB.is (sl' := [sv cuts_70, sv price_71, sv height_72, .at p_paper_73, sv depth_75, sv within_76, .any, .any, .any, .any]) (ow1 := [ol p_paper_73 paper_74]) rfl rfl ?_
      obtain ⟨least_82, h_least_82, hc_79⟩ := bind_some hc_79
      refine SB.seqB (fun kx_ => sb_asg (sl' := [sv cuts_70, sv price_71, sv height_72, .at p_paper_73, sv depth_75, sv within_76, sv least_82, .any, .any, .any]) rfl (EV.cast ev_none (Option.some.inj h_least_82)) (kx_ _ _ ?_))
      obtain ⟨least_103, h_tot_90, hc_79⟩ := bind_some hc_79
      refine SB.seqB (fun kx_104 => sb_forO (i := 3) (j := 0) (xs := paper_74) rfl rfl (ow1 := []) rfl (Sx := (Option Int)) (fun s => [sv cuts_70, sv price_71, sv height_72, .at p_paper_73, sv depth_75, sv within_76, sv s, .any, .any, .any]) (fun s => []) (fun x s => [sv cuts_70, sv price_71, sv height_72, .at p_paper_73, sv depth_75, sv within_76, sv s, sv x.1, sv x.2.1, .any]) [7, 8] (fun xs s => forS (m_costs_of_L2 price_71 height_72 depth_75 within_76) xs s = some least_103) least_82 h_tot_90 (.keep (.keep (.keep (.keep (.keep (.keep (.keep (.keep (.keep (.keep .nil)))))))))) (List.Sublist.refl _) (fun x s => (gt_tup (gts_cons (gt_name rfl) (gts_cons (gt_name rfl) gts_nil)))) ?_ ?_)
      · intro F1_ fl_ Kn1 b1 x_ rest_ least_83 hP_87 N_ hN_86
        obtain ⟨top_84, cost_85, _⟩ := x_
        obtain ⟨c_, hc_88, hP_87⟩ := bind_some hP_87
        have q_89 := (q_80.fr fl_).base b1
        unfold m_costs_of_L2 at hc_88
        refine SB.is (sl' := [sv cuts_70, sv price_71, sv height_72, .at p_paper_73, sv depth_75, sv within_76, sv least_83, sv top_84, sv cost_85, .any]) (ow1 := []) rfl rfl ?_
        refine sb_if (b := ((cost_85.isSome) && (decide ((depth_75 - top_84) ≤ height_72)))) (et_and (et_test (ev_op (ev_var (i := 8) rfl) ev_nn r2_notN)) (fun _ => (et_test (ev_op (ev_op (ev_var (i := 4) rfl) (ev_var (i := 7) rfl) r2_sub) (ev_var (i := 2) rfl) r2_le)))) (fun hb_92 => ?_) (fun hb_92 => ?_)
        · have hc_88 := ite_t hb_92 hc_88
          obtain ⟨r_94, h_r_94, hc_88⟩ := bind_some hc_88
          obtain ⟨s_95, h_s_95, hc_88⟩ := bind_some hc_88
          obtain ⟨told_96, h_told_96, hc_88⟩ := bind_some hc_88
          refine SB.seqB (fun kx_ => sb_asg (sl' := [sv cuts_70, sv price_71, sv height_72, .at p_paper_73, sv depth_75, sv within_76, sv least_83, sv top_84, sv cost_85, sv told_96]) rfl (EV.cast (ev_op (ev_unopt (ev_var (i := 8) rfl) h_s_95) (ev_call (ea_cons (ev_var (i := 1) rfl) (ea_cons (ev_var (i := 2) rfl) (ea_cons (ev_var (i := 7) rfl) (ea_cons (ev_tup (ea_cons (ev_var (i := 4) rfl) (ea_cons (ev_var (i := 5) rfl) ea_nil))) ea_nil)))) h_r_94) r2_add) (Option.some.inj h_told_96)) (kx_ _ _ ?_))
          obtain ⟨b_99, h_b_99, hc_88⟩ := bind_some hc_88
          refine sb_if (b := b_99) (et_orO h_b_99 (et_test (ev_op (ev_var (i := 6) rfl) ev_nn r2_isN)) (fun _ _ h => by obtain ⟨s_98, h_s_98, h⟩ := bind_some h; have hz_ := Option.some.inj h; subst hz_; exact (et_test (ev_op (ev_var (i := 9) rfl) (ev_unopt (ev_var (i := 6) rfl) h_s_98) r2_lt)))) (fun hb_100 => ?_) (fun hb_100 => ?_)
          · have hc_88 := ite_t hb_100 hc_88
            obtain ⟨least_102, h_least_102, hc_88⟩ := bind_some hc_88
            refine sb_asg (sl' := [sv cuts_70, sv price_71, sv height_72, .at p_paper_73, sv depth_75, sv within_76, sv least_102, sv top_84, sv cost_85, sv told_96]) rfl (EV.cast (ev_some (ev_var (i := 9) rfl)) (Option.some.inj h_least_102)) ?_
            cases hc_88
            exact fun σ Kn H s => hN_86 _ hP_87 σ Kn H ((s.le (.keep (.keep (.keep (.keep (.keep (.keep (.keep (.drop (.drop (.drop .nil))))))))))).sub (List.Sublist.refl _))
          · have hc_88 := ite_f hb_100 hc_88
            refine sb_nx ?_
            cases hc_88
            exact fun σ Kn H s => hN_86 _ hP_87 σ Kn H ((s.le (.keep (.keep (.keep (.keep (.keep (.keep (.keep (.drop (.drop (.drop .nil))))))))))).sub (List.Sublist.refl _))
        · have hc_88 := ite_f hb_92 hc_88
          refine sb_nx ?_
          cases hc_88
          exact fun σ Kn H s => hN_86 _ hP_87 σ Kn H ((s.le (.keep (.keep (.keep (.keep (.keep (.keep (.keep (.drop (.drop (.keep .nil))))))))))).sub (List.Sublist.refl _))
      · intro s_ h0
        cases h0
        refine kx_104 _ _ ?_
        refine SB.is (sl' := [sv cuts_70, sv price_71, sv height_72, .at p_paper_73, sv depth_75, sv within_76, sv least_103, .any, .any, .any]) (ow1 := [ol p_paper_73 paper_74]) rfl rfl ?_
        obtain ⟨paper_105, h_paper_105, hc_79⟩ := bind_some hc_79
        refine sb_appO (i := 3) (j := 0) rfl rfl (ev_tup (ea_cons (ev_var (i := 4) rfl) (ea_cons (ev_var (i := 6) rfl) ea_nil))) h_paper_105 (ow1 := [ol p_paper_73 paper_105]) rfl ?_
        cases hc_79
        exact fun σ Kn H s => hN_77 _ hP_78 σ Kn H ((s.le (.keep (.keep (.keep (.keep (.drop (.drop (.drop (.keep (.keep (.keep .nil))))))))))).sub (List.Sublist.refl _))
    · intro s_ h0
      cases h0
      refine kx_107 _ _ ?_
      refine SB.is (sl' := [sv cuts_70, sv price_71, sv height_72, .at p_paper_73, .any, .any, .any, .any, .any, .any]) (ow1 := [ol p_paper_73 paper_106]) rfl rfl ?_
      cases hf
      exact sb_retO (i := 3) (j := 0) rfl rfl q (List.Sublist.cons _ List.Sublist.slnil)
theorem sc_step_to : FnScope ["paper", "price", "height", "depth", "cost", "cut", "top", "told"] ["paper", "price", "height", "depth", "cost", "cut"] (defScope s_step_to) := ⟨rfl, rfl, rfl, by decide +kernel, rfl, by decide +kernel, by decide +kernel⟩
set_option maxHeartbeats 4000000 in
theorem ok_step_to (T : TX K mg w) : FnOk P w K mg base CX0 2 T.a_step_to T.d_step_to ["paper", "price", "height", "depth", "cost", "cut"] (PF (τ := (List (Int × (Option Int) × Unit)) × Int × Int × Int × Int × (Option (Int × Str × Unit)) × Unit) K (fun t => m_step_to t.1 t.2.1 t.2.2.1 t.2.2.2.1 t.2.2.2.2.1 t.2.2.2.2.2.1)) := by
  refine T.F_step_to.ok sc_step_to (fun vs H Q E h => ?_) (fun cdv A outer s H vs Q E hr h => ?_)
  · obtain ⟨Kn, t, r, ek, h, hf, q⟩ := h
    exact Tp.len h
  · obtain ⟨Kn, t, r_, ek, h, hf, q⟩ := h
    obtain ⟨paper_108, price_109, height_110, depth_111, cost_112, cut_113, u_⟩ := t
    obtain ⟨v_0, rr_, rfl, hv_0, h⟩ := h
    obtain ⟨v_1, rr_, rfl, hv_1, h⟩ := h
    obtain ⟨v_2, rr_, rfl, hv_2, h⟩ := h
    obtain ⟨v_3, rr_, rfl, hv_3, h⟩ := h
    obtain ⟨v_4, rr_, rfl, hv_4, h⟩ := h
    obtain ⟨v_5, rr_, rfl, hv_5, h⟩ := h
    obtain rfl := h
    replace hf : m_step_to paper_108 price_109 height_110 depth_111 cost_112 cut_113 = some r_ := hf
    unfold m_step_to at hf
    refine ⟨_, (pss_cons (ps_for PassesOwn.never rfl (kpi_list (pv 0)) (kpg_tup (pgs_cons (pg_name (i := 6) sc_step_to.nd rfl (.inl rfl)) (pgs_cons (pg_name (i := 7) sc_step_to.nd rfl (.inl rfl)) pgs_nil))) (pss_one (ps_if (PW.pt (pw_and (pt_cmpR op_notN (pv 7) pe_non (nomark _)) (pw_and (pt_cmpR op_lt (pv 6) (pv 3) (nomark _)) (pw_and1 (pt_cmpR op_le (pe_op op_sub (pv 3) (pv 6)) (pv 2) (nomark _)))))) (pss_cons (ps_if (PW.pt (pw_and (pt_cmpR op_isN (pv 5) pe_non (nomark _)) (pw_and1 (pt_cmpR op_eq (pv 7) (pv 4) (nomark _))))) (pss_one (ps_ret (pv 6))) pss_nil)
      (pss_one (ps_if (PW.pt (pw_and (pt_cmpR op_notN (pv 5) pe_non (nomark _)) (pw_and1 (pt_cmpR op_eq (pe_op op_add (pv 7) (pe_call (ok_page_cost T) hr (by rfl) T.g_page_cost T.F_page_cost.kp T.b_page_cost .nil pass0 (pa_cons (pv 1) (pa_cons (pv 2) (pa_cons (pv 6) (pa_cons (pv 5) pa_nil)))))) (pv 4) (nomark _))))) (pss_one (ps_ret (pv 6))) pss_nil))) pss_nil)))
      (pss_one (ps_ret pe_int))), ?_⟩
    refine enter (Kn := Kn) (sl := [sv paper_108, sv price_109, sv height_110, sv depth_111, sv cost_112, sv cut_113, .any, .any]) ek ⟨⟨v_0, rfl, hv_0⟩, ⟨v_1, rfl, hv_1⟩, ⟨v_2, rfl, hv_2⟩, ⟨v_3, rfl, hv_3⟩, ⟨v_4, rfl, hv_4⟩, ⟨v_5, rfl, hv_5⟩, trivial, trivial, trivial⟩ ?_
    have q := rt_of q
    obtain ⟨tot_120, h_tot_120, hf⟩ := bind_some hf
    refine SB.seqB (fun kx_136 => sb_for (β := (Int × (Option Int) × Unit)) (Sx := Unit) (fun s => [sv paper_108, sv price_109, sv height_110, sv depth_111, sv cost_112, sv cut_113, .any, .any]) (fun s => []) (fun x s => [sv paper_108, sv price_109, sv height_110, sv depth_111, sv cost_112, sv cut_113, sv x.1, sv x.2.1]) [6, 7] (fun xs s => forC (m_step_to_L1 price_109 height_110 depth_111 cost_112 cut_113) xs s = some tot_120) () (IT.m (it_list (ev_var (i := 0) rfl))) h_tot_120 (.keep (.keep (.keep (.keep (.keep (.keep (.keep (.keep .nil)))))))) (List.Sublist.refl _) (fun x s => (gt_tup (gts_cons (gt_name rfl) (gts_cons (gt_name rfl) gts_nil)))) ?_ ?_)
    · intro Kn1 b1 x_ rest_ s_ hP_117 N_ hN_116
      obtain ⟨top_114, told_115, _⟩ := x_
      obtain ⟨c_, hc_118, hP_117⟩ := bind_some hP_117
      have q_119 := q.base b1
      unfold m_step_to_L1 at hc_118
      refine SB.is (sl' := [sv paper_108, sv price_109, sv height_110, sv depth_111, sv cost_112, sv cut_113, sv top_114, sv told_115]) (ow1 := []) rfl rfl ?_
      refine sb_if (b := ((told_115.isSome) && ((decide (top_114 < depth_111)) && (decide ((depth_111 - top_114) ≤ height_110))))) (et_and (et_test (ev_op (ev_var (i := 7) rfl) ev_nn r2_notN)) (fun _ => (et_and (et_test (ev_op (ev_var (i := 6) rfl) (ev_var (i := 3) rfl) r2_lt)) (fun _ => (et_test (ev_op (ev_op (ev_var (i := 3) rfl) (ev_var (i := 6) rfl) r2_sub) (ev_var (i := 2) rfl) r2_le)))))) (fun hb_122 => ?_) (fun hb_122 => ?_)
      · have hc_118 := ite_t hb_122 hc_118
        obtain ⟨b_126, h_b_126, hc_118⟩ := bind_some hc_118
        refine SB.seqB (fun kx_128 => sb_if (b := b_126) (et_andO h_b_126 (et_test (ev_op (ev_var (i := 5) rfl) ev_nn r2_isN)) (fun _ _ h => by obtain ⟨s_125, h_s_125, h⟩ := bind_some h; have hz_ := Option.some.inj h; subst hz_; exact (et_test (ev_op (ev_unopt (ev_var (i := 7) rfl) h_s_125) (ev_var (i := 4) rfl) r2_eqI)))) (fun hb_127 => ?_) (fun hb_127 => ?_))
        · have hc_118 := ite_t hb_127 hc_118
          cases hc_118
          replace hP_117 : some (Ctl.rt top_114) = some tot_120 := hP_117
          cases hP_117
          replace hf : some top_114 = some r_ := hf
          cases hf
          exact sb_ret (ev_var (i := 6) rfl) q_119 (List.Sublist.refl _)
        · have hc_118 := ite_f hb_127 hc_118
          refine sb_nx ?_
          refine kx_128 _ _ ?_
          obtain ⟨b_133, h_b_133, hc_118⟩ := bind_some hc_118
          refine sb_if (b := b_133) (et_andO h_b_133 (et_test (ev_op (ev_var (i := 5) rfl) ev_nn r2_notN)) (fun _ _ h => by obtain ⟨s_130, h_s_130, h⟩ := bind_some h; obtain ⟨r_131, h_r_131, h⟩ := bind_some h; obtain ⟨s_132, h_s_132, h⟩ := bind_some h; have hz_ := Option.some.inj h; subst hz_; exact (et_test (ev_op (ev_op (ev_unopt (ev_var (i := 7) rfl) h_s_132) (ev_call (ea_cons (ev_var (i := 1) rfl) (ea_cons (ev_var (i := 2) rfl) (ea_cons (ev_var (i := 6) rfl) (ea_cons (ev_unopt (ev_var (i := 5) rfl) h_s_130) ea_nil)))) h_r_131) r2_add) (ev_var (i := 4) rfl) r2_eqI)))) (fun hb_134 => ?_) (fun hb_134 => ?_)
          · have hc_118 := ite_t hb_134 hc_118
            cases hc_118
            replace hP_117 : some (Ctl.rt top_114) = some tot_120 := hP_117
            cases hP_117
            replace hf : some top_114 = some r_ := hf
            cases hf
            exact sb_ret (ev_var (i := 6) rfl) q_119 (List.Sublist.refl _)
          · have hc_118 := ite_f hb_134 hc_118
            refine sb_nx ?_
            cases hc_118
            exact fun σ Kn H s => hN_116 _ hP_117 σ Kn H ((s.le (.keep (.keep (.keep (.keep (.keep (.keep (.drop (.drop .nil))))))))).sub (List.Sublist.refl _))
      · have hc_118 := ite_f hb_122 hc_118
        refine sb_nx ?_
        cases hc_118
        exact fun σ Kn H s => hN_116 _ hP_117 σ Kn H ((s.le (.keep (.keep (.keep (.keep (.keep (.keep (.drop (.drop .nil))))))))).sub (List.Sublist.refl _))
    · intro s_ h0
      cases h0
      refine kx_136 _ _ ?_
      refine SB.is (sl' := [sv paper_108, sv price_109, sv height_110, sv depth_111, sv cost_112, sv cut_113, .any, .any]) (ow1 := []) rfl rfl ?_
      cases hf
      exact sb_ret (ev_int 0) q (List.Sublist.refl _)
theorem sc_set_pages : FnScope ["blocks", "price", "height", "cuts", "top", "depth", "within", "first", "last", "paper", "end", "cost", "least", "depths", "told"] ["blocks", "price", "height"] (defScope s_set_pages) := ⟨rfl, rfl, rfl, by decide +kernel, rfl, by decide +kernel, by decide +kernel⟩
set_option maxHeartbeats 4000000 in
theorem ok_set_pages (T : TX K mg w) : FnOk P w K mg base (L2.CX P w) 3 T.a_set_pages T.d_set_pages ["blocks", "price", "height"] (PX (τ := (List (Str × Int × (Tu Int) × Bool × Unit)) × Int × Int × Unit) K (cmT T) (fun t => m_set_pages t.1 t.2.1 t.2.2.1)) := by
  refine T.F_set_pages.okX sc_set_pages (fun vs H Q E h => ?_) (fun cdv A outer s H vs Q E hr h => ?_)
  · obtain ⟨Kn, t, r, ek, h, hf, q⟩ := h
    exact Tp.len h
  · obtain ⟨Kn, t, r_, ek, h, hf, q⟩ := h
    obtain ⟨blocks_137, price_138, height_139, u_⟩ := t
    obtain ⟨v_0, rr_, rfl, hv_0, h⟩ := h
    obtain ⟨v_1, rr_, rfl, hv_1, h⟩ := h
    obtain ⟨v_2, rr_, rfl, hv_2, h⟩ := h
    obtain rfl := h
    replace hf : m_set_pages blocks_137 price_138 height_139 = some r_ := hf
    unfold m_set_pages at hf
    refine ⟨_, (pss_cons (ps_set (i := 3) sc_set_pages.nd rfl (.inl rfl) (pe_call (ok_cuts_of T) (hr.mono (by decide)) (by rfl) T.g_cuts_of T.F_cuts_of.kp T.b_cuts_of .nil pass0 (pa_cons (pv 0) pa_nil)))
      (pss_cons (ps_set (i := 4) sc_set_pages.nd rfl (.inl rfl) pe_int)
      (pss_cons (ps_for (passes_of rfl) rfl (kpi_list (pv 3)) (kpg_tup (pgs_cons (pg_name (i := 5) sc_set_pages.nd rfl (.inl rfl)) (pgs_cons (pg_name (i := 6) sc_set_pages.nd rfl (.inl rfl)) pgs_nil))) (pss_cons (ps_if (pt_cmpR op_gt (pe_op op_sub (pv 5) (pv 4)) (pv 2) (nomark _)) (pss_cons (ps_asg (pe_call (ok_between T) (hr.mono (by decide)) (by rfl) T.g_between T.F_between.kp T.b_between .nil pass0 (pa_cons (pv 0) (pa_cons (pv 4) (pa_cons (pv 5) pa_nil)))) (kpg_tup (pgs_cons (pg_name (i := 7) sc_set_pages.nd rfl (.inl rfl)) (pgs_cons (pg_name (i := 8) sc_set_pages.nd rfl (.inl rfl)) pgs_nil))))
      (pss_one (ps_raise rfl (takes_of rfl rfl rfl rfl) (pmk_oex T.oex_NoPages T.iC_NoPages T.tI_NoPages (oki_NoPages T) hr T.bi_NoPages .nil pass0 (by rfl) T.gC_NoPages (pa_cons (pv 7) (pa_cons (pv 8) pa_nil)))))) pss_nil)
      (pss_one (ps_set (i := 4) sc_set_pages.nd rfl (.inl rfl) (pv 5)))))
      (pss_cons (ps_set (i := 9) sc_set_pages.nd rfl (.inl rfl) (pe_call (ok_costs_of T) hr (by rfl) T.g_costs_of T.F_costs_of.kp T.b_costs_of .nil pass0 (pa_cons (pv 3) (pa_cons (pv 1) (pa_cons (pv 2) pa_nil)))))
      (pss_cons (ps_set (i := 10) sc_set_pages.nd rfl (.inr rfl) (pe_ix k_ixt (pe_ix k_ixl (pv 3) (pe_un un_neg pe_int) (fun _ _ => rfl)) pe_int (fun _ _ => rfl)))
      (pss_cons (ps_set (i := 11) sc_set_pages.nd rfl (.inl rfl) (pe_callB k_minL (by rfl) T.z_min (by decide +kernel) (pa_cons (pe_lc (own := [("top", 4), ("told", 14)]) (g := gTup K 2 (gCons (gName 4) (gCons (gName 14) gNil))) (by rfl) sc_set_pages.nd (kpi_list (pv 9)) (blkOk_by (own := [("top", 4), ("told", 14)]) (N := ["blocks", "price", "height", "cuts", "top", "depth", "within", "first", "last", "paper", "end", "cost", "least", "depths", "told"]) (sc := defScope s_set_pages) (by decide +kernel)) (fun _ _ _ _ _ => (kpg_tup (pgs_cons (pg_name (i := 4) sc_set_pages.nd rfl (Or.inl rfl)) (pgs_cons (pg_name (i := 14) sc_set_pages.nd rfl (Or.inl rfl)) pgs_nil)))) (fun _ _ _ _ _ => pts_one (PW.pt (pw_and (pt_cmpR op_notN (pv 14) pe_non (nomark _)) (pw_and1 (pt_cmpR op_le (pe_op op_sub (pv 10) (pv 4)) (pv 2) (nomark _)))))) (fun _ _ _ _ _ => (pv 14))) pa_nil)))
      (pss_cons (ps_set (i := 6) sc_set_pages.nd rfl (.inl rfl) (pe_callTy k_dictP (by rfl) T.z_dict (by decide +kernel) (pa_cons (pv 3) pa_nil)))
      (pss_cons (ps_set (i := 12) sc_set_pages.nd rfl (.inl rfl) (pe_callTy k_dictP (by rfl) T.z_dict (by decide +kernel) (pa_cons (pv 9) pa_nil)))
      (pss_cons (ps_set (i := 13) sc_set_pages.nd rfl (.inl rfl) (pe_lst (pa_cons (pv 10) pa_nil)))
      (pss_cons (ps_set (i := 4) sc_set_pages.nd rfl (.inl rfl) (pe_call (ok_step_to T) hr (by rfl) T.g_step_to T.F_step_to.kp T.b_step_to .nil pass0 (pa_cons (pv 9) (pa_cons (pv 1) (pa_cons (pv 2) (pa_cons (pv 10) (pa_cons (pv 11) (pa_cons pe_non pa_nil))))))))
      (pss_cons (ps_while (passes_of rfl) (pt_cmpR op_gt (pv 4) pe_int (nomark _)) (pss_cons (ps_expr (pe_bm PySem.F.plainAttrs_list PySem.F.slot_list_append PySem.F.type_list_append mt_append (pv 13) (pa_cons (pv 4) pa_nil)))
      (pss_one (ps_set (i := 4) sc_set_pages.nd rfl (.inl rfl) (pe_call (ok_step_to T) hr (by rfl) T.g_step_to T.F_step_to.kp T.b_step_to .nil pass0 (pa_cons (pv 9) (pa_cons (pv 1) (pa_cons (pv 2) (pa_cons (pv 4) (pa_cons (k_dget hr.units (pv 12) (pv 4) (fun _ _ => rfl)) (pa_cons (pe_tup (pa_cons (pv 4) (pa_cons (k_dget hr.units (pv 6) (pv 4) (fun _ _ => rfl)) pa_nil))) pa_nil)))))))))))
      (pss_cons (ps_expr (pe_bm0 PySem.F.plainAttrs_list PySem.F.slot_list_reverse PySem.F.type_list_reverse mt_reverse (pv 13)))
      (pss_one (ps_ret (pe_tup (pa_cons (pv 13) (pa_cons (pv 9) pa_nil))))))))))))))))), ?_⟩
    refine enter (Kn := Kn) (sl := [sv blocks_137, sv price_138, sv height_139, .any, .any, .any, .any, .any, .any, .any, .any, .any, .any, .any, .any]) ek ⟨⟨v_0, rfl, hv_0⟩, ⟨v_1, rfl, hv_1⟩, ⟨v_2, rfl, hv_2⟩, trivial, trivial, trivial, trivial, trivial, trivial, trivial, trivial, trivial, trivial, trivial, trivial, trivial⟩ ?_
    have q := re_of q
    obtain ⟨r_140, h_r_140, hf⟩ := bind_some hf
    obtain ⟨cuts_141, h_cuts_141, hf⟩ := bind_some hf
    refine SB.seqB (fun kx_ => sb_asg (sl' := [sv blocks_137, sv price_138, sv height_139, sv cuts_141, .any, .any, .any, .any, .any, .any, .any, .any, .any, .any, .any]) rfl (EV.cast (EN.ev (en_call (ea_cons (ev_var (i := 0) rfl) ea_nil) h_r_140)) (Option.some.inj h_cuts_141)) (kx_ _ _ ?_))
    obtain ⟨top_142, h_top_142, hf⟩ := bind_some hf
    refine SB.seqB (fun kx_ => sb_asg (sl' := [sv blocks_137, sv price_138, sv height_139, sv cuts_141, sv top_142, .any, .any, .any, .any, .any, .any, .any, .any, .any, .any]) rfl (EV.cast (ev_int 0) (Option.some.inj h_top_142)) (kx_ _ _ ?_))
    obtain ⟨tot_150, h_tot_150, hf⟩ := bind_some hf
    refine SB.seqB (fun kx_159 => sb_for (β := (Int × Str × Unit)) (Sx := Int) (fun s => [sv blocks_137, sv price_138, sv height_139, sv cuts_141, sv s, .any, .any, .any, .any, .any, .any, .any, .any, .any, .any]) (fun s => []) (fun x s => [sv blocks_137, sv price_138, sv height_139, sv cuts_141, sv s, sv x.1, sv x.2.1, .any, .any, .any, .any, .any, .any, .any, .any]) [5, 6] (fun xs s => forC (m_set_pages_L1 blocks_137 height_139) xs s = some tot_150) top_142 (IT.m (it_list (ev_var (i := 3) rfl))) h_tot_150 (.keep (.keep (.keep (.keep (.keep (.keep (.keep (.keep (.keep (.keep (.keep (.keep (.keep (.keep (.keep .nil))))))))))))))) (List.Sublist.refl _) (fun x s => (gt_tup (gts_cons (gt_name rfl) (gts_cons (gt_name rfl) gts_nil)))) ?_ ?_)
    · intro Kn1 b1 x_ rest_ top_143 hP_147 N_ hN_146
      obtain ⟨depth_144, within_145, _⟩ := x_
      obtain ⟨c_, hc_148, hP_147⟩ := bind_some hP_147
      have q_149 := q.base b1
      unfold m_set_pages_L1 at hc_148
      refine SB.is (sl' := [sv blocks_137, sv price_138, sv height_139, sv cuts_141, sv top_143, sv depth_144, sv within_145, .any, .any, .any, .any, .any, .any, .any, .any]) (ow1 := []) rfl rfl ?_
      refine SB.seqB (fun kx_153 => sb_if (b := (decide (height_139 < (depth_144 - top_143)))) (et_test (ev_op (ev_op (ev_var (i := 5) rfl) (ev_var (i := 4) rfl) r2_sub) (ev_var (i := 2) rfl) r2_gt)) (fun hb_152 => ?_) (fun hb_152 => ?_))
      · have hc_148 := ite_t hb_152 hc_148
        obtain ⟨r_154, h_r_154, hc_148⟩ := bind_some hc_148
        obtain ⟨⟨first_155, last_156, _⟩, h_first_155, hc_148⟩ := bind_some hc_148
        refine SB.seqB (fun kx_ => sb_unp (sl' := [sv blocks_137, sv price_138, sv height_139, sv cuts_141, sv top_143, sv depth_144, sv within_145, sv first_155, sv last_156, .any, .any, .any, .any, .any, .any]) (EV.cast (ev_call (ea_cons (ev_var (i := 0) rfl) (ea_cons (ev_var (i := 4) rfl) (ea_cons (ev_var (i := 5) rfl) ea_nil))) h_r_154) (Option.some.inj h_first_155)) (gt_tup (gts_cons (gt_name rfl) (gts_cons (gt_name rfl) gts_nil))) (kx_ _ _ ?_))
        cases hc_148
        replace hP_147 : some (Ctl.rt (Er.ex ⟨"NoPages", ((["first", "last"] : List Str).zip (Us.toDs (first_155, last_156, ()))).reverse⟩)) = some tot_150 := hP_147
        cases hP_147
        replace hf : some (Er.ex ⟨"NoPages", ((["first", "last"] : List Str).zip (Us.toDs (first_155, last_156, ()))).reverse⟩) = some r_ := hf
        cases hf
        exact sb_raise (cm := cmT T) (fs := (["first", "last"] : List Str)) (ea_cons (ev_var (i := 7) rfl) (ea_cons (ev_var (i := 8) rfl) ea_nil)) rfl T.oex_NoPages T.no_NoPages rfl (by decide) q_149 (List.Sublist.refl _)
      · have hc_148 := ite_f hb_152 hc_148
        refine sb_nx ?_
        refine kx_153 _ _ ?_
        obtain ⟨top_157, h_top_157, hc_148⟩ := bind_some hc_148
        refine sb_asg (sl' := [sv blocks_137, sv price_138, sv height_139, sv cuts_141, sv top_157, sv depth_144, sv within_145, .any, .any, .any, .any, .any, .any, .any, .any]) rfl (EV.cast (ev_var (i := 5) rfl) (Option.some.inj h_top_157)) ?_
        cases hc_148
        exact fun σ Kn H s => hN_146 _ hP_147 σ Kn H ((s.le (.keep (.keep (.keep (.keep (.keep (.drop (.drop (.keep (.keep (.keep (.keep (.keep (.keep (.keep (.keep .nil)))))))))))))))).sub (List.Sublist.refl _))
    · intro top_158 h0
      cases h0
      refine kx_159 _ _ ?_
      refine SB.is (sl' := [sv blocks_137, sv price_138, sv height_139, sv cuts_141, sv top_158, .any, .any, .any, .any, .any, .any, .any, .any, .any, .any]) (ow1 := []) rfl rfl ?_
      obtain ⟨r_160, h_r_160, hf⟩ := bind_some hf
      obtain ⟨paper_161, h_paper_161, hf⟩ := bind_some hf
      refine SB.seqB (fun kx_ => sb_asg (sl' := [sv blocks_137, sv price_138, sv height_139, sv cuts_141, sv top_158, .any, .any, .any, .any, sv paper_161, .any, .any, .any, .any, .any]) rfl (EV.cast (EN.ev (en_call (ea_cons (ev_var (i := 3) rfl) (ea_cons (ev_var (i := 1) rfl) (ea_cons (ev_var (i := 2) rfl) ea_nil))) h_r_160)) (Option.some.inj h_paper_161)) (kx_ _ _ ?_))
      obtain ⟨i_162, h_i_162, hf⟩ := bind_some hf
      obtain ⟨end_163, h_end_163, hf⟩ := bind_some hf
      refine SB.seqB (fun kx_ => sb_asg (sl' := [sv blocks_137, sv price_138, sv height_139, sv cuts_141, sv top_158, .any, .any, .any, .any, sv paper_161, sv end_163, .any, .any, .any, .any]) rfl (EV.cast (ev_op (ev_op (ev_var (i := 3) rfl) (ev_un (ev_int 1) r1_neg) (r2_ixL h_i_162)) (ev_int 0) (r2_tix (n := 0) (At.z _ _))) (Option.some.inj h_end_163)) (kx_ _ _ ?_))
      obtain ⟨zs_166, h_zs_166, hf⟩ := bind_some hf
      obtain ⟨min_168, h_min_168, hf⟩ := bind_some hf
      obtain ⟨cost_169, h_cost_169, hf⟩ := bind_some hf
      refine SB.seqB (fun kx_ => sb_asg (sl' := [sv blocks_137, sv price_138, sv height_139, sv cuts_141, sv top_158, .any, .any, .any, .any, sv paper_161, sv end_163, sv cost_169, .any, .any, .any]) rfl (EV.cast (ev_cb (ea_cons (EN.ev (EN.le (en_lc (js := [4, 14]) (fun x => [sv blocks_137, sv price_138, sv height_139, sv cuts_141, sv x.1, .any, .any, .any, .any, sv paper_161, sv end_163, .any, .any, .any, sv x.2.1]) h_zs_166 (it_list (ev_var (i := 9) rfl)) (anyAt_of (by rfl)) (fun x => (gt_tup (gts_cons (gt_name rfl) (gts_cons (gt_name rfl) gts_nil)))) (sub_of (by rfl)) (fun _ _ x b h => by obtain ⟨top_164, told_165, _⟩ := x; have hz_ := Option.some.inj h; subst hz_; exact ET.is (sl' := [sv blocks_137, sv price_138, sv height_139, sv cuts_141, sv top_164, .any, .any, .any, .any, sv paper_161, sv end_163, .any, .any, .any, sv told_165]) rfl (et_and (et_test (ev_op (ev_var (i := 14) rfl) ev_nn r2_notN)) (fun _ => (et_test (ev_op (ev_op (ev_var (i := 10) rfl) (ev_var (i := 4) rfl) r2_sub) (ev_var (i := 2) rfl) r2_le))))) (fun _ _ x z _ h => by obtain ⟨top_164, told_165, _⟩ := x; obtain ⟨s_167, h_s_167, h⟩ := bind_some h; have hz_ := Option.some.inj h; subst hz_; exact EV.is (sl' := [sv blocks_137, sv price_138, sv height_139, sv cuts_141, sv top_164, .any, .any, .any, .any, sv paper_161, sv end_163, .any, .any, .any, sv told_165]) rfl (ev_unopt (ev_var (i := 14) rfl) h_s_167))) (.keep (.keep (.keep (.keep (.drop (.keep (.keep (.keep (.keep (.keep (.keep (.keep (.keep (.keep (.keep .nil))))))))))))))))) ea_nil) (rc_minL h_min_168)) (Option.some.inj h_cost_169)) (kx_ _ _ ?_))
      obtain ⟨within_170, h_within_170, hf⟩ := bind_some hf
      refine SB.seqB (fun kx_ => sb_asg (sl' := [sv blocks_137, sv price_138, sv height_139, sv cuts_141, sv top_158, .any, sv within_170, .any, .any, sv paper_161, sv end_163, sv cost_169, .any, .any, .any]) rfl (EV.cast (EG.ev (eg_dictP (ev_var (i := 3) rfl))) (Option.some.inj h_within_170)) (kx_ _ _ ?_))
      obtain ⟨least_171, h_least_171, hf⟩ := bind_some hf
      refine SB.seqB (fun kx_ => sb_asg (sl' := [sv blocks_137, sv price_138, sv height_139, sv cuts_141, sv top_158, .any, sv within_170, .any, .any, sv paper_161, sv end_163, sv cost_169, sv least_171, .any, .any]) rfl (EV.cast (EG.ev (eg_dictP (ev_var (i := 9) rfl))) (Option.some.inj h_least_171)) (kx_ _ _ ?_))
      obtain ⟨depths_172, h_depths_172, hf⟩ := bind_some hf
      refine SB.seqB (fun kx_ => sb_asgO (sl' := fun p_depths_172 => [sv blocks_137, sv price_138, sv height_139, sv cuts_141, sv top_158, .any, sv within_170, .any, .any, sv paper_161, sv end_163, sv cost_169, sv least_171, .at p_depths_172, .any]) (fun _ => rfl) (EN.cast (en_lst (el_cons (ev_var (i := 10) rfl) el_nil)) (Option.some.inj h_depths_172)) (fun p_depths_172 => (kx_ _ _ ?_)))
      obtain ⟨r_173, h_r_173, hf⟩ := bind_some hf
      obtain ⟨top_174, h_top_174, hf⟩ := bind_some hf
      refine SB.seqB (fun kx_ => sb_asg (sl' := [sv blocks_137, sv price_138, sv height_139, sv cuts_141, sv top_174, .any, sv within_170, .any, .any, sv paper_161, sv end_163, sv cost_169, sv least_171, .at p_depths_172, .any]) rfl (EV.cast (ev_call (ea_cons (ev_var (i := 9) rfl) (ea_cons (ev_var (i := 1) rfl) (ea_cons (ev_var (i := 2) rfl) (ea_cons (ev_var (i := 10) rfl) (ea_cons (ev_var (i := 11) rfl) (ea_cons ev_none ea_nil)))))) h_r_173) (Option.some.inj h_top_174)) (kx_ _ _ ?_))
      obtain ⟨⟨top_188, depths_189⟩, h_tot_181, hf⟩ := bind_some hf
      obtain ⟨n0_, h_tot_181⟩ := whileF_some h_tot_181
      refine SB.seqB (fun kx_190 => sb_while (Sx := Int × (List Int)) (fun s => [sv blocks_137, sv price_138, sv height_139, sv cuts_141, sv s.1, .any, sv within_170, .any, .any, sv paper_161, sv end_163, sv cost_169, sv least_171, .at p_depths_172, .any]) (fun s => [ol p_depths_172 s.2]) (fun n s => whileS (m_set_pages_L2_c price_138 height_139 within_170 paper_161 least_171) (m_set_pages_L2 price_138 height_139 within_170 paper_161 least_171) n s = some (top_188, depths_189)) n0_ (top_174, depths_172) h_tot_181 (.keep (.keep (.keep (.keep (.keep (.keep (.keep (.keep (.keep (.keep (.keep (.keep (.keep (.keep (.keep .nil))))))))))))))) (List.Sublist.refl _) ?_)
      intro n_ s_ hP_178
      obtain ⟨top_175, depths_176⟩ := s_
      cases n_ with
      | zero => cases hP_178
      | succ n_ =>
        obtain ⟨b_, ht_, hP_178⟩ := bind_some hP_178
        unfold m_set_pages_L2_c at ht_
        cases ht_
        refine ⟨_, ET.is (sl' := [sv blocks_137, sv price_138, sv height_139, sv cuts_141, sv top_175, .any, sv within_170, .any, .any, sv paper_161, sv end_163, sv cost_169, sv least_171, .at p_depths_172, .any]) rfl (et_test (ev_op (ev_var (i := 4) rfl) (ev_int 0) r2_gt)), fun hb_180 N_ hN_177 => ?_, fun hb_180 => ?_⟩
        · have hP_178 := ite_t hb_180 hP_178
          obtain ⟨c_, hc_179, hP_178⟩ := bind_some hP_178
          unfold m_set_pages_L2 at hc_179
          refine SB.is (sl' := [sv blocks_137, sv price_138, sv height_139, sv cuts_141, sv top_175, .any, sv within_170, .any, .any, sv paper_161, sv end_163, sv cost_169, sv least_171, .at p_depths_172, .any]) (ow1 := [ol p_depths_172 depths_176]) rfl rfl ?_
          obtain ⟨depths_182, h_depths_182, hc_179⟩ := bind_some hc_179
          refine SB.seqB (fun kx_ => sb_appO (i := 13) (j := 0) rfl rfl (ev_var (i := 4) rfl) h_depths_182 (ow1 := [ol p_depths_172 depths_182]) rfl (kx_ _ _ ?_))
          obtain ⟨i_183, h_i_183, hc_179⟩ := bind_some hc_179
          obtain ⟨i_184, h_i_184, hc_179⟩ := bind_some hc_179
          obtain ⟨s_185, h_s_185, hc_179⟩ := bind_some hc_179
          obtain ⟨r_186, h_r_186, hc_179⟩ := bind_some hc_179
          obtain ⟨top_187, h_top_187, hc_179⟩ := bind_some hc_179
          refine sb_asg (sl' := [sv blocks_137, sv price_138, sv height_139, sv cuts_141, sv top_187, .any, sv within_170, .any, .any, sv paper_161, sv end_163, sv cost_169, sv least_171, .at p_depths_172, .any]) rfl (EV.cast (ev_call (ea_cons (ev_var (i := 9) rfl) (ea_cons (ev_var (i := 1) rfl) (ea_cons (ev_var (i := 2) rfl) (ea_cons (ev_var (i := 4) rfl) (ea_cons (ev_unopt (ev_dget (ev_var (i := 12) rfl) (ev_var (i := 4) rfl) h_i_183) h_s_185) (ea_cons (ev_some (ev_tup (ea_cons (ev_var (i := 4) rfl) (ea_cons (ev_dget (ev_var (i := 6) rfl) (ev_var (i := 4) rfl) h_i_184) ea_nil)))) ea_nil)))))) h_r_186) (Option.some.inj h_top_187)) ?_
          cases hc_179
          exact fun σ Kn H s => hN_177 _ _ (Nat.lt_succ_self _) hP_178 σ Kn H ((s.le (.keep (.keep (.keep (.keep (.keep (.keep (.keep (.keep (.keep (.keep (.keep (.keep (.keep (.keep (.keep .nil)))))))))))))))).sub (List.Sublist.refl _))
        · have hP_178 := ite_f hb_180 hP_178
          cases hP_178
          refine kx_190 _ _ ?_
          refine SB.is (sl' := [sv blocks_137, sv price_138, sv height_139, sv cuts_141, sv top_188, .any, sv within_170, .any, .any, sv paper_161, sv end_163, sv cost_169, sv least_171, .at p_depths_172, .any]) (ow1 := [ol p_depths_172 depths_189]) rfl rfl ?_
          refine SB.seqB (fun kx_ => sb_rev (i := 13) (j := 0) rfl rfl (ow1 := [ol p_depths_172 (depths_189.reverse)]) rfl (kx_ _ _ ?_))
          refine sb_freeze (i := 13) (j := 0) (sl' := [sv blocks_137, sv price_138, sv height_139, sv cuts_141, sv top_188, .any, sv within_170, .any, .any, sv paper_161, sv end_163, sv cost_169, sv least_171, sv (depths_189.reverse), .any]) (ow1 := []) rfl rfl rfl rfl ?_
          cases hf
          exact sb_ret (ev_tup (ea_cons (ev_var (i := 13) rfl) (ea_cons (ev_var (i := 9) rfl) ea_nil))) q (List.Sublist.refl _)
theorem sc_is_whole : FnScope ["thing"] ["thing"] (defScope s_is_whole) := ⟨rfl, rfl, rfl, by decide +kernel, rfl, by decide +kernel, by decide +kernel⟩
set_option maxHeartbeats 4000000 in
theorem ok_is_whole (T : TX K mg w) : FnOk P w K mg base CX0 1 T.a_is_whole T.d_is_whole ["thing"] (PF (τ := Dy × Unit) K (fun t => m_is_whole t.1)) := by
  refine T.F_is_whole.ok sc_is_whole (fun vs H Q E h => ?_) (fun cdv A outer s H vs Q E hr h => ?_)
  · obtain ⟨Kn, t, r, ek, h, hf, q⟩ := h
    exact Tp.len h
  · obtain ⟨Kn, t, r_, ek, h, hf, q⟩ := h
    obtain ⟨thing_191, u_⟩ := t
    obtain ⟨v_0, rr_, rfl, hv_0, h⟩ := h
    obtain rfl := h
    replace hf : m_is_whole thing_191 = some r_ := hf
    unfold m_is_whole at hf
    refine ⟨_, (pss_one (ps_ret (pe_and (pe_callB k_isi (by rfl) T.z_isinstance (by decide +kernel) (pa_cons (pv 0) (pa_cons (pe_bltn (v := .ty "int") (u := .type "int") (by rfl) T.z_int (by decide +kernel) rfl) pa_nil))) (pe_and (pe_not (pe_callB k_isi (by rfl) T.z_isinstance (by decide +kernel) (pa_cons (pv 0) (pa_cons (pe_bltn (v := .ty "bool") (u := .type "bool") (by rfl) T.z_bool (by decide +kernel) rfl) pa_nil)))) (pe_one (pe_cmpR op_ge (pv 0) pe_int (nomark _))))))), ?_⟩
    refine enter (Kn := Kn) (sl := [sv thing_191]) ek ⟨⟨v_0, rfl, hv_0⟩, trivial⟩ ?_
    have q := rt_of q
    obtain ⟨b_194, h_b_194, hf⟩ := bind_some hf
    cases hf
    exact sb_ret (ev_andO h_b_194 (ev_cb (ea_cons (ev_var (i := 0) rfl) (ea_cons (ev_ty "int") ea_nil)) (rc_isiD (by decide +kernel) (by decide +kernel) (by decide +kernel) (by decide +kernel) (by decide +kernel) (by decide +kernel))) (fun _ _ h => by obtain ⟨b_193, h_b_193, h⟩ := bind_some h; have hz_ := Option.some.inj h; subst hz_; exact (ev_andO h_b_193 (ev_notV (ev_cb (ea_cons (ev_var (i := 0) rfl) (ea_cons (ev_ty "bool") ea_nil)) (rc_isiD (by decide +kernel) (by decide +kernel) (by decide +kernel) (by decide +kernel) (by decide +kernel) (by decide +kernel)))) (fun _ _ h => by obtain ⟨o_192, h_o_192, h⟩ := bind_some h; have hz_ := Option.some.inj h; subst hz_; exact (ev_op (ev_of (ev_var (i := 0) rfl) h_o_192) (ev_int 0) r2_ge))))) q (List.Sublist.refl _)
theorem sc_is_page_paper : FnScope ["paper", "cuts", "tops", "k", "pair", "depth", "within"] ["paper", "cuts"] (defScope s_is_page_paper) := ⟨rfl, rfl, rfl, by decide +kernel, rfl, by decide +kernel, by decide +kernel⟩
set_option maxHeartbeats 4000000 in
theorem ok_is_page_paper (T : TX K mg w) : FnOk P w K mg base CX0 2 T.a_is_page_paper T.d_is_page_paper ["paper", "cuts"] (PF (τ := Dy × (List (Int × Str × Unit)) × Unit) K (fun t => m_is_page_paper t.1 t.2.1)) := by
  refine T.F_is_page_paper.ok sc_is_page_paper (fun vs H Q E h => ?_) (fun cdv A outer s H vs Q E hr h => ?_)
  · obtain ⟨Kn, t, r, ek, h, hf, q⟩ := h
    exact Tp.len h
  · obtain ⟨Kn, t, r_, ek, h, hf, q⟩ := h
    obtain ⟨paper_195, cuts_196, u_⟩ := t
    obtain ⟨v_0, rr_, rfl, hv_0, h⟩ := h
    obtain ⟨v_1, rr_, rfl, hv_1, h⟩ := h
    obtain rfl := h
    replace hf : m_is_page_paper paper_195 cuts_196 = some r_ := hf
    unfold m_is_page_paper at hf
    refine ⟨_, (pss_cons (ps_if (PW.pt (pw_or (pt_not (pt_val (pe_callB k_isi (by rfl) T.z_isinstance (by decide +kernel) (pa_cons (pv 0) (pa_cons (pe_bltn (v := .ty "list") (u := .type "list") (by rfl) T.z_list (by decide +kernel) rfl) pa_nil))))) (pw_or1 (pt_cmpR op_ne (pe_callB k_len (by rfl) T.z_len PySem.boot_len (pa_cons (pv 0) pa_nil)) (pe_callB k_len (by rfl) T.z_len PySem.boot_len (pa_cons (pv 1) pa_nil)) (nomark _))))) (pss_one (ps_ret pe_bl)) pss_nil)
      (pss_cons (ps_set (i := 2) sc_is_page_paper.nd rfl (.inl rfl) (pe_op op_cat (pe_lst (pa_cons pe_int pa_nil)) (pe_lc (own := [("depth", 5), ("within", 6)]) (g := gTup K 2 (gCons (gName 5) (gCons (gName 6) gNil))) (tt := tYes) (by rfl) sc_is_page_paper.nd (kpi_list (pe_slice k_sll (pv 1) po_none (po_some (pe_un un_neg pe_int)))) (blkOk_by (own := [("depth", 5), ("within", 6)]) (N := ["paper", "cuts", "tops", "k", "pair", "depth", "within"]) (sc := defScope s_is_page_paper) (by decide +kernel)) (fun _ _ _ _ _ => (kpg_tup (pgs_cons (pg_name (i := 5) sc_is_page_paper.nd rfl (Or.inl rfl)) (pgs_cons (pg_name (i := 6) sc_is_page_paper.nd rfl (Or.inl rfl)) pgs_nil)))) (fun _ _ _ _ _ => pts_nil) (fun _ _ _ _ _ => (pv 5)))))
      (pss_cons (ps_for PassesOwn.never rfl (pi_enum (by rfl) T.z_enumerate (pa_cons (pv 0) pa_nil)) (kpg_tup (pgs_cons (pg_name (i := 3) sc_is_page_paper.nd rfl (.inl rfl)) (pgs_cons (pg_name (i := 4) sc_is_page_paper.nd rfl (.inl rfl)) pgs_nil))) (pss_cons (ps_if (PW.pt (pw_or (pt_not (pt_val (pe_callB k_isi (by rfl) T.z_isinstance (by decide +kernel) (pa_cons (pv 4) (pa_cons (pe_bltn (v := .ty "tuple") (u := .type "tuple") (by rfl) T.z_tuple (by decide +kernel) rfl) pa_nil))))) (pw_or (pt_cmpR op_ne (pe_callB k_len (by rfl) T.z_len PySem.boot_len (pa_cons (pv 4) pa_nil)) pe_int (nomark _)) (pw_or (pt_not (pt_val (pe_call (ok_is_whole T) hr (by rfl) T.g_is_whole T.F_is_whole.kp T.b_is_whole .nil pass0 (pa_cons (pe_ix k_ixt (pv 4) pe_int (fun _ _ => rfl)) pa_nil)))) (pw_or1 (pt_cmpR op_ne (pe_ix k_ixt (pv 4) pe_int (fun _ _ => rfl)) (pe_ix k_ixl (pv 2) (pv 3) (fun _ _ => rfl)) (nomark _))))))) (pss_one (ps_ret pe_bl)) pss_nil)
      (pss_one (ps_if (PW.pt (pw_and (pt_cmpR op_notN (pe_ix k_ixt (pv 4) pe_int (fun _ _ => rfl)) pe_non (nomark _)) (pw_and1 (pt_not (pt_val (pe_call (ok_is_whole T) hr (by rfl) T.g_is_whole T.F_is_whole.kp T.b_is_whole .nil pass0 (pa_cons (pe_ix k_ixt (pv 4) pe_int (fun _ _ => rfl)) pa_nil))))))) (pss_one (ps_ret pe_bl)) pss_nil))))
      (pss_one (ps_ret pe_bl))))), ?_⟩
    refine enter (Kn := Kn) (sl := [sv paper_195, sv cuts_196, .any, .any, .any, .any, .any]) ek ⟨⟨v_0, rfl, hv_0⟩, ⟨v_1, rfl, hv_1⟩, trivial, trivial, trivial, trivial, trivial, trivial⟩ ?_
    have q := rt_of q
    obtain ⟨b_199, h_b_199, hf⟩ := bind_some hf
    refine SB.seqB (fun kx_201 => sb_if (b := b_199) (et_orO h_b_199 (et_not (et_B (ev_cb (ea_cons (ev_var (i := 0) rfl) (ea_cons (ev_ty "list") ea_nil)) (rc_isiD (by decide +kernel) (by decide +kernel) (by decide +kernel) (by decide +kernel) (by decide +kernel) (by decide +kernel))))) (fun _ _ h => by obtain ⟨o_198, h_o_198, h⟩ := bind_some h; have hz_ := Option.some.inj h; subst hz_; exact (et_test (ev_op (ev_cb (ea_cons (ev_of (ev_var (i := 0) rfl) h_o_198) ea_nil) rc_len) (ev_cb (ea_cons (ev_var (i := 1) rfl) ea_nil) rc_len) r2_neI)))) (fun hb_200 => ?_) (fun hb_200 => ?_))
    · have hf := ite_t hb_200 hf
      cases hf
      exact sb_ret (ev_bool false) q (List.Sublist.refl _)
    · have hf := ite_f hb_200 hf
      refine sb_nx ?_
      refine kx_201 _ _ ?_
      obtain ⟨zs_204, h_zs_204, hf⟩ := bind_some hf
      obtain ⟨cat_205, h_cat_205, hf⟩ := bind_some hf
      obtain ⟨tops_206, h_tops_206, hf⟩ := bind_some hf
      refine SB.seqB (fun kx_ => sb_asg (sl' := [sv paper_195, sv cuts_196, sv tops_206, .any, .any, .any, .any]) rfl (EV.cast (EN.ev (en_op (EN.ev (en_lst (el_cons (ev_int 0) el_nil))) (EN.ev (en_lc (js := [5, 6]) (fun x => [sv paper_195, sv cuts_196, .any, .any, .any, sv x.1, sv x.2.1]) h_zs_204 (it_list (EN.ev (en_sl (ev_var (i := 1) rfl) eo_none (eo_some (ev_un (ev_int 1) r1_neg))))) (anyAt_of (by rfl)) (fun x => (gt_tup (gts_cons (gt_name rfl) (gts_cons (gt_name rfl) gts_nil)))) (sub_of (by rfl)) (fun _ _ x b h => by cases h; exact et_yes) (fun _ _ x z _ h => by obtain ⟨depth_202, within_203, _⟩ := x; have hz_ := Option.some.inj h; subst hz_; exact EV.is (sl' := [sv paper_195, sv cuts_196, .any, .any, .any, sv depth_202, sv within_203]) rfl (ev_var (i := 5) rfl)))) (r2_catO h_cat_205))) (Option.some.inj h_tops_206)) (kx_ _ _ ?_))
      obtain ⟨o_207, h_o_207, hf⟩ := bind_some hf
      obtain ⟨tot_214, h_tot_214, hf⟩ := bind_some hf
      refine SB.seqB (fun kx_238 => sb_for (β := (Int × Dy × Unit)) (Sx := Unit) (fun s => [sv paper_195, sv cuts_196, sv tops_206, .any, .any, .any, .any]) (fun s => []) (fun x s => [sv paper_195, sv cuts_196, sv tops_206, sv x.1, sv x.2.1, .any, .any]) [3, 4] (fun xs s => forC (m_is_page_paper_L1 tops_206) xs s = some tot_214) () (IT.m (it_enum (ea_cons (ev_of (ev_var (i := 0) rfl) h_o_207) ea_nil))) h_tot_214 (.keep (.keep (.keep (.keep (.keep (.keep (.keep .nil))))))) (List.Sublist.refl _) (fun x s => (gt_tup (gts_cons (gt_name rfl) (gts_cons (gt_name rfl) gts_nil)))) ?_ ?_)
      · intro Kn1 b1 x_ rest_ s_ hP_211 N_ hN_210
        obtain ⟨k_208, pair_209, _⟩ := x_
        obtain ⟨c_, hc_212, hP_211⟩ := bind_some hP_211
        have q_213 := q.base b1
        unfold m_is_page_paper_L1 at hc_212
        refine SB.is (sl' := [sv paper_195, sv cuts_196, sv tops_206, sv k_208, sv pair_209, .any, .any]) (ow1 := []) rfl rfl ?_
        obtain ⟨b_226, h_b_226, hc_212⟩ := bind_some hc_212
        refine SB.seqB (fun kx_228 => sb_if (b := b_226) (et_orO h_b_226 (et_not (et_B (ev_cb (ea_cons (ev_var (i := 4) rfl) (ea_cons (ev_ty "tuple") ea_nil)) (rc_isiD (by decide +kernel) (by decide +kernel) (by decide +kernel) (by decide +kernel) (by decide +kernel) (by decide +kernel))))) (fun _ _ h => by obtain ⟨o_216, h_o_216, h⟩ := bind_some h; obtain ⟨b_225, h_b_225, h⟩ := bind_some h; have hz_ := Option.some.inj h; subst hz_; exact (et_orO h_b_225 (et_test (ev_op (ev_cb (ea_cons (ev_of (ev_var (i := 4) rfl) h_o_216) ea_nil) rc_lenT) (ev_int 2) r2_neI)) (fun _ _ h => by obtain ⟨o_217, h_o_217, h⟩ := bind_some h; obtain ⟨i_218, h_i_218, h⟩ := bind_some h; obtain ⟨r_219, h_r_219, h⟩ := bind_some h; obtain ⟨b_224, h_b_224, h⟩ := bind_some h; have hz_ := Option.some.inj h; subst hz_; exact (et_orO h_b_224 (et_not (et_B (ev_call (ea_cons (ev_op (ev_of (ev_var (i := 4) rfl) h_o_217) (ev_int 0) (r2_ixU h_i_218)) ea_nil) h_r_219))) (fun _ _ h => by obtain ⟨o_220, h_o_220, h⟩ := bind_some h; obtain ⟨i_221, h_i_221, h⟩ := bind_some h; obtain ⟨i_222, h_i_222, h⟩ := bind_some h; obtain ⟨o_223, h_o_223, h⟩ := bind_some h; have hz_ := Option.some.inj h; subst hz_; exact (et_test (ev_op (ev_of (ev_op (ev_of (ev_var (i := 4) rfl) h_o_220) (ev_int 0) (r2_ixU h_i_221)) h_o_223) (ev_op (ev_var (i := 2) rfl) (ev_var (i := 3) rfl) (r2_ixL h_i_222)) r2_neI)))))))) (fun hb_227 => ?_) (fun hb_227 => ?_))
        · have hc_212 := ite_t hb_227 hc_212
          cases hc_212
          replace hP_211 : some (Ctl.rt false) = some tot_214 := hP_211
          cases hP_211
          replace hf : some false = some r_ := hf
          cases hf
          exact sb_ret (ev_bool false) q_213 (List.Sublist.refl _)
        · have hc_212 := ite_f hb_227 hc_212
          refine sb_nx ?_
          refine kx_228 _ _ ?_
          obtain ⟨o_230, h_o_230, hc_212⟩ := bind_some hc_212
          obtain ⟨i_231, h_i_231, hc_212⟩ := bind_some hc_212
          obtain ⟨b_235, h_b_235, hc_212⟩ := bind_some hc_212
          refine sb_if (b := b_235) (et_andO h_b_235 (et_test (ev_op (ev_op (ev_of (ev_var (i := 4) rfl) h_o_230) (ev_int 1) (r2_ixU h_i_231)) ev_nn r2_notND)) (fun _ _ h => by obtain ⟨o_232, h_o_232, h⟩ := bind_some h; obtain ⟨i_233, h_i_233, h⟩ := bind_some h; obtain ⟨r_234, h_r_234, h⟩ := bind_some h; have hz_ := Option.some.inj h; subst hz_; exact (et_not (et_B (ev_call (ea_cons (ev_op (ev_of (ev_var (i := 4) rfl) h_o_232) (ev_int 1) (r2_ixU h_i_233)) ea_nil) h_r_234))))) (fun hb_236 => ?_) (fun hb_236 => ?_)
          · have hc_212 := ite_t hb_236 hc_212
            cases hc_212
            replace hP_211 : some (Ctl.rt false) = some tot_214 := hP_211
            cases hP_211
            replace hf : some false = some r_ := hf
            cases hf
            exact sb_ret (ev_bool false) q_213 (List.Sublist.refl _)
          · have hc_212 := ite_f hb_236 hc_212
            refine sb_nx ?_
            cases hc_212
            exact fun σ Kn H s => hN_210 _ hP_211 σ Kn H ((s.le (.keep (.keep (.keep (.drop (.drop (.keep (.keep .nil)))))))).sub (List.Sublist.refl _))
      · intro s_ h0
        cases h0
        refine kx_238 _ _ ?_
        refine SB.is (sl' := [sv paper_195, sv cuts_196, sv tops_206, .any, .any, .any, .any]) (ow1 := []) rfl rfl ?_
        cases hf
        exact sb_ret (ev_bool true) q (List.Sublist.refl _)
theorem sc_pages_cost : FnScope ["cuts", "price", "height", "depths", "within", "top", "cost", "k", "depth"] ["cuts", "price", "height", "depths"] (defScope s_pages_cost) := ⟨rfl, rfl, rfl, by decide +kernel, rfl, by decide +kernel, by decide +kernel⟩
set_option maxHeartbeats 4000000 in
theorem ok_pages_cost (T : TX K mg w) : FnOk P w K mg base CX0 2 T.a_pages_cost T.d_pages_cost ["cuts", "price", "height", "depths"] (PF (τ := (List (Int × Str × Unit)) × Int × Int × Dy × Unit) K (fun t => m_pages_cost t.1 t.2.1 t.2.2.1 t.2.2.2.1)) := by
  refine T.F_pages_cost.ok sc_pages_cost (fun vs H Q E h => ?_) (fun cdv A outer s H vs Q E hr h => ?_)
  · obtain ⟨Kn, t, r, ek, h, hf, q⟩ := h
    exact Tp.len h
  · obtain ⟨Kn, t, r_, ek, h, hf, q⟩ := h
    obtain ⟨cuts_239, price_240, height_241, depths_242, u_⟩ := t
    obtain ⟨v_0, rr_, rfl, hv_0, h⟩ := h
    obtain ⟨v_1, rr_, rfl, hv_1, h⟩ := h
    obtain ⟨v_2, rr_, rfl, hv_2, h⟩ := h
    obtain ⟨v_3, rr_, rfl, hv_3, h⟩ := h
    obtain rfl := h
    replace hf : m_pages_cost cuts_239 price_240 height_241 depths_242 = some r_ := hf
    unfold m_pages_cost at hf
    refine ⟨_, (pss_cons (ps_if (PW.pt (pw_or (pt_not (pt_val (pe_callB k_isi (by rfl) T.z_isinstance (by decide +kernel) (pa_cons (pv 3) (pa_cons (pe_bltn (v := .ty "list") (u := .type "list") (by rfl) T.z_list (by decide +kernel) rfl) pa_nil))))) (pw_or (pt_cmpR op_eq (pe_callB k_len (by rfl) T.z_len PySem.boot_len (pa_cons (pv 3) pa_nil)) pe_int (nomark _)) (pw_or1 (pt_cmpR op_ne (pe_ix k_ixl (pv 3) (pe_un un_neg pe_int) (fun _ _ => rfl)) (pe_ix k_ixt (pe_ix k_ixl (pv 0) (pe_un un_neg pe_int) (fun _ _ => rfl)) pe_int (fun _ _ => rfl)) (nomark _)))))) (pss_one (ps_ret pe_non)) pss_nil)
      (pss_cons (ps_set (i := 4) sc_pages_cost.nd rfl (.inl rfl) (pe_callTy k_dictP (by rfl) T.z_dict (by decide +kernel) (pa_cons (pv 0) pa_nil)))
      (pss_cons (ps_set (i := 5) sc_pages_cost.nd rfl (.inl rfl) pe_int)
      (pss_cons (ps_set (i := 6) sc_pages_cost.nd rfl (.inl rfl) pe_int)
      (pss_cons (ps_for PassesOwn.never rfl (pi_enum (by rfl) T.z_enumerate (pa_cons (pv 3) pa_nil)) (kpg_tup (pgs_cons (pg_name (i := 7) sc_pages_cost.nd rfl (.inl rfl)) (pgs_cons (pg_name (i := 8) sc_pages_cost.nd rfl (.inl rfl)) pgs_nil))) (pss_cons (ps_if (PW.pt (pw_or (pt_not (pt_val (pe_call (ok_is_whole T) hr (by rfl) T.g_is_whole T.F_is_whole.kp T.b_is_whole .nil pass0 (pa_cons (pv 8) pa_nil)))) (pw_or (pt_cmp (k_dnotin hr.units (pv 8) (pv 4)) rfl) (pw_or1 (pt_not (pt_chain op_lt op_le (pv 5) (pv 8) (pe_op op_add (pv 5) (pv 2)))))))) (pss_one (ps_ret pe_non)) pss_nil)
      (Evl.pss_cut (ps_if (pt_cmpR op_lt (pe_op op_add (pv 7) pe_int) (pe_callB k_len (by rfl) T.z_len PySem.boot_len (pa_cons (pv 3) pa_nil)) (nomark _)) (pss_one (ps_set (i := 6) sc_pages_cost.nd rfl (.inl rfl) (pe_op op_add (pv 6) (pe_call (ok_page_cost T) hr (by rfl) T.g_page_cost T.F_page_cost.kp T.b_page_cost .nil pass0 (pa_cons (pv 1) (pa_cons (pv 2) (pa_cons (pv 5) (pa_cons (pe_tup (pa_cons (pv 8) (pa_cons (k_dget hr.units (pv 4) (pv 8) (fun _ _ => rfl)) pa_nil))) pa_nil)))))))) pss_nil)
      (pss_one (ps_set (i := 5) sc_pages_cost.nd rfl (.inl rfl) (pv 8))))))
      (pss_one (ps_ret (pv 6)))))))), ?_⟩
    refine enter (Kn := Kn) (sl := [sv cuts_239, sv price_240, sv height_241, sv depths_242, .any, .any, .any, .any, .any]) ek ⟨⟨v_0, rfl, hv_0⟩, ⟨v_1, rfl, hv_1⟩, ⟨v_2, rfl, hv_2⟩, ⟨v_3, rfl, hv_3⟩, trivial, trivial, trivial, trivial, trivial, trivial⟩ ?_
    have q := rt_of q
    obtain ⟨b_250, h_b_250, hf⟩ := bind_some hf
    refine SB.seqB (fun kx_252 => sb_if (b := b_250) (et_orO h_b_250 (et_not (et_B (ev_cb (ea_cons (ev_var (i := 3) rfl) (ea_cons (ev_ty "list") ea_nil)) (rc_isiD (by decide +kernel) (by decide +kernel) (by decide +kernel) (by decide +kernel) (by decide +kernel) (by decide +kernel))))) (fun _ _ h => by obtain ⟨o_244, h_o_244, h⟩ := bind_some h; obtain ⟨b_249, h_b_249, h⟩ := bind_some h; have hz_ := Option.some.inj h; subst hz_; exact (et_orO h_b_249 (et_test (ev_op (ev_cb (ea_cons (ev_of (ev_var (i := 3) rfl) h_o_244) ea_nil) rc_len) (ev_int 0) r2_eqI)) (fun _ _ h => by obtain ⟨o_245, h_o_245, h⟩ := bind_some h; obtain ⟨i_246, h_i_246, h⟩ := bind_some h; obtain ⟨i_247, h_i_247, h⟩ := bind_some h; obtain ⟨o_248, h_o_248, h⟩ := bind_some h; have hz_ := Option.some.inj h; subst hz_; exact (et_test (ev_op (ev_of (ev_op (ev_of (ev_var (i := 3) rfl) h_o_245) (ev_un (ev_int 1) r1_neg) (r2_ixL h_i_246)) h_o_248) (ev_op (ev_op (ev_var (i := 0) rfl) (ev_un (ev_int 1) r1_neg) (r2_ixL h_i_247)) (ev_int 0) (r2_tix (n := 0) (At.z _ _))) r2_neI)))))) (fun hb_251 => ?_) (fun hb_251 => ?_))
    · have hf := ite_t hb_251 hf
      cases hf
      exact sb_ret ev_none q (List.Sublist.refl _)
    · have hf := ite_f hb_251 hf
      refine sb_nx ?_
      refine kx_252 _ _ ?_
      obtain ⟨within_253, h_within_253, hf⟩ := bind_some hf
      refine SB.seqB (fun kx_ => sb_asg (sl' := [sv cuts_239, sv price_240, sv height_241, sv depths_242, sv within_253, .any, .any, .any, .any]) rfl (EV.cast (EG.ev (eg_dictP (ev_var (i := 0) rfl))) (Option.some.inj h_within_253)) (kx_ _ _ ?_))
      obtain ⟨top_254, h_top_254, hf⟩ := bind_some hf
      refine SB.seqB (fun kx_ => sb_asg (sl' := [sv cuts_239, sv price_240, sv height_241, sv depths_242, sv within_253, sv top_254, .any, .any, .any]) rfl (EV.cast (ev_int 0) (Option.some.inj h_top_254)) (kx_ _ _ ?_))
      obtain ⟨cost_255, h_cost_255, hf⟩ := bind_some hf
      refine SB.seqB (fun kx_ => sb_asg (sl' := [sv cuts_239, sv price_240, sv height_241, sv depths_242, sv within_253, sv top_254, sv cost_255, .any, .any]) rfl (EV.cast (ev_int 0) (Option.some.inj h_cost_255)) (kx_ _ _ ?_))
      obtain ⟨o_256, h_o_256, hf⟩ := bind_some hf
      obtain ⟨tot_265, h_tot_265, hf⟩ := bind_some hf
      refine SB.seqB (fun kx_288 => sb_for (β := (Int × Dy × Unit)) (Sx := Int × Int) (fun s => [sv cuts_239, sv price_240, sv height_241, sv depths_242, sv within_253, sv s.1, sv s.2, .any, .any]) (fun s => []) (fun x s => [sv cuts_239, sv price_240, sv height_241, sv depths_242, sv within_253, sv s.1, sv s.2, sv x.1, sv x.2.1]) [7, 8] (fun xs s => forC (m_pages_cost_L1 price_240 height_241 depths_242 within_253) xs s = some tot_265) (top_254, cost_255) (IT.m (it_enum (ea_cons (ev_of (ev_var (i := 3) rfl) h_o_256) ea_nil))) h_tot_265 (.keep (.keep (.keep (.keep (.keep (.keep (.keep (.keep (.keep .nil))))))))) (List.Sublist.refl _) (fun x s => (gt_tup (gts_cons (gt_name rfl) (gts_cons (gt_name rfl) gts_nil)))) ?_ ?_)
      · intro Kn1 b1 x_ rest_ s_ hP_262 N_ hN_261
        obtain ⟨k_259, depth_260, _⟩ := x_
        obtain ⟨top_257, cost_258⟩ := s_
        obtain ⟨c_, hc_263, hP_262⟩ := bind_some hP_262
        have q_264 := q.base b1
        unfold m_pages_cost_L1 at hc_263
        refine SB.is (sl' := [sv cuts_239, sv price_240, sv height_241, sv depths_242, sv within_253, sv top_257, sv cost_258, sv k_259, sv depth_260]) (ow1 := []) rfl rfl ?_
        obtain ⟨r_267, h_r_267, hc_263⟩ := bind_some hc_263
        obtain ⟨b_271, h_b_271, hc_263⟩ := bind_some hc_263
        refine SB.seqB (fun kx_273 => sb_if (b := b_271) (et_orO h_b_271 (et_not (et_B (ev_call (ea_cons (ev_var (i := 8) rfl) ea_nil) h_r_267))) (fun _ _ h => by obtain ⟨o_268, h_o_268, h⟩ := bind_some h; obtain ⟨b_270, h_b_270, h⟩ := bind_some h; have hz_ := Option.some.inj h; subst hz_; exact (et_orO h_b_270 (et_B (ev_dnotin (ev_var (i := 4) rfl) (ev_of (ev_var (i := 8) rfl) h_o_268))) (fun _ _ h => by obtain ⟨o_269, h_o_269, h⟩ := bind_some h; have hz_ := Option.some.inj h; subst hz_; exact (et_not (et_test (ev_chain (ev_var (i := 5) rfl) (ev_of (ev_var (i := 8) rfl) h_o_269) r2_lt (ev_op (ev_var (i := 5) rfl) (ev_var (i := 2) rfl) r2_add) r2_le))))))) (fun hb_272 => ?_) (fun hb_272 => ?_))
        · have hc_263 := ite_t hb_272 hc_263
          cases hc_263
          replace hP_262 : some (Ctl.rt none) = some tot_265 := hP_262
          cases hP_262
          replace hf : some none = some r_ := hf
          cases hf
          exact sb_ret ev_none q_264 (List.Sublist.refl _)
        · have hc_263 := ite_f hb_272 hc_263
          refine sb_nx ?_
          refine kx_273 _ _ ?_
          obtain ⟨o_275, h_o_275, hc_263⟩ := bind_some hc_263
          obtain ⟨cost_282, hj_274, hc_263⟩ := bind_some hc_263
          refine SB.cutB (sl' := [sv cuts_239, sv price_240, sv height_241, sv depths_242, sv within_253, sv top_257, sv cost_282, sv k_259, sv depth_260]) (ow1 := []) (fun km_283 => sb_if (b := (decide ((k_259 + (1 : Int)) < (o_275.length : Int)))) (et_test (ev_op (ev_op (ev_var (i := 7) rfl) (ev_int 1) r2_add) (ev_cb (ea_cons (ev_of (ev_var (i := 3) rfl) h_o_275) ea_nil) rc_len) r2_lt)) (fun hb_276 => ?_) (fun hb_276 => ?_)) ?_
          · have hj_274 := ite_t hb_276 hj_274
            obtain ⟨o_277, h_o_277, hj_274⟩ := bind_some hj_274
            obtain ⟨i_278, h_i_278, hj_274⟩ := bind_some hj_274
            obtain ⟨o_279, h_o_279, hj_274⟩ := bind_some hj_274
            obtain ⟨r_280, h_r_280, hj_274⟩ := bind_some hj_274
            obtain ⟨cost_281, h_cost_281, hj_274⟩ := bind_some hj_274
            refine sb_asg (sl' := [sv cuts_239, sv price_240, sv height_241, sv depths_242, sv within_253, sv top_257, sv cost_281, sv k_259, sv depth_260]) rfl (EV.cast (ev_op (ev_var (i := 6) rfl) (ev_call (ea_cons (ev_var (i := 1) rfl) (ea_cons (ev_var (i := 2) rfl) (ea_cons (ev_var (i := 5) rfl) (ea_cons (ev_tup (ea_cons (ev_of (ev_var (i := 8) rfl) h_o_279) (ea_cons (ev_dget (ev_var (i := 4) rfl) (ev_of (ev_var (i := 8) rfl) h_o_277) h_i_278) ea_nil))) ea_nil)))) h_r_280) r2_add) (Option.some.inj h_cost_281)) ?_
            cases hj_274
            exact km_283 _ _ (.keep (.keep (.keep (.keep (.keep (.keep (.keep (.keep (.keep .nil))))))))) (List.Sublist.refl _)
          · have hj_274 := ite_f hb_276 hj_274
            refine sb_nx ?_
            cases hj_274
            exact km_283 _ _ (.keep (.keep (.keep (.keep (.keep (.keep (.keep (.keep (.keep .nil))))))))) (List.Sublist.refl _)
          obtain ⟨o_284, h_o_284, hc_263⟩ := bind_some hc_263
          obtain ⟨top_285, h_top_285, hc_263⟩ := bind_some hc_263
          refine sb_asg (sl' := [sv cuts_239, sv price_240, sv height_241, sv depths_242, sv within_253, sv top_285, sv cost_282, sv k_259, sv depth_260]) rfl (EV.cast (ev_of (ev_var (i := 8) rfl) h_o_284) (Option.some.inj h_top_285)) ?_
          cases hc_263
          exact fun σ Kn H s => hN_261 _ hP_262 σ Kn H ((s.le (.keep (.keep (.keep (.keep (.keep (.keep (.keep (.drop (.drop .nil)))))))))).sub (List.Sublist.refl _))
      · intro s_ h0
        obtain ⟨top_286, cost_287⟩ := s_
        cases h0
        refine kx_288 _ _ ?_
        refine SB.is (sl' := [sv cuts_239, sv price_240, sv height_241, sv depths_242, sv within_253, sv top_286, sv cost_287, .any, .any]) (ow1 := []) rfl rfl ?_
        cases hf
        exact sb_ret (ev_some (ev_var (i := 6) rfl)) q (List.Sublist.refl _)
theorem sc_pages_shown : FnScope ["blocks", "price", "height", "depths", "paper", "cuts", "cost", "k", "top", "told", "j", "depth", "within", "least"] ["blocks", "price", "height", "depths", "paper"] (defScope s_pages_shown) := ⟨rfl, rfl, rfl, by decide +kernel, rfl, by decide +kernel, by decide +kernel⟩
set_option maxHeartbeats 4000000 in
theorem ok_pages_shown (T : TX K mg w) : FnOk P w K mg base CX0 3 T.a_pages_shown T.d_pages_shown ["blocks", "price", "height", "depths", "paper"] (PF (τ := (List (Str × Int × (Tu Int) × Bool × Unit)) × Int × Int × Dy × Dy × Unit) K (fun t => m_pages_shown t.1 t.2.1 t.2.2.1 t.2.2.2.1 t.2.2.2.2.1)) := by
  refine T.F_pages_shown.ok sc_pages_shown (fun vs H Q E h => ?_) (fun cdv A outer s H vs Q E hr h => ?_)
  · obtain ⟨Kn, t, r, ek, h, hf, q⟩ := h
    exact Tp.len h
  · obtain ⟨Kn, t, r_, ek, h, hf, q⟩ := h
    obtain ⟨blocks_289, price_290, height_291, depths_292, paper_293, u_⟩ := t
    obtain ⟨v_0, rr_, rfl, hv_0, h⟩ := h
    obtain ⟨v_1, rr_, rfl, hv_1, h⟩ := h
    obtain ⟨v_2, rr_, rfl, hv_2, h⟩ := h
    obtain ⟨v_3, rr_, rfl, hv_3, h⟩ := h
    obtain ⟨v_4, rr_, rfl, hv_4, h⟩ := h
    obtain rfl := h
    replace hf : m_pages_shown blocks_289 price_290 height_291 depths_292 paper_293 = some r_ := hf
    unfold m_pages_shown at hf
    refine ⟨_, (pss_cons (ps_set (i := 5) sc_pages_shown.nd rfl (.inl rfl) (pe_call (ok_cuts_of T) (hr.mono (by decide)) (by rfl) T.g_cuts_of T.F_cuts_of.kp T.b_cuts_of .nil pass0 (pa_cons (pv 0) pa_nil)))
      (pss_cons (ps_if (PW.pt (pw_or (pt_not (pt_val (pe_call (ok_is_page_paper T) hr (by rfl) T.g_is_page_paper T.F_is_page_paper.kp T.b_is_page_paper .nil pass0 (pa_cons (pv 4) (pa_cons (pv 5) pa_nil))))) (pw_or1 (pt_cmpR (k_neD hr.units) (pe_ix k_ixt (pe_ix k_ixl (pv 4) pe_int (fun _ _ => rfl)) pe_int (fun _ _ => rfl)) pe_int (nomark _))))) (pss_one (ps_ret pe_bl)) pss_nil)
      (pss_cons (ps_set (i := 6) sc_pages_shown.nd rfl (.inl rfl) (pe_call (ok_pages_cost T) hr (by rfl) T.g_pages_cost T.F_pages_cost.kp T.b_pages_cost .nil pass0 (pa_cons (pv 5) (pa_cons (pv 1) (pa_cons (pv 2) (pa_cons (pv 3) pa_nil))))))
      (pss_cons (ps_if (pt_cmpR op_isN (pv 6) pe_non (nomark _)) (pss_one (ps_ret pe_bl)) pss_nil)
      (pss_cons (ps_for PassesOwn.never rfl (pi_enum (by rfl) T.z_enumerate (pa_cons (pv 4) pa_nil)) (kpg_tup (pgs_cons (pg_name (i := 7) sc_pages_shown.nd rfl (.inl rfl)) (pgs_cons (kpg_tup (pgs_cons (pg_name (i := 8) sc_pages_shown.nd rfl (.inl rfl)) (pgs_cons (pg_name (i := 9) sc_pages_shown.nd rfl (.inl rfl)) pgs_nil))) pgs_nil))) (pss_one (ps_if (pt_cmpR op_notN (pv 9) pe_non (nomark _)) (pss_cons (ps_for PassesOwn.never rfl (pi_enum (by rfl) T.z_enumerate (pa_cons (pe_slice k_sll (pv 5) po_none (po_some (pe_un un_neg pe_int))) pa_nil)) (kpg_tup (pgs_cons (pg_name (i := 10) sc_pages_shown.nd rfl (.inl rfl)) (pgs_cons (kpg_tup (pgs_cons (pg_name (i := 11) sc_pages_shown.nd rfl (.inl rfl)) (pgs_cons (pg_name (i := 12) sc_pages_shown.nd rfl (.inl rfl)) pgs_nil))) pgs_nil))) (pss_one (ps_if (pt_chain op_lt op_le (pv 8) (pv 11) (pe_op op_add (pv 8) (pv 2))) (pss_cons (ps_set (i := 13) sc_pages_shown.nd rfl (.inl rfl) (pe_op op_add (pv 9) (pe_call (ok_page_cost T) (hr.mono (by decide)) (by rfl) T.g_page_cost T.F_page_cost.kp T.b_page_cost .nil pass0 (pa_cons (pv 1) (pa_cons (pv 2) (pa_cons (pv 8) (pa_cons (pe_tup (pa_cons (pv 11) (pa_cons (pv 12) pa_nil))) pa_nil)))))))
      (pss_one (ps_if (PW.pt (pw_or (pt_cmpR op_isN (pe_ix k_ixt (pe_ix k_ixl (pv 4) (pe_op op_add (pv 10) pe_int) (fun _ _ => rfl)) pe_int (fun _ _ => rfl)) pe_non (nomark _)) (pw_or1 (pt_cmpR op_gt (pe_ix k_ixt (pe_ix k_ixl (pv 4) (pe_op op_add (pv 10) pe_int) (fun _ _ => rfl)) pe_int (fun _ _ => rfl)) (pv 13) (nomark _))))) (pss_one (ps_ret pe_bl)) pss_nil))) pss_nil)))
      (pss_one (ps_if (PW.pt (pw_and (pt_cmpR op_le (pe_ix k_ixt (pe_ix k_ixl (pv 5) (pe_un un_neg pe_int) (fun _ _ => rfl)) pe_int (fun _ _ => rfl)) (pe_op op_add (pv 8) (pv 2)) (nomark _)) (pw_and1 (pt_cmpR op_lt (pv 9) (pv 6) (nomark _))))) (pss_one (ps_ret pe_bl)) pss_nil))) pss_nil)))
      (pss_one (ps_ret pe_bl))))))), ?_⟩
    refine enter (Kn := Kn) (sl := [sv blocks_289, sv price_290, sv height_291, sv depths_292, sv paper_293, .any, .any, .any, .any, .any, .any, .any, .any, .any]) ek ⟨⟨v_0, rfl, hv_0⟩, ⟨v_1, rfl, hv_1⟩, ⟨v_2, rfl, hv_2⟩, ⟨v_3, rfl, hv_3⟩, ⟨v_4, rfl, hv_4⟩, trivial, trivial, trivial, trivial, trivial, trivial, trivial, trivial, trivial, trivial⟩ ?_
    have q := rt_of q
    obtain ⟨r_294, h_r_294, hf⟩ := bind_some hf
    obtain ⟨cuts_295, h_cuts_295, hf⟩ := bind_some hf
    refine SB.seqB (fun kx_ => sb_asg (sl' := [sv blocks_289, sv price_290, sv height_291, sv depths_292, sv paper_293, sv cuts_295, .any, .any, .any, .any, .any, .any, .any, .any]) rfl (EV.cast (EN.ev (en_call (ea_cons (ev_var (i := 0) rfl) ea_nil) h_r_294)) (Option.some.inj h_cuts_295)) (kx_ _ _ ?_))
    obtain ⟨r_297, h_r_297, hf⟩ := bind_some hf
    obtain ⟨b_301, h_b_301, hf⟩ := bind_some hf
    refine SB.seqB (fun kx_303 => sb_if (b := b_301) (et_orO h_b_301 (et_not (et_B (ev_call (ea_cons (ev_var (i := 4) rfl) (ea_cons (ev_var (i := 5) rfl) ea_nil)) h_r_297))) (fun _ _ h => by obtain ⟨o_298, h_o_298, h⟩ := bind_some h; obtain ⟨i_299, h_i_299, h⟩ := bind_some h; obtain ⟨e_300, h_e_300, h⟩ := bind_some h; have hz_ := Option.some.inj h; subst hz_; exact (et_test (ev_op (ev_op (ev_op (ev_of (ev_var (i := 4) rfl) h_o_298) (ev_int 0) (r2_ixL h_i_299)) (ev_int 1) (r2_tix (n := 1) (At.s _ (At.z _ _)))) (ev_up (ev_int 0)) (r2_neY h_e_300))))) (fun hb_302 => ?_) (fun hb_302 => ?_))
    · have hf := ite_t hb_302 hf
      cases hf
      exact sb_ret (ev_bool false) q (List.Sublist.refl _)
    · have hf := ite_f hb_302 hf
      refine sb_nx ?_
      refine kx_303 _ _ ?_
      obtain ⟨r_304, h_r_304, hf⟩ := bind_some hf
      obtain ⟨cost_305, h_cost_305, hf⟩ := bind_some hf
      refine SB.seqB (fun kx_ => sb_asg (sl' := [sv blocks_289, sv price_290, sv height_291, sv depths_292, sv paper_293, sv cuts_295, sv cost_305, .any, .any, .any, .any, .any, .any, .any]) rfl (EV.cast (ev_call (ea_cons (ev_var (i := 5) rfl) (ea_cons (ev_var (i := 1) rfl) (ea_cons (ev_var (i := 2) rfl) (ea_cons (ev_var (i := 3) rfl) ea_nil)))) h_r_304) (Option.some.inj h_cost_305)) (kx_ _ _ ?_))
      refine SB.seqB (fun kx_308 => sb_if (b := (cost_305.isNone)) (et_test (ev_op (ev_var (i := 6) rfl) ev_nn r2_isN)) (fun hb_307 => ?_) (fun hb_307 => ?_))
      · have hf := ite_t hb_307 hf
        cases hf
        exact sb_ret (ev_bool false) q (List.Sublist.refl _)
      · have hf := ite_f hb_307 hf
        refine sb_nx ?_
        refine kx_308 _ _ ?_
        obtain ⟨o_309, h_o_309, hf⟩ := bind_some hf
        obtain ⟨tot_317, h_tot_317, hf⟩ := bind_some hf
        refine SB.seqB (fun kx_352 => sb_for (β := (Int × (Int × Dy × Unit) × Unit)) (Sx := Unit) (fun s => [sv blocks_289, sv price_290, sv height_291, sv depths_292, sv paper_293, sv cuts_295, sv cost_305, .any, .any, .any, .any, .any, .any, .any]) (fun s => []) (fun x s => [sv blocks_289, sv price_290, sv height_291, sv depths_292, sv paper_293, sv cuts_295, sv cost_305, sv x.1, sv x.2.1.1, sv x.2.1.2.1, .any, .any, .any, .any]) [7, 8, 9] (fun xs s => forC (m_pages_shown_L1 price_290 height_291 paper_293 cuts_295 cost_305) xs s = some tot_317) () (IT.m (it_enum (ea_cons (ev_of (ev_var (i := 4) rfl) h_o_309) ea_nil))) h_tot_317 (.keep (.keep (.keep (.keep (.keep (.keep (.keep (.keep (.keep (.keep (.keep (.keep (.keep (.keep .nil)))))))))))))) (List.Sublist.refl _) (fun x s => (gt_tup (gts_cons (gt_name rfl) (gts_cons (gt_tup (gts_cons (gt_name rfl) (gts_cons (gt_name rfl) gts_nil))) gts_nil)))) ?_ ?_)
        · intro Kn1 b1 x_ rest_ s_ hP_314 N_ hN_313
          obtain ⟨k_310, ⟨top_311, told_312, _⟩, _⟩ := x_
          obtain ⟨c_, hc_315, hP_314⟩ := bind_some hP_314
          have q_316 := q.base b1
          unfold m_pages_shown_L1 at hc_315
          refine SB.is (sl' := [sv blocks_289, sv price_290, sv height_291, sv depths_292, sv paper_293, sv cuts_295, sv cost_305, sv k_310, sv top_311, sv told_312, .any, .any, .any, .any]) (ow1 := []) rfl rfl ?_
          refine sb_if (b := (!isNoD told_312)) (et_test (ev_op (ev_var (i := 9) rfl) ev_nn r2_notND)) (fun hb_319 => ?_) (fun hb_319 => ?_)
          · have hc_315 := ite_t hb_319 hc_315
            obtain ⟨tot_328, h_tot_328, hc_315⟩ := bind_some hc_315
            refine SB.seqB (fun kx_344 => sb_for (β := (Int × (Int × Str × Unit) × Unit)) (Sx := Unit) (fun s => [sv blocks_289, sv price_290, sv height_291, sv depths_292, sv paper_293, sv cuts_295, sv cost_305, sv k_310, sv top_311, sv told_312, .any, .any, .any, .any]) (fun s => []) (fun x s => [sv blocks_289, sv price_290, sv height_291, sv depths_292, sv paper_293, sv cuts_295, sv cost_305, sv k_310, sv top_311, sv told_312, sv x.1, sv x.2.1.1, sv x.2.1.2.1, .any]) [10, 11, 12] (fun xs s => forC (m_pages_shown_L2 price_290 height_291 paper_293 top_311 told_312) xs s = some tot_328) () (IT.m (it_enum (ea_cons (EN.ev (en_sl (ev_var (i := 5) rfl) eo_none (eo_some (ev_un (ev_int 1) r1_neg)))) ea_nil))) h_tot_328 (.keep (.keep (.keep (.keep (.keep (.keep (.keep (.keep (.keep (.keep (.keep (.keep (.keep (.keep .nil)))))))))))))) (List.Sublist.refl _) (fun x s => (gt_tup (gts_cons (gt_name rfl) (gts_cons (gt_tup (gts_cons (gt_name rfl) (gts_cons (gt_name rfl) gts_nil))) gts_nil)))) ?_ ?_)
            · intro Kn1 b1 x_ rest_ s_ hP_325 N_ hN_324
              obtain ⟨j_321, ⟨depth_322, within_323, _⟩, _⟩ := x_
              obtain ⟨c_, hc_326, hP_325⟩ := bind_some hP_325
              have q_327 := q_316.base b1
              unfold m_pages_shown_L2 at hc_326
              refine SB.is (sl' := [sv blocks_289, sv price_290, sv height_291, sv depths_292, sv paper_293, sv cuts_295, sv cost_305, sv k_310, sv top_311, sv told_312, sv j_321, sv depth_322, sv within_323, .any]) (ow1 := []) rfl rfl ?_
              refine sb_if (b := ((decide (top_311 < depth_322)) && (decide (depth_322 ≤ (top_311 + height_291))))) (et_test (ev_chain (ev_var (i := 8) rfl) (ev_var (i := 11) rfl) r2_lt (ev_op (ev_var (i := 8) rfl) (ev_var (i := 2) rfl) r2_add) r2_le)) (fun hb_330 => ?_) (fun hb_330 => ?_)
              · have hc_326 := ite_t hb_330 hc_326
                obtain ⟨r_332, h_r_332, hc_326⟩ := bind_some hc_326
                obtain ⟨o_333, h_o_333, hc_326⟩ := bind_some hc_326
                obtain ⟨least_334, h_least_334, hc_326⟩ := bind_some hc_326
                refine SB.seqB (fun kx_ => sb_asg (sl' := [sv blocks_289, sv price_290, sv height_291, sv depths_292, sv paper_293, sv cuts_295, sv cost_305, sv k_310, sv top_311, sv told_312, sv j_321, sv depth_322, sv within_323, sv least_334]) rfl (EV.cast (ev_op (ev_of (ev_var (i := 9) rfl) h_o_333) (ev_call (ea_cons (ev_var (i := 1) rfl) (ea_cons (ev_var (i := 2) rfl) (ea_cons (ev_var (i := 8) rfl) (ea_cons (ev_tup (ea_cons (ev_var (i := 11) rfl) (ea_cons (ev_var (i := 12) rfl) ea_nil))) ea_nil)))) h_r_332) r2_add) (Option.some.inj h_least_334)) (kx_ _ _ ?_))
                obtain ⟨o_336, h_o_336, hc_326⟩ := bind_some hc_326
                obtain ⟨i_337, h_i_337, hc_326⟩ := bind_some hc_326
                obtain ⟨b_341, h_b_341, hc_326⟩ := bind_some hc_326
                refine sb_if (b := b_341) (et_orO h_b_341 (et_test (ev_op (ev_op (ev_op (ev_of (ev_var (i := 4) rfl) h_o_336) (ev_op (ev_var (i := 10) rfl) (ev_int 1) r2_add) (r2_ixL h_i_337)) (ev_int 1) (r2_tix (n := 1) (At.s _ (At.z _ _)))) ev_nn r2_isND)) (fun _ _ h => by obtain ⟨o_338, h_o_338, h⟩ := bind_some h; obtain ⟨i_339, h_i_339, h⟩ := bind_some h; obtain ⟨o_340, h_o_340, h⟩ := bind_some h; have hz_ := Option.some.inj h; subst hz_; exact (et_test (ev_op (ev_of (ev_op (ev_op (ev_of (ev_var (i := 4) rfl) h_o_338) (ev_op (ev_var (i := 10) rfl) (ev_int 1) r2_add) (r2_ixL h_i_339)) (ev_int 1) (r2_tix (n := 1) (At.s _ (At.z _ _)))) h_o_340) (ev_var (i := 13) rfl) r2_gt)))) (fun hb_342 => ?_) (fun hb_342 => ?_)
                · have hc_326 := ite_t hb_342 hc_326
                  cases hc_326
                  replace hP_325 : some (Ctl.rt false) = some tot_328 := hP_325
                  cases hP_325
                  cases hc_315
                  replace hP_314 : some (Ctl.rt false) = some tot_317 := hP_314
                  cases hP_314
                  replace hf : some false = some r_ := hf
                  cases hf
                  exact sb_ret (ev_bool false) q_327 (List.Sublist.refl _)
                · have hc_326 := ite_f hb_342 hc_326
                  refine sb_nx ?_
                  cases hc_326
                  exact fun σ Kn H s => hN_324 _ hP_325 σ Kn H ((s.le (.keep (.keep (.keep (.keep (.keep (.keep (.keep (.keep (.keep (.keep (.drop (.drop (.drop (.drop .nil))))))))))))))).sub (List.Sublist.refl _))
              · have hc_326 := ite_f hb_330 hc_326
                refine sb_nx ?_
                cases hc_326
                exact fun σ Kn H s => hN_324 _ hP_325 σ Kn H ((s.le (.keep (.keep (.keep (.keep (.keep (.keep (.keep (.keep (.keep (.keep (.drop (.drop (.drop (.keep .nil))))))))))))))).sub (List.Sublist.refl _))
            · intro s_ h0
              cases h0
              refine kx_344 _ _ ?_
              refine SB.is (sl' := [sv blocks_289, sv price_290, sv height_291, sv depths_292, sv paper_293, sv cuts_295, sv cost_305, sv k_310, sv top_311, sv told_312, .any, .any, .any, .any]) (ow1 := []) rfl rfl ?_
              obtain ⟨i_346, h_i_346, hc_315⟩ := bind_some hc_315
              obtain ⟨b_349, h_b_349, hc_315⟩ := bind_some hc_315
              refine sb_if (b := b_349) (et_andO h_b_349 (et_test (ev_op (ev_op (ev_op (ev_var (i := 5) rfl) (ev_un (ev_int 1) r1_neg) (r2_ixL h_i_346)) (ev_int 0) (r2_tix (n := 0) (At.z _ _))) (ev_op (ev_var (i := 8) rfl) (ev_var (i := 2) rfl) r2_add) r2_le)) (fun _ _ h => by obtain ⟨s_347, h_s_347, h⟩ := bind_some h; obtain ⟨o_348, h_o_348, h⟩ := bind_some h; have hz_ := Option.some.inj h; subst hz_; exact (et_test (ev_op (ev_of (ev_var (i := 9) rfl) h_o_348) (ev_unopt (ev_var (i := 6) rfl) h_s_347) r2_lt)))) (fun hb_350 => ?_) (fun hb_350 => ?_)
              · have hc_315 := ite_t hb_350 hc_315
                cases hc_315
                replace hP_314 : some (Ctl.rt false) = some tot_317 := hP_314
                cases hP_314
                replace hf : some false = some r_ := hf
                cases hf
                exact sb_ret (ev_bool false) q_316 (List.Sublist.refl _)
              · have hc_315 := ite_f hb_350 hc_315
                refine sb_nx ?_
                cases hc_315
                exact fun σ Kn H s => hN_313 _ hP_314 σ Kn H ((s.le (.keep (.keep (.keep (.keep (.keep (.keep (.keep (.drop (.drop (.drop (.keep (.keep (.keep (.keep .nil))))))))))))))).sub (List.Sublist.refl _))
          · have hc_315 := ite_f hb_319 hc_315
            refine sb_nx ?_
            cases hc_315
            exact fun σ Kn H s => hN_313 _ hP_314 σ Kn H ((s.le (.keep (.keep (.keep (.keep (.keep (.keep (.keep (.drop (.drop (.drop (.keep (.keep (.keep (.keep .nil))))))))))))))).sub (List.Sublist.refl _))
        · intro s_ h0
          cases h0
          refine kx_352 _ _ ?_
          refine SB.is (sl' := [sv blocks_289, sv price_290, sv height_291, sv depths_292, sv paper_293, sv cuts_295, sv cost_305, .any, .any, .any, .any, .any, .any, .any]) (ow1 := []) rfl rfl ?_
          cases hf
          exact sb_ret (ev_bool true) q (List.Sublist.refl _)
theorem sc__law_cell_at : FnScope ["_law_script", "_law_k"] ["_law_script", "_law_k"] (defScope s__law_cell_at) := ⟨rfl, rfl, rfl, by decide +kernel, rfl, by decide +kernel, by decide +kernel⟩
set_option maxHeartbeats 4000000 in
theorem ok__law_cell_at (T : TX K mg w) : FnOk P w K mg base CX0 1 T.a__law_cell_at T.d__law_cell_at ["_law_script", "_law_k"] (PF (τ := (Fz Int) × Int × Unit) K (fun t => m__law_cell_at t.1 t.2.1)) := by
  refine T.F__law_cell_at.ok sc__law_cell_at (fun vs H Q E h => ?_) (fun cdv A outer s H vs Q E hr h => ?_)
  · obtain ⟨Kn, t, r, ek, h, hf, q⟩ := h
    exact Tp.len h
  · obtain ⟨Kn, t, r_, ek, h, hf, q⟩ := h
    obtain ⟨script_353, k_354, u_⟩ := t
    obtain ⟨v_0, rr_, rfl, hv_0, h⟩ := h
    obtain ⟨v_1, rr_, rfl, hv_1, h⟩ := h
    obtain rfl := h
    replace hf : m__law_cell_at script_353 k_354 = some r_ := hf
    unfold m__law_cell_at at hf
    refine ⟨_, (pss_cons (ps_if (pt_cmpR op_lt (pv 1) (pe_callB k_len (by rfl) T.z_len PySem.boot_len (pa_cons (pv 0) pa_nil)) (nomark _)) (pss_one (ps_ret (pe_ix k_ixl (pv 0) (pv 1) (fun _ _ => rfl)))) pss_nil)
      (pss_one (ps_ret pe_int))), ?_⟩
    refine enter (Kn := Kn) (sl := [sv script_353, sv k_354]) ek ⟨⟨v_0, rfl, hv_0⟩, ⟨v_1, rfl, hv_1⟩, trivial⟩ ?_
    have q := rt_of q
    refine SB.seqB (fun kx_357 => sb_if (b := (decide (k_354 < (script_353.l.length : Int)))) (et_test (ev_op (ev_var (i := 1) rfl) (ev_cb (ea_cons (ev_var (i := 0) rfl) ea_nil) rc_lenF) r2_lt)) (fun hb_356 => ?_) (fun hb_356 => ?_))
    · have hf := ite_t hb_356 hf
      obtain ⟨i_358, h_i_358, hf⟩ := bind_some hf
      cases hf
      exact sb_ret (ev_op (ev_var (i := 0) rfl) (ev_var (i := 1) rfl) (r2_ixF h_i_358)) q (List.Sublist.refl _)
    · have hf := ite_f hb_356 hf
      refine sb_nx ?_
      refine kx_357 _ _ ?_
      cases hf
      exact sb_ret (ev_int 0) q (List.Sublist.refl _)
theorem sc__law_numbers : FnScope ["_law_cell", "_law_many", "_law_found", "_law_number", "_law_k"] ["_law_cell", "_law_many"] (defScope s__law_numbers) := ⟨rfl, rfl, rfl, by decide +kernel, rfl, by decide +kernel, by decide +kernel⟩
set_option maxHeartbeats 4000000 in
theorem ok__law_numbers (T : TX K mg w) : FnOk P w K mg base CX0 1 T.a__law_numbers T.d__law_numbers ["_law_cell", "_law_many"] (PL (τ := Int × Int × Unit) K (fun t => m__law_numbers t.1 t.2.1)) := by
  refine T.F__law_numbers.ok sc__law_numbers (fun vs H Q E h => ?_) (fun cdv A outer s H vs Q E hr h => ?_)
  · obtain ⟨Kn, t, r, ek, h, hf, q⟩ := h
    exact Tp.len h
  · obtain ⟨Kn, t, r_, ek, h, hf, q⟩ := h
    obtain ⟨cell_359, many_360, u_⟩ := t
    obtain ⟨v_0, rr_, rfl, hv_0, h⟩ := h
    obtain ⟨v_1, rr_, rfl, hv_1, h⟩ := h
    obtain rfl := h
    replace hf : m__law_numbers cell_359 many_360 = some r_ := hf
    unfold m__law_numbers at hf
    refine ⟨_, (pss_cons (ps_set (i := 2) sc__law_numbers.nd rfl (.inl rfl) (pe_lst pa_nil))
      (pss_cons (ps_set (i := 3) sc__law_numbers.nd rfl (.inl rfl) (pe_op op_sub (pv 0) (pe_op op_pow pe_int pe_int)))
      (pss_cons (ps_if (pt_cmpR op_ge (pv 3) pe_int (nomark _)) (pss_cons (ps_for PassesOwn.never rfl (pi_range1 (by rfl) T.z_range (pa_cons (pv 1) pa_nil)) (pg_name (i := 4) sc__law_numbers.nd rfl (.inl rfl)) (pss_cons (ps_expr (pe_bm PySem.F.plainAttrs_list PySem.F.slot_list_append PySem.F.type_list_append mt_append (pv 2) (pa_cons (pe_op op_mod (pv 3) pe_int) pa_nil)))
      (pss_one (ps_set (i := 3) sc__law_numbers.nd rfl (.inl rfl) (pe_op op_fdiv (pv 3) pe_int)))))
      (pss_one (ps_ret (pv 2)))) pss_nil)
      (pss_cons (ps_set (i := 3) sc__law_numbers.nd rfl (.inl rfl) (pe_op op_mod (pv 0) pe_int))
      (pss_cons (ps_for PassesOwn.never rfl (pi_range1 (by rfl) T.z_range (pa_cons (pe_op op_add (pv 1) pe_int) pa_nil)) (pg_name (i := 4) sc__law_numbers.nd rfl (.inl rfl)) (pss_cons (ps_set (i := 3) sc__law_numbers.nd rfl (.inl rfl) (pe_op op_mod (pe_op op_mul (pe_op op_add (pe_op op_add (pv 3) (pv 4)) pe_int) pe_int) pe_int))
      (pss_one (ps_expr (pe_bm PySem.F.plainAttrs_list PySem.F.slot_list_append PySem.F.type_list_append mt_append (pv 2) (pa_cons (pe_op op_mod (pe_op op_mul (pv 3) pe_int) pe_int) pa_nil))))))
      (pss_one (ps_ret (pe_slice k_sll (pv 2) (po_some pe_int) po_none)))))))), ?_⟩
    refine enter (Kn := Kn) (sl := [sv cell_359, sv many_360, .any, .any, .any]) ek ⟨⟨v_0, rfl, hv_0⟩, ⟨v_1, rfl, hv_1⟩, trivial, trivial, trivial, trivial⟩ ?_
    have q := rn_of q
    obtain ⟨found_361, h_found_361, hf⟩ := bind_some hf
    refine SB.seqB (fun kx_ => sb_asgO (sl' := fun p_found_361 => [sv cell_359, sv many_360, .at p_found_361, .any, .any]) (fun _ => rfl) (EN.cast (en_lst el_nil) (Option.some.inj h_found_361)) (fun p_found_361 => (kx_ _ _ ?_)))
    obtain ⟨number_362, h_number_362, hf⟩ := bind_some hf
    refine SB.seqB (fun kx_ => sb_asg (sl' := [sv cell_359, sv many_360, .at p_found_361, sv number_362, .any]) rfl (EV.cast (ev_op (ev_var (i := 0) rfl) (ev_op (ev_int 10) (ev_int 18) (r2_pow (r := 1000000000000000000))) r2_sub) (Option.some.inj h_number_362)) (kx_ _ _ ?_))
    refine SB.seqB (fun kx_365 => sb_if (b := (decide ((0 : Int) ≤ number_362))) (et_test (ev_op (ev_var (i := 3) rfl) (ev_int 0) r2_ge)) (fun hb_364 => ?_) (fun hb_364 => ?_))
    · have hf := ite_t hb_364 hf
      obtain ⟨rg_366, h_rg_366, hf⟩ := bind_some hf
      obtain ⟨⟨number_377, found_378⟩, h_tot_374, hf⟩ := bind_some hf
      refine SB.seqB (fun kx_379 => sb_for (β := Int) (Sx := Int × (List Int)) (fun s => [sv cell_359, sv many_360, .at p_found_361, sv s.1, .any]) (fun s => [ol p_found_361 s.2]) (fun x s => [sv cell_359, sv many_360, .at p_found_361, sv s.1, sv x]) [4] (fun xs s => forS (m__law_numbers_L1) xs s = some (number_377, found_378)) (number_362, found_361) (IT.m (it_rng1 (ea_cons (ev_var (i := 1) rfl) ea_nil) h_rg_366)) h_tot_374 (.keep (.keep (.keep (.keep (.keep .nil))))) (List.Sublist.refl _) (fun x s => (gt_name rfl)) ?_ ?_)
      · intro Kn1 b1 k_369 rest_ s_ hP_371 N_ hN_370
        obtain ⟨number_367, found_368⟩ := s_
        obtain ⟨c_, hc_372, hP_371⟩ := bind_some hP_371
        have q_373 := q.base b1
        unfold m__law_numbers_L1 at hc_372
        refine SB.is (sl' := [sv cell_359, sv many_360, .at p_found_361, sv number_367, sv k_369]) (ow1 := [ol p_found_361 found_368]) rfl rfl ?_
        obtain ⟨found_375, h_found_375, hc_372⟩ := bind_some hc_372
        refine SB.seqB (fun kx_ => sb_appO (i := 2) (j := 0) rfl rfl (ev_op (ev_var (i := 3) rfl) (ev_int 5040) r2_mod) h_found_375 (ow1 := [ol p_found_361 found_375]) rfl (kx_ _ _ ?_))
        obtain ⟨number_376, h_number_376, hc_372⟩ := bind_some hc_372
        refine sb_asg (sl' := [sv cell_359, sv many_360, .at p_found_361, sv number_376, sv k_369]) rfl (EV.cast (ev_op (ev_var (i := 3) rfl) (ev_int 5040) r2_div) (Option.some.inj h_number_376)) ?_
        cases hc_372
        exact fun σ Kn H s => hN_370 _ hP_371 σ Kn H ((s.le (.keep (.keep (.keep (.keep (.drop .nil)))))).sub (List.Sublist.refl _))
      · intro s_ h0
        cases h0
        refine kx_379 _ _ ?_
        refine SB.is (sl' := [sv cell_359, sv many_360, .at p_found_361, sv number_377, .any]) (ow1 := [ol p_found_361 found_378]) rfl rfl ?_
        cases hf
        exact sb_retO (i := 2) (j := 0) rfl rfl q (List.Sublist.cons _ List.Sublist.slnil)
    · have hf := ite_f hb_364 hf
      refine sb_nx ?_
      refine kx_365 _ _ ?_
      obtain ⟨number_380, h_number_380, hf⟩ := bind_some hf
      refine SB.seqB (fun kx_ => sb_asg (sl' := [sv cell_359, sv many_360, .at p_found_361, sv number_380, .any]) rfl (EV.cast (ev_op (ev_var (i := 0) rfl) (ev_int 2147483647) r2_mod) (Option.some.inj h_number_380)) (kx_ _ _ ?_))
      obtain ⟨rg_381, h_rg_381, hf⟩ := bind_some hf
      obtain ⟨⟨number_392, found_393⟩, h_tot_389, hf⟩ := bind_some hf
      refine SB.seqB (fun kx_394 => sb_for (β := Int) (Sx := Int × (List Int)) (fun s => [sv cell_359, sv many_360, .at p_found_361, sv s.1, .any]) (fun s => [ol p_found_361 s.2]) (fun x s => [sv cell_359, sv many_360, .at p_found_361, sv s.1, sv x]) [4] (fun xs s => forS (m__law_numbers_L2) xs s = some (number_392, found_393)) (number_380, found_361) (IT.m (it_rng1 (ea_cons (ev_op (ev_var (i := 1) rfl) (ev_int 1) r2_add) ea_nil) h_rg_381)) h_tot_389 (.keep (.keep (.keep (.keep (.keep .nil))))) (List.Sublist.refl _) (fun x s => (gt_name rfl)) ?_ ?_)
      · intro Kn1 b1 k_384 rest_ s_ hP_386 N_ hN_385
        obtain ⟨number_382, found_383⟩ := s_
        obtain ⟨c_, hc_387, hP_386⟩ := bind_some hP_386
        have q_388 := q.base b1
        unfold m__law_numbers_L2 at hc_387
        refine SB.is (sl' := [sv cell_359, sv many_360, .at p_found_361, sv number_382, sv k_384]) (ow1 := [ol p_found_361 found_383]) rfl rfl ?_
        obtain ⟨number_390, h_number_390, hc_387⟩ := bind_some hc_387
        refine SB.seqB (fun kx_ => sb_asg (sl' := [sv cell_359, sv many_360, .at p_found_361, sv number_390, sv k_384]) rfl (EV.cast (ev_op (ev_op (ev_op (ev_op (ev_var (i := 3) rfl) (ev_var (i := 4) rfl) r2_add) (ev_int 1) r2_add) (ev_int 48271) r2_mulr) (ev_int 2147483647) r2_mod) (Option.some.inj h_number_390)) (kx_ _ _ ?_))
        obtain ⟨found_391, h_found_391, hc_387⟩ := bind_some hc_387
        refine sb_appO (i := 2) (j := 0) rfl rfl (ev_op (ev_op (ev_var (i := 3) rfl) (ev_int 69621) r2_mulr) (ev_int 2147483629) r2_mod) h_found_391 (ow1 := [ol p_found_361 found_391]) rfl ?_
        cases hc_387
        exact fun σ Kn H s => hN_385 _ hP_386 σ Kn H ((s.le (.keep (.keep (.keep (.keep (.drop .nil)))))).sub (List.Sublist.refl _))
      · intro s_ h0
        cases h0
        refine kx_394 _ _ ?_
        refine SB.is (sl' := [sv cell_359, sv many_360, .at p_found_361, sv number_392, .any]) (ow1 := [ol p_found_361 found_393]) rfl rfl ?_
        refine sb_freeze (i := 2) (j := 0) (sl' := [sv cell_359, sv many_360, sv found_393, sv number_392, .any]) (ow1 := []) rfl rfl rfl rfl ?_
        cases hf
        exact sb_retL (en_sl (ev_var (i := 2) rfl) (eo_some (ev_int 1)) eo_none) q (List.Sublist.refl _)
theorem sc__law_blocks : FnScope ["_law_cells", "_law_blocks_here", "_law_k", "_law_cell", "_law_some", "_law_height", "_law_cuts_here", "_law_number", "_law_name"] ["_law_cells"] (defScope s__law_blocks) := ⟨rfl, rfl, rfl, by decide +kernel, rfl, by decide +kernel, by decide +kernel⟩
set_option maxHeartbeats 4000000 in
theorem ok__law_blocks (T : TX K mg w) : FnOk P w K mg base CX0 2 T.a__law_blocks T.d__law_blocks ["_law_cells"] (PL (τ := (List Int) × Unit) K (fun t => m__law_blocks t.1)) := by
  refine T.F__law_blocks.ok sc__law_blocks (fun vs H Q E h => ?_) (fun cdv A outer s H vs Q E hr h => ?_)
  · obtain ⟨Kn, t, r, ek, h, hf, q⟩ := h
    exact Tp.len h
  · obtain ⟨Kn, t, r_, ek, h, hf, q⟩ := h
    obtain ⟨cells_395, u_⟩ := t
    obtain ⟨v_0, rr_, rfl, hv_0, h⟩ := h
    obtain rfl := h
    replace hf : m__law_blocks cells_395 = some r_ := hf
    unfold m__law_blocks at hf
    refine ⟨_, (pss_cons (ps_set (i := 1) sc__law_blocks.nd rfl (.inl rfl) (pe_lst pa_nil))
      (pss_cons (ps_for PassesOwn.never rfl (pi_enum (by rfl) T.z_enumerate (pa_cons (pv 0) pa_nil)) (kpg_tup (pgs_cons (pg_name (i := 2) sc__law_blocks.nd rfl (.inl rfl)) (pgs_cons (pg_name (i := 3) sc__law_blocks.nd rfl (.inl rfl)) pgs_nil))) (pss_cons (ps_set (i := 4) sc__law_blocks.nd rfl (.inl rfl) (pe_call (ok__law_numbers T) hr (by rfl) T.g__law_numbers T.F__law_numbers.kp T.b__law_numbers .nil pass0 (pa_cons (pv 3) (pa_cons pe_int pa_nil))))
      (pss_cons (ps_set (i := 5) sc__law_blocks.nd rfl (.inl rfl) (pe_op op_add pe_int (pe_ix k_ixl (pe_lst (pa_cons (pe_op op_mod (pe_ix k_ixl (pv 4) pe_int (fun _ _ => rfl)) pe_int) (pa_cons (pe_op op_mod (pe_ix k_ixl (pv 4) pe_int (fun _ _ => rfl)) pe_int) pa_nil))) (pe_op op_mod (pe_ix k_ixl (pv 4) pe_int (fun _ _ => rfl)) pe_int) (fun _ _ => rfl))))
      (pss_cons (ps_set (i := 6) sc__law_blocks.nd rfl (.inl rfl) (pe_lst pa_nil))
      (pss_cons (ps_for PassesOwn.never rfl (kpi_list (pe_slice k_sll (pv 4) (po_some pe_int) (po_some (pe_op op_add pe_int (pe_op op_mod (pe_op op_fdiv (pe_ix k_ixl (pv 4) pe_int (fun _ _ => rfl)) pe_int) pe_int))))) (pg_name (i := 7) sc__law_blocks.nd rfl (.inl rfl)) (pss_one (ps_if (pt_cmpR op_gt (pv 5) pe_int (nomark _)) (pss_one (ps_expr (pe_bm PySem.F.plainAttrs_list PySem.F.slot_list_append PySem.F.type_list_append mt_append (pv 6) (pa_cons (pe_op op_add pe_int (pe_op op_mod (pv 7) (pe_op op_sub (pv 5) pe_int))) pa_nil)))) pss_nil)))
      (pss_cons (ps_set (i := 8) sc__law_blocks.nd rfl (.inl rfl) (pe_op op_add_str (pe_ix ix_str pe_str (pe_op op_mod (pv 2) pe_int) (fun _ _ => rfl)) (pe_ix ix_str pe_str (pe_op op_fdiv (pv 2) pe_int) (fun _ _ => rfl))))
      (pss_one (ps_expr (pe_bm PySem.F.plainAttrs_list PySem.F.slot_list_append PySem.F.type_list_append mt_append (pv 1) (pa_cons (pe_tup (pa_cons (pv 8) (pa_cons (pv 5) (pa_cons (pe_callTy k_tuple (by rfl) T.z_tuple (by decide +kernel) (pa_cons (pe_callB k_sortedSet (by rfl) T.z_sorted (by decide +kernel) (pa_cons (pe_callTy k_setI (by rfl) T.z_set (by decide +kernel) (pa_cons (pv 6) pa_nil)) pa_nil)) pa_nil)) (pa_cons (pe_cmpR op_eq (pe_op op_mod (pe_op op_fdiv (pe_ix k_ixl (pv 4) pe_int (fun _ _ => rfl)) pe_int) pe_int) pe_int (nomark _)) pa_nil))))) pa_nil))))))))))
      (pss_one (ps_ret (pv 1))))), ?_⟩
    refine enter (Kn := Kn) (sl := [sv cells_395, .any, .any, .any, .any, .any, .any, .any, .any]) ek ⟨⟨v_0, rfl, hv_0⟩, trivial, trivial, trivial, trivial, trivial, trivial, trivial, trivial, trivial⟩ ?_
    have q := rn_of q
    obtain ⟨blocks_here_396, h_blocks_here_396, hf⟩ := bind_some hf
    refine SB.seqB (fun kx_ => sb_asgO (sl' := fun p_blocks_here_396 => [sv cells_395, .at p_blocks_here_396, .any, .any, .any, .any, .any, .any, .any]) (fun _ => rfl) (EN.cast (en_lst el_nil) (Option.some.inj h_blocks_here_396)) (fun p_blocks_here_396 => (kx_ _ _ ?_)))
    obtain ⟨blocks_here_437, h_tot_404, hf⟩ := bind_some hf
    refine SB.seqB (fun kx_438 => sb_for (β := (Int × Int × Unit)) (Sx := (List (Str × Int × (Tu Int) × Bool × Unit))) (fun s => [sv cells_395, .at p_blocks_here_396, .any, .any, .any, .any, .any, .any, .any]) (fun s => [ol p_blocks_here_396 s]) (fun x s => [sv cells_395, .at p_blocks_here_396, sv x.1, sv x.2.1, .any, .any, .any, .any, .any]) [2, 3] (fun xs s => forS (m__law_blocks_L1) xs s = some blocks_here_437) blocks_here_396 (IT.m (it_enum (ea_cons (ev_var (i := 0) rfl) ea_nil))) h_tot_404 (.keep (.keep (.keep (.keep (.keep (.keep (.keep (.keep (.keep .nil))))))))) (List.Sublist.refl _) (fun x s => (gt_tup (gts_cons (gt_name rfl) (gts_cons (gt_name rfl) gts_nil)))) ?_ ?_)
    · intro Kn1 b1 x_ rest_ blocks_here_397 hP_401 N_ hN_400
      obtain ⟨k_398, cell_399, _⟩ := x_
      obtain ⟨c_, hc_402, hP_401⟩ := bind_some hP_401
      have q_403 := q.base b1
      unfold m__law_blocks_L1 at hc_402
      refine SB.is (sl' := [sv cells_395, .at p_blocks_here_396, sv k_398, sv cell_399, .any, .any, .any, .any, .any]) (ow1 := [ol p_blocks_here_396 blocks_here_397]) rfl rfl ?_
      obtain ⟨r_405, h_r_405, hc_402⟩ := bind_some hc_402
      obtain ⟨some_406, h_some_406, hc_402⟩ := bind_some hc_402
      refine SB.seqB (fun kx_ => sb_asg (sl' := [sv cells_395, .at p_blocks_here_396, sv k_398, sv cell_399, sv some_406, .any, .any, .any, .any]) rfl (EV.cast (EN.ev (en_call (ea_cons (ev_var (i := 3) rfl) (ea_cons (ev_int 6) ea_nil)) h_r_405)) (Option.some.inj h_some_406)) (kx_ _ _ ?_))
      obtain ⟨i_409, h_i_409, hc_402⟩ := bind_some hc_402
      obtain ⟨i_410, h_i_410, hc_402⟩ := bind_some hc_402
      obtain ⟨i_411, h_i_411, hc_402⟩ := bind_some hc_402
      obtain ⟨i_412, h_i_412, hc_402⟩ := bind_some hc_402
      obtain ⟨height_413, h_height_413, hc_402⟩ := bind_some hc_402
      refine SB.seqB (fun kx_ => sb_asg (sl' := [sv cells_395, .at p_blocks_here_396, sv k_398, sv cell_399, sv some_406, sv height_413, .any, .any, .any]) rfl (EV.cast (ev_op (ev_int 1) (ev_op (EN.ev (en_lst (el_cons (ev_op (ev_op (ev_var (i := 4) rfl) (ev_int 0) (r2_ixL h_i_409)) (ev_int 6) r2_mod) (el_cons (ev_op (ev_op (ev_var (i := 4) rfl) (ev_int 0) (r2_ixL h_i_410)) (ev_int 40) r2_mod) el_nil)))) (ev_op (ev_op (ev_var (i := 4) rfl) (ev_int 1) (r2_ixL h_i_411)) (ev_int 2) r2_mod) (r2_ixL h_i_412)) r2_add) (Option.some.inj h_height_413)) (kx_ _ _ ?_))
      obtain ⟨cuts_here_414, h_cuts_here_414, hc_402⟩ := bind_some hc_402
      refine SB.seqB (fun kx_ => sb_asgO (sl' := fun p_cuts_here_414 => [sv cells_395, .at p_blocks_here_396, sv k_398, sv cell_399, sv some_406, sv height_413, .at p_cuts_here_414, .any, .any]) (fun _ => rfl) (EN.cast (en_lst el_nil) (Option.some.inj h_cuts_here_414)) (fun p_cuts_here_414 => (kx_ _ _ ?_)))
      obtain ⟨i_415, h_i_415, hc_402⟩ := bind_some hc_402
      obtain ⟨cuts_here_428, h_tot_422, hc_402⟩ := bind_some hc_402
      refine SB.seqB (fun kx_429 => sb_for (β := Int) (Sx := (List Int)) (fun s => [sv cells_395, .at p_blocks_here_396, sv k_398, sv cell_399, sv some_406, sv height_413, .at p_cuts_here_414, .any, .any]) (fun s => [ol p_cuts_here_414 s, ol p_blocks_here_396 blocks_here_397]) (fun x s => [sv cells_395, .at p_blocks_here_396, sv k_398, sv cell_399, sv some_406, sv height_413, .at p_cuts_here_414, sv x, .any]) [7] (fun xs s => forS (m__law_blocks_L2 height_413) xs s = some cuts_here_428) cuts_here_414 (IT.m (it_list (EN.ev (en_sl (ev_var (i := 4) rfl) (eo_some (ev_int 2)) (eo_some (ev_op (ev_int 2) (ev_op (ev_op (ev_op (ev_var (i := 4) rfl) (ev_int 1) (r2_ixL h_i_415)) (ev_int 2) r2_div) (ev_int 4) r2_mod) r2_add)))))) h_tot_422 (.keep (.keep (.keep (.keep (.keep (.keep (.keep (.keep (.keep .nil))))))))) (List.Sublist.refl _) (fun x s => (gt_name rfl)) ?_ ?_)
      · intro Kn1 b1 number_417 rest_ cuts_here_416 hP_419 N_ hN_418
        obtain ⟨c_, hc_420, hP_419⟩ := bind_some hP_419
        have q_421 := q_403.base b1
        unfold m__law_blocks_L2 at hc_420
        refine SB.is (sl' := [sv cells_395, .at p_blocks_here_396, sv k_398, sv cell_399, sv some_406, sv height_413, .at p_cuts_here_414, sv number_417, .any]) (ow1 := [ol p_cuts_here_414 cuts_here_416, ol p_blocks_here_396 blocks_here_397]) rfl rfl ?_
        refine sb_if (b := (decide ((1 : Int) < height_413))) (et_test (ev_op (ev_var (i := 5) rfl) (ev_int 1) r2_gt)) (fun hb_424 => ?_) (fun hb_424 => ?_)
        · have hc_420 := ite_t hb_424 hc_420
          obtain ⟨r_426, h_r_426, hc_420⟩ := bind_some hc_420
          obtain ⟨cuts_here_427, h_cuts_here_427, hc_420⟩ := bind_some hc_420
          refine sb_appO (i := 6) (j := 0) rfl rfl (ev_op (ev_int 1) (ev_op (ev_var (i := 7) rfl) (ev_op (ev_var (i := 5) rfl) (ev_int 1) r2_sub) (r2_modO h_r_426)) r2_add) h_cuts_here_427 (ow1 := [ol p_cuts_here_414 cuts_here_427, ol p_blocks_here_396 blocks_here_397]) rfl ?_
          cases hc_420
          exact fun σ Kn H s => hN_418 _ hP_419 σ Kn H ((s.le (.keep (.keep (.keep (.keep (.keep (.keep (.keep (.drop (.keep .nil)))))))))).sub (List.Sublist.refl _))
        · have hc_420 := ite_f hb_424 hc_420
          refine sb_nx ?_
          cases hc_420
          exact fun σ Kn H s => hN_418 _ hP_419 σ Kn H ((s.le (.keep (.keep (.keep (.keep (.keep (.keep (.keep (.drop (.keep .nil)))))))))).sub (List.Sublist.refl _))
      · intro s_ h0
        cases h0
        refine kx_429 _ _ ?_
        refine SB.is (sl' := [sv cells_395, .at p_blocks_here_396, sv k_398, sv cell_399, sv some_406, sv height_413, .at p_cuts_here_414, .any, .any]) (ow1 := [ol p_cuts_here_414 cuts_here_428, ol p_blocks_here_396 blocks_here_397]) rfl rfl ?_
        obtain ⟨i_430, h_i_430, hc_402⟩ := bind_some hc_402
        obtain ⟨i_431, h_i_431, hc_402⟩ := bind_some hc_402
        obtain ⟨t_432, h_t_432, hc_402⟩ := bind_some hc_402
        obtain ⟨name_433, h_name_433, hc_402⟩ := bind_some hc_402
        refine SB.seqB (fun kx_ => sb_asg (sl' := [sv cells_395, .at p_blocks_here_396, sv k_398, sv cell_399, sv some_406, sv height_413, .at p_cuts_here_414, .any, sv name_433]) rfl (EV.cast (ev_op (ev_op (ev_str ("abcdefghijklmnopqrstuvwxyz" : Str)) (ev_op (ev_var (i := 2) rfl) (ev_int 26) r2_mod) (r2_ixS h_i_430)) (ev_op (ev_str ("ab" : Str)) (ev_op (ev_var (i := 2) rfl) (ev_int 26) r2_div) (r2_ixS h_i_431)) (r2_addS h_t_432)) (Option.some.inj h_name_433)) (kx_ _ _ ?_))
        refine sb_freeze (i := 6) (j := 0) (sl' := [sv cells_395, .at p_blocks_here_396, sv k_398, sv cell_399, sv some_406, sv height_413, sv cuts_here_428, .any, sv name_433]) (ow1 := [ol p_blocks_here_396 blocks_here_397]) rfl rfl rfl rfl ?_
        obtain ⟨ss_434, h_ss_434, hc_402⟩ := bind_some hc_402
        obtain ⟨i_435, h_i_435, hc_402⟩ := bind_some hc_402
        obtain ⟨blocks_here_436, h_blocks_here_436, hc_402⟩ := bind_some hc_402
        refine sb_appO (i := 1) (j := 0) rfl rfl (ev_tup (ea_cons (ev_var (i := 8) rfl) (ea_cons (ev_var (i := 5) rfl) (ea_cons (ev_cb (ea_cons (EN.ev (en_sset (ev_var (i := 6) rfl) h_ss_434)) ea_nil) rc_tuple) (ea_cons (ev_op (ev_op (ev_op (ev_op (ev_var (i := 4) rfl) (ev_int 1) (r2_ixL h_i_435)) (ev_int 8) r2_div) (ev_int 3) r2_mod) (ev_int 0) r2_eqI) ea_nil))))) h_blocks_here_436 (ow1 := [ol p_blocks_here_396 blocks_here_436]) rfl ?_
        cases hc_402
        exact fun σ Kn H s => hN_400 _ hP_401 σ Kn H ((s.le (.keep (.keep (.drop (.drop (.drop (.drop (.drop (.keep (.drop .nil)))))))))).sub (List.Sublist.refl _))
    · intro s_ h0
      cases h0
      refine kx_438 _ _ ?_
      refine SB.is (sl' := [sv cells_395, .at p_blocks_here_396, .any, .any, .any, .any, .any, .any, .any]) (ow1 := [ol p_blocks_here_396 blocks_here_437]) rfl rfl ?_
      cases hf
      exact sb_retO (i := 1) (j := 0) rfl rfl q (List.Sublist.cons _ List.Sublist.slnil)
theorem sc__law_cuts : FnScope ["_law_blocks_here", "_law_cuts_here", "_law_top", "_law_k", "_law_block", "_law_cut"] ["_law_blocks_here"] (defScope s__law_cuts) := ⟨rfl, rfl, rfl, by decide +kernel, rfl, by decide +kernel, by decide +kernel⟩
set_option maxHeartbeats 4000000 in
theorem ok__law_cuts (T : TX K mg w) : FnOk P w K mg base CX0 1 T.a__law_cuts T.d__law_cuts ["_law_blocks_here"] (PL (τ := (List (Str × Int × (Tu Int) × Bool × Unit)) × Unit) K (fun t => m__law_cuts t.1)) := by
  refine T.F__law_cuts.ok sc__law_cuts (fun vs H Q E h => ?_) (fun cdv A outer s H vs Q E hr h => ?_)
  · obtain ⟨Kn, t, r, ek, h, hf, q⟩ := h
    exact Tp.len h
  · obtain ⟨Kn, t, r_, ek, h, hf, q⟩ := h
    obtain ⟨blocks_here_439, u_⟩ := t
    obtain ⟨v_0, rr_, rfl, hv_0, h⟩ := h
    obtain rfl := h
    replace hf : m__law_cuts blocks_here_439 = some r_ := hf
    unfold m__law_cuts at hf
    refine ⟨_, (pss_cons (ps_set (i := 1) sc__law_cuts.nd rfl (.inl rfl) (pe_lst pa_nil))
      (pss_cons (ps_set (i := 2) sc__law_cuts.nd rfl (.inl rfl) pe_int)
      (pss_cons (ps_for PassesOwn.never rfl (pi_enum (by rfl) T.z_enumerate (pa_cons (pv 0) pa_nil)) (kpg_tup (pgs_cons (pg_name (i := 3) sc__law_cuts.nd rfl (.inl rfl)) (pgs_cons (pg_name (i := 4) sc__law_cuts.nd rfl (.inl rfl)) pgs_nil))) (pss_cons (ps_for PassesOwn.never rfl (kpi_tup (pe_ix k_ixt (pv 4) pe_int (fun _ _ => rfl))) (pg_name (i := 5) sc__law_cuts.nd rfl (.inl rfl)) (pss_one (ps_expr (pe_bm PySem.F.plainAttrs_list PySem.F.slot_list_append PySem.F.type_list_append mt_append (pv 1) (pa_cons (pe_tup (pa_cons (pe_op op_add (pv 2) (pv 5)) (pa_cons (pe_ix k_ixt (pv 4) pe_int (fun _ _ => rfl)) pa_nil))) pa_nil)))))
      (pss_cons (ps_set (i := 2) sc__law_cuts.nd rfl (.inl rfl) (pe_op op_add (pv 2) (pe_ix k_ixt (pv 4) pe_int (fun _ _ => rfl))))
      (pss_one (ps_if (PW.pt (pw_or (pt_not (pt_val (pe_ix k_ixt (pv 4) pe_int (fun _ _ => rfl)))) (pw_or1 (pt_cmpR op_eq (pe_op op_add (pv 3) pe_int) (pe_callB k_len (by rfl) T.z_len PySem.boot_len (pa_cons (pv 0) pa_nil)) (nomark _))))) (pss_one (ps_expr (pe_bm PySem.F.plainAttrs_list PySem.F.slot_list_append PySem.F.type_list_append mt_append (pv 1) (pa_cons (pe_tup (pa_cons (pv 2) (pa_cons pe_str pa_nil))) pa_nil)))) pss_nil)))))
      (pss_one (ps_ret (pv 1)))))), ?_⟩
    refine enter (Kn := Kn) (sl := [sv blocks_here_439, .any, .any, .any, .any, .any]) ek ⟨⟨v_0, rfl, hv_0⟩, trivial, trivial, trivial, trivial, trivial, trivial⟩ ?_
    have q := rn_of q
    obtain ⟨cuts_here_440, h_cuts_here_440, hf⟩ := bind_some hf
    refine SB.seqB (fun kx_ => sb_asgO (sl' := fun p_cuts_here_440 => [sv blocks_here_439, .at p_cuts_here_440, .any, .any, .any, .any]) (fun _ => rfl) (EN.cast (en_lst el_nil) (Option.some.inj h_cuts_here_440)) (fun p_cuts_here_440 => (kx_ _ _ ?_)))
    obtain ⟨top_441, h_top_441, hf⟩ := bind_some hf
    refine SB.seqB (fun kx_ => sb_asg (sl' := [sv blocks_here_439, .at p_cuts_here_440, sv top_441, .any, .any, .any]) rfl (EV.cast (ev_int 0) (Option.some.inj h_top_441)) (kx_ _ _ ?_))
    obtain ⟨⟨top_466, cuts_here_467⟩, h_tot_450, hf⟩ := bind_some hf
    refine SB.seqB (fun kx_468 => sb_for (β := (Int × (Str × Int × (Tu Int) × Bool × Unit) × Unit)) (Sx := Int × (List (Int × Str × Unit))) (fun s => [sv blocks_here_439, .at p_cuts_here_440, sv s.1, .any, .any, .any]) (fun s => [ol p_cuts_here_440 s.2]) (fun x s => [sv blocks_here_439, .at p_cuts_here_440, sv s.1, sv x.1, sv x.2.1, .any]) [3, 4] (fun xs s => forS (m__law_cuts_L1 blocks_here_439) xs s = some (top_466, cuts_here_467)) (top_441, cuts_here_440) (IT.m (it_enum (ea_cons (ev_var (i := 0) rfl) ea_nil))) h_tot_450 (.keep (.keep (.keep (.keep (.keep (.keep .nil)))))) (List.Sublist.refl _) (fun x s => (gt_tup (gts_cons (gt_name rfl) (gts_cons (gt_name rfl) gts_nil)))) ?_ ?_)
    · intro Kn1 b1 x_ rest_ s_ hP_447 N_ hN_446
      obtain ⟨k_444, block_445, _⟩ := x_
      obtain ⟨top_442, cuts_here_443⟩ := s_
      obtain ⟨c_, hc_448, hP_447⟩ := bind_some hP_447
      have q_449 := q.base b1
      unfold m__law_cuts_L1 at hc_448
      refine SB.is (sl' := [sv blocks_here_439, .at p_cuts_here_440, sv top_442, sv k_444, sv block_445, .any]) (ow1 := [ol p_cuts_here_440 cuts_here_443]) rfl rfl ?_
      obtain ⟨cuts_here_459, h_tot_457, hc_448⟩ := bind_some hc_448
      refine SB.seqB (fun kx_460 => sb_for (β := Int) (Sx := (List (Int × Str × Unit))) (fun s => [sv blocks_here_439, .at p_cuts_here_440, sv top_442, sv k_444, sv block_445, .any]) (fun s => [ol p_cuts_here_440 s]) (fun x s => [sv blocks_here_439, .at p_cuts_here_440, sv top_442, sv k_444, sv block_445, sv x]) [5] (fun xs s => forS (m__law_cuts_L2 top_442 block_445) xs s = some cuts_here_459) cuts_here_443 (IT.m (it_tup (ev_op (ev_var (i := 4) rfl) (ev_int 2) (r2_tix (n := 2) (At.s _ (At.s _ (At.z _ _))))))) h_tot_457 (.keep (.keep (.keep (.keep (.keep (.keep .nil)))))) (List.Sublist.refl _) (fun x s => (gt_name rfl)) ?_ ?_)
      · intro Kn1 b1 cut_452 rest_ cuts_here_451 hP_454 N_ hN_453
        obtain ⟨c_, hc_455, hP_454⟩ := bind_some hP_454
        have q_456 := q_449.base b1
        unfold m__law_cuts_L2 at hc_455
        refine SB.is (sl' := [sv blocks_here_439, .at p_cuts_here_440, sv top_442, sv k_444, sv block_445, sv cut_452]) (ow1 := [ol p_cuts_here_440 cuts_here_451]) rfl rfl ?_
        obtain ⟨cuts_here_458, h_cuts_here_458, hc_455⟩ := bind_some hc_455
        refine sb_appO (i := 1) (j := 0) rfl rfl (ev_tup (ea_cons (ev_op (ev_var (i := 2) rfl) (ev_var (i := 5) rfl) r2_add) (ea_cons (ev_op (ev_var (i := 4) rfl) (ev_int 0) (r2_tix (n := 0) (At.z _ _))) ea_nil))) h_cuts_here_458 (ow1 := [ol p_cuts_here_440 cuts_here_458]) rfl ?_
        cases hc_455
        exact fun σ Kn H s => hN_453 _ hP_454 σ Kn H ((s.le (.keep (.keep (.keep (.keep (.keep (.drop .nil))))))).sub (List.Sublist.refl _))
      · intro s_ h0
        cases h0
        refine kx_460 _ _ ?_
        refine SB.is (sl' := [sv blocks_here_439, .at p_cuts_here_440, sv top_442, sv k_444, sv block_445, .any]) (ow1 := [ol p_cuts_here_440 cuts_here_459]) rfl rfl ?_
        obtain ⟨top_461, h_top_461, hc_448⟩ := bind_some hc_448
        refine SB.seqB (fun kx_ => sb_asg (sl' := [sv blocks_here_439, .at p_cuts_here_440, sv top_461, sv k_444, sv block_445, .any]) rfl (EV.cast (ev_op (ev_var (i := 2) rfl) (ev_op (ev_var (i := 4) rfl) (ev_int 1) (r2_tix (n := 1) (At.s _ (At.z _ _)))) r2_add) (Option.some.inj h_top_461)) (kx_ _ _ ?_))
        refine sb_if (b := ((!block_445.2.2.2.1) || (decide ((k_444 + (1 : Int)) = (blocks_here_439.length : Int))))) (et_or (et_not (et_B (ev_op (ev_var (i := 4) rfl) (ev_int 3) (r2_tix (n := 3) (At.s _ (At.s _ (At.s _ (At.z _ _)))))))) (fun _ => (et_test (ev_op (ev_op (ev_var (i := 3) rfl) (ev_int 1) r2_add) (ev_cb (ea_cons (ev_var (i := 0) rfl) ea_nil) rc_len) r2_eqI)))) (fun hb_463 => ?_) (fun hb_463 => ?_)
        · have hc_448 := ite_t hb_463 hc_448
          obtain ⟨cuts_here_465, h_cuts_here_465, hc_448⟩ := bind_some hc_448
          refine sb_appO (i := 1) (j := 0) rfl rfl (ev_tup (ea_cons (ev_var (i := 2) rfl) (ea_cons (ev_str ("" : Str)) ea_nil))) h_cuts_here_465 (ow1 := [ol p_cuts_here_440 cuts_here_465]) rfl ?_
          cases hc_448
          exact fun σ Kn H s => hN_446 _ hP_447 σ Kn H ((s.le (.keep (.keep (.keep (.drop (.drop (.keep .nil))))))).sub (List.Sublist.refl _))
        · have hc_448 := ite_f hb_463 hc_448
          refine sb_nx ?_
          cases hc_448
          exact fun σ Kn H s => hN_446 _ hP_447 σ Kn H ((s.le (.keep (.keep (.keep (.drop (.drop (.keep .nil))))))).sub (List.Sublist.refl _))
    · intro s_ h0
      cases h0
      refine kx_468 _ _ ?_
      refine SB.is (sl' := [sv blocks_here_439, .at p_cuts_here_440, sv top_466, .any, .any, .any]) (ow1 := [ol p_cuts_here_440 cuts_here_467]) rfl rfl ?_
      cases hf
      exact sb_retO (i := 1) (j := 0) rfl rfl q (List.Sublist.cons _ List.Sublist.slnil)
theorem sc__law_cost : FnScope ["_law_cuts_here", "_law_price", "_law_height", "_law_depths", "_law_within", "_law_top", "_law_cost_here", "_law_k", "_law_depth"] ["_law_cuts_here", "_law_price", "_law_height", "_law_depths"] (defScope s__law_cost) := ⟨rfl, rfl, rfl, by decide +kernel, rfl, by decide +kernel, by decide +kernel⟩
set_option maxHeartbeats 4000000 in
theorem ok__law_cost (T : TX K mg w) : FnOk P w K mg base CX0 1 T.a__law_cost T.d__law_cost ["_law_cuts_here", "_law_price", "_law_height", "_law_depths"] (PF (τ := (List (Int × Str × Unit)) × Int × Int × Dy × Unit) K (fun t => m__law_cost t.1 t.2.1 t.2.2.1 t.2.2.2.1)) := by
  refine T.F__law_cost.ok sc__law_cost (fun vs H Q E h => ?_) (fun cdv A outer s H vs Q E hr h => ?_)
  · obtain ⟨Kn, t, r, ek, h, hf, q⟩ := h
    exact Tp.len h
  · obtain ⟨Kn, t, r_, ek, h, hf, q⟩ := h
    obtain ⟨cuts_here_469, price_470, height_471, depths_472, u_⟩ := t
    obtain ⟨v_0, rr_, rfl, hv_0, h⟩ := h
    obtain ⟨v_1, rr_, rfl, hv_1, h⟩ := h
    obtain ⟨v_2, rr_, rfl, hv_2, h⟩ := h
    obtain ⟨v_3, rr_, rfl, hv_3, h⟩ := h
    obtain rfl := h
    replace hf : m__law_cost cuts_here_469 price_470 height_471 depths_472 = some r_ := hf
    unfold m__law_cost at hf
    refine ⟨_, (pss_cons (ps_if (PW.pt (pw_or (pt_not (pt_val (pe_callB k_isi (by rfl) T.z_isinstance (by decide +kernel) (pa_cons (pv 3) (pa_cons (pe_bltn (v := .ty "list") (u := .type "list") (by rfl) T.z_list (by decide +kernel) rfl) pa_nil))))) (pw_or1 (pt_cmpR op_eq (pe_callB k_len (by rfl) T.z_len PySem.boot_len (pa_cons (pv 3) pa_nil)) pe_int (nomark _))))) (pss_one (ps_ret pe_non)) pss_nil)
      (pss_cons (ps_set (i := 4) sc__law_cost.nd rfl (.inl rfl) (pe_callTy k_dictP (by rfl) T.z_dict (by decide +kernel) (pa_cons (pv 0) pa_nil)))
      (pss_cons (ps_set (i := 5) sc__law_cost.nd rfl (.inl rfl) pe_int)
      (pss_cons (ps_set (i := 6) sc__law_cost.nd rfl (.inl rfl) pe_int)
      (pss_cons (ps_for PassesOwn.never rfl (pi_enum (by rfl) T.z_enumerate (pa_cons (pv 3) pa_nil)) (kpg_tup (pgs_cons (pg_name (i := 7) sc__law_cost.nd rfl (.inl rfl)) (pgs_cons (pg_name (i := 8) sc__law_cost.nd rfl (.inl rfl)) pgs_nil))) (pss_cons (ps_if (PW.pt (pw_or (pt_not (pt_val (pe_callB k_isi (by rfl) T.z_isinstance (by decide +kernel) (pa_cons (pv 8) (pa_cons (pe_bltn (v := .ty "int") (u := .type "int") (by rfl) T.z_int (by decide +kernel) rfl) pa_nil))))) (pw_or (pt_val (pe_callB k_isi (by rfl) T.z_isinstance (by decide +kernel) (pa_cons (pv 8) (pa_cons (pe_bltn (v := .ty "bool") (u := .type "bool") (by rfl) T.z_bool (by decide +kernel) rfl) pa_nil)))) (pw_or1 (pt_cmp (k_dnotin hr.units (pv 8) (pv 4)) rfl))))) (pss_one (ps_ret pe_non)) pss_nil)
      (pss_cons (ps_if (pt_not (pt_chain op_lt op_le (pv 5) (pv 8) (pe_op op_add (pv 5) (pv 2)))) (pss_one (ps_ret pe_non)) pss_nil)
      (Evl.pss_cut (ps_if (pt_cmpR op_lt (pe_op op_add (pv 7) pe_int) (pe_callB k_len (by rfl) T.z_len PySem.boot_len (pa_cons (pv 3) pa_nil)) (nomark _)) (pss_one (ps_set (i := 6) sc__law_cost.nd rfl (.inl rfl) (pe_op op_add (pe_op op_add (pv 6) (pe_op op_pow (pe_op op_add (pe_op op_sub (pv 2) (pv 8)) (pv 5)) pe_int)) (pe_op op_mul (pv 1) (pe_callTy call_int1 (by rfl) T.z_int (by decide +kernel) (pa_cons (pe_cmpR op_ne (k_dget hr.units (pv 4) (pv 8) (fun _ _ => rfl)) pe_str (nomark _)) pa_nil)))))) pss_nil)
      (pss_one (ps_set (i := 5) sc__law_cost.nd rfl (.inl rfl) (pv 8)))))))
      (pss_cons (ps_if (pt_cmpR op_ne (pv 5) (pe_ix k_ixt (pe_ix k_ixl (pv 0) (pe_un un_neg pe_int) (fun _ _ => rfl)) pe_int (fun _ _ => rfl)) (nomark _)) (pss_one (ps_ret pe_non)) pss_nil)
      (pss_one (ps_ret (pv 6))))))))), ?_⟩
    refine enter (Kn := Kn) (sl := [sv cuts_here_469, sv price_470, sv height_471, sv depths_472, .any, .any, .any, .any, .any]) ek ⟨⟨v_0, rfl, hv_0⟩, ⟨v_1, rfl, hv_1⟩, ⟨v_2, rfl, hv_2⟩, ⟨v_3, rfl, hv_3⟩, trivial, trivial, trivial, trivial, trivial, trivial⟩ ?_
    have q := rt_of q
    obtain ⟨b_475, h_b_475, hf⟩ := bind_some hf
    refine SB.seqB (fun kx_477 => sb_if (b := b_475) (et_orO h_b_475 (et_not (et_B (ev_cb (ea_cons (ev_var (i := 3) rfl) (ea_cons (ev_ty "list") ea_nil)) (rc_isiD (by decide +kernel) (by decide +kernel) (by decide +kernel) (by decide +kernel) (by decide +kernel) (by decide +kernel))))) (fun _ _ h => by obtain ⟨o_474, h_o_474, h⟩ := bind_some h; have hz_ := Option.some.inj h; subst hz_; exact (et_test (ev_op (ev_cb (ea_cons (ev_of (ev_var (i := 3) rfl) h_o_474) ea_nil) rc_len) (ev_int 0) r2_eqI)))) (fun hb_476 => ?_) (fun hb_476 => ?_))
    · have hf := ite_t hb_476 hf
      cases hf
      exact sb_ret ev_none q (List.Sublist.refl _)
    · have hf := ite_f hb_476 hf
      refine sb_nx ?_
      refine kx_477 _ _ ?_
      obtain ⟨within_478, h_within_478, hf⟩ := bind_some hf
      refine SB.seqB (fun kx_ => sb_asg (sl' := [sv cuts_here_469, sv price_470, sv height_471, sv depths_472, sv within_478, .any, .any, .any, .any]) rfl (EV.cast (EG.ev (eg_dictP (ev_var (i := 0) rfl))) (Option.some.inj h_within_478)) (kx_ _ _ ?_))
      obtain ⟨top_479, h_top_479, hf⟩ := bind_some hf
      refine SB.seqB (fun kx_ => sb_asg (sl' := [sv cuts_here_469, sv price_470, sv height_471, sv depths_472, sv within_478, sv top_479, .any, .any, .any]) rfl (EV.cast (ev_int 0) (Option.some.inj h_top_479)) (kx_ _ _ ?_))
      obtain ⟨cost_here_480, h_cost_here_480, hf⟩ := bind_some hf
      refine SB.seqB (fun kx_ => sb_asg (sl' := [sv cuts_here_469, sv price_470, sv height_471, sv depths_472, sv within_478, sv top_479, sv cost_here_480, .any, .any]) rfl (EV.cast (ev_int 0) (Option.some.inj h_cost_here_480)) (kx_ _ _ ?_))
      obtain ⟨o_481, h_o_481, hf⟩ := bind_some hf
      obtain ⟨tot_490, h_tot_490, hf⟩ := bind_some hf
      refine SB.seqB (fun kx_516 => sb_for (β := (Int × Dy × Unit)) (Sx := Int × Int) (fun s => [sv cuts_here_469, sv price_470, sv height_471, sv depths_472, sv within_478, sv s.1, sv s.2, .any, .any]) (fun s => []) (fun x s => [sv cuts_here_469, sv price_470, sv height_471, sv depths_472, sv within_478, sv s.1, sv s.2, sv x.1, sv x.2.1]) [7, 8] (fun xs s => forC (m__law_cost_L1 price_470 height_471 depths_472 within_478) xs s = some tot_490) (top_479, cost_here_480) (IT.m (it_enum (ea_cons (ev_of (ev_var (i := 3) rfl) h_o_481) ea_nil))) h_tot_490 (.keep (.keep (.keep (.keep (.keep (.keep (.keep (.keep (.keep .nil))))))))) (List.Sublist.refl _) (fun x s => (gt_tup (gts_cons (gt_name rfl) (gts_cons (gt_name rfl) gts_nil)))) ?_ ?_)
      · intro Kn1 b1 x_ rest_ s_ hP_487 N_ hN_486
        obtain ⟨k_484, depth_485, _⟩ := x_
        obtain ⟨top_482, cost_here_483⟩ := s_
        obtain ⟨c_, hc_488, hP_487⟩ := bind_some hP_487
        have q_489 := q.base b1
        unfold m__law_cost_L1 at hc_488
        refine SB.is (sl' := [sv cuts_here_469, sv price_470, sv height_471, sv depths_472, sv within_478, sv top_482, sv cost_here_483, sv k_484, sv depth_485]) (ow1 := []) rfl rfl ?_
        obtain ⟨b_494, h_b_494, hc_488⟩ := bind_some hc_488
        refine SB.seqB (fun kx_496 => sb_if (b := b_494) (et_orO h_b_494 (et_not (et_B (ev_cb (ea_cons (ev_var (i := 8) rfl) (ea_cons (ev_ty "int") ea_nil)) (rc_isiD (by decide +kernel) (by decide +kernel) (by decide +kernel) (by decide +kernel) (by decide +kernel) (by decide +kernel))))) (fun _ _ h => by obtain ⟨b_493, h_b_493, h⟩ := bind_some h; have hz_ := Option.some.inj h; subst hz_; exact (et_orO h_b_493 (et_B (ev_cb (ea_cons (ev_var (i := 8) rfl) (ea_cons (ev_ty "bool") ea_nil)) (rc_isiD (by decide +kernel) (by decide +kernel) (by decide +kernel) (by decide +kernel) (by decide +kernel) (by decide +kernel)))) (fun _ _ h => by obtain ⟨o_492, h_o_492, h⟩ := bind_some h; have hz_ := Option.some.inj h; subst hz_; exact (et_B (ev_dnotin (ev_var (i := 4) rfl) (ev_of (ev_var (i := 8) rfl) h_o_492))))))) (fun hb_495 => ?_) (fun hb_495 => ?_))
        · have hc_488 := ite_t hb_495 hc_488
          cases hc_488
          replace hP_487 : some (Ctl.rt none) = some tot_490 := hP_487
          cases hP_487
          replace hf : some none = some r_ := hf
          cases hf
          exact sb_ret ev_none q_489 (List.Sublist.refl _)
        · have hc_488 := ite_f hb_495 hc_488
          refine sb_nx ?_
          refine kx_496 _ _ ?_
          obtain ⟨o_498, h_o_498, hc_488⟩ := bind_some hc_488
          refine SB.seqB (fun kx_500 => sb_if (b := (!((decide (top_482 < o_498)) && (decide (o_498 ≤ (top_482 + height_471)))))) (et_not (et_test (ev_chain (ev_var (i := 5) rfl) (ev_of (ev_var (i := 8) rfl) h_o_498) r2_lt (ev_op (ev_var (i := 5) rfl) (ev_var (i := 2) rfl) r2_add) r2_le))) (fun hb_499 => ?_) (fun hb_499 => ?_))
          · have hc_488 := ite_t hb_499 hc_488
            cases hc_488
            replace hP_487 : some (Ctl.rt none) = some tot_490 := hP_487
            cases hP_487
            replace hf : some none = some r_ := hf
            cases hf
            exact sb_ret ev_none q_489 (List.Sublist.refl _)
          · have hc_488 := ite_f hb_499 hc_488
            refine sb_nx ?_
            refine kx_500 _ _ ?_
            obtain ⟨o_502, h_o_502, hc_488⟩ := bind_some hc_488
            obtain ⟨cost_here_510, hj_501, hc_488⟩ := bind_some hc_488
            refine SB.cutB (sl' := [sv cuts_here_469, sv price_470, sv height_471, sv depths_472, sv within_478, sv top_482, sv cost_here_510, sv k_484, sv depth_485]) (ow1 := []) (fun km_511 => sb_if (b := (decide ((k_484 + (1 : Int)) < (o_502.length : Int)))) (et_test (ev_op (ev_op (ev_var (i := 7) rfl) (ev_int 1) r2_add) (ev_cb (ea_cons (ev_of (ev_var (i := 3) rfl) h_o_502) ea_nil) rc_len) r2_lt)) (fun hb_503 => ?_) (fun hb_503 => ?_)) ?_
            · have hj_501 := ite_t hb_503 hj_501
              obtain ⟨o_504, h_o_504, hj_501⟩ := bind_some hj_501
              obtain ⟨w_505, h_w_505, hj_501⟩ := bind_some hj_501
              obtain ⟨o_506, h_o_506, hj_501⟩ := bind_some hj_501
              obtain ⟨i_507, h_i_507, hj_501⟩ := bind_some hj_501
              obtain ⟨m_508, h_m_508, hj_501⟩ := bind_some hj_501
              obtain ⟨cost_here_509, h_cost_here_509, hj_501⟩ := bind_some hj_501
              refine sb_asg (sl' := [sv cuts_here_469, sv price_470, sv height_471, sv depths_472, sv within_478, sv top_482, sv cost_here_509, sv k_484, sv depth_485]) rfl (EV.cast (ev_op (ev_op (ev_var (i := 6) rfl) (ev_op (ev_op (ev_op (ev_var (i := 2) rfl) (ev_of (ev_var (i := 8) rfl) h_o_504) r2_sub) (ev_var (i := 5) rfl) r2_add) (ev_int 2) (r2_powO h_w_505)) r2_add) (ev_op (ev_var (i := 1) rfl) (ev_cb (ea_cons (ev_op (ev_dget (ev_var (i := 4) rfl) (ev_of (ev_var (i := 8) rfl) h_o_506) h_i_507) (ev_str ("" : Str)) r2_neS) ea_nil) rc_intB) (r2_mulO h_m_508)) r2_add) (Option.some.inj h_cost_here_509)) ?_
              cases hj_501
              exact km_511 _ _ (.keep (.keep (.keep (.keep (.keep (.keep (.keep (.keep (.keep .nil))))))))) (List.Sublist.refl _)
            · have hj_501 := ite_f hb_503 hj_501
              refine sb_nx ?_
              cases hj_501
              exact km_511 _ _ (.keep (.keep (.keep (.keep (.keep (.keep (.keep (.keep (.keep .nil))))))))) (List.Sublist.refl _)
            obtain ⟨o_512, h_o_512, hc_488⟩ := bind_some hc_488
            obtain ⟨top_513, h_top_513, hc_488⟩ := bind_some hc_488
            refine sb_asg (sl' := [sv cuts_here_469, sv price_470, sv height_471, sv depths_472, sv within_478, sv top_513, sv cost_here_510, sv k_484, sv depth_485]) rfl (EV.cast (ev_of (ev_var (i := 8) rfl) h_o_512) (Option.some.inj h_top_513)) ?_
            cases hc_488
            exact fun σ Kn H s => hN_486 _ hP_487 σ Kn H ((s.le (.keep (.keep (.keep (.keep (.keep (.keep (.keep (.drop (.drop .nil)))))))))).sub (List.Sublist.refl _))
      · intro s_ h0
        obtain ⟨top_514, cost_here_515⟩ := s_
        cases h0
        refine kx_516 _ _ ?_
        refine SB.is (sl' := [sv cuts_here_469, sv price_470, sv height_471, sv depths_472, sv within_478, sv top_514, sv cost_here_515, .any, .any]) (ow1 := []) rfl rfl ?_
        obtain ⟨i_518, h_i_518, hf⟩ := bind_some hf
        refine SB.seqB (fun kx_520 => sb_if (b := (!decide (top_514 = i_518.1))) (et_test (ev_op (ev_var (i := 5) rfl) (ev_op (ev_op (ev_var (i := 0) rfl) (ev_un (ev_int 1) r1_neg) (r2_ixL h_i_518)) (ev_int 0) (r2_tix (n := 0) (At.z _ _))) r2_neI)) (fun hb_519 => ?_) (fun hb_519 => ?_))
        · have hf := ite_t hb_519 hf
          cases hf
          exact sb_ret ev_none q (List.Sublist.refl _)
        · have hf := ite_f hb_519 hf
          refine sb_nx ?_
          refine kx_520 _ _ ?_
          cases hf
          exact sb_ret (ev_some (ev_var (i := 6) rfl)) q (List.Sublist.refl _)
theorem sc__law_is_number : FnScope ["_law_thing"] ["_law_thing"] (defScope s__law_is_number) := ⟨rfl, rfl, rfl, by decide +kernel, rfl, by decide +kernel, by decide +kernel⟩
set_option maxHeartbeats 4000000 in
theorem ok__law_is_number (T : TX K mg w) : FnOk P w K mg base CX0 1 T.a__law_is_number T.d__law_is_number ["_law_thing"] (PF (τ := Dy × Unit) K (fun t => m__law_is_number t.1)) := by
  refine T.F__law_is_number.ok sc__law_is_number (fun vs H Q E h => ?_) (fun cdv A outer s H vs Q E hr h => ?_)
  · obtain ⟨Kn, t, r, ek, h, hf, q⟩ := h
    exact Tp.len h
  · obtain ⟨Kn, t, r_, ek, h, hf, q⟩ := h
    obtain ⟨thing_521, u_⟩ := t
    obtain ⟨v_0, rr_, rfl, hv_0, h⟩ := h
    obtain rfl := h
    replace hf : m__law_is_number thing_521 = some r_ := hf
    unfold m__law_is_number at hf
    refine ⟨_, (pss_one (ps_ret (pe_and (pe_callB k_isi (by rfl) T.z_isinstance (by decide +kernel) (pa_cons (pv 0) (pa_cons (pe_bltn (v := .ty "int") (u := .type "int") (by rfl) T.z_int (by decide +kernel) rfl) pa_nil))) (pe_and (pe_not (pe_callB k_isi (by rfl) T.z_isinstance (by decide +kernel) (pa_cons (pv 0) (pa_cons (pe_bltn (v := .ty "bool") (u := .type "bool") (by rfl) T.z_bool (by decide +kernel) rfl) pa_nil)))) (pe_one (pe_cmpR op_ge (pv 0) pe_int (nomark _))))))), ?_⟩
    refine enter (Kn := Kn) (sl := [sv thing_521]) ek ⟨⟨v_0, rfl, hv_0⟩, trivial⟩ ?_
    have q := rt_of q
    obtain ⟨b_524, h_b_524, hf⟩ := bind_some hf
    cases hf
    exact sb_ret (ev_andO h_b_524 (ev_cb (ea_cons (ev_var (i := 0) rfl) (ea_cons (ev_ty "int") ea_nil)) (rc_isiD (by decide +kernel) (by decide +kernel) (by decide +kernel) (by decide +kernel) (by decide +kernel) (by decide +kernel))) (fun _ _ h => by obtain ⟨b_523, h_b_523, h⟩ := bind_some h; have hz_ := Option.some.inj h; subst hz_; exact (ev_andO h_b_523 (ev_notV (ev_cb (ea_cons (ev_var (i := 0) rfl) (ea_cons (ev_ty "bool") ea_nil)) (rc_isiD (by decide +kernel) (by decide +kernel) (by decide +kernel) (by decide +kernel) (by decide +kernel) (by decide +kernel)))) (fun _ _ h => by obtain ⟨o_522, h_o_522, h⟩ := bind_some h; have hz_ := Option.some.inj h; subst hz_; exact (ev_op (ev_of (ev_var (i := 0) rfl) h_o_522) (ev_int 0) r2_ge))))) q (List.Sublist.refl _)
theorem sc__law_is_paper : FnScope ["_law_paper", "_law_cuts_here", "_law_tops", "_law_k", "_law_pair", "_law_cut"] ["_law_paper", "_law_cuts_here"] (defScope s__law_is_paper) := ⟨rfl, rfl, rfl, by decide +kernel, rfl, by decide +kernel, by decide +kernel⟩
set_option maxHeartbeats 4000000 in
theorem ok__law_is_paper (T : TX K mg w) : FnOk P w K mg base CX0 2 T.a__law_is_paper T.d__law_is_paper ["_law_paper", "_law_cuts_here"] (PF (τ := Dy × (List (Int × Str × Unit)) × Unit) K (fun t => m__law_is_paper t.1 t.2.1)) := by
  refine T.F__law_is_paper.ok sc__law_is_paper (fun vs H Q E h => ?_) (fun cdv A outer s H vs Q E hr h => ?_)
  · obtain ⟨Kn, t, r, ek, h, hf, q⟩ := h
    exact Tp.len h
  · obtain ⟨Kn, t, r_, ek, h, hf, q⟩ := h
    obtain ⟨paper_525, cuts_here_526, u_⟩ := t
    obtain ⟨v_0, rr_, rfl, hv_0, h⟩ := h
    obtain ⟨v_1, rr_, rfl, hv_1, h⟩ := h
    obtain rfl := h
    replace hf : m__law_is_paper paper_525 cuts_here_526 = some r_ := hf
    unfold m__law_is_paper at hf
    refine ⟨_, (pss_cons (ps_if (PW.pt (pw_or (pt_not (pt_val (pe_callB k_isi (by rfl) T.z_isinstance (by decide +kernel) (pa_cons (pv 0) (pa_cons (pe_bltn (v := .ty "list") (u := .type "list") (by rfl) T.z_list (by decide +kernel) rfl) pa_nil))))) (pw_or1 (pt_cmpR op_ne (pe_callB k_len (by rfl) T.z_len PySem.boot_len (pa_cons (pv 0) pa_nil)) (pe_callB k_len (by rfl) T.z_len PySem.boot_len (pa_cons (pv 1) pa_nil)) (nomark _))))) (pss_one (ps_ret pe_bl)) pss_nil)
      (pss_cons (ps_set (i := 2) sc__law_is_paper.nd rfl (.inl rfl) (pe_op op_cat (pe_lst (pa_cons pe_int pa_nil)) (pe_lc (own := [("_law_cut", 5)]) (g := gName 5) (tt := tYes) (by rfl) sc__law_is_paper.nd (kpi_list (pe_slice k_sll (pv 1) po_none (po_some (pe_un un_neg pe_int)))) (blkOk_by (own := [("_law_cut", 5)]) (N := ["_law_paper", "_law_cuts_here", "_law_tops", "_law_k", "_law_pair", "_law_cut"]) (sc := defScope s__law_is_paper) (by decide +kernel)) (fun _ _ _ _ _ => (pg_name (i := 5) sc__law_is_paper.nd rfl (Or.inl rfl))) (fun _ _ _ _ _ => pts_nil) (fun _ _ _ _ _ => (pe_ix k_ixt (pv 5) pe_int (fun _ _ => rfl))))))
      (pss_cons (ps_for PassesOwn.never rfl (pi_enum (by rfl) T.z_enumerate (pa_cons (pv 0) pa_nil)) (kpg_tup (pgs_cons (pg_name (i := 3) sc__law_is_paper.nd rfl (.inl rfl)) (pgs_cons (pg_name (i := 4) sc__law_is_paper.nd rfl (.inl rfl)) pgs_nil))) (pss_cons (ps_if (PW.pt (pw_or (pt_not (pt_val (pe_callB k_isi (by rfl) T.z_isinstance (by decide +kernel) (pa_cons (pv 4) (pa_cons (pe_bltn (v := .ty "tuple") (u := .type "tuple") (by rfl) T.z_tuple (by decide +kernel) rfl) pa_nil))))) (pw_or (pt_cmpR op_ne (pe_callB k_len (by rfl) T.z_len PySem.boot_len (pa_cons (pv 4) pa_nil)) pe_int (nomark _)) (pw_or (pt_not (pt_val (pe_call (ok__law_is_number T) hr (by rfl) T.g__law_is_number T.F__law_is_number.kp T.b__law_is_number .nil pass0 (pa_cons (pe_ix k_ixt (pv 4) pe_int (fun _ _ => rfl)) pa_nil)))) (pw_or1 (pt_cmpR (k_neD hr.units) (pe_ix k_ixt (pv 4) pe_int (fun _ _ => rfl)) (pe_ix k_ixl (pv 2) (pv 3) (fun _ _ => rfl)) (nomark _))))))) (pss_one (ps_ret pe_bl)) pss_nil)
      (pss_one (ps_if (PW.pt (pw_and (pt_cmpR op_notN (pe_ix k_ixt (pv 4) pe_int (fun _ _ => rfl)) pe_non (nomark _)) (pw_and1 (pt_not (pt_val (pe_call (ok__law_is_number T) hr (by rfl) T.g__law_is_number T.F__law_is_number.kp T.b__law_is_number .nil pass0 (pa_cons (pe_ix k_ixt (pv 4) pe_int (fun _ _ => rfl)) pa_nil))))))) (pss_one (ps_ret pe_bl)) pss_nil))))
      (pss_one (ps_ret (pe_cmpR (k_eqD hr.units) (pe_ix k_ixt (pe_ix k_ixl (pv 0) pe_int (fun _ _ => rfl)) pe_int (fun _ _ => rfl)) pe_int (nomark _))))))), ?_⟩
    refine enter (Kn := Kn) (sl := [sv paper_525, sv cuts_here_526, .any, .any, .any, .any]) ek ⟨⟨v_0, rfl, hv_0⟩, ⟨v_1, rfl, hv_1⟩, trivial, trivial, trivial, trivial, trivial⟩ ?_
    have q := rt_of q
    obtain ⟨b_529, h_b_529, hf⟩ := bind_some hf
    refine SB.seqB (fun kx_531 => sb_if (b := b_529) (et_orO h_b_529 (et_not (et_B (ev_cb (ea_cons (ev_var (i := 0) rfl) (ea_cons (ev_ty "list") ea_nil)) (rc_isiD (by decide +kernel) (by decide +kernel) (by decide +kernel) (by decide +kernel) (by decide +kernel) (by decide +kernel))))) (fun _ _ h => by obtain ⟨o_528, h_o_528, h⟩ := bind_some h; have hz_ := Option.some.inj h; subst hz_; exact (et_test (ev_op (ev_cb (ea_cons (ev_of (ev_var (i := 0) rfl) h_o_528) ea_nil) rc_len) (ev_cb (ea_cons (ev_var (i := 1) rfl) ea_nil) rc_len) r2_neI)))) (fun hb_530 => ?_) (fun hb_530 => ?_))
    · have hf := ite_t hb_530 hf
      cases hf
      exact sb_ret (ev_bool false) q (List.Sublist.refl _)
    · have hf := ite_f hb_530 hf
      refine sb_nx ?_
      refine kx_531 _ _ ?_
      obtain ⟨zs_533, h_zs_533, hf⟩ := bind_some hf
      obtain ⟨cat_534, h_cat_534, hf⟩ := bind_some hf
      obtain ⟨tops_535, h_tops_535, hf⟩ := bind_some hf
      refine SB.seqB (fun kx_ => sb_asg (sl' := [sv paper_525, sv cuts_here_526, sv tops_535, .any, .any, .any]) rfl (EV.cast (EN.ev (en_op (EN.ev (en_lst (el_cons (ev_int 0) el_nil))) (EN.ev (en_lc (js := [5]) (fun x => [sv paper_525, sv cuts_here_526, .any, .any, .any, sv x]) h_zs_533 (it_list (EN.ev (en_sl (ev_var (i := 1) rfl) eo_none (eo_some (ev_un (ev_int 1) r1_neg))))) (anyAt_of (by rfl)) (fun x => (gt_name rfl)) (sub_of (by rfl)) (fun _ _ x b h => by cases h; exact et_yes) (fun _ _ x z _ h => by obtain ⟨cut_532, hx_⟩ : ∃ y, y = x := ⟨x, rfl⟩; subst hx_; have hz_ := Option.some.inj h; subst hz_; exact EV.is (sl' := [sv paper_525, sv cuts_here_526, .any, .any, .any, sv cut_532]) rfl (ev_op (ev_var (i := 5) rfl) (ev_int 0) (r2_tix (n := 0) (At.z _ _)))))) (r2_catO h_cat_534))) (Option.some.inj h_tops_535)) (kx_ _ _ ?_))
      obtain ⟨o_536, h_o_536, hf⟩ := bind_some hf
      obtain ⟨tot_543, h_tot_543, hf⟩ := bind_some hf
      refine SB.seqB (fun kx_567 => sb_for (β := (Int × Dy × Unit)) (Sx := Unit) (fun s => [sv paper_525, sv cuts_here_526, sv tops_535, .any, .any, .any]) (fun s => []) (fun x s => [sv paper_525, sv cuts_here_526, sv tops_535, sv x.1, sv x.2.1, .any]) [3, 4] (fun xs s => forC (m__law_is_paper_L1 tops_535) xs s = some tot_543) () (IT.m (it_enum (ea_cons (ev_of (ev_var (i := 0) rfl) h_o_536) ea_nil))) h_tot_543 (.keep (.keep (.keep (.keep (.keep (.keep .nil)))))) (List.Sublist.refl _) (fun x s => (gt_tup (gts_cons (gt_name rfl) (gts_cons (gt_name rfl) gts_nil)))) ?_ ?_)
      · intro Kn1 b1 x_ rest_ s_ hP_540 N_ hN_539
        obtain ⟨k_537, pair_538, _⟩ := x_
        obtain ⟨c_, hc_541, hP_540⟩ := bind_some hP_540
        have q_542 := q.base b1
        unfold m__law_is_paper_L1 at hc_541
        refine SB.is (sl' := [sv paper_525, sv cuts_here_526, sv tops_535, sv k_537, sv pair_538, .any]) (ow1 := []) rfl rfl ?_
        obtain ⟨b_555, h_b_555, hc_541⟩ := bind_some hc_541
        refine SB.seqB (fun kx_557 => sb_if (b := b_555) (et_orO h_b_555 (et_not (et_B (ev_cb (ea_cons (ev_var (i := 4) rfl) (ea_cons (ev_ty "tuple") ea_nil)) (rc_isiD (by decide +kernel) (by decide +kernel) (by decide +kernel) (by decide +kernel) (by decide +kernel) (by decide +kernel))))) (fun _ _ h => by obtain ⟨o_545, h_o_545, h⟩ := bind_some h; obtain ⟨b_554, h_b_554, h⟩ := bind_some h; have hz_ := Option.some.inj h; subst hz_; exact (et_orO h_b_554 (et_test (ev_op (ev_cb (ea_cons (ev_of (ev_var (i := 4) rfl) h_o_545) ea_nil) rc_lenT) (ev_int 2) r2_neI)) (fun _ _ h => by obtain ⟨o_546, h_o_546, h⟩ := bind_some h; obtain ⟨i_547, h_i_547, h⟩ := bind_some h; obtain ⟨r_548, h_r_548, h⟩ := bind_some h; obtain ⟨b_553, h_b_553, h⟩ := bind_some h; have hz_ := Option.some.inj h; subst hz_; exact (et_orO h_b_553 (et_not (et_B (ev_call (ea_cons (ev_op (ev_of (ev_var (i := 4) rfl) h_o_546) (ev_int 0) (r2_ixU h_i_547)) ea_nil) h_r_548))) (fun _ _ h => by obtain ⟨o_549, h_o_549, h⟩ := bind_some h; obtain ⟨i_550, h_i_550, h⟩ := bind_some h; obtain ⟨i_551, h_i_551, h⟩ := bind_some h; obtain ⟨e_552, h_e_552, h⟩ := bind_some h; have hz_ := Option.some.inj h; subst hz_; exact (et_test (ev_op (ev_op (ev_of (ev_var (i := 4) rfl) h_o_549) (ev_int 0) (r2_ixU h_i_550)) (ev_up (ev_op (ev_var (i := 2) rfl) (ev_var (i := 3) rfl) (r2_ixL h_i_551))) (r2_neY h_e_552))))))))) (fun hb_556 => ?_) (fun hb_556 => ?_))
        · have hc_541 := ite_t hb_556 hc_541
          cases hc_541
          replace hP_540 : some (Ctl.rt false) = some tot_543 := hP_540
          cases hP_540
          replace hf : some false = some r_ := hf
          cases hf
          exact sb_ret (ev_bool false) q_542 (List.Sublist.refl _)
        · have hc_541 := ite_f hb_556 hc_541
          refine sb_nx ?_
          refine kx_557 _ _ ?_
          obtain ⟨o_559, h_o_559, hc_541⟩ := bind_some hc_541
          obtain ⟨i_560, h_i_560, hc_541⟩ := bind_some hc_541
          obtain ⟨b_564, h_b_564, hc_541⟩ := bind_some hc_541
          refine sb_if (b := b_564) (et_andO h_b_564 (et_test (ev_op (ev_op (ev_of (ev_var (i := 4) rfl) h_o_559) (ev_int 1) (r2_ixU h_i_560)) ev_nn r2_notND)) (fun _ _ h => by obtain ⟨o_561, h_o_561, h⟩ := bind_some h; obtain ⟨i_562, h_i_562, h⟩ := bind_some h; obtain ⟨r_563, h_r_563, h⟩ := bind_some h; have hz_ := Option.some.inj h; subst hz_; exact (et_not (et_B (ev_call (ea_cons (ev_op (ev_of (ev_var (i := 4) rfl) h_o_561) (ev_int 1) (r2_ixU h_i_562)) ea_nil) h_r_563))))) (fun hb_565 => ?_) (fun hb_565 => ?_)
          · have hc_541 := ite_t hb_565 hc_541
            cases hc_541
            replace hP_540 : some (Ctl.rt false) = some tot_543 := hP_540
            cases hP_540
            replace hf : some false = some r_ := hf
            cases hf
            exact sb_ret (ev_bool false) q_542 (List.Sublist.refl _)
          · have hc_541 := ite_f hb_565 hc_541
            refine sb_nx ?_
            cases hc_541
            exact fun σ Kn H s => hN_539 _ hP_540 σ Kn H ((s.le (.keep (.keep (.keep (.drop (.drop (.keep .nil))))))).sub (List.Sublist.refl _))
      · intro s_ h0
        cases h0
        refine kx_567 _ _ ?_
        refine SB.is (sl' := [sv paper_525, sv cuts_here_526, sv tops_535, .any, .any, .any]) (ow1 := []) rfl rfl ?_
        obtain ⟨o_568, h_o_568, hf⟩ := bind_some hf
        obtain ⟨i_569, h_i_569, hf⟩ := bind_some hf
        obtain ⟨o_570, h_o_570, hf⟩ := bind_some hf
        obtain ⟨i_571, h_i_571, hf⟩ := bind_some hf
        obtain ⟨e_572, h_e_572, hf⟩ := bind_some hf
        cases hf
        exact sb_ret (ev_op (ev_op (ev_of (ev_op (ev_of (ev_var (i := 0) rfl) h_o_568) (ev_int 0) (r2_ixL h_i_569)) h_o_570) (ev_int 1) (r2_ixU h_i_571)) (ev_up (ev_int 0)) (r2_eqY h_e_572)) q (List.Sublist.refl _)
theorem sc__law_shows : FnScope ["_law_cuts_here", "_law_price", "_law_height", "_law_paper", "_law_cost_here", "_law_k", "_law_top", "_law_told", "_law_j", "_law_depth", "_law_within", "_law_least"] ["_law_cuts_here", "_law_price", "_law_height", "_law_paper", "_law_cost_here"] (defScope s__law_shows) := ⟨rfl, rfl, rfl, by decide +kernel, rfl, by decide +kernel, by decide +kernel⟩
set_option maxHeartbeats 4000000 in
theorem ok__law_shows (T : TX K mg w) : FnOk P w K mg base CX0 1 T.a__law_shows T.d__law_shows ["_law_cuts_here", "_law_price", "_law_height", "_law_paper", "_law_cost_here"] (PF (τ := (List (Int × Str × Unit)) × Int × Int × Dy × Int × Unit) K (fun t => m__law_shows t.1 t.2.1 t.2.2.1 t.2.2.2.1 t.2.2.2.2.1)) := by
  refine T.F__law_shows.ok sc__law_shows (fun vs H Q E h => ?_) (fun cdv A outer s H vs Q E hr h => ?_)
  · obtain ⟨Kn, t, r, ek, h, hf, q⟩ := h
    exact Tp.len h
  · obtain ⟨Kn, t, r_, ek, h, hf, q⟩ := h
    obtain ⟨cuts_here_573, price_574, height_575, paper_576, cost_here_577, u_⟩ := t
    obtain ⟨v_0, rr_, rfl, hv_0, h⟩ := h
    obtain ⟨v_1, rr_, rfl, hv_1, h⟩ := h
    obtain ⟨v_2, rr_, rfl, hv_2, h⟩ := h
    obtain ⟨v_3, rr_, rfl, hv_3, h⟩ := h
    obtain ⟨v_4, rr_, rfl, hv_4, h⟩ := h
    obtain rfl := h
    replace hf : m__law_shows cuts_here_573 price_574 height_575 paper_576 cost_here_577 = some r_ := hf
    unfold m__law_shows at hf
    refine ⟨_, (pss_cons (ps_for PassesOwn.never rfl (pi_enum (by rfl) T.z_enumerate (pa_cons (pv 3) pa_nil)) (kpg_tup (pgs_cons (pg_name (i := 5) sc__law_shows.nd rfl (.inl rfl)) (pgs_cons (kpg_tup (pgs_cons (pg_name (i := 6) sc__law_shows.nd rfl (.inl rfl)) (pgs_cons (pg_name (i := 7) sc__law_shows.nd rfl (.inl rfl)) pgs_nil))) pgs_nil))) (pss_cons (ps_if (pt_cmpR op_isN (pv 7) pe_non (nomark _)) (pss_one ps_continue) pss_nil)
      (pss_cons (ps_for PassesOwn.never rfl (pi_enum (by rfl) T.z_enumerate (pa_cons (pe_slice k_sll (pv 0) po_none (po_some (pe_un un_neg pe_int))) pa_nil)) (kpg_tup (pgs_cons (pg_name (i := 8) sc__law_shows.nd rfl (.inl rfl)) (pgs_cons (kpg_tup (pgs_cons (pg_name (i := 9) sc__law_shows.nd rfl (.inl rfl)) (pgs_cons (pg_name (i := 10) sc__law_shows.nd rfl (.inl rfl)) pgs_nil))) pgs_nil))) (pss_one (ps_if (pt_chain op_lt op_le (pv 6) (pv 9) (pe_op op_add (pv 6) (pv 2))) (pss_cons (ps_set (i := 11) sc__law_shows.nd rfl (.inl rfl) (pe_op op_add (pe_op op_add (pv 7) (pe_op op_pow (pe_op op_add (pe_op op_sub (pv 2) (pv 9)) (pv 6)) pe_int)) (pe_op op_mul (pv 1) (pe_callTy call_int1 (by rfl) T.z_int (by decide +kernel) (pa_cons (pe_cmpR op_ne (pv 10) pe_str (nomark _)) pa_nil)))))
      (pss_one (ps_if (PW.pt (pw_or (pt_cmpR op_isN (pe_ix k_ixt (pe_ix k_ixl (pv 3) (pe_op op_add (pv 8) pe_int) (fun _ _ => rfl)) pe_int (fun _ _ => rfl)) pe_non (nomark _)) (pw_or1 (pt_cmpR op_gt (pe_ix k_ixt (pe_ix k_ixl (pv 3) (pe_op op_add (pv 8) pe_int) (fun _ _ => rfl)) pe_int (fun _ _ => rfl)) (pv 11) (nomark _))))) (pss_one (ps_ret pe_bl)) pss_nil))) pss_nil)))
      (pss_one (ps_if (PW.pt (pw_and (pt_cmpR op_le (pe_ix k_ixt (pe_ix k_ixl (pv 0) (pe_un un_neg pe_int) (fun _ _ => rfl)) pe_int (fun _ _ => rfl)) (pe_op op_add (pv 6) (pv 2)) (nomark _)) (pw_and1 (pt_cmpR op_lt (pv 7) (pv 4) (nomark _))))) (pss_one (ps_ret pe_bl)) pss_nil)))))
      (pss_one (ps_ret pe_bl))), ?_⟩
    refine enter (Kn := Kn) (sl := [sv cuts_here_573, sv price_574, sv height_575, sv paper_576, sv cost_here_577, .any, .any, .any, .any, .any, .any, .any]) ek ⟨⟨v_0, rfl, hv_0⟩, ⟨v_1, rfl, hv_1⟩, ⟨v_2, rfl, hv_2⟩, ⟨v_3, rfl, hv_3⟩, ⟨v_4, rfl, hv_4⟩, trivial, trivial, trivial, trivial, trivial, trivial, trivial, trivial⟩ ?_
    have q := rt_of q
    obtain ⟨o_578, h_o_578, hf⟩ := bind_some hf
    obtain ⟨tot_586, h_tot_586, hf⟩ := bind_some hf
    refine SB.seqB (fun kx_621 => sb_for (β := (Int × (Int × Dy × Unit) × Unit)) (Sx := Unit) (fun s => [sv cuts_here_573, sv price_574, sv height_575, sv paper_576, sv cost_here_577, .any, .any, .any, .any, .any, .any, .any]) (fun s => []) (fun x s => [sv cuts_here_573, sv price_574, sv height_575, sv paper_576, sv cost_here_577, sv x.1, sv x.2.1.1, sv x.2.1.2.1, .any, .any, .any, .any]) [5, 6, 7] (fun xs s => forC (m__law_shows_L1 cuts_here_573 price_574 height_575 paper_576 cost_here_577) xs s = some tot_586) () (IT.m (it_enum (ea_cons (ev_of (ev_var (i := 3) rfl) h_o_578) ea_nil))) h_tot_586 (.keep (.keep (.keep (.keep (.keep (.keep (.keep (.keep (.keep (.keep (.keep (.keep .nil)))))))))))) (List.Sublist.refl _) (fun x s => (gt_tup (gts_cons (gt_name rfl) (gts_cons (gt_tup (gts_cons (gt_name rfl) (gts_cons (gt_name rfl) gts_nil))) gts_nil)))) ?_ ?_)
    · intro Kn1 b1 x_ rest_ s_ hP_583 N_ hN_582
      obtain ⟨k_579, ⟨top_580, told_581, _⟩, _⟩ := x_
      obtain ⟨c_, hc_584, hP_583⟩ := bind_some hP_583
      have q_585 := q.base b1
      unfold m__law_shows_L1 at hc_584
      refine SB.is (sl' := [sv cuts_here_573, sv price_574, sv height_575, sv paper_576, sv cost_here_577, sv k_579, sv top_580, sv told_581, .any, .any, .any, .any]) (ow1 := []) rfl rfl ?_
      refine SB.seqB (fun kx_589 => sb_if (b := (isNoD told_581)) (et_test (ev_op (ev_var (i := 7) rfl) ev_nn r2_isND)) (fun hb_588 => ?_) (fun hb_588 => ?_))
      · have hc_584 := ite_t hb_588 hc_584
        refine sb_ct ?_
        cases hc_584
        exact fun σ Kn H s => hN_582 _ hP_583 σ Kn H ((s.le (.keep (.keep (.keep (.keep (.keep (.drop (.drop (.drop (.keep (.keep (.keep (.keep .nil))))))))))))).sub (List.Sublist.refl _))
      · have hc_584 := ite_f hb_588 hc_584
        refine sb_nx ?_
        refine kx_589 _ _ ?_
        obtain ⟨tot_597, h_tot_597, hc_584⟩ := bind_some hc_584
        refine SB.seqB (fun kx_614 => sb_for (β := (Int × (Int × Str × Unit) × Unit)) (Sx := Unit) (fun s => [sv cuts_here_573, sv price_574, sv height_575, sv paper_576, sv cost_here_577, sv k_579, sv top_580, sv told_581, .any, .any, .any, .any]) (fun s => []) (fun x s => [sv cuts_here_573, sv price_574, sv height_575, sv paper_576, sv cost_here_577, sv k_579, sv top_580, sv told_581, sv x.1, sv x.2.1.1, sv x.2.1.2.1, .any]) [8, 9, 10] (fun xs s => forC (m__law_shows_L2 price_574 height_575 paper_576 top_580 told_581) xs s = some tot_597) () (IT.m (it_enum (ea_cons (EN.ev (en_sl (ev_var (i := 0) rfl) eo_none (eo_some (ev_un (ev_int 1) r1_neg)))) ea_nil))) h_tot_597 (.keep (.keep (.keep (.keep (.keep (.keep (.keep (.keep (.keep (.keep (.keep (.keep .nil)))))))))))) (List.Sublist.refl _) (fun x s => (gt_tup (gts_cons (gt_name rfl) (gts_cons (gt_tup (gts_cons (gt_name rfl) (gts_cons (gt_name rfl) gts_nil))) gts_nil)))) ?_ ?_)
        · intro Kn1 b1 x_ rest_ s_ hP_594 N_ hN_593
          obtain ⟨j_590, ⟨depth_591, within_592, _⟩, _⟩ := x_
          obtain ⟨c_, hc_595, hP_594⟩ := bind_some hP_594
          have q_596 := q_585.base b1
          unfold m__law_shows_L2 at hc_595
          refine SB.is (sl' := [sv cuts_here_573, sv price_574, sv height_575, sv paper_576, sv cost_here_577, sv k_579, sv top_580, sv told_581, sv j_590, sv depth_591, sv within_592, .any]) (ow1 := []) rfl rfl ?_
          refine sb_if (b := ((decide (top_580 < depth_591)) && (decide (depth_591 ≤ (top_580 + height_575))))) (et_test (ev_chain (ev_var (i := 6) rfl) (ev_var (i := 9) rfl) r2_lt (ev_op (ev_var (i := 6) rfl) (ev_var (i := 2) rfl) r2_add) r2_le)) (fun hb_599 => ?_) (fun hb_599 => ?_)
          · have hc_595 := ite_t hb_599 hc_595
            obtain ⟨w_601, h_w_601, hc_595⟩ := bind_some hc_595
            obtain ⟨o_602, h_o_602, hc_595⟩ := bind_some hc_595
            obtain ⟨m_603, h_m_603, hc_595⟩ := bind_some hc_595
            obtain ⟨least_604, h_least_604, hc_595⟩ := bind_some hc_595
            refine SB.seqB (fun kx_ => sb_asg (sl' := [sv cuts_here_573, sv price_574, sv height_575, sv paper_576, sv cost_here_577, sv k_579, sv top_580, sv told_581, sv j_590, sv depth_591, sv within_592, sv least_604]) rfl (EV.cast (ev_op (ev_op (ev_of (ev_var (i := 7) rfl) h_o_602) (ev_op (ev_op (ev_op (ev_var (i := 2) rfl) (ev_var (i := 9) rfl) r2_sub) (ev_var (i := 6) rfl) r2_add) (ev_int 2) (r2_powO h_w_601)) r2_add) (ev_op (ev_var (i := 1) rfl) (ev_cb (ea_cons (ev_op (ev_var (i := 10) rfl) (ev_str ("" : Str)) r2_neS) ea_nil) rc_intB) (r2_mulO h_m_603)) r2_add) (Option.some.inj h_least_604)) (kx_ _ _ ?_))
            obtain ⟨o_606, h_o_606, hc_595⟩ := bind_some hc_595
            obtain ⟨i_607, h_i_607, hc_595⟩ := bind_some hc_595
            obtain ⟨b_611, h_b_611, hc_595⟩ := bind_some hc_595
            refine sb_if (b := b_611) (et_orO h_b_611 (et_test (ev_op (ev_op (ev_op (ev_of (ev_var (i := 3) rfl) h_o_606) (ev_op (ev_var (i := 8) rfl) (ev_int 1) r2_add) (r2_ixL h_i_607)) (ev_int 1) (r2_tix (n := 1) (At.s _ (At.z _ _)))) ev_nn r2_isND)) (fun _ _ h => by obtain ⟨o_608, h_o_608, h⟩ := bind_some h; obtain ⟨i_609, h_i_609, h⟩ := bind_some h; obtain ⟨o_610, h_o_610, h⟩ := bind_some h; have hz_ := Option.some.inj h; subst hz_; exact (et_test (ev_op (ev_of (ev_op (ev_op (ev_of (ev_var (i := 3) rfl) h_o_608) (ev_op (ev_var (i := 8) rfl) (ev_int 1) r2_add) (r2_ixL h_i_609)) (ev_int 1) (r2_tix (n := 1) (At.s _ (At.z _ _)))) h_o_610) (ev_var (i := 11) rfl) r2_gt)))) (fun hb_612 => ?_) (fun hb_612 => ?_)
            · have hc_595 := ite_t hb_612 hc_595
              cases hc_595
              replace hP_594 : some (Ctl.rt false) = some tot_597 := hP_594
              cases hP_594
              cases hc_584
              replace hP_583 : some (Ctl.rt false) = some tot_586 := hP_583
              cases hP_583
              replace hf : some false = some r_ := hf
              cases hf
              exact sb_ret (ev_bool false) q_596 (List.Sublist.refl _)
            · have hc_595 := ite_f hb_612 hc_595
              refine sb_nx ?_
              cases hc_595
              exact fun σ Kn H s => hN_593 _ hP_594 σ Kn H ((s.le (.keep (.keep (.keep (.keep (.keep (.keep (.keep (.keep (.drop (.drop (.drop (.drop .nil))))))))))))).sub (List.Sublist.refl _))
          · have hc_595 := ite_f hb_599 hc_595
            refine sb_nx ?_
            cases hc_595
            exact fun σ Kn H s => hN_593 _ hP_594 σ Kn H ((s.le (.keep (.keep (.keep (.keep (.keep (.keep (.keep (.keep (.drop (.drop (.drop (.keep .nil))))))))))))).sub (List.Sublist.refl _))
        · intro s_ h0
          cases h0
          refine kx_614 _ _ ?_
          refine SB.is (sl' := [sv cuts_here_573, sv price_574, sv height_575, sv paper_576, sv cost_here_577, sv k_579, sv top_580, sv told_581, .any, .any, .any, .any]) (ow1 := []) rfl rfl ?_
          obtain ⟨i_616, h_i_616, hc_584⟩ := bind_some hc_584
          obtain ⟨b_618, h_b_618, hc_584⟩ := bind_some hc_584
          refine sb_if (b := b_618) (et_andO h_b_618 (et_test (ev_op (ev_op (ev_op (ev_var (i := 0) rfl) (ev_un (ev_int 1) r1_neg) (r2_ixL h_i_616)) (ev_int 0) (r2_tix (n := 0) (At.z _ _))) (ev_op (ev_var (i := 6) rfl) (ev_var (i := 2) rfl) r2_add) r2_le)) (fun _ _ h => by obtain ⟨o_617, h_o_617, h⟩ := bind_some h; have hz_ := Option.some.inj h; subst hz_; exact (et_test (ev_op (ev_of (ev_var (i := 7) rfl) h_o_617) (ev_var (i := 4) rfl) r2_lt)))) (fun hb_619 => ?_) (fun hb_619 => ?_)
          · have hc_584 := ite_t hb_619 hc_584
            cases hc_584
            replace hP_583 : some (Ctl.rt false) = some tot_586 := hP_583
            cases hP_583
            replace hf : some false = some r_ := hf
            cases hf
            exact sb_ret (ev_bool false) q_585 (List.Sublist.refl _)
          · have hc_584 := ite_f hb_619 hc_584
            refine sb_nx ?_
            cases hc_584
            exact fun σ Kn H s => hN_582 _ hP_583 σ Kn H ((s.le (.keep (.keep (.keep (.keep (.keep (.drop (.drop (.drop (.keep (.keep (.keep (.keep .nil))))))))))))).sub (List.Sublist.refl _))
    · intro s_ h0
      cases h0
      refine kx_621 _ _ ?_
      refine SB.is (sl' := [sv cuts_here_573, sv price_574, sv height_575, sv paper_576, sv cost_here_577, .any, .any, .any, .any, .any, .any, .any]) (ow1 := []) rfl rfl ?_
      cases hf
      exact sb_ret (ev_bool true) q (List.Sublist.refl _)
theorem sc__law_another : FnScope ["_law_cuts_here", "_law_price", "_law_height", "_law_depths", "_law_paper", "_law_least", "_law_within", "_law_depth", "_law_cost_here", "_law_found", "_law_tops", "_law_top", "_law_told", "_law_more"] ["_law_cuts_here", "_law_price", "_law_height", "_law_depths", "_law_paper"] (defScope s__law_another) := ⟨rfl, rfl, rfl, by decide +kernel, rfl, by decide +kernel, by decide +kernel⟩
set_option maxHeartbeats 4000000 in
theorem ok__law_another (T : TX K mg w) : FnOk P w K mg base CX0 2 T.a__law_another T.d__law_another ["_law_cuts_here", "_law_price", "_law_height", "_law_depths", "_law_paper"] (PL (τ := (List (Int × Str × Unit)) × Int × Int × (List Int) × (List (Int × (Option Int) × Unit)) × Unit) K (fun t => m__law_another t.1 t.2.1 t.2.2.1 t.2.2.2.1 t.2.2.2.2.1)) := by
  refine T.F__law_another.ok sc__law_another (fun vs H Q E h => ?_) (fun cdv A outer s H vs Q E hr h => ?_)
  · obtain ⟨Kn, t, r, ek, h, hf, q⟩ := h
    exact Tp.len h
  · obtain ⟨Kn, t, r_, ek, h, hf, q⟩ := h
    obtain ⟨cuts_here_622, price_623, height_624, depths_625, paper_626, u_⟩ := t
    obtain ⟨v_0, rr_, rfl, hv_0, h⟩ := h
    obtain ⟨v_1, rr_, rfl, hv_1, h⟩ := h
    obtain ⟨v_2, rr_, rfl, hv_2, h⟩ := h
    obtain ⟨v_3, rr_, rfl, hv_3, h⟩ := h
    obtain ⟨v_4, rr_, rfl, hv_4, h⟩ := h
    obtain rfl := h
    replace hf : m__law_another cuts_here_622 price_623 height_624 depths_625 paper_626 = some r_ := hf
    unfold m__law_another at hf
    refine ⟨_, (pss_cons (ps_set (i := 5) sc__law_another.nd rfl (.inl rfl) (pe_callTy k_dictP (by rfl) T.z_dict (by decide +kernel) (pa_cons (pv 4) pa_nil)))
      (pss_cons (ps_set (i := 6) sc__law_another.nd rfl (.inl rfl) (pe_callTy k_dictP (by rfl) T.z_dict (by decide +kernel) (pa_cons (pv 0) pa_nil)))
      (pss_cons (ps_set (i := 7) sc__law_another.nd rfl (.inl rfl) (pe_ix k_ixt (pe_ix k_ixl (pv 0) (pe_un un_neg pe_int) (fun _ _ => rfl)) pe_int (fun _ _ => rfl)))
      (pss_cons (ps_set (i := 8) sc__law_another.nd rfl (.inl rfl) (pe_call (ok__law_cost T) hr (by rfl) T.g__law_cost T.F__law_cost.kp T.b__law_cost .nil pass0 (pa_cons (pv 0) (pa_cons (pv 1) (pa_cons (pv 2) (pa_cons (pv 3) pa_nil))))))
      (pss_cons (ps_set (i := 9) sc__law_another.nd rfl (.inl rfl) (pe_lst (pa_cons (pv 7) pa_nil)))
      (pss_one (ps_while PassesOwn.never (pt_val pe_bl) (pss_cons (ps_set (i := 10) sc__law_another.nd rfl (.inl rfl) (pe_lst pa_nil))
      (pss_cons (ps_for PassesOwn.never rfl (kpi_list (pv 4)) (kpg_tup (pgs_cons (pg_name (i := 11) sc__law_another.nd rfl (.inl rfl)) (pgs_cons (pg_name (i := 12) sc__law_another.nd rfl (.inl rfl)) pgs_nil))) (pss_cons (ps_set (i := 13) sc__law_another.nd rfl (.inl rfl) pe_int)
      (Evl.pss_cut (ps_if (pt_cmpR op_ne (pv 7) (pe_ix k_ixt (pe_ix k_ixl (pv 0) (pe_un un_neg pe_int) (fun _ _ => rfl)) pe_int (fun _ _ => rfl)) (nomark _)) (pss_one (ps_set (i := 13) sc__law_another.nd rfl (.inl rfl) (pe_op op_add (pe_op op_pow (pe_op op_add (pe_op op_sub (pv 2) (pv 7)) (pv 11)) pe_int) (pe_op op_mul (pv 1) (pe_callTy call_int1 (by rfl) T.z_int (by decide +kernel) (pa_cons (pe_cmpR op_ne (k_dget hr.units (pv 6) (pv 7) (fun _ _ => rfl)) pe_str (nomark _)) pa_nil)))))) pss_nil)
      (pss_one (ps_if (PW.pt (pw_and (pt_cmpR op_notN (pv 12) pe_non (nomark _)) (pw_and (pt_chain op_le op_lt (pe_op op_sub (pv 7) (pv 2)) (pv 11) (pv 7)) (pw_and1 (pt_cmpR op_eq (pe_op op_add (pv 12) (pv 13)) (pv 8) (nomark _)))))) (pss_one (ps_expr (pe_bm PySem.F.plainAttrs_list PySem.F.slot_list_append PySem.F.type_list_append mt_append (pv 10) (pa_cons (pv 11) pa_nil)))) pss_nil)))))
      (pss_cons (ps_set (i := 7) sc__law_another.nd rfl (.inl rfl) (pe_callB k_maxL (by rfl) T.z_max (by decide +kernel) (pa_cons (pv 10) pa_nil)))
      (pss_cons (ps_if (pt_cmpR op_eq (pv 7) pe_int (nomark _)) (pss_one (ps_ret (k_revL (pv 9)))) pss_nil)
      (pss_cons (ps_expr (pe_bm PySem.F.plainAttrs_list PySem.F.slot_list_append PySem.F.type_list_append mt_append (pv 9) (pa_cons (pv 7) pa_nil)))
      (pss_one (ps_set (i := 8) sc__law_another.nd rfl (.inl rfl) (k_dget hr.units (pv 5) (pv 7) (fun _ _ => rfl)))))))))))))))), ?_⟩
    refine enter (Kn := Kn) (sl := [sv cuts_here_622, sv price_623, sv height_624, sv depths_625, sv paper_626, .any, .any, .any, .any, .any, .any, .any, .any, .any]) ek ⟨⟨v_0, rfl, hv_0⟩, ⟨v_1, rfl, hv_1⟩, ⟨v_2, rfl, hv_2⟩, ⟨v_3, rfl, hv_3⟩, ⟨v_4, rfl, hv_4⟩, trivial, trivial, trivial, trivial, trivial, trivial, trivial, trivial, trivial, trivial⟩ ?_
    have q := rn_of q
    obtain ⟨least_627, h_least_627, hf⟩ := bind_some hf
    refine SB.seqB (fun kx_ => sb_asg (sl' := [sv cuts_here_622, sv price_623, sv height_624, sv depths_625, sv paper_626, sv least_627, .any, .any, .any, .any, .any, .any, .any, .any]) rfl (EV.cast (EG.ev (eg_dictP (ev_var (i := 4) rfl))) (Option.some.inj h_least_627)) (kx_ _ _ ?_))
    obtain ⟨within_628, h_within_628, hf⟩ := bind_some hf
    refine SB.seqB (fun kx_ => sb_asg (sl' := [sv cuts_here_622, sv price_623, sv height_624, sv depths_625, sv paper_626, sv least_627, sv within_628, .any, .any, .any, .any, .any, .any, .any]) rfl (EV.cast (EG.ev (eg_dictP (ev_var (i := 0) rfl))) (Option.some.inj h_within_628)) (kx_ _ _ ?_))
    obtain ⟨i_629, h_i_629, hf⟩ := bind_some hf
    obtain ⟨depth_630, h_depth_630, hf⟩ := bind_some hf
    refine SB.seqB (fun kx_ => sb_asg (sl' := [sv cuts_here_622, sv price_623, sv height_624, sv depths_625, sv paper_626, sv least_627, sv within_628, sv depth_630, .any, .any, .any, .any, .any, .any]) rfl (EV.cast (ev_op (ev_op (ev_var (i := 0) rfl) (ev_un (ev_int 1) r1_neg) (r2_ixL h_i_629)) (ev_int 0) (r2_tix (n := 0) (At.z _ _))) (Option.some.inj h_depth_630)) (kx_ _ _ ?_))
    obtain ⟨r_631, h_r_631, hf⟩ := bind_some hf
    obtain ⟨cost_here_632, h_cost_here_632, hf⟩ := bind_some hf
    refine SB.seqB (fun kx_ => sb_asg (sl' := [sv cuts_here_622, sv price_623, sv height_624, sv depths_625, sv paper_626, sv least_627, sv within_628, sv depth_630, sv cost_here_632, .any, .any, .any, .any, .any]) rfl (EV.cast (ev_call (ea_cons (ev_var (i := 0) rfl) (ea_cons (ev_var (i := 1) rfl) (ea_cons (ev_var (i := 2) rfl) (ea_cons (ev_up (ev_var (i := 3) rfl)) ea_nil)))) h_r_631) (Option.some.inj h_cost_here_632)) (kx_ _ _ ?_))
    obtain ⟨found_633, h_found_633, hf⟩ := bind_some hf
    refine SB.seqB (fun kx_ => sb_asgO (sl' := fun p_found_633 => [sv cuts_here_622, sv price_623, sv height_624, sv depths_625, sv paper_626, sv least_627, sv within_628, sv depth_630, sv cost_here_632, .at p_found_633, .any, .any, .any, .any]) (fun _ => rfl) (EN.cast (en_lst (el_cons (ev_var (i := 7) rfl) el_nil)) (Option.some.inj h_found_633)) (fun p_found_633 => (kx_ _ _ ?_)))
    obtain ⟨tot_641, h_tot_641, hf⟩ := bind_some hf
    obtain ⟨n0_, h_tot_641⟩ := whileCF_some h_tot_641
    refine sb_while (Sx := Int × (Option Int) × (List Int)) (fun s => [sv cuts_here_622, sv price_623, sv height_624, sv depths_625, sv paper_626, sv least_627, sv within_628, sv s.1, sv s.2.1, .at p_found_633, .any, .any, .any, .any]) (fun s => [ol p_found_633 s.2.2]) (fun n s => whileC (m__law_another_L1_c cuts_here_622 price_623 height_624 paper_626 least_627 within_628) (m__law_another_L1 cuts_here_622 price_623 height_624 paper_626 least_627 within_628) n s = some tot_641) n0_ (depth_630, cost_here_632, found_633) h_tot_641 (.keep (.keep (.keep (.keep (.keep (.keep (.keep (.keep (.keep (.keep (.keep (.keep (.keep (.keep .nil)))))))))))))) (List.Sublist.refl _) ?_
    intro n_ s_ hP_638
    obtain ⟨depth_634, cost_here_635, found_636⟩ := s_
    cases n_ with
    | zero => cases hP_638
    | succ n_ =>
      obtain ⟨b_, ht_, hP_638⟩ := bind_some hP_638
      unfold m__law_another_L1_c at ht_
      cases ht_
      refine ⟨_, ET.is (sl' := [sv cuts_here_622, sv price_623, sv height_624, sv depths_625, sv paper_626, sv least_627, sv within_628, sv depth_634, sv cost_here_635, .at p_found_633, .any, .any, .any, .any]) rfl (et_B (ev_bool true)), fun hb_640 N_ hN_637 => ?_, fun hb_640 => ?_⟩
      · have hP_638 := ite_t hb_640 hP_638
        obtain ⟨c_, hc_639, hP_638⟩ := bind_some hP_638
        unfold m__law_another_L1 at hc_639
        refine SB.is (sl' := [sv cuts_here_622, sv price_623, sv height_624, sv depths_625, sv paper_626, sv least_627, sv within_628, sv depth_634, sv cost_here_635, .at p_found_633, .any, .any, .any, .any]) (ow1 := [ol p_found_633 found_636]) rfl rfl ?_
        obtain ⟨tops_642, h_tops_642, hc_639⟩ := bind_some hc_639
        refine SB.seqB (fun kx_ => sb_asgO (sl' := fun p_tops_642 => [sv cuts_here_622, sv price_623, sv height_624, sv depths_625, sv paper_626, sv least_627, sv within_628, sv depth_634, sv cost_here_635, .at p_found_633, .at p_tops_642, .any, .any, .any]) (fun _ => rfl) (EN.cast (en_lst el_nil) (Option.some.inj h_tops_642)) (fun p_tops_642 => (kx_ _ _ ?_)))
        obtain ⟨tops_669, h_tot_650, hc_639⟩ := bind_some hc_639
        refine SB.seqB (fun kx_670 => sb_for (β := (Int × (Option Int) × Unit)) (Sx := (List Int)) (fun s => [sv cuts_here_622, sv price_623, sv height_624, sv depths_625, sv paper_626, sv least_627, sv within_628, sv depth_634, sv cost_here_635, .at p_found_633, .at p_tops_642, .any, .any, .any]) (fun s => [ol p_tops_642 s, ol p_found_633 found_636]) (fun x s => [sv cuts_here_622, sv price_623, sv height_624, sv depths_625, sv paper_626, sv least_627, sv within_628, sv depth_634, sv cost_here_635, .at p_found_633, .at p_tops_642, sv x.1, sv x.2.1, .any]) [11, 12] (fun xs s => forS (m__law_another_L2 cuts_here_622 price_623 height_624 within_628 depth_634 cost_here_635) xs s = some tops_669) tops_642 (IT.m (it_list (ev_var (i := 4) rfl))) h_tot_650 (.keep (.keep (.keep (.keep (.keep (.keep (.keep (.keep (.keep (.keep (.keep (.keep (.keep (.keep .nil)))))))))))))) (List.Sublist.refl _) (fun x s => (gt_tup (gts_cons (gt_name rfl) (gts_cons (gt_name rfl) gts_nil)))) ?_ ?_)
        · intro Kn1 b1 x_ rest_ tops_643 hP_647 N_ hN_646
          obtain ⟨top_644, told_645, _⟩ := x_
          obtain ⟨c_, hc_648, hP_647⟩ := bind_some hP_647
          have q_649 := q.base b1
          unfold m__law_another_L2 at hc_648
          refine SB.is (sl' := [sv cuts_here_622, sv price_623, sv height_624, sv depths_625, sv paper_626, sv least_627, sv within_628, sv depth_634, sv cost_here_635, .at p_found_633, .at p_tops_642, sv top_644, sv told_645, .any]) (ow1 := [ol p_tops_642 tops_643, ol p_found_633 found_636]) rfl rfl ?_
          obtain ⟨more_651, h_more_651, hc_648⟩ := bind_some hc_648
          refine SB.seqB (fun kx_ => sb_asg (sl' := [sv cuts_here_622, sv price_623, sv height_624, sv depths_625, sv paper_626, sv least_627, sv within_628, sv depth_634, sv cost_here_635, .at p_found_633, .at p_tops_642, sv top_644, sv told_645, sv more_651]) rfl (EV.cast (ev_int 0) (Option.some.inj h_more_651)) (kx_ _ _ ?_))
          obtain ⟨i_653, h_i_653, hc_648⟩ := bind_some hc_648
          obtain ⟨more_659, hj_652, hc_648⟩ := bind_some hc_648
          refine SB.cutB (sl' := [sv cuts_here_622, sv price_623, sv height_624, sv depths_625, sv paper_626, sv least_627, sv within_628, sv depth_634, sv cost_here_635, .at p_found_633, .at p_tops_642, sv top_644, sv told_645, sv more_659]) (ow1 := [ol p_tops_642 tops_643, ol p_found_633 found_636]) (fun km_660 => sb_if (b := (!decide (depth_634 = i_653.1))) (et_test (ev_op (ev_var (i := 7) rfl) (ev_op (ev_op (ev_var (i := 0) rfl) (ev_un (ev_int 1) r1_neg) (r2_ixL h_i_653)) (ev_int 0) (r2_tix (n := 0) (At.z _ _))) r2_neI)) (fun hb_654 => ?_) (fun hb_654 => ?_)) ?_
          · have hj_652 := ite_t hb_654 hj_652
            obtain ⟨w_655, h_w_655, hj_652⟩ := bind_some hj_652
            obtain ⟨i_656, h_i_656, hj_652⟩ := bind_some hj_652
            obtain ⟨m_657, h_m_657, hj_652⟩ := bind_some hj_652
            obtain ⟨more_658, h_more_658, hj_652⟩ := bind_some hj_652
            refine sb_asg (sl' := [sv cuts_here_622, sv price_623, sv height_624, sv depths_625, sv paper_626, sv least_627, sv within_628, sv depth_634, sv cost_here_635, .at p_found_633, .at p_tops_642, sv top_644, sv told_645, sv more_658]) rfl (EV.cast (ev_op (ev_op (ev_op (ev_op (ev_var (i := 2) rfl) (ev_var (i := 7) rfl) r2_sub) (ev_var (i := 11) rfl) r2_add) (ev_int 2) (r2_powO h_w_655)) (ev_op (ev_var (i := 1) rfl) (ev_cb (ea_cons (ev_op (ev_dget (ev_var (i := 6) rfl) (ev_var (i := 7) rfl) h_i_656) (ev_str ("" : Str)) r2_neS) ea_nil) rc_intB) (r2_mulO h_m_657)) r2_add) (Option.some.inj h_more_658)) ?_
            cases hj_652
            exact km_660 _ _ (.keep (.keep (.keep (.keep (.keep (.keep (.keep (.keep (.keep (.keep (.keep (.keep (.keep (.keep .nil)))))))))))))) (List.Sublist.refl _)
          · have hj_652 := ite_f hb_654 hj_652
            refine sb_nx ?_
            cases hj_652
            exact km_660 _ _ (.keep (.keep (.keep (.keep (.keep (.keep (.keep (.keep (.keep (.keep (.keep (.keep (.keep (.keep .nil)))))))))))))) (List.Sublist.refl _)
          obtain ⟨b_665, h_b_665, hc_648⟩ := bind_some hc_648
          refine sb_if (b := b_665) (et_andO h_b_665 (et_test (ev_op (ev_var (i := 12) rfl) ev_nn r2_notN)) (fun _ _ h => by obtain ⟨b_664, h_b_664, h⟩ := bind_some h; have hz_ := Option.some.inj h; subst hz_; exact (et_andO h_b_664 (et_test (ev_chain (ev_op (ev_var (i := 7) rfl) (ev_var (i := 2) rfl) r2_sub) (ev_var (i := 11) rfl) r2_le (ev_var (i := 7) rfl) r2_lt)) (fun _ _ h => by obtain ⟨s_662, h_s_662, h⟩ := bind_some h; obtain ⟨s_663, h_s_663, h⟩ := bind_some h; have hz_ := Option.some.inj h; subst hz_; exact (et_test (ev_op (ev_op (ev_unopt (ev_var (i := 12) rfl) h_s_662) (ev_var (i := 13) rfl) r2_add) (ev_unopt (ev_var (i := 8) rfl) h_s_663) r2_eqI)))))) (fun hb_666 => ?_) (fun hb_666 => ?_)
          · have hc_648 := ite_t hb_666 hc_648
            obtain ⟨tops_668, h_tops_668, hc_648⟩ := bind_some hc_648
            refine sb_appO (i := 10) (j := 0) rfl rfl (ev_var (i := 11) rfl) h_tops_668 (ow1 := [ol p_tops_642 tops_668, ol p_found_633 found_636]) rfl ?_
            cases hc_648
            exact fun σ Kn H s => hN_646 _ hP_647 σ Kn H ((s.le (.keep (.keep (.keep (.keep (.keep (.keep (.keep (.keep (.keep (.keep (.keep (.drop (.drop (.drop .nil))))))))))))))).sub (List.Sublist.refl _))
          · have hc_648 := ite_f hb_666 hc_648
            refine sb_nx ?_
            cases hc_648
            exact fun σ Kn H s => hN_646 _ hP_647 σ Kn H ((s.le (.keep (.keep (.keep (.keep (.keep (.keep (.keep (.keep (.keep (.keep (.keep (.drop (.drop (.drop .nil))))))))))))))).sub (List.Sublist.refl _))
        · intro s_ h0
          cases h0
          refine kx_670 _ _ ?_
          refine SB.is (sl' := [sv cuts_here_622, sv price_623, sv height_624, sv depths_625, sv paper_626, sv least_627, sv within_628, sv depth_634, sv cost_here_635, .at p_found_633, .at p_tops_642, .any, .any, .any]) (ow1 := [ol p_tops_642 tops_669, ol p_found_633 found_636]) rfl rfl ?_
          refine sb_freeze (i := 10) (j := 0) (sl' := [sv cuts_here_622, sv price_623, sv height_624, sv depths_625, sv paper_626, sv least_627, sv within_628, sv depth_634, sv cost_here_635, .at p_found_633, sv tops_669, .any, .any, .any]) (ow1 := [ol p_found_633 found_636]) rfl rfl rfl rfl ?_
          obtain ⟨max_671, h_max_671, hc_639⟩ := bind_some hc_639
          obtain ⟨depth_672, h_depth_672, hc_639⟩ := bind_some hc_639
          refine SB.seqB (fun kx_ => sb_asg (sl' := [sv cuts_here_622, sv price_623, sv height_624, sv depths_625, sv paper_626, sv least_627, sv within_628, sv depth_672, sv cost_here_635, .at p_found_633, sv tops_669, .any, .any, .any]) rfl (EV.cast (ev_cb (ea_cons (ev_var (i := 10) rfl) ea_nil) (rc_maxL h_max_671)) (Option.some.inj h_depth_672)) (kx_ _ _ ?_))
          refine SB.seqB (fun kx_675 => sb_if (b := (decide (depth_672 = (0 : Int)))) (et_test (ev_op (ev_var (i := 7) rfl) (ev_int 0) r2_eqI)) (fun hb_674 => ?_) (fun hb_674 => ?_))
          · have hc_639 := ite_t hb_674 hc_639
            refine sb_freeze (i := 9) (j := 0) (sl' := [sv cuts_here_622, sv price_623, sv height_624, sv depths_625, sv paper_626, sv least_627, sv within_628, sv depth_672, sv cost_here_635, sv found_636, sv tops_669, .any, .any, .any]) (ow1 := []) rfl rfl rfl rfl ?_
            cases hc_639
            replace hP_638 : some (Ctl.rt (found_636.reverse)) = some tot_641 := hP_638
            cases hP_638
            replace hf : some (found_636.reverse) = some r_ := hf
            cases hf
            exact sb_retL (en_rev (ev_var (i := 9) rfl)) q (List.Sublist.refl _)
          · have hc_639 := ite_f hb_674 hc_639
            refine sb_nx ?_
            refine kx_675 _ _ ?_
            obtain ⟨found_676, h_found_676, hc_639⟩ := bind_some hc_639
            refine SB.seqB (fun kx_ => sb_appO (i := 9) (j := 0) rfl rfl (ev_var (i := 7) rfl) h_found_676 (ow1 := [ol p_found_633 found_676]) rfl (kx_ _ _ ?_))
            obtain ⟨i_677, h_i_677, hc_639⟩ := bind_some hc_639
            obtain ⟨cost_here_678, h_cost_here_678, hc_639⟩ := bind_some hc_639
            refine sb_asg (sl' := [sv cuts_here_622, sv price_623, sv height_624, sv depths_625, sv paper_626, sv least_627, sv within_628, sv depth_672, sv cost_here_678, .at p_found_633, sv tops_669, .any, .any, .any]) rfl (EV.cast (ev_dget (ev_var (i := 5) rfl) (ev_var (i := 7) rfl) h_i_677) (Option.some.inj h_cost_here_678)) ?_
            cases hc_639
            exact fun σ Kn H s => hN_637 _ _ (Nat.lt_succ_self _) hP_638 σ Kn H ((s.le (.keep (.keep (.keep (.keep (.keep (.keep (.keep (.keep (.keep (.keep (.drop (.keep (.keep (.keep .nil))))))))))))))).sub (List.Sublist.refl _))
      · cases hb_640
theorem sc__law_other_depths : FnScope ["_law_depths", "_law_some", "_law_at"] ["_law_depths", "_law_some"] (defScope s__law_other_depths) := ⟨rfl, rfl, rfl, by decide +kernel, rfl, by decide +kernel, by decide +kernel⟩
set_option maxHeartbeats 4000000 in
theorem ok__law_other_depths (T : TX K mg w) : FnOk P w K mg base CX0 1 T.a__law_other_depths T.d__law_other_depths ["_law_depths", "_law_some"] (PF (τ := (List Int) × (List Int) × Unit) K (fun t => m__law_other_depths t.1 t.2.1)) := by
  refine T.F__law_other_depths.ok sc__law_other_depths (fun vs H Q E h => ?_) (fun cdv A outer s H vs Q E hr h => ?_)
  · obtain ⟨Kn, t, r, ek, h, hf, q⟩ := h
    exact Tp.len h
  · obtain ⟨Kn, t, r_, ek, h, hf, q⟩ := h
    obtain ⟨depths_683, some_684, u_⟩ := t
    obtain ⟨v_0, rr_, rfl, hv_0, h⟩ := h
    obtain ⟨v_1, rr_, rfl, hv_1, h⟩ := h
    obtain rfl := h
    replace hf : m__law_other_depths depths_683 some_684 = some r_ := hf
    unfold m__law_other_depths at hf
    refine ⟨_, (pss_cons (ps_set (i := 2) sc__law_other_depths.nd rfl (.inl rfl) (pe_op op_mod (pe_ix k_ixl (pv 1) pe_int (fun _ _ => rfl)) (pe_callB k_len (by rfl) T.z_len PySem.boot_len (pa_cons (pv 0) pa_nil))))
      (pss_cons (ps_if (pt_cmpR op_eq (pe_op op_mod (pe_ix k_ixl (pv 1) pe_int (fun _ _ => rfl)) pe_int) pe_int (nomark _)) (pss_one (ps_ret (pe_op op_cat (pe_op op_cat (pe_slice k_sll (pv 0) po_none (po_some (pv 2))) (pe_lst (pa_cons (pe_op op_add (pe_ix k_ixl (pv 0) (pv 2) (fun _ _ => rfl)) (pe_ix k_ixl (pe_lst (pa_cons pe_int (pa_cons (pe_un un_neg pe_int) pa_nil))) (pe_op op_mod (pe_ix k_ixl (pv 1) pe_int (fun _ _ => rfl)) pe_int) (fun _ _ => rfl))) pa_nil))) (pe_slice k_sll (pv 0) (po_some (pe_op op_add (pv 2) pe_int)) po_none)))) pss_nil)
      (pss_cons (ps_if (pt_cmpR op_eq (pe_op op_mod (pe_ix k_ixl (pv 1) pe_int (fun _ _ => rfl)) pe_int) pe_int (nomark _)) (pss_one (ps_ret (pe_op op_cat (pe_slice k_sll (pv 0) po_none (po_some (pv 2))) (pe_slice k_sll (pv 0) (po_some (pe_op op_add (pv 2) pe_int)) po_none)))) pss_nil)
      (pss_cons (ps_if (pt_cmpR op_eq (pe_op op_mod (pe_ix k_ixl (pv 1) pe_int (fun _ _ => rfl)) pe_int) pe_int (nomark _)) (pss_one (ps_ret (pe_op op_cat (pe_op op_cat (pe_slice k_sll (pv 0) po_none (po_some (pv 2))) (pe_lst (pa_cons (pe_op op_mod (pe_ix k_ixl (pv 1) pe_int (fun _ _ => rfl)) (pe_op op_add (pe_ix k_ixl (pv 0) (pe_un un_neg pe_int) (fun _ _ => rfl)) pe_int)) pa_nil))) (pe_slice k_sll (pv 0) (po_some (pv 2)) po_none)))) pss_nil)
      (pss_one (ps_ret (pe_ix k_ixl (pe_lst (pa_cons (pe_callTy k_tuple (by rfl) T.z_tuple (by decide +kernel) (pa_cons (pv 0) pa_nil)) (pa_cons pe_non (pa_cons (pe_op op_cat (pe_op op_cat (pe_slice k_sll (pv 0) po_none (po_some (pv 2))) (pe_lst (pa_cons pe_bl pa_nil))) (pe_slice k_sll (pv 0) (po_some (pv 2)) po_none)) (pa_cons (pe_op op_cat (pv 0) (pe_slice k_sll (pv 0) (po_some (pe_un un_neg pe_int)) po_none)) pa_nil))))) (pe_op op_mod (pe_ix k_ixl (pv 1) pe_int (fun _ _ => rfl)) pe_int) (fun _ _ => rfl)))))))), ?_⟩
    refine enter (Kn := Kn) (sl := [sv depths_683, sv some_684, .any]) ek ⟨⟨v_0, rfl, hv_0⟩, ⟨v_1, rfl, hv_1⟩, trivial, trivial⟩ ?_
    have q := rt_of q
    obtain ⟨i_685, h_i_685, hf⟩ := bind_some hf
    obtain ⟨r_686, h_r_686, hf⟩ := bind_some hf
    obtain ⟨at_687, h_at_687, hf⟩ := bind_some hf
    refine SB.seqB (fun kx_ => sb_asg (sl' := [sv depths_683, sv some_684, sv at_687]) rfl (EV.cast (ev_op (ev_op (ev_var (i := 1) rfl) (ev_int 1) (r2_ixL h_i_685)) (ev_cb (ea_cons (ev_var (i := 0) rfl) ea_nil) rc_len) (r2_modO h_r_686)) (Option.some.inj h_at_687)) (kx_ _ _ ?_))
    obtain ⟨i_689, h_i_689, hf⟩ := bind_some hf
    refine SB.seqB (fun kx_691 => sb_if (b := (decide ((i_689 % (4 : Int)) = (0 : Int)))) (et_test (ev_op (ev_op (ev_op (ev_var (i := 1) rfl) (ev_int 0) (r2_ixL h_i_689)) (ev_int 4) r2_mod) (ev_int 0) r2_eqI)) (fun hb_690 => ?_) (fun hb_690 => ?_))
    · have hf := ite_t hb_690 hf
      obtain ⟨i_692, h_i_692, hf⟩ := bind_some hf
      obtain ⟨i_693, h_i_693, hf⟩ := bind_some hf
      obtain ⟨i_694, h_i_694, hf⟩ := bind_some hf
      obtain ⟨cat_695, h_cat_695, hf⟩ := bind_some hf
      obtain ⟨cat_696, h_cat_696, hf⟩ := bind_some hf
      cases hf
      exact sb_ret (ev_up (EN.ev (en_op (EN.ev (en_op (EN.ev (en_sl (ev_var (i := 0) rfl) eo_none (eo_some (ev_var (i := 2) rfl)))) (EN.ev (en_lst (el_cons (ev_op (ev_op (ev_var (i := 0) rfl) (ev_var (i := 2) rfl) (r2_ixL h_i_692)) (ev_op (EN.ev (en_lst (el_cons (ev_int 1) (el_cons (ev_un (ev_int 1) r1_neg) el_nil)))) (ev_op (ev_op (ev_var (i := 1) rfl) (ev_int 2) (r2_ixL h_i_693)) (ev_int 2) r2_mod) (r2_ixL h_i_694)) r2_add) el_nil))) (r2_catO h_cat_695))) (EN.ev (en_sl (ev_var (i := 0) rfl) (eo_some (ev_op (ev_var (i := 2) rfl) (ev_int 1) r2_add)) eo_none)) (r2_catO h_cat_696)))) q (List.Sublist.refl _)
    · have hf := ite_f hb_690 hf
      refine sb_nx ?_
      refine kx_691 _ _ ?_
      obtain ⟨i_698, h_i_698, hf⟩ := bind_some hf
      refine SB.seqB (fun kx_700 => sb_if (b := (decide ((i_698 % (4 : Int)) = (1 : Int)))) (et_test (ev_op (ev_op (ev_op (ev_var (i := 1) rfl) (ev_int 0) (r2_ixL h_i_698)) (ev_int 4) r2_mod) (ev_int 1) r2_eqI)) (fun hb_699 => ?_) (fun hb_699 => ?_))
      · have hf := ite_t hb_699 hf
        obtain ⟨cat_701, h_cat_701, hf⟩ := bind_some hf
        cases hf
        exact sb_ret (ev_up (EN.ev (en_op (EN.ev (en_sl (ev_var (i := 0) rfl) eo_none (eo_some (ev_var (i := 2) rfl)))) (EN.ev (en_sl (ev_var (i := 0) rfl) (eo_some (ev_op (ev_var (i := 2) rfl) (ev_int 1) r2_add)) eo_none)) (r2_catO h_cat_701)))) q (List.Sublist.refl _)
      · have hf := ite_f hb_699 hf
        refine sb_nx ?_
        refine kx_700 _ _ ?_
        obtain ⟨i_703, h_i_703, hf⟩ := bind_some hf
        refine SB.seqB (fun kx_705 => sb_if (b := (decide ((i_703 % (4 : Int)) = (2 : Int)))) (et_test (ev_op (ev_op (ev_op (ev_var (i := 1) rfl) (ev_int 0) (r2_ixL h_i_703)) (ev_int 4) r2_mod) (ev_int 2) r2_eqI)) (fun hb_704 => ?_) (fun hb_704 => ?_))
        · have hf := ite_t hb_704 hf
          obtain ⟨i_706, h_i_706, hf⟩ := bind_some hf
          obtain ⟨i_707, h_i_707, hf⟩ := bind_some hf
          obtain ⟨r_708, h_r_708, hf⟩ := bind_some hf
          obtain ⟨cat_709, h_cat_709, hf⟩ := bind_some hf
          obtain ⟨cat_710, h_cat_710, hf⟩ := bind_some hf
          cases hf
          exact sb_ret (ev_up (EN.ev (en_op (EN.ev (en_op (EN.ev (en_sl (ev_var (i := 0) rfl) eo_none (eo_some (ev_var (i := 2) rfl)))) (EN.ev (en_lst (el_cons (ev_op (ev_op (ev_var (i := 1) rfl) (ev_int 2) (r2_ixL h_i_706)) (ev_op (ev_op (ev_var (i := 0) rfl) (ev_un (ev_int 1) r1_neg) (r2_ixL h_i_707)) (ev_int 1) r2_add) (r2_modO h_r_708)) el_nil))) (r2_catO h_cat_709))) (EN.ev (en_sl (ev_var (i := 0) rfl) (eo_some (ev_var (i := 2) rfl)) eo_none)) (r2_catO h_cat_710)))) q (List.Sublist.refl _)
        · have hf := ite_f hb_704 hf
          refine sb_nx ?_
          refine kx_705 _ _ ?_
          obtain ⟨cat_714, h_cat_714, hf⟩ := bind_some hf
          obtain ⟨cat_715, h_cat_715, hf⟩ := bind_some hf
          obtain ⟨cat_716, h_cat_716, hf⟩ := bind_some hf
          obtain ⟨i_717, h_i_717, hf⟩ := bind_some hf
          obtain ⟨i_718, h_i_718, hf⟩ := bind_some hf
          cases hf
          exact sb_ret (ev_op (EN.ev (en_lst (el_cons (ev_up (ev_cb (ea_cons (ev_var (i := 0) rfl) ea_nil) rc_tuple)) (el_cons (ev_up ev_nn) (el_cons (ev_up (EN.ev (en_op (EN.ev (en_op (EN.ev (en_upL (en_sl (ev_var (i := 0) rfl) eo_none (eo_some (ev_var (i := 2) rfl))))) (EN.ev (en_lst (el_cons (ev_up (ev_bool true)) el_nil))) (r2_catO h_cat_714))) (EN.ev (en_upL (en_sl (ev_var (i := 0) rfl) (eo_some (ev_var (i := 2) rfl)) eo_none))) (r2_catO h_cat_715)))) (el_cons (ev_up (EN.ev (en_op (ev_var (i := 0) rfl) (EN.ev (en_sl (ev_var (i := 0) rfl) (eo_some (ev_un (ev_int 1) r1_neg)) eo_none)) (r2_catO h_cat_716)))) el_nil)))))) (ev_op (ev_op (ev_var (i := 1) rfl) (ev_int 2) (r2_ixL h_i_717)) (ev_int 4) r2_mod) (r2_ixL h_i_718)) q (List.Sublist.refl _)
theorem sc__law_other_paper : FnScope ["_law_paper", "_law_some", "_law_at", "_law_top", "_law_told"] ["_law_paper", "_law_some"] (defScope s__law_other_paper) := ⟨rfl, rfl, rfl, by decide +kernel, rfl, by decide +kernel, by decide +kernel⟩
set_option maxHeartbeats 4000000 in
theorem ok__law_other_paper (T : TX K mg w) : FnOk P w K mg base CX0 1 T.a__law_other_paper T.d__law_other_paper ["_law_paper", "_law_some"] (PF (τ := (List (Int × (Option Int) × Unit)) × (List Int) × Unit) K (fun t => m__law_other_paper t.1 t.2.1)) := by
  refine T.F__law_other_paper.ok sc__law_other_paper (fun vs H Q E h => ?_) (fun cdv A outer s H vs Q E hr h => ?_)
  · obtain ⟨Kn, t, r, ek, h, hf, q⟩ := h
    exact Tp.len h
  · obtain ⟨Kn, t, r_, ek, h, hf, q⟩ := h
    obtain ⟨paper_719, some_720, u_⟩ := t
    obtain ⟨v_0, rr_, rfl, hv_0, h⟩ := h
    obtain ⟨v_1, rr_, rfl, hv_1, h⟩ := h
    obtain rfl := h
    replace hf : m__law_other_paper paper_719 some_720 = some r_ := hf
    unfold m__law_other_paper at hf
    refine ⟨_, (pss_cons (ps_set (i := 2) sc__law_other_paper.nd rfl (.inl rfl) (pe_op op_mod (pe_ix k_ixl (pv 1) pe_int (fun _ _ => rfl)) (pe_callB k_len (by rfl) T.z_len PySem.boot_len (pa_cons (pv 0) pa_nil))))
      (pss_cons (ps_asg (pe_ix k_ixl (pv 0) (pv 2) (fun _ _ => rfl)) (kpg_tup (pgs_cons (pg_name (i := 3) sc__law_other_paper.nd rfl (.inl rfl)) (pgs_cons (pg_name (i := 4) sc__law_other_paper.nd rfl (.inl rfl)) pgs_nil))))
      (pss_cons (ps_if (PW.pt (pw_and (pt_cmpR op_eq (pe_op op_mod (pe_ix k_ixl (pv 1) pe_int (fun _ _ => rfl)) pe_int) pe_int (nomark _)) (pw_and1 (pt_cmpR op_notN (pv 4) pe_non (nomark _))))) (pss_one (ps_ret (pe_op op_cat (pe_op op_cat (pe_slice k_sll (pv 0) po_none (po_some (pv 2))) (pe_lst (pa_cons (pe_tup (pa_cons (pv 3) (pa_cons (pe_op op_add (pv 4) (pe_ix k_ixl (pe_lst (pa_cons pe_int (pa_cons (pe_un un_neg pe_int) pa_nil))) (pe_op op_mod (pe_ix k_ixl (pv 1) pe_int (fun _ _ => rfl)) pe_int) (fun _ _ => rfl))) pa_nil))) pa_nil))) (pe_slice k_sll (pv 0) (po_some (pe_op op_add (pv 2) pe_int)) po_none)))) pss_nil)
      (pss_cons (ps_if (pt_cmpR op_eq (pe_op op_mod (pe_ix k_ixl (pv 1) pe_int (fun _ _ => rfl)) pe_int) pe_int (nomark _)) (pss_one (ps_ret (pe_op op_cat (pe_op op_cat (pe_slice k_sll (pv 0) po_none (po_some (pv 2))) (pe_lst (pa_cons (pe_tup (pa_cons (pv 3) (pa_cons (pe_ix k_ixl (pe_lst (pa_cons pe_non (pa_cons pe_int (pa_cons (pe_op op_mod (pe_ix k_ixl (pv 1) pe_int (fun _ _ => rfl)) pe_int) (pa_cons pe_bl (pa_cons (pe_un un_neg pe_int) pa_nil)))))) (pe_op op_mod (pe_ix k_ixl (pv 1) pe_int (fun _ _ => rfl)) pe_int) (fun _ _ => rfl)) pa_nil))) pa_nil))) (pe_slice k_sll (pv 0) (po_some (pe_op op_add (pv 2) pe_int)) po_none)))) pss_nil)
      (pss_cons (ps_if (pt_cmpR op_eq (pe_op op_mod (pe_ix k_ixl (pv 1) pe_int (fun _ _ => rfl)) pe_int) pe_int (nomark _)) (pss_one (ps_ret (pe_op op_cat (pe_slice k_sll (pv 0) po_none (po_some (pv 2))) (pe_slice k_sll (pv 0) (po_some (pe_op op_add (pv 2) pe_int)) po_none)))) pss_nil)
      (pss_one (ps_ret (pe_ix k_ixl (pe_lst (pa_cons (pe_callTy k_tuple (by rfl) T.z_tuple (by decide +kernel) (pa_cons (pv 0) pa_nil)) (pa_cons pe_non (pa_cons (pe_op op_cat (pe_op op_cat (pe_slice k_sll (pv 0) po_none (po_some (pv 2))) (pe_lst (pa_cons (pe_tup (pa_cons (pe_op op_add (pv 3) pe_int) (pa_cons (pv 4) pa_nil))) pa_nil))) (pe_slice k_sll (pv 0) (po_some (pe_op op_add (pv 2) pe_int)) po_none)) (pa_cons (pe_op op_cat (pv 0) (pe_slice k_sll (pv 0) (po_some (pe_un un_neg pe_int)) po_none)) pa_nil))))) (pe_op op_mod (pe_ix k_ixl (pv 1) pe_int (fun _ _ => rfl)) pe_int) (fun _ _ => rfl))))))))), ?_⟩
    refine enter (Kn := Kn) (sl := [sv paper_719, sv some_720, .any, .any, .any]) ek ⟨⟨v_0, rfl, hv_0⟩, ⟨v_1, rfl, hv_1⟩, trivial, trivial, trivial, trivial⟩ ?_
    have q := rt_of q
    obtain ⟨i_721, h_i_721, hf⟩ := bind_some hf
    obtain ⟨r_722, h_r_722, hf⟩ := bind_some hf
    obtain ⟨at_723, h_at_723, hf⟩ := bind_some hf
    refine SB.seqB (fun kx_ => sb_asg (sl' := [sv paper_719, sv some_720, sv at_723, .any, .any]) rfl (EV.cast (ev_op (ev_op (ev_var (i := 1) rfl) (ev_int 1) (r2_ixL h_i_721)) (ev_cb (ea_cons (ev_var (i := 0) rfl) ea_nil) rc_len) (r2_modO h_r_722)) (Option.some.inj h_at_723)) (kx_ _ _ ?_))
    obtain ⟨i_724, h_i_724, hf⟩ := bind_some hf
    obtain ⟨⟨top_725, told_726, _⟩, h_top_725, hf⟩ := bind_some hf
    refine SB.seqB (fun kx_ => sb_unp (sl' := [sv paper_719, sv some_720, sv at_723, sv top_725, sv told_726]) (EV.cast (ev_op (ev_var (i := 0) rfl) (ev_var (i := 2) rfl) (r2_ixL h_i_724)) (Option.some.inj h_top_725)) (gt_tup (gts_cons (gt_name rfl) (gts_cons (gt_name rfl) gts_nil))) (kx_ _ _ ?_))
    obtain ⟨i_728, h_i_728, hf⟩ := bind_some hf
    refine SB.seqB (fun kx_730 => sb_if (b := ((decide ((i_728 % (4 : Int)) = (0 : Int))) && (told_726.isSome))) (et_and (et_test (ev_op (ev_op (ev_op (ev_var (i := 1) rfl) (ev_int 0) (r2_ixL h_i_728)) (ev_int 4) r2_mod) (ev_int 0) r2_eqI)) (fun _ => (et_test (ev_op (ev_var (i := 4) rfl) ev_nn r2_notN)))) (fun hb_729 => ?_) (fun hb_729 => ?_))
    · have hf := ite_t hb_729 hf
      obtain ⟨i_731, h_i_731, hf⟩ := bind_some hf
      obtain ⟨i_732, h_i_732, hf⟩ := bind_some hf
      obtain ⟨s_733, h_s_733, hf⟩ := bind_some hf
      obtain ⟨cat_734, h_cat_734, hf⟩ := bind_some hf
      obtain ⟨cat_735, h_cat_735, hf⟩ := bind_some hf
      cases hf
      exact sb_ret (ev_up (EN.ev (en_op (EN.ev (en_op (EN.ev (en_sl (ev_var (i := 0) rfl) eo_none (eo_some (ev_var (i := 2) rfl)))) (EN.ev (en_lst (el_cons (ev_tup (ea_cons (ev_var (i := 3) rfl) (ea_cons (ev_some (ev_op (ev_unopt (ev_var (i := 4) rfl) h_s_733) (ev_op (EN.ev (en_lst (el_cons (ev_int 1) (el_cons (ev_un (ev_int 1) r1_neg) el_nil)))) (ev_op (ev_op (ev_var (i := 1) rfl) (ev_int 2) (r2_ixL h_i_731)) (ev_int 2) r2_mod) (r2_ixL h_i_732)) r2_add)) ea_nil))) el_nil))) (r2_catO h_cat_734))) (EN.ev (en_sl (ev_var (i := 0) rfl) (eo_some (ev_op (ev_var (i := 2) rfl) (ev_int 1) r2_add)) eo_none)) (r2_catO h_cat_735)))) q (List.Sublist.refl _)
    · have hf := ite_f hb_729 hf
      refine sb_nx ?_
      refine kx_730 _ _ ?_
      obtain ⟨i_737, h_i_737, hf⟩ := bind_some hf
      refine SB.seqB (fun kx_739 => sb_if (b := (decide ((i_737 % (4 : Int)) = (1 : Int)))) (et_test (ev_op (ev_op (ev_op (ev_var (i := 1) rfl) (ev_int 0) (r2_ixL h_i_737)) (ev_int 4) r2_mod) (ev_int 1) r2_eqI)) (fun hb_738 => ?_) (fun hb_738 => ?_))
      · have hf := ite_t hb_738 hf
        obtain ⟨i_741, h_i_741, hf⟩ := bind_some hf
        obtain ⟨i_742, h_i_742, hf⟩ := bind_some hf
        obtain ⟨i_743, h_i_743, hf⟩ := bind_some hf
        obtain ⟨cat_744, h_cat_744, hf⟩ := bind_some hf
        obtain ⟨cat_745, h_cat_745, hf⟩ := bind_some hf
        cases hf
        exact sb_ret (ev_up (EN.ev (en_op (EN.ev (en_op (EN.ev (en_upL (en_sl (ev_var (i := 0) rfl) eo_none (eo_some (ev_var (i := 2) rfl))))) (EN.ev (en_lst (el_cons (ev_up (ev_tup (ea_cons (ev_var (i := 3) rfl) (ea_cons (ev_op (EN.ev (en_lst (el_cons (ev_up ev_nn) (el_cons (ev_up (ev_int 0)) (el_cons (ev_up (ev_op (ev_op (ev_var (i := 1) rfl) (ev_int 2) (r2_ixL h_i_741)) (ev_int 500) r2_mod)) (el_cons (ev_up (ev_bool false)) (el_cons (ev_up (ev_un (ev_int 1) r1_neg)) el_nil))))))) (ev_op (ev_op (ev_var (i := 1) rfl) (ev_int 2) (r2_ixL h_i_742)) (ev_int 5) r2_mod) (r2_ixL h_i_743)) ea_nil)))) el_nil))) (r2_catO h_cat_744))) (EN.ev (en_upL (en_sl (ev_var (i := 0) rfl) (eo_some (ev_op (ev_var (i := 2) rfl) (ev_int 1) r2_add)) eo_none))) (r2_catO h_cat_745)))) q (List.Sublist.refl _)
      · have hf := ite_f hb_738 hf
        refine sb_nx ?_
        refine kx_739 _ _ ?_
        obtain ⟨i_747, h_i_747, hf⟩ := bind_some hf
        refine SB.seqB (fun kx_749 => sb_if (b := (decide ((i_747 % (4 : Int)) = (2 : Int)))) (et_test (ev_op (ev_op (ev_op (ev_var (i := 1) rfl) (ev_int 0) (r2_ixL h_i_747)) (ev_int 4) r2_mod) (ev_int 2) r2_eqI)) (fun hb_748 => ?_) (fun hb_748 => ?_))
        · have hf := ite_t hb_748 hf
          obtain ⟨cat_750, h_cat_750, hf⟩ := bind_some hf
          cases hf
          exact sb_ret (ev_up (EN.ev (en_op (EN.ev (en_sl (ev_var (i := 0) rfl) eo_none (eo_some (ev_var (i := 2) rfl)))) (EN.ev (en_sl (ev_var (i := 0) rfl) (eo_some (ev_op (ev_var (i := 2) rfl) (ev_int 1) r2_add)) eo_none)) (r2_catO h_cat_750)))) q (List.Sublist.refl _)
        · have hf := ite_f hb_748 hf
          refine sb_nx ?_
          refine kx_749 _ _ ?_
          obtain ⟨cat_754, h_cat_754, hf⟩ := bind_some hf
          obtain ⟨cat_755, h_cat_755, hf⟩ := bind_some hf
          obtain ⟨cat_756, h_cat_756, hf⟩ := bind_some hf
          obtain ⟨i_757, h_i_757, hf⟩ := bind_some hf
          obtain ⟨i_758, h_i_758, hf⟩ := bind_some hf
          cases hf
          exact sb_ret (ev_op (EN.ev (en_lst (el_cons (ev_up (ev_cb (ea_cons (ev_var (i := 0) rfl) ea_nil) rc_tuple)) (el_cons (ev_up ev_nn) (el_cons (ev_up (EN.ev (en_op (EN.ev (en_op (EN.ev (en_sl (ev_var (i := 0) rfl) eo_none (eo_some (ev_var (i := 2) rfl)))) (EN.ev (en_lst (el_cons (ev_tup (ea_cons (ev_op (ev_var (i := 3) rfl) (ev_int 1) r2_add) (ea_cons (ev_var (i := 4) rfl) ea_nil))) el_nil))) (r2_catO h_cat_754))) (EN.ev (en_sl (ev_var (i := 0) rfl) (eo_some (ev_op (ev_var (i := 2) rfl) (ev_int 1) r2_add)) eo_none)) (r2_catO h_cat_755)))) (el_cons (ev_up (EN.ev (en_op (ev_var (i := 0) rfl) (EN.ev (en_sl (ev_var (i := 0) rfl) (eo_some (ev_un (ev_int 1) r1_neg)) eo_none)) (r2_catO h_cat_756)))) el_nil)))))) (ev_op (ev_op (ev_var (i := 1) rfl) (ev_int 2) (r2_ixL h_i_757)) (ev_int 4) r2_mod) (r2_ixL h_i_758)) q (List.Sublist.refl _)
theorem sc_law : FnScope ["_law_script", "_law_blocks_here", "_law_cuts_here", "_law_price", "_law_apart", "_law_k", "_law_height", "_law_depths", "_law_paper", "_law_cell", "_law_some", "_law_others", "_law_due", "_law_cost_here", "_law_found"] ["_law_script"] (defScope s_law) := ⟨rfl, rfl, rfl, by decide +kernel, rfl, by decide +kernel, by decide +kernel⟩
set_option maxHeartbeats 4000000 in
theorem ok_law (T : TX K mg w) : FnOk P w K mg base CX0 4 T.a_law T.d_law ["_law_script"] (PF (τ := (Fz Int) × Unit) K (fun t => m_law t.1)) := by
  refine T.F_law.ok sc_law (fun vs H Q E h => ?_) (fun cdv A outer s H vs Q E hr h => ?_)
  · obtain ⟨Kn, t, r, ek, h, hf, q⟩ := h
    exact Tp.len h
  · obtain ⟨Kn, t, r_, ek, h, hf, q⟩ := h
    obtain ⟨script_759, u_⟩ := t
    obtain ⟨v_0, rr_, rfl, hv_0, h⟩ := h
    obtain rfl := h
    replace hf : m_law script_759 = some r_ := hf
    unfold m_law at hf
    refine ⟨_, (pss_cons (ps_set (i := 1) sc_law.nd rfl (.inl rfl) (pe_call (ok__law_blocks T) (hr.mono (by decide)) (by rfl) T.g__law_blocks T.F__law_blocks.kp T.b__law_blocks .nil pass0 (pa_cons (pe_op op_cat (pe_callTy k_list (by rfl) T.z_list (by decide +kernel) (pa_cons (pe_slice k_sll (pv 0) (po_some pe_int) (po_some pe_int)) pa_nil)) (pe_lst (pa_cons (pe_op op_fdiv (pe_call (ok__law_cell_at T) (hr.mono (by decide)) (by rfl) T.g__law_cell_at T.F__law_cell_at.kp T.b__law_cell_at .nil pass0 (pa_cons (pv 0) (pa_cons pe_int pa_nil))) pe_int) pa_nil))) pa_nil)))
      (pss_cons (ps_set (i := 2) sc_law.nd rfl (.inl rfl) (pe_call (ok__law_cuts T) (hr.mono (by decide)) (by rfl) T.g__law_cuts T.F__law_cuts.kp T.b__law_cuts .nil pass0 (pa_cons (pv 1) pa_nil)))
      (pss_cons (ps_set (i := 3) sc_law.nd rfl (.inl rfl) (pe_op op_mod (pe_call (ok__law_cell_at T) (hr.mono (by decide)) (by rfl) T.g__law_cell_at T.F__law_cell_at.kp T.b__law_cell_at .nil pass0 (pa_cons (pv 0) (pa_cons pe_int pa_nil))) pe_int))
      (pss_cons (ps_set (i := 4) sc_law.nd rfl (.inl rfl) (pe_ix k_ixt (pe_ix k_ixl (pv 2) pe_int (fun _ _ => rfl)) pe_int (fun _ _ => rfl)))
      (pss_cons (ps_for PassesOwn.never rfl (pi_range2 (by rfl) T.z_range (pa_cons pe_int (pa_cons (pe_callB k_len (by rfl) T.z_len PySem.boot_len (pa_cons (pv 2) pa_nil)) pa_nil))) (pg_name (i := 5) sc_law.nd rfl (.inl rfl)) (pss_one (ps_set (i := 4) sc_law.nd rfl (.inl rfl) (pe_callB k_max2 (by rfl) T.z_max (by decide +kernel) (pa_cons (pv 4) (pa_cons (pe_op op_sub (pe_ix k_ixt (pe_ix k_ixl (pv 2) (pv 5) (fun _ _ => rfl)) pe_int (fun _ _ => rfl)) (pe_ix k_ixt (pe_ix k_ixl (pv 2) (pe_op op_sub (pv 5) pe_int) (fun _ _ => rfl)) pe_int (fun _ _ => rfl))) pa_nil))))))
      (pss_cons (ps_set (i := 6) sc_law.nd rfl (.inl rfl) (pe_op op_add (pv 4) (pe_op op_mod (pe_call (ok__law_cell_at T) (hr.mono (by decide)) (by rfl) T.g__law_cell_at T.F__law_cell_at.kp T.b__law_cell_at .nil pass0 (pa_cons (pv 0) (pa_cons pe_int pa_nil))) pe_int)))
      (pss_cons (ps_asg (pe_callS (ok_set_pages T) hr (by rfl) T.g_set_pages T.F_set_pages.kp T.b_set_pages (fun σ => passAt takes0 σ) (pa_cons (pe_callTy k_list (by rfl) T.z_list (by decide +kernel) (pa_cons (pv 1) pa_nil)) (pa_cons (pv 3) (pa_cons (pv 6) pa_nil)))) (kpg_tup (pgs_cons (pg_name (i := 7) sc_law.nd rfl (.inl rfl)) (pgs_cons (pg_name (i := 8) sc_law.nd rfl (.inl rfl)) pgs_nil))))
      (pss_cons (ps_if (pt_cmpR op_notBl (pe_call (ok_pages_shown T) hr (by rfl) T.g_pages_shown T.F_pages_shown.kp T.b_pages_shown .nil pass0 (pa_cons (pv 1) (pa_cons (pv 3) (pa_cons (pv 6) (pa_cons (pv 7) (pa_cons (pv 8) pa_nil)))))) pe_bl (nomark _)) (pss_one (ps_ret pe_bl)) pss_nil)
      (pss_cons (ps_if (pt_cmpR op_notBl (pe_call (ok_pages_shown T) hr (by rfl) T.g_pages_shown T.F_pages_shown.kp T.b_pages_shown .nil pass0 (pa_cons (pv 1) (pa_cons (pv 3) (pa_cons (pv 6) (pa_cons (pe_call (ok__law_another T) (hr.mono (by decide)) (by rfl) T.g__law_another T.F__law_another.kp T.b__law_another .nil pass0 (pa_cons (pv 2) (pa_cons (pv 3) (pa_cons (pv 6) (pa_cons (pv 7) (pa_cons (pv 8) pa_nil)))))) (pa_cons (pv 8) pa_nil)))))) pe_bl (nomark _)) (pss_one (ps_ret pe_bl)) pss_nil)
      (pss_cons (ps_for PassesOwn.never rfl (kpi_list (pe_slice k_sll (pv 0) (po_some pe_int) (po_some pe_int))) (pg_name (i := 9) sc_law.nd rfl (.inl rfl)) (pss_cons (ps_set (i := 10) sc_law.nd rfl (.inl rfl) (pe_call (ok__law_numbers T) (hr.mono (by decide)) (by rfl) T.g__law_numbers T.F__law_numbers.kp T.b__law_numbers .nil pass0 (pa_cons (pe_op op_fdiv (pv 9) pe_int) (pa_cons pe_int pa_nil))))
      (pss_cons (ps_set (i := 11) sc_law.nd rfl (.inl rfl) (pe_lst (pa_cons (pe_callTy k_list (by rfl) T.z_list (by decide +kernel) (pa_cons (pv 7) pa_nil)) (pa_cons (pe_callTy k_list (by rfl) T.z_list (by decide +kernel) (pa_cons (pv 8) pa_nil)) pa_nil))))
      (Evl.pss_cut (ps_if (pt_cmpR op_gt (pe_op op_mod (pe_ix k_ixl (pv 10) pe_int (fun _ _ => rfl)) pe_int) pe_int (nomark _)) (pss_one (ps_asg (pe_call (ok__law_other_depths T) (hr.mono (by decide)) (by rfl) T.g__law_other_depths T.F__law_other_depths.kp T.b__law_other_depths .nil pass0 (pa_cons (pv 7) (pa_cons (pv 10) pa_nil))) (pg_sub (pv 11) pe_int set_list))) pss_nil)
      (Evl.pss_cut (ps_if (pt_cmpR op_ne (pe_op op_mod (pe_ix k_ixl (pv 10) pe_int (fun _ _ => rfl)) pe_int) pe_int (nomark _)) (pss_one (ps_asg (pe_call (ok__law_other_paper T) (hr.mono (by decide)) (by rfl) T.g__law_other_paper T.F__law_other_paper.kp T.b__law_other_paper .nil pass0 (pa_cons (pv 8) (pa_cons (pe_slice k_sll (pv 10) (po_some pe_int) po_none) pa_nil))) (pg_sub (pv 11) pe_int set_list))) pss_nil)
      (pss_cons (ps_set (i := 12) sc_law.nd rfl (.inl rfl) (pe_call (ok__law_is_paper T) (hr.mono (by decide)) (by rfl) T.g__law_is_paper T.F__law_is_paper.kp T.b__law_is_paper .nil pass0 (pa_cons (pe_ix k_ixl (pv 11) pe_int (fun _ _ => rfl)) (pa_cons (pv 2) pa_nil))))
      (Evl.pss_cut (ps_if (pt_val (pv 12)) (pss_cons (ps_set (i := 13) sc_law.nd rfl (.inl rfl) (pe_call (ok__law_cost T) (hr.mono (by decide)) (by rfl) T.g__law_cost T.F__law_cost.kp T.b__law_cost .nil pass0 (pa_cons (pv 2) (pa_cons (pv 3) (pa_cons (pv 6) (pa_cons (pe_ix k_ixl (pv 11) pe_int (fun _ _ => rfl)) pa_nil))))))
      (pss_one (ps_set (i := 12) sc_law.nd rfl (.inl rfl) (pe_and (pe_cmpR op_notN (pv 13) pe_non (nomark _)) (pe_one (pe_call (ok__law_shows T) (hr.mono (by decide)) (by rfl) T.g__law_shows T.F__law_shows.kp T.b__law_shows .nil pass0 (pa_cons (pv 2) (pa_cons (pv 3) (pa_cons (pv 6) (pa_cons (pe_ix k_ixl (pv 11) pe_int (fun _ _ => rfl)) (pa_cons (pv 13) pa_nil))))))))))) pss_nil)
      (pss_cons (ps_set (i := 14) sc_law.nd rfl (.inl rfl) (pe_call (ok_pages_shown T) hr (by rfl) T.g_pages_shown T.F_pages_shown.kp T.b_pages_shown .nil pass0 (pa_cons (pv 1) (pa_cons (pv 3) (pa_cons (pv 6) (pa_cons (pe_ix k_ixl (pv 11) pe_int (fun _ _ => rfl)) (pa_cons (pe_ix k_ixl (pv 11) pe_int (fun _ _ => rfl)) pa_nil)))))))
      (pss_one (ps_if (PW.pt (pw_or (pt_not (pt_val (pe_callB k_isi (by rfl) T.z_isinstance (by decide +kernel) (pa_cons (pv 14) (pa_cons (pe_bltn (v := .ty "bool") (u := .type "bool") (by rfl) T.z_bool (by decide +kernel) rfl) pa_nil))))) (pw_or1 (pt_cmpR op_ne (pv 14) (pv 12) (nomark _))))) (pss_one (ps_ret pe_bl)) pss_nil))))))))))
      (pss_one (ps_ret (pe_cmpR op_isBl (pe_call (ok_pages_shown T) hr (by rfl) T.g_pages_shown T.F_pages_shown.kp T.b_pages_shown .nil pass0 (pa_cons (pv 1) (pa_cons (pv 3) (pa_cons (pv 6) (pa_cons (pv 7) (pa_cons (pv 8) pa_nil)))))) pe_bl (nomark _)))))))))))))), ?_⟩
    refine enter (Kn := Kn) (sl := [sv script_759, .any, .any, .any, .any, .any, .any, .any, .any, .any, .any, .any, .any, .any, .any]) ek ⟨⟨v_0, rfl, hv_0⟩, trivial, trivial, trivial, trivial, trivial, trivial, trivial, trivial, trivial, trivial, trivial, trivial, trivial, trivial, trivial⟩ ?_
    have q := rt_of q
    obtain ⟨r_760, h_r_760, hf⟩ := bind_some hf
    obtain ⟨cat_761, h_cat_761, hf⟩ := bind_some hf
    obtain ⟨r_762, h_r_762, hf⟩ := bind_some hf
    obtain ⟨blocks_here_763, h_blocks_here_763, hf⟩ := bind_some hf
    refine SB.seqB (fun kx_ => sb_asg (sl' := [sv script_759, sv blocks_here_763, .any, .any, .any, .any, .any, .any, .any, .any, .any, .any, .any, .any, .any]) rfl (EV.cast (EN.ev (en_call (ea_cons (EN.ev (en_op (EN.ev (en_cb (ea_cons (EN.ev (en_slF (ev_var (i := 0) rfl) (eo_some (ev_int 16)) (eo_some (ev_int 27)))) ea_nil) rc_list)) (EN.ev (en_lst (el_cons (ev_op (ev_call (ea_cons (ev_var (i := 0) rfl) (ea_cons (ev_int 16) ea_nil)) h_r_760) (ev_int 3) r2_div) el_nil))) (r2_catO h_cat_761))) ea_nil) h_r_762)) (Option.some.inj h_blocks_here_763)) (kx_ _ _ ?_))
    obtain ⟨r_764, h_r_764, hf⟩ := bind_some hf
    obtain ⟨cuts_here_765, h_cuts_here_765, hf⟩ := bind_some hf
    refine SB.seqB (fun kx_ => sb_asg (sl' := [sv script_759, sv blocks_here_763, sv cuts_here_765, .any, .any, .any, .any, .any, .any, .any, .any, .any, .any, .any, .any]) rfl (EV.cast (EN.ev (en_call (ea_cons (ev_var (i := 1) rfl) ea_nil) h_r_764)) (Option.some.inj h_cuts_here_765)) (kx_ _ _ ?_))
    obtain ⟨r_766, h_r_766, hf⟩ := bind_some hf
    obtain ⟨price_767, h_price_767, hf⟩ := bind_some hf
    refine SB.seqB (fun kx_ => sb_asg (sl' := [sv script_759, sv blocks_here_763, sv cuts_here_765, sv price_767, .any, .any, .any, .any, .any, .any, .any, .any, .any, .any, .any]) rfl (EV.cast (ev_op (ev_call (ea_cons (ev_var (i := 0) rfl) (ea_cons (ev_int 0) ea_nil)) h_r_766) (ev_int 1000) r2_mod) (Option.some.inj h_price_767)) (kx_ _ _ ?_))
    obtain ⟨i_768, h_i_768, hf⟩ := bind_some hf
    obtain ⟨apart_769, h_apart_769, hf⟩ := bind_some hf
    refine SB.seqB (fun kx_ => sb_asg (sl' := [sv script_759, sv blocks_here_763, sv cuts_here_765, sv price_767, sv apart_769, .any, .any, .any, .any, .any, .any, .any, .any, .any, .any]) rfl (EV.cast (ev_op (ev_op (ev_var (i := 2) rfl) (ev_int 0) (r2_ixL h_i_768)) (ev_int 0) (r2_tix (n := 0) (At.z _ _))) (Option.some.inj h_apart_769)) (kx_ _ _ ?_))
    obtain ⟨rg_770, h_rg_770, hf⟩ := bind_some hf
    obtain ⟨apart_781, h_tot_777, hf⟩ := bind_some hf
    refine SB.seqB (fun kx_782 => sb_for (β := Int) (Sx := Int) (fun s => [sv script_759, sv blocks_here_763, sv cuts_here_765, sv price_767, sv s, .any, .any, .any, .any, .any, .any, .any, .any, .any, .any]) (fun s => []) (fun x s => [sv script_759, sv blocks_here_763, sv cuts_here_765, sv price_767, sv s, sv x, .any, .any, .any, .any, .any, .any, .any, .any, .any]) [5] (fun xs s => forS (m_law_L1 cuts_here_765) xs s = some apart_781) apart_769 (IT.m (it_rng2 (ea_cons (ev_int 1) (ea_cons (ev_cb (ea_cons (ev_var (i := 2) rfl) ea_nil) rc_len) ea_nil)) h_rg_770)) h_tot_777 (.keep (.keep (.keep (.keep (.keep (.keep (.keep (.keep (.keep (.keep (.keep (.keep (.keep (.keep (.keep .nil))))))))))))))) (List.Sublist.refl _) (fun x s => (gt_name rfl)) ?_ ?_)
    · intro Kn1 b1 k_772 rest_ apart_771 hP_774 N_ hN_773
      obtain ⟨c_, hc_775, hP_774⟩ := bind_some hP_774
      have q_776 := q.base b1
      unfold m_law_L1 at hc_775
      refine SB.is (sl' := [sv script_759, sv blocks_here_763, sv cuts_here_765, sv price_767, sv apart_771, sv k_772, .any, .any, .any, .any, .any, .any, .any, .any, .any]) (ow1 := []) rfl rfl ?_
      obtain ⟨i_778, h_i_778, hc_775⟩ := bind_some hc_775
      obtain ⟨i_779, h_i_779, hc_775⟩ := bind_some hc_775
      obtain ⟨apart_780, h_apart_780, hc_775⟩ := bind_some hc_775
      refine sb_asg (sl' := [sv script_759, sv blocks_here_763, sv cuts_here_765, sv price_767, sv apart_780, sv k_772, .any, .any, .any, .any, .any, .any, .any, .any, .any]) rfl (EV.cast (ev_cb (ea_cons (ev_var (i := 4) rfl) (ea_cons (ev_op (ev_op (ev_op (ev_var (i := 2) rfl) (ev_var (i := 5) rfl) (r2_ixL h_i_778)) (ev_int 0) (r2_tix (n := 0) (At.z _ _))) (ev_op (ev_op (ev_var (i := 2) rfl) (ev_op (ev_var (i := 5) rfl) (ev_int 1) r2_sub) (r2_ixL h_i_779)) (ev_int 0) (r2_tix (n := 0) (At.z _ _))) r2_sub) ea_nil)) rc_max) (Option.some.inj h_apart_780)) ?_
      cases hc_775
      exact fun σ Kn H s => hN_773 _ hP_774 σ Kn H ((s.le (.keep (.keep (.keep (.keep (.keep (.drop (.keep (.keep (.keep (.keep (.keep (.keep (.keep (.keep (.keep .nil)))))))))))))))).sub (List.Sublist.refl _))
    · intro s_ h0
      cases h0
      refine kx_782 _ _ ?_
      refine SB.is (sl' := [sv script_759, sv blocks_here_763, sv cuts_here_765, sv price_767, sv apart_781, .any, .any, .any, .any, .any, .any, .any, .any, .any, .any]) (ow1 := []) rfl rfl ?_
      obtain ⟨r_783, h_r_783, hf⟩ := bind_some hf
      obtain ⟨height_784, h_height_784, hf⟩ := bind_some hf
      refine SB.seqB (fun kx_ => sb_asg (sl' := [sv script_759, sv blocks_here_763, sv cuts_here_765, sv price_767, sv apart_781, .any, sv height_784, .any, .any, .any, .any, .any, .any, .any, .any]) rfl (EV.cast (ev_op (ev_var (i := 4) rfl) (ev_op (ev_call (ea_cons (ev_var (i := 0) rfl) (ea_cons (ev_int 1) ea_nil)) h_r_783) (ev_int 60) r2_mod) r2_add) (Option.some.inj h_height_784)) (kx_ _ _ ?_))
      obtain ⟨r_785, h_r_785, hf⟩ := bind_some hf
      obtain ⟨⟨depths_786, paper_787, _⟩, h_depths_786, hf⟩ := bind_some hf
      refine SB.seqB (fun kx_ => sb_unp (sl' := [sv script_759, sv blocks_here_763, sv cuts_here_765, sv price_767, sv apart_781, .any, sv height_784, sv depths_786, sv paper_787, .any, .any, .any, .any, .any, .any]) (EV.cast (ev_callX (ea_cons (EN.ev (en_cb (ea_cons (ev_var (i := 1) rfl) ea_nil) rc_list)) (ea_cons (ev_var (i := 3) rfl) (ea_cons (ev_var (i := 6) rfl) ea_nil))) (unX_is h_r_785)) (Option.some.inj h_depths_786)) (gt_tup (gts_cons (gt_name rfl) (gts_cons (gt_name rfl) gts_nil))) (kx_ _ _ ?_))
      obtain ⟨r_789, h_r_789, hf⟩ := bind_some hf
      refine SB.seqB (fun kx_791 => sb_if (b := (!decide (r_789 = true))) (et_test (ev_op (ev_call (ea_cons (ev_var (i := 1) rfl) (ea_cons (ev_var (i := 3) rfl) (ea_cons (ev_var (i := 6) rfl) (ea_cons (ev_up (ev_var (i := 7) rfl)) (ea_cons (ev_up (ev_var (i := 8) rfl)) ea_nil))))) h_r_789) (ev_bool true) r2_notB)) (fun hb_790 => ?_) (fun hb_790 => ?_))
      · have hf := ite_t hb_790 hf
        cases hf
        exact sb_ret (ev_bool false) q (List.Sublist.refl _)
      · have hf := ite_f hb_790 hf
        refine sb_nx ?_
        refine kx_791 _ _ ?_
        obtain ⟨r_793, h_r_793, hf⟩ := bind_some hf
        obtain ⟨r_794, h_r_794, hf⟩ := bind_some hf
        refine SB.seqB (fun kx_796 => sb_if (b := (!decide (r_794 = true))) (et_test (ev_op (ev_call (ea_cons (ev_var (i := 1) rfl) (ea_cons (ev_var (i := 3) rfl) (ea_cons (ev_var (i := 6) rfl) (ea_cons (ev_up (EN.ev (en_call (ea_cons (ev_var (i := 2) rfl) (ea_cons (ev_var (i := 3) rfl) (ea_cons (ev_var (i := 6) rfl) (ea_cons (ev_var (i := 7) rfl) (ea_cons (ev_var (i := 8) rfl) ea_nil))))) h_r_793))) (ea_cons (ev_up (ev_var (i := 8) rfl)) ea_nil))))) h_r_794) (ev_bool true) r2_notB)) (fun hb_795 => ?_) (fun hb_795 => ?_))
        · have hf := ite_t hb_795 hf
          cases hf
          exact sb_ret (ev_bool false) q (List.Sublist.refl _)
        · have hf := ite_f hb_795 hf
          refine sb_nx ?_
          refine kx_796 _ _ ?_
          obtain ⟨tot_802, h_tot_802, hf⟩ := bind_some hf
          refine SB.seqB (fun kx_842 => sb_for (β := Int) (Sx := Unit) (fun s => [sv script_759, sv blocks_here_763, sv cuts_here_765, sv price_767, sv apart_781, .any, sv height_784, sv depths_786, sv paper_787, .any, .any, .any, .any, .any, .any]) (fun s => []) (fun x s => [sv script_759, sv blocks_here_763, sv cuts_here_765, sv price_767, sv apart_781, .any, sv height_784, sv depths_786, sv paper_787, sv x, .any, .any, .any, .any, .any]) [9] (fun xs s => forC (m_law_L2 blocks_here_763 cuts_here_765 price_767 height_784 depths_786 paper_787) xs s = some tot_802) () (IT.m (it_list (EN.ev (en_slF (ev_var (i := 0) rfl) (eo_some (ev_int 2)) (eo_some (ev_int 16)))))) h_tot_802 (.keep (.keep (.keep (.keep (.keep (.keep (.keep (.keep (.keep (.keep (.keep (.keep (.keep (.keep (.keep .nil))))))))))))))) (List.Sublist.refl _) (fun x s => (gt_name rfl)) ?_ ?_)
          · intro Kn1 b1 cell_797 rest_ s_ hP_799 N_ hN_798
            obtain ⟨c_, hc_800, hP_799⟩ := bind_some hP_799
            have q_801 := q.base b1
            unfold m_law_L2 at hc_800
            refine SB.is (sl' := [sv script_759, sv blocks_here_763, sv cuts_here_765, sv price_767, sv apart_781, .any, sv height_784, sv depths_786, sv paper_787, sv cell_797, .any, .any, .any, .any, .any]) (ow1 := []) rfl rfl ?_
            obtain ⟨r_803, h_r_803, hc_800⟩ := bind_some hc_800
            obtain ⟨some_804, h_some_804, hc_800⟩ := bind_some hc_800
            refine SB.seqB (fun kx_ => sb_asg (sl' := [sv script_759, sv blocks_here_763, sv cuts_here_765, sv price_767, sv apart_781, .any, sv height_784, sv depths_786, sv paper_787, sv cell_797, sv some_804, .any, .any, .any, .any]) rfl (EV.cast (EN.ev (en_call (ea_cons (ev_op (ev_var (i := 9) rfl) (ev_int 2) r2_div) (ea_cons (ev_int 7) ea_nil)) h_r_803)) (Option.some.inj h_some_804)) (kx_ _ _ ?_))
            obtain ⟨others_805, h_others_805, hc_800⟩ := bind_some hc_800
            refine SB.seqB (fun kx_ => sb_asgO (sl' := fun p_others_805 => [sv script_759, sv blocks_here_763, sv cuts_here_765, sv price_767, sv apart_781, .any, sv height_784, sv depths_786, sv paper_787, sv cell_797, sv some_804, .at p_others_805, .any, .any, .any]) (fun _ => rfl) (EN.cast (en_lst (el_cons (ev_up (EN.ev (en_cb (ea_cons (ev_var (i := 7) rfl) ea_nil) rc_list))) (el_cons (ev_up (EN.ev (en_cb (ea_cons (ev_var (i := 8) rfl) ea_nil) rc_list))) el_nil))) (Option.some.inj h_others_805)) (fun p_others_805 => (kx_ _ _ ?_)))
            obtain ⟨i_807, h_i_807, hc_800⟩ := bind_some hc_800
            obtain ⟨others_811, hj_806, hc_800⟩ := bind_some hc_800
            refine SB.cutB (sl' := [sv script_759, sv blocks_here_763, sv cuts_here_765, sv price_767, sv apart_781, .any, sv height_784, sv depths_786, sv paper_787, sv cell_797, sv some_804, .at p_others_805, .any, .any, .any]) (ow1 := [ol p_others_805 others_811]) (fun km_812 => sb_if (b := (decide ((0 : Int) < (i_807 % (3 : Int))))) (et_test (ev_op (ev_op (ev_op (ev_var (i := 10) rfl) (ev_int 6) (r2_ixL h_i_807)) (ev_int 3) r2_mod) (ev_int 0) r2_gt)) (fun hb_808 => ?_) (fun hb_808 => ?_)) ?_
            · have hj_806 := ite_t hb_808 hj_806
              obtain ⟨r_809, h_r_809, hj_806⟩ := bind_some hj_806
              obtain ⟨others_810, h_others_810, hj_806⟩ := bind_some hj_806
              refine sb_setO (i := 11) (j := 0) rfl rfl (ev_call (ea_cons (ev_var (i := 7) rfl) (ea_cons (ev_var (i := 10) rfl) ea_nil)) h_r_809) (ev_int 0) h_others_810 (ow1 := [ol p_others_805 others_810]) rfl ?_
              cases hj_806
              exact km_812 _ _ (.keep (.keep (.keep (.keep (.keep (.keep (.keep (.keep (.keep (.keep (.keep (.keep (.keep (.keep (.keep .nil))))))))))))))) (List.Sublist.refl _)
            · have hj_806 := ite_f hb_808 hj_806
              refine sb_nx ?_
              cases hj_806
              exact km_812 _ _ (.keep (.keep (.keep (.keep (.keep (.keep (.keep (.keep (.keep (.keep (.keep (.keep (.keep (.keep (.keep .nil))))))))))))))) (List.Sublist.refl _)
            obtain ⟨i_814, h_i_814, hc_800⟩ := bind_some hc_800
            obtain ⟨others_818, hj_813, hc_800⟩ := bind_some hc_800
            refine SB.cutB (sl' := [sv script_759, sv blocks_here_763, sv cuts_here_765, sv price_767, sv apart_781, .any, sv height_784, sv depths_786, sv paper_787, sv cell_797, sv some_804, .at p_others_805, .any, .any, .any]) (ow1 := [ol p_others_805 others_818]) (fun km_819 => sb_if (b := (!decide ((i_814 % (3 : Int)) = (1 : Int)))) (et_test (ev_op (ev_op (ev_op (ev_var (i := 10) rfl) (ev_int 6) (r2_ixL h_i_814)) (ev_int 3) r2_mod) (ev_int 1) r2_neI)) (fun hb_815 => ?_) (fun hb_815 => ?_)) ?_
            · have hj_813 := ite_t hb_815 hj_813
              obtain ⟨r_816, h_r_816, hj_813⟩ := bind_some hj_813
              obtain ⟨others_817, h_others_817, hj_813⟩ := bind_some hj_813
              refine sb_setO (i := 11) (j := 0) rfl rfl (ev_call (ea_cons (ev_var (i := 8) rfl) (ea_cons (EN.ev (en_sl (ev_var (i := 10) rfl) (eo_some (ev_int 3)) eo_none)) ea_nil)) h_r_816) (ev_int 1) h_others_817 (ow1 := [ol p_others_805 others_817]) rfl ?_
              cases hj_813
              exact km_819 _ _ (.keep (.keep (.keep (.keep (.keep (.keep (.keep (.keep (.keep (.keep (.keep (.keep (.keep (.keep (.keep .nil))))))))))))))) (List.Sublist.refl _)
            · have hj_813 := ite_f hb_815 hj_813
              refine sb_nx ?_
              cases hj_813
              exact km_819 _ _ (.keep (.keep (.keep (.keep (.keep (.keep (.keep (.keep (.keep (.keep (.keep (.keep (.keep (.keep (.keep .nil))))))))))))))) (List.Sublist.refl _)
            refine sb_freeze (i := 11) (j := 0) (sl' := [sv script_759, sv blocks_here_763, sv cuts_here_765, sv price_767, sv apart_781, .any, sv height_784, sv depths_786, sv paper_787, sv cell_797, sv some_804, sv others_818, .any, .any, .any]) (ow1 := []) rfl rfl rfl rfl ?_
            obtain ⟨i_820, h_i_820, hc_800⟩ := bind_some hc_800
            obtain ⟨r_821, h_r_821, hc_800⟩ := bind_some hc_800
            obtain ⟨due_822, h_due_822, hc_800⟩ := bind_some hc_800
            refine SB.seqB (fun kx_ => sb_asg (sl' := [sv script_759, sv blocks_here_763, sv cuts_here_765, sv price_767, sv apart_781, .any, sv height_784, sv depths_786, sv paper_787, sv cell_797, sv some_804, sv others_818, sv due_822, .any, .any]) rfl (EV.cast (ev_call (ea_cons (ev_op (ev_var (i := 11) rfl) (ev_int 1) (r2_ixL h_i_820)) (ea_cons (ev_var (i := 2) rfl) ea_nil)) h_r_821) (Option.some.inj h_due_822)) (kx_ _ _ ?_))
            obtain ⟨due_833, hj_823, hc_800⟩ := bind_some hc_800
            refine SB.cutB (sl' := [sv script_759, sv blocks_here_763, sv cuts_here_765, sv price_767, sv apart_781, .any, sv height_784, sv depths_786, sv paper_787, sv cell_797, sv some_804, sv others_818, sv due_833, .any, .any]) (ow1 := []) (fun km_834 => sb_if (b := due_822) (et_B (ev_var (i := 12) rfl)) (fun hb_824 => ?_) (fun hb_824 => ?_)) ?_
            · have hj_823 := ite_t hb_824 hj_823
              obtain ⟨i_825, h_i_825, hj_823⟩ := bind_some hj_823
              obtain ⟨r_826, h_r_826, hj_823⟩ := bind_some hj_823
              obtain ⟨cost_here_827, h_cost_here_827, hj_823⟩ := bind_some hj_823
              refine SB.seqB (fun kx_ => sb_asg (sl' := [sv script_759, sv blocks_here_763, sv cuts_here_765, sv price_767, sv apart_781, .any, sv height_784, sv depths_786, sv paper_787, sv cell_797, sv some_804, sv others_818, sv due_822, sv cost_here_827, .any]) rfl (EV.cast (ev_call (ea_cons (ev_var (i := 2) rfl) (ea_cons (ev_var (i := 3) rfl) (ea_cons (ev_var (i := 6) rfl) (ea_cons (ev_op (ev_var (i := 11) rfl) (ev_int 0) (r2_ixL h_i_825)) ea_nil)))) h_r_826) (Option.some.inj h_cost_here_827)) (kx_ _ _ ?_))
              obtain ⟨b_831, h_b_831, hj_823⟩ := bind_some hj_823
              obtain ⟨due_832, h_due_832, hj_823⟩ := bind_some hj_823
              refine sb_asg (sl' := [sv script_759, sv blocks_here_763, sv cuts_here_765, sv price_767, sv apart_781, .any, sv height_784, sv depths_786, sv paper_787, sv cell_797, sv some_804, sv others_818, sv due_832, sv cost_here_827, .any]) rfl (EV.cast (ev_andO h_b_831 (ev_op (ev_var (i := 13) rfl) ev_nn r2_notN) (fun _ _ h => by obtain ⟨i_828, h_i_828, h⟩ := bind_some h; obtain ⟨s_829, h_s_829, h⟩ := bind_some h; obtain ⟨r_830, h_r_830, h⟩ := bind_some h; have hz_ := Option.some.inj h; subst hz_; exact (ev_call (ea_cons (ev_var (i := 2) rfl) (ea_cons (ev_var (i := 3) rfl) (ea_cons (ev_var (i := 6) rfl) (ea_cons (ev_op (ev_var (i := 11) rfl) (ev_int 1) (r2_ixL h_i_828)) (ea_cons (ev_unopt (ev_var (i := 13) rfl) h_s_829) ea_nil))))) h_r_830))) (Option.some.inj h_due_832)) ?_
              cases hj_823
              exact km_834 _ _ (.keep (.keep (.keep (.keep (.keep (.keep (.keep (.keep (.keep (.keep (.keep (.keep (.keep (.drop (.keep .nil))))))))))))))) (List.Sublist.refl _)
            · have hj_823 := ite_f hb_824 hj_823
              refine sb_nx ?_
              cases hj_823
              exact km_834 _ _ (.keep (.keep (.keep (.keep (.keep (.keep (.keep (.keep (.keep (.keep (.keep (.keep (.keep (.keep (.keep .nil))))))))))))))) (List.Sublist.refl _)
            obtain ⟨i_835, h_i_835, hc_800⟩ := bind_some hc_800
            obtain ⟨i_836, h_i_836, hc_800⟩ := bind_some hc_800
            obtain ⟨r_837, h_r_837, hc_800⟩ := bind_some hc_800
            obtain ⟨found_838, h_found_838, hc_800⟩ := bind_some hc_800
            refine SB.seqB (fun kx_ => sb_asg (sl' := [sv script_759, sv blocks_here_763, sv cuts_here_765, sv price_767, sv apart_781, .any, sv height_784, sv depths_786, sv paper_787, sv cell_797, sv some_804, sv others_818, sv due_833, .any, sv found_838]) rfl (EV.cast (ev_call (ea_cons (ev_var (i := 1) rfl) (ea_cons (ev_var (i := 3) rfl) (ea_cons (ev_var (i := 6) rfl) (ea_cons (ev_op (ev_var (i := 11) rfl) (ev_int 0) (r2_ixL h_i_835)) (ea_cons (ev_op (ev_var (i := 11) rfl) (ev_int 1) (r2_ixL h_i_836)) ea_nil))))) h_r_837) (Option.some.inj h_found_838)) (kx_ _ _ ?_))
            refine sb_if (b := ((!true) || (!decide (found_838 = due_833)))) (et_or (et_not (et_B (ev_cb (ea_cons (ev_var (i := 14) rfl) (ea_cons (ev_ty "bool") ea_nil)) (rc_isi (b := true) (by decide +kernel))))) (fun _ => (et_test (ev_op (ev_var (i := 14) rfl) (ev_var (i := 12) rfl) r2_neB)))) (fun hb_840 => ?_) (fun hb_840 => ?_)
            · have hc_800 := ite_t hb_840 hc_800
              cases hc_800
              replace hP_799 : some (Ctl.rt false) = some tot_802 := hP_799
              cases hP_799
              replace hf : some false = some r_ := hf
              cases hf
              exact sb_ret (ev_bool false) q_801 (List.Sublist.refl _)
            · have hc_800 := ite_f hb_840 hc_800
              refine sb_nx ?_
              cases hc_800
              exact fun σ Kn H s => hN_798 _ hP_799 σ Kn H ((s.le (.keep (.keep (.keep (.keep (.keep (.keep (.keep (.keep (.keep (.drop (.drop (.drop (.drop (.keep (.drop .nil)))))))))))))))).sub (List.Sublist.refl _))
          · intro s_ h0
            cases h0
            refine kx_842 _ _ ?_
            refine SB.is (sl' := [sv script_759, sv blocks_here_763, sv cuts_here_765, sv price_767, sv apart_781, .any, sv height_784, sv depths_786, sv paper_787, .any, .any, .any, .any, .any, .any]) (ow1 := []) rfl rfl ?_
            obtain ⟨r_843, h_r_843, hf⟩ := bind_some hf
            cases hf
            exact sb_ret (ev_op (ev_call (ea_cons (ev_var (i := 1) rfl) (ea_cons (ev_var (i := 3) rfl) (ea_cons (ev_var (i := 6) rfl) (ea_cons (ev_up (ev_var (i := 7) rfl)) (ea_cons (ev_up (ev_var (i := 8) rfl)) ea_nil))))) h_r_843) (ev_bool true) r2_isB) q (List.Sublist.refl _)
end
theorem all_mk (main : ∀ ns : List Int, ns.length ≤ 63 → m_law (Fz.mk ns) = some true) {l : PySem.W.OpenLaw} {w : World} {K : Fg} {h : Heap} {mg : Str → Option Value} {fa f_cuts_of f_page_cost f_between f_costs_of f_step_to f_set_pages f_is_whole f_is_page_paper f_pages_cost f_pages_shown f__law_cell_at f__law_numbers f__law_blocks f__law_cuts f__law_cost f__law_is_number f__law_is_paper f__law_shows f__law_another f__law_other_depths f__law_other_paper f_law : Addr} (X : K.In h) (G : h.Ns mainGlobals mg) (hfa : mg "law" = some (.ref fa))
     {od_cuts_of an_cuts_of : Option Addr} {sl_cuts_of : Array (Option Value)} {oc_cuts_of kV_cuts_of dc_cuts_of pm_cuts_of cd_cuts_of ct_cuts_of : Value} {od_page_cost an_page_cost : Option Addr} {sl_page_cost : Array (Option Value)} {oc_page_cost kV_page_cost dc_page_cost pm_page_cost cd_page_cost ct_page_cost : Value} {od_between an_between : Option Addr} {sl_between : Array (Option Value)} {oc_between kV_between dc_between pm_between cd_between ct_between : Value} {od_costs_of an_costs_of : Option Addr} {sl_costs_of : Array (Option Value)} {oc_costs_of kV_costs_of dc_costs_of pm_costs_of cd_costs_of ct_costs_of : Value} {od_step_to an_step_to : Option Addr} {sl_step_to : Array (Option Value)} {oc_step_to kV_step_to dc_step_to pm_step_to cd_step_to ct_step_to : Value} {od_set_pages an_set_pages : Option Addr} {sl_set_pages : Array (Option Value)} {oc_set_pages kV_set_pages dc_set_pages pm_set_pages cd_set_pages ct_set_pages : Value} {od_is_whole an_is_whole : Option Addr} {sl_is_whole : Array (Option Value)} {oc_is_whole kV_is_whole dc_is_whole pm_is_whole cd_is_whole ct_is_whole : Value} {od_is_page_paper an_is_page_paper : Option Addr} {sl_is_page_paper : Array (Option Value)} {oc_is_page_paper kV_is_page_paper dc_is_page_paper pm_is_page_paper cd_is_page_paper ct_is_page_paper : Value} {od_pages_cost an_pages_cost : Option Addr} {sl_pages_cost : Array (Option Value)} {oc_pages_cost kV_pages_cost dc_pages_cost pm_pages_cost cd_pages_cost ct_pages_cost : Value} {od_pages_shown an_pages_shown : Option Addr} {sl_pages_shown : Array (Option Value)} {oc_pages_shown kV_pages_shown dc_pages_shown pm_pages_shown cd_pages_shown ct_pages_shown : Value} {od__law_cell_at an__law_cell_at : Option Addr} {sl__law_cell_at : Array (Option Value)} {oc__law_cell_at kV__law_cell_at dc__law_cell_at pm__law_cell_at cd__law_cell_at ct__law_cell_at : Value} {od__law_numbers an__law_numbers : Option Addr} {sl__law_numbers : Array (Option Value)} {oc__law_numbers kV__law_numbers dc__law_numbers pm__law_numbers cd__law_numbers ct__law_numbers : Value} {od__law_blocks an__law_blocks : Option Addr} {sl__law_blocks : Array (Option Value)} {oc__law_blocks kV__law_blocks dc__law_blocks pm__law_blocks cd__law_blocks ct__law_blocks : Value} {od__law_cuts an__law_cuts : Option Addr} {sl__law_cuts : Array (Option Value)} {oc__law_cuts kV__law_cuts dc__law_cuts pm__law_cuts cd__law_cuts ct__law_cuts : Value} {od__law_cost an__law_cost : Option Addr} {sl__law_cost : Array (Option Value)} {oc__law_cost kV__law_cost dc__law_cost pm__law_cost cd__law_cost ct__law_cost : Value} {od__law_is_number an__law_is_number : Option Addr} {sl__law_is_number : Array (Option Value)} {oc__law_is_number kV__law_is_number dc__law_is_number pm__law_is_number cd__law_is_number ct__law_is_number : Value} {od__law_is_paper an__law_is_paper : Option Addr} {sl__law_is_paper : Array (Option Value)} {oc__law_is_paper kV__law_is_paper dc__law_is_paper pm__law_is_paper cd__law_is_paper ct__law_is_paper : Value} {od__law_shows an__law_shows : Option Addr} {sl__law_shows : Array (Option Value)} {oc__law_shows kV__law_shows dc__law_shows pm__law_shows cd__law_shows ct__law_shows : Value} {od__law_another an__law_another : Option Addr} {sl__law_another : Array (Option Value)} {oc__law_another kV__law_another dc__law_another pm__law_another cd__law_another ct__law_another : Value} {od__law_other_depths an__law_other_depths : Option Addr} {sl__law_other_depths : Array (Option Value)} {oc__law_other_depths kV__law_other_depths dc__law_other_depths pm__law_other_depths cd__law_other_depths ct__law_other_depths : Value} {od__law_other_paper an__law_other_paper : Option Addr} {sl__law_other_paper : Array (Option Value)} {oc__law_other_paper kV__law_other_paper dc__law_other_paper pm__law_other_paper cd__law_other_paper ct__law_other_paper : Value} {od_law an_law : Option Addr} {sl_law : Array (Option Value)} {oc_law kV_law dc_law pm_law cd_law ct_law : Value} {c_NoPages : Addr} {c_BoxError : Addr} {nm_NoPages qn_NoPages : Str} {nn_NoPages : Addr} {bs_NoPages : List Value} {sn_NoPages : List Str} {su_NoPages : List Value} {ab_NoPages : Bool} {co_NoPages : Option Bool} {dd_NoPages : Option Addr} {m0_NoPages m1_NoPages m2_NoPages m3_NoPages m5_NoPages : Option Value} {i_NoPages : Addr} {iod_NoPages ian_NoPages : Option Addr} {isl_NoPages : Array (Option Value)} {ioc_NoPages ikV_NoPages idc_NoPages ipm_NoPages icd_NoPages ict_NoPages : Value}
    (a_cuts_of : PySem.W.nsIn K mainGlobals "cuts_of" = some (some (.ref f_cuts_of))) (l_cuts_of : K.lookup f_cuts_of = some ⟨oc_cuts_of, od_cuts_of, .func (PySem.W.fnOf "cuts_of" "cuts_of" (defArgs s_cuts_of) (defBody s_cuts_of) (defScope s_cuts_of) .none kV_cuts_of dc_cuts_of pm_cuts_of an_cuts_of cd_cuts_of ct_cuts_of), sl_cuts_of⟩) (c_cuts_of : PySem.W.codeIn K cd_cuts_of "cuts_of" = true) (k_cuts_of : PySem.W.keepIn K (.ref f_cuts_of) = true)
    (a_page_cost : PySem.W.nsIn K mainGlobals "page_cost" = some (some (.ref f_page_cost))) (l_page_cost : K.lookup f_page_cost = some ⟨oc_page_cost, od_page_cost, .func (PySem.W.fnOf "page_cost" "page_cost" (defArgs s_page_cost) (defBody s_page_cost) (defScope s_page_cost) .none kV_page_cost dc_page_cost pm_page_cost an_page_cost cd_page_cost ct_page_cost), sl_page_cost⟩) (c_page_cost : PySem.W.codeIn K cd_page_cost "page_cost" = true) (k_page_cost : PySem.W.keepIn K (.ref f_page_cost) = true)
    (a_between : PySem.W.nsIn K mainGlobals "between" = some (some (.ref f_between))) (l_between : K.lookup f_between = some ⟨oc_between, od_between, .func (PySem.W.fnOf "between" "between" (defArgs s_between) (defBody s_between) (defScope s_between) .none kV_between dc_between pm_between an_between cd_between ct_between), sl_between⟩) (c_between : PySem.W.codeIn K cd_between "between" = true) (k_between : PySem.W.keepIn K (.ref f_between) = true)
    (a_costs_of : PySem.W.nsIn K mainGlobals "costs_of" = some (some (.ref f_costs_of))) (l_costs_of : K.lookup f_costs_of = some ⟨oc_costs_of, od_costs_of, .func (PySem.W.fnOf "costs_of" "costs_of" (defArgs s_costs_of) (defBody s_costs_of) (defScope s_costs_of) .none kV_costs_of dc_costs_of pm_costs_of an_costs_of cd_costs_of ct_costs_of), sl_costs_of⟩) (c_costs_of : PySem.W.codeIn K cd_costs_of "costs_of" = true) (k_costs_of : PySem.W.keepIn K (.ref f_costs_of) = true)
    (a_step_to : PySem.W.nsIn K mainGlobals "step_to" = some (some (.ref f_step_to))) (l_step_to : K.lookup f_step_to = some ⟨oc_step_to, od_step_to, .func (PySem.W.fnOf "step_to" "step_to" (defArgs s_step_to) (defBody s_step_to) (defScope s_step_to) .none kV_step_to dc_step_to pm_step_to an_step_to cd_step_to ct_step_to), sl_step_to⟩) (c_step_to : PySem.W.codeIn K cd_step_to "step_to" = true) (k_step_to : PySem.W.keepIn K (.ref f_step_to) = true)
    (a_set_pages : PySem.W.nsIn K mainGlobals "set_pages" = some (some (.ref f_set_pages))) (l_set_pages : K.lookup f_set_pages = some ⟨oc_set_pages, od_set_pages, .func (PySem.W.fnOf "set_pages" "set_pages" (defArgs s_set_pages) (defBody s_set_pages) (defScope s_set_pages) .none kV_set_pages dc_set_pages pm_set_pages an_set_pages cd_set_pages ct_set_pages), sl_set_pages⟩) (c_set_pages : PySem.W.codeIn K cd_set_pages "set_pages" = true) (k_set_pages : PySem.W.keepIn K (.ref f_set_pages) = true)
    (a_is_whole : PySem.W.nsIn K mainGlobals "is_whole" = some (some (.ref f_is_whole))) (l_is_whole : K.lookup f_is_whole = some ⟨oc_is_whole, od_is_whole, .func (PySem.W.fnOf "is_whole" "is_whole" (defArgs s_is_whole) (defBody s_is_whole) (defScope s_is_whole) .none kV_is_whole dc_is_whole pm_is_whole an_is_whole cd_is_whole ct_is_whole), sl_is_whole⟩) (c_is_whole : PySem.W.codeIn K cd_is_whole "is_whole" = true) (k_is_whole : PySem.W.keepIn K (.ref f_is_whole) = true)
    (a_is_page_paper : PySem.W.nsIn K mainGlobals "is_page_paper" = some (some (.ref f_is_page_paper))) (l_is_page_paper : K.lookup f_is_page_paper = some ⟨oc_is_page_paper, od_is_page_paper, .func (PySem.W.fnOf "is_page_paper" "is_page_paper" (defArgs s_is_page_paper) (defBody s_is_page_paper) (defScope s_is_page_paper) .none kV_is_page_paper dc_is_page_paper pm_is_page_paper an_is_page_paper cd_is_page_paper ct_is_page_paper), sl_is_page_paper⟩) (c_is_page_paper : PySem.W.codeIn K cd_is_page_paper "is_page_paper" = true) (k_is_page_paper : PySem.W.keepIn K (.ref f_is_page_paper) = true)
    (a_pages_cost : PySem.W.nsIn K mainGlobals "pages_cost" = some (some (.ref f_pages_cost))) (l_pages_cost : K.lookup f_pages_cost = some ⟨oc_pages_cost, od_pages_cost, .func (PySem.W.fnOf "pages_cost" "pages_cost" (defArgs s_pages_cost) (defBody s_pages_cost) (defScope s_pages_cost) .none kV_pages_cost dc_pages_cost pm_pages_cost an_pages_cost cd_pages_cost ct_pages_cost), sl_pages_cost⟩) (c_pages_cost : PySem.W.codeIn K cd_pages_cost "pages_cost" = true) (k_pages_cost : PySem.W.keepIn K (.ref f_pages_cost) = true)
    (a_pages_shown : PySem.W.nsIn K mainGlobals "pages_shown" = some (some (.ref f_pages_shown))) (l_pages_shown : K.lookup f_pages_shown = some ⟨oc_pages_shown, od_pages_shown, .func (PySem.W.fnOf "pages_shown" "pages_shown" (defArgs s_pages_shown) (defBody s_pages_shown) (defScope s_pages_shown) .none kV_pages_shown dc_pages_shown pm_pages_shown an_pages_shown cd_pages_shown ct_pages_shown), sl_pages_shown⟩) (c_pages_shown : PySem.W.codeIn K cd_pages_shown "pages_shown" = true) (k_pages_shown : PySem.W.keepIn K (.ref f_pages_shown) = true)
    (a__law_cell_at : PySem.W.nsIn K mainGlobals "_law_cell_at" = some (some (.ref f__law_cell_at))) (l__law_cell_at : K.lookup f__law_cell_at = some ⟨oc__law_cell_at, od__law_cell_at, .func (PySem.W.fnOf "_law_cell_at" "_law_cell_at" (defArgs s__law_cell_at) (defBody s__law_cell_at) (defScope s__law_cell_at) .none kV__law_cell_at dc__law_cell_at pm__law_cell_at an__law_cell_at cd__law_cell_at ct__law_cell_at), sl__law_cell_at⟩) (c__law_cell_at : PySem.W.codeIn K cd__law_cell_at "_law_cell_at" = true) (k__law_cell_at : PySem.W.keepIn K (.ref f__law_cell_at) = true)
    (a__law_numbers : PySem.W.nsIn K mainGlobals "_law_numbers" = some (some (.ref f__law_numbers))) (l__law_numbers : K.lookup f__law_numbers = some ⟨oc__law_numbers, od__law_numbers, .func (PySem.W.fnOf "_law_numbers" "_law_numbers" (defArgs s__law_numbers) (defBody s__law_numbers) (defScope s__law_numbers) .none kV__law_numbers dc__law_numbers pm__law_numbers an__law_numbers cd__law_numbers ct__law_numbers), sl__law_numbers⟩) (c__law_numbers : PySem.W.codeIn K cd__law_numbers "_law_numbers" = true) (k__law_numbers : PySem.W.keepIn K (.ref f__law_numbers) = true)
    (a__law_blocks : PySem.W.nsIn K mainGlobals "_law_blocks" = some (some (.ref f__law_blocks))) (l__law_blocks : K.lookup f__law_blocks = some ⟨oc__law_blocks, od__law_blocks, .func (PySem.W.fnOf "_law_blocks" "_law_blocks" (defArgs s__law_blocks) (defBody s__law_blocks) (defScope s__law_blocks) .none kV__law_blocks dc__law_blocks pm__law_blocks an__law_blocks cd__law_blocks ct__law_blocks), sl__law_blocks⟩) (c__law_blocks : PySem.W.codeIn K cd__law_blocks "_law_blocks" = true) (k__law_blocks : PySem.W.keepIn K (.ref f__law_blocks) = true)
    (a__law_cuts : PySem.W.nsIn K mainGlobals "_law_cuts" = some (some (.ref f__law_cuts))) (l__law_cuts : K.lookup f__law_cuts = some ⟨oc__law_cuts, od__law_cuts, .func (PySem.W.fnOf "_law_cuts" "_law_cuts" (defArgs s__law_cuts) (defBody s__law_cuts) (defScope s__law_cuts) .none kV__law_cuts dc__law_cuts pm__law_cuts an__law_cuts cd__law_cuts ct__law_cuts), sl__law_cuts⟩) (c__law_cuts : PySem.W.codeIn K cd__law_cuts "_law_cuts" = true) (k__law_cuts : PySem.W.keepIn K (.ref f__law_cuts) = true)
    (a__law_cost : PySem.W.nsIn K mainGlobals "_law_cost" = some (some (.ref f__law_cost))) (l__law_cost : K.lookup f__law_cost = some ⟨oc__law_cost, od__law_cost, .func (PySem.W.fnOf "_law_cost" "_law_cost" (defArgs s__law_cost) (defBody s__law_cost) (defScope s__law_cost) .none kV__law_cost dc__law_cost pm__law_cost an__law_cost cd__law_cost ct__law_cost), sl__law_cost⟩) (c__law_cost : PySem.W.codeIn K cd__law_cost "_law_cost" = true) (k__law_cost : PySem.W.keepIn K (.ref f__law_cost) = true)
    (a__law_is_number : PySem.W.nsIn K mainGlobals "_law_is_number" = some (some (.ref f__law_is_number))) (l__law_is_number : K.lookup f__law_is_number = some ⟨oc__law_is_number, od__law_is_number, .func (PySem.W.fnOf "_law_is_number" "_law_is_number" (defArgs s__law_is_number) (defBody s__law_is_number) (defScope s__law_is_number) .none kV__law_is_number dc__law_is_number pm__law_is_number an__law_is_number cd__law_is_number ct__law_is_number), sl__law_is_number⟩) (c__law_is_number : PySem.W.codeIn K cd__law_is_number "_law_is_number" = true) (k__law_is_number : PySem.W.keepIn K (.ref f__law_is_number) = true)
    (a__law_is_paper : PySem.W.nsIn K mainGlobals "_law_is_paper" = some (some (.ref f__law_is_paper))) (l__law_is_paper : K.lookup f__law_is_paper = some ⟨oc__law_is_paper, od__law_is_paper, .func (PySem.W.fnOf "_law_is_paper" "_law_is_paper" (defArgs s__law_is_paper) (defBody s__law_is_paper) (defScope s__law_is_paper) .none kV__law_is_paper dc__law_is_paper pm__law_is_paper an__law_is_paper cd__law_is_paper ct__law_is_paper), sl__law_is_paper⟩) (c__law_is_paper : PySem.W.codeIn K cd__law_is_paper "_law_is_paper" = true) (k__law_is_paper : PySem.W.keepIn K (.ref f__law_is_paper) = true)
    (a__law_shows : PySem.W.nsIn K mainGlobals "_law_shows" = some (some (.ref f__law_shows))) (l__law_shows : K.lookup f__law_shows = some ⟨oc__law_shows, od__law_shows, .func (PySem.W.fnOf "_law_shows" "_law_shows" (defArgs s__law_shows) (defBody s__law_shows) (defScope s__law_shows) .none kV__law_shows dc__law_shows pm__law_shows an__law_shows cd__law_shows ct__law_shows), sl__law_shows⟩) (c__law_shows : PySem.W.codeIn K cd__law_shows "_law_shows" = true) (k__law_shows : PySem.W.keepIn K (.ref f__law_shows) = true)
    (a__law_another : PySem.W.nsIn K mainGlobals "_law_another" = some (some (.ref f__law_another))) (l__law_another : K.lookup f__law_another = some ⟨oc__law_another, od__law_another, .func (PySem.W.fnOf "_law_another" "_law_another" (defArgs s__law_another) (defBody s__law_another) (defScope s__law_another) .none kV__law_another dc__law_another pm__law_another an__law_another cd__law_another ct__law_another), sl__law_another⟩) (c__law_another : PySem.W.codeIn K cd__law_another "_law_another" = true) (k__law_another : PySem.W.keepIn K (.ref f__law_another) = true)
    (a__law_other_depths : PySem.W.nsIn K mainGlobals "_law_other_depths" = some (some (.ref f__law_other_depths))) (l__law_other_depths : K.lookup f__law_other_depths = some ⟨oc__law_other_depths, od__law_other_depths, .func (PySem.W.fnOf "_law_other_depths" "_law_other_depths" (defArgs s__law_other_depths) (defBody s__law_other_depths) (defScope s__law_other_depths) .none kV__law_other_depths dc__law_other_depths pm__law_other_depths an__law_other_depths cd__law_other_depths ct__law_other_depths), sl__law_other_depths⟩) (c__law_other_depths : PySem.W.codeIn K cd__law_other_depths "_law_other_depths" = true) (k__law_other_depths : PySem.W.keepIn K (.ref f__law_other_depths) = true)
    (a__law_other_paper : PySem.W.nsIn K mainGlobals "_law_other_paper" = some (some (.ref f__law_other_paper))) (l__law_other_paper : K.lookup f__law_other_paper = some ⟨oc__law_other_paper, od__law_other_paper, .func (PySem.W.fnOf "_law_other_paper" "_law_other_paper" (defArgs s__law_other_paper) (defBody s__law_other_paper) (defScope s__law_other_paper) .none kV__law_other_paper dc__law_other_paper pm__law_other_paper an__law_other_paper cd__law_other_paper ct__law_other_paper), sl__law_other_paper⟩) (c__law_other_paper : PySem.W.codeIn K cd__law_other_paper "_law_other_paper" = true) (k__law_other_paper : PySem.W.keepIn K (.ref f__law_other_paper) = true)
    (a_law : PySem.W.nsIn K mainGlobals "law" = some (some (.ref f_law))) (l_law : K.lookup f_law = some ⟨oc_law, od_law, .func (PySem.W.fnOf "law" "law" (defArgs s_law) (defBody s_law) (defScope s_law) .none kV_law dc_law pm_law an_law cd_law ct_law), sl_law⟩) (c_law : PySem.W.codeIn K cd_law "law" = true) (k_law : PySem.W.keepIn K (.ref f_law) = true)
    (aC_NoPages : PySem.W.nsIn K mainGlobals "NoPages" = some (some (.ref c_NoPages)))
    (aC_BoxError : PySem.W.nsIn K mainGlobals "BoxError" = some (some (.ref c_BoxError)))
    (xl_NoPages : K.lookup c_NoPages = some (excClassObj nm_NoPages qn_NoPages c_NoPages nn_NoPages bs_NoPages [.ref c_BoxError, .type "ValueError", .type "Exception", .type "BaseException", .type "object"] true sn_NoPages su_NoPages ab_NoPages co_NoPages dd_NoPages m0_NoPages m1_NoPages m2_NoPages m3_NoPages m5_NoPages "ValueError.__new__"))
    (fi_NoPages_init : PySem.W.findIn K (.ref c_NoPages) "__init__" = some (some (.ref i_NoPages)))
    (il_NoPages : K.lookup i_NoPages = some ⟨ioc_NoPages, iod_NoPages, .func (PySem.W.fnOf "__init__" "NoPages.__init__" (defArgs (inClass (topS 2) 0)) (defBody (inClass (topS 2) 0)) (defScope (inClass (topS 2) 0)) .none ikV_NoPages idc_NoPages ipm_NoPages ian_NoPages icd_NoPages ict_NoPages), isl_NoPages⟩)
    (ic_NoPages : PySem.W.codeIn K icd_NoPages "NoPages.__init__" = true)
    (ik_NoPages : PySem.W.keepIn K (.ref i_NoPages) = true)
    (it_NoPages : PySem.W.typeIn K (.ref i_NoPages) = some (.type "function"))
    (fi_NoPages_first : PySem.W.findIn K (.ref c_NoPages) "first" = some none)
    (fi_NoPages_last : PySem.W.findIn K (.ref c_NoPages) "last" = some none)
    (fi_NoPages_setattr : PySem.W.findIn K (.ref c_NoPages) "__setattr__" = some (some (.builtin "object.__setattr__")))
    (su_NoPages_BaseException : PySem.W.subIn K (.ref c_NoPages) (.type "BaseException") = some true)
    (ty_NoPages : PySem.W.typeIn K (.ref c_NoPages) = some (.type "type"))
    (kc_NoPages : PySem.W.keepIn K (.ref c_NoPages) = true)
    (fi_NoPages_getattribute : PySem.W.findIn K (.ref c_NoPages) "__getattribute__" = some (some (.builtin "BaseException.__getattribute__")))
    (fi_NoPages_getattr : PySem.W.findIn K (.ref c_NoPages) "__getattr__" = some none)
    (hd_NoPages : PySem.W.hasDictIn K c_NoPages = true)
    (sg_BoxError : PySem.W.specialIn K (.ref c_BoxError) "__getattribute__" = some (some (.builtin "type.__getattribute__")))
    (rd_BoxError : PySem.W.readsIn K c_BoxError (.type "type") = true)
    (fc_BoxError : PySem.W.findCls K (.ref c_BoxError) (.type "type") "__init__" = some (.val (.builtin "ValueError.__init__")))
    (z_bool : PySem.W.nsIn K mainGlobals "bool" = some none)
    (z_dict : PySem.W.nsIn K mainGlobals "dict" = some none)
    (z_enumerate : PySem.W.nsIn K mainGlobals "enumerate" = some none)
    (z_int : PySem.W.nsIn K mainGlobals "int" = some none)
    (z_isinstance : PySem.W.nsIn K mainGlobals "isinstance" = some none)
    (z_len : PySem.W.nsIn K mainGlobals "len" = some none)
    (z_list : PySem.W.nsIn K mainGlobals "list" = some none)
    (z_max : PySem.W.nsIn K mainGlobals "max" = some none)
    (z_min : PySem.W.nsIn K mainGlobals "min" = some none)
    (z_range : PySem.W.nsIn K mainGlobals "range" = some none)
    (z_set : PySem.W.nsIn K mainGlobals "set" = some none)
    (z_sorted : PySem.W.nsIn K mainGlobals "sorted" = some none)
    (z_tuple : PySem.W.nsIn K mainGlobals "tuple" = some none) :
    ∃ fd : FuncData, (∀ (s : Shared) (v : Value), BindsTo s fd ⟨[v], []⟩ [("_law_script", v)]) ∧ ∀ base : Heap, K.In base → base.Ns mainGlobals mg → FnOk l.prog w K mg base CX0 4 fa fd ["_law_script"] (spLaw K) := by
  have e := hfa.symm.trans (PySem.W.mg_of X G a_law)
  cases e
  have F_cuts_of := fun_mk (st := s_cuts_of) l_cuts_of c_cuts_of k_cuts_of
  have F_page_cost := fun_mk (st := s_page_cost) l_page_cost c_page_cost k_page_cost
  have F_between := fun_mk (st := s_between) l_between c_between k_between
  have F_costs_of := fun_mk (st := s_costs_of) l_costs_of c_costs_of k_costs_of
  have F_step_to := fun_mk (st := s_step_to) l_step_to c_step_to k_step_to
  have F_set_pages := fun_mk (st := s_set_pages) l_set_pages c_set_pages k_set_pages
  have F_is_whole := fun_mk (st := s_is_whole) l_is_whole c_is_whole k_is_whole
  have F_is_page_paper := fun_mk (st := s_is_page_paper) l_is_page_paper c_is_page_paper k_is_page_paper
  have F_pages_cost := fun_mk (st := s_pages_cost) l_pages_cost c_pages_cost k_pages_cost
  have F_pages_shown := fun_mk (st := s_pages_shown) l_pages_shown c_pages_shown k_pages_shown
  have F__law_cell_at := fun_mk (st := s__law_cell_at) l__law_cell_at c__law_cell_at k__law_cell_at
  have F__law_numbers := fun_mk (st := s__law_numbers) l__law_numbers c__law_numbers k__law_numbers
  have F__law_blocks := fun_mk (st := s__law_blocks) l__law_blocks c__law_blocks k__law_blocks
  have F__law_cuts := fun_mk (st := s__law_cuts) l__law_cuts c__law_cuts k__law_cuts
  have F__law_cost := fun_mk (st := s__law_cost) l__law_cost c__law_cost k__law_cost
  have F__law_is_number := fun_mk (st := s__law_is_number) l__law_is_number c__law_is_number k__law_is_number
  have F__law_is_paper := fun_mk (st := s__law_is_paper) l__law_is_paper c__law_is_paper k__law_is_paper
  have F__law_shows := fun_mk (st := s__law_shows) l__law_shows c__law_shows k__law_shows
  have F__law_another := fun_mk (st := s__law_another) l__law_another c__law_another k__law_another
  have F__law_other_depths := fun_mk (st := s__law_other_depths) l__law_other_depths c__law_other_depths k__law_other_depths
  have F__law_other_paper := fun_mk (st := s__law_other_paper) l__law_other_paper c__law_other_paper k__law_other_paper
  have F_law := fun_mk (st := s_law) l_law c_law k_law
  have b_cuts_of := F_cuts_of.binds (ps := ["blocks"]) fun _ _ _ _ _ _ us hl => match us, hl with | [_], _ => rfl
  have b_page_cost := F_page_cost.binds (ps := ["price", "height", "top", "cut"]) fun _ _ _ _ _ _ us hl => match us, hl with | [_, _, _, _], _ => rfl
  have b_between := F_between.binds (ps := ["blocks", "top", "end"]) fun _ _ _ _ _ _ us hl => match us, hl with | [_, _, _], _ => rfl
  have b_costs_of := F_costs_of.binds (ps := ["cuts", "price", "height"]) fun _ _ _ _ _ _ us hl => match us, hl with | [_, _, _], _ => rfl
  have b_step_to := F_step_to.binds (ps := ["paper", "price", "height", "depth", "cost", "cut"]) fun _ _ _ _ _ _ us hl => match us, hl with | [_, _, _, _, _, _], _ => rfl
  have b_set_pages := F_set_pages.binds (ps := ["blocks", "price", "height"]) fun _ _ _ _ _ _ us hl => match us, hl with | [_, _, _], _ => rfl
  have b_is_whole := F_is_whole.binds (ps := ["thing"]) fun _ _ _ _ _ _ us hl => match us, hl with | [_], _ => rfl
  have b_is_page_paper := F_is_page_paper.binds (ps := ["paper", "cuts"]) fun _ _ _ _ _ _ us hl => match us, hl with | [_, _], _ => rfl
  have b_pages_cost := F_pages_cost.binds (ps := ["cuts", "price", "height", "depths"]) fun _ _ _ _ _ _ us hl => match us, hl with | [_, _, _, _], _ => rfl
  have b_pages_shown := F_pages_shown.binds (ps := ["blocks", "price", "height", "depths", "paper"]) fun _ _ _ _ _ _ us hl => match us, hl with | [_, _, _, _, _], _ => rfl
  have b__law_cell_at := F__law_cell_at.binds (ps := ["_law_script", "_law_k"]) fun _ _ _ _ _ _ us hl => match us, hl with | [_, _], _ => rfl
  have b__law_numbers := F__law_numbers.binds (ps := ["_law_cell", "_law_many"]) fun _ _ _ _ _ _ us hl => match us, hl with | [_, _], _ => rfl
  have b__law_blocks := F__law_blocks.binds (ps := ["_law_cells"]) fun _ _ _ _ _ _ us hl => match us, hl with | [_], _ => rfl
  have b__law_cuts := F__law_cuts.binds (ps := ["_law_blocks_here"]) fun _ _ _ _ _ _ us hl => match us, hl with | [_], _ => rfl
  have b__law_cost := F__law_cost.binds (ps := ["_law_cuts_here", "_law_price", "_law_height", "_law_depths"]) fun _ _ _ _ _ _ us hl => match us, hl with | [_, _, _, _], _ => rfl
  have b__law_is_number := F__law_is_number.binds (ps := ["_law_thing"]) fun _ _ _ _ _ _ us hl => match us, hl with | [_], _ => rfl
  have b__law_is_paper := F__law_is_paper.binds (ps := ["_law_paper", "_law_cuts_here"]) fun _ _ _ _ _ _ us hl => match us, hl with | [_, _], _ => rfl
  have b__law_shows := F__law_shows.binds (ps := ["_law_cuts_here", "_law_price", "_law_height", "_law_paper", "_law_cost_here"]) fun _ _ _ _ _ _ us hl => match us, hl with | [_, _, _, _, _], _ => rfl
  have b__law_another := F__law_another.binds (ps := ["_law_cuts_here", "_law_price", "_law_height", "_law_depths", "_law_paper"]) fun _ _ _ _ _ _ us hl => match us, hl with | [_, _, _, _, _], _ => rfl
  have b__law_other_depths := F__law_other_depths.binds (ps := ["_law_depths", "_law_some"]) fun _ _ _ _ _ _ us hl => match us, hl with | [_, _], _ => rfl
  have b__law_other_paper := F__law_other_paper.binds (ps := ["_law_paper", "_law_some"]) fun _ _ _ _ _ _ us hl => match us, hl with | [_, _], _ => rfl
  have b_law := F_law.binds (ps := ["_law_script"]) fun _ _ _ _ _ _ us hl => match us, hl with | [_], _ => rfl
  have Fi_NoPages := fun_mk (st := (inClass (topS 2) 0)) il_NoPages ic_NoPages ik_NoPages
  let T : TX K mg w := ⟨_, _, F_cuts_of, b_cuts_of, PySem.W.mg_of X G a_cuts_of, _, _, F_page_cost, b_page_cost, PySem.W.mg_of X G a_page_cost, _, _, F_between, b_between, PySem.W.mg_of X G a_between, _, _, F_costs_of, b_costs_of, PySem.W.mg_of X G a_costs_of, _, _, F_step_to, b_step_to, PySem.W.mg_of X G a_step_to, _, _, F_set_pages, b_set_pages, PySem.W.mg_of X G a_set_pages, _, _, F_is_whole, b_is_whole, PySem.W.mg_of X G a_is_whole, _, _, F_is_page_paper, b_is_page_paper, PySem.W.mg_of X G a_is_page_paper, _, _, F_pages_cost, b_pages_cost, PySem.W.mg_of X G a_pages_cost, _, _, F_pages_shown, b_pages_shown, PySem.W.mg_of X G a_pages_shown, _, _, F__law_cell_at, b__law_cell_at, PySem.W.mg_of X G a__law_cell_at, _, _, F__law_numbers, b__law_numbers, PySem.W.mg_of X G a__law_numbers, _, _, F__law_blocks, b__law_blocks, PySem.W.mg_of X G a__law_blocks, _, _, F__law_cuts, b__law_cuts, PySem.W.mg_of X G a__law_cuts, _, _, F__law_cost, b__law_cost, PySem.W.mg_of X G a__law_cost, _, _, F__law_is_number, b__law_is_number, PySem.W.mg_of X G a__law_is_number, _, _, F__law_is_paper, b__law_is_paper, PySem.W.mg_of X G a__law_is_paper, _, _, F__law_shows, b__law_shows, PySem.W.mg_of X G a__law_shows, _, _, F__law_another, b__law_another, PySem.W.mg_of X G a__law_another, _, _, F__law_other_depths, b__law_other_depths, PySem.W.mg_of X G a__law_other_depths, _, _, F__law_other_paper, b__law_other_paper, PySem.W.mg_of X G a__law_other_paper, _, _, F_law, b_law, PySem.W.mg_of X G a_law, PySem.W.mg_none_of X G z_bool, PySem.W.mg_none_of X G z_dict, PySem.W.mg_none_of X G z_enumerate, PySem.W.mg_none_of X G z_int, PySem.W.mg_none_of X G z_isinstance, PySem.W.mg_none_of X G z_len, PySem.W.mg_none_of X G z_list, PySem.W.mg_none_of X G z_max, PySem.W.mg_none_of X G z_min, PySem.W.mg_none_of X G z_range, PySem.W.mg_none_of X G z_set, PySem.W.mg_none_of X G z_sorted, PySem.W.mg_none_of X G z_tuple, _, PySem.W.mg_of X G aC_NoPages, _, PySem.W.mg_of X G aC_BoxError, ⟨⟨nm_NoPages, qn_NoPages, nn_NoPages, bs_NoPages, _, sn_NoPages, su_NoPages, ab_NoPages, co_NoPages, dd_NoPages, m0_NoPages, m1_NoPages, m2_NoPages, m3_NoPages, m5_NoPages, xl_NoPages, by rfl⟩, fi_NoPages_setattr, su_NoPages_BaseException, ty_NoPages, kc_NoPages⟩, (fun f hf => by rcases List.mem_cons.mp hf with rfl | hf; exact fi_NoPages_first; rcases List.mem_cons.mp hf with rfl | hf; exact fi_NoPages_last; cases hf), _, _, Fi_NoPages, (Fi_NoPages.binds (ps := ["self", "first", "last"]) fun _ _ _ _ _ _ us hl => match us, hl with | [_, _, _], _ => rfl), fi_NoPages_init, it_NoPages, ⟨fi_NoPages_getattribute, fi_NoPages_getattr, su_NoPages_BaseException, hd_NoPages⟩, sg_BoxError, rd_BoxError, fc_BoxError⟩
  refine ⟨PySem.W.fnOf "law" "law" (defArgs s_law) (defBody s_law) (defScope s_law) .none kV_law dc_law pm_law an_law cd_law ct_law, fun s v => .of_eq rfl, fun base _ _ => ?_⟩
  exact fn_weak (ok_law T) main
end Wk77
/-! Wp: plain facts about the mirrors' words -/
namespace Wk
open PySem L2

theorem bs {α β : Type} (a : α) (f : α → Option β) : (some a).bind f = f a := by rw [Option.bind_some]
theorem bind_ok {α β : Type} {m : Option α} {f : α → Option β} {a : α} (h : m = some a) : m.bind f = f a := by rw [h]; rfl
theorem atI_ok {α : Type} {xs : List α} {i : Int} (h0 : 0 ≤ i) (h : i < xs.length) : atI xs i = xs[i.toNat]? := by
  obtain ⟨k, rfl⟩ := Int.eq_ofNat_of_zero_le h0
  have hk : k < xs.length := by omega
  have e : xs[k]? = some xs[k] := List.getElem?_eq_getElem hk
  rw [show ((k : Int)).toNat = k from rfl, e]
  exact atI_nat e
theorem atI_some {α : Type} {xs : List α} {i : Int} (h0 : 0 ≤ i) (h : i < xs.length) : ∃ x, atI xs i = some x ∧ xs[i.toNat]? = some x := by
  have hk : i.toNat < xs.length := by omega
  exact ⟨xs[i.toNat], by rw [atI_ok h0 h]; exact List.getElem?_eq_getElem hk, List.getElem?_eq_getElem hk⟩
theorem pick2 {α : Type} (x y : α) {k : Int} (h0 : 0 ≤ k) (h : k < 2) : atI [x, y] k = some (if k = 0 then x else y) := by
  rcases (show k = 0 ∨ k = 1 by omega) with rfl | rfl <;> rfl
theorem pick3 {α : Type} (x y z : α) {k : Int} (h0 : 0 ≤ k) (h : k < 3) : atI [x, y, z] k = some (if k = 0 then x else if k = 1 then y else z) := by
  rcases (show k = 0 ∨ k = 1 ∨ k = 2 by omega) with rfl | rfl | rfl <;> rfl
theorem pick4 {α : Type} (x y z u : α) {k : Int} (h0 : 0 ≤ k) (h : k < 4) : atI [x, y, z, u] k = some (if k = 0 then x else if k = 1 then y else if k = 2 then z else u) := by
  rcases (show k = 0 ∨ k = 1 ∨ k = 2 ∨ k = 3 by omega) with rfl | rfl | rfl | rfl <;> rfl
theorem forC_all {β R : Type} {f : β → Unit → Option (Ctl Unit R)} : ∀ {xs : List β}, (∀ x ∈ xs, f x () = some (.nx ())) → forC f xs () = some (.nx ())
  | [], _ => rfl
  | x :: xs, h => by
    unfold forC
    rw [h x List.mem_cons_self]
    exact forC_all fun y hy => h y (List.mem_cons_of_mem _ hy)
/-- a loop that always goes on, by an invariant -/
theorem forC_inv {β Sx R : Type} {f : β → Sx → Option (Ctl Sx R)} (I : List β → Sx → Prop) : ∀ {xs : List β} {s : Sx}, I xs s → (∀ x rest s, I (x :: rest) s → ∃ s', f x s = some (.nx s') ∧ I rest s') → ∃ s', forC f xs s = some (.nx s') ∧ I [] s'
  | [], s, h, _ => ⟨s, rfl, h⟩
  | x :: xs, s, h, hs => by
    obtain ⟨s', e, h'⟩ := hs x xs s h
    obtain ⟨s2, e2, h2⟩ := forC_inv I h' hs
    refine ⟨s2, ?_, h2⟩
    unfold forC
    rw [e]
    exact e2
theorem forS_inv {β Sx : Type} {f : β → Sx → Option Sx} (I : List β → Sx → Prop) : ∀ {xs : List β} {s : Sx}, I xs s → (∀ x rest s, I (x :: rest) s → ∃ s', f x s = some s' ∧ I rest s') → ∃ s', forS f xs s = some s' ∧ I [] s'
  | [], s, h, _ => ⟨s, rfl, h⟩
  | x :: xs, s, h, hs => by
    obtain ⟨s', e, h'⟩ := hs x xs s h
    obtain ⟨s2, e2, h2⟩ := forS_inv I h' hs
    refine ⟨s2, ?_, h2⟩
    unfold forS
    rw [e]
    exact e2
/-- a loop as a fold -/
theorem forS_fold {β Sx : Type} {f : β → Sx → Option Sx} (g : Sx → β → Sx) (I : List β → Sx → Prop) : ∀ {xs : List β} {s : Sx}, I xs s → (∀ x rest s, I (x :: rest) s → f x s = some (g s x) ∧ I rest (g s x)) → forS f xs s = some (xs.foldl g s)
  | [], s, h, _ => rfl
  | x :: xs, s, h, hs => by
    obtain ⟨e, h'⟩ := hs x xs s h
    unfold forS
    rw [e]
    exact forS_fold g I h' hs
theorem forS_cons {β Sx : Type} {f : β → Sx → Option Sx} {x : β} {xs : List β} {s s' : Sx} (h : f x s = some s') : forS f (x :: xs) s = forS f xs s' := by
  show ((f x s).bind _) = _
  rw [h]
  rfl
theorem forC_cons {β Sx R : Type} {f : β → Sx → Option (Ctl Sx R)} {x : β} {xs : List β} {s s' : Sx} (h : f x s = some (.nx s')) : forC f (x :: xs) s = forC f xs s' := by
  show ((f x s).bind _) = _
  rw [h]
  rfl
/-- by places -/
theorem forS_ix {β Sx : Type} {f : β → Sx → Option Sx} {xs : List β} (P : Nat → Sx → Prop) {s : Sx} (h0 : P 0 s) (step : ∀ (i : Nat) (hi : i < xs.length) s, P i s → ∃ s', f xs[i] s = some s' ∧ P (i + 1) s') : ∃ s', forS f xs s = some s' ∧ P xs.length s' := by
  have key : ∀ (m i : Nat) (s : Sx), i + m = xs.length → P i s → ∃ s', forS f (xs.drop i) s = some s' ∧ P xs.length s' := by
    intro m
    induction m with
    | zero =>
      intro i s hi hp
      have e : i = xs.length := by omega
      subst e
      rw [List.drop_length]
      exact ⟨s, rfl, hp⟩
    | succ m ih =>
      intro i s hi hp
      have hl : i < xs.length := by omega
      obtain ⟨s', e, hp'⟩ := step i hl s hp
      obtain ⟨r, e2, h2⟩ := ih (i + 1) s' (by omega) hp'
      refine ⟨r, ?_, h2⟩
      rw [List.drop_eq_getElem_cons hl, forS_cons e]
      exact e2
  have := key xs.length 0 s (by omega) h0
  rwa [List.drop_zero] at this
theorem forC_ix {β Sx R : Type} {f : β → Sx → Option (Ctl Sx R)} {xs : List β} (P : Nat → Sx → Prop) {s : Sx} (h0 : P 0 s) (step : ∀ (i : Nat) (hi : i < xs.length) s, P i s → ∃ s', f xs[i] s = some (.nx s') ∧ P (i + 1) s') : ∃ s', forC f xs s = some (.nx s') ∧ P xs.length s' := by
  have key : ∀ (m i : Nat) (s : Sx), i + m = xs.length → P i s → ∃ s', forC f (xs.drop i) s = some (.nx s') ∧ P xs.length s' := by
    intro m
    induction m with
    | zero =>
      intro i s hi hp
      have e : i = xs.length := by omega
      subst e
      rw [List.drop_length]
      exact ⟨s, rfl, hp⟩
    | succ m ih =>
      intro i s hi hp
      have hl : i < xs.length := by omega
      obtain ⟨s', e, hp'⟩ := step i hl s hp
      obtain ⟨r, e2, h2⟩ := ih (i + 1) s' (by omega) hp'
      refine ⟨r, ?_, h2⟩
      rw [List.drop_eq_getElem_cons hl, forC_cons e]
      exact e2
  have := key xs.length 0 s (by omega) h0
  rwa [List.drop_zero] at this
/-- two loops over one list, turn by turn -/
theorem forS2_ix {β S1 S2 : Type} {f1 : β → S1 → Option S1} {f2 : β → S2 → Option S2} {xs : List β} (P : Nat → S1 → S2 → Prop) {s1 : S1} {s2 : S2} (h0 : P 0 s1 s2)
    (step : ∀ (i : Nat) (hi : i < xs.length) s1 s2, P i s1 s2 → ∃ s1' s2', f1 xs[i] s1 = some s1' ∧ f2 xs[i] s2 = some s2' ∧ P (i + 1) s1' s2') : ∃ r1 r2, forS f1 xs s1 = some r1 ∧ forS f2 xs s2 = some r2 ∧ P xs.length r1 r2 := by
  have key : ∀ (m i : Nat) (s1 : S1) (s2 : S2), i + m = xs.length → P i s1 s2 → ∃ r1 r2, forS f1 (xs.drop i) s1 = some r1 ∧ forS f2 (xs.drop i) s2 = some r2 ∧ P xs.length r1 r2 := by
    intro m
    induction m with
    | zero =>
      intro i s1 s2 hi hp
      have e : i = xs.length := by omega
      subst e
      rw [List.drop_length]
      exact ⟨s1, s2, rfl, rfl, hp⟩
    | succ m ih =>
      intro i s1 s2 hi hp
      have hl : i < xs.length := by omega
      obtain ⟨a, b, e1, e2, hp'⟩ := step i hl s1 s2 hp
      obtain ⟨r1, r2, h1, h2, h3⟩ := ih (i + 1) a b (by omega) hp'
      refine ⟨r1, r2, ?_, ?_, h3⟩
      · rw [List.drop_eq_getElem_cons hl, forS_cons e1]
        exact h1
      · rw [List.drop_eq_getElem_cons hl, forS_cons e2]
        exact h2
  have := key xs.length 0 s1 s2 (by omega) h0
  rwa [List.drop_zero] at this
theorem enumI_at {α : Type} (xs : List α) (i : Nat) (hi : i < (enumI xs).length) : (enumI xs)[i] = ((i : Int), xs[i]'(by simpa [enumI] using hi), ()) := by simp [enumI]
theorem whileS_inv {Sx : Type} {c : Sx → Option Bool} {f : Sx → Option Sx} (I : Sx → Prop) (μ : Sx → Nat) (step : ∀ s, I s → ∃ b, c s = some b ∧ (b = true → ∃ s', f s = some s' ∧ I s' ∧ μ s' < μ s)) :
    ∀ (n : Nat) {s : Sx}, I s → μ s < n → ∃ s', whileS c f n s = some s' ∧ I s' ∧ c s' = some false
  | 0, _, _, h => absurd h (Nat.not_lt_zero _)
  | n + 1, s, hI, hn => by
    obtain ⟨b, hb, hs⟩ := step s hI
    unfold whileS
    rw [hb]
    cases b with
    | false => exact ⟨s, rfl, hI, hb⟩
    | true =>
      obtain ⟨s', e, hI', hm⟩ := hs rfl
      obtain ⟨s2, e2, h2⟩ := whileS_inv I μ step n hI' (by omega)
      refine ⟨s2, ?_, h2⟩
      show ((f s).bind _) = _
      rw [e]
      exact e2
theorem whileF_inv {Sx : Type} {c : Sx → Option Bool} {f : Sx → Option Sx} (I : Sx → Prop) (μ : Sx → Nat) (step : ∀ s, I s → ∃ b, c s = some b ∧ (b = true → ∃ s', f s = some s' ∧ I s' ∧ μ s' < μ s)) {s : Sx} (h : I s) :
    ∃ s', whileF c f s = some s' ∧ I s' ∧ c s' = some false := by
  obtain ⟨s', e, h1, h2⟩ := whileS_inv I μ step (μ s + 1) h (Nat.lt_succ_self _)
  exact ⟨s', whileF_of e, h1, h2⟩
theorem cut_len {α : Type} (xs : List α) (lo hi : Option Int) : (cut xs lo hi).length ≤ xs.length := by
  unfold cut
  rw [List.length_take, List.length_drop]
  omega
theorem cut_mem {α : Type} {xs : List α} {lo hi : Option Int} {x : α} (h : x ∈ cut xs lo hi) : x ∈ xs := List.mem_of_mem_drop (List.mem_of_mem_take h)
theorem cut_from {α : Type} (xs : List α) (k : Nat) : cut xs (some (k : Int)) none = xs.drop k := by
  unfold cut
  rw [HT.sIx_nat, HT.sIx_none]
  by_cases h : k ≤ xs.length
  · rw [Nat.min_eq_left h, List.take_of_length_le (by rw [List.length_drop]; omega)]
  · rw [Nat.min_eq_right (by omega), List.drop_eq_nil_of_le (Nat.le_refl _), List.drop_eq_nil_of_le (show xs.length ≤ k by omega)]
    exact List.take_nil
theorem cut_to {α : Type} (xs : List α) (k : Nat) : cut xs none (some (k : Int)) = xs.take k := by
  unfold cut
  rw [HT.sIx_nat, HT.sIx_none, List.drop_zero, Nat.sub_zero]
  by_cases h : k ≤ xs.length
  · rw [Nat.min_eq_left h]
  · rw [Nat.min_eq_right (by omega), List.take_of_length_le (Nat.le_refl _), List.take_of_length_le (by omega)]
theorem rngO_ok {lo hi : Int} (h1 : -1000000000000 ≤ lo) (h2 : lo ≤ 1000000000000) (h3 : -1000000000000 ≤ hi) (h4 : hi ≤ 1000000000000) : rngO lo hi = some (irange lo hi) := if_pos ⟨h1, h2, h3, h4⟩
theorem irange_len (lo hi : Int) : (irange lo hi).length = (hi - lo).toNat := by simp [irange]
theorem enumI_len {α : Type} (xs : List α) : (enumI xs).length = xs.length := by simp [enumI]
theorem lcM_len {β γ : Type} {c : β → Option Bool} {f : β → Option γ} {xs : List β} (h : xs.length < 1000000) : lcM c f xs = lcGo c f xs := if_pos h
theorem lcGo_all {β γ : Type} {f : β → Option γ} (g : β → γ) : ∀ {xs : List β}, (∀ x ∈ xs, f x = some (g x)) → lcGo (fun _ => some true) f xs = some (xs.map g)
  | [], _ => rfl
  | x :: xs, h => by
    unfold lcGo
    show ((f x).bind _) = _
    rw [h x List.mem_cons_self, lcGo_all g fun y hy => h y (List.mem_cons_of_mem _ hy)]
    rfl
theorem lcGo_if {β γ : Type} {c : β → Option Bool} {f : β → Option γ} (p : β → Bool) (g : β → γ) : ∀ {xs : List β}, (∀ x ∈ xs, c x = some (p x)) → (∀ x ∈ xs, p x = true → f x = some (g x)) → lcGo c f xs = some ((xs.filter p).map g)
  | [], _, _ => rfl
  | x :: xs, hc, h => by
    unfold lcGo
    rw [hc x List.mem_cons_self]
    have ih := lcGo_if p g (xs := xs) (fun y hy => hc y (List.mem_cons_of_mem _ hy)) (fun y hy => h y (List.mem_cons_of_mem _ hy))
    cases e : p x with
    | true =>
      show ((f x).bind _) = _
      rw [h x List.mem_cons_self e, ih, List.filter_cons_of_pos e]
      rfl
    | false =>
      show lcGo c f xs = _
      rw [ih, List.filter_cons_of_neg (by rw [e]; exact Bool.false_ne_true)]
theorem lcM_all {β γ : Type} {f : β → Option γ} (g : β → γ) {xs : List β} (hl : xs.length < 1000000) (h : ∀ x ∈ xs, f x = some (g x)) : lcM (fun _ => some true) f xs = some (xs.map g) := by
  rw [lcM_len hl, lcGo_all g h]
/-- draws, one an item -/
theorem lcSGo_inv {β γ Sx : Type} {f : β → Sx → Option (γ × Sx)} (I : Sx → Prop) (P : γ → Prop) (step : ∀ x s, I s → ∃ z s', f x s = some (z, s') ∧ I s' ∧ P z) :
    ∀ {xs : List β} {s : Sx}, I s → ∃ zs s', lcSGo f xs s = some (zs, s') ∧ I s' ∧ zs.length = xs.length ∧ ∀ z ∈ zs, P z
  | [], s, h => ⟨[], s, rfl, h, rfl, fun _ hz => nomatch hz⟩
  | x :: xs, s, h => by
    obtain ⟨z, s', e, h', hp⟩ := step x s h
    obtain ⟨zs, s2, e2, h2, hl, hz⟩ := lcSGo_inv I P step (xs := xs) h'
    refine ⟨z :: zs, s2, ?_, h2, by rw [List.length_cons, List.length_cons, hl], fun y hy => ?_⟩
    · unfold lcSGo
      rw [e]
      show ((lcSGo f xs s').bind _) = _
      rw [e2]
      rfl
    · rcases List.mem_cons.mp hy with rfl | hy
      · exact hp
      · exact hz y hy
theorem lcS_inv {β γ Sx : Type} {f : β → Sx → Option (γ × Sx)} (I : Sx → Prop) (P : γ → Prop) (step : ∀ x s, I s → ∃ z s', f x s = some (z, s') ∧ I s' ∧ P z) {xs : List β} {s : Sx} (hl : xs.length < 1000000) (h : I s) :
    ∃ zs s', lcS f xs s = some (zs, s') ∧ I s' ∧ zs.length = xs.length ∧ ∀ z ∈ zs, P z := by
  unfold lcS
  rw [if_pos hl]
  exact lcSGo_inv I P step h
theorem forS_app {β γ : Type} {f : β → List γ → Option (List γ)} (g : β → γ) : ∀ {xs : List β} {s : List γ}, s.length + xs.length ≤ 1000000 → (∀ x ∈ xs, ∀ s : List γ, s.length < 1000000 → f x s = some (s ++ [g x])) → forS f xs s = some (s ++ xs.map g)
  | [], s, _, _ => by rw [List.map_nil, List.append_nil]; rfl
  | x :: xs, s, hl, h => by
    rw [List.length_cons] at hl
    rw [forS_cons (h x List.mem_cons_self s (by omega)), forS_app g (by rw [List.length_append, List.length_singleton]; omega) fun y hy => h y (List.mem_cons_of_mem _ hy), List.map_cons, List.append_assoc]
    rfl
theorem enumI_mem {α : Type} [Rp α] {xs : List α} {y : Int × α × Unit} (h : y ∈ enumI xs) : ∃ (i : Nat) (x : α), xs[i]? = some x ∧ y = ((i : Int), x, ()) := by
  obtain ⟨i, hi⟩ := List.getElem?_of_mem h
  obtain ⟨x, hx, e⟩ := enum_get hi
  exact ⟨i, x, hx, e⟩
theorem zipI_mem {α β : Type} [Rp α] [Rp β] {xs : List α} {ys : List β} {z : α × β × Unit} (h : z ∈ zipI xs ys) : ∃ (i : Nat) (x : α) (y : β), xs[i]? = some x ∧ ys[i]? = some y ∧ z = (x, y, ()) := by
  obtain ⟨i, hi⟩ := List.getElem?_of_mem h
  obtain ⟨x, y, hx, hy, e⟩ := zip_get hi
  exact ⟨i, x, y, hx, hy, e⟩
/-! texts -/
theorem len_app (x y : Str) : (x ++ y).length = x.length + y.length := by
  show (x.cps ++ y.cps).size = _
  rw [Array.size_append]
  rfl
theorem ok_app {x y : Str} (hx : PyData.strOk x = true) (hy : PyData.strOk y = true) : PyData.strOk (x ++ y) = true := by
  show (x.cps ++ y.cps).all _ = true
  rw [Array.all_append]
  exact Bool.and_eq_true_iff.mpr ⟨hx, hy⟩
theorem ok_join {s : Str} (hs : PyData.strOk s = true) : ∀ {ys : List Str}, (∀ y ∈ ys, PyData.strOk y = true) → PyData.strOk (Str.join s ys) = true
  | [], _ => by
    unfold Str.join
    decide +kernel
  | [x], h => h x List.mem_cons_self
  | x :: y :: r, h => ok_app (ok_app (h x List.mem_cons_self) hs) (ok_join hs fun z hz => h z (List.mem_cons_of_mem _ hz))
theorem joinO_ok {s : Str} {ys : List Str} (h : (ys.map (·.length)).sum + ys.length * s.length ≤ 1000000) : joinO s ys = some (Str.join s ys) := by
  unfold joinO
  rw [if_pos h, TL.join_eq]
/-- a sign of a written text -/
theorem ixS_ok {s : Str} {i : Int} (hl : s.length ≤ 100000) (h0 : 0 ≤ i) (h : i < (s.length : Int)) (hs : PyData.strOk s = true) : ∃ c, ixS s i = some ⟨#[c]⟩ ∧ PyData.strOk ⟨#[c]⟩ = true ∧ (⟨#[c]⟩ : Str).length = 1 := by
  have hl2 : s.cps.toList.length = s.length := Array.length_toList
  obtain ⟨c, e, e2⟩ := atI_some (xs := s.cps.toList) h0 (by rw [hl2]; exact h)
  refine ⟨c, ?_, ?_, rfl⟩
  · unfold ixS
    rw [if_pos hl, e]
    rfl
  · have hm : c ∈ s.cps := Array.mem_toList_iff.mp (List.mem_of_getElem? e2)
    have := Array.all_eq_true'.mp hs c hm
    show (#[c] : Array Nat).all _ = true
    simpa using this
/-! dicts, and more -/
theorem cut_init {α : Type} (xs : List α) : cut xs none (some (-(1 : Int))) = xs.dropLast := by
  unfold cut
  rw [HT.sIx_none, List.drop_zero, Nat.sub_zero, List.dropLast_eq_take]
  have e : HT.sIx xs.length xs.length (some (-(1 : Int))) = (-(1 : Int) + (xs.length : Int)).toNat := rfl
  rw [e]
  congr 1
  omega
theorem mem_irange {x a b : Int} : x ∈ irange a b ↔ a ≤ x ∧ x < b := by
  unfold irange
  rw [List.mem_map]
  constructor
  · rintro ⟨k, hk, rfl⟩
    rw [List.mem_range] at hk
    omega
  · intro h
    exact ⟨(x - a).toNat, List.mem_range.mpr (by omega), by omega⟩
section
variable {κ β : Type} [DecidableEq κ]
theorem getD_pos {p : κ × β} {r : List (κ × β)} {k : κ} (e : p.1 = k) : getD (p :: r) k = some p.2 := by simp [getD, List.find?_cons, e]
theorem getD_neg {p : κ × β} {r : List (κ × β)} {k : κ} (e : ¬ p.1 = k) : getD (p :: r) k = getD r k := by simp [getD, List.find?_cons, e]
theorem getD_map (k j : κ) (y : β) : ∀ kvs : List (κ × β), getD (kvs.map fun kv => if kv.1 = k then (kv.1, y) else kv) j = (getD kvs j).map fun x => if j = k then y else x
  | [] => rfl
  | p :: r => by
    rw [List.map_cons]
    have ih := getD_map k j y r
    by_cases a : p.1 = k
    · rw [if_pos a]
      by_cases b : p.1 = j
      · rw [getD_pos (p := (p.1, y)) b, getD_pos b, Option.map_some, if_pos (b.symm.trans a)]
      · rw [getD_neg (p := (p.1, y)) b, getD_neg b, ih]
    · rw [if_neg a]
      by_cases b : p.1 = j
      · rw [getD_pos b, getD_pos b, Option.map_some, if_neg (fun z => a (b.trans z))]
      · rw [getD_neg b, getD_neg b, ih]
theorem getD_snoc (k j : κ) (y : β) : ∀ kvs : List (κ × β), getD kvs k = none → getD (kvs ++ [(k, y)]) j = if j = k then some y else getD kvs j
  | [], _ => by
    by_cases e : k = j
    · rw [List.nil_append, getD_pos (p := (k, y)) e, if_pos e.symm]
    · rw [List.nil_append, getD_neg (p := (k, y)) e, if_neg (Ne.symm e)]
  | p :: r, h => by
    have hk : ¬ p.1 = k := fun e => by rw [getD_pos e] at h; cases h
    rw [getD_neg hk] at h
    have ih := getD_snoc k j y r h
    rw [List.cons_append]
    by_cases e : p.1 = j
    · rw [getD_pos e, getD_pos e, if_neg (fun z => hk (e.trans z))]
    · rw [getD_neg e, getD_neg e, ih]
theorem getD_put (kvs : List (κ × β)) (k j : κ) (y : β) : getD (putD kvs k y) j = if j = k then some y else getD kvs j := by
  unfold putD
  by_cases a : (getD kvs k).isSome = true
  · rw [if_pos a, getD_map]
    by_cases e : j = k
    · obtain ⟨x, hx⟩ := Option.isSome_iff_exists.mp a
      rw [if_pos e, e, hx, Option.map_some, if_pos rfl]
    · rw [if_neg e]
      cases getD kvs j with
      | none => rfl
      | some x => rw [Option.map_some, if_neg e]
  · rw [if_neg a]
    refine getD_snoc k j y kvs ?_
    cases q : getD kvs k with
    | none => rfl
    | some x => rw [q] at a; exact (a rfl).elim
theorem len_put (kvs : List (κ × β)) (k : κ) (y : β) : (putD kvs k y).length ≤ kvs.length + 1 := by
  unfold putD
  split
  · rw [List.length_map]; omega
  · rw [List.length_append, List.length_cons, List.length_nil]; omega
theorem putO_ok {d : Dc κ β} {k : κ} {y : β} (h : d.l.length < 1000000) : putO d k y = some ⟨putD d.l k y⟩ := if_pos h
end
theorem forC_any {β R : Type} {f : β → Unit → Option (Ctl Unit R)} {r : R} (p : β → Bool) : ∀ {xs : List β}, (∀ x ∈ xs, f x () = some (if p x = true then .rt r else .nx ())) → forC f xs () = some (if xs.any p = true then .rt r else .nx ())
  | [], _ => rfl
  | x :: xs, h => by
    have hx := h x List.mem_cons_self
    cases e : p x with
    | true =>
      rw [e] at hx
      show ((f x ()).bind _) = _
      rw [hx, List.any_cons, e]
      rfl
    | false =>
      rw [e] at hx
      rw [forC_cons (s' := ()) hx, forC_any p fun y hy => h y (List.mem_cons_of_mem _ hy), List.any_cons, e]
      rfl
end Wk
set_option synthInstance.maxHeartbeats 400000
set_option synthInstance.maxSize 2000
/-! k77: the plain law -/
namespace Wk77
open PySem L2 Wk
theorem numbers_ok (cell many : Int) (h0 : 0 ≤ many) (hm : many ≤ 1000) : ∃ f, m__law_numbers cell many = some f ∧ f.length = many.toNat := by
  unfold m__law_numbers
  simp only [bs]
  by_cases hc : 0 ≤ cell - 1000000000000000000
  · rw [decide_eq_true hc]
    simp only [if_true]
    rw [rngO_ok (by omega) (by omega) (by omega) (by omega)]
    simp only [bs]
    obtain ⟨⟨n, f⟩, e, h⟩ := forS_inv (f := m__law_numbers_L1) (fun rest s => s.2.length + rest.length = many.toNat) (xs := irange 0 many) (s := (cell - 1000000000000000000, [])) (by rw [irange_len]; simp) (fun x rest s hs => by
      obtain ⟨n, f⟩ := s
      have hs : f.length + (rest.length + 1) = many.toNat := hs
      refine ⟨(n / 5040, f ++ [n % 5040]), ?_, ?_⟩
      · unfold m__law_numbers_L1
        simp only [appO_ok (show f.length < 1000000 by omega), bs]
      · show (f ++ [n % 5040]).length + rest.length = _
        rw [List.length_append, List.length_singleton]
        omega)
    rw [e]
    exact ⟨f, rfl, h⟩
  · rw [decide_eq_false hc]
    simp only [Bool.false_eq_true, if_false, bs]
    rw [rngO_ok (by omega) (by omega) (by omega) (by omega)]
    simp only [bs]
    obtain ⟨⟨n, f⟩, e, h⟩ := forS_inv (f := m__law_numbers_L2) (fun rest s => s.2.length + rest.length = many.toNat + 1) (xs := irange 0 (many + 1)) (s := (cell % 2147483647, [])) (by rw [irange_len]; show 0 + _ = _; omega) (fun x rest s hs => by
      obtain ⟨n, f⟩ := s
      have hs : f.length + (rest.length + 1) = many.toNat + 1 := hs
      refine ⟨((n + x + 1) * 48271 % 2147483647, f ++ [((n + x + 1) * 48271 % 2147483647) * 69621 % 2147483629]), ?_, ?_⟩
      · unfold m__law_numbers_L2
        simp only [appO_ok (show f.length < 1000000 by omega), bs]
      · show (f ++ [((n + x + 1) * 48271 % 2147483647) * 69621 % 2147483629]).length + rest.length = _
        rw [List.length_append, List.length_singleton]
        omega)
    rw [e]
    simp only [bs]
    rw [show cut f (some (1 : Int)) none = f.drop 1 from cut_from f 1]
    have h : f.length + 0 = many.toNat + 1 := h
    exact ⟨_, rfl, by rw [List.length_drop]; omega⟩
theorem cell_at {ns : List Int} (k : Int) (h0 : 0 ≤ k) : ∃ c, m__law_cell_at (Fz.mk ns) k = some c := by
  unfold m__law_cell_at
  by_cases h : k < (ns.length : Int)
  · obtain ⟨x, e, _⟩ := atI_some (xs := ns) h0 h
    exact ⟨x, by rw [if_pos (decide_eq_true h), e]; rfl⟩
  · exact ⟨0, by rw [if_neg (by simpa using h)]⟩
/-! data of any kind -/
def okn (d : PyData) (n : Nat) : Prop := d.canLay0 = true ∧ d.depth ≤ n
theorem okn.mono {d : PyData} {n m : Nat} (h : okn d n) (l : n ≤ m) : okn d m := ⟨h.1, Nat.le_trans h.2 l⟩
theorem okn_int (i : Int) (n : Nat) : okn (.int i) n := ⟨by simp only [PyData.canLay0], by simp only [PyData.depth]; exact Nat.zero_le _⟩
theorem okn_str {s : Str} (h : PyData.strOk s = true) (n : Nat) : okn (.str s) n := ⟨by simp only [PyData.canLay0, h], by simp only [PyData.depth]; exact Nat.zero_le _⟩
theorem okn_tup {ds : List PyData} {n : Nat} (h : ∀ d ∈ ds, okn d n) : okn (.tuple ds) (n + 1) := by
  have h1 : PyData.canLayAll0 ds = true := by
    induction ds with
    | nil => rfl
    | cons d ds ih =>
      simp only [PyData.canLayAll0, (h d List.mem_cons_self).1, ih fun e he => h e (List.mem_cons_of_mem _ he), Bool.and_self]
  have h2 : PyData.depthAll ds ≤ n := by
    induction ds with
    | nil => exact Nat.zero_le _
    | cons d ds ih =>
      simp only [PyData.depthAll]
      refine Nat.max_le.mpr ⟨(h d List.mem_cons_self).2, ih (fun e he => h e (List.mem_cons_of_mem _ he)) ?_⟩
      simp only [PyData.canLayAll0, Bool.and_eq_true] at h1
      exact h1.2
  exact ⟨by simp only [PyData.canLay0, h1], by simp only [PyData.depth]; omega⟩
theorem okn_cons {d : PyData} {ds : List PyData} {n : Nat} (h : okn d n) (hs : ∀ e ∈ ds, okn e n) : ∀ e ∈ d :: ds, okn e n := fun e he => by
  rcases List.mem_cons.mp he with rfl | he
  · exact h
  · exact hs e he
theorem okn_nil {n : Nat} : ∀ e ∈ ([] : List PyData), okn e n := fun _ h => nomatch h
theorem okn_shaped {d : PyData} {n : Nat} (h : okn d n) (l : n ≤ 64) : SeqAt.shaped d = true := by
  unfold SeqAt.shaped
  rw [h.1, decide_eq_true (Nat.le_trans h.2 l)]
  rfl
theorem eqY_self {d : PyData} {n : Nat} (h : okn d n) (l : n ≤ 64) : eqYO ⟨d⟩ ⟨d⟩ = some true := by
  unfold eqYO
  rw [if_pos ⟨okn_shaped h l, okn_shaped h l⟩]
  exact congrArg some (SeqAt.eqv_refl d h.1)
theorem ofTu (ds : List PyData) : (ofD ⟨.tuple ds⟩ : Option (Tu Dy)) = some ⟨ds.map Dy.mk⟩ := by
  have : ofAll (α := Dy) ds = some (ds.map Dy.mk) := by
    induction ds with
    | nil => rfl
    | cons d ds ih =>
      show (some (Dy.mk d)).bind (fun x => (ofAll ds).bind fun xs => some (x :: xs)) = _
      rw [ih]
      rfl
  show (ofAll (α := Dy) ds).map Tu.mk = _
  rw [this]
  rfl
theorem ofTu2 (ds : List (PyData × PyData)) : (ofD ⟨.tuple (ds.map fun p => .tuple [p.1, p.2])⟩ : Option (Tu (Dy × Dy × Unit))) = some ⟨ds.map fun p => (⟨p.1⟩, ⟨p.2⟩, ())⟩ := by
  have : ofAll (α := Dy × Dy × Unit) (ds.map fun p => .tuple [p.1, p.2]) = some (ds.map fun p => (⟨p.1⟩, ⟨p.2⟩, ())) := by
    induction ds with
    | nil => rfl
    | cons d ds ih =>
      rw [List.map_cons]
      show (some ((⟨d.1⟩, ⟨d.2⟩, ()) : Dy × Dy × Unit)).bind (fun x => (ofAll _).bind fun xs => some (x :: xs)) = _
      rw [ih]
      rfl
  show (ofAll (α := Dy × Dy × Unit) _).map Tu.mk = _
  rw [this]
  rfl
theorem of2 (a b : PyData) : (ofD ⟨.tuple [a, b]⟩ : Option (Dy × Dy × Unit)) = some (⟨a⟩, ⟨b⟩, ()) := rfl
theorem of3 (a b c : PyData) : (ofD ⟨.tuple [a, b, c]⟩ : Option (Dy × Dy × Dy × Unit)) = some (⟨a⟩, ⟨b⟩, ⟨c⟩, ()) := rfl
theorem of4 (a b c d : PyData) : (ofD ⟨.tuple [a, b, c, d]⟩ : Option (Dy × Dy × Dy × Dy × Unit)) = some (⟨a⟩, ⟨b⟩, ⟨c⟩, ⟨d⟩, ()) := rfl
theorem of5 (a b c d e : PyData) : (ofD ⟨.tuple [a, b, c, d, e]⟩ : Option (Dy × Dy × Dy × Dy × Dy × Unit)) = some (⟨a⟩, ⟨b⟩, ⟨c⟩, ⟨d⟩, ⟨e⟩, ()) := rfl
theorem ofS (s : Str) : (ofD ⟨.str s⟩ : Option Str) = some s := rfl
theorem ofI (i : Int) : (ofD ⟨.int i⟩ : Option Int) = some i := rfl
theorem at2_0 {α : Type} (a b : α) : atI [a, b] (0 : Int) = some a := rfl
theorem at2_1 {α : Type} (a b : α) : atI [a, b] (1 : Int) = some b := rfl
theorem at3_0 {α : Type} (a b c : α) : atI [a, b, c] (0 : Int) = some a := rfl
theorem at3_1 {α : Type} (a b c : α) : atI [a, b, c] (1 : Int) = some b := rfl
theorem at3_2 {α : Type} (a b c : α) : atI [a, b, c] (2 : Int) = some c := rfl
theorem at4_0 {α : Type} (a b c d : α) : atI [a, b, c, d] (0 : Int) = some a := rfl
theorem at4_1 {α : Type} (a b c d : α) : atI [a, b, c, d] (1 : Int) = some b := rfl
theorem at4_2 {α : Type} (a b c d : α) : atI [a, b, c, d] (2 : Int) = some c := rfl
theorem at4_3 {α : Type} (a b c d : α) : atI [a, b, c, d] (3 : Int) = some d := rfl
theorem at5_4 {α : Type} (a b c d e : α) : atI [a, b, c, d, e] (4 : Int) = some e := rfl
theorem mapD (ds : List PyData) : (ds.map Dy.mk).map Ud.toD = ds := by
  rw [List.map_map]
  exact List.map_id _
theorem lcGo_pair {β γ : Type} {f : β → Option γ} {xs : List β} {ys : List γ} (h : Paired (fun x y => f x = some y) xs ys) : lcGo (fun _ => some true) f xs = some ys := by
  induction h with
  | nil => rfl
  | @cons x y xs ys h _ ih =>
    show (f x).bind (fun z => (lcGo _ f xs).bind fun zs => some (z :: zs)) = _
    rw [h, bs, ih]
    rfl
theorem lcM_pair {β γ : Type} {f : β → Option γ} {xs : List β} {ys : List γ} (hl : xs.length < 1000000) (h : Paired (fun x y => f x = some y) xs ys) : lcM (fun _ => some true) f xs = some ys := by
  unfold lcM
  rw [if_pos hl, lcGo_pair h]
theorem Paired.map2 {α β γ δ : Type} {R : α → β → Prop} {S : γ → δ → Prop} {f : α → γ} {g : β → δ} (hf : ∀ a b, R a b → S (f a) (g b)) : ∀ {xs : List α} {ys : List β}, Paired R xs ys → Paired S (xs.map f) (ys.map g)
  | _, _, .nil => .nil
  | _, _, .cons h t => .cons (hf _ _ h) (Paired.map2 hf t)
theorem Paired.flip {α β : Type} {R : α → β → Prop} {S : β → α → Prop} (hf : ∀ a b, R a b → S b a) : ∀ {xs : List α} {ys : List β}, Paired R xs ys → Paired S ys xs
  | _, _, .nil => .nil
  | _, _, .cons h t => .cons (hf _ _ h) (Paired.flip hf t)
theorem Paired.memL {α β : Type} {R : α → β → Prop} : ∀ {xs : List α} {ys : List β}, Paired R xs ys → ∀ x ∈ xs, ∃ y ∈ ys, R x y
  | _, _, .cons h t, x, hx => by
    rcases List.mem_cons.mp hx with rfl | hx
    · exact ⟨_, List.mem_cons_self, h⟩
    · obtain ⟨y, h1, h2⟩ := Paired.memL t x hx
      exact ⟨y, List.mem_cons_of_mem _ h1, h2⟩
/-! blocks and cuts -/
theorem at_snoc {α : Type} (xs : List α) (x : α) : atI (xs ++ [x]) (-(1 : Int)) = some x := by
  unfold atI ixN
  simp
  have h : (1 : Int) ≤ (xs.length : Int) + 1 := by omega
  rw [if_pos h]
  show (xs ++ [x])[(-1 + ((xs.length : Int) + 1)).toNat]? = some x
  rw [show (-1 + ((xs.length : Int) + 1)).toNat = xs.length by omega]
  simp
theorem at_last {α : Type} {xs : List α} (h : xs ≠ []) : atI xs (-(1 : Int)) = some (xs.getLast h) := by
  conv => lhs; rw [← List.dropLast_concat_getLast h]
  exact at_snoc _ _
abbrev Block := Str × Int × (Tu Int) × Bool × Unit
abbrev Cut := Int × Str × Unit
structure BlockOk (b : Block) : Prop where
  n : PyData.strOk b.1 = true
  c : b.2.2.1.l.length ≤ 6
  h : 1 ≤ b.2.1 ∧ b.2.1 ≤ 40
  p : b.2.2.1.l.Pairwise (· < ·)
  r : ∀ c ∈ b.2.2.1.l, 0 < c ∧ c < b.2.1
def hsum (bs : List Block) : Int := (bs.map fun b => b.2.1).sum
theorem hsum_cons (b : Block) (bs : List Block) : hsum (b :: bs) = b.2.1 + hsum bs := rfl
theorem hsum_snoc (b : Block) (bs : List Block) : hsum (bs ++ [b]) = hsum bs + b.2.1 := by
  unfold hsum
  rw [List.map_append, List.sum_append]
  show _ + (b.2.1 + 0) = _
  omega
theorem hsum_le : ∀ {bs : List Block}, (∀ b ∈ bs, BlockOk b) → 0 ≤ hsum bs ∧ hsum bs ≤ 40 * bs.length
  | [], _ => ⟨Int.le_refl _, Int.le_refl _⟩
  | b :: bs, h => by
    have h1 := (h b List.mem_cons_self).h
    have h2 := hsum_le fun x hx => h x (List.mem_cons_of_mem _ hx)
    rw [hsum_cons, List.length_cons]
    omega
structure CutsOk (T : Int) (C : List Cut) : Prop where
  ne : C ≠ []
  pw : (C.map (·.1)).Pairwise (· < ·)
  pos : ∀ x ∈ C, 0 < x.1 ∧ x.1 ≤ T
  ok : ∀ x ∈ C, PyData.strOk x.2.1 = true
  last : (C.getLast ne).1 = T
  len : C.length ≤ 200
  t : T ≤ 1000
theorem same1 (bs : List Block) : m__law_cuts_L1 bs = m_cuts_of_L1 bs := by
  funext x s
  obtain ⟨k, ⟨n, h, c, kp, u⟩, u2⟩ := x
  obtain ⟨t, l⟩ := s
  rfl
theorem same (bs : List Block) : m__law_cuts bs = m_cuts_of bs := by
  unfold m__law_cuts m_cuts_of
  rw [same1]
theorem empty_ok : PyData.strOk ("" : Str) = true := by decide +kernel
structure CI (bs : List Block) (i : Nat) (s : Int × List Cut) : Prop where
  t : s.1 = hsum (bs.take i)
  len : s.2.length ≤ 7 * i
  pw : (s.2.map (·.1)).Pairwise (· < ·)
  pos : ∀ x ∈ s.2, 0 < x.1 ∧ x.1 ≤ s.1
  ok : ∀ x ∈ s.2, PyData.strOk x.2.1 = true
  last : i = bs.length → 0 < i → ∃ l c, s.2 = l ++ [c] ∧ c.1 = s.1
theorem pw_app {l m : List Int} (h1 : l.Pairwise (· < ·)) (h2 : m.Pairwise (· < ·)) (h : ∀ a ∈ l, ∀ b ∈ m, a < b) : (l ++ m).Pairwise (· < ·) := List.pairwise_append.mpr ⟨h1, h2, h⟩
theorem cuts_ok {bs : List Block} (hn : bs ≠ []) (hl : bs.length ≤ 20) (hb : ∀ b ∈ bs, BlockOk b) : ∃ C, m_cuts_of bs = some C ∧ CutsOk (hsum bs) C := by
  unfold m_cuts_of
  simp only [Wk.bs]
  obtain ⟨⟨t, l⟩, e, h1⟩ := forS_ix (f := m_cuts_of_L1 bs) (xs := enumI bs) (fun i s => CI bs i s) (s := (0, [])) ⟨rfl, Nat.le_refl _, .nil, (fun x h => nomatch h), (fun x h => nomatch h), (fun _ h => absurd h (by omega))⟩ (fun i hi s hs => by
    obtain ⟨t, l⟩ := s
    obtain ⟨ht, h1, hp, hpos, h2, _⟩ := hs
    have ht : t = hsum (bs.take i) := ht
    have h1 : l.length ≤ 7 * i := h1
    have hp : (l.map (·.1)).Pairwise (· < ·) := hp
    have hpos : ∀ x ∈ l, 0 < x.1 ∧ x.1 ≤ t := hpos
    have h2 : ∀ x ∈ l, PyData.strOk x.2.1 = true := h2
    have hi2 : i < bs.length := by simpa [enumI] using hi
    have ht2 : hsum (bs.take (i + 1)) = t + (bs[i]'hi2).2.1 := by
      rw [List.take_succ, List.getElem?_eq_getElem hi2, ht]
      exact hsum_snoc _ _
    have t0 : 0 ≤ t := by
      rw [ht]
      exact (hsum_le fun b hb' => hb b (List.mem_of_mem_take hb')).1
    rw [enumI_at]
    have hB := hb _ (List.getElem_mem hi2)
    generalize bs[i] = B at hB ht2
    obtain ⟨n, h, c, kp, u⟩ := B
    obtain ⟨hn, hc, hh, hcp, hcr⟩ := hB
    have hn : PyData.strOk n = true := hn
    have hc : c.l.length ≤ 6 := hc
    have hh : 1 ≤ h ∧ h ≤ 40 := hh
    have hcp : c.l.Pairwise (· < ·) := hcp
    have hcr : ∀ x ∈ c.l, 0 < x ∧ x < h := hcr
    have ht2 : hsum (bs.take (i + 1)) = t + h := ht2
    unfold m_cuts_of_L1
    simp only []
    rw [forS_app (fun x => ((t + x, n, ()) : Cut)) (by omega) fun x _ s hs => by
      unfold m_cuts_of_L2
      rw [appO_ok hs]
      rfl]
    simp only [Wk.bs]
    have em : (l ++ c.l.map (fun x => ((t + x, n, ()) : Cut))).map (·.1) = l.map (·.1) ++ c.l.map (fun x => t + x) := by
      rw [List.map_append, List.map_map]
      rfl
    have hpw : ((l ++ c.l.map (fun x => ((t + x, n, ()) : Cut))).map (·.1)).Pairwise (· < ·) := by
      rw [em]
      refine pw_app hp ?_ fun a ha b hb' => ?_
      · rw [List.pairwise_map]
        exact hcp.imp fun {a b} h => by omega
      · obtain ⟨x, hx, rfl⟩ := List.mem_map.mp ha
        obtain ⟨y, hy, rfl⟩ := List.mem_map.mp hb'
        have := hpos x hx
        have := hcr y hy
        omega
    have hpos2 : ∀ x ∈ l ++ c.l.map (fun x => ((t + x, n, ()) : Cut)), 0 < x.1 ∧ x.1 < t + h := fun x hx => by
      rcases List.mem_append.mp hx with hx | hx
      · have := hpos x hx
        omega
      · obtain ⟨y, hy, rfl⟩ := List.mem_map.mp hx
        have := hcr y hy
        show 0 < t + y ∧ t + y < t + h
        omega
    have ho : ∀ x ∈ l ++ c.l.map (fun x => ((t + x, n, ()) : Cut)), PyData.strOk x.2.1 = true := by
      intro x hx
      rcases List.mem_append.mp hx with hx | hx
      · exact h2 x hx
      · obtain ⟨y, _, rfl⟩ := List.mem_map.mp hx
        exact hn
    have hlen : (l ++ c.l.map (fun x => ((t + x, n, ()) : Cut))).length ≤ 7 * i + 6 := by
      rw [List.length_append, List.length_map]
      omega
    generalize l ++ c.l.map (fun x => ((t + x, n, ()) : Cut)) = m at hpw hpos2 ho hlen
    by_cases hk : ((!kp) || (decide (((i : Int) + 1) = (bs.length : Int)))) = true
    · rw [if_pos hk, appO_ok (by omega)]
      refine ⟨_, rfl, ht2.symm, ?_, ?_, fun x hx => ?_, fun x hx => ?_, fun _ _ => ⟨m, _, rfl, rfl⟩⟩
      · show (m ++ [_]).length ≤ _
        rw [List.length_append, List.length_singleton]
        omega
      · show ((m ++ [_]).map _).Pairwise _
        rw [List.map_append]
        refine pw_app hpw (List.pairwise_singleton _ _) fun a ha b hb' => ?_
        obtain ⟨x, hx, rfl⟩ := List.mem_map.mp ha
        rw [List.mem_singleton.mp hb']
        exact (hpos2 x hx).2
      · show 0 < x.1 ∧ x.1 ≤ t + h
        rcases List.mem_append.mp hx with hx | hx
        · have := hpos2 x hx
          omega
        · rw [List.mem_singleton.mp hx]
          show 0 < t + h ∧ t + h ≤ t + h
          omega
      · rcases List.mem_append.mp hx with hx | hx
        · exact ho x hx
        · rw [List.mem_singleton] at hx
          subst hx
          exact empty_ok
    · rw [if_neg hk]
      refine ⟨_, rfl, ht2.symm, Nat.le_trans hlen (by omega), hpw, fun x hx => ?_, ho, fun hz _ => ?_⟩
      · show 0 < x.1 ∧ x.1 ≤ t + h
        have := hpos2 x hx
        omega
      · refine absurd ?_ hk
        rw [Bool.or_eq_true, decide_eq_true_eq]
        exact .inr (by omega))
  rw [e]
  rw [enumI_len] at h1
  have hp := List.length_pos_iff.mpr hn
  obtain ⟨h1, h2, h3, h4, h5, h6⟩ := h1
  obtain ⟨l', c, rfl, hc⟩ := h6 rfl hp
  have et : t = hsum bs := by
    have h1 : t = hsum (bs.take bs.length) := h1
    rwa [List.take_length] at h1
  have h2 : (l' ++ [c]).length ≤ 7 * bs.length := h2
  have hT := (hsum_le hb).2
  refine ⟨l' ++ [c], rfl, List.append_ne_nil_of_right_ne_nil _ (List.cons_ne_nil _ _), h3, ?_, h5, ?_, by omega, by omega⟩
  · rw [← et]
    exact h4
  · have hc : c.1 = t := hc
    rw [← et, ← hc]
    simp
theorem alpha_ok : PyData.strOk ("abcdefghijklmnopqrstuvwxyz" : Str) = true := by decide +kernel
theorem alpha_len : ("abcdefghijklmnopqrstuvwxyz" : Str).length = 26 := by decide +kernel
theorem ab_ok : PyData.strOk ("ab" : Str) = true := by decide +kernel
theorem ab_len : ("ab" : Str).length = 2 := by decide +kernel
theorem six {l : List Int} (h : l.length = 6) : ∃ a b c d e f, l = [a, b, c, d, e, f] := by
  match l, h with
  | [a, b, c, d, e, f], _ => exact ⟨a, b, c, d, e, f, rfl⟩
theorem sset_pw (xs : List Int) : (sset xs).Pairwise (· < ·) ∧ ∀ k ∈ sset xs, k ∈ xs := by
  unfold sset
  split
  · next h => exact ⟨h.choose_spec.1, fun k hk => (h.choose_spec.2.1 k).mp hk⟩
  · exact ⟨.nil, fun k hk => nomatch hk⟩
theorem block_ok (k : Int) (h0 : 0 ≤ k) (hk : k < 52) (cell : Int) (acc : List Block) (ha : acc.length < 1000) : ∃ b, m__law_blocks_L1 (k, cell, ()) acc = some (acc ++ [b]) ∧ BlockOk b := by
  obtain ⟨l, e0, hl⟩ := numbers_ok cell 6 (by omega) (by omega)
  obtain ⟨a, b, c, d, e, f, rfl⟩ := six hl
  unfold m__law_blocks_L1
  simp only [e0, Wk.bs, show atI [a, b, c, d, e, f] (0 : Int) = some a from rfl, show atI [a, b, c, d, e, f] (1 : Int) = some b from rfl]
  rw [pick2 _ _ (k := b % 2) (by omega) (by omega)]
  simp only [Wk.bs]
  obtain ⟨height, hh, hr⟩ : ∃ height, (1 + if b % 2 = 0 then a % 6 else a % 40) = height ∧ 1 ≤ height ∧ height ≤ 40 := ⟨_, rfl, by split <;> omega, by split <;> omega⟩
  rw [hh]
  obtain ⟨cs, e1, h1, h2⟩ := forS_inv (f := m__law_blocks_L2 height) (xs := cut [a, b, c, d, e, f] (some 2) (some (2 + b / 2 % 4))) (s := []) (fun rest s => s.length + rest.length ≤ 6 ∧ ∀ x ∈ s, 0 < x ∧ x < height) ⟨by
      have := cut_len [a, b, c, d, e, f] (some 2) (some (2 + b / 2 % 4))
      have e : [a, b, c, d, e, f].length = 6 := rfl
      show 0 + _ ≤ 6
      omega, fun x hx => nomatch hx⟩ (fun x rest s hs => by
    obtain ⟨hs, hs2⟩ := hs
    have hs : s.length + (rest.length + 1) ≤ 6 := hs
    unfold m__law_blocks_L2
    by_cases hh : 1 < height
    · rw [decide_eq_true hh, if_pos rfl, modO_ok (by omega)]
      simp only [Wk.bs]
      rw [appO_ok (by omega)]
      refine ⟨_, rfl, by rw [List.length_append, List.length_singleton]; omega, fun y hy => ?_⟩
      rcases List.mem_append.mp hy with hy | hy
      · exact hs2 y hy
      · rw [List.mem_singleton.mp hy]
        have m0 := Int.emod_nonneg x (show height - 1 ≠ 0 by omega)
        have m1 := Int.emod_lt_of_pos x (show 0 < height - 1 by omega)
        omega
    · rw [decide_eq_false hh, if_neg Bool.false_ne_true]
      exact ⟨s, rfl, by omega, hs2⟩)
  rw [e1]
  simp only [Wk.bs]
  obtain ⟨c1, x1, o1, l1⟩ := ixS_ok (s := "abcdefghijklmnopqrstuvwxyz") (i := k % 26) (by rw [alpha_len]; omega) (by omega) (by rw [alpha_len]; omega) alpha_ok
  obtain ⟨c2, x2, o2, l2⟩ := ixS_ok (s := "ab") (i := k / 26) (by rw [ab_len]; omega) (by omega) (by rw [ab_len]; omega) ab_ok
  rw [x1, x2]
  simp only [Wk.bs]
  rw [show addS (⟨#[c1]⟩ : Str) ⟨#[c2]⟩ = some (⟨#[c1]⟩ ++ ⟨#[c2]⟩) from if_pos (by rw [l1, l2]; decide)]
  simp only [Wk.bs]
  have h1 : cs.length ≤ 6 := by
    have h1 : cs.length + 0 ≤ 6 := h1
    omega
  rw [ssetO_ok (by omega)]
  simp only [Wk.bs]
  rw [appO_ok (by omega)]
  simp only [Wk.bs]
  obtain ⟨p1, p2⟩ := sset_pw cs
  exact ⟨_, rfl, ok_app o1 o2, Nat.le_trans (sset_len cs) h1, hr, p1, fun x hx => h2 x (p2 x hx)⟩
theorem blocks_ok {cs : List Int} (hl : cs.length ≤ 52) : ∃ l, m__law_blocks cs = some l ∧ l.length = cs.length ∧ ∀ b ∈ l, BlockOk b := by
  unfold m__law_blocks
  simp only [Wk.bs]
  obtain ⟨l, e, h1, h2⟩ := forS_ix (f := m__law_blocks_L1) (xs := enumI cs) (fun i s => s.length = i ∧ ∀ b ∈ s, BlockOk b) (s := []) ⟨rfl, fun x h => nomatch h⟩ (fun i hi s hs => by
    obtain ⟨h1, h2⟩ := hs
    have hi2 : i < cs.length := by simpa [enumI] using hi
    rw [enumI_at]
    obtain ⟨b, e, hb⟩ := block_ok (i : Int) (by omega) (by omega) cs[i] s (by omega)
    refine ⟨_, e, by rw [List.length_append, List.length_singleton]; omega, fun x hx => ?_⟩
    rcases List.mem_append.mp hx with hx | hx
    · exact h2 x hx
    · rw [List.mem_singleton] at hx
      subst hx
      exact hb)
  rw [e]
  rw [enumI_len] at h1
  exact ⟨l, rfl, h1, h2⟩
theorem okD_block {b : Block} (h : BlockOk b) : okD b = true := by
  obtain ⟨n, hh, c, kp, u⟩ := b
  have hn : PyData.strOk n = true := h.n
  have hc : okD c = true := okD_tu fun x _ => rfl
  have hc : PyData.canLay0 (.tuple (c.l.map Pd.toD)) = true := hc
  show PyData.canLay0 (.tuple [.str n, .int hh, .tuple (c.l.map Pd.toD), .bool kp]) = true
  simp only [PyData.canLay0, PyData.canLayAll0, hn, Bool.and_self, Bool.true_and, Bool.and_true] at hc ⊢
  exact hc
/-! cuts within reach of one another -/
def Gaps (H : Int) : Int → List Cut → Prop
  | _, [] => True
  | t, c :: cs => c.1 - t ≤ H ∧ Gaps H c.1 cs
theorem gap_loop {bs_ : List Block} {H : Int} : ∀ (cs : List Cut) (top : Int), Gaps H top cs → ∃ t, forC (m_set_pages_L1 bs_ H) cs top = some (.nx t)
  | [], top, _ => ⟨top, rfl⟩
  | (d, w, u) :: cs, top, h => by
    obtain ⟨h1, h2⟩ := h
    have h1 : d - top ≤ H := h1
    have e1 : m_set_pages_L1 bs_ H (d, w, u) top = some (.nx d) := by
      unfold m_set_pages_L1
      dsimp only
      rw [if_neg (by rw [decide_eq_true_eq]; omega)]
      rfl
    obtain ⟨t, e⟩ := gap_loop (bs_ := bs_) cs d h2
    exact ⟨t, by rw [forC_cons e1]; exact e⟩
theorem gaps_of {H : Int} : ∀ (cs : List Cut) (t : Int), (∀ c, cs[0]? = some c → c.1 - t ≤ H) → (∀ k c d, cs[k]? = some c → cs[k + 1]? = some d → d.1 - c.1 ≤ H) → Gaps H t cs
  | [], _, _, _ => trivial
  | c :: cs, t, h0, h1 => ⟨h0 c rfl, gaps_of cs c.1 (fun d hd => h1 0 c d rfl hd) fun k a b ha hb => h1 (k + 1) a b ha hb⟩
/-! the paper of the pages: least costs -/
abbrev Pp := Int × Option Int × Unit
def pq (q : List (Int × Int)) : List Pp := q.map fun x => (x.1, some x.2, ())
def pc (price H top : Int) (c : Cut) : Int := (H - (c.1 - top)) * (H - (c.1 - top)) + price * (if (!decide (c.2.1 = ("" : Str))) = true then (1 : Int) else 0)
theorem pc_nn {price H top : Int} {c : Cut} (hp : 0 ≤ price) : 0 ≤ pc price H top c := by
  have h1 : 0 ≤ (H - (c.1 - top)) * (H - (c.1 - top)) := by
    rcases Int.le_total 0 (H - (c.1 - top)) with h | h
    · exact Int.mul_nonneg h h
    · exact Int.mul_nonneg_of_nonpos_of_nonpos h h
  have h2 : 0 ≤ price * (if (!decide (c.2.1 = ("" : Str))) = true then (1 : Int) else 0) := Int.mul_nonneg hp (by split <;> omega)
  unfold pc
  omega
structure Pr (price H : Int) : Prop where
  p0 : 0 ≤ price
  p1 : price ≤ 1000
  h0 : 0 ≤ H
  h1 : H ≤ 3000
theorem page_ok {price H top : Int} {c : Cut} (p : Pr price H) (ht : 0 ≤ top ∧ top ≤ 1000) (hc : 0 ≤ c.1 ∧ c.1 ≤ 1000) : m_page_cost price H top c = some (pc price H top c) := by
  obtain ⟨d, w, u⟩ := c
  have hc : 0 ≤ d ∧ d ≤ 1000 := hc
  have := p.p1
  have := p.p0
  have := p.h0
  have := p.h1
  unfold m_page_cost pc
  simp only [bs]
  rw [mulO_ok (by omega) (by omega)]
  simp only [bs]
  rw [mulO_ok (by omega) (by omega)]
  rfl
theorem sq_ok {x : Int} (h : -10000 ≤ x ∧ x ≤ 10000) : powO x 2 = some (x * x) := by
  unfold powO
  rw [if_pos ⟨by omega, by omega, by omega⟩]
  refine congrArg some ?_
  show x ^ 2 = x * x
  rw [Int.pow_succ, Int.pow_succ, Int.pow_zero, Int.one_mul]
def cand (price H : Int) (c : Cut) (q : List (Int × Int)) : List Int := (q.filter fun x => decide (c.1 - x.1 ≤ H)).map fun x => x.2 + pc price H x.1 c
theorem cand_pos {price H : Int} {c : Cut} {x : Int × Int} {q : List (Int × Int)} (h : c.1 - x.1 ≤ H) : cand price H c (x :: q) = (x.2 + pc price H x.1 c) :: cand price H c q := by
  unfold cand
  rw [List.filter_cons_of_pos (by exact decide_eq_true h)]
  rfl
theorem cand_neg {price H : Int} {c : Cut} {x : Int × Int} {q : List (Int × Int)} (h : ¬ c.1 - x.1 ≤ H) : cand price H c (x :: q) = cand price H c q := by
  unfold cand
  rw [List.filter_cons_of_neg (by rw [decide_eq_true_eq]; exact h)]
theorem cand_mem {price H : Int} {c : Cut} {q : List (Int × Int)} {v : Int} : v ∈ cand price H c q ↔ ∃ x ∈ q, c.1 - x.1 ≤ H ∧ v = x.2 + pc price H x.1 c := by
  unfold cand
  rw [List.mem_map]
  constructor
  · rintro ⟨x, hx, rfl⟩
    obtain ⟨h1, h2⟩ := List.mem_filter.mp hx
    exact ⟨x, h1, of_decide_eq_true h2, rfl⟩
  · rintro ⟨x, hx, h, rfl⟩
    exact ⟨x, List.mem_filter.mpr ⟨hx, decide_eq_true h⟩, rfl⟩
theorem cand_len {price H : Int} {c : Cut} {q : List (Int × Int)} : (cand price H c q).length ≤ q.length := by
  unfold cand
  rw [List.length_map]
  exact List.length_filter_le _ _
def mo : Option Int → List Int → Option Int
  | none, xs => minL xs
  | some m, xs => some (minG m xs)
theorem least_loop {price H : Int} (p : Pr price H) {c : Cut} (hc : 0 ≤ c.1 ∧ c.1 ≤ 1000) : ∀ (q : List (Int × Int)) (o : Option Int), (∀ x ∈ q, 0 ≤ x.1 ∧ x.1 ≤ 1000) → forS (m_costs_of_L2 price H c.1 c.2.1) (pq q) o = some (mo o (cand price H c q))
  | [], o, _ => by
    cases o with
    | none => rfl
    | some m => rfl
  | x :: q, o, hq => by
    have hx := hq x List.mem_cons_self
    show forS _ ((x.1, some x.2, ()) :: pq q) o = _
    by_cases h : c.1 - x.1 ≤ H
    · have e : m_costs_of_L2 price H c.1 c.2.1 (x.1, some x.2, ()) o = some (some (match o with | none => x.2 + pc price H x.1 c | some m => min m (x.2 + pc price H x.1 c))) := by
        unfold m_costs_of_L2
        dsimp only
        rw [if_pos (by rw [Bool.and_eq_true, decide_eq_true_eq]; exact ⟨rfl, h⟩), page_ok p hx hc]
        simp only [bs]
        have e2 : pc price H x.1 (c.1, c.2.1, ()) = pc price H x.1 c := rfl
        rw [e2]
        cases o with
        | none =>
          rw [if_pos (show (Option.isNone (none : Option Int)) = true from rfl)]
          rfl
        | some m =>
          rw [if_neg (show ¬ (Option.isNone (some m)) = true from fun z => by cases z)]
          simp only [bs]
          by_cases hm : x.2 + pc price H x.1 c < m
          · rw [if_pos (decide_eq_true hm), show min m (x.2 + pc price H x.1 c) = x.2 + pc price H x.1 c by omega]
          · rw [if_neg (by rw [decide_eq_true_eq]; exact hm), show min m (x.2 + pc price H x.1 c) = m by omega]
      rw [forS_cons e, least_loop p hc q _ (fun y hy => hq y (List.mem_cons_of_mem _ hy)), cand_pos h]
      cases o with
      | none => rfl
      | some m => rfl
    · have e : m_costs_of_L2 price H c.1 c.2.1 (x.1, some x.2, ()) o = some o := by
        unfold m_costs_of_L2
        dsimp only
        rw [if_neg (by rw [Bool.and_eq_true, decide_eq_true_eq]; exact fun z => h z.2)]
      rw [forS_cons e, least_loop p hc q _ (fun y hy => hq y (List.mem_cons_of_mem _ hy)), cand_neg h]
structure PQ (price H : Int) (C : List Cut) (q : List (Int × Int)) : Prop where
  hd : (0, 0) ∈ q
  hd2 : q.head? = some (0, 0)
  pw : (q.map (·.1)).Pairwise (· < ·)
  nn : ∀ x ∈ q, 0 ≤ x.2 ∧ 0 ≤ x.1 ∧ x.1 ≤ 1000
  A : ∀ x ∈ q, ∀ c ∈ C, ∀ v, (c.1, v) ∈ q → x.1 < c.1 → c.1 - x.1 ≤ H → v ≤ x.2 + pc price H x.1 c
  B : ∀ y ∈ q, 0 < y.1 → ∃ x ∈ q, ∃ c ∈ C, c.1 = y.1 ∧ x.1 < y.1 ∧ y.1 - x.1 ≤ H ∧ y.2 = x.2 + pc price H x.1 c
theorem cut_one {T : Int} {C : List Cut} (hC : CutsOk T C) {c d : Cut} (hc : c ∈ C) (hd : d ∈ C) (e : c.1 = d.1) : c = d := by
  have key : ∀ {l : List Cut}, (l.map (·.1)).Pairwise (· < ·) → c ∈ l → d ∈ l → c = d := by
    intro l
    induction l with
    | nil => exact fun _ h => nomatch h
    | cons a l ih =>
      intro hp h1 h2
      rw [List.map_cons, List.pairwise_cons] at hp
      rcases List.mem_cons.mp h1 with h1 | h1
      · rcases List.mem_cons.mp h2 with h2 | h2
        · rw [h1, h2]
        · have := hp.1 d.1 (List.mem_map.mpr ⟨d, h2, rfl⟩)
          rw [← h1] at this
          omega
      · rcases List.mem_cons.mp h2 with h2 | h2
        · have := hp.1 c.1 (List.mem_map.mpr ⟨c, h1, rfl⟩)
          rw [← h2] at this
          omega
        · exact ih hp.2 h1 h2
  exact key hC.pw hc hd
theorem costs_loop {price H T : Int} (p : Pr price H) {C : List Cut} (hC : CutsOk T C) : ∀ (cs : List Cut) (q : List (Int × Int)) (tl : Int), PQ price H C q → (∀ c ∈ cs, c ∈ C) → (∃ v, (tl, v) ∈ q) → (∀ x ∈ q, x.1 ≤ tl) → (tl :: cs.map (·.1)).Pairwise (· < ·) → Gaps H tl cs → q.length + cs.length ≤ 300 →
    ∃ q', forS (m_costs_of_L1 price H) cs (pq q) = some (pq q') ∧ PQ price H C q' ∧ q'.map (·.1) = q.map (·.1) ++ cs.map (·.1)
  | [], q, tl, hq, _, _, _, _, _, _ => ⟨q, rfl, hq, (List.append_nil _).symm⟩
  | c :: cs, q, tl, hq, hcs, ⟨v, hv⟩, htl, hpw, hg, hl => by
    rw [List.length_cons] at hl
    rw [List.map_cons, List.pairwise_cons] at hpw
    have hcC := hcs c List.mem_cons_self
    have hlt : tl < c.1 := hpw.1 c.1 List.mem_cons_self
    have hpos := hC.pos c hcC
    have hT := hC.t
    have hg1 : c.1 - tl ≤ H := hg.1
    have hmem : v + pc price H tl c ∈ cand price H c q := cand_mem.mpr ⟨(tl, v), hv, hg1, rfl⟩
    obtain ⟨m, hm⟩ : ∃ m, minL (cand price H c q) = some m := by
      cases e : cand price H c q with
      | nil =>
        rw [e] at hmem
        cases hmem
      | cons a r => exact ⟨_, rfl⟩
    obtain ⟨m1, m2⟩ := minL_spec hm
    have e1 : m_costs_of_L1 price H c (pq q) = some (pq (q ++ [(c.1, m)])) := by
      unfold m_costs_of_L1
      dsimp only
      rw [bs, least_loop p ⟨by omega, by omega⟩ q none (fun x hx => (hq.nn x hx).2)]
      simp only [bs]
      rw [show mo none (cand price H c q) = some m from hm, appO_ok (by unfold pq; rw [List.length_map]; omega)]
      unfold pq
      rw [List.map_append]
      rfl
    have hq2 : PQ price H C (q ++ [(c.1, m)]) := by
      refine ⟨List.mem_append_left _ hq.hd, ?_, ?_, fun x hx => ?_, fun x hx d hd w hw h1 h2 => ?_, fun y hy h0 => ?_⟩
      · have := hq.hd2
        cases q with
        | nil => cases this
        | cons a r => exact this
      · rw [List.map_append]
        refine pw_app hq.pw (List.pairwise_singleton _ _) fun a ha b hb => ?_
        obtain ⟨x, hx, rfl⟩ := List.mem_map.mp ha
        rw [List.mem_singleton.mp hb]
        have := htl x hx
        show x.1 < c.1
        omega
      · rcases List.mem_append.mp hx with hx | hx
        · exact hq.nn x hx
        · rw [List.mem_singleton.mp hx]
          obtain ⟨x, hx, _, e⟩ := cand_mem.mp m1
          have := (hq.nn x hx).1
          have := pc_nn (H := H) (top := x.1) (c := c) p.p0
          exact ⟨by show 0 ≤ m; omega, by show 0 ≤ c.1; omega, by show c.1 ≤ 1000; omega⟩
      · rcases List.mem_append.mp hw with hw | hw
        · rcases List.mem_append.mp hx with hx | hx
          · exact hq.A x hx d hd w hw h1 h2
          · rw [List.mem_singleton.mp hx] at h1
            have := htl _ hw
            have h1 : c.1 < d.1 := h1
            have : d.1 ≤ tl := this
            omega
        · have hw := List.mem_singleton.mp hw
          have hd1 : d.1 = c.1 := congrArg (fun z : Int × Int => z.1) hw
          have hw2 : w = m := congrArg (fun z : Int × Int => z.2) hw
          have := cut_one hC hd hcC hd1
          subst this
          rw [hw2]
          rcases List.mem_append.mp hx with hx | hx
          · exact m2 _ (cand_mem.mpr ⟨x, hx, h2, rfl⟩)
          · rw [List.mem_singleton.mp hx] at h1
            exact absurd h1 (Int.lt_irrefl _)
      · rcases List.mem_append.mp hy with hy | hy
        · obtain ⟨x, hx, d, hd, h⟩ := hq.B y hy h0
          exact ⟨x, List.mem_append_left _ hx, d, hd, h⟩
        · rw [List.mem_singleton.mp hy]
          obtain ⟨x, hx, h2, e⟩ := cand_mem.mp m1
          have := htl x hx
          exact ⟨x, List.mem_append_left _ hx, c, hcC, rfl, by show x.1 < c.1; omega, h2, e⟩
    obtain ⟨q', f1, f3, f4⟩ := costs_loop p hC cs (q ++ [(c.1, m)]) c.1 hq2 (fun x hx => hcs x (List.mem_cons_of_mem _ hx)) ⟨m, List.mem_append_right _ List.mem_cons_self⟩ (fun x hx => by
      rcases List.mem_append.mp hx with hx | hx
      · have := htl x hx
        omega
      · rw [List.mem_singleton.mp hx]
        exact Int.le_refl _) hpw.2 hg.2 (by rw [List.length_append, List.length_singleton]; omega)
    refine ⟨q', by rw [forS_cons e1]; exact f1, f3, ?_⟩
    rw [f4, List.map_append, List.map_cons, List.append_assoc]
    rfl
/-! the depths that are told -/
section
variable {κ β : Type} [DecidableEq κ]
theorem getD_none {l : List (κ × β)} {x : κ} (h : ∀ kv ∈ l, kv.1 ≠ x) : getD l x = none := by
  unfold getD
  rw [List.find?_eq_none.mpr (fun kv hkv => by simpa using h kv hkv)]
  rfl
theorem put_new {l : List (κ × β)} {x : κ} (y : β) (h : ∀ kv ∈ l, kv.1 ≠ x) : putD l x y = l ++ [(x, y)] := by
  unfold putD
  rw [getD_none h]
  rfl
theorem getD_mem : ∀ {l : List (κ × β)}, (l.map (·.1)).Nodup → ∀ {kv : κ × β}, kv ∈ l → getD l kv.1 = some kv.2
  | p :: r, nd, kv, h => by
    rw [List.map_cons, List.nodup_cons] at nd
    rcases List.mem_cons.mp h with rfl | h
    · exact getD_pos rfl
    · rw [getD_neg (fun z => nd.1 (z ▸ List.mem_map.mpr ⟨kv, h, rfl⟩))]
      exact getD_mem nd.2 h
theorem merge_app : ∀ {l acc : List (κ × β)}, ((acc ++ l).map (·.1)).Nodup → mergeD acc l = acc ++ l
  | [], acc, _ => (List.append_nil _).symm
  | p :: r, acc, nd => by
    have h2 : ((acc ++ [p] ++ r).map (·.1)).Nodup := by
      rw [List.append_assoc]
      exact nd
    show mergeD (putD acc p.1 p.2) r = _
    rw [put_new _ (fun kv hkv => ?_), merge_app h2, List.append_assoc]
    · rfl
    · rw [List.map_append, List.nodup_append] at nd
      exact nd.2.2 kv.1 (List.mem_map.mpr ⟨kv, hkv, rfl⟩) p.1 (List.mem_map.mpr ⟨p, List.mem_cons_self, rfl⟩)
theorem merge_get [Rp κ] {β : Type} {xs : List (κ × β × Unit)} (nd : (xs.map (·.1)).Nodup) {k : κ} {y : β} (h : (k, y, ()) ∈ xs) : getD (mergeD [] (prs1 xs)) k = some y := by
  have e : (prs1 xs).map (·.1) = xs.map (·.1) := by
    unfold prs1
    rw [List.map_map]
    rfl
  rw [merge_app (by rw [List.nil_append, e]; exact nd), List.nil_append]
  exact getD_mem (l := prs1 xs) (by rw [e]; exact nd) (kv := (k, y)) (List.mem_map.mpr ⟨_, h, rfl⟩)
end
theorem lt_nodup {l : List Int} (h : l.Pairwise (· < ·)) : l.Nodup := h.imp fun {a b} h => by omega
theorem gaps_snoc {H : Int} {c : Cut} : ∀ {l : List Cut} {t : Int}, Gaps H t (l ++ [c]) → Gaps H t l ∧ ∃ x ∈ t :: l.map (·.1), c.1 - x ≤ H
  | [], t, h => ⟨trivial, t, List.mem_cons_self, h.1⟩
  | d :: l, t, h => by
    obtain ⟨h1, x, hx, h2⟩ := gaps_snoc h.2
    exact ⟨⟨h.1, h1⟩, x, List.mem_cons_of_mem _ hx, h2⟩
theorem paper_ok {price H T : Int} (p : Pr price H) {C : List Cut} (hC : CutsOk T C) (g : Gaps H 0 C) : ∃ q, m_costs_of C price H = some (pq q) ∧ PQ price H C q ∧ q.map (·.1) = 0 :: C.dropLast.map (·.1) ∧ (∃ x ∈ q, T - x.1 ≤ H) ∧ ∀ x ∈ q, x.1 < T := by
  have eC := List.dropLast_concat_getLast hC.ne
  have hlast := hC.last
  have hpw := hC.pw
  have hlen := hC.len
  have hmem : ∀ c ∈ C.dropLast, c ∈ C := fun c h => List.dropLast_subset _ h
  rw [← eC] at g
  obtain ⟨g1, x, hx, g2⟩ := gaps_snoc g
  rw [← eC, List.map_append, List.pairwise_append] at hpw
  have hp0 : (0 :: C.dropLast.map (·.1)).Pairwise (· < ·) := List.pairwise_cons.mpr ⟨fun a ha => by
    obtain ⟨c, hc, rfl⟩ := List.mem_map.mp ha
    exact (hC.pos c (hmem c hc)).1, hpw.1⟩
  have hq0 : PQ price H C [(0, 0)] := by
    refine ⟨List.mem_cons_self, rfl, List.pairwise_singleton _ _, fun x hx => ?_, fun x hx c hc v hv h1 h2 => ?_, fun y hy h0 => ?_⟩
    · rw [List.mem_singleton.mp hx]
      exact ⟨Int.le_refl _, Int.le_refl _, by decide⟩
    · have hv := List.mem_singleton.mp hv
      have := congrArg (fun z : Int × Int => z.1) hv
      have := (hC.pos c hc).1
      have : c.1 = 0 := by assumption
      omega
    · rw [List.mem_singleton.mp hy] at h0
      exact absurd h0 (Int.lt_irrefl _)
  obtain ⟨q, e1, hq, em⟩ := costs_loop p hC C.dropLast [(0, 0)] 0 hq0 hmem ⟨0, List.mem_cons_self⟩ (fun x hx => by rw [List.mem_singleton.mp hx]; exact Int.le_refl _) hp0 g1 (by rw [List.length_dropLast]; show 1 + _ ≤ _; omega)
  have em : q.map (·.1) = 0 :: C.dropLast.map (·.1) := em
  refine ⟨q, ?_, hq, em, ?_, fun y hy => ?_⟩
  · unfold m_costs_of
    rw [bs, cut_init]
    rw [show ([((0 : Int), (some (0 : Int)), ())] : List (Int × (Option Int) × Unit)) = pq [(0, 0)] from rfl, e1]
    rfl
  · rw [← em] at hx
    obtain ⟨y, hy, rfl⟩ := List.mem_map.mp hx
    rw [hlast] at g2
    exact ⟨y, hy, g2⟩
  · have : y.1 ∈ q.map (·.1) := List.mem_map.mpr ⟨y, hy, rfl⟩
    rw [em] at this
    have hz : (C.getLast hC.ne).1 ∈ ([C.getLast hC.ne].map fun x : Cut => x.1) := List.mem_cons_self
    rcases List.mem_cons.mp this with h | h
    · have := (hC.pos _ (List.getLast_mem hC.ne)).1
      omega
    · have := hpw.2.2 y.1 h _ hz
      omega
def Stp (price H depth cost : Int) (c : Option Cut) (x : Int × Int) : Prop := x.1 < depth ∧ depth - x.1 ≤ H ∧ match c with | none => x.2 = cost | some c => x.2 + pc price H x.1 c = cost
theorem step_ok {price H depth cost : Int} (p : Pr price H) {c : Option Cut} (hc : ∀ d, c = some d → 0 ≤ d.1 ∧ d.1 ≤ 1000) : ∀ (q : List (Int × Int)), (∀ x ∈ q, 0 ≤ x.1 ∧ x.1 ≤ 1000) → (∃ x ∈ q, Stp price H depth cost c x) → ∃ x ∈ q, Stp price H depth cost c x ∧ m_step_to (pq q) price H depth cost c = some x.1 := by
  intro q hq hx
  suffices h : ∃ x ∈ q, Stp price H depth cost c x ∧ forC (m_step_to_L1 price H depth cost c) (pq q) () = some (.rt x.1) by
    obtain ⟨x, h1, h2, h3⟩ := h
    refine ⟨x, h1, h2, ?_⟩
    unfold m_step_to
    rw [h3]
    rfl
  induction q with
  | nil => obtain ⟨x, h, _⟩ := hx; cases h
  | cons y q ih =>
    have hy := hq y List.mem_cons_self
    by_cases hs : Stp price H depth cost c y
    · refine ⟨y, List.mem_cons_self, hs, ?_⟩
      obtain ⟨h1, h2, h3⟩ := hs
      have e : m_step_to_L1 price H depth cost c (y.1, some y.2, ()) () = some (.rt y.1) := by
        unfold m_step_to_L1
        dsimp only
        rw [if_pos (by rw [Bool.and_eq_true, Bool.and_eq_true, decide_eq_true_eq, decide_eq_true_eq]; exact ⟨rfl, h1, h2⟩)]
        cases c with
        | none =>
          have h3 : y.2 = cost := h3
          rw [if_pos (show (Option.isNone (none : Option Cut)) = true from rfl)]
          simp only [bs]
          rw [if_pos (decide_eq_true h3)]
        | some d =>
          have h3 : y.2 + pc price H y.1 d = cost := h3
          rw [if_neg (show ¬ (Option.isNone (some d)) = true from fun z => by cases z)]
          simp only [bs]
          rw [if_neg (by decide), if_pos (show (Option.isSome (some d)) = true from rfl), page_ok p hy (hc d rfl)]
          simp only [bs]
          rw [if_pos (decide_eq_true h3)]
      show ((m_step_to_L1 price H depth cost c (y.1, some y.2, ()) ()).bind _) = _
      rw [e]
      rfl
    · have e : m_step_to_L1 price H depth cost c (y.1, some y.2, ()) () = some (.nx ()) := by
        unfold m_step_to_L1
        dsimp only
        by_cases h : y.1 < depth ∧ depth - y.1 ≤ H
        · rw [if_pos (by rw [Bool.and_eq_true, Bool.and_eq_true, decide_eq_true_eq, decide_eq_true_eq]; exact ⟨rfl, h⟩)]
          cases c with
          | none =>
            have h3 : ¬ y.2 = cost := fun z => hs ⟨h.1, h.2, z⟩
            rw [if_pos (show (Option.isNone (none : Option Cut)) = true from rfl)]
            simp only [bs]
            rw [if_neg (by rw [decide_eq_true_eq]; exact h3), if_neg (show ¬ (Option.isSome (none : Option Cut)) = true from fun z => by cases z)]
            simp only [bs]
            rw [if_neg (by decide)]
          | some d =>
            have h3 : ¬ y.2 + pc price H y.1 d = cost := fun z => hs ⟨h.1, h.2, z⟩
            rw [if_neg (show ¬ (Option.isNone (some d)) = true from fun z => by cases z)]
            simp only [bs]
            rw [if_neg (by decide), if_pos (show (Option.isSome (some d)) = true from rfl), page_ok p hy (hc d rfl)]
            simp only [bs]
            rw [if_neg (by rw [decide_eq_true_eq]; exact h3)]
        · rw [if_neg (by rw [Bool.and_eq_true, Bool.and_eq_true, decide_eq_true_eq, decide_eq_true_eq]; exact fun z => h z.2)]
      have hx2 : ∃ x ∈ q, Stp price H depth cost c x := by
        obtain ⟨x, hm, hx⟩ := hx
        rcases List.mem_cons.mp hm with rfl | hm
        · exact absurd hx hs
        · exact ⟨x, hm, hx⟩
      obtain ⟨x, h1, h2, h3⟩ := ih (fun x h => hq x (List.mem_cons_of_mem _ h)) hx2
      refine ⟨x, List.mem_cons_of_mem _ h1, h2, ?_⟩
      show forC _ ((y.1, some y.2, ()) :: pq q) () = _
      rw [forC_cons e]
      exact h3
inductive Way (price H T : Int) (C : List Cut) : Int → List Int → Int → Prop
  | last {t : Int} : t < T → T - t ≤ H → Way price H T C t [T] 0
  | cons {t : Int} {c : Cut} {ds : List Int} {v : Int} : c ∈ C → t < c.1 → c.1 - t ≤ H → Way price H T C c.1 ds v → Way price H T C t (c.1 :: ds) (pc price H t c + v)
theorem way_end {price H T : Int} {C : List Cut} {t : Int} {ds : List Int} {v : Int} (h : Way price H T C t ds v) : ∃ l, ds = l ++ [T] := by
  induction h with
  | last => exact ⟨[], rfl⟩
  | cons _ _ _ _ ih =>
    obtain ⟨l, rfl⟩ := ih
    exact ⟨_ :: l, rfl⟩
theorem q_one {price H : Int} {C : List Cut} {q : List (Int × Int)} (hq : PQ price H C q) {a b c : Int} (h1 : (a, b) ∈ q) (h2 : (a, c) ∈ q) : b = c := by
  have e1 := getD_mem (lt_nodup hq.pw) h1
  have e2 := getD_mem (lt_nodup hq.pw) h2
  have e1 : getD q a = some b := e1
  have e2 : getD q a = some c := e2
  rw [e1] at e2
  exact Option.some.inj e2
structure Pages (price H T : Int) (C : List Cut) (q : List (Int × Int)) (ds : List Int) (cost : Int) : Prop where
  ppq : PQ price H C q
  tops : q.map (·.1) = 0 :: C.dropLast.map (·.1)
  lt : ∀ x ∈ q, x.1 < T
  way : Way price H T C 0 ds cost
  least : ∀ x ∈ q, T - x.1 ≤ H → cost ≤ x.2
  len : ds.length ≤ 1000
  att : ∃ x ∈ q, T - x.1 ≤ H ∧ x.2 = cost
theorem set_ok {bs_ : List Block} {price H T : Int} (p : Pr price H) {C : List Cut} (hc : m_cuts_of bs_ = some C) (hC : CutsOk T C) (g : Gaps H 0 C) (hl : ∃ t, forC (m_set_pages_L1 bs_ H) C 0 = some (.nx t)) :
    ∃ q ds cost, m_set_pages bs_ price H = some (Er.ok (ds, pq q, ())) ∧ Pages price H T C q ds cost := by
  obtain ⟨q, e1, hq, em, ⟨z, hz, hz2⟩, hlt⟩ := paper_ok p hC g
  obtain ⟨t0, e3⟩ := hl
  have hqb : ∀ x ∈ q, 0 ≤ x.1 ∧ x.1 ≤ 1000 := fun x hx => (hq.nn x hx).2
  have hql : q.length ≤ 300 := by
    have := congrArg List.length em
    rw [List.length_map, List.length_cons, List.length_map, List.length_dropLast] at this
    have := hC.len
    omega
  have hend : atI C (-(1 : Int)) = some (C.getLast hC.ne) := at_last hC.ne
  have hT := hC.t
  -- the costs of the last page's tops
  have e4 : lcM (fun (x : Pp) => (some ((x.2.1.isSome) && (decide ((T - x.1) ≤ H))))) (fun (x : Pp) => ((x.2.1).bind fun s => some s)) (pq q) = some (((pq q).filter fun x => (x.2.1.isSome) && (decide ((T - x.1) ≤ H))).map fun x => x.2.1.getD 0) := by
    rw [lcM_len (by unfold pq; rw [List.length_map]; omega)]
    refine lcGo_if (fun x : Pp => (x.2.1.isSome) && (decide ((T - x.1) ≤ H))) (fun x : Pp => x.2.1.getD 0) (fun _ _ => rfl) fun x hx _ => ?_
    obtain ⟨y, _, rfl⟩ := List.mem_map.mp hx
    rfl
  have hin : ∀ x ∈ q, T - x.1 ≤ H → x.2 ∈ (((pq q).filter fun x => (x.2.1.isSome) && (decide ((T - x.1) ≤ H))).map fun x => x.2.1.getD 0) := fun x hx h => by
    refine List.mem_map.mpr ⟨(x.1, some x.2, ()), List.mem_filter.mpr ⟨List.mem_map.mpr ⟨x, hx, rfl⟩, ?_⟩, rfl⟩
    rw [Bool.and_eq_true, decide_eq_true_eq]
    exact ⟨rfl, h⟩
  have hout : ∀ v ∈ (((pq q).filter fun x => (x.2.1.isSome) && (decide ((T - x.1) ≤ H))).map fun x => x.2.1.getD 0), ∃ x ∈ q, T - x.1 ≤ H ∧ x.2 = v := fun v hv => by
    obtain ⟨y, hy, rfl⟩ := List.mem_map.mp hv
    obtain ⟨h1, h2⟩ := List.mem_filter.mp hy
    obtain ⟨x, hx, rfl⟩ := List.mem_map.mp h1
    rw [Bool.and_eq_true, decide_eq_true_eq] at h2
    exact ⟨x, hx, h2.2, rfl⟩
  generalize (((pq q).filter fun x => (x.2.1.isSome) && (decide ((T - x.1) ≤ H))).map fun x => x.2.1.getD 0) = zs at e4 hin hout
  obtain ⟨cost, e5⟩ : ∃ m, minL zs = some m := by
    have := hin z hz hz2
    cases zs with
    | nil => cases this
    | cons a r => exact ⟨_, rfl⟩
  obtain ⟨m1, m2⟩ := minL_spec e5
  obtain ⟨y, hy, hy1, hy2⟩ := hout cost m1
  obtain ⟨x0, hx0, ⟨s1, s2, s3⟩, e6⟩ := step_ok (depth := T) (cost := cost) (c := none) p (fun d h => nomatch h) q hqb ⟨y, hy, hlt y hy, hy1, hy2⟩
  have s3 : x0.2 = cost := s3
  -- the way back
  obtain ⟨⟨top, depths⟩, e7, ⟨c, v, hm, hw, hv, hln⟩, hcond⟩ := whileF_inv (c := m_set_pages_L2_c price H (Dc.mk (mergeD ([] : List (Int × Str)) (prs1 C))) (pq q) (Dc.mk (mergeD ([] : List (Int × (Option Int))) (prs1 (pq q))))) (f := m_set_pages_L2 price H (Dc.mk (mergeD ([] : List (Int × Str)) (prs1 C))) (pq q) (Dc.mk (mergeD ([] : List (Int × (Option Int))) (prs1 (pq q)))))
    (fun s => ∃ c v, (s.1, c) ∈ q ∧ Way price H T C s.1 s.2.reverse v ∧ c + v = cost ∧ (s.2.length : Int) + s.1 ≤ T) (fun s => s.1.toNat) (fun s hs => by
      obtain ⟨top, depths⟩ := s
      obtain ⟨c, v, hm, hw, hv, hln⟩ := hs
      have hm : (top, c) ∈ q := hm
      have hln : (depths.length : Int) + top ≤ T := hln
      refine ⟨_, rfl, fun hb => ?_⟩
      have hb : 0 < top := of_decide_eq_true hb
      obtain ⟨x, hx, d, hd, hd1, hd2, hd3, hd4⟩ := hq.B (top, c) hm hb
      have hd1 : d.1 = top := hd1
      obtain ⟨dd, dw, du⟩ := d
      cases du
      have hd1 : dd = top := hd1
      subst hd1
      have hnn := (hq.nn _ hm).2
      obtain ⟨x1, hx1, ⟨t1, t2, t3⟩, e⟩ := step_ok (depth := dd) (cost := c) (c := some (dd, dw, ())) p (fun d h => by cases h; exact hnn) q hqb ⟨x, hx, hd2, hd3, hd4.symm⟩
      have t3 : x1.2 + pc price H x1.1 (dd, dw, ()) = c := t3
      refine ⟨(x1.1, depths ++ [dd]), ?_, ⟨x1.2, pc price H x1.1 (dd, dw, ()) + v, hx1, ?_, by omega, ?_⟩, by show x1.1.toNat < dd.toNat; have := (hqb x1 hx1).1; omega⟩
      · unfold m_set_pages_L2
        dsimp only
        rw [appO_ok (by omega)]
        simp only [bs]
        rw [merge_get (xs := pq q) (k := dd) (y := some c) (by unfold pq; rw [List.map_map]; exact lt_nodup hq.pw) (List.mem_map.mpr ⟨_, hm, rfl⟩)]
        simp only [bs]
        rw [merge_get (xs := C) (k := dd) (y := dw) (lt_nodup hC.pw) hd]
        simp only [bs]
        rw [e]
        rfl
      · show Way price H T C x1.1 (depths ++ [dd]).reverse _
        rw [List.reverse_append]
        exact .cons (c := (dd, dw, ())) hd t1 t2 hw
      · show (((depths ++ [dd]).length : Nat) : Int) + x1.1 ≤ T
        rw [List.length_append, List.length_singleton]
        omega) (s := (x0.1, [T])) ⟨x0.2, 0, hx0, .last s1 s2, by omega, by show (1 : Int) + x0.1 ≤ T; omega⟩
  have hm : (top, c) ∈ q := hm
  have hcond : decide (0 < top) = false := Option.some.inj hcond
  rw [decide_eq_false_iff_not] at hcond
  have hnn := (hq.nn _ hm).2.1
  have ht : top = 0 := by
    have : 0 ≤ top := hnn
    omega
  subst ht
  have hc0 := q_one hq hm hq.hd
  subst hc0
  have hv2 : v = cost := by omega
  subst hv2
  refine ⟨q, depths.reverse, v, ?_, hq, em, hlt, hw, fun x hx h => m2 _ (hin x hx h), ?_, y, hy, hy1, hy2⟩
  · unfold m_set_pages
    rw [hc]
    simp only [bs]
    rw [e3]
    simp only [bs]
    rw [e1]
    simp only [bs]
    rw [hend]
    simp only [bs, hC.last]
    have e4' : lcM (fun ((top_164, told_165, _) : Pp) => (some ((told_165.isSome) && (decide ((T - top_164) ≤ H))))) (fun ((top_164, told_165, _) : Pp) => ((told_165).bind fun s_167 => some s_167)) (pq q) = some zs := e4
    rw [e4', bs, e5]
    simp only [bs]
    rw [e6]
    simp only [bs]
    rw [e7]
    rfl
  · rw [List.length_reverse]
    have hln : (depths.length : Int) + 0 ≤ T := hln
    omega
/-! the checker of pages over data of any kind -/
theorem cut_le {α : Type} (xs : List α) (a b : Nat) : (cut xs (some (a : Int)) (some (b : Int))).length ≤ b - a := by
  unfold cut
  rw [HT.sIx_nat, HT.sIx_nat, List.length_take]
  omega
def en {α : Type} : Nat → List α → List (Int × α × Unit)
  | _, [] => []
  | k, x :: xs => ((k : Int), x, ()) :: en (k + 1) xs
theorem en_map {α : Type} : ∀ (xs : List α) (k : Nat), xs.mapIdx (fun i x => (((i + k : Nat) : Int), x, ())) = en k xs
  | [], _ => rfl
  | x :: xs, k => by
    rw [List.mapIdx_cons]
    show (((0 + k : Nat) : Int), x, ()) :: _ = ((k : Int), x, ()) :: en (k + 1) xs
    rw [Nat.zero_add, ← en_map xs (k + 1)]
    refine congrArg _ (congrArg (fun f => List.mapIdx f xs) ?_)
    funext i y
    rw [show i + 1 + k = i + (k + 1) by omega]
theorem enumI_en {α : Type} (xs : List α) : enumI xs = en 0 xs := en_map xs 0
def DI (d : PyData) : Prop := (∃ i, d = .int i) ∨ ∃ b, d = .bool b
def PI (d : PyData) : Prop := ∃ t x, d = .tuple [.int t, x] ∧ (x = .none ∨ DI x)
theorem isi_ii (i : Int) : isiD ⟨.int i⟩ "int" = true := by
  show ("int" == "int") = true
  decide
theorem isi_ib (i : Int) : isiD ⟨.int i⟩ "bool" = false := by
  show ("bool" == "int") = false
  decide
theorem isi_bi (b : Bool) : isiD ⟨.bool b⟩ "int" = true := by
  show ("int" == "bool" || "int" == "int") = true
  decide
theorem isi_bb (b : Bool) : isiD ⟨.bool b⟩ "bool" = true := by
  show ("bool" == "bool" || "bool" == "int") = true
  decide
theorem isi_tt (l : List PyData) : isiD ⟨.tuple l⟩ "tuple" = true := by
  show ("tuple" == "tuple") = true
  decide
theorem isi_ll (l : List PyData) : isiD ⟨.list l⟩ "list" = true := by
  show ("list" == "list") = true
  decide
theorem isi_tl (l : List PyData) : isiD ⟨.tuple l⟩ "list" = false := by
  show ("list" == "tuple") = false
  decide
theorem isi_nl : isiD ⟨.none⟩ "list" = false := by
  show ("list" == "NoneType") = false
  decide
theorem whole_int (i : Int) : m_is_whole ⟨.int i⟩ = some (decide (0 ≤ i)) := by
  unfold m_is_whole
  rw [isi_ii, isi_ib, if_pos rfl, if_pos (by decide), ofI]
  rfl
theorem whole_bool (b : Bool) : m_is_whole ⟨.bool b⟩ = some false := by
  unfold m_is_whole
  rw [isi_bi, isi_bb, if_pos rfl, if_neg (by decide)]
  rfl
theorem num_int (i : Int) : m__law_is_number ⟨.int i⟩ = some (decide (0 ≤ i)) := by
  unfold m__law_is_number
  rw [isi_ii, isi_ib, if_pos rfl, if_pos (by decide), ofI]
  rfl
theorem num_bool (b : Bool) : m__law_is_number ⟨.bool b⟩ = some false := by
  unfold m__law_is_number
  rw [isi_bi, isi_bb, if_pos rfl, if_neg (by decide)]
  rfl
theorem ofL (ds : List PyData) : (ofD ⟨.list ds⟩ : Option (List Dy)) = some (ds.map Dy.mk) := by
  show ofAll (α := Dy) ds = _
  induction ds with
  | nil => rfl
  | cons d ds ih =>
    show (some (Dy.mk d)).bind (fun x => (ofAll ds).bind fun xs => some (x :: xs)) = _
    rw [ih]
    rfl
theorem eqY_int (a b : Int) : eqYO ⟨.int a⟩ (upD b) = some (decide (a = b)) := by
  unfold eqYO
  have h : ∀ i : Int, SeqAt.shaped (.int i) = true := fun i => okn_shaped (okn_int i 0) (by omega)
  show (if SeqAt.shaped (.int a) = true ∧ SeqAt.shaped (.int b) = true then some (PyData.eqv (.int a) (.int b)) else none) = _
  rw [if_pos ⟨h a, h b⟩]
  refine congrArg some (Bool.eq_iff_iff.mpr ?_)
  simp [PyData.eqv]
theorem eqY_non (b : Int) : eqYO ⟨.none⟩ (upD b) = some false := by
  unfold eqYO
  have h : ∀ i : Int, SeqAt.shaped (.int i) = true := fun i => okn_shaped (okn_int i 0) (by omega)
  show (if SeqAt.shaped .none = true ∧ SeqAt.shaped (.int b) = true then some (PyData.eqv .none (.int b)) else none) = _
  rw [if_pos ⟨by decide +kernel, h b⟩]
  refine congrArg some ?_
  simp [PyData.eqv]
def goodP (s t : Int) (x : PyData) : Bool := decide (0 ≤ t) && (decide (t = s) && (match x with | .none => true | .int i => decide (0 ≤ i) | _ => false))
theorem two_of (t : Int) (x : PyData) : (ofD ⟨.tuple [.int t, x]⟩ : Option (Tu Dy)) = some ⟨[⟨.int t⟩, ⟨x⟩]⟩ := ofTu [.int t, x]
theorem paper_L1 {tops : List Int} {k : Int} {s t : Int} {x : PyData} (hs : atI tops k = some s) (hx : x = .none ∨ DI x) : m_is_page_paper_L1 tops (k, ⟨.tuple [.int t, x]⟩, ()) () = some (if (!goodP s t x) = true then .rt false else .nx ()) := by
  unfold m_is_page_paper_L1 goodP
  dsimp only
  rw [isi_tt, if_neg (by decide), two_of]
  simp only [bs, at2_0, at2_1]
  rw [if_neg (show ¬ (!decide ((([⟨.int t⟩, ⟨x⟩] : List Dy).length : Int) = 2)) = true by show ¬ (!decide ((2 : Int) = 2)) = true; decide), whole_int, bs]
  by_cases h0 : 0 ≤ t
  · rw [decide_eq_true h0, if_neg (by decide), hs, bs, ofI, bs, bs, bs]
    by_cases h1 : t = s
    · rw [decide_eq_true h1, bs, if_neg (show ¬ (!true) = true by decide)]
      rcases hx with rfl | ⟨i, rfl⟩ | ⟨b, rfl⟩
      · rw [if_neg (show ¬ (!isNoD ⟨.none⟩) = true by decide), bs, if_neg (by decide)]
        rfl
      · rw [if_pos (show (!isNoD ⟨.int i⟩) = true from rfl), whole_int, bs, bs]
        by_cases h2 : 0 ≤ i
        · rw [decide_eq_true h2, if_neg (by decide)]
          show _ = some (if (!(true && (true && decide (0 ≤ i)))) = true then _ else _)
          rw [decide_eq_true h2]
          rfl
        · rw [decide_eq_false h2, if_pos (by decide)]
          show _ = some (if (!(true && (true && decide (0 ≤ i)))) = true then _ else _)
          rw [decide_eq_false h2]
          rfl
      · rw [if_pos (show (!isNoD ⟨.bool b⟩) = true from rfl), whole_bool, bs, bs, if_pos (show (!false) = true from rfl)]
        rfl
    · rw [decide_eq_false h1, bs, if_pos (show (!false) = true from rfl)]
      rfl
  · rw [decide_eq_false h0, if_pos (show (!false) = true from rfl), bs, bs, bs, if_pos rfl]
    rfl
theorem paper_L2 {tops : List Int} {k : Int} {s t : Int} {x : PyData} (hs : atI tops k = some s) (hx : x = .none ∨ DI x) : m__law_is_paper_L1 tops (k, ⟨.tuple [.int t, x]⟩, ()) () = some (if (!goodP s t x) = true then .rt false else .nx ()) := by
  unfold m__law_is_paper_L1 goodP
  dsimp only
  rw [isi_tt, if_neg (by decide), two_of]
  simp only [bs, at2_0, at2_1]
  rw [if_neg (show ¬ (!decide ((([⟨.int t⟩, ⟨x⟩] : List Dy).length : Int) = 2)) = true by show ¬ (!decide ((2 : Int) = 2)) = true; decide), num_int, bs]
  by_cases h0 : 0 ≤ t
  · rw [decide_eq_true h0, if_neg (by decide), hs, bs, eqY_int, bs, bs, bs]
    by_cases h1 : t = s
    · rw [decide_eq_true h1, bs, if_neg (show ¬ (!true) = true by decide)]
      rcases hx with rfl | ⟨i, rfl⟩ | ⟨b, rfl⟩
      · rw [if_neg (show ¬ (!isNoD ⟨.none⟩) = true by decide), bs, if_neg (by decide)]
        rfl
      · rw [if_pos (show (!isNoD ⟨.int i⟩) = true from rfl), num_int, bs, bs]
        by_cases h2 : 0 ≤ i
        · rw [decide_eq_true h2, if_neg (by decide)]
          show _ = some (if (!(true && (true && decide (0 ≤ i)))) = true then _ else _)
          rw [decide_eq_true h2]
          rfl
        · rw [decide_eq_false h2, if_pos (by decide)]
          show _ = some (if (!(true && (true && decide (0 ≤ i)))) = true then _ else _)
          rw [decide_eq_false h2]
          rfl
      · rw [if_pos (show (!isNoD ⟨.bool b⟩) = true from rfl), num_bool, bs, bs, if_pos (show (!false) = true from rfl)]
        rfl
    · rw [decide_eq_false h1, bs, if_pos (show (!false) = true from rfl)]
      rfl
  · rw [decide_eq_false h0, if_pos (show (!false) = true from rfl), bs, bs, bs, if_pos rfl]
    rfl
def oD : Option Int → PyData
  | none => .none
  | some i => .int i
def enc (z : Int × Option Int) : PyData := .tuple [.int z.1, oD z.2]
def dec (d : PyData) : Int × Option Int := match d with
  | .tuple [.int t, .none] => (t, none)
  | .tuple [.int t, .int i] => (t, some i)
  | _ => (0, none)
def gd (tops : List Int) (y : Int × Dy × Unit) : Bool := match y.2.1.d with
  | .tuple [.int t, x] => (match atI tops y.1 with | some s => goodP s t x | none => false)
  | _ => false
def PapOk (d : PyData) : Prop := d = .none ∨ (∃ l, d = .tuple l) ∨ ∃ l, d = .list l ∧ l.length < 10000 ∧ ∀ x ∈ l, PI x
def Qs (T : Int) (C : List Cut) (qs : List (Int × Option Int)) : Prop := qs.map (·.1) = 0 :: C.dropLast.map (·.1) ∧ ∀ z ∈ qs, ∀ i, z.2 = some i → 0 ≤ i
section
variable {price H T : Int} {C : List Cut}
theorem tops77 (hC : CutsOk T C) : (lcM (fun _ => some true) (fun (x : Cut) => (some x.1)) (cut C none (some (-(1 : Int))))) = some (C.dropLast.map (·.1)) ∧ catO ([(0 : Int)] : List Int) (C.dropLast.map (·.1)) = some (0 :: C.dropLast.map (·.1)) := by
  have hl := hC.len
  rw [cut_init]
  have h1 : C.dropLast.length ≤ 200 := by rw [List.length_dropLast]; omega
  refine ⟨lcM_all (fun x : Cut => x.1) (by omega) (fun _ _ => rfl), ?_⟩
  rw [catO_ok (by rw [List.length_map]; show 1 + _ ≤ _; omega)]
  rfl
theorem enc_of {ps : List PyData} (hl : ps.length = C.length) (hC : CutsOk T C) (hp : ∀ x ∈ ps, PI x) (ha : (enumI (ps.map Dy.mk)).any (fun y => !gd (0 :: C.dropLast.map (·.1)) y) = false) : ∃ qs, ps = qs.map enc ∧ Qs T C qs := by
  have hlen : (0 :: C.dropLast.map (·.1) : List Int).length = C.length := by
    rw [List.length_cons, List.length_map, List.length_dropLast]
    have := List.length_pos_iff.mpr hC.ne
    omega
  have one : ∀ (i : Nat) (hi : i < ps.length), ∃ z : Int × Option Int, ps[i] = enc z ∧ dec ps[i] = z ∧ (0 :: C.dropLast.map (·.1) : List Int)[i]? = some z.1 ∧ ∀ v, z.2 = some v → 0 ≤ v := fun i hi => by
    have hm : ((i : Int), (⟨ps[i]⟩ : Dy), ()) ∈ enumI (ps.map Dy.mk) := by
      refine List.mem_of_getElem? (i := i) ?_
      rw [List.getElem?_eq_getElem (by rw [enumI_len, List.length_map]; exact hi), enumI_at, List.getElem_map]
    have hg : gd (0 :: C.dropLast.map (·.1)) ((i : Int), (⟨ps[i]⟩ : Dy), ()) = true := by
      have := List.any_eq_false.mp ha _ hm
      simpa using this
    obtain ⟨t, x, e, hx⟩ := hp _ (List.getElem_mem hi)
    rw [e] at hg ⊢
    have ht : atI (0 :: C.dropLast.map (·.1) : List Int) (i : Int) = (0 :: C.dropLast.map (·.1) : List Int)[i]? := by
      rw [atI_ok (by omega) (by omega), Int.toNat_natCast]
    obtain ⟨s, hs⟩ : ∃ s, (0 :: C.dropLast.map (·.1) : List Int)[i]? = some s := ⟨_, List.getElem?_eq_getElem (by omega)⟩
    have hg : (match atI (0 :: C.dropLast.map (·.1) : List Int) (i : Int) with | some s => goodP s t x | none => false) = true := hg
    rw [ht, hs] at hg
    have hg : goodP s t x = true := hg
    unfold goodP at hg
    rw [Bool.and_eq_true, Bool.and_eq_true, decide_eq_true_eq, decide_eq_true_eq] at hg
    obtain ⟨g1, rfl, g3⟩ := hg
    rcases hx with rfl | ⟨v, rfl⟩ | ⟨b, rfl⟩
    · exact ⟨(t, none), rfl, rfl, hs, fun v h => nomatch h⟩
    · exact ⟨(t, some v), rfl, rfl, hs, fun w h => by cases h; exact of_decide_eq_true g3⟩
    · cases g3
  refine ⟨ps.map dec, ?_, ?_, fun z hz => ?_⟩
  · rw [List.map_map]
    refine List.ext_getElem (by rw [List.length_map]) fun i h1 h2 => ?_
    rw [List.getElem_map]
    obtain ⟨z, e1, e2, _⟩ := one i h1
    show ps[i] = enc (dec ps[i])
    rw [e2, e1]
  · rw [List.map_map]
    refine List.ext_getElem? fun i => ?_
    by_cases h : i < ps.length
    · obtain ⟨z, e1, e2, e3, _⟩ := one i h
      rw [List.getElem?_map, List.getElem?_eq_getElem h, e3]
      show some (dec ps[i]).1 = _
      rw [e2]
    · rw [List.getElem?_eq_none (by rw [List.length_map]; omega), List.getElem?_eq_none (by omega)]
  · obtain ⟨p, hp', rfl⟩ := List.mem_map.mp hz
    obtain ⟨i, hi, rfl⟩ := List.getElem_of_mem hp'
    obtain ⟨z, e1, e2, e3, e4⟩ := one i hi
    rw [e2]
    exact e4
theorem enum_L {f : (Int × Dy × Unit) → Unit → Option (Ctl Unit Bool)} {tops : List Int} {ps : List PyData} (hl : ps.length = tops.length) (hp : ∀ x ∈ ps, PI x)
    (hf : ∀ (k s t : Int) (x : PyData), atI tops k = some s → (x = .none ∨ DI x) → f (k, ⟨.tuple [.int t, x]⟩, ()) () = some (if (!goodP s t x) = true then .rt false else .nx ())) :
    forC f (enumI (ps.map Dy.mk)) () = some (if (enumI (ps.map Dy.mk)).any (fun y => !gd tops y) = true then .rt false else .nx ()) := by
  refine forC_any (fun y => !gd tops y) fun y hy => ?_
  obtain ⟨i, x, hx, rfl⟩ := enumI_mem hy
  rw [List.getElem?_map] at hx
  obtain ⟨p, hp', rfl⟩ := Option.map_eq_some_iff.mp hx
  obtain ⟨t, x, rfl, h⟩ := hp p (List.mem_of_getElem? hp')
  have hi := (List.getElem?_eq_some_iff.mp hp').1
  obtain ⟨s, hs⟩ : ∃ s, atI tops (i : Int) = some s := by
    obtain ⟨s, hs, _⟩ := atI_some (xs := tops) (i := (i : Int)) (by omega) (by omega)
    exact ⟨s, hs⟩
  rw [hf _ s t x hs h]
  have : gd tops ((i : Int), (⟨.tuple [.int t, x]⟩ : Dy), ()) = goodP s t x := by
    show (match atI tops (i : Int) with | some s => goodP s t x | none => false) = _
    rw [hs]
  rw [this]
theorem eqY_oD (o : Option Int) : eqYO ⟨oD o⟩ (upD (0 : Int)) = some (decide (o = some 0)) := by
  cases o with
  | none => exact eqY_non 0
  | some i =>
    show eqYO ⟨.int i⟩ (upD (0 : Int)) = _
    rw [eqY_int]
    refine congrArg some (Bool.eq_iff_iff.mpr ?_)
    simp
theorem paper_same (hC : CutsOk T C) {d : PyData} (h : PapOk d) : (m_is_page_paper ⟨d⟩ C = some false ∧ m__law_is_paper ⟨d⟩ C = some false) ∨
    ∃ qs z, d = .list ((z :: qs).map enc) ∧ Qs T C (z :: qs) ∧ m_is_page_paper ⟨d⟩ C = some true ∧ m__law_is_paper ⟨d⟩ C = some (decide (z.2 = some 0)) := by
  have hcl := hC.len
  obtain ⟨e1, e2⟩ := tops77 hC
  have e1' : (lcM (fun _ => some true) (fun ((depth_202, within_203, _) : Cut) => (some depth_202)) (cut C none (some (-(1 : Int))))) = some (C.dropLast.map (·.1)) := e1
  rcases h with rfl | ⟨l, rfl⟩ | ⟨ps, rfl, hl, hp⟩
  · refine .inl ⟨?_, ?_⟩
    · unfold m_is_page_paper
      rw [isi_nl, if_pos (by decide), bs, if_pos rfl]
    · unfold m__law_is_paper
      rw [isi_nl, if_pos (by decide), bs, if_pos rfl]
  · refine .inl ⟨?_, ?_⟩
    · unfold m_is_page_paper
      rw [isi_tl, if_pos (by decide), bs, if_pos rfl]
    · unfold m__law_is_paper
      rw [isi_tl, if_pos (by decide), bs, if_pos rfl]
  · by_cases hn : ps.length = C.length
    · have hlen : ps.length = (0 :: C.dropLast.map (·.1) : List Int).length := by
        rw [List.length_cons, List.length_map, List.length_dropLast, hn]
        have := List.length_pos_iff.mpr hC.ne
        omega
      have f1 := enum_L (f := m_is_page_paper_L1 (0 :: C.dropLast.map (·.1))) hlen hp fun k s t x h1 h2 => paper_L1 h1 h2
      have f2 := enum_L (f := m__law_is_paper_L1 (0 :: C.dropLast.map (·.1))) hlen hp fun k s t x h1 h2 => paper_L2 h1 h2
      have g1 : m_is_page_paper ⟨.list ps⟩ C = ((some (if (enumI (ps.map Dy.mk)).any (fun y => !gd (0 :: C.dropLast.map (·.1)) y) = true then (.rt false : Ctl Unit Bool) else .nx ())).bind fun c => match c with | .nx _ => some true | .bk _ => none | .rt r => some r) := by
        unfold m_is_page_paper
        rw [isi_ll, if_neg (by decide), ofL, bs, bs, if_neg (by rw [List.length_map, hn, decide_eq_true rfl]; decide), e1', bs, e2, bs, bs, bs, f1]
        all_goals (generalize (enumI (ps.map Dy.mk)).any (fun y => !gd (0 :: C.dropLast.map (·.1)) y) = b; cases b <;> rfl)
      have g2 : m__law_is_paper ⟨.list ps⟩ C = ((some (if (enumI (ps.map Dy.mk)).any (fun y => !gd (0 :: C.dropLast.map (·.1)) y) = true then (.rt false : Ctl Unit Bool) else .nx ())).bind fun c => match c with | .nx _ => ((some (ps.map Dy.mk)).bind fun o_566 => (atI o_566 (0 : Int)).bind fun i_567 => ((ofD i_567 : Option (Tu Dy))).bind fun o_568 => (atI o_568.l (1 : Int)).bind fun i_569 => (eqYO i_569 (upD (0 : Int))).bind fun e_570 => some e_570) | .bk _ => none | .rt r => some r) := by
        unfold m__law_is_paper
        rw [isi_ll, if_neg (by decide), ofL, bs, bs, if_neg (by rw [List.length_map, hn, decide_eq_true rfl]; decide), e1, bs, e2, bs, bs, bs, f2]
        all_goals (generalize (enumI (ps.map Dy.mk)).any (fun y => !gd (0 :: C.dropLast.map (·.1)) y) = b; cases b <;> rfl)
      cases ha : (enumI (ps.map Dy.mk)).any (fun y => !gd (0 :: C.dropLast.map (·.1)) y) with
      | true =>
        refine .inl ⟨?_, ?_⟩
        · rw [g1, ha]
          rfl
        · rw [g2, ha]
          rfl
      | false =>
        obtain ⟨qs, rfl, hq⟩ := enc_of hn hC hp ha
        cases qs with
        | nil =>
          have := hq.1
          cases this
        | cons z qs =>
          refine .inr ⟨qs, z, rfl, hq, ?_, ?_⟩
          · rw [g1, ha]
            rfl
          · rw [g2, ha]
            rw [if_neg (by decide)]
            simp only [bs]
            rw [show atI (((z :: qs).map enc).map Dy.mk) (0 : Int) = some ⟨enc z⟩ from by rw [atI_ok (Int.le_refl _) (by rw [List.length_map, List.length_map, List.length_cons]; omega)]; rfl]
            simp only [bs]
            rw [show (ofD ⟨enc z⟩ : Option (Tu Dy)) = some ⟨[⟨.int z.1⟩, ⟨oD z.2⟩]⟩ from two_of _ _]
            simp only [bs, at2_1]
            rw [eqY_oD]
            rfl
    · refine .inl ⟨?_, ?_⟩
      · unfold m_is_page_paper
        rw [isi_ll, if_neg (by decide), ofL, bs, bs, if_pos (by rw [List.length_map, decide_eq_false (show ¬ (ps.length : Int) = (C.length : Int) by omega)]; rfl)]
      · unfold m__law_is_paper
        rw [isi_ll, if_neg (by decide), ofL, bs, bs, if_pos (by rw [List.length_map, decide_eq_false (show ¬ (ps.length : Int) = (C.length : Int) by omega)]; rfl)]
end
/-! costs of depths and what the paper shows: the program and the law alike -/
def DepOk (d : PyData) : Prop := d = .none ∨ (∃ l, d = .tuple l) ∨ ∃ l, d = .list l ∧ l.length < 10000 ∧ (∀ x ∈ l, DI x) ∧ ∀ y, l.getLast? = some y → ∃ i, y = .int i
theorem getD_in {κ β : Type} [DecidableEq κ] {l : List (κ × β)} {k : κ} {y : β} (h : getD l k = some y) : (k, y) ∈ l := by
  unfold getD at h
  obtain ⟨kv, h1, rfl⟩ := Option.map_eq_some_iff.mp h
  have h2 := List.find?_some h1
  rw [decide_eq_true_eq] at h2
  rw [← h2]
  exact List.mem_of_find?_eq_some h1
section
variable {price H T : Int} {C : List Cut}
abbrev Wi (C : List Cut) : Dc Int Str := Dc.mk (mergeD ([] : List (Int × Str)) (prs1 C))
theorem wi_get (hC : CutsOk T C) {c : Cut} (h : c ∈ C) : getD (Wi C).l c.1 = some c.2.1 := by
  obtain ⟨d, w, u⟩ := c
  cases u
  exact merge_get (lt_nodup hC.pw) h
theorem wi_in (hC : CutsOk T C) {i : Int} {w : Str} (h : getD (Wi C).l i = some w) : (i, w, ()) ∈ C := by
  have nd : ((prs1 C).map (·.1)).Nodup := by
    have e : (prs1 C).map (·.1) = C.map (·.1) := by
      unfold prs1
      rw [List.map_map]
      rfl
    rw [e]
    exact lt_nodup hC.pw
  have h : getD (mergeD [] (prs1 C)) i = some w := h
  rw [merge_app (by rw [List.nil_append]; exact nd), List.nil_append] at h
  obtain ⟨c, hc, e⟩ := List.mem_map.mp (getD_in h)
  obtain ⟨d, v, u⟩ := c
  cases e
  exact hc
theorem cost_step (p : Pr price H) (hC : CutsOk T C) {all : List PyData} {k : Nat} {x : PyData} (hx : DI x) {top acc : Int} (ht : 0 ≤ top ∧ top ≤ 1000) :
    ∃ r, m_pages_cost_L1 price H ⟨.list all⟩ (Wi C) ((k : Int), ⟨x⟩, ()) (top, acc) = some r ∧ m__law_cost_L1 price H ⟨.list all⟩ (Wi C) ((k : Int), ⟨x⟩, ()) (top, acc) = some r ∧ (r = .rt none ∨ ∃ i a, x = .int i ∧ r = .nx (i, a) ∧ 0 ≤ i ∧ i ≤ 1000) := by
  have hT := hC.t
  have := p.p1
  have := p.p0
  have := p.h0
  have := p.h1
  rcases hx with ⟨i, rfl⟩ | ⟨b, rfl⟩
  · cases hw : getD (Wi C).l i with
    | none =>
      refine ⟨.rt none, ?_, ?_, .inl rfl⟩
      · unfold m_pages_cost_L1
        dsimp only
        rw [whole_int, bs]
        by_cases h0 : 0 ≤ i
        · rw [decide_eq_true h0, if_neg (by decide), ofI, bs, hw, if_pos (show (!(Option.isSome (none : Option Str))) = true from rfl), bs, bs, if_pos rfl]
        · rw [decide_eq_false h0, if_pos (show (!false) = true from rfl), bs, if_pos rfl]
      · unfold m__law_cost_L1
        dsimp only
        rw [isi_ii, isi_ib, if_neg (by decide), if_neg (by decide), ofI, bs, hw, bs, bs, if_pos (show (!(Option.isSome (none : Option Str))) = true from rfl)]
    | some w =>
      have hm := wi_in hC hw
      have hw' : getD (mergeD ([] : List (Int × Str)) (prs1 C)) i = some w := hw
      have hp := hC.pos _ hm
      have hp : 0 < i ∧ i ≤ T := hp
      by_cases hc : top < i ∧ i ≤ top + H
      · by_cases hk : (k : Int) + 1 < (all.length : Int)
        · refine ⟨.nx (i, acc + pc price H top (i, w, ())), ?_, ?_, .inr ⟨i, _, rfl, rfl, by omega, by omega⟩⟩
          · unfold m_pages_cost_L1
            dsimp only
            rw [whole_int, bs, decide_eq_true (show 0 ≤ i by omega), if_neg (by decide), ofI, bs, hw, if_neg (show ¬ (!(Option.isSome (some w))) = true from fun z => by cases z), bs, decide_eq_true hc.1, decide_eq_true hc.2, bs, bs, if_neg (by decide), ofL, bs]
            rw [if_pos (decide_eq_true (by rw [List.length_map]; exact hk))]
            simp only [bs, hw']
            rw [page_ok p ht ⟨by show 0 ≤ i; omega, by show i ≤ 1000; omega⟩]
            rfl
          · unfold m__law_cost_L1
            dsimp only
            rw [isi_ii, isi_ib, if_neg (by decide), if_neg (by decide), ofI, bs, hw, bs, bs, if_neg (show ¬ (!(Option.isSome (some w))) = true from fun z => by cases z), bs]
            rw [if_neg (by rw [decide_eq_true hc.1, decide_eq_true hc.2]; decide), ofL, bs]
            rw [if_pos (decide_eq_true (by rw [List.length_map]; exact hk))]
            simp only [bs]
            rw [sq_ok (by omega)]
            simp only [bs, hw']
            rw [mulO_ok (by omega) (by omega)]
            simp only [bs]
            have e3 : H - i + top = H - (i - top) := by omega
            unfold pc
            rw [e3, Int.add_assoc]
        · refine ⟨.nx (i, acc), ?_, ?_, .inr ⟨i, _, rfl, rfl, by omega, by omega⟩⟩
          · unfold m_pages_cost_L1
            dsimp only
            rw [whole_int, bs, decide_eq_true (show 0 ≤ i by omega), if_neg (by decide), ofI, bs, hw, if_neg (show ¬ (!(Option.isSome (some w))) = true from fun z => by cases z), bs, decide_eq_true hc.1, decide_eq_true hc.2, bs, bs, if_neg (by decide), ofL, bs]
            rw [if_neg (by rw [decide_eq_true_eq, List.length_map]; exact hk)]
            rfl
          · unfold m__law_cost_L1
            dsimp only
            rw [isi_ii, isi_ib, if_neg (by decide), if_neg (by decide), ofI, bs, hw, bs, bs, if_neg (show ¬ (!(Option.isSome (some w))) = true from fun z => by cases z), bs]
            rw [if_neg (by rw [decide_eq_true hc.1, decide_eq_true hc.2]; decide), ofL, bs]
            rw [if_neg (by rw [decide_eq_true_eq, List.length_map]; exact hk)]
            rfl
      · have hb : (decide (top < i) && decide (i ≤ top + H)) = false := by
          rw [Bool.and_eq_false_iff, decide_eq_false_iff_not, decide_eq_false_iff_not]
          by_cases h : top < i
          · exact .inr fun z => hc ⟨h, z⟩
          · exact .inl h
        refine ⟨.rt none, ?_, ?_, .inl rfl⟩
        · unfold m_pages_cost_L1
          dsimp only
          rw [whole_int, bs, decide_eq_true (show 0 ≤ i by omega), if_neg (by decide), ofI, bs, hw, if_neg (show ¬ (!(Option.isSome (some w))) = true from fun z => by cases z), bs, hb, bs, bs, if_pos (show (!false) = true from rfl)]
        · unfold m__law_cost_L1
          dsimp only
          rw [isi_ii, isi_ib, if_neg (by decide), if_neg (by decide), ofI, bs, hw, bs, bs, if_neg (show ¬ (!(Option.isSome (some w))) = true from fun z => by cases z), bs]
          rw [hb, if_pos (show (!false) = true from rfl)]
  · refine ⟨.rt none, ?_, ?_, .inl rfl⟩
    · unfold m_pages_cost_L1
      dsimp only
      rw [whole_bool, bs, if_pos (show (!false) = true from rfl), bs, if_pos rfl]
    · unfold m__law_cost_L1
      dsimp only
      rw [isi_bi, isi_bb, if_neg (by decide), if_pos rfl, bs, bs, if_pos rfl]
theorem cost_go (p : Pr price H) (hC : CutsOk T C) {all : List PyData} : ∀ (xs : List PyData) (k : Nat) (top acc : Int), 0 ≤ top ∧ top ≤ 1000 → (∀ x ∈ xs, DI x) →
    ∃ r, forC (m_pages_cost_L1 price H ⟨.list all⟩ (Wi C)) (en k (xs.map Dy.mk)) (top, acc) = some r ∧ forC (m__law_cost_L1 price H ⟨.list all⟩ (Wi C)) (en k (xs.map Dy.mk)) (top, acc) = some r ∧
      (r = .rt none ∨ ∃ t a, r = .nx (t, a) ∧ ((xs = [] ∧ t = top) ∨ xs.getLast? = some (.int t)))
  | [], k, top, acc, _, _ => ⟨.nx (top, acc), rfl, rfl, .inr ⟨top, acc, rfl, .inl ⟨rfl, rfl⟩⟩⟩
  | x :: xs, k, top, acc, ht, hx => by
    obtain ⟨r, e1, e2, h⟩ := cost_step p hC (all := all) (k := k) (hx x List.mem_cons_self) (acc := acc) ht
    show ∃ r, forC _ (((k : Int), ⟨x⟩, ()) :: en (k + 1) (xs.map Dy.mk)) _ = _ ∧ forC _ (((k : Int), ⟨x⟩, ()) :: en (k + 1) (xs.map Dy.mk)) _ = _ ∧ _
    rcases h with rfl | ⟨i, a, rfl, rfl, h0, h1⟩
    · refine ⟨.rt none, ?_, ?_, .inl rfl⟩
      · show (Option.bind _ _) = _
        rw [e1]
        rfl
      · show (Option.bind _ _) = _
        rw [e2]
        rfl
    · obtain ⟨r, f1, f2, h⟩ := cost_go p hC xs (k + 1) i a ⟨h0, h1⟩ fun y hy => hx y (List.mem_cons_of_mem _ hy)
      refine ⟨r, by rw [forC_cons e1]; exact f1, by rw [forC_cons e2]; exact f2, ?_⟩
      rcases h with rfl | ⟨t, b, rfl, h⟩
      · exact .inl rfl
      · refine .inr ⟨t, b, rfl, .inr ?_⟩
        rcases h with ⟨rfl, rfl⟩ | h
        · rfl
        · cases xs with
          | nil => cases h
          | cons y ys => exact h
theorem cost_same (p : Pr price H) (hC : CutsOk T C) {d : PyData} (h : DepOk d) : ∃ r, m_pages_cost C price H ⟨d⟩ = some r ∧ m__law_cost C price H ⟨d⟩ = some r := by
  have hend : atI C (-(1 : Int)) = some (C.getLast hC.ne) := at_last hC.ne
  rcases h with rfl | ⟨l, rfl⟩ | ⟨l, rfl, hl, hx, hy⟩
  · refine ⟨none, ?_, ?_⟩
    · unfold m_pages_cost
      rw [isi_nl, if_pos (by decide), bs, if_pos rfl]
    · unfold m__law_cost
      rw [isi_nl, if_pos (by decide), bs, if_pos rfl]
  · refine ⟨none, ?_, ?_⟩
    · unfold m_pages_cost
      rw [isi_tl, if_pos (by decide), bs, if_pos rfl]
    · unfold m__law_cost
      rw [isi_tl, if_pos (by decide), bs, if_pos rfl]
  · rcases List.eq_nil_or_concat l with rfl | ⟨L, y, e⟩
    · refine ⟨none, ?_, ?_⟩
      · unfold m_pages_cost
        rw [isi_ll, if_neg (by decide), ofL, bs]
        rfl
      · unfold m__law_cost
        rw [isi_ll, if_neg (by decide), ofL, bs]
        rfl
    · rw [List.concat_eq_append] at e
      subst e
      obtain ⟨z, rfl⟩ := hy y (by simp)
      have hne : ¬ (((L ++ [PyData.int z]).map Dy.mk).length : Int) = 0 := by
        rw [List.length_map, List.length_append]
        show ¬ ((L.length + 1 : Nat) : Int) = 0
        omega
      have hat : atI ((L ++ [PyData.int z]).map Dy.mk) (-(1 : Int)) = some ⟨.int z⟩ := by
        rw [List.map_append]
        exact at_snoc _ _
      obtain ⟨r, f1, f2, h⟩ := cost_go p hC (all := L ++ [PyData.int z]) (L ++ [PyData.int z]) 0 0 0 ⟨by omega, by omega⟩ hx
      have g1 : m_pages_cost C price H ⟨.list (L ++ [PyData.int z])⟩ = if z = T then ((some r).bind fun c => match c with | .nx s => some (some s.2) | .bk _ => none | .rt r => some r) else some none := by
        unfold m_pages_cost
        rw [isi_ll, if_neg (by decide), ofL]
        simp only [bs]
        rw [if_neg (by rw [decide_eq_true_eq]; exact hne), hat]
        simp only [bs]
        rw [hend]
        simp only [bs, hC.last, ofI]
        by_cases hz : z = T
        · rw [decide_eq_true hz, if_neg (by decide), if_pos hz, enumI_en, f1]
          cases r with
          | nx s => rfl
          | bk s => rfl
          | rt s => rfl
        · rw [decide_eq_false hz, if_pos (show (!false) = true from rfl), if_neg hz]
      have g2 : m__law_cost C price H ⟨.list (L ++ [PyData.int z])⟩ = ((some r).bind fun c => match c with | .nx s => (if (!decide (s.1 = T)) = true then some none else some (some s.2)) | .bk _ => none | .rt r => some r) := by
        unfold m__law_cost
        rw [isi_ll, if_neg (by decide), ofL]
        simp only [bs]
        rw [if_neg (by rw [decide_eq_true_eq]; exact hne), enumI_en, f2]
        simp only [bs]
        rw [hend]
        simp only [bs, hC.last]
        cases r with
        | nx s => rfl
        | bk s => rfl
        | rt s => rfl
      rw [g1, g2]
      rcases h with rfl | ⟨t, a, rfl, h⟩
      · refine ⟨none, ?_, rfl⟩
        split <;> rfl
      · have ht : t = z := by
          rcases h with ⟨h, _⟩ | h
          · cases L <;> cases h
          · rw [List.getLast?_concat] at h
            cases h
            rfl
        subst ht
        by_cases hz : t = T
        · refine ⟨some a, by rw [if_pos hz]; rfl, ?_⟩
          show (if (!decide (t = T)) = true then some none else some (some a)) = _
          rw [decide_eq_true hz, if_neg (by decide)]
        · refine ⟨none, by rw [if_neg hz], ?_⟩
          show (if (!decide (t = T)) = true then some none else some (some a)) = _
          rw [decide_eq_false hz, if_pos (show (!false) = true from rfl)]
/-! what the paper shows -/
def itm (z : Int × Option Int) : Int × Dy × Unit := (z.1, ⟨oD z.2⟩, ())
theorem of_enc (zs : List (Int × Option Int)) : (ofD ⟨.list (zs.map enc)⟩ : Option (List (Int × Dy × Unit))) = some (zs.map itm) := by
  show ofAll (α := Int × Dy × Unit) _ = _
  induction zs with
  | nil => rfl
  | cons z zs ih =>
    rw [List.map_cons, List.map_cons]
    show (some (itm z)).bind (fun x => (ofAll _).bind fun xs => some (x :: xs)) = _
    rw [ih]
    rfl
def nxt (zs : List (Int × Option Int)) (j : Int) : Option Int := (zs[(j + 1).toNat]?).bind fun z => z.2
def bd (o : Option Int) (x : Int) : Bool := match o with
  | none => true
  | some v => decide (x < v)
def bad2 (price H : Int) (zs : List (Int × Option Int)) (t i : Int) (y : Int × Cut × Unit) : Bool := (decide (t < y.2.1.1) && decide (y.2.1.1 ≤ t + H)) && bd (nxt zs y.1) (i + pc price H t y.2.1)
def bad1 (price H T : Int) (C : List Cut) (zs : List (Int × Option Int)) (cost : Int) (y : Int × (Int × Dy × Unit) × Unit) : Bool := match y.2.1.2.1.d with
  | .int i => (enumI C.dropLast).any (bad2 price H zs y.2.1.1 i) || (decide (T ≤ y.2.1.1 + H) && decide (i < cost))
  | _ => false
theorem qs_next {zs : List (Int × Option Int)} (hq : Qs T C zs) {j : Nat} {c : Cut} (h : C.dropLast[j]? = some c) : ∃ o, atI (zs.map itm) ((j : Int) + 1) = some (itm (c.1, o)) ∧ nxt zs (j : Int) = o ∧ (c.1, o) ∈ zs := by
  have e : (zs.map (·.1))[j + 1]? = some c.1 := by
    rw [hq.1, List.getElem?_cons_succ, List.getElem?_map, h]
    rfl
  rw [List.getElem?_map] at e
  obtain ⟨z, hz, e⟩ := Option.map_eq_some_iff.mp e
  have hi := (List.getElem?_eq_some_iff.mp hz).1
  refine ⟨z.2, ?_, ?_, ?_⟩
  · rw [atI_ok (by omega) (by rw [List.length_map]; omega), show ((j : Int) + 1).toNat = j + 1 by omega, List.getElem?_map, hz, ← e]
    rfl
  · unfold nxt
    rw [show ((j : Int) + 1).toNat = j + 1 by omega, hz]
    rfl
  · rw [← e]
    exact List.mem_of_getElem? hz
theorem isNo_oD (o : Option Int) : isNoD ⟨oD o⟩ = o.isNone := by
  cases o <;> rfl
theorem shows_L2 (p : Pr price H) (hC : CutsOk T C) {zs : List (Int × Option Int)} (hq : Qs T C zs) {t i : Int} (ht : 0 ≤ t ∧ t ≤ 1000) {y : Int × Cut × Unit} (hy : y ∈ enumI C.dropLast) :
    m_pages_shown_L2 price H ⟨.list (zs.map enc)⟩ t ⟨.int i⟩ y () = some (if bad2 price H zs t i y = true then .rt false else .nx ()) ∧ m__law_shows_L2 price H ⟨.list (zs.map enc)⟩ t ⟨.int i⟩ y () = some (if bad2 price H zs t i y = true then .rt false else .nx ()) := by
  have hT := hC.t
  have := p.p1
  have := p.p0
  have := p.h0
  have := p.h1
  obtain ⟨j, c, hc, rfl⟩ := enumI_mem hy
  obtain ⟨o, e1, e2, _⟩ := qs_next hq hc
  have hp := hC.pos c (List.dropLast_subset _ (List.mem_of_getElem? hc))
  obtain ⟨d, w, u⟩ := c
  cases u
  have hp : 0 < d ∧ d ≤ T := hp
  have e1 : atI (zs.map itm) ((j : Int) + 1) = some (d, ⟨oD o⟩, ()) := e1
  have eb : bad2 price H zs t i ((j : Int), (d, w, ()), ()) = ((decide (t < d) && decide (d ≤ t + H)) && bd o (i + pc price H t (d, w, ()))) := by
    unfold bad2
    rw [e2]
  rw [eb]
  by_cases h : t < d ∧ d ≤ t + H
  · have hb : (decide (t < d) && decide (d ≤ t + H)) = true := by
      rw [Bool.and_eq_true, decide_eq_true_eq, decide_eq_true_eq]
      exact h
    rw [hb]
    constructor
    · unfold m_pages_shown_L2
      dsimp only
      rw [if_pos hb, page_ok p ht ⟨by show 0 ≤ d; omega, by show d ≤ 1000; omega⟩, bs, ofI, bs, bs, of_enc]
      simp only [bs, e1, isNo_oD]
      cases o with
      | none =>
        rw [if_pos (show (Option.isNone (none : Option Int)) = true from rfl), bs]
        rfl
      | some v =>
        rw [if_neg (show ¬ (Option.isNone (some v)) = true from fun z => by cases z)]
        rw [show (ofD (⟨oD (some v)⟩ : Dy) : Option Int) = some v from rfl, bs, bs]
        show _ = some (if (true && decide (i + pc price H t (d, w, ()) < v)) = true then _ else _)
        by_cases hv : i + pc price H t (d, w, ()) < v
        · rw [decide_eq_true hv, if_pos rfl]
          rfl
        · rw [decide_eq_false hv, if_neg (by decide)]
          rfl
    · unfold m__law_shows_L2
      dsimp only
      rw [if_pos hb, sq_ok (by omega), bs, ofI, bs, mulO_ok (by omega) (by omega), bs, bs, of_enc]
      simp only [bs, e1, isNo_oD]
      have e3 : i + (H - d + t) * (H - d + t) + price * (if (!decide (w = ("" : Str))) = true then (1 : Int) else 0) = i + pc price H t (d, w, ()) := by
        have e3 : H - d + t = H - (d - t) := by omega
        unfold pc
        rw [e3, Int.add_assoc]
      rw [e3]
      cases o with
      | none =>
        rw [if_pos (show (Option.isNone (none : Option Int)) = true from rfl), bs]
        rfl
      | some v =>
        rw [if_neg (show ¬ (Option.isNone (some v)) = true from fun z => by cases z)]
        rw [show (ofD (⟨oD (some v)⟩ : Dy) : Option Int) = some v from rfl, bs, bs]
        show _ = some (if (true && decide (i + pc price H t (d, w, ()) < v)) = true then _ else _)
        by_cases hv : i + pc price H t (d, w, ()) < v
        · rw [decide_eq_true hv, if_pos rfl]
          rfl
        · rw [decide_eq_false hv, if_neg (by decide)]
          rfl
  · have hb : (decide (t < d) && decide (d ≤ t + H)) = false := by
      rw [Bool.and_eq_false_iff, decide_eq_false_iff_not, decide_eq_false_iff_not]
      by_cases h1 : t < d
      · exact .inr fun z => h ⟨h1, z⟩
      · exact .inl h1
    rw [hb]
    constructor
    · unfold m_pages_shown_L2
      dsimp only
      rw [if_neg (by rw [hb]; decide)]
      rfl
    · unfold m__law_shows_L2
      dsimp only
      rw [if_neg (by rw [hb]; decide)]
      rfl
theorem qs_top {zs : List (Int × Option Int)} (hC : CutsOk T C) (hq : Qs T C zs) {z : Int × Option Int} (hz : z ∈ zs) : 0 ≤ z.1 ∧ z.1 ≤ 1000 := by
  have hT := hC.t
  have : z.1 ∈ zs.map (·.1) := List.mem_map.mpr ⟨z, hz, rfl⟩
  rw [hq.1] at this
  rcases List.mem_cons.mp this with h | h
  · omega
  · obtain ⟨c, hc, e⟩ := List.mem_map.mp h
    have := hC.pos c (List.dropLast_subset _ hc)
    have e : c.1 = z.1 := e
    omega
theorem shows_L1 (p : Pr price H) (hC : CutsOk T C) {zs : List (Int × Option Int)} (hq : Qs T C zs) (cost : Int) {y : Int × (Int × Dy × Unit) × Unit} (hy : y ∈ enumI (zs.map itm)) :
    m_pages_shown_L1 price H ⟨.list (zs.map enc)⟩ C (some cost) y () = some (if bad1 price H T C zs cost y = true then .rt false else .nx ()) ∧ m__law_shows_L1 C price H ⟨.list (zs.map enc)⟩ cost y () = some (if bad1 price H T C zs cost y = true then .rt false else .nx ()) := by
  have hend : atI C (-(1 : Int)) = some (C.getLast hC.ne) := at_last hC.ne
  obtain ⟨k, x, hx, rfl⟩ := enumI_mem hy
  rw [List.getElem?_map] at hx
  obtain ⟨z, hz, rfl⟩ := Option.map_eq_some_iff.mp hx
  have ht := qs_top hC hq (List.mem_of_getElem? hz)
  obtain ⟨t, o⟩ := z
  have ht : 0 ≤ t ∧ t ≤ 1000 := ht
  cases o with
  | none =>
    constructor
    · unfold m_pages_shown_L1 itm
      dsimp only
      rw [isNo_oD, if_neg (by decide)]
      rfl
    · unfold m__law_shows_L1 itm
      dsimp only
      rw [isNo_oD, if_pos (show (Option.isNone (none : Option Int)) = true from rfl)]
      rfl
  | some i =>
    have f1 := forC_any (f := m_pages_shown_L2 price H ⟨.list (zs.map enc)⟩ t ⟨.int i⟩) (r := false) (bad2 price H zs t i) fun y hy => (shows_L2 p hC hq ht hy).1
    have f2 := forC_any (f := m__law_shows_L2 price H ⟨.list (zs.map enc)⟩ t ⟨.int i⟩) (r := false) (bad2 price H zs t i) fun y hy => (shows_L2 p hC hq ht hy).2
    have eb : bad1 price H T C zs cost ((k : Int), itm (t, some i), ()) = ((enumI C.dropLast).any (bad2 price H zs t i) || (decide (T ≤ t + H) && decide (i < cost))) := rfl
    rw [eb]
    generalize (enumI C.dropLast).any (bad2 price H zs t i) = b at f1 f2
    constructor
    · unfold m_pages_shown_L1 itm
      dsimp only
      rw [isNo_oD, if_pos (show (!(Option.isNone (some i))) = true from rfl), cut_init]
      rw [show (⟨oD (some i)⟩ : Dy) = ⟨.int i⟩ from rfl, f1]
      cases b with
      | true => rfl
      | false =>
        rw [if_neg (by decide)]
        simp only [bs]
        rw [hend]
        simp only [bs, hC.last]
        by_cases h : T ≤ t + H
        · rw [decide_eq_true h, if_pos rfl, ofI, bs, bs]
          by_cases h2 : i < cost
          · rw [decide_eq_true h2, if_pos rfl]
            rfl
          · rw [decide_eq_false h2, if_neg (by decide)]
            rfl
        · rw [decide_eq_false h, if_neg (by decide), bs, if_neg (by decide)]
          rfl
    · unfold m__law_shows_L1 itm
      dsimp only
      rw [isNo_oD, if_neg (show ¬ (Option.isNone (some i)) = true from fun z => by cases z), cut_init]
      rw [show (⟨oD (some i)⟩ : Dy) = ⟨.int i⟩ from rfl, f2]
      cases b with
      | true => rfl
      | false =>
        rw [if_neg (by decide)]
        simp only [bs]
        rw [hend]
        simp only [bs, hC.last]
        by_cases h : T ≤ t + H
        · rw [decide_eq_true h, if_pos rfl, ofI, bs, bs]
          by_cases h2 : i < cost
          · rw [decide_eq_true h2, if_pos rfl]
            rfl
          · rw [decide_eq_false h2, if_neg (by decide)]
            rfl
        · rw [decide_eq_false h, if_neg (by decide), bs, if_neg (by decide)]
          rfl
theorem shown_due {bs_ : List Block} (hc : m_cuts_of bs_ = some C) (p : Pr price H) (hC : CutsOk T C) {d P : PyData} (hd : DepOk d) (hP : PapOk P) :
    (m__law_is_paper ⟨P⟩ C = some false ∧ m_pages_shown bs_ price H ⟨d⟩ ⟨P⟩ = some false) ∨ (m__law_is_paper ⟨P⟩ C = some true ∧ m__law_cost C price H ⟨d⟩ = some none ∧ m_pages_shown bs_ price H ⟨d⟩ ⟨P⟩ = some false) ∨
    ∃ v b zs, P = .list (zs.map enc) ∧ Qs T C zs ∧ m__law_is_paper ⟨P⟩ C = some true ∧ m__law_cost C price H ⟨d⟩ = some (some v) ∧ b = !((enumI (zs.map itm)).any (bad1 price H T C zs v)) ∧ m__law_shows C price H ⟨P⟩ v = some b ∧ m_pages_shown bs_ price H ⟨d⟩ ⟨P⟩ = some b := by
  obtain ⟨r, c1, c2⟩ := cost_same p hC hd
  rcases paper_same hC hP with ⟨e1, e2⟩ | ⟨qs, z, rfl, hq, e1, e2⟩
  · refine .inl ⟨e2, ?_⟩
    unfold m_pages_shown
    rw [hc, bs, bs, e1, bs, if_pos (show (!false) = true from rfl), bs, if_pos rfl]
  · have h0 : atI ((z :: qs).map itm) (0 : Int) = some (itm z) := by
      rw [atI_ok (Int.le_refl _) (by rw [List.length_map, List.length_cons]; omega)]
      rfl
    by_cases hz : z.2 = some 0
    · rw [decide_eq_true hz] at e2
      have hs : m_pages_shown bs_ price H ⟨d⟩ ⟨.list ((z :: qs).map enc)⟩ = (if r.isNone = true then (some false) else ((forC (m_pages_shown_L1 price H ⟨.list ((z :: qs).map enc)⟩ C r) (enumI ((z :: qs).map itm)) ()).bind fun c => match c with | .nx _ => some true | .bk _ => none | .rt r_ => some r_)) := by
        unfold m_pages_shown
        rw [hc, bs, bs, e1, bs, if_neg (by decide), of_enc]
        simp only [bs, h0]
        rw [show (itm z).2.1 = ⟨oD z.2⟩ from rfl, eqY_oD, decide_eq_true hz]
        simp only [bs]
        rw [if_neg (by decide), c1]
        simp only [bs]
        all_goals rfl
      cases r with
      | none => exact .inr (.inl ⟨e2, c2, by rw [hs, if_pos (show (Option.isNone (none : Option Int)) = true from rfl)]⟩)
      | some v =>
        have f1 := forC_any (f := m_pages_shown_L1 price H ⟨.list ((z :: qs).map enc)⟩ C (some v)) (r := false) (bad1 price H T C (z :: qs) v) fun y hy => (shows_L1 p hC hq v hy).1
        have f2 := forC_any (f := m__law_shows_L1 C price H ⟨.list ((z :: qs).map enc)⟩ v) (r := false) (bad1 price H T C (z :: qs) v) fun y hy => (shows_L1 p hC hq v hy).2
        refine .inr (.inr ⟨v, _, z :: qs, rfl, hq, e2, c2, rfl, ?_, ?_⟩)
        · unfold m__law_shows
          rw [of_enc, bs, f2]
          cases (enumI ((z :: qs).map itm)).any (bad1 price H T C (z :: qs) v) <;> rfl
        · rw [hs, if_neg (show ¬ (Option.isNone (some v)) = true from fun z => by cases z), f1]
          cases (enumI ((z :: qs).map itm)).any (bad1 price H T C (z :: qs) v) <;> rfl
    · rw [decide_eq_false hz] at e2
      refine .inl ⟨e2, ?_⟩
      unfold m_pages_shown
      rw [hc, bs, bs, e1, bs, if_neg (by decide), of_enc]
      simp only [bs, h0]
      rw [show (itm z).2.1 = ⟨oD z.2⟩ from rfl, eqY_oD, decide_eq_false hz]
      simp only [bs]
      rw [if_pos (show (!false) = true from rfl)]
end
/-! what is told is shown; another row of depths -/
theorem way_len {price H T : Int} {C : List Cut} {t : Int} {ds : List Int} {v : Int} (h : Way price H T C t ds v) : (ds.length : Int) + t ≤ T := by
  induction h with
  | @last t h1 h2 =>
    show (1 : Int) + t ≤ T
    omega
  | @cons t c ds v hc h1 h2 hw ih =>
    rw [List.length_cons]
    omega
theorem way_ne {price H T : Int} {C : List Cut} {t : Int} {ds : List Int} {v : Int} (h : Way price H T C t ds v) : 0 < ds.length := by
  obtain ⟨l, rfl⟩ := way_end h
  rw [List.length_append]
  exact Nat.succ_pos _
def zq (q : List (Int × Int)) : List (Int × Option Int) := q.map fun x => (x.1, some x.2)
theorem up_pq (q : List (Int × Int)) : upD (pq q) = ⟨.list ((zq q).map enc)⟩ := by
  show (⟨.list ((pq q).map Ud.toD)⟩ : Dy) = _
  unfold pq zq
  rw [List.map_map, List.map_map]
  rfl
theorem up_ds (ds : List Int) : upD ds = ⟨.list (ds.map .int)⟩ := rfl
theorem pap_zq {zs : List (Int × Option Int)} (hl : zs.length < 10000) : PapOk (.list (zs.map enc)) := .inr (.inr ⟨_, rfl, by rw [List.length_map]; exact hl, fun x hx => by
  obtain ⟨z, _, rfl⟩ := List.mem_map.mp hx
  refine ⟨z.1, oD z.2, rfl, ?_⟩
  cases z.2 with
  | none => exact .inl rfl
  | some i => exact .inr (.inl ⟨i, rfl⟩)⟩)
theorem dep_int {ds : List Int} (hl : ds.length < 10000) : DepOk (.list (ds.map .int)) := .inr (.inr ⟨_, rfl, by rw [List.length_map]; exact hl, fun x hx => by
  obtain ⟨i, _, rfl⟩ := List.mem_map.mp hx
  exact .inl ⟨i, rfl⟩, fun y hy => by
  obtain ⟨i, _, rfl⟩ := List.mem_map.mp (List.mem_of_getLast? hy)
  exact ⟨i, rfl⟩⟩)
section
variable {price H T : Int} {C : List Cut} {q : List (Int × Int)} {ds : List Int} {cost : Int}
theorem q_len (P : Pages price H T C q ds cost) (hC : CutsOk T C) : q.length = C.length := by
  have := congrArg List.length P.tops
  rw [List.length_map, List.length_cons, List.length_map, List.length_dropLast] at this
  have := List.length_pos_iff.mpr hC.ne
  omega
theorem qs_zq (P : Pages price H T C q ds cost) : Qs T C (zq q) := by
  refine ⟨?_, fun z hz i hi => ?_⟩
  · unfold zq
    rw [List.map_map]
    exact P.tops
  · obtain ⟨x, hx, rfl⟩ := List.mem_map.mp hz
    cases hi
    exact (P.ppq.nn x hx).1
theorem paper_true (P : Pages price H T C q ds cost) (hC : CutsOk T C) : m__law_is_paper ⟨.list ((zq q).map enc)⟩ C = some true := by
  have hcl := hC.len
  have hl := q_len P hC
  have hqs := qs_zq P
  obtain ⟨e1, e2⟩ := tops77 hC
  have hzl : (zq q).length = q.length := by unfold zq; rw [List.length_map]
  have hlen : ((zq q).map enc).length = (0 :: C.dropLast.map (·.1) : List Int).length := by
    rw [← hqs.1, List.length_map, List.length_map]
  have hp : ∀ x ∈ (zq q).map enc, PI x := by
    rcases pap_zq (zs := zq q) (by omega) with h | ⟨l, h⟩ | ⟨l, h, _, hp⟩
    · cases h
    · cases h
    · cases h
      exact hp
  have f2 := enum_L (f := m__law_is_paper_L1 (0 :: C.dropLast.map (·.1))) hlen hp fun k s t x h1 h2 => paper_L2 h1 h2
  have ha : (enumI (((zq q).map enc).map Dy.mk)).any (fun y => !gd (0 :: C.dropLast.map (·.1)) y) = false := by
    refine List.any_eq_false.mpr fun y hy => ?_
    obtain ⟨i, x, hx, rfl⟩ := enumI_mem hy
    rw [List.getElem?_map, List.getElem?_map] at hx
    obtain ⟨p, hp', rfl⟩ := Option.map_eq_some_iff.mp hx
    obtain ⟨z, hz, rfl⟩ := Option.map_eq_some_iff.mp hp'
    have hi := (List.getElem?_eq_some_iff.mp hz).1
    have hm := List.mem_of_getElem? hz
    have hs : atI (0 :: C.dropLast.map (·.1) : List Int) (i : Int) = some z.1 := by
      rw [← hqs.1, atI_ok (by omega) (by rw [List.length_map]; omega), Int.toNat_natCast, List.getElem?_map, hz]
      rfl
    have ht := qs_top hC hqs hm
    have : gd (0 :: C.dropLast.map (·.1)) ((i : Int), (⟨enc z⟩ : Dy), ()) = true := by
      show (match atI (0 :: C.dropLast.map (·.1) : List Int) (i : Int) with | some s => goodP s z.1 (oD z.2) | none => false) = true
      rw [hs]
      show goodP z.1 z.1 (oD z.2) = true
      unfold goodP
      rw [decide_eq_true ht.1, decide_eq_true rfl]
      cases h : z.2 with
      | none => rfl
      | some v =>
        show (true && (true && decide (0 ≤ v))) = true
        rw [decide_eq_true (hqs.2 z hm v h)]
        rfl
    rw [this]
    decide
  unfold m__law_is_paper
  rw [isi_ll, if_neg (by decide), ofL, bs, bs, if_neg (by rw [List.length_map, List.length_map, hzl, hl, decide_eq_true rfl]; decide), e1, bs, e2, bs, bs, bs, f2, ha, if_neg (by decide)]
  simp only [bs]
  have h0 := P.ppq.hd2
  cases q with
  | nil => cases h0
  | cons a r =>
    have : a = (0, 0) := Option.some.inj h0
    subst this
    rw [show atI (((zq ((0, 0) :: r)).map enc).map Dy.mk) (0 : Int) = some ⟨enc (0, some 0)⟩ from by rw [atI_ok (Int.le_refl _) (by rw [List.length_map, List.length_map, hzl, List.length_cons]; omega)]; rfl]
    simp only [bs]
    rw [show (ofD ⟨enc (0, some 0)⟩ : Option (Tu Dy)) = some ⟨[⟨.int 0⟩, ⟨oD (some 0)⟩]⟩ from two_of _ _]
    simp only [bs, at2_1]
    rw [eqY_oD]
    rfl
theorem law_step (p : Pr price H) (hC : CutsOk T C) {all : List PyData} {k : Nat} {c : Cut} (hm : c ∈ C) {top acc : Int} (ht : 0 ≤ top ∧ top ≤ 1000) (hc : top < c.1 ∧ c.1 - top ≤ H) :
    m__law_cost_L1 price H ⟨.list all⟩ (Wi C) ((k : Int), ⟨.int c.1⟩, ()) (top, acc) = some (.nx (c.1, if (k : Int) + 1 < (all.length : Int) then acc + pc price H top c else acc)) := by
  have hT := hC.t
  have := p.p1
  have := p.p0
  have := p.h0
  have := p.h1
  have hp := hC.pos c hm
  have hw := wi_get hC hm
  have hw' : getD (mergeD ([] : List (Int × Str)) (prs1 C)) c.1 = some c.2.1 := hw
  unfold m__law_cost_L1
  dsimp only
  rw [isi_ii, isi_ib, if_neg (by decide), if_neg (by decide), ofI, bs, hw', bs, bs, if_neg (show ¬ (!(Option.isSome (some c.2.1))) = true from fun z => by cases z), bs]
  rw [if_neg (by rw [decide_eq_true hc.1, decide_eq_true (show c.1 ≤ top + H by omega)]; decide), ofL, bs]
  by_cases hk : (k : Int) + 1 < (all.length : Int)
  · rw [if_pos (decide_eq_true (by rw [List.length_map]; exact hk)), if_pos hk]
    simp only [bs]
    rw [sq_ok (by omega)]
    simp only [bs, hw']
    rw [mulO_ok (by omega) (by omega)]
    simp only [bs]
    have e3 : H - c.1 + top = H - (c.1 - top) := by omega
    unfold pc
    rw [e3, Int.add_assoc]
  · rw [if_neg (by rw [decide_eq_true_eq, List.length_map]; exact hk), if_neg hk]
    rfl
theorem way_loop (p : Pr price H) (hC : CutsOk T C) {all : List PyData} {t : Int} {ds : List Int} {v : Int} (hw : Way price H T C t ds v) : ∀ (k : Nat) (acc : Int), 0 ≤ t → k + ds.length = all.length → forC (m__law_cost_L1 price H ⟨.list all⟩ (Wi C)) (en k ((ds.map PyData.int).map Dy.mk)) (t, acc) = some (.nx (T, acc + v)) := by
  have hT := hC.t
  have hlm := List.getLast_mem hC.ne
  have hlast := hC.last
  induction hw with
  | @last t h1 h2 =>
    intro k acc t0 hk
    have hk : k + 1 = all.length := hk
    have e := law_step p hC (all := all) (k := k) hlm (top := t) (acc := acc) ⟨by omega, by omega⟩ (by rw [hlast]; exact ⟨h1, h2⟩)
    rw [hlast, if_neg (by omega)] at e
    show forC _ (((k : Int), (⟨.int T⟩ : Dy), ()) :: []) _ = _
    rw [forC_cons e, Int.add_zero]
    rfl
  | @cons t c ds v hc h1 h2 hw ih =>
    intro k acc t0 hk
    have hk : k + (ds.length + 1) = all.length := hk
    have hn := way_ne hw
    have e := law_step p hC (all := all) (k := k) hc (top := t) (acc := acc) ⟨by omega, by have := (hC.pos c hc).2; omega⟩ ⟨h1, h2⟩
    rw [if_pos (by omega)] at e
    show forC _ (((k : Int), (⟨.int c.1⟩ : Dy), ()) :: en (k + 1) ((ds.map PyData.int).map Dy.mk)) _ = _
    rw [forC_cons e, ih (k + 1) _ (by omega) (by omega), Int.add_assoc]
theorem law_cost_ok (p : Pr price H) (hC : CutsOk T C) {ds : List Int} {v : Int} (hw : Way price H T C 0 ds v) : m__law_cost C price H ⟨.list (ds.map .int)⟩ = some (some v) := by
  have hn := way_ne hw
  unfold m__law_cost
  rw [isi_ll, if_neg (by decide), ofL]
  simp only [bs]
  rw [if_neg (by rw [decide_eq_true_eq, List.length_map, List.length_map]; omega)]
  rw [enumI_en, way_loop p hC hw 0 0 (Int.le_refl _) (by rw [List.length_map]; omega)]
  simp only [bs]
  rw [show atI C (-(1 : Int)) = some (C.getLast hC.ne) from at_last hC.ne]
  simp only [bs, hC.last]
  rw [if_neg (by decide), Int.zero_add]
theorem no_bad (P : Pages price H T C q ds cost) (hC : CutsOk T C) : (enumI ((zq q).map itm)).any (bad1 price H T C (zq q) cost) = false := by
  have hqs := qs_zq P
  refine List.any_eq_false.mpr fun y hy => ?_
  obtain ⟨k, x, hx, rfl⟩ := enumI_mem hy
  unfold zq at hx
  rw [List.getElem?_map, List.getElem?_map] at hx
  obtain ⟨z, hz, rfl⟩ := Option.map_eq_some_iff.mp hx
  obtain ⟨w, hw, rfl⟩ := Option.map_eq_some_iff.mp hz
  have hwq := List.mem_of_getElem? hw
  have eb : bad1 price H T C (zq q) cost ((k : Int), itm (w.1, some w.2), ()) = ((enumI C.dropLast).any (bad2 price H (zq q) w.1 w.2) || (decide (T ≤ w.1 + H) && decide (w.2 < cost))) := rfl
  rw [eb]
  have h1 : (enumI C.dropLast).any (bad2 price H (zq q) w.1 w.2) = false := by
    refine List.any_eq_false.mpr fun y hy => ?_
    obtain ⟨j, c, hc, rfl⟩ := enumI_mem hy
    obtain ⟨o, e1, e2, e3⟩ := qs_next hqs hc
    obtain ⟨u, hu, eu⟩ := List.mem_map.mp e3
    have hc1 : u.1 = c.1 := congrArg (fun z : Int × Option Int => z.1) eu
    have hc2 : some u.2 = o := congrArg (fun z : Int × Option Int => z.2) eu
    unfold bad2
    rw [e2, ← hc2]
    show ¬ ((decide (w.1 < c.1) && decide (c.1 ≤ w.1 + H)) && decide (w.2 + pc price H w.1 c < u.2)) = true
    rw [Bool.and_eq_true, Bool.and_eq_true, decide_eq_true_eq, decide_eq_true_eq, decide_eq_true_eq]
    rintro ⟨⟨g1, g2⟩, g3⟩
    have := P.ppq.A w hwq c (List.dropLast_subset _ (List.mem_of_getElem? hc)) u.2 (by rw [← hc1]; exact hu) g1 (by omega)
    omega
  rw [h1, Bool.false_or, Bool.and_eq_true, decide_eq_true_eq, decide_eq_true_eq]
  rintro ⟨g1, g2⟩
  have := P.least w hwq (by omega)
  omega
theorem told_true {bs_ : List Block} (hc : m_cuts_of bs_ = some C) (p : Pr price H) (hC : CutsOk T C) (P : Pages price H T C q ds cost) {es : List Int} (hw : Way price H T C 0 es cost) : m_pages_shown bs_ price H (upD es) (upD (pq q)) = some true := by
  have hT := hC.t
  have hcl := hC.len
  have hl := way_len hw
  have hq := q_len P hC
  rw [up_pq, up_ds]
  have e1 := paper_true P hC
  have e2 := law_cost_ok p hC hw
  rcases shown_due (bs_ := bs_) (price := price) (H := H) hc p hC (dep_int (ds := es) (by omega)) (pap_zq (zs := zq q) (by unfold zq; rw [List.length_map]; omega)) with ⟨h, _⟩ | ⟨_, h, _⟩ | ⟨v, b, zs, h0, _, _, h, hb, _, h2⟩
  · rw [e1] at h
    cases h
  · rw [e2] at h
    cases h
  · rw [e2] at h
    cases h
    have hz : zs = zq q := by
      have h0 : (zq q).map enc = zs.map enc := by
        injection h0
      have inj : ∀ a b : Int × Option Int, enc a = enc b → a = b := fun a b h => by
        obtain ⟨a1, a2⟩ := a
        obtain ⟨b1, b2⟩ := b
        have h : [PyData.int a1, oD a2] = [PyData.int b1, oD b2] := by injection h
        have h1 : PyData.int a1 = .int b1 := (List.cons.inj h).1
        have h2 : oD a2 = oD b2 := (List.cons.inj (List.cons.inj h).2).1
        cases h1
        cases a2 with
        | none => cases b2 with
          | none => rfl
          | some j => cases h2
        | some i => cases b2 with
          | none => cases h2
          | some j => cases h2; rfl
      refine List.ext_getElem? fun i => ?_
      have := congrArg (fun l : List PyData => l[i]?) h0
      simp only [List.getElem?_map] at this
      cases hx : zs[i]? with
      | none =>
        rw [hx] at this
        cases hy : (zq q)[i]? with
        | none => rfl
        | some y => rw [hy] at this; cases this
      | some x =>
        rw [hx] at this
        cases hy : (zq q)[i]? with
        | none => rw [hy] at this; cases this
        | some y =>
          rw [hy] at this
          exact congrArg some (inj _ _ (Option.some.inj this)).symm
    rw [h2, hb, hz, no_bad P hC]
    rfl
/-! another row of depths -/
abbrev Le (q : List (Int × Int)) : Dc Int (Option Int) := Dc.mk (mergeD ([] : List (Int × (Option Int))) (prs1 (pq q)))
theorem tops_loop (p : Pr price H) (hC : CutsOk T C) {depth c : Int} {ct : Option Cut} (hd : 0 ≤ depth ∧ depth ≤ 1000) (hct : (ct = none ∧ depth = T) ∨ ∃ d, ct = some d ∧ d ∈ C ∧ d.1 = depth ∧ depth ≠ T) :
    ∀ (q : List (Int × Int)) (acc : List Int), (∀ x ∈ q, 0 ≤ x.1 ∧ x.1 ≤ 1000) → acc.length + q.length < 1000 → ∃ ts, forS (m__law_another_L2 C price H (Wi C) depth (some c)) (pq q) acc = some (acc ++ ts) ∧ (∀ t ∈ ts, ∃ x ∈ q, Stp price H depth c ct x ∧ x.1 = t) ∧ ∀ x ∈ q, Stp price H depth c ct x → x.1 ∈ ts
  | [], acc, _, _ => ⟨[], by rw [List.append_nil]; rfl, (fun t h => nomatch h), (fun x h => nomatch h)⟩
  | x :: q, acc, hq, hl => by
    have hx := hq x List.mem_cons_self
    rw [List.length_cons] at hl
    have := p.p1
    have := p.p0
    have := p.h0
    have := p.h1
    have hend : atI C (-(1 : Int)) = some (C.getLast hC.ne) := at_last hC.ne
    obtain ⟨more, em, hs⟩ : ∃ more, ((if (!decide (depth = T)) = true then ((powO ((H - depth) + x.1) (2 : Int)).bind fun w_653 =>
  (getD (Wi C).l depth).bind fun i_654 =>
  (mulO price (if (!decide (i_654 = ("" : Str))) = true then (1 : Int) else 0)).bind fun m_655 =>
  (some (w_653 + m_655)).bind fun more_656 =>
  some more_656) else (some (0 : Int)))) = some more ∧ (Stp price H depth c ct x ↔ (depth - H ≤ x.1 ∧ x.1 < depth) ∧ x.2 + more = c) := by
      rcases hct with ⟨rfl, rfl⟩ | ⟨d, rfl, hdC, rfl, hne⟩
      · refine ⟨0, by rw [decide_eq_true rfl, if_neg (by decide)], ?_⟩
        unfold Stp
        constructor
        · rintro ⟨h1, h2, h3⟩
          have h3 : x.2 = c := h3
          exact ⟨⟨by omega, h1⟩, by omega⟩
        · rintro ⟨⟨h1, h2⟩, h3⟩
          exact ⟨h2, by omega, by show x.2 = c; omega⟩
      · refine ⟨pc price H x.1 d, ?_, ?_⟩
        · rw [decide_eq_false hne, if_pos (show (!false) = true from rfl), sq_ok (by omega)]
          simp only [bs]
          rw [wi_get hC hdC]
          simp only [bs]
          rw [mulO_ok (by omega) (by omega)]
          simp only [bs]
          have e3 : H - d.1 + x.1 = H - (d.1 - x.1) := by omega
          unfold pc
          rw [e3]
        · unfold Stp
          constructor
          · rintro ⟨h1, h2, h3⟩
            exact ⟨⟨by omega, h1⟩, h3⟩
          · rintro ⟨⟨h1, h2⟩, h3⟩
            exact ⟨h2, by omega, h3⟩
    by_cases hst : Stp price H depth c ct x
    · obtain ⟨ts, e, f1, f2⟩ := tops_loop p hC (c := c) hd hct q (acc ++ [x.1]) (fun y hy => hq y (List.mem_cons_of_mem _ hy)) (by rw [List.length_append, List.length_singleton]; omega)
      have e1 : m__law_another_L2 C price H (Wi C) depth (some c) (x.1, some x.2, ()) acc = some (acc ++ [x.1]) := by
        obtain ⟨g1, g2⟩ := hs.mp hst
        unfold m__law_another_L2
        dsimp only
        rw [bs, hend, bs, hC.last, em, bs, if_pos (show (Option.isSome (some x.2)) = true from rfl), decide_eq_true g1.1, decide_eq_true g1.2, if_pos (show (true && true) = true from rfl)]
        simp only [bs]
        rw [if_pos (decide_eq_true g2), appO_ok (by omega)]
        rfl
      refine ⟨x.1 :: ts, ?_, fun t ht => ?_, fun y hy hsy => ?_⟩
      · show forS _ ((x.1, some x.2, ()) :: pq q) acc = _
        rw [forS_cons e1, e, List.append_assoc]
        rfl
      · rcases List.mem_cons.mp ht with rfl | ht
        · exact ⟨x, List.mem_cons_self, hst, rfl⟩
        · obtain ⟨y, hy, h⟩ := f1 t ht
          exact ⟨y, List.mem_cons_of_mem _ hy, h⟩
      · rcases List.mem_cons.mp hy with rfl | hy
        · exact List.mem_cons_self
        · exact List.mem_cons_of_mem _ (f2 y hy hsy)
    · obtain ⟨ts, e, f1, f2⟩ := tops_loop p hC (c := c) hd hct q acc (fun y hy => hq y (List.mem_cons_of_mem _ hy)) (by omega)
      have e1 : m__law_another_L2 C price H (Wi C) depth (some c) (x.1, some x.2, ()) acc = some acc := by
        unfold m__law_another_L2
        dsimp only
        rw [bs, hend, bs, hC.last, em, bs, if_pos (show (Option.isSome (some x.2)) = true from rfl)]
        by_cases g1 : depth - H ≤ x.1 ∧ x.1 < depth
        · rw [decide_eq_true g1.1, decide_eq_true g1.2, if_pos (show (true && true) = true from rfl)]
          simp only [bs]
          rw [if_neg (by rw [decide_eq_true_eq]; exact fun z => hst (hs.mpr ⟨g1, z⟩))]
        · rw [if_neg (by rw [Bool.and_eq_true, decide_eq_true_eq, decide_eq_true_eq]; exact g1), bs, bs, if_neg (by decide)]
      refine ⟨ts, ?_, fun t ht => ?_, fun y hy hsy => ?_⟩
      · show forS _ ((x.1, some x.2, ()) :: pq q) acc = _
        rw [forS_cons e1, e]
      · obtain ⟨y, hy, h⟩ := f1 t ht
        exact ⟨y, List.mem_cons_of_mem _ hy, h⟩
      · rcases List.mem_cons.mp hy with rfl | hy
        · exact absurd hsy hst
        · exact f2 y hy hsy
theorem another_loop (p : Pr price H) (hC : CutsOk T C) (P : Pages price H T C q ds cost) : ∀ (n : Nat) (depth c : Int) (found : List Int) (ct : Option Cut), 0 ≤ depth ∧ depth ≤ T → ((ct = none ∧ depth = T) ∨ ∃ d, ct = some d ∧ d ∈ C ∧ d.1 = depth ∧ depth ≠ T) → (∃ x ∈ q, Stp price H depth c ct x) →
    (∀ x ∈ q, Stp price H depth c ct x → Way price H T C x.1 found.reverse (cost - x.2)) → (found.length : Int) + depth ≤ T + 1 → depth.toNat < n →
    ∃ r, whileC (m__law_another_L1_c C price H (pq q) (Le q) (Wi C)) (m__law_another_L1 C price H (pq q) (Le q) (Wi C)) n (depth, some c, found) = some (.rt r) ∧ Way price H T C 0 r cost
  | 0, depth, c, found, ct, _, _, _, _, _, h => absurd h (Nat.not_lt_zero _)
  | n + 1, depth, c, found, ct, hd, hct, hex, hway, hfl, hn => by
    have hT := hC.t
    have hql := q_len P hC
    have hcl := hC.len
    obtain ⟨ts, e, f1, f2⟩ := tops_loop p hC (c := c) ⟨hd.1, by omega⟩ hct q [] (fun x hx => (P.ppq.nn x hx).2) (by show 0 + _ < _; omega)
    obtain ⟨m, hm⟩ : ∃ m, maxL ts = some m := by
      obtain ⟨x, hx, hs⟩ := hex
      have := f2 x hx hs
      cases ts with
      | nil => cases this
      | cons a r => exact ⟨_, rfl⟩
    obtain ⟨m1, _⟩ := maxL_spec hm
    obtain ⟨x, hx, hs, rfl⟩ := f1 m m1
    have hw := hway x hx hs
    have hnn := P.ppq.nn x hx
    have hbody : m__law_another_L1 C price H (pq q) (Le q) (Wi C) (depth, some c, found) = some (if x.1 = 0 then .rt found.reverse else .nx (x.1, some x.2, found ++ [x.1])) := by
      unfold m__law_another_L1
      dsimp only
      rw [bs, e, List.nil_append, bs, hm, bs, bs]
      by_cases h0 : x.1 = 0
      · rw [if_pos (decide_eq_true h0), if_pos h0]
      · rw [if_neg (by rw [decide_eq_true_eq]; exact h0), if_neg h0, appO_ok (by omega)]
        simp only [bs]
        rw [merge_get (xs := pq q) (k := x.1) (y := some x.2) (by unfold pq; rw [List.map_map]; exact lt_nodup P.ppq.pw) (List.mem_map.mpr ⟨_, hx, rfl⟩)]
        rfl
    unfold whileC
    rw [show m__law_another_L1_c C price H (pq q) (Le q) (Wi C) (depth, some c, found) = some true from rfl, bs, if_pos rfl, hbody, bs]
    by_cases h0 : x.1 = 0
    · rw [if_pos h0]
      have hc0 : x.2 = 0 := by
        have hx' : (0, x.2) ∈ q := by
          rw [← h0]
          exact hx
        exact q_one P.ppq hx' P.ppq.hd
      rw [h0, hc0, Int.sub_zero] at hw
      exact ⟨_, rfl, hw⟩
    · rw [if_neg h0]
      obtain ⟨y, hy, d, hdC, hd1, hd2, hd3, hd4⟩ := P.ppq.B x hx (by omega)
      obtain ⟨s1, s2, _⟩ := hs
      refine another_loop p hC P n x.1 x.2 (found ++ [x.1]) (some d) ⟨hnn.2.1, Int.le_of_lt (P.lt x hx)⟩ (.inr ⟨d, rfl, hdC, hd1, by have := P.lt x hx; omega⟩) ⟨y, hy, hd2, hd3, hd4.symm⟩ (fun z hz hsz => ?_) (by rw [List.length_append, List.length_singleton]; omega) (by omega)
      obtain ⟨t1, t2, t3⟩ := hsz
      have t3 : z.2 + pc price H z.1 d = x.2 := t3
      rw [List.reverse_append]
      show Way price H T C z.1 (x.1 :: found.reverse) (cost - z.2)
      rw [show cost - z.2 = pc price H z.1 d + (cost - x.2) by omega, ← hd1]
      exact .cons hdC (by omega) (by omega) (by rw [hd1]; exact hw)
theorem another_ok (p : Pr price H) (hC : CutsOk T C) (P : Pages price H T C q ds cost) (hex : ∃ x ∈ q, T - x.1 ≤ H ∧ x.2 = cost) : ∃ r, m__law_another C price H ds (pq q) = some r ∧ Way price H T C 0 r cost := by
  have hT := hC.t
  have hend : atI C (-(1 : Int)) = some (C.getLast hC.ne) := at_last hC.ne
  have h0 := (hC.pos _ (List.getLast_mem hC.ne)).1
  rw [hC.last] at h0
  obtain ⟨x, hx, h1, h2⟩ := hex
  obtain ⟨r, e, hw⟩ := another_loop p hC P (T.toNat + 1) T cost [T] none ⟨by omega, Int.le_refl _⟩ (.inl ⟨rfl, rfl⟩) ⟨x, hx, P.lt x hx, h1, h2⟩ (fun z hz hsz => by
    obtain ⟨t1, t2, t3⟩ := hsz
    have t3 : z.2 = cost := t3
    rw [t3, Int.sub_self]
    exact .last t1 t2) (by show (1 : Int) + T ≤ T + 1; omega) (Nat.lt_succ_self _)
  refine ⟨r, ?_, hw⟩
  unfold m__law_another
  rw [bs, bs, hend, bs, hC.last, bs, up_ds, law_cost_ok p hC P.way, bs, bs, bs, whileCF_of e]
  rfl
end
/-! bent depths, bent papers; the law -/
theorem toD_pp (x : Pp) : ∃ t y, (Ud.toD x : PyData) = .tuple [.int t, y] ∧ (y = .none ∨ DI y) := by
  obtain ⟨t, o, u⟩ := x
  refine ⟨t, Ud.toD o, rfl, ?_⟩
  cases o with
  | none => exact .inl rfl
  | some i => exact .inr (.inl ⟨i, rfl⟩)
theorem pap_pp {l : List Pp} (hl : l.length < 10000) : PapOk (upD l).d := .inr (.inr ⟨l.map Ud.toD, rfl, by rw [List.length_map]; exact hl, fun x hx => by
  obtain ⟨z, _, rfl⟩ := List.mem_map.mp hx
  obtain ⟨t, y, e, h⟩ := toD_pp z
  exact ⟨t, y, e, h⟩⟩)
theorem pap_dy {l : List Dy} (hl : l.length < 10000) (h : ∀ x ∈ l, PI x.d) : PapOk (upD l).d := .inr (.inr ⟨l.map Ud.toD, rfl, by rw [List.length_map]; exact hl, fun x hx => by
  obtain ⟨z, hz, rfl⟩ := List.mem_map.mp hx
  exact h z hz⟩)
theorem mod_at {i : Int} {n : Nat} (h : 0 < n) : ∃ k : Nat, k < n ∧ modO i (n : Int) = some (k : Int) := by
  have m0 := Int.emod_nonneg i (show (n : Int) ≠ 0 by omega)
  have m1 := Int.emod_lt_of_pos i (show 0 < (n : Int) by omega)
  exact ⟨(i % (n : Int)).toNat, by omega, by rw [modO_ok (by omega)]; congr 1; omega⟩
theorem other_depths_ok {ds : List Int} (h0 : 0 < ds.length) (hl : ds.length ≤ 1000) {T : Int} (hT : 0 ≤ T) (hlast : atI ds (-(1 : Int)) = some T) {r : List Int} (hr : r.length = 7) : ∃ d, m__law_other_depths ds r = some ⟨d⟩ ∧ DepOk d := by
  obtain ⟨a, ea, _⟩ := atI_some (xs := r) (i := 0) (by omega) (by omega)
  obtain ⟨b, eb, _⟩ := atI_some (xs := r) (i := 1) (by omega) (by omega)
  obtain ⟨c, ec, _⟩ := atI_some (xs := r) (i := 2) (by omega) (by omega)
  obtain ⟨k, hk, em⟩ := mod_at (i := b) h0
  obtain ⟨x, ex, _⟩ := atI_some (xs := ds) (i := (k : Int)) (by omega) (by omega)
  have c1 := cut_len ds none (some (k : Int))
  have c2 := cut_len ds (some ((k : Int) + 1)) none
  have c3 := cut_len ds (some (k : Int)) none
  have c4 := cut_len ds (some (-(1 : Int))) none
  unfold m__law_other_depths
  rw [eb]
  simp only [bs]
  rw [em]
  simp only [bs, ea]
  by_cases w0 : a % 4 = 0
  · rw [if_pos (decide_eq_true w0), ex]
    simp only [bs, ec]
    rw [pick2 _ _ (by omega) (by omega)]
    simp only [bs]
    rw [catO_ok (by show _ + 1 ≤ _; omega)]
    simp only [bs]
    rw [catO_ok (by rw [List.length_append]; show _ + 1 + _ ≤ _; omega)]
    simp only [bs]
    exact ⟨_, rfl, dep_int (by rw [List.length_append, List.length_append]; show _ + 1 + _ < _; omega)⟩
  · rw [if_neg (by rw [decide_eq_true_eq]; exact w0)]
    by_cases w1 : a % 4 = 1
    · rw [if_pos (decide_eq_true w1), catO_ok (by omega)]
      simp only [bs]
      exact ⟨_, rfl, dep_int (by rw [List.length_append]; omega)⟩
    · rw [if_neg (by rw [decide_eq_true_eq]; exact w1)]
      by_cases w2 : a % 4 = 2
      · rw [if_pos (decide_eq_true w2), ec]
        simp only [bs]
        rw [hlast]
        simp only [bs]
        rw [modO_ok (by omega)]
        simp only [bs]
        rw [catO_ok (by show _ + 1 ≤ _; omega)]
        simp only [bs]
        rw [catO_ok (by rw [List.length_append]; show _ + 1 + _ ≤ _; omega)]
        simp only [bs]
        exact ⟨_, rfl, dep_int (by rw [List.length_append, List.length_append]; show _ + 1 + _ < _; omega)⟩
      · rw [if_neg (by rw [decide_eq_true_eq]; exact w2)]
        rw [catO_ok (by rw [List.length_map]; show _ + 1 ≤ _; omega)]
        simp only [bs]
        rw [catO_ok (by rw [List.length_append, List.length_map, List.length_map]; show _ + 1 + _ ≤ _; omega)]
        simp only [bs]
        rw [catO_ok (by omega)]
        simp only [bs, ec]
        rcases (show c % 4 = 0 ∨ c % 4 = 1 ∨ c % 4 = 2 ∨ c % 4 = 3 by omega) with h | h | h | h
        · rw [h]
          exact ⟨_, rfl, .inr (.inl ⟨_, rfl⟩)⟩
        · rw [h]
          exact ⟨_, rfl, .inl rfl⟩
        · rw [h]
          refine ⟨_, rfl, .inr (.inr ⟨_, rfl, ?_, fun y hy => ?_, fun y hy => ?_⟩)⟩
          · rw [List.length_map, List.length_append, List.length_append, List.length_map, List.length_map]
            show _ + 1 + _ < _
            omega
          · obtain ⟨z, hz, rfl⟩ := List.mem_map.mp hy
            rcases List.mem_append.mp hz with hz | hz
            · rcases List.mem_append.mp hz with hz | hz
              · obtain ⟨i, _, rfl⟩ := List.mem_map.mp hz
                exact .inl ⟨i, rfl⟩
              · rw [List.mem_singleton.mp hz]
                exact .inr ⟨_, rfl⟩
            · obtain ⟨i, _, rfl⟩ := List.mem_map.mp hz
              exact .inl ⟨i, rfl⟩
          · have hne : cut ds (some (k : Int)) none ≠ [] := by
              rw [cut_from]
              intro z
              have := congrArg List.length z
              rw [List.length_drop] at this
              show False
              have : ds.length - k = 0 := this
              omega
            rw [List.map_append, List.getLast?_append] at hy
            obtain ⟨L, z, e⟩ : ∃ L z, cut ds (some (k : Int)) none = L ++ [z] := ⟨_, _, (List.dropLast_concat_getLast hne).symm⟩
            rw [e, List.map_append, List.map_append] at hy
            simp at hy
            have hy : PyData.int z = y := hy
            exact ⟨z, hy.symm⟩
        · rw [h]
          exact ⟨_, rfl, dep_int (by rw [List.length_append]; omega)⟩
theorem other_paper_ok {q : List (Int × Int)} (h0 : 0 < q.length) (hl : q.length ≤ 1000) {r : List Int} (hr : r.length = 4) : ∃ d, m__law_other_paper (pq q) r = some ⟨d⟩ ∧ PapOk d := by
  obtain ⟨a, ea, _⟩ := atI_some (xs := r) (i := 0) (by omega) (by omega)
  obtain ⟨b, eb, _⟩ := atI_some (xs := r) (i := 1) (by omega) (by omega)
  obtain ⟨c, ec, _⟩ := atI_some (xs := r) (i := 2) (by omega) (by omega)
  have hpl : (pq q).length = q.length := by unfold pq; rw [List.length_map]
  obtain ⟨k, hk, em⟩ := mod_at (i := b) (n := (pq q).length) (by omega)
  obtain ⟨x, ex, hx⟩ := atI_some (xs := pq q) (i := (k : Int)) (by omega) (by omega)
  obtain ⟨z, hz, rfl⟩ := List.mem_map.mp (List.mem_of_getElem? hx)
  have c1 := cut_len (pq q) none (some (k : Int))
  have c2 := cut_len (pq q) (some ((k : Int) + 1)) none
  have c4 := cut_len (pq q) (some (-(1 : Int))) none
  unfold m__law_other_paper
  rw [eb]
  simp only [bs]
  rw [em]
  simp only [bs]
  rw [ex]
  simp only [bs, ea]
  by_cases w0 : a % 4 = 0
  · rw [if_pos (by rw [decide_eq_true w0]; rfl), ec]
    simp only [bs]
    rw [pick2 _ _ (by omega) (by omega)]
    simp only [bs]
    rw [catO_ok (by show _ + 1 ≤ _; omega)]
    simp only [bs]
    rw [catO_ok (by rw [List.length_append]; show _ + 1 + _ ≤ _; omega)]
    simp only [bs]
    exact ⟨_, rfl, pap_pp (by rw [List.length_append, List.length_append]; show _ + 1 + _ < _; omega)⟩
  · rw [if_neg (by rw [decide_eq_false w0]; exact Bool.false_ne_true)]
    by_cases w1 : a % 4 = 1
    · rw [if_pos (decide_eq_true w1), ec]
      simp only [bs]
      obtain ⟨v, ev, hv⟩ := atI_some (xs := ([(upD Nn.nn), (upD (0 : Int)), (upD (c % (500 : Int))), (upD false), (upD (-(1 : Int)))] : List Dy)) (i := c % 5) (by omega) (by show c % 5 < (5 : Int); omega)
      have hv := List.mem_of_getElem? hv
      have hpi : PI (upD (z.1, v, ())).d := by
        refine ⟨z.1, v.d, rfl, ?_⟩
        simp only [List.mem_cons, List.not_mem_nil, or_false] at hv
        rcases hv with rfl | rfl | rfl | rfl | rfl
        · exact .inl rfl
        · exact .inr (.inl ⟨_, rfl⟩)
        · exact .inr (.inl ⟨_, rfl⟩)
        · exact .inr (.inr ⟨_, rfl⟩)
        · exact .inr (.inl ⟨_, rfl⟩)
      rw [ev]
      simp only [bs]
      rw [catO_ok (by rw [List.length_map]; show _ + 1 ≤ _; omega)]
      simp only [bs]
      rw [catO_ok (by rw [List.length_append, List.length_map, List.length_map]; show _ + 1 + _ ≤ _; omega)]
      simp only [bs]
      refine ⟨_, rfl, pap_dy (by rw [List.length_append, List.length_append, List.length_map, List.length_map]; show _ + 1 + _ < _; omega) fun y hy => ?_⟩
      rcases List.mem_append.mp hy with hy | hy
      · rcases List.mem_append.mp hy with hy | hy
        · obtain ⟨i, _, rfl⟩ := List.mem_map.mp hy
          obtain ⟨t, y, e, h⟩ := toD_pp i
          exact ⟨t, y, e, h⟩
        · rw [List.mem_singleton.mp hy]
          exact hpi
      · obtain ⟨i, _, rfl⟩ := List.mem_map.mp hy
        obtain ⟨t, y, e, h⟩ := toD_pp i
        exact ⟨t, y, e, h⟩
    · rw [if_neg (by rw [decide_eq_true_eq]; exact w1)]
      by_cases w2 : a % 4 = 2
      · rw [if_pos (decide_eq_true w2), catO_ok (by omega)]
        simp only [bs]
        exact ⟨_, rfl, pap_pp (by rw [List.length_append]; omega)⟩
      · rw [if_neg (by rw [decide_eq_true_eq]; exact w2)]
        rw [catO_ok (by show _ + 1 ≤ _; omega)]
        simp only [bs]
        rw [catO_ok (by rw [List.length_append]; show _ + 1 + _ ≤ _; omega)]
        simp only [bs]
        rw [catO_ok (by omega)]
        simp only [bs, ec]
        rcases (show c % 4 = 0 ∨ c % 4 = 1 ∨ c % 4 = 2 ∨ c % 4 = 3 by omega) with h | h | h | h
        · rw [h]
          exact ⟨_, rfl, .inr (.inl ⟨_, rfl⟩)⟩
        · rw [h]
          exact ⟨_, rfl, .inl rfl⟩
        · rw [h]
          exact ⟨_, rfl, pap_pp (by rw [List.length_append, List.length_append]; show _ + 1 + _ < _; omega)⟩
        · rw [h]
          exact ⟨_, rfl, pap_pp (by rw [List.length_append]; omega)⟩
section
variable {price H T : Int} {C : List Cut} {q : List (Int × Int)} {ds : List Int} {cost : Int}
theorem found_due {bs_ : List Block} (hc : m_cuts_of bs_ = some C) (p : Pr price H) (hC : CutsOk T C) {d P : PyData} (hd : DepOk d) (hP : PapOk P) : ∃ due, ((m__law_is_paper ⟨P⟩ C).bind fun r_818 =>
  (some r_818).bind fun due_819 =>
  ((if due_819 = true then ((some (⟨d⟩ : Dy)).bind fun i_822 =>
  (m__law_cost C price H i_822).bind fun r_823 =>
  (some r_823).bind fun cost_here_824 =>
  ((if (cost_here_824.isSome) = true then ((some (⟨P⟩ : Dy)).bind fun i_825 => (cost_here_824).bind fun s_826 => (m__law_shows C price H i_825 s_826).bind fun r_827 => some r_827) else some false)).bind fun b_828 =>
  (some b_828).bind fun due_829 =>
  some due_829) else (some due_819)))) = some due ∧ m_pages_shown bs_ price H ⟨d⟩ ⟨P⟩ = some due := by
  rcases shown_due hc p hC hd hP with ⟨h1, h2⟩ | ⟨h1, h2, h3⟩ | ⟨v, b, zs, _, _, h1, h2, _, h3, h4⟩
  · refine ⟨false, ?_, h2⟩
    rw [h1, bs, bs, if_neg (by decide)]
  · refine ⟨false, ?_, h3⟩
    rw [h1, bs, bs, if_pos rfl, bs, h2, bs, bs]
    rfl
  · refine ⟨b, ?_, h4⟩
    rw [h1, bs, bs, if_pos rfl, bs, h2, bs, bs, if_pos (show (Option.isSome (some v)) = true from rfl), bs, bs, h3]
    rfl
theorem turn_ok {bs_ : List Block} (hc : m_cuts_of bs_ = some C) (p : Pr price H) (hC : CutsOk T C) (P : Pages price H T C q ds cost) (cell : Int) : m_law_L2 bs_ C price H ds (pq q) cell () = some (.nx ()) := by
  obtain ⟨r, er, hr⟩ := numbers_ok (cell / 2) 7 (by omega) (by omega)
  have hr : r.length = 7 := hr
  obtain ⟨g, eg, _⟩ := atI_some (xs := r) (i := 6) (by omega) (by omega)
  have hq := q_len P hC
  have hcl := hC.len
  have hq0 : 0 < q.length := by
    rw [hq]
    exact List.length_pos_iff.mpr hC.ne
  have hds := way_ne P.way
  have hdl := P.len
  have hT0 := (hC.pos _ (List.getLast_mem hC.ne)).1
  rw [hC.last] at hT0
  have hlast : atI ds (-(1 : Int)) = some T := by
    obtain ⟨l, e⟩ := way_end P.way
    rw [e]
    exact at_snoc _ _
  obtain ⟨d1, e1, hd1⟩ := other_depths_ok hds hdl (by omega) hlast hr
  obtain ⟨p1, e2, hp1⟩ := other_paper_ok hq0 (by omega) (r := r.drop 3) (by rw [List.length_drop]; omega)
  have ecut : cut r (some (3 : Int)) none = r.drop 3 := cut_from r 3
  have hd0 : DepOk (.list (ds.map .int)) := dep_int (by omega)
  have hp0 : PapOk (.list ((zq q).map enc)) := pap_zq (by unfold zq; rw [List.length_map]; omega)
  have x0 : ∀ a b : Dy, atI ([a, b] : List Dy) (0 : Int) = some a := fun _ _ => rfl
  have x1 : ∀ a b : Dy, atI ([a, b] : List Dy) (1 : Int) = some b := fun _ _ => rfl
  have y0 : ∀ a b c : Dy, setI ([a, b] : List Dy) (0 : Int) c = some [c, b] := fun _ _ _ => rfl
  have y1 : ∀ a b c : Dy, setI ([a, b] : List Dy) (1 : Int) c = some [a, c] := fun _ _ _ => rfl
  obtain ⟨d, f1, hd⟩ : ∃ d, ((if (decide ((0 : Int) < (g % (3 : Int)))) = true then ((m__law_other_depths ds r).bind fun r_806 =>
  (setI ([(upD ds), (upD (pq q))] : List Dy) (0 : Int) r_806).bind fun others_807 =>
  some others_807) else (some ([(upD ds), (upD (pq q))] : List Dy)))) = some [⟨d⟩, upD (pq q)] ∧ DepOk d := by
    by_cases h : 0 < g % 3
    · refine ⟨d1, ?_, hd1⟩
      rw [if_pos (decide_eq_true h), e1, bs, y0]
      rfl
    · exact ⟨_, by rw [if_neg (by rw [decide_eq_true_eq]; exact h)]; rfl, hd0⟩
  obtain ⟨pp, f2, hp⟩ : ∃ pp, ((if (!decide ((g % (3 : Int)) = (1 : Int))) = true then ((m__law_other_paper (pq q) (cut r (some (3 : Int)) none)).bind fun r_813 =>
  (setI ([⟨d⟩, upD (pq q)] : List Dy) (1 : Int) r_813).bind fun others_814 =>
  some others_814) else (some ([⟨d⟩, upD (pq q)] : List Dy)))) = some [⟨d⟩, ⟨pp⟩] ∧ PapOk pp := by
    by_cases h : g % 3 = 1
    · refine ⟨_, by rw [decide_eq_true h, if_neg (by decide), up_pq], hp0⟩
    · refine ⟨p1, ?_, hp1⟩
      rw [decide_eq_false h, if_pos (show (!false) = true from rfl), ecut, e2, bs, y1]
      rfl
  obtain ⟨due, g1, g2⟩ := found_due hc p hC hd hp
  unfold m_law_L2
  rw [er]
  simp only [bs]
  rw [eg]
  simp only [bs]
  have f1' := f1
  simp only [bs] at f1' f2 g1
  rw [f1']
  simp only [bs]
  rw [f2]
  simp only [bs, x0, x1]
  cases hpp : m__law_is_paper ⟨pp⟩ C with
  | none =>
    rw [hpp] at g1
    cases g1
  | some b =>
    rw [hpp] at g1
    simp only [bs] at g1 ⊢
    rw [g1]
    simp only [bs]
    rw [g2]
    simp only [bs]
    rw [if_neg (by decide)]
end
theorem apart_ok {T : Int} {C : List Cut} (hC : CutsOk T C) : ∃ a, ((rngO (1 : Int) (C.length : Int)).bind fun rg => (forS (m_law_L1 C) rg ((C.head hC.ne).1))) = some a ∧ 0 ≤ a ∧ a ≤ 1000 ∧ (∀ c, C[0]? = some c → c.1 ≤ a) ∧ ∀ k c d, C[k]? = some c → C[k + 1]? = some d → d.1 - c.1 ≤ a := by
  have hT := hC.t
  have hl := hC.len
  have hpos := List.length_pos_iff.mpr hC.ne
  have e0 : C[0]? = some (C.head hC.ne) := by
    rw [← List.head?_eq_getElem?]
    exact List.head?_eq_some_head hC.ne
  have hp0 := hC.pos _ (List.head_mem hC.ne)
  rw [rngO_ok (by omega) (by omega) (by omega) (by omega), bs]
  obtain ⟨a, e, h1, h2, h3, h4⟩ := forS_ix (f := m_law_L1 C) (xs := irange 1 (C.length : Int)) (fun i (a : Int) => 0 ≤ a ∧ a ≤ 1000 ∧ (C.head hC.ne).1 ≤ a ∧ ∀ k c d, k < i → C[k]? = some c → C[k + 1]? = some d → d.1 - c.1 ≤ a) (s := (C.head hC.ne).1) ⟨by omega, by omega, Int.le_refl _, fun k c d h => absurd h (Nat.not_lt_zero _)⟩ (fun i hi s hs => by
    obtain ⟨h1, h2, h3, h4⟩ := hs
    rw [irange_len] at hi
    have ei : (irange 1 (C.length : Int))[i]'(by rw [irange_len]; exact hi) = 1 + (i : Int) := by simp [irange]
    rw [ei]
    obtain ⟨c, ec⟩ : ∃ c, C[i]? = some c := ⟨_, List.getElem?_eq_getElem (by omega)⟩
    obtain ⟨d, ed⟩ : ∃ d, C[i + 1]? = some d := ⟨_, List.getElem?_eq_getElem (by omega)⟩
    have hc := hC.pos c (List.mem_of_getElem? ec)
    have hd := hC.pos d (List.mem_of_getElem? ed)
    have e1 : atI C (1 + (i : Int)) = some d := by
      rw [atI_ok (by omega) (by omega), show (1 + (i : Int)).toNat = i + 1 by omega, ed]
    have e2 : atI C (1 + (i : Int) - 1) = some c := by
      rw [atI_ok (by omega) (by omega), show (1 + (i : Int) - 1).toNat = i by omega, ec]
    refine ⟨max s (d.1 - c.1), ?_, by omega, by omega, by omega, fun k c' d' hk h5 h6 => ?_⟩
    · unfold m_law_L1
      rw [e1, bs, e2]
      rfl
    · by_cases hki : k = i
      · subst hki
        rw [ec] at h5
        rw [ed] at h6
        cases h5
        cases h6
        omega
      · have := h4 k c' d' (by omega) h5 h6
        omega)
  refine ⟨a, e, h1, h2, fun c hc => ?_, fun k c d h5 h6 => ?_⟩
  · rw [e0] at hc
    cases hc
    exact h3
  · have hk := (List.getElem?_eq_some_iff.mp h6).1
    exact h4 k c d (by rw [irange_len]; omega) h5 h6
theorem law_main (ns : List Int) (hl : ns.length ≤ 63) : m_law (Fz.mk ns) = some true := by
  obtain ⟨c2, e2⟩ := cell_at (ns := ns) 16 (by omega)
  obtain ⟨c0, e0⟩ := cell_at (ns := ns) 0 (by omega)
  obtain ⟨c1, e1⟩ := cell_at (ns := ns) 1 (by omega)
  unfold m_law
  rw [e2]
  simp only [bs]
  have hc : (cut ns (some (16 : Int)) (some (27 : Int))).length ≤ 11 := cut_le ns 16 27
  rw [catO_ok (by show (cut ns _ _).length + 1 ≤ 1000000; omega)]
  simp only [bs]
  obtain ⟨bl, e, h1, h2⟩ := blocks_ok (cs := cut ns (some (16 : Int)) (some (27 : Int)) ++ [c2 / 3]) (by rw [List.length_append, List.length_singleton]; omega)
  rw [List.length_append, List.length_singleton] at h1
  have hne : bl ≠ [] := fun z => by rw [z] at h1; cases h1
  rw [e]
  simp only [bs]
  obtain ⟨C, e3, hC⟩ := cuts_ok hne (by omega) h2
  rw [same, e3]
  simp only [bs, e0]
  have eh : atI C (0 : Int) = some (C.head hC.ne) := by
    rw [atI_ok (Int.le_refl _) (by have := List.length_pos_iff.mpr hC.ne; omega)]
    show C[0]? = _
    rw [← List.head?_eq_getElem?]
    exact List.head?_eq_some_head hC.ne
  rw [eh]
  simp only [bs]
  obtain ⟨a, ea, a0, a1, g1, g2⟩ := apart_ok hC
  obtain ⟨rg, er, ea⟩ := bind_some ea
  rw [er]
  simp only [bs]
  rw [ea]
  simp only [bs, e1]
  have P : Pr (c0 % 1000) (a + c1 % 60) := ⟨by omega, by omega, by omega, by omega⟩
  have g : Gaps (a + c1 % 60) 0 C := gaps_of C 0 (fun c hc => by have := g1 c hc; omega) fun k c d h5 h6 => by have := g2 k c d h5 h6; omega
  obtain ⟨q, ds, cost, es, hP⟩ := set_ok P e3 hC g (gap_loop C 0 g)
  rw [es]
  simp only [bs]
  rw [show unX (Er.ok (ds, pq q, ())) = some (ds, pq q, ()) from rfl]
  simp only [bs]
  rw [told_true e3 P hC hP hP.way]
  simp only [bs]
  rw [if_neg (by decide)]
  obtain ⟨r, er2, hw⟩ := another_ok P hC hP hP.att
  rw [er2]
  simp only [bs]
  rw [told_true e3 P hC hP hw]
  simp only [bs]
  rw [if_neg (by decide), forC_all fun x _ => turn_ok e3 P hC hP x]
  rfl
end Wk77
set_option synthInstance.maxHeartbeats 4000000
set_option synthInstance.maxSize 20000
open PySem PySem.W PyProof.Rows in
set_option maxRecDepth 100000 in
set_option maxHeartbeats 0 in
theorem PySem.Challenge.cw_boxgalley_k77_what_the_checker_of_pages_holds : PySem.Challenge.rw_boxgalley_k77_what_the_checker_of_pages.Holds := by
  w_on; o_law; k_head; (case hw => w_witness2)
  k_fill
  refine L2.walk_of (l := PySem.Challenge.rw_boxgalley_k77_what_the_checker_of_pages) (n := 63) (k := 4) (x := "_law_script") (CX := fun _ => L2.CX0) (sp := fun w => Wk77.spLaw _) rfl (by decide) rfl ⟨rfl, by decide, by decide⟩ (fun w h Y => PySem.W.kIn_of Y) ?F (fun _ _ a ns hl _ hS => ⟨a, ns, rfl, hS, hl, fun _ => rfl⟩) (fun _ _ _ _ _ h => h)
  case F =>
    intro w mg fa h KX G hmg
    refine' Wk77.all_mk Wk77.law_main KX G hmg ?a_cuts_of ?l_cuts_of ?c_cuts_of ?k_cuts_of ?a_page_cost ?l_page_cost ?c_page_cost ?k_page_cost ?a_between ?l_between ?c_between ?k_between ?a_costs_of ?l_costs_of ?c_costs_of ?k_costs_of ?a_step_to ?l_step_to ?c_step_to ?k_step_to ?a_set_pages ?l_set_pages ?c_set_pages ?k_set_pages ?a_is_whole ?l_is_whole ?c_is_whole ?k_is_whole ?a_is_page_paper ?l_is_page_paper ?c_is_page_paper ?k_is_page_paper ?a_pages_cost ?l_pages_cost ?c_pages_cost ?k_pages_cost ?a_pages_shown ?l_pages_shown ?c_pages_shown ?k_pages_shown ?a__law_cell_at ?l__law_cell_at ?c__law_cell_at ?k__law_cell_at ?a__law_numbers ?l__law_numbers ?c__law_numbers ?k__law_numbers ?a__law_blocks ?l__law_blocks ?c__law_blocks ?k__law_blocks ?a__law_cuts ?l__law_cuts ?c__law_cuts ?k__law_cuts ?a__law_cost ?l__law_cost ?c__law_cost ?k__law_cost ?a__law_is_number ?l__law_is_number ?c__law_is_number ?k__law_is_number ?a__law_is_paper ?l__law_is_paper ?c__law_is_paper ?k__law_is_paper ?a__law_shows ?l__law_shows ?c__law_shows ?k__law_shows ?a__law_another ?l__law_another ?c__law_another ?k__law_another ?a__law_other_depths ?l__law_other_depths ?c__law_other_depths ?k__law_other_depths ?a__law_other_paper ?l__law_other_paper ?c__law_other_paper ?k__law_other_paper ?a_law ?l_law ?c_law ?k_law ?aC_NoPages ?aC_BoxError ?xl_NoPages ?fi_NoPages_init ?il_NoPages ?ic_NoPages ?ik_NoPages ?it_NoPages ?fi_NoPages_first ?fi_NoPages_last ?fi_NoPages_setattr ?su_NoPages_BaseException ?ty_NoPages ?kc_NoPages ?fi_NoPages_getattribute ?fi_NoPages_getattr ?hd_NoPages ?sg_BoxError ?rd_BoxError ?fc_BoxError ?z_bool ?z_dict ?z_enumerate ?z_int ?z_isinstance ?z_len ?z_list ?z_max ?z_min ?z_range ?z_set ?z_sorted ?z_tuple
    (case a_cuts_of => k_is)
    (case l_cuts_of => k_is)
    (case c_cuts_of => k_is)
    (case k_cuts_of => k_is)
    (case a_page_cost => k_is)
    (case l_page_cost => k_is)
    (case c_page_cost => k_is)
    (case k_page_cost => k_is)
    (case a_between => k_is)
    (case l_between => k_is)
    (case c_between => k_is)
    (case k_between => k_is)
    (case a_costs_of => k_is)
    (case l_costs_of => k_is)
    (case c_costs_of => k_is)
    (case k_costs_of => k_is)
    (case a_step_to => k_is)
    (case l_step_to => k_is)
    (case c_step_to => k_is)
    (case k_step_to => k_is)
    (case a_set_pages => k_is)
    (case l_set_pages => k_is)
    (case c_set_pages => k_is)
    (case k_set_pages => k_is)
    (case a_is_whole => k_is)
    (case l_is_whole => k_is)
    (case c_is_whole => k_is)
    (case k_is_whole => k_is)
    (case a_is_page_paper => k_is)
    (case l_is_page_paper => k_is)
    (case c_is_page_paper => k_is)
    (case k_is_page_paper => k_is)
    (case a_pages_cost => k_is)
    (case l_pages_cost => k_is)
    (case c_pages_cost => k_is)
    (case k_pages_cost => k_is)
    (case a_pages_shown => k_is)
    (case l_pages_shown => k_is)
    (case c_pages_shown => k_is)
    (case k_pages_shown => k_is)
    (case a__law_cell_at => k_is)
    (case l__law_cell_at => k_is)
    (case c__law_cell_at => k_is)
    (case k__law_cell_at => k_is)
    (case a__law_numbers => k_is)
    (case l__law_numbers => k_is)
    (case c__law_numbers => k_is)
    (case k__law_numbers => k_is)
    (case a__law_blocks => k_is)
    (case l__law_blocks => k_is)
    (case c__law_blocks => k_is)
    (case k__law_blocks => k_is)
    (case a__law_cuts => k_is)
    (case l__law_cuts => k_is)
    (case c__law_cuts => k_is)
    (case k__law_cuts => k_is)
    (case a__law_cost => k_is)
    (case l__law_cost => k_is)
    (case c__law_cost => k_is)
    (case k__law_cost => k_is)
    (case a__law_is_number => k_is)
    (case l__law_is_number => k_is)
    (case c__law_is_number => k_is)
    (case k__law_is_number => k_is)
    (case a__law_is_paper => k_is)
    (case l__law_is_paper => k_is)
    (case c__law_is_paper => k_is)
    (case k__law_is_paper => k_is)
    (case a__law_shows => k_is)
    (case l__law_shows => k_is)
    (case c__law_shows => k_is)
    (case k__law_shows => k_is)
    (case a__law_another => k_is)
    (case l__law_another => k_is)
    (case c__law_another => k_is)
    (case k__law_another => k_is)
    (case a__law_other_depths => k_is)
    (case l__law_other_depths => k_is)
    (case c__law_other_depths => k_is)
    (case k__law_other_depths => k_is)
    (case a__law_other_paper => k_is)
    (case l__law_other_paper => k_is)
    (case c__law_other_paper => k_is)
    (case k__law_other_paper => k_is)
    (case a_law => k_is)
    (case l_law => k_is)
    (case c_law => k_is)
    (case k_law => k_is)
    (case aC_NoPages => k_is)
    (case aC_BoxError => k_is)
    (case xl_NoPages => k_is)
    (case fi_NoPages_init => k_is)
    (case il_NoPages => k_is)
    (case ic_NoPages => k_is)
    (case ik_NoPages => k_is)
    (case it_NoPages => k_is)
    (case fi_NoPages_first => k_is)
    (case fi_NoPages_last => k_is)
    (case fi_NoPages_setattr => k_is)
    (case su_NoPages_BaseException => k_is)
    (case ty_NoPages => k_is)
    (case kc_NoPages => k_is)
    (case fi_NoPages_getattribute => k_is)
    (case fi_NoPages_getattr => k_is)
    (case hd_NoPages => k_is)
    (case sg_BoxError => k_is)
    (case rd_BoxError => k_is)
    (case fc_BoxError => k_is)
    (case z_bool => k_is)
    (case z_dict => k_is)
    (case z_enumerate => k_is)
    (case z_int => k_is)
    (case z_isinstance => k_is)
    (case z_len => k_is)
    (case z_list => k_is)
    (case z_max => k_is)
    (case z_min => k_is)
    (case z_range => k_is)
    (case z_set => k_is)
    (case z_sorted => k_is)
    (case z_tuple => k_is)
