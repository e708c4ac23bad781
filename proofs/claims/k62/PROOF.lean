import PyProof.Rows.All
import Wide.All
import OpenK.AllK
import Wide.FinOn
import HandS.ForMost
import HandS.Evl
import HandS.Wide
import HandS.IsInst
import HandS.SortInts
import HandS.TupAny
import HandS.Dict
import KE.GoesEnum
import KE.SortData
import HandS.Style
import HandS.More
import HandS.Sort
import HandS.StrMore
import PyProof.SumAny
import KE.KDictPairs
import KE.KDictCopyH
import HandS.DictComp
import HandS.Iter
import HandS.OwnEq
import HandS.DeepEq
import PyProof.NeKinds
import PyProof.DictUpdate
import HandS.Text
import KE.KEqNest
import PySem.Challenge.RW_boxgalley_k62_the_table_of_rows
set_option Elab.async false
set_option linter.all false
set_option maxRecDepth 100000
set_option maxHeartbeats 2000000
/-! Wk: typed mirrors over the hand layer: what a value stands for, a state by slots and owned objects, one rule a construct. -/
namespace Wk
open PySem PySem.Spec L2 Evl

abbrev Fg := PySem.W.Frag
def isDk : HO → Prop
  | .dK _ => True
  | .dT _ => True
  | _ => False
/-- all that stood stands; a dict may be locked, or set free again -/
def Sw (H H' : Hp) : Prop := ∀ q u, H q = some u → H' q = some u ∨ ∃ o w, isDk w ∧ ((u = w ∧ H' q = some (.frz o w)) ∨ (u = .frz o w ∧ H' q = some w))
theorem Sw.of {H H' : Hp} (e : Ex H H') : Sw H H' := fun q u h => .inl (e q u h)
theorem Sw.keep {H H' : Hp} (e : Sw H H') {q : Addr} {u : HO} (h : H q = some u) (n1 : ¬ isDk u) (n2 : ∀ o w, u ≠ .frz o w) : H' q = some u := by
  rcases e q u h with h | ⟨o, w, hw, ⟨rfl, _⟩ | ⟨h, _⟩⟩
  · exact h
  · exact absurd hw n1
  · exact absurd h (n2 o w)
theorem Sw.lst {H H' : Hp} (e : Sw H H') {q : Addr} {vs : List V} (h : H q = some (.lst vs)) : H' q = some (.lst vs) := e.keep h (fun z => z) (fun _ _ z => nomatch z)
theorem Sw.tup {H H' : Hp} (e : Sw H H') {q : Addr} {vs : List V} (h : H q = some (.tup vs)) : H' q = some (.tup vs) := e.keep h (fun z => z) (fun _ _ z => nomatch z)
theorem Sw.rdl {H H' : Hp} (e : Sw H H') {q : Addr} {u : HO} (h : Rd H q u) (n1 : ¬ isDk u) (n2 : ∀ o w, u ≠ .frz o w) : Rd H' q u := by
  rcases h with h | ⟨o, h⟩
  · exact .inl (e.keep h n1 n2)
  · rcases e q _ h with h | ⟨o2, w, hw, ⟨z, _⟩ | ⟨h, h2⟩⟩
    · exact .inr ⟨o, h⟩
    · subst z
      exact False.elim hw
    · cases h
      exact absurd hw n1
theorem Sw.rd {H H' : Hp} (e : Sw H H') {q : Addr} {u : HO} (h : Rd H q u) (n1 : isDk u) : Rd H' q u := by
  have n2 : ∀ o w, u ≠ .frz o w := fun o w z => by
    subst z
    exact n1
  rcases h with h | ⟨o, h⟩
  · rcases e q _ h with h | ⟨o2, w, hw, ⟨rfl, h⟩ | ⟨h, _⟩⟩
    · exact .inl h
    · exact .inr ⟨o2, h⟩
    · exact absurd h (n2 _ _)
  · rcases e q _ h with h | ⟨o2, w, hw, ⟨z, _⟩ | ⟨h, h2⟩⟩
    · exact .inr ⟨o, h⟩
    · subst z
      exact False.elim hw
    · cases h
      exact .inl h2
theorem Sw.l {K : Fg} {H H' : Hp} (e : Sw H H') {a : Addr} {xs : List V} (h : SqL K H a xs) : SqL K H' a xs := by
  rcases h with h | h
  · exact .inl (e.rdl h (fun z => z) (fun _ _ z => nomatch z))
  · exact .inr h
theorem Sw.t {K : Fg} {H H' : Hp} (e : Sw H H') {a : Addr} {xs : List V} (h : SqT K H a xs) : SqT K H' a xs := by
  rcases h with h | h
  · exact .inl (e.rdl h (fun z => z) (fun _ _ z => nomatch z))
  · exact .inr h
/-- v stands for a, by what is known in H -/
class Rp (α : Type) where
  rep : Fg → Hp → V → α → Prop
  swap : ∀ {K : Fg} {H H' : Hp} {v : V} {a : α}, Sw H H' → rep K H v a → rep K H' v a
theorem Rp.mono {α : Type} [i : Rp α] {K : Fg} {H H' : Hp} {v : V} {a : α} (e : Ex H H') (h : Rp.rep K H v a) : Rp.rep K H' v a := i.swap (.of e) h
/-- the places of a tuple | the arguments of a call -/
class Tp (τ : Type) where
  n : Nat
  rept : Fg → Hp → List V → τ → Prop
  len : ∀ {K : Fg} {H : Hp} {vs : List V} {t : τ}, rept K H vs t → vs.length = n
  swap : ∀ {K : Fg} {H H' : Hp} {vs : List V} {t : τ}, Sw H H' → rept K H vs t → rept K H' vs t
theorem Tp.mono {τ : Type} [i : Tp τ] {K : Fg} {H H' : Hp} {vs : List V} {t : τ} (e : Ex H H') (h : Tp.rept K H vs t) : Tp.rept K H' vs t := i.swap (.of e) h
abbrev rep {α : Type} [Rp α] (K : Fg) (H : Hp) (v : V) (a : α) : Prop := Rp.rep K H v a
abbrev rept {τ : Type} [Tp τ] (K : Fg) (H : Hp) (vs : List V) (t : τ) : Prop := Tp.rept K H vs t
/-- what needs no heap -/
class Fl (α : Type) [Rp α] where
  toV : α → V
  iff : ∀ {K : Fg} {H : Hp} {v : V} {a : α}, Rp.rep K H v a ↔ v = toV a

inductive Nn where | nn
  deriving DecidableEq
instance rpInt : Rp Int := { rep := fun _ _ v a => v = .int a, swap := fun _ h => h }
instance : Fl Int := { toV := V.int, iff := Iff.rfl }
instance rpBool : Rp Bool := { rep := fun _ _ v a => v = .bl a, swap := fun _ h => h }
instance : Fl Bool := { toV := V.bl, iff := Iff.rfl }
instance rpStr : Rp Str := { rep := fun _ _ v a => v = .str a, swap := fun _ h => h }
instance : Fl Str := { toV := V.str, iff := Iff.rfl }
instance rpNn : Rp Nn := { rep := fun _ _ v _ => v = .non, swap := fun _ h => h }
instance : Fl Nn := { toV := fun _ => V.non, iff := Iff.rfl }
/-- None, or something -/
instance {α : Type} [Rp α] : Rp (Option α) where
  rep K H v a := match a with | none => v = .non | some x => v ≠ .non ∧ rep K H v x
  swap {K H H' v a} e h := match a, h with
    | none, h => h
    | some _, h => ⟨h.1, Rp.swap e h.2⟩

theorem paired_mono {α : Type} [Rp α] {K : Fg} {H H' : Hp} (e : Ex H H') {vs : List V} {xs : List α} (h : Paired (rep K H) vs xs) : Paired (rep K H') vs xs :=
  Paired.mapP h fun _ _ q => Rp.mono e q
theorem paired_swap {α : Type} [Rp α] {K : Fg} {H H' : Hp} (e : Sw H H') {vs : List V} {xs : List α} (h : Paired (rep K H) vs xs) : Paired (rep K H') vs xs :=
  Paired.mapP h fun _ _ q => Rp.swap e q
/-- a list that stands exactly so -/
instance {α : Type} [Rp α] : Rp (List α) where
  rep K H v xs := ∃ p vs, v = .ref p ∧ H p = some (.lst vs) ∧ Paired (rep K H) vs xs
  swap e h := by
    obtain ⟨p, vs, h1, h2, h3⟩ := h
    exact ⟨p, vs, h1, e.lst h2, paired_swap e h3⟩
/-- a list that is read (the script, a list of the top) -/
structure Fz (α : Type) where
  l : List α
instance {α : Type} [Rp α] : Rp (Fz α) where
  rep K H v xs := ∃ p vs, v = .ref p ∧ SqL K H p vs ∧ Paired (rep K H) vs xs.l
  swap e h := by
    obtain ⟨p, vs, h1, h2, h3⟩ := h
    exact ⟨p, vs, h1, e.l h2, paired_swap e h3⟩
/-- a tuple of the top -/
structure Kt (α : Type) where
  l : List α
instance {α : Type} [Rp α] : Rp (Kt α) where
  rep K H v xs := ∃ p vs, v = .ref p ∧ SqT K H p vs ∧ Paired (rep K H) vs xs.l
  swap e h := by
    obtain ⟨p, vs, h1, h2, h3⟩ := h
    exact ⟨p, vs, h1, e.t h2, paired_swap e h3⟩
/-- a tuple of alike things, of any length -/
structure Tu (α : Type) where
  l : List α
  deriving DecidableEq
instance {α : Type} [Rp α] : Rp (Tu α) where
  rep K H v xs := ∃ p vs, v = .ref p ∧ H p = some (.tup vs) ∧ Paired (rep K H) vs xs.l
  swap e h := by
    obtain ⟨p, vs, h1, h2, h3⟩ := h
    exact ⟨p, vs, h1, e.tup h2, paired_swap e h3⟩
instance : Tp Unit where
  n := 0
  rept _ _ vs _ := vs = []
  len h := by rw [h]; rfl
  swap _ h := h
instance {α τ : Type} [Rp α] [Tp τ] : Tp (α × τ) where
  n := Tp.n τ + 1
  rept K H vs t := ∃ v r, vs = v :: r ∧ rep K H v t.1 ∧ rept K H r t.2
  len h := by
    obtain ⟨v, r, h1, h2, h3⟩ := h
    rw [h1, List.length_cons, Tp.len h3]
  swap e h := by
    obtain ⟨v, r, h1, h2, h3⟩ := h
    exact ⟨v, r, h1, Rp.swap e h2, Tp.swap e h3⟩
/-- a tuple: (a, (b, (c, ()))) -/
instance {α τ : Type} [Rp α] [Tp τ] : Rp (α × τ) where
  rep K H v t := ∃ p vs, v = .ref p ∧ H p = some (.tup vs) ∧ rept K H vs t
  swap e h := by
    obtain ⟨p, vs, h1, h2, h3⟩ := h
    exact ⟨p, vs, h1, e.tup h2, Tp.swap e h3⟩

/-! ### the state -/
inductive Sl : Type 1 where
  | any
  | val (α : Type) (i : Rp α) (x : α)
  | at (p : Addr)
def sv {α : Type} [i : Rp α] (x : α) : Sl := .val α i x
def Sl.ok (K : Fg) (Kn : Hp) : Sl → Option V → Prop
  | .any, _ => True
  | .val _ i x, o => ∃ v, o = some v ∧ i.rep K Kn v x
  | .at p, o => o = some (.ref p)
def SlsOk (K : Fg) (Kn : Hp) : List Sl → St → Prop
  | [], [] => True
  | s :: ss, o :: os => s.ok K Kn o ∧ SlsOk K Kn ss os
  | _, _ => False
theorem Sl.ok_mono {K : Fg} {H H' : Hp} (e : Ex H H') : ∀ {s : Sl} {o : Option V}, s.ok K H o → s.ok K H' o
  | .any, _, _ => trivial
  | .val _ i _, _, ⟨v, h1, h2⟩ => ⟨v, h1, i.swap (.of e) h2⟩
  | .at _, _, h => h
theorem SlsOk.mono {K : Fg} {H H' : Hp} (e : Ex H H') : ∀ {ss : List Sl} {σ : St}, SlsOk K H ss σ → SlsOk K H' ss σ
  | [], [], _ => trivial
  | _ :: _, _ :: _, h => ⟨Sl.ok_mono e h.1, SlsOk.mono e h.2⟩
theorem Sl.ok_swap {K : Fg} {H H' : Hp} (e : Sw H H') : ∀ {s : Sl} {o : Option V}, s.ok K H o → s.ok K H' o
  | .any, _, _ => trivial
  | .val _ i _, _, ⟨v, h1, h2⟩ => ⟨v, h1, i.swap e h2⟩
  | .at _, _, h => h
theorem SlsOk.swap {K : Fg} {H H' : Hp} (e : Sw H H') : ∀ {ss : List Sl} {σ : St}, SlsOk K H ss σ → SlsOk K H' ss σ
  | [], [], _ => trivial
  | _ :: _, _ :: _, h => ⟨Sl.ok_swap e h.1, SlsOk.swap e h.2⟩
theorem SlsOk.get {K : Fg} {H : Hp} : ∀ {ss : List Sl} {σ : St} {i : Nat} {s : Sl}, SlsOk K H ss σ → ss[i]? = some s → ∃ o, σ[i]? = some o ∧ s.ok K H o
  | _ :: _, o :: _, 0, _, h, e => by
    cases Option.some.inj e
    exact ⟨o, rfl, h.1⟩
  | _ :: ss, _ :: os, i + 1, s, h, e => SlsOk.get (ss := ss) (σ := os) (i := i) h.2 e
theorem SlsOk.set {K : Fg} {H : Hp} {s : Sl} {o : Option V} (hs : s.ok K H o) : ∀ {ss : List Sl} {σ : St} (i : Nat), SlsOk K H ss σ → SlsOk K H (ss.set i s) (σ.set i o)
  | [], [], _, _ => trivial
  | _ :: _, _ :: _, 0, h => ⟨hs, h.2⟩
  | _ :: _, _ :: _, i + 1, h => ⟨h.1, SlsOk.set hs i h.2⟩
/-- less is known -/
inductive SlLe : List Sl → List Sl → Prop
  | nil : SlLe [] []
  | keep {s : Sl} {a b : List Sl} : SlLe a b → SlLe (s :: a) (s :: b)
  | drop {s : Sl} {a b : List Sl} : SlLe a b → SlLe (s :: a) (.any :: b)
theorem SlLe.refl : ∀ (a : List Sl), SlLe a a
  | [] => .nil
  | _ :: r => .keep (SlLe.refl r)
theorem SlsOk.le {K : Fg} {H : Hp} : ∀ {a b : List Sl} {σ : St}, SlLe a b → SlsOk K H a σ → SlsOk K H b σ
  | _, _, [], .nil, _ => trivial
  | _, _, _ :: _, .keep l, h => ⟨h.1, SlsOk.le l h.2⟩
  | _, _, _ :: _, .drop l, h => ⟨trivial, SlsOk.le l h.2⟩

/-- what an object stands for, by what is known in H -/
class Ob (γ : Type) where
  ob : Fg → Hp → HO → γ → Prop
  swap : ∀ {K : Fg} {H H' : Hp} {o : HO} {x : γ}, Sw H H' → ob K H o x → ob K H' o x
theorem Ob.mono {γ : Type} [i : Ob γ] {K : Fg} {H H' : Hp} {o : HO} {x : γ} (e : Ex H H') (h : Ob.ob K H o x) : Ob.ob K H' o x := i.swap (.of e) h
/-- an object of one's own, that may change -/
inductive Ow : Type 1 where
  | lst (p : Addr) (α : Type) (i : Rp α) (xs : List α)
  | obj (p : Addr) (γ : Type) (i : Ob γ) (x : γ)
def oo {γ : Type} [i : Ob γ] (p : Addr) (x : γ) : Ow := .obj p γ i x
def ol {α : Type} [i : Rp α] (p : Addr) (xs : List α) : Ow := .lst p α i xs
def Ow.ad : Ow → Addr
  | .lst p _ _ _ => p
  | .obj p _ _ _ => p
def Ow.ok (K : Fg) (Kn H : Hp) : Ow → Prop
  | .lst p _ i xs => ∃ vs, H p = some (.lst vs) ∧ Paired (i.rep K Kn) vs xs
  | .obj p _ i x => ∃ o, H p = some o ∧ i.ob K Kn o x
theorem Ow.ok_swap {K : Fg} {Kn Kn' H H' : Hp} (e : Sw Kn Kn') : ∀ {o : Ow}, H' o.ad = H o.ad → o.ok K Kn H → o.ok K Kn' H'
  | .lst _ _ i _, eh, ⟨vs, h1, h2⟩ => ⟨vs, eh.trans h1, Paired.mapP h2 fun _ _ q => i.swap e q⟩
  | .obj _ _ i _, eh, ⟨o, h1, h2⟩ => ⟨o, eh.trans h1, i.swap e h2⟩
theorem Ow.ok_mono {K : Fg} {Kn Kn' H H' : Hp} (e : Ex Kn Kn') {o : Ow} (eh : H' o.ad = H o.ad) (h : o.ok K Kn H) : o.ok K Kn' H' := Ow.ok_swap (.of e) eh h
theorem ne_none_of {H : Hp} {p : Addr} {o : HO} (h : H p = some o) : H p ≠ none := fun z => by
  rw [h] at z
  cases z
theorem Ow.there {K : Fg} {Kn H : Hp} : ∀ {o : Ow}, o.ok K Kn H → H o.ad ≠ none
  | .lst p _ _ _, h => by
    obtain ⟨vs, h, _⟩ := h
    exact ne_none_of (show H p = some (.lst vs) from h)
  | .obj p _ _ _, h => by
    obtain ⟨o, h, _⟩ := h
    exact ne_none_of (show H p = some o from h)
structure OwsOk (K : Fg) (F Kn H : Hp) (ow : List Ow) : Prop where
  each : ∀ o ∈ ow, F o.ad = none ∧ Kn o.ad = none ∧ o.ok K Kn H
  nd : (ow.map Ow.ad).Nodup

/-- the state: F stands untouched, Kn is known (by and by more), the slots, the objects of one's own -/
structure S (K : Fg) (F Kn0 : Hp) (sl : List Sl) (ow : List Ow) (σ : St) (Kn H : Hp) : Prop where
  e0 : Ex Kn0 Kn
  ek : Ex Kn H
  ef : Ex F H
  sep : ∀ p, F p ≠ none → Kn0 p = none → Kn p = none
  sl : SlsOk K Kn sl σ
  ow : OwsOk K F Kn H ow

/-- growth: nothing that stood is touched, nothing that stood unknown is known -/
structure Gr (Kn H Kn' H' : Hp) : Prop where
  kk : Ex Kn Kn'
  hh : Ex H H'
  kh : Ex Kn' H'
  sp : ∀ p, H p ≠ none → Kn p = none → Kn' p = none
theorem Gr.refl {Kn H : Hp} (e : Ex Kn H) : Gr Kn H Kn H := ⟨Ex.refl _, Ex.refl _, e, fun _ _ h => h⟩
theorem Ex.nn {H H' : Hp} (e : Ex H H') {p : Addr} (h : H p ≠ none) : H' p ≠ none := by
  cases q : H p with
  | none => exact absurd q h
  | some o => exact ne_none_of (e _ _ q)
theorem Ex.at_eq {H H' : Hp} (e : Ex H H') {p : Addr} (h : H p ≠ none) : H' p = H p := by
  cases q : H p with
  | none => exact absurd q h
  | some o => exact e _ _ q
theorem Gr.trans {Kn H Kn1 H1 Kn2 H2 : Hp} (a : Gr Kn H Kn1 H1) (b : Gr Kn1 H1 Kn2 H2) : Gr Kn H Kn2 H2 :=
  ⟨a.kk.trans b.kk, a.hh.trans b.hh, b.kh, fun p h1 h2 => b.sp p (Ex.nn a.hh h1) (a.sp p h1 h2)⟩
/-- a new object, known -/
theorem Gr.new {Kn H : Hp} {p : Addr} {o : HO} (e : Ex Kn H) (hp : H p = none) : Gr Kn H (upd Kn p o) (upd H p o) := by
  have kp : Kn p = none := fresh_back e hp
  refine ⟨Ex.new kp, Ex.new hp, fun a u h => ?_, fun q h1 h2 => ?_⟩
  · by_cases hq : a = p
    · subst hq
      rw [upd_same] at h ⊢
      exact h
    · rw [upd_ne hq] at h ⊢
      exact e _ _ h
  · have hq : q ≠ p := fun z => by
      subst z
      exact h1 hp
    rw [upd_ne hq]
    exact h2
/-- a new object, not known yet -/
theorem Gr.newU {Kn H : Hp} {p : Addr} {o : HO} (e : Ex Kn H) (hp : H p = none) : Gr Kn H Kn (upd H p o) :=
  ⟨Ex.refl _, Ex.new hp, e.trans (Ex.new hp), fun _ _ h2 => h2⟩
/-- what was new is known from now on -/
theorem Gr.know {Kn H Kn' H' : Hp} {p : Addr} {o : HO} (g : Gr Kn H Kn' H') (hp : H p = none) (kp : Kn' p = none) (hp' : H' p = some o) : Gr Kn H (upd Kn' p o) H' :=
  ⟨g.kk.trans (Ex.new kp), g.hh, fun a u h => by
    by_cases hq : a = p
    · subst hq
      rw [upd_same] at h
      rw [← h]
      exact hp'
    · rw [upd_ne hq] at h
      exact g.kh _ _ h, fun q h1 h2 => by
    have hq : q ≠ p := fun z => by
      subst z
      exact h1 hp
    rw [upd_ne hq]
    exact g.sp q h1 h2⟩

section
variable {K : Fg} {F Kn0 : Hp} {sl sl' : List Sl} {ow ow' : List Ow} {σ : St} {Kn H Kn' H' : Hp}
theorem S.grow (s : S K F Kn0 sl ow σ Kn H) (g : Gr Kn H Kn' H') : S K F Kn0 sl ow σ Kn' H' :=
  ⟨s.e0.trans g.kk, g.kh, s.ef.trans g.hh, fun p h1 h2 => g.sp p (Ex.nn s.ef h1) (s.sep p h1 h2), s.sl.mono g.kk,
    ⟨fun o ho => by
      obtain ⟨h1, h2, h3⟩ := s.ow.each o ho
      have h4 := Ow.there h3
      exact ⟨h1, g.sp _ h4 h2, Ow.ok_mono g.kk (Ex.at_eq g.hh h4) h3⟩, s.ow.nd⟩⟩
theorem S.le (s : S K F Kn0 sl ow σ Kn H) (l : SlLe sl sl') : S K F Kn0 sl' ow σ Kn H := ⟨s.e0, s.ek, s.ef, s.sep, s.sl.le l, s.ow⟩
theorem S.set (s : S K F Kn0 sl ow σ Kn H) {x : Sl} {o : Option V} (i : Nat) (h : x.ok K Kn o) : S K F Kn0 (sl.set i x) ow (σ.set i o) Kn H :=
  ⟨s.e0, s.ek, s.ef, s.sep, SlsOk.set h i s.sl, s.ow⟩
theorem S.setv (s : S K F Kn0 sl ow σ Kn H) {α : Type} [Rp α] {x : α} {v : V} (i : Nat) (h : rep K Kn v x) : S K F Kn0 (sl.set i (sv x)) ow (σ.set i (some v)) Kn H :=
  s.set i ⟨v, rfl, h⟩
/-- some objects are not named any more -/
theorem S.sub (s : S K F Kn0 sl ow σ Kn H) (l : ow'.Sublist ow) : S K F Kn0 sl ow' σ Kn H :=
  ⟨s.e0, s.ek, s.ef, s.sep, s.sl, ⟨fun o ho => s.ow.each o (l.subset ho), s.ow.nd.sublist (l.map _)⟩⟩
theorem S.fin (s : S K F Kn0 sl ow σ Kn H) : S K F Kn0 [] ow [] Kn H := ⟨s.e0, s.ek, s.ef, s.sep, trivial, s.ow⟩
end

/-! ### the judgements -/
section
variable (K : Fg) (F Kn0 : Hp) (sl : List Sl) (ow : List Ow)
def EV {α : Type} [Rp α] (te : TE) (x : α) : Prop := ∀ σ Kn H, S K F Kn0 sl ow σ Kn H → ∀ Q : VK, (∀ v Kn' H', Gr Kn H Kn' H' → rep K Kn' v x → Q v H') → te σ H Q
/-- a new list -/
def EN {α : Type} [Rp α] (te : TE) (xs : List α) : Prop := ∀ σ Kn H, S K F Kn0 sl ow σ Kn H → ∀ Q : VK,
  (∀ p ws Kn' H', Gr Kn H Kn' H' → H p = none → Kn' p = none → H' p = some (.lst ws) → Paired (rep K Kn') ws xs → Q (.ref p) H') → te σ H Q
/-- what is changed on the way is told: ow, then ow' -/
def EM {α : Type} [Rp α] (te : TE) (ow' : List Ow) (x : α) : Prop := ∀ σ Kn H, S K F Kn0 sl ow σ Kn H → ∀ Q : VK,
  (∀ v Kn' H', Ex Kn Kn' → S K F Kn0 sl ow' σ Kn' H' → rep K Kn' v x → Q v H') → te σ H Q
def ENM {α : Type} [Rp α] (te : TE) (ow' : List Ow) (xs : List α) : Prop := ∀ σ Kn H, S K F Kn0 sl ow σ Kn H → ∀ Q : VK,
  (∀ p ws Kn' H', Ex Kn Kn' → S K F Kn0 sl ow' σ Kn' H' → F p = none → Kn' p = none → (∀ o ∈ ow', o.ad ≠ p) → H' p = some (.lst ws) → Paired (rep K Kn') ws xs → Q (.ref p) H') → te σ H Q
def ET (tt : TT) (b : Bool) : Prop := ∀ σ Kn H, S K F Kn0 sl ow σ Kn H → ∀ Q : Bool → Hp → Prop, (∀ Kn' H', Gr Kn H Kn' H' → Q b H') → tt σ H Q
def EA {τ : Type} [Tp τ] (ta : TA) (t : τ) : Prop := ∀ σ Kn H, S K F Kn0 sl ow σ Kn H → ∀ Q : List V → Hp → Prop, (∀ vs Kn' H', Gr Kn H Kn' H' → rept K Kn' vs t → Q vs H') → ta σ H Q
def EAM {τ : Type} [Tp τ] (ta : TA) (ow' : List Ow) (t : τ) : Prop := ∀ σ Kn H, S K F Kn0 sl ow σ Kn H → ∀ Q : List V → Hp → Prop,
  (∀ vs Kn' H', Ex Kn Kn' → S K F Kn0 sl ow' σ Kn' H' → rept K Kn' vs t → Q vs H') → ta σ H Q
def SB (D : Ends) (ts : TS) : Prop := ∀ σ Kn H, S K F Kn0 sl ow σ Kn H → ts D σ H
/-- what is wanted of a return -/
def RT (R : VK) {α : Type} [Rp α] (x : α) : Prop := ∀ v Kn H, S K F Kn0 [] ow [] Kn H → rep K Kn v x → R v H
def RN (R : VK) {α : Type} [Rp α] (xs : List α) : Prop := ∀ p ws Kn H, S K F Kn0 [] ow [] Kn H → F p = none → Kn p = none → H p = some (.lst ws) → Paired (rep K Kn) ws xs → R (.ref p) H
end

section
variable {K : Fg} {F Kn0 : Hp} {sl sl' : List Sl} {ow ow1 ow2 : List Ow} {α β γ : Type} [Rp α] [Rp β] [Rp γ] {ta tb te : TE} {x : α} {y : β} {z : γ}
theorem EN.ev {xs : List α} (h : EN K F Kn0 sl ow te xs) : EV K F Kn0 sl ow te xs := fun σ Kn H s Q q => h σ Kn H s Q fun p ws Kn' H' g hp kp hw r =>
  q _ (upd Kn' p (.lst ws)) H' (g.know hp kp hw) ⟨p, ws, rfl, upd_same, paired_mono (Ex.new kp) r⟩
theorem EV.em (h : EV K F Kn0 sl ow te x) : EM K F Kn0 sl ow te ow x := fun σ Kn H s Q q => h σ Kn H s Q fun v Kn' H' g r => q v Kn' H' g.kk (s.grow g) r
theorem owned_ne {σ : St} {Kn H : Hp} (s : S K F Kn0 sl ow σ Kn H) {p : Addr} (hp : H p = none) : ∀ o ∈ ow, o.ad ≠ p := fun o ho z => by
  have := Ow.there (s.ow.each o ho).2.2
  rw [z] at this
  exact this hp
theorem EN.em {xs : List α} (h : EN K F Kn0 sl ow te xs) : ENM K F Kn0 sl ow te ow xs := fun σ Kn H s Q q => h σ Kn H s Q fun p ws Kn' H' g hp kp hw r =>
  q p ws Kn' H' g.kk (s.grow g) (fresh_back s.ef hp) kp (owned_ne s hp) hw r
theorem S.know {σ : St} {Kn H : Hp} (s : S K F Kn0 sl ow σ Kn H) {p : Addr} {o : HO} (fp : F p = none) (kp : Kn p = none) (no : ∀ o ∈ ow, o.ad ≠ p) (hp : H p = some o) : S K F Kn0 sl ow σ (upd Kn p o) H :=
  ⟨s.e0.trans (Ex.new kp), fun a u h => by
    by_cases hq : a = p
    · subst hq
      rw [upd_same] at h
      rw [← h]
      exact hp
    · rw [upd_ne hq] at h
      exact s.ek _ _ h, s.ef, fun q h1 h2 => by
    have hq : q ≠ p := fun z => by
      subst z
      exact h1 fp
    rw [upd_ne hq]
    exact s.sep q h1 h2, s.sl.mono (Ex.new kp), ⟨fun o ho => by
      obtain ⟨h1, h2, h3⟩ := s.ow.each o ho
      exact ⟨h1, by rw [upd_ne (no o ho)]; exact h2, Ow.ok_mono (Ex.new kp) rfl h3⟩, s.ow.nd⟩⟩
theorem ENM.em {xs : List α} (h : ENM K F Kn0 sl ow te ow1 xs) : EM K F Kn0 sl ow te ow1 xs := fun σ Kn H s Q q => h σ Kn H s Q fun p ws Kn' H' e s' fp kp no hw r =>
  q _ (upd Kn' p (.lst ws)) H' (e.trans (Ex.new kp)) (s'.know fp kp no hw) ⟨p, ws, rfl, upd_same, paired_mono (Ex.new kp) r⟩
theorem EV.cast {x' : α} (h : EV K F Kn0 sl ow te x) (e : x = x') : EV K F Kn0 sl ow te x' := e ▸ h
theorem ET.cast {tt : TT} {b b' : Bool} (h : ET K F Kn0 sl ow tt b) (e : b = b') : ET K F Kn0 sl ow tt b' := e ▸ h
end
end Wk
/-! Wk2: rules for expressions -/
namespace Wk
open PySem PySem.Spec L2 Evl
section
variable {K : Fg} {F Kn0 : Hp} {sl sl' : List Sl} {ow ow1 ow2 : List Ow} {α β γ τ : Type} [Rp α] [Rp β] [Rp γ] [Tp τ] {ta tb te : TE} {x : α} {y : β} {z : γ}

theorem paired_fl {α : Type} [Rp α] [Fl α] {H : Hp} : ∀ {vs : List V} {xs : List α}, Paired (rep K H) vs xs → vs = xs.map Fl.toV
  | _, _, .nil => rfl
  | _, _, .cons h t => by rw [List.map_cons, ← paired_fl t, Fl.iff.mp h]
theorem fl_paired {α : Type} [Rp α] [Fl α] {H : Hp} : ∀ (xs : List α), Paired (rep K H) (xs.map Fl.toV) xs
  | [] => .nil
  | _ :: t => .cons (Fl.iff.mpr rfl) (fl_paired t)
theorem paired_len {H : Hp} {vs : List V} {xs : List α} (h : Paired (rep K H) vs xs) : vs.length = xs.length := Paired.length h
theorem paired_at {F : V → α → Prop} : ∀ {vs : List V} {xs : List α}, Paired F vs xs → ∀ {j : Nat} {a : α}, xs[j]? = some a → ∃ v, vs[j]? = some v ∧ F v a
  | _, _, .nil, _, _, e => by simp at e
  | _, _, .cons r _, 0, _, e => by
    simp at e
    subst e
    exact ⟨_, rfl, r⟩
  | _, _, .cons _ t, j + 1, a, e => by
    obtain ⟨v, h1, h2⟩ := paired_at t (j := j) (a := a) (by simpa using e)
    exact ⟨v, by simpa using h1, h2⟩
theorem paired_append {F : V → α → Prop} : ∀ {vs ws : List V} {xs ys : List α}, Paired F vs xs → Paired F ws ys → Paired F (vs ++ ws) (xs ++ ys)
  | _, _, _, _, .nil, h => h
  | _, _, _, _, .cons r t, h => .cons r (paired_append t h)
theorem paired_drop {F : V → α → Prop} : ∀ {vs : List V} {xs : List α} (n : Nat), Paired F vs xs → Paired F (vs.drop n) (xs.drop n)
  | _, _, 0, h => h
  | _, _, _ + 1, .nil => .nil
  | _, _, n + 1, .cons _ t => paired_drop n t
theorem paired_take {F : V → α → Prop} : ∀ {vs : List V} {xs : List α} (n : Nat), Paired F vs xs → Paired F (vs.take n) (xs.take n)
  | _, _, 0, _ => .nil
  | _, _, _ + 1, .nil => .nil
  | _, _, n + 1, .cons r t => .cons r (paired_take n t)
theorem paired_set {F : V → α → Prop} {v : V} {a : α} (h : F v a) : ∀ {vs : List V} {xs : List α} (n : Nat), Paired F vs xs → Paired F (vs.set n v) (xs.set n a)
  | _, _, _, .nil => .nil
  | _, _, 0, .cons _ t => .cons h t
  | _, _, n + 1, .cons r t => .cons r (paired_set h n t)
theorem paired_atI {H : Hp} {vs : List V} {xs : List α} (h : Paired (rep K H) vs xs) {i : Int} {a : α} (e : atI xs i = some a) : ∃ v, atI vs i = some v ∧ rep K H v a := by
  unfold atI at e ⊢
  rw [paired_len h]
  cases q : ixN xs.length i with
  | none => rw [q] at e; cases e
  | some j =>
    rw [q] at e
    exact paired_at h e

/-! ### results of rules by values -/
def RS (K : Fg) (Kn H : Hp) (Q : VK) (z : γ) : Prop := ∀ u Kn' H', Gr Kn H Kn' H' → rep K Kn' u z → Q u H'
def RL (K : Fg) (Kn H : Hp) (Q : VK) (zs : List γ) : Prop := ∀ p ws Kn' H', Gr Kn H Kn' H' → H p = none → Kn' p = none → H' p = some (.lst ws) → Paired (rep K Kn') ws zs → Q (.ref p) H'
theorem RS.rl {Kn H : Hp} {Q : VK} {zs : List γ} (h : RS K Kn H Q zs) : RL K Kn H Q zs := fun p ws Kn' H' g hp kp hw r =>
  h _ (upd Kn' p (.lst ws)) H' (g.know hp kp hw) ⟨p, ws, rfl, upd_same, paired_mono (Ex.new kp) r⟩
theorem RS.fl {γ : Type} [Rp γ] [Fl γ] {z : γ} {Kn H : Hp} {Q : VK} (h : RS K Kn H Q z) (e : Ex Kn H) : Q (Fl.toV z) H := h _ Kn H (Gr.refl e) (Fl.iff.mpr rfl)
theorem RS.at {Kn H : Hp} {Q : VK} {z : γ} (h : RS K Kn H Q z) (e : Ex Kn H) {v : V} (r : rep K Kn v z) : Q v H := h _ Kn H (Gr.refl e) r

def R1V (r : V → Hp → VK → Prop) (x : α) (z : γ) : Prop := ∀ (K : Fg) Kn H v, Ex Kn H → rep K Kn v x → ∀ Q, RS K Kn H Q z → r v H Q
def R2V (K : Fg) (r : R2) (x : α) (y : β) (z : γ) : Prop := ∀ Kn H v w, Ex Kn H → rep K Kn v x → rep K Kn w y → ∀ Q, RS K Kn H Q z → r v w H Q
def R2L (K : Fg) (r : R2) (x : α) (y : β) (zs : List γ) : Prop := ∀ Kn H v w, Ex Kn H → rep K Kn v x → rep K Kn w y → ∀ Q, RL K Kn H Q zs → r v w H Q
def RCV (K : Fg) (r : List V → Hp → VK → Prop) (t : τ) (z : γ) : Prop := ∀ Kn H vs, Ex Kn H → rept K Kn vs t → ∀ Q, RS K Kn H Q z → r vs H Q
def RCL (K : Fg) (r : List V → Hp → VK → Prop) (t : τ) (zs : List γ) : Prop := ∀ Kn H vs, Ex Kn H → rept K Kn vs t → ∀ Q, RL K Kn H Q zs → r vs H Q

/-! ### names, constants, operators -/
theorem ev_var {i : Nat} (h : sl[i]? = some (sv x)) : EV K F Kn0 sl ow (tVar i) x := fun σ Kn H s Q q => by
  obtain ⟨o, h1, v, h2, h3⟩ := s.sl.get h
  exact ⟨v, by rw [h1, h2], q v Kn H (Gr.refl s.ek) h3⟩
theorem ev_c {γ : Type} [Rp γ] [Fl γ] (z : γ) {v : V} (e : v = Fl.toV z := by rfl) : EV K F Kn0 sl ow (tC v) z := fun σ Kn H s Q q => q v Kn H (Gr.refl s.ek) (Fl.iff.mpr e)
theorem ev_none : EV K F Kn0 sl ow (tC .non) (none : Option α) := fun σ Kn H s Q q => q .non Kn H (Gr.refl s.ek) rfl
theorem ev_un {r : V → Hp → VK → Prop} (ha : EV K F Kn0 sl ow ta x) (hr : R1V r x z) : EV K F Kn0 sl ow (tUn r ta) z := fun σ Kn H s Q q =>
  ha σ Kn H s _ fun v Kn1 H1 g1 r1 => hr K Kn1 H1 v g1.kh r1 Q fun u Kn' H' g' r' => q u Kn' H' (g1.trans g') r'
theorem ev_op {r : R2} (ha : EV K F Kn0 sl ow ta x) (hb : EV K F Kn0 sl ow tb y) (hr : R2V K r x y z) : EV K F Kn0 sl ow (tOp r ta tb) z := fun σ Kn H s Q q =>
  ha σ Kn H s _ fun v Kn1 H1 g1 r1 => hb σ Kn1 H1 (s.grow g1) _ fun w Kn2 H2 g2 r2 => hr Kn2 H2 v w g2.kh (Rp.mono g2.kk r1) r2 Q fun u Kn' H' g' r' => q u Kn' H' ((g1.trans g2).trans g') r'
theorem en_op {r : R2} {zs : List γ} (ha : EV K F Kn0 sl ow ta x) (hb : EV K F Kn0 sl ow tb y) (hr : R2L K r x y zs) : EN K F Kn0 sl ow (tOp r ta tb) zs := fun σ Kn H s Q q =>
  ha σ Kn H s _ fun v Kn1 H1 g1 r1 => hb σ Kn1 H1 (s.grow g1) _ fun w Kn2 H2 g2 r2 => hr Kn2 H2 v w g2.kh (Rp.mono g2.kk r1) r2 Q fun p ws Kn' H' g' hp kp hw r' =>
    q p ws Kn' H' ((g1.trans g2).trans g') (fresh_back (g1.trans g2).hh hp) kp hw r'
theorem em_op {r : R2} (ha : EM K F Kn0 sl ow ta ow1 x) (hb : EM K F Kn0 sl ow1 tb ow2 y) (hr : R2V K r x y z) : EM K F Kn0 sl ow (tOp r ta tb) ow2 z := fun σ Kn H s Q q =>
  ha σ Kn H s _ fun v Kn1 H1 e1 s1 r1 => hb σ Kn1 H1 s1 _ fun w Kn2 H2 e2 s2 r2 => hr Kn2 H2 v w s2.ek (Rp.mono e2 r1) r2 Q fun u Kn' H' g' r' => q u Kn' H' ((e1.trans e2).trans g'.kk) (s2.grow g') r'
theorem r2_I0 {γ : Type} [Rp γ] [Fl γ] {z : γ} {g : Int → Int → V} {i j : Int} (e : g i j = Fl.toV z := by rfl) : R2V K (rI0 g) i j z := fun Kn H v w ek h1 h2 Q q => ⟨i, j, h1, h2, e ▸ q.fl ek⟩
theorem r2_I {γ : Type} [Rp γ] [Fl γ] {z : γ} {C : Int → Int → Prop} {g : Int → Int → V} {i j : Int} (c : C i j) (e : g i j = Fl.toV z := by rfl) : R2V K (rI C g) i j z := fun Kn H v w ek h1 h2 Q q => ⟨i, j, h1, h2, c, e ▸ q.fl ek⟩
theorem r1_neg {i : Int} : R1V (rU fun i => .int (-i)) i (-i) := fun K Kn H v ek h1 Q q => ⟨i, h1, q.fl ek⟩
theorem r2_eqI {i j : Int} : R2V K rEq i j (decide (i = j)) := fun Kn H v w ek h1 h2 Q q => by
  cases h1
  cases h2
  refine ⟨rfl, ?_⟩
  have e : decide (V.int i = V.int j) = decide (i = j) := by simp
  rw [e]
  exact q.fl ek
theorem r2_neI {i j : Int} : R2V K rNe i j (!decide (i = j)) := fun Kn H v w ek h1 h2 Q q => by
  cases h1
  cases h2
  refine ⟨rfl, ?_⟩
  have e : decide (V.int i = V.int j) = decide (i = j) := by simp
  rw [e]
  exact q.fl ek
theorem r2_eqS {i j : Str} : R2V K rEq i j (decide (i = j)) := fun Kn H v w ek h1 h2 Q q => by
  cases h1
  cases h2
  refine ⟨rfl, ?_⟩
  have e : decide (V.str i = V.str j) = decide (i = j) := by simp
  rw [e]
  exact q.fl ek
theorem r2_neS {i j : Str} : R2V K rNe i j (!decide (i = j)) := fun Kn H v w ek h1 h2 Q q => by
  cases h1
  cases h2
  refine ⟨rfl, ?_⟩
  have e : decide (V.str i = V.str j) = decide (i = j) := by simp
  rw [e]
  exact q.fl ek
theorem r2_eqB {i j : Bool} : R2V K rEq i j (decide (i = j)) := fun Kn H v w ek h1 h2 Q q => by
  cases h1
  cases h2
  refine ⟨rfl, ?_⟩
  have e : decide (V.bl i = V.bl j) = decide (i = j) := by simp
  rw [e]
  exact q.fl ek

/-! ### arguments, tuples, lists -/
theorem ea_nil : EA K F Kn0 sl ow tNil () := fun σ Kn H s Q q => q [] Kn H (Gr.refl s.ek) rfl
theorem ea_cons {tr : TA} {t : τ} (h : EV K F Kn0 sl ow ta x) (hr : EA K F Kn0 sl ow tr t) : EA K F Kn0 sl ow (tCons ta tr) (x, t) := fun σ Kn H s Q q =>
  h σ Kn H s _ fun v Kn1 H1 g1 r1 => hr σ Kn1 H1 (s.grow g1) _ fun vs Kn2 H2 g2 r2 => q _ Kn2 H2 (g1.trans g2) ⟨v, vs, rfl, Rp.mono g2.kk r1, r2⟩
theorem eam_nil : EAM K F Kn0 sl ow tNil ow () := fun σ Kn H s Q q => q [] Kn H (Ex.refl _) s rfl
theorem eam_cons {tr : TA} {t : τ} (h : EM K F Kn0 sl ow ta ow1 x) (hr : EAM K F Kn0 sl ow1 tr ow2 t) : EAM K F Kn0 sl ow (tCons ta tr) ow2 (x, t) := fun σ Kn H s Q q =>
  h σ Kn H s _ fun v Kn1 H1 e1 s1 r1 => hr σ Kn1 H1 s1 _ fun vs Kn2 H2 e2 s2 r2 => q _ Kn2 H2 (e1.trans e2) s2 ⟨v, vs, rfl, Rp.mono e2 r1, r2⟩
theorem EA.eam {ta : TA} {t : τ} (h : EA K F Kn0 sl ow ta t) : EAM K F Kn0 sl ow ta ow t := fun σ Kn H s Q q => h σ Kn H s Q fun vs Kn' H' g r => q vs Kn' H' g.kk (s.grow g) r
/-- alike things -/
def EL {α : Type} [Rp α] (K : Fg) (F Kn0 : Hp) (sl : List Sl) (ow : List Ow) (ta : TA) (xs : List α) : Prop := ∀ σ Kn H, S K F Kn0 sl ow σ Kn H → ∀ Q : List V → Hp → Prop, (∀ vs Kn' H', Gr Kn H Kn' H' → Paired (rep K Kn') vs xs → Q vs H') → ta σ H Q
def ELM {α : Type} [Rp α] (K : Fg) (F Kn0 : Hp) (sl : List Sl) (ow : List Ow) (ta : TA) (ow' : List Ow) (xs : List α) : Prop := ∀ σ Kn H, S K F Kn0 sl ow σ Kn H → ∀ Q : List V → Hp → Prop, (∀ vs Kn' H', Ex Kn Kn' → S K F Kn0 sl ow' σ Kn' H' → Paired (rep K Kn') vs xs → Q vs H') → ta σ H Q
theorem el_nil : EL K F Kn0 sl ow tNil ([] : List α) := fun σ Kn H s Q q => q [] Kn H (Gr.refl s.ek) .nil
theorem el_cons {tr : TA} {xs : List α} (h : EV K F Kn0 sl ow ta x) (hr : EL K F Kn0 sl ow tr xs) : EL K F Kn0 sl ow (tCons ta tr) (x :: xs) := fun σ Kn H s Q q =>
  h σ Kn H s _ fun v Kn1 H1 g1 r1 => hr σ Kn1 H1 (s.grow g1) _ fun vs Kn2 H2 g2 r2 => q _ Kn2 H2 (g1.trans g2) (.cons (Rp.mono g2.kk r1) r2)
theorem elm_nil : ELM K F Kn0 sl ow tNil ow ([] : List α) := fun σ Kn H s Q q => q [] Kn H (Ex.refl _) s .nil
theorem elm_cons {tr : TA} {xs : List α} (h : EM K F Kn0 sl ow ta ow1 x) (hr : ELM K F Kn0 sl ow1 tr ow2 xs) : ELM K F Kn0 sl ow (tCons ta tr) ow2 (x :: xs) := fun σ Kn H s Q q =>
  h σ Kn H s _ fun v Kn1 H1 e1 s1 r1 => hr σ Kn1 H1 s1 _ fun vs Kn2 H2 e2 s2 r2 => q _ Kn2 H2 (e1.trans e2) s2 (.cons (Rp.mono e2 r1) r2)
theorem le_line {n : Nat} (h : n ≤ 1000000) : n ≤ sizeLine := Nat.le_trans h (by decide)
theorem lt_line {n : Nat} (h : n < 1000000) : n < sizeLine := Nat.lt_of_lt_of_le h (by decide)
theorem en_lst {ta : TA} {xs : List α} (h : EL K F Kn0 sl ow ta xs) (hz : xs.length ≤ 1000000 := by exact Nat.le_of_ble_eq_true rfl) : EN K F Kn0 sl ow (tLst ta) xs := fun σ Kn H s Q q =>
  h σ Kn H s _ fun vs Kn1 H1 g1 r1 => ⟨by rw [paired_len r1]; exact le_line hz, fun p hp => q p vs Kn1 _ (g1.trans (Gr.newU g1.kh hp)) (fresh_back g1.hh hp) (fresh_back g1.kh hp) upd_same r1⟩
theorem enm_lst {ta : TA} {xs : List α} (h : ELM K F Kn0 sl ow ta ow1 xs) (hz : xs.length ≤ 1000000 := by exact Nat.le_of_ble_eq_true rfl) : ENM K F Kn0 sl ow (tLst ta) ow1 xs := fun σ Kn H s Q q =>
  h σ Kn H s _ fun vs Kn1 H1 e1 s1 r1 => ⟨by rw [paired_len r1]; exact le_line hz, fun p hp =>
    q p vs Kn1 _ e1 (s1.grow (Gr.newU s1.ek hp)) (fresh_back s1.ef hp) (fresh_back s1.ek hp) (owned_ne s1 hp) upd_same r1⟩
theorem ev_tup {ta : TA} {t : α × τ} (h : EA K F Kn0 sl ow ta t) (hz : Tp.n (α × τ) ≤ 1000000 := by decide) : EV K F Kn0 sl ow (tTup ta) t := fun σ Kn H s Q q =>
  h σ Kn H s _ fun vs Kn1 H1 g1 r1 => ⟨by rw [Tp.len r1]; exact le_line hz, fun p hp =>
    q _ (upd Kn1 p (.tup vs)) _ (g1.trans (Gr.new g1.kh hp)) ⟨p, vs, rfl, upd_same, Tp.mono (Gr.new g1.kh hp).kk r1⟩⟩
theorem em_tup {ta : TA} {t : α × τ} (h : EAM K F Kn0 sl ow ta ow1 t) (hz : Tp.n (α × τ) ≤ 1000000 := by decide) : EM K F Kn0 sl ow (tTup ta) ow1 t := fun σ Kn H s Q q =>
  h σ Kn H s _ fun vs Kn1 H1 e1 s1 r1 => ⟨by rw [Tp.len r1]; exact le_line hz, fun p hp =>
    q _ (upd Kn1 p (.tup vs)) _ (e1.trans (Gr.new s1.ek hp).kk) (s1.grow (Gr.new s1.ek hp)) ⟨p, vs, rfl, upd_same, Tp.mono (Gr.new s1.ek hp).kk r1⟩⟩
theorem ev_tuH {ta : TA} {xs : List α} (h : EL K F Kn0 sl ow ta xs) (hz : xs.length ≤ 1000000 := by exact Nat.le_of_ble_eq_true rfl) : EV K F Kn0 sl ow (tTup ta) (Tu.mk xs) := fun σ Kn H s Q q =>
  h σ Kn H s _ fun vs Kn1 H1 g1 r1 => ⟨by rw [paired_len r1]; exact le_line hz, fun p hp =>
    q _ (upd Kn1 p (.tup vs)) _ (g1.trans (Gr.new g1.kh hp)) ⟨p, vs, rfl, upd_same, paired_mono (Gr.new g1.kh hp).kk r1⟩⟩

/-! ### built-ins, defs -/
theorem ev_cb {r : List V → Hp → VK → Prop} {ta : TA} {t : τ} (h : EA K F Kn0 sl ow ta t) (hr : RCV K r t z) : EV K F Kn0 sl ow (tCB r ta) z := fun σ Kn H s Q q =>
  h σ Kn H s _ fun vs Kn1 H1 g1 r1 => hr Kn1 H1 vs g1.kh r1 Q fun u Kn' H' g' r' => q u Kn' H' (g1.trans g') r'
theorem en_cb {r : List V → Hp → VK → Prop} {ta : TA} {t : τ} {zs : List γ} (h : EA K F Kn0 sl ow ta t) (hr : RCL K r t zs) : EN K F Kn0 sl ow (tCB r ta) zs := fun σ Kn H s Q q =>
  h σ Kn H s _ fun vs Kn1 H1 g1 r1 => hr Kn1 H1 vs g1.kh r1 Q fun p ws Kn' H' g' hp kp hw r' => q p ws Kn' H' (g1.trans g') (fresh_back g1.hh hp) kp hw r'
theorem em_cb {r : List V → Hp → VK → Prop} {ta : TA} {t : τ} (h : EAM K F Kn0 sl ow ta ow1 t) (hr : RCV K r t z) : EM K F Kn0 sl ow (tCB r ta) ow1 z := fun σ Kn H s Q q =>
  h σ Kn H s _ fun vs Kn1 H1 e1 s1 r1 => hr Kn1 H1 vs s1.ek r1 Q fun u Kn' H' g' r' => q u Kn' H' (e1.trans g'.kk) (s1.grow g') r'
theorem one_arg {Kn : Hp} {vs : List V} {x : α} (h : rept K Kn vs (x, ())) : ∃ v, vs = [v] ∧ rep K Kn v x := by
  obtain ⟨v, r, rfl, h1, h2⟩ := h
  cases h2
  exact ⟨v, rfl, h1⟩
theorem two_args {Kn : Hp} {vs : List V} {x : α} {y : β} (h : rept K Kn vs (x, y, ())) : ∃ v w, vs = [v, w] ∧ rep K Kn v x ∧ rep K Kn w y := by
  obtain ⟨v, r, rfl, h1, h2⟩ := h
  obtain ⟨w, rfl, h3⟩ := one_arg h2
  exact ⟨v, w, rfl, h1, h3⟩
theorem rc_max {i j : Int} : RCV K (fun xs H Q => ∃ i j, xs = [.int i, .int j] ∧ Q (.int (if j > i then j else i)) H) (i, j, ()) (max i j) := fun Kn H vs ek h Q q => by
  obtain ⟨v, w, rfl, h1, h2⟩ := two_args h
  cases h1
  cases h2
  refine ⟨i, j, rfl, ?_⟩
  have e : (if j > i then j else i) = max i j := by split <;> omega
  rw [e]
  exact q.fl ek
theorem rc_min {i j : Int} : RCV K (fun xs H Q => ∃ i j, xs = [.int i, .int j] ∧ Q (.int (if j < i then j else i)) H) (i, j, ()) (min i j) := fun Kn H vs ek h Q q => by
  obtain ⟨v, w, rfl, h1, h2⟩ := two_args h
  cases h1
  cases h2
  refine ⟨i, j, rfl, ?_⟩
  have e : (if j < i then j else i) = min i j := by split <;> omega
  rw [e]
  exact q.fl ek
theorem rc_abs {i : Int} : RCV K (fun xs H Q => ∃ i, xs = [.int i] ∧ Q (.int (if i < 0 then -i else i)) H) (i, ()) ((i.natAbs : Int)) := fun Kn H vs ek h Q q => by
  obtain ⟨v, rfl, h1⟩ := one_arg h
  cases h1
  refine ⟨i, rfl, ?_⟩
  have e : (if i < 0 then -i else i) = (i.natAbs : Int) := by split <;> omega
  rw [e]
  exact q.fl ek
theorem rc_len {xs : List α} : RCV K (fun xs H Q => ∃ p ys, xs = [.ref p] ∧ (SqL K H p ys ∨ SqT K H p ys) ∧ Q (.int ys.length) H) (xs, ()) (xs.length : Int) := fun Kn H vs ek h Q q => by
  obtain ⟨v, rfl, p, ws, rfl, h1, h2⟩ := one_arg h
  refine ⟨p, ws, rfl, .inl (sq_of (ek _ _ h1)), ?_⟩
  rw [paired_len h2]
  exact q.fl ek
theorem rc_lenF {xs : Fz α} : RCV K (fun xs H Q => ∃ p ys, xs = [.ref p] ∧ (SqL K H p ys ∨ SqT K H p ys) ∧ Q (.int ys.length) H) (xs, ()) (xs.l.length : Int) := fun Kn H vs ek h Q q => by
  obtain ⟨v, rfl, p, ws, rfl, h1, h2⟩ := one_arg h
  refine ⟨p, ws, rfl, .inl (ex_l ek h1), ?_⟩
  rw [paired_len h2]
  exact q.fl ek
theorem rc_lenT {xs : Tu α} : RCV K (fun xs H Q => ∃ p ys, xs = [.ref p] ∧ (SqL K H p ys ∨ SqT K H p ys) ∧ Q (.int ys.length) H) (xs, ()) (xs.l.length : Int) := fun Kn H vs ek h Q q => by
  obtain ⟨v, rfl, p, ws, rfl, h1, h2⟩ := one_arg h
  refine ⟨p, ws, rfl, .inr (st_of (ek _ _ h1)), ?_⟩
  rw [paired_len h2]
  exact q.fl ek
theorem rc_lenP {t : α × τ} : RCV K (fun xs H Q => ∃ p ys, xs = [.ref p] ∧ (SqL K H p ys ∨ SqT K H p ys) ∧ Q (.int ys.length) H) (t, ()) ((Tp.n (α × τ) : Nat) : Int) := fun Kn H vs ek h Q q => by
  obtain ⟨v, rfl, p, ws, rfl, h1, h2⟩ := one_arg h
  refine ⟨p, ws, rfl, .inr (st_of (ek _ _ h1)), ?_⟩
  rw [Tp.len h2]
  exact q.fl ek
theorem rc_sum {xs : List Int} : RCV K (rSum K) (xs, ()) xs.sum := fun Kn H vs ek h Q q => by
  obtain ⟨v, rfl, p, ws, rfl, h1, h2⟩ := one_arg h
  have e := paired_fl h2
  subst e
  exact ⟨p, xs, rfl, sq_of (ek _ _ h1), q.fl ek⟩
theorem rc_all {xs : List Bool} : RCV K (rAll K) (xs, ()) (xs.all id) := fun Kn H vs ek h Q q => by
  obtain ⟨v, rfl, p, ws, rfl, h1, h2⟩ := one_arg h
  have e := paired_fl h2
  subst e
  exact ⟨p, xs, rfl, sq_of (ek _ _ h1), q.fl ek⟩
theorem rc_any {xs : List Bool} : RCV K (rAny K) (xs, ()) (xs.any id) := fun Kn H vs ek h Q q => by
  obtain ⟨v, rfl, p, ws, rfl, h1, h2⟩ := one_arg h
  have e := paired_fl h2
  subst e
  exact ⟨p, xs, rfl, sq_of (ek _ _ h1), q.fl ek⟩
theorem rc_list {xs : List α} : RCL K (fun xs H Q => ∃ p ys, xs = [.ref p] ∧ (SqL K H p ys ∨ SqT K H p ys) ∧ ∀ l, H l = none → Q (.ref l) (upd H l (.lst ys))) (xs, ()) xs := fun Kn H vs ek h Q q => by
  obtain ⟨v, rfl, p, ws, rfl, h1, h2⟩ := one_arg h
  exact ⟨p, ws, rfl, .inl (sq_of (ek _ _ h1)), fun l hl => q l ws Kn _ (Gr.newU ek hl) hl (fresh_back ek hl) upd_same h2⟩
theorem rc_listF {xs : Fz α} : RCL K (fun xs H Q => ∃ p ys, xs = [.ref p] ∧ (SqL K H p ys ∨ SqT K H p ys) ∧ ∀ l, H l = none → Q (.ref l) (upd H l (.lst ys))) (xs, ()) xs.l := fun Kn H vs ek h Q q => by
  obtain ⟨v, rfl, p, ws, rfl, h1, h2⟩ := one_arg h
  exact ⟨p, ws, rfl, .inl (ex_l ek h1), fun l hl => q l ws Kn _ (Gr.newU ek hl) hl (fresh_back ek hl) upd_same h2⟩
theorem rc_listT {xs : Tu α} : RCL K (fun xs H Q => ∃ p ys, xs = [.ref p] ∧ (SqL K H p ys ∨ SqT K H p ys) ∧ ∀ l, H l = none → Q (.ref l) (upd H l (.lst ys))) (xs, ()) xs.l := fun Kn H vs ek h Q q => by
  obtain ⟨v, rfl, p, ws, rfl, h1, h2⟩ := one_arg h
  exact ⟨p, ws, rfl, .inr (st_of (ek _ _ h1)), fun l hl => q l ws Kn _ (Gr.newU ek hl) hl (fresh_back ek hl) upd_same h2⟩
theorem rc_tuple {xs : List α} : RCV K (fun xs H Q => ∃ p ys, xs = [.ref p] ∧ ((SqL K H p ys ∧ ∀ l, H l = none → Q (.ref l) (upd H l (.tup ys))) ∨ (SqT K H p ys ∧ Q (.ref p) H))) (xs, ()) (Tu.mk xs) := fun Kn H vs ek h Q q => by
  obtain ⟨v, rfl, p, ws, rfl, h1, h2⟩ := one_arg h
  exact ⟨p, ws, rfl, .inl ⟨sq_of (ek _ _ h1), fun l hl => q _ (upd Kn l (.tup ws)) _ (Gr.new ek hl) ⟨l, ws, rfl, upd_same, paired_mono (Gr.new ek hl).kk h2⟩⟩⟩
end

/-! ### items, slices -/
section
variable {K : Fg} {F Kn0 : Hp} {sl sl' : List Sl} {ow ow1 ow2 : List Ow} {α β γ τ : Type} [Rp α] [Rp β] [Rp γ] [Tp τ] {ta tb te : TE}
theorem r2_ixL {xs : List α} {i : Int} {z : α} (h : atI xs i = some z) : R2V K (rIxL K) xs i z := fun Kn H v w ek h1 h2 Q q => by
  obtain ⟨p, ws, rfl, h3, h4⟩ := h1
  cases h2
  obtain ⟨u, e, r⟩ := paired_atI h4 h
  exact ⟨p, ws, i, u, rfl, rfl, sq_of (ek _ _ h3), e, q.at ek r⟩
theorem r2_ixF {xs : Fz α} {i : Int} {z : α} (h : atI xs.l i = some z) : R2V K (rIxL K) xs i z := fun Kn H v w ek h1 h2 Q q => by
  obtain ⟨p, ws, rfl, h3, h4⟩ := h1
  cases h2
  obtain ⟨u, e, r⟩ := paired_atI h4 h
  exact ⟨p, ws, i, u, rfl, rfl, ex_l ek h3, e, q.at ek r⟩
theorem r2_ixU {xs : Tu α} {i : Int} {z : α} (h : atI xs.l i = some z) : R2V K (rIxT K) xs i z := fun Kn H v w ek h1 h2 Q q => by
  obtain ⟨p, ws, rfl, h3, h4⟩ := h1
  cases h2
  obtain ⟨u, e, r⟩ := paired_atI h4 h
  exact ⟨p, ws, i, u, rfl, rfl, st_of (ek _ _ h3), e, q.at ek r⟩
theorem r2_ixK {xs : Kt α} {i : Int} {z : α} (h : atI xs.l i = some z) : R2V K (rIxT K) xs i z := fun Kn H v w ek h1 h2 Q q => by
  obtain ⟨p, ws, rfl, h3, h4⟩ := h1
  cases h2
  obtain ⟨u, e, r⟩ := paired_atI h4 h
  exact ⟨p, ws, i, u, rfl, rfl, ex_t ek h3, e, q.at ek r⟩
/-- the n-th place of a tuple -/
inductive At : {τ : Type} → [Tp τ] → Nat → {α : Type} → [Rp α] → τ → α → Prop
  | z {α τ : Type} [Rp α] [Tp τ] (x : α) (t : τ) : At 0 (x, t) x
  | s {α β τ : Type} [Rp α] [Rp β] [Tp τ] {n : Nat} (x : α) {t : τ} {y : β} : At n t y → At (n + 1) (x, t) y
theorem At.get {K : Fg} {H : Hp} {τ : Type} [i : Tp τ] {n : Nat} {α : Type} [j : Rp α] {t : τ} {a : α} (h : At n t a) : ∀ {vs : List V}, rept K H vs t → ∃ v, vs[n]? = some v ∧ rep K H v a := by
  induction h with
  | z x t =>
    intro vs r
    obtain ⟨v, r, rfl, h1, h2⟩ := r
    exact ⟨v, rfl, h1⟩
  | s x _ ih =>
    intro vs r
    obtain ⟨v, r, rfl, h1, h2⟩ := r
    obtain ⟨w, e, h3⟩ := ih h2
    exact ⟨w, e, h3⟩
theorem r2_tix {t : α × τ} {n : Nat} {z : γ} (h : At n t z) : R2V K (rIxT K) t (n : Int) z := fun Kn H v w ek h1 h2 Q q => by
  obtain ⟨p, ws, rfl, h3, h4⟩ := h1
  cases h2
  obtain ⟨u, e, r⟩ := h.get h4
  exact ⟨p, ws, n, u, rfl, rfl, st_of (ek _ _ h3), atI_nat e, q.at ek r⟩
/-- one sign of a text -/
def ixS (z : Str) (i : Int) : Option Str := if z.length ≤ 100000 then (atI z.cps.toList i).map (fun c => ⟨#[c]⟩) else none
theorem r2_ixS {x : Str} {i : Int} {z : Str} (h : ixS x i = some z) : R2V K rIxS x i z := fun Kn H v w ek h1 h2 Q q => by
  cases h1
  cases h2
  unfold ixS at h
  split at h
  · rename_i hl
    cases e : atI x.cps.toList i with
    | none => rw [e] at h; cases h
    | some c =>
      rw [e] at h
      cases h
      exact ⟨x, i, c, rfl, rfl, le_line (by omega), e, q.fl ek⟩
  · cases h
def cut {α : Type} (xs : List α) (lo hi : Option Int) : List α := (xs.drop (HT.sIx xs.length 0 lo)).take (HT.sIx xs.length xs.length hi - HT.sIx xs.length 0 lo)
theorem paired_cut {F : V → α → Prop} {vs : List V} {xs : List α} (h : Paired F vs xs) (lo hi : Option Int) : Paired F (cutV vs lo hi) (cut xs lo hi) := by
  unfold cutV cut
  rw [Paired.length h]
  exact paired_take _ (paired_drop _ h)
def EO (K : Fg) (F Kn0 : Hp) (sl : List Sl) (ow : List Ow) (to : TO) (o : Option Int) : Prop := ∀ σ Kn H, S K F Kn0 sl ow σ Kn H → ∀ Q : Option Int → Hp → Prop, (∀ Kn' H', Gr Kn H Kn' H' → Q o H') → to σ H Q
theorem eo_none : EO K F Kn0 sl ow tNoPart none := fun σ Kn H s Q q => q Kn H (Gr.refl s.ek)
theorem eo_some {i : Int} (h : EV K F Kn0 sl ow te i) : EO K F Kn0 sl ow (tPart te) (some i) := fun σ Kn H s Q q => h σ Kn H s _ fun v Kn1 H1 g1 r1 => ⟨i, r1, q Kn1 H1 g1⟩
theorem en_sl {xs : List α} {tl th : TO} {lo hi : Option Int} (h : EV K F Kn0 sl ow te xs) (hl : EO K F Kn0 sl ow tl lo) (hh : EO K F Kn0 sl ow th hi) : EN K F Kn0 sl ow (tSl (rSlL K) te tl th) (cut xs lo hi) := fun σ Kn H s Q q =>
  h σ Kn H s _ fun v Kn1 H1 g1 r1 => hl σ Kn1 H1 (s.grow g1) _ fun Kn2 H2 g2 => hh σ Kn2 H2 ((s.grow g1).grow g2) _ fun Kn3 H3 g3 => by
    obtain ⟨p, ws, rfl, h3, h4⟩ := r1
    have g : Gr Kn H Kn3 H3 := (g1.trans g2).trans g3
    have e13 : Ex Kn1 Kn3 := g2.kk.trans g3.kk
    exact ⟨p, ws, rfl, sq_of (g3.kh _ _ (e13 _ _ h3)), fun l hl => q l _ Kn3 _ (g.trans (Gr.newU g3.kh hl)) (fresh_back g.hh hl) (fresh_back g3.kh hl) upd_same (paired_cut (paired_mono e13 h4) lo hi)⟩
theorem en_slF {xs : Fz α} {tl th : TO} {lo hi : Option Int} (h : EV K F Kn0 sl ow te xs) (hl : EO K F Kn0 sl ow tl lo) (hh : EO K F Kn0 sl ow th hi) : EN K F Kn0 sl ow (tSl (rSlL K) te tl th) (cut xs.l lo hi) := fun σ Kn H s Q q =>
  h σ Kn H s _ fun v Kn1 H1 g1 r1 => hl σ Kn1 H1 (s.grow g1) _ fun Kn2 H2 g2 => hh σ Kn2 H2 ((s.grow g1).grow g2) _ fun Kn3 H3 g3 => by
    obtain ⟨p, ws, rfl, h3, h4⟩ := r1
    have g : Gr Kn H Kn3 H3 := (g1.trans g2).trans g3
    have e13 : Ex Kn1 Kn3 := g2.kk.trans g3.kk
    exact ⟨p, ws, rfl, ex_l (e13.trans g3.kh) h3, fun l hl => q l _ Kn3 _ (g.trans (Gr.newU g3.kh hl)) (fresh_back g.hh hl) (fresh_back g3.kh hl) upd_same (paired_cut (paired_mono e13 h4) lo hi)⟩
theorem r2_cat {xs ys : List α} (hz : xs.length + ys.length ≤ 1000000) : R2L K rCat xs ys (xs ++ ys) := fun Kn H v w ek h1 h2 Q q => by
  obtain ⟨p, ws, rfl, h3, h4⟩ := h1
  obtain ⟨p2, ws2, rfl, h5, h6⟩ := h2
  exact ⟨p, p2, ws, ws2, rfl, rfl, ek _ _ h3, ek _ _ h5, by rw [paired_len h4, paired_len h6]; exact le_line hz, fun l hl =>
    q l _ Kn _ (Gr.newU ek hl) hl (fresh_back ek hl) upd_same (paired_append h4 h6)⟩

/-! ### tests -/
variable {t u : TT} {a b c : Bool}
theorem et_test (h : EV K F Kn0 sl ow te b) : ET K F Kn0 sl ow (tTest te) b := fun σ Kn H s Q q => h σ Kn H s _ fun v Kn' H' g r => ⟨b, r, q Kn' H' g⟩
theorem et_B (h : EV K F Kn0 sl ow te b) : ET K F Kn0 sl ow (tB te) b := fun σ Kn H s Q q => h σ Kn H s _ fun v Kn' H' g r => ⟨b, r, q Kn' H' g⟩
theorem et_not (h : ET K F Kn0 sl ow t b) : ET K F Kn0 sl ow (tNot t) (!b) := fun σ Kn H s Q q => h σ Kn H s _ fun Kn' H' g => q Kn' H' g
theorem et_and (h1 : ET K F Kn0 sl ow t a) (h2 : a = true → ET K F Kn0 sl ow u b) : ET K F Kn0 sl ow (tAnd t u) (a && b) := fun σ Kn H s Q q => h1 σ Kn H s _ fun Kn1 H1 g1 => by
  cases a with
  | true => exact iteT (h2 rfl σ Kn1 H1 (s.grow g1) Q fun Kn2 H2 g2 => q Kn2 H2 (g1.trans g2))
  | false => exact iteF (q Kn1 H1 g1)
theorem et_or (h1 : ET K F Kn0 sl ow t a) (h2 : a = false → ET K F Kn0 sl ow u b) : ET K F Kn0 sl ow (tOr t u) (a || b) := fun σ Kn H s Q q => h1 σ Kn H s _ fun Kn1 H1 g1 => by
  cases a with
  | true => exact iteT (q Kn1 H1 g1)
  | false => exact iteF (h2 rfl σ Kn1 H1 (s.grow g1) Q fun Kn2 H2 g2 => q Kn2 H2 (g1.trans g2))
theorem et_andO {m : Option Bool} (h : (if a = true then m else some false) = some c) (h1 : ET K F Kn0 sl ow t a) (h2 : ∀ b, a = true → m = some b → ET K F Kn0 sl ow u b) : ET K F Kn0 sl ow (tAnd t u) c := fun σ Kn H s Q q => h1 σ Kn H s _ fun Kn1 H1 g1 => by
  cases a with
  | true => exact iteT (h2 c rfl h σ Kn1 H1 (s.grow g1) Q fun Kn2 H2 g2 => q Kn2 H2 (g1.trans g2))
  | false =>
    cases h
    exact iteF (q Kn1 H1 g1)
theorem et_orO {m : Option Bool} (h : (if a = true then some true else m) = some c) (h1 : ET K F Kn0 sl ow t a) (h2 : ∀ b, a = false → m = some b → ET K F Kn0 sl ow u b) : ET K F Kn0 sl ow (tOr t u) c := fun σ Kn H s Q q => h1 σ Kn H s _ fun Kn1 H1 g1 => by
  cases a with
  | false => exact iteF (h2 c rfl h σ Kn1 H1 (s.grow g1) Q fun Kn2 H2 g2 => q Kn2 H2 (g1.trans g2))
  | true =>
    cases h
    exact iteT (q Kn1 H1 g1)
theorem ev_andO {m : Option Bool} (h : (if a = true then m else some false) = some c) (h1 : EV K F Kn0 sl ow ta a) (h2 : ∀ b, a = true → m = some b → EV K F Kn0 sl ow tb b) : EV K F Kn0 sl ow (tAndV ta tb) c := fun σ Kn H s Q q => h1 σ Kn H s _ fun v Kn1 H1 g1 r1 => ⟨a, r1, by
  cases a with
  | true => exact iteT (h2 c rfl h σ Kn1 H1 (s.grow g1) Q fun v Kn2 H2 g2 r2 => q v Kn2 H2 (g1.trans g2) r2)
  | false =>
    cases h
    exact iteF (q _ Kn1 H1 g1 rfl)⟩
theorem ev_orO {m : Option Bool} (h : (if a = true then some true else m) = some c) (h1 : EV K F Kn0 sl ow ta a) (h2 : ∀ b, a = false → m = some b → EV K F Kn0 sl ow tb b) : EV K F Kn0 sl ow (tOrV ta tb) c := fun σ Kn H s Q q => h1 σ Kn H s _ fun v Kn1 H1 g1 r1 => ⟨a, r1, by
  cases a with
  | false => exact iteF (h2 c rfl h σ Kn1 H1 (s.grow g1) Q fun v Kn2 H2 g2 r2 => q v Kn2 H2 (g1.trans g2) r2)
  | true =>
    cases h
    exact iteT (q _ Kn1 H1 g1 rfl)⟩
theorem ev_andV (h1 : EV K F Kn0 sl ow ta a) (h2 : a = true → EV K F Kn0 sl ow tb b) : EV K F Kn0 sl ow (tAndV ta tb) (a && b) := fun σ Kn H s Q q => h1 σ Kn H s _ fun v Kn1 H1 g1 r1 => ⟨a, r1, by
  cases a with
  | true => exact iteT (h2 rfl σ Kn1 H1 (s.grow g1) Q fun v Kn2 H2 g2 r2 => q v Kn2 H2 (g1.trans g2) r2)
  | false => exact iteF (q _ Kn1 H1 g1 rfl)⟩
theorem ev_orV (h1 : EV K F Kn0 sl ow ta a) (h2 : a = false → EV K F Kn0 sl ow tb b) : EV K F Kn0 sl ow (tOrV ta tb) (a || b) := fun σ Kn H s Q q => h1 σ Kn H s _ fun v Kn1 H1 g1 r1 => ⟨a, r1, by
  cases a with
  | false => exact iteF (h2 rfl σ Kn1 H1 (s.grow g1) Q fun v Kn2 H2 g2 r2 => q v Kn2 H2 (g1.trans g2) r2)
  | true => exact iteT (q _ Kn1 H1 g1 rfl)⟩
theorem ev_notV (h1 : EV K F Kn0 sl ow ta a) : EV K F Kn0 sl ow (tNotV ta) (!a) := fun σ Kn H s Q q => h1 σ Kn H s _ fun v Kn1 H1 g1 r1 => ⟨a, r1, q _ Kn1 H1 g1 rfl⟩
theorem ev_if {x y : α} (h : ET K F Kn0 sl ow t b) (h1 : b = true → EV K F Kn0 sl ow ta x) (h2 : b = false → EV K F Kn0 sl ow tb y) : EV K F Kn0 sl ow (tIf t ta tb) (if b = true then x else y) := fun σ Kn H s Q q => h σ Kn H s _ fun Kn1 H1 g1 => by
  cases b with
  | true => exact iteT (h1 rfl σ Kn1 H1 (s.grow g1) Q fun v Kn2 H2 g2 r2 => q v Kn2 H2 (g1.trans g2) r2)
  | false => exact iteF (h2 rfl σ Kn1 H1 (s.grow g1) Q fun v Kn2 H2 g2 r2 => q v Kn2 H2 (g1.trans g2) r2)
theorem ev_ifO {m n : Option α} {z : α} (hz : (if b = true then m else n) = some z) (h : ET K F Kn0 sl ow t b) (h1 : ∀ x, b = true → m = some x → EV K F Kn0 sl ow ta x) (h2 : ∀ y, b = false → n = some y → EV K F Kn0 sl ow tb y) : EV K F Kn0 sl ow (tIf t ta tb) z := fun σ Kn H s Q q => h σ Kn H s _ fun Kn1 H1 g1 => by
  cases b with
  | true => exact iteT (h1 z rfl hz σ Kn1 H1 (s.grow g1) Q fun v Kn2 H2 g2 r2 => q v Kn2 H2 (g1.trans g2) r2)
  | false => exact iteF (h2 z rfl hz σ Kn1 H1 (s.grow g1) Q fun v Kn2 H2 g2 r2 => q v Kn2 H2 (g1.trans g2) r2)
/-- truth of a list -/
theorem et_truL {xs : List α} (h : EV K F Kn0 sl ow ta xs) : ET K F Kn0 sl ow (fun σ H Q => ta σ H fun x H' => ∃ k, TruV K x H' k ∧ Q k H') (!xs.isEmpty) := fun σ Kn H s Q q => h σ Kn H s _ fun v Kn1 H1 g1 r1 => by
  obtain ⟨p, ws, rfl, h3, h4⟩ := r1
  refine ⟨_, .inl ⟨ws, sq_of (g1.kh _ _ h3), rfl⟩, ?_⟩
  have e : (!ws.isEmpty) = !xs.isEmpty := by
    cases h4 <;> rfl
  rw [e]
  exact q Kn1 H1 g1
end
end Wk
/-! Wk3: calls, statements, loops, comprehensions -/
namespace Wk
open PySem PySem.Spec L2 Evl

/-! ### promises -/
section
variable {α τ : Type} [Rp α] [Tp τ]
/-- a def that changes nothing: it tells f of its arguments -/
def PF (K : Fg) (f : τ → Option α) : Sp := fun vs H Q _ => ∃ Kn t r, Ex Kn H ∧ rept K Kn vs t ∧ f t = some r ∧ RS K Kn H Q r
/-- .. a new list -/
def PL (K : Fg) (f : τ → Option (List α)) : Sp := fun vs H Q _ => ∃ Kn t r, Ex Kn H ∧ rept K Kn vs t ∧ f t = some r ∧ RL K Kn H Q r
/-- its first argument is a list that it changes -/
def PM {β : Type} [Rp β] (K : Fg) (f : List β → τ → Option (α × List β)) : Sp := fun vs H Q _ => ∃ Kn p ws rest t xs r xs', vs = .ref p :: rest ∧ Ex Kn H ∧ Kn p = none ∧ H p = some (.lst ws) ∧ Paired (rep K Kn) ws xs ∧ rept K Kn rest t ∧ f xs t = some (r, xs') ∧
  ∀ v Kn' H' ws', Ex Kn Kn' → Ex Kn' H' → (∀ q, q ≠ p → H q ≠ none → H' q = H q) → (∀ q, H q ≠ none → Kn q = none → Kn' q = none) → H' p = some (.lst ws') → Paired (rep K Kn') ws' xs' → rep K Kn' v r → Q v H'
end
section
variable {K : Fg} {F Kn0 : Hp} {sl sl' : List Sl} {ow ow1 ow2 : List Ow} {α β γ τ : Type} [Rp α] [Rp β] [Rp γ] [Tp τ] {ta : TA} {te : TE} {t : τ} {E : XK}
theorem ev_call {f : τ → Option α} {r : α} (h : EA K F Kn0 sl ow ta t) (hf : f t = some r) : EV K F Kn0 sl ow (tCall (PF K f) [] E ta) r := fun σ Kn H s Q q =>
  h σ Kn H s _ fun vs Kn1 H1 g1 r1 => by
    show PF K f (vs ++ []) H1 Q E
    rw [List.append_nil]
    exact ⟨Kn1, t, r, g1.kh, r1, hf, fun u Kn' H' g' r' => q u Kn' H' (g1.trans g') r'⟩
theorem en_call {f : τ → Option (List α)} {r : List α} (h : EA K F Kn0 sl ow ta t) (hf : f t = some r) : EN K F Kn0 sl ow (tCall (PL K f) [] E ta) r := fun σ Kn H s Q q =>
  h σ Kn H s _ fun vs Kn1 H1 g1 r1 => by
    show PL K f (vs ++ []) H1 Q E
    rw [List.append_nil]
    exact ⟨Kn1, t, r, g1.kh, r1, hf, fun p ws Kn' H' g' hp kp hw r' => q p ws Kn' H' (g1.trans g') (fresh_back g1.hh hp) kp hw r'⟩
theorem em_call {f : τ → Option α} {r : α} (h : EAM K F Kn0 sl ow ta ow1 t) (hf : f t = some r) : EM K F Kn0 sl ow (tCall (PF K f) [] E ta) ow1 r := fun σ Kn H s Q q =>
  h σ Kn H s _ fun vs Kn1 H1 e1 s1 r1 => by
    show PF K f (vs ++ []) H1 Q E
    rw [List.append_nil]
    exact ⟨Kn1, t, r, s1.ek, r1, hf, fun u Kn' H' g' r' => q u Kn' H' (e1.trans g'.kk) (s1.grow g') r'⟩
theorem enm_call {f : τ → Option (List α)} {r : List α} (h : EAM K F Kn0 sl ow ta ow1 t) (hf : f t = some r) : ENM K F Kn0 sl ow (tCall (PL K f) [] E ta) ow1 r := fun σ Kn H s Q q =>
  h σ Kn H s _ fun vs Kn1 H1 e1 s1 r1 => by
    show PL K f (vs ++ []) H1 Q E
    rw [List.append_nil]
    exact ⟨Kn1, t, r, s1.ek, r1, hf, fun p ws Kn' H' g' hp kp hw r' => q p ws Kn' H' (e1.trans g'.kk) (s1.grow g') (fresh_back s1.ef hp) kp (owned_ne s1 hp) hw r'⟩
theorem ow_at {ow : List Ow} (h : (ow.map Ow.ad).Nodup) {i j : Nat} {o u : Ow} (hi : ow[i]? = some o) (hj : ow[j]? = some u) (e : o.ad = u.ad) : i = j := by
  have a1 : (ow.map Ow.ad)[i]? = some o.ad := by rw [List.getElem?_map, hi]; rfl
  have a2 : (ow.map Ow.ad)[j]? = some o.ad := by rw [List.getElem?_map, hj, e]; rfl
  exact nd_ix h a1 a2
/-- the object at place j is another one now, all else as it was -/
theorem S.write {σ : L2.St} {Kn H Kn' H' : Hp} {p : Addr} {xs xs' : List β} {ws : List V} {j : Nat} (s : S K F Kn0 sl ow σ Kn H) (hj : ow[j]? = some (ol p xs)) (kk : Ex Kn Kn') (kh : Ex Kn' H')
    (hq : ∀ q, q ≠ p → H q ≠ none → H' q = H q) (sp : ∀ q, H q ≠ none → Kn q = none → Kn' q = none) (hp : H' p = some (.lst ws)) (r : Paired (rep K Kn') ws xs') : S K F Kn0 sl (ow.set j (ol p xs')) σ Kn' H' := by
  obtain ⟨f1, f2, f3⟩ := s.ow.each _ (List.mem_of_getElem? hj)
  have f1 : F p = none := f1
  have f2 : Kn p = none := f2
  have f4 : H p ≠ none := Ow.there f3
  have jl : j < ow.length := (List.getElem?_eq_some_iff.mp hj).1
  refine ⟨s.e0.trans kk, kh, fun a u h => ?_, fun a h1 h2 => sp a (Ex.nn s.ef h1) (s.sep a h1 h2), s.sl.mono kk, ⟨fun o ho => ?_, ?_⟩⟩
  · have hne : a ≠ p := fun z => by rw [z, f1] at h; cases h
    rw [hq a hne (ne_none_of (s.ef _ _ h))]
    exact s.ef _ _ h
  · obtain ⟨i, hi⟩ := List.getElem?_of_mem ho
    by_cases e : i = j
    · subst e
      rw [List.getElem?_set_self jl] at hi
      cases hi
      exact ⟨f1, sp p f4 f2, ws, hp, r⟩
    · rw [List.getElem?_set_ne (Ne.symm e)] at hi
      obtain ⟨h1, h2, h3⟩ := s.ow.each o (List.mem_of_getElem? hi)
      have h4 := Ow.there h3
      have hne : o.ad ≠ p := fun z => e (ow_at s.ow.nd hi hj z)
      exact ⟨h1, sp _ h4 h2, Ow.ok_mono kk (hq _ hne h4) h3⟩
  · have e : (ow.set j (ol p xs')).map Ow.ad = ow.map Ow.ad := by
      rw [List.map_set]
      refine List.ext_getElem? fun i => ?_
      by_cases e : j = i
      · subst e
        rw [List.getElem?_set_self (by rw [List.length_map]; exact jl), List.getElem?_map, hj]
        rfl
      · rw [List.getElem?_set_ne e]
    rw [e]
    exact s.ow.nd
theorem em_callM {f : List β → τ → Option (α × List β)} {r : α} {i j : Nat} {p : Addr} {xs xs' : List β} (hi : sl[i]? = some (.at p)) (h : EAM K F Kn0 sl ow ta ow1 t) (hj : ow1[j]? = some (ol p xs)) (hf : f xs t = some (r, xs')) :
    EM K F Kn0 sl ow (tCall (PM K f) [] E (tCons (tVar i) ta)) (ow1.set j (ol p xs')) r := fun σ Kn H s Q q => by
  obtain ⟨o, h1, h2⟩ := s.sl.get hi
  refine ⟨.ref p, by rw [h1]; exact congrArg some h2, h σ Kn H s _ fun vs Kn1 H1 e1 s1 r1 => ?_⟩
  show PM K f ((.ref p :: vs) ++ []) H1 Q E
  rw [List.append_nil]
  obtain ⟨f1, f2, ws, f3, f4⟩ := s1.ow.each _ (List.mem_of_getElem? hj)
  exact ⟨Kn1, p, ws, vs, t, xs, r, xs', rfl, s1.ek, f2, f3, f4, r1, hf, fun v Kn' H' ws' kk kh hq sp hp rr rv => q v Kn' H' (e1.trans kk) (s1.write hj kk kh hq sp hp rr) rv⟩
end

/-! ### statements -/
section
variable (K : Fg) (F Kn0 : Hp) (sl : List Sl) (ow : List Ow)
def SN (D : Ends) : Prop := ∀ σ Kn H, S K F Kn0 sl ow σ Kn H → D.nx σ H
def SC (D : Ends) : Prop := ∀ σ Kn H, S K F Kn0 sl ow σ Kn H → D.ct σ H
def SK (D : Ends) : Prop := ∀ σ Kn H, S K F Kn0 sl ow σ Kn H → D.bk σ H
end
section
variable {K : Fg} {F Kn0 : Hp} {sl sl' : List Sl} {ow ow0 ow1 ow2 : List Ow} {α β γ τ : Type} [Rp α] [Rp β] [Rp γ] [Tp τ] {ta tb te : TE} {x : α} {D : Ends} {t u tz : TS} {tt : TT} {b : Bool} {i j : Nat} {p : Addr}
theorem SB.seq (h : SB K F Kn0 sl ow { D with nx := tz D } t) : SB K F Kn0 sl ow D (tSeq t tz) := h
theorem SB.le (h : SB K F Kn0 sl' ow D t) (l : SlLe sl sl') : SB K F Kn0 sl ow D t := fun σ Kn H s => h σ Kn H (s.le l)
theorem SB.sub (h : SB K F Kn0 sl ow1 D t) (l : ow1.Sublist ow) : SB K F Kn0 sl ow D t := fun σ Kn H s => h σ Kn H (s.sub l)
theorem SN.le (h : SN K F Kn0 sl' ow D) (l : SlLe sl sl') : SN K F Kn0 sl ow D := fun σ Kn H s => h σ Kn H (s.le l)
theorem SN.sub (h : SN K F Kn0 sl ow1 D) (l : ow1.Sublist ow) : SN K F Kn0 sl ow D := fun σ Kn H s => h σ Kn H (s.sub l)
theorem EN.le {xs : List α} (h : EN K F Kn0 sl' ow te xs) (l : SlLe sl sl') : EN K F Kn0 sl ow te xs := fun σ Kn H s => h σ Kn H (s.le l)
theorem EV.le (h : EV K F Kn0 sl' ow te x) (l : SlLe sl sl') : EV K F Kn0 sl ow te x := fun σ Kn H s => h σ Kn H (s.le l)
theorem sb_nx (k : SN K F Kn0 sl ow D) : SB K F Kn0 sl ow D tNext := k
theorem sb_ct (k : SC K F Kn0 sl ow D) : SB K F Kn0 sl ow D tCont := k
theorem sb_bk (k : SK K F Kn0 sl ow D) : SB K F Kn0 sl ow D tBreak := k
theorem sb_asg (hs : sl.set i (sv x) = sl') (h : EV K F Kn0 sl ow te x) (k : SN K F Kn0 sl' ow D) : SB K F Kn0 sl ow D (tAsg te (gName i)) := fun σ Kn H s =>
  h σ Kn H s _ fun v Kn1 H1 g1 r1 => k _ Kn1 H1 (hs ▸ (s.grow g1).setv i r1)
theorem sb_asgM (hs : sl.set i (sv x) = sl') (h : EM K F Kn0 sl ow te ow1 x) (k : SN K F Kn0 sl' ow1 D) : SB K F Kn0 sl ow D (tAsg te (gName i)) := fun σ Kn H s =>
  h σ Kn H s _ fun v Kn1 H1 e1 s1 r1 => k _ Kn1 H1 (hs ▸ s1.setv i r1)
/-- a new object is one's own -/
theorem S.own {σ : L2.St} {Kn H : Hp} {xs : List α} {ws : List V} (s : S K F Kn0 sl ow σ Kn H) (fp : F p = none) (kp : Kn p = none) (no : ∀ o ∈ ow, o.ad ≠ p) (hp : H p = some (.lst ws)) (r : Paired (rep K Kn) ws xs) : S K F Kn0 sl (ol p xs :: ow) σ Kn H :=
  ⟨s.e0, s.ek, s.ef, s.sep, s.sl, ⟨fun o ho => by
    rcases List.mem_cons.mp ho with rfl | ho
    · exact ⟨fp, kp, ws, hp, r⟩
    · exact s.ow.each o ho, List.nodup_cons.mpr ⟨fun h => by
      obtain ⟨o, ho, e⟩ := List.mem_map.mp h
      exact no o ho e, s.ow.nd⟩⟩⟩
theorem S.seta {σ : L2.St} {Kn H : Hp} (s : S K F Kn0 sl ow σ Kn H) (i : Nat) : S K F Kn0 (sl.set i (.at p)) ow (σ.set i (some (.ref p))) Kn H := s.set i rfl
theorem sb_asgO {xs : List α} {sl' : Addr → List Sl} (hs : ∀ p, sl.set i (.at p) = sl' p) (h : EN K F Kn0 sl ow te xs) (k : ∀ p, SN K F Kn0 (sl' p) (ol p xs :: ow) D) : SB K F Kn0 sl ow D (tAsg te (gName i)) := fun σ Kn H s =>
  h σ Kn H s _ fun p ws Kn1 H1 g1 hp kp hw r1 => k p _ Kn1 H1 (hs p ▸ ((s.grow g1).own (fresh_back s.ef hp) kp (owned_ne s hp) hw r1).seta i)
theorem sb_asgOM {xs : List α} {sl' : Addr → List Sl} (hs : ∀ p, sl.set i (.at p) = sl' p) (h : ENM K F Kn0 sl ow te ow1 xs) (k : ∀ p, SN K F Kn0 (sl' p) (ol p xs :: ow1) D) : SB K F Kn0 sl ow D (tAsg te (gName i)) := fun σ Kn H s =>
  h σ Kn H s _ fun p ws Kn1 H1 e1 s1 fp kp no hw r1 => k p _ Kn1 H1 (hs p ▸ (s1.own fp kp no hw r1).seta i)
theorem sb_aug {a c : Int} {f : Int → Int → Int} (hi : sl[i]? = some (sv a)) (hs : sl.set i (sv (f a c)) = sl') (h : EV K F Kn0 sl ow te c) (k : SN K F Kn0 sl' ow D) : SB K F Kn0 sl ow D (tAug i te (ipI f)) := fun σ Kn H s => by
  obtain ⟨o, h1, v, h2, h3⟩ := s.sl.get hi
  cases h3
  exact ⟨.int a, by rw [h1, h2], h σ Kn H s _ fun v Kn1 H1 g1 r1 => ⟨a, c, rfl, r1, k _ Kn1 H1 (hs ▸ (s.grow g1).setv (x := f a c) i rfl)⟩⟩
theorem sb_drop (h : EV K F Kn0 sl ow te x) (k : SN K F Kn0 sl ow D) : SB K F Kn0 sl ow D (tDrop te) := fun σ Kn H s => h σ Kn H s _ fun v Kn1 H1 g1 r1 => k _ Kn1 H1 (s.grow g1)
theorem sb_dropM (h : EM K F Kn0 sl ow te ow1 x) (k : SN K F Kn0 sl ow1 D) : SB K F Kn0 sl ow D (tDrop te) := fun σ Kn H s => h σ Kn H s _ fun v Kn1 H1 e1 s1 r1 => k _ Kn1 H1 s1
theorem upd_in {Kn H : Hp} {o : HO} (ek : Ex Kn H) (kp : Kn p = none) : Ex Kn (upd H p o) := fun a u h => by
  have hq : a ≠ p := fun z => by rw [z, kp] at h; cases h
  rw [upd_ne hq]
  exact ek _ _ h
/-- found.append(e) -/
theorem sb_app {xs : List α} (hi : sl[i]? = some (.at p)) (hj : ow[j]? = some (ol p xs)) (h : EV K F Kn0 sl ow te x) (hz : xs.length < 1000000) (k : SN K F Kn0 sl (ow.set j (ol p (xs ++ [x]))) D) :
    SB K F Kn0 sl ow D (tDrop (tBM K "list" rAppend (tVar i) (tCons te tNil))) := fun σ Kn H s => by
  obtain ⟨o, h1, h2⟩ := s.sl.get hi
  obtain ⟨f1, f2, ws, f3, f4⟩ := s.ow.each _ (List.mem_of_getElem? hj)
  refine ⟨.ref p, by rw [h1]; exact congrArg some h2, Or.inl ⟨rfl, ws, sq_of f3⟩, h σ Kn H s _ fun v Kn1 H1 g1 r1 => ?_⟩
  refine ⟨p, ws, v, rfl, rfl, g1.hh _ _ f3, by rw [paired_len f4]; exact lt_line hz, k _ Kn1 _ ?_⟩
  have kp1 : Kn1 p = none := g1.sp p (ne_none_of f3) f2
  exact (s.grow g1).write hj (Ex.refl _) (upd_in g1.kh kp1) (fun q hq _ => upd_ne hq) (fun _ _ h => h) upd_same (paired_append (paired_mono g1.kk f4) (.cons r1 .nil))
theorem sb_appM {xs : List α} (hi : sl[i]? = some (.at p)) (hi0 : ow[j]? = some (ol p xs)) (h : EM K F Kn0 sl ow te ow1 x) (hj : ow1[j]? = some (ol p xs)) (hz : xs.length < 1000000) (k : SN K F Kn0 sl (ow1.set j (ol p (xs ++ [x]))) D) :
    SB K F Kn0 sl ow D (tDrop (tBM K "list" rAppend (tVar i) (tCons te tNil))) := fun σ Kn H s => by
  obtain ⟨o, h1, h2⟩ := s.sl.get hi
  obtain ⟨_, _, ws0, f0, _⟩ := s.ow.each _ (List.mem_of_getElem? hi0)
  refine ⟨.ref p, by rw [h1]; exact congrArg some h2, Or.inl ⟨rfl, ws0, sq_of f0⟩, h σ Kn H s _ fun v Kn1 H1 e1 s1 r1 => ?_⟩
  obtain ⟨f1, f2, ws, f3, f4⟩ := s1.ow.each _ (List.mem_of_getElem? hj)
  refine ⟨p, ws, v, rfl, rfl, f3, by rw [paired_len f4]; exact lt_line hz, k _ Kn1 _ ?_⟩
  exact s1.write hj (Ex.refl _) (upd_in s1.ek f2) (fun q hq _ => upd_ne hq) (fun _ _ h => h) upd_same (paired_append f4 (.cons r1 .nil))
/-- the place of a written index -/
def setI {α : Type} (xs : List α) (i : Int) (x : α) : Option (List α) := (ixN xs.length i).map fun j => xs.set j x
/-- found[e] = x -/
theorem sb_setI {xs xs' : List α} {n : Int} (hi : sl[i]? = some (.at p)) (hj : ow[j]? = some (ol p xs)) (h : EV K F Kn0 sl ow te x) (hn : EV K F Kn0 sl ow tb n) (hx : setI xs n x = some xs') (k : SN K F Kn0 sl (ow.set j (ol p xs')) D) :
    SB K F Kn0 sl ow D (tAsg te (gSub (tVar i) tb rSetL)) := fun σ Kn H s => h σ Kn H s _ fun v Kn1 H1 g1 r1 => by
  obtain ⟨o, h1, h2⟩ := s.sl.get hi
  refine ⟨.ref p, by rw [h1]; exact congrArg some h2, hn σ Kn1 H1 (s.grow g1) _ fun w Kn2 H2 g2 r2 => ?_⟩
  have s2 := (s.grow g1).grow g2
  obtain ⟨f1, f2, ws, f3, f4⟩ := s2.ow.each _ (List.mem_of_getElem? hj)
  unfold setI at hx
  cases e : ixN xs.length n with
  | none => rw [e] at hx; cases hx
  | some m =>
    rw [e] at hx
    cases hx
    cases r2
    refine ⟨p, ws, n, m, rfl, rfl, f3, by rw [paired_len f4]; exact e, k _ Kn2 _ ?_⟩
    exact s2.write hj (Ex.refl _) (upd_in g2.kh f2) (fun q hq _ => upd_ne hq) (fun _ _ h => h) upd_same (paired_set (Rp.mono g2.kk r1) m f4)
/-- from now on it is known and stays as it is -/
theorem sb_freeze {xs : List α} (hi : sl[i]? = some (.at p)) (hj : ow[j]? = some (ol p xs)) (hs : sl.set i (sv xs) = sl') (ho : ow.eraseIdx j = ow1) (k : SB K F Kn0 sl' ow1 D t) : SB K F Kn0 sl ow D t := fun σ Kn H s => by
  obtain ⟨o, h1, h2⟩ := s.sl.get hi
  have h2 : o = some (.ref p) := h2
  obtain ⟨f1, f2, ws, f3, f4⟩ := s.ow.each _ (List.mem_of_getElem? hj)
  have hsub : ow1.Sublist ow := ho ▸ List.eraseIdx_sublist ow j
  have s1 := s.sub hsub
  have no : ∀ o ∈ ow1, o.ad ≠ p := fun o hm z => by
    have hnd := s.ow.nd
    subst ho
    obtain ⟨m, hm'⟩ := List.getElem?_of_mem hm
    rw [List.getElem?_eraseIdx] at hm'
    split at hm'
    · rename_i hlt
      have := ow_at hnd hm' hj z
      omega
    · rename_i hge
      have := ow_at hnd hm' hj z
      omega
  have s2 := s1.know (o := .lst ws) f1 f2 no f3
  have hσ : σ.set i o = σ := by
    refine List.ext_getElem? fun m => ?_
    by_cases e : i = m
    · subst e
      rw [List.getElem?_set_self (List.getElem?_eq_some_iff.mp h1).1, h1]
    · rw [List.getElem?_set_ne e]
  have s3 := s2.set (x := sv xs) (o := o) i ⟨.ref p, h2, p, ws, rfl, upd_same, paired_mono (Ex.new f2) f4⟩
  rw [hs, hσ] at s3
  exact k σ _ H s3
theorem sb_if (h : ET K F Kn0 sl ow tt b) (h1 : b = true → SB K F Kn0 sl ow D t) (h2 : b = false → SB K F Kn0 sl ow D u) : SB K F Kn0 sl ow D (tIfS tt t u) := fun σ Kn H s => h σ Kn H s _ fun Kn1 H1 g1 => by
  cases b with
  | true => exact iteT (h1 rfl σ Kn1 H1 (s.grow g1))
  | false => exact iteF (h2 rfl σ Kn1 H1 (s.grow g1))
theorem sb_cut (h : SB K F Kn0 sl ow { D with nx := fun σ H => ∃ Kn, S K F Kn0 sl' ow1 σ Kn H } t) (k : SB K F Kn0 sl' ow1 D tz) : SB K F Kn0 sl ow D (tCut t tz) := fun σ Kn H s => ⟨_, h σ Kn H s, fun σ' H' ⟨Kn', s'⟩ => k σ' Kn' H' s'⟩
theorem sn_mid (l : SlLe sl sl') (l2 : ow1.Sublist ow) : SN K F Kn0 sl ow { D with nx := fun σ H => ∃ Kn, S K F Kn0 sl' ow1 σ Kn H } := fun σ Kn H s => ⟨Kn, (s.le l).sub l2⟩
/-- returns -/
theorem sb_ret {R : VK} (h : EV K F Kn0 sl ow te x) (q : RT K F Kn0 ow0 R x) (l : ow0.Sublist ow) (hR : D.rt = R := by rfl) : SB K F Kn0 sl ow D (tRet te) := fun σ Kn H s => by
  subst hR
  exact h σ Kn H s _ fun v Kn1 H1 g1 r1 => q v Kn1 H1 ((s.grow g1).sub l).fin r1
theorem sb_retM {R : VK} (h : EM K F Kn0 sl ow te ow1 x) (q : RT K F Kn0 ow0 R x) (l : ow0.Sublist ow1) (hR : D.rt = R := by rfl) : SB K F Kn0 sl ow D (tRet te) := fun σ Kn H s => by
  subst hR
  exact h σ Kn H s _ fun v Kn1 H1 e1 s1 r1 => q v Kn1 H1 (s1.sub l).fin r1
theorem sb_retL {R : VK} {xs : List α} (h : EN K F Kn0 sl ow te xs) (q : RN K F Kn0 ow0 R xs) (l : ow0.Sublist ow) (hR : D.rt = R := by rfl) : SB K F Kn0 sl ow D (tRet te) := fun σ Kn H s => by
  subst hR
  exact h σ Kn H s _ fun p ws Kn1 H1 g1 hp kp hw r1 => q p ws Kn1 H1 ((s.grow g1).sub l).fin (fresh_back s.ef hp) kp hw r1
/-- a list of one's own is told -/
theorem sb_retO {R : VK} {xs : List α} (hi : sl[i]? = some (.at p)) (hj : ow[j]? = some (ol p xs)) (q : RN K F Kn0 ow0 R xs) (l : ow0.Sublist ow) (hR : D.rt = R := by rfl) : SB K F Kn0 sl ow D (tRet (tVar i)) := fun σ Kn H s => by
  subst hR
  obtain ⟨o, h1, h2⟩ := s.sl.get hi
  obtain ⟨f1, f2, ws, f3, f4⟩ := s.ow.each _ (List.mem_of_getElem? hj)
  exact ⟨.ref p, by rw [h1]; exact congrArg some h2, q p ws Kn H (s.sub l).fin f1 f2 f3 f4⟩
theorem SB.seqB (h : (∀ sl' ow', SB K F Kn0 sl' ow' D tz → SN K F Kn0 sl' ow' { D with nx := tz D }) → SB K F Kn0 sl ow { D with nx := tz D } t) : SB K F Kn0 sl ow D (tSeq t tz) := h fun _ _ k => k
theorem SB.cutB (h : (∀ sl2 ow2, SlLe sl2 sl' → ow1.Sublist ow2 → SN K F Kn0 sl2 ow2 { D with nx := fun σ H => ∃ Kn, S K F Kn0 sl' ow1 σ Kn H }) → SB K F Kn0 sl ow { D with nx := fun σ H => ∃ Kn, S K F Kn0 sl' ow1 σ Kn H } t) (k : SB K F Kn0 sl' ow1 D tz) : SB K F Kn0 sl ow D (tCut t tz) :=
  sb_cut (h fun _ _ l l2 => sn_mid l l2) k
end

/-! ### targets -/
section
variable {α β τ : Type} [Rp α] [Rp β] [Tp τ] {sl sl' sl2 : List Sl} {K : Fg}
theorem wipe_set : ∀ {vs : List Nat} {i : Nat} {o : Option V} {σ : L2.St}, i ∈ vs → wipe (σ.set i o) vs = wipe σ vs
  | v :: vs, i, o, σ, h => by
    by_cases e : i ∈ vs
    · unfold wipe
      rw [wipe_set e]
    · have hv : i = v := (List.mem_cons.mp h).resolve_right e
      subst hv
      have w : ∀ (vs : List Nat) (σ : L2.St), i ∉ vs → wipe (σ.set i o) vs = (wipe σ vs).set i o := by
        intro vs
        induction vs with
        | nil => intro σ _; rfl
        | cons a r ih =>
          intro σ hn
          show (wipe (σ.set i o) r).set a none = ((wipe σ r).set a none).set i o
          rw [ih σ (fun z => hn (List.mem_cons_of_mem _ z)), List.set_comm]
          exact fun z => hn (by rw [z]; exact List.mem_cons_self)
      show (wipe (σ.set i o) vs).set i none = (wipe σ vs).set i none
      rw [w vs σ e, List.set_set]
def GT (K : Fg) (g : TG) (sl sl' : List Sl) (js : List Nat) (x : α) : Prop := ∀ σ Kn H v, SlsOk K Kn sl σ → Ex Kn H → rep K Kn v x → ∀ Q : L2.St → Hp → Prop, (∀ σ', SlsOk K Kn sl' σ' → (∀ vs, (∀ j ∈ js, j ∈ vs) → wipe σ' vs = wipe σ vs) → Q σ' H) → g v σ H Q
def GTs (K : Fg) (g : TGs) (sl sl' : List Sl) (js : List Nat) (t : τ) : Prop := ∀ σ Kn H vs, SlsOk K Kn sl σ → Ex Kn H → rept K Kn vs t → ∀ Q : L2.St → Hp → Prop, (∀ σ', SlsOk K Kn sl' σ' → (∀ vs, (∀ j ∈ js, j ∈ vs) → wipe σ' vs = wipe σ vs) → Q σ' H) → g vs σ H Q
theorem gt_name {i : Nat} {x : α} (hs : sl.set i (sv x) = sl') : GT K (gName i) sl sl' [i] x := fun σ Kn H v s ek r Q q => q _ (hs ▸ SlsOk.set (s := sv x) ⟨v, rfl, r⟩ i s) fun vs h => wipe_set (h i (by simp))
theorem gts_nil : GTs K gNil sl sl [] () := fun σ Kn H vs s ek r Q q => ⟨r, q σ s fun _ _ => rfl⟩
theorem gts_cons {g : TG} {gs : TGs} {js ks : List Nat} {x : α} {t : τ} (h1 : GT K g sl sl' js x) (h2 : GTs K gs sl' sl2 ks t) : GTs K (gCons g gs) sl sl2 (js ++ ks) (x, t) := fun σ Kn H vs s ek r Q q => by
  obtain ⟨v, rest, rfl, r1, r2⟩ := r
  exact ⟨v, rest, rfl, h1 σ Kn H v s ek r1 _ fun σ1 s1 w1 => h2 σ1 Kn H rest s1 ek r2 _ fun σ2 s2 w2 => q σ2 s2 fun vs h => (w2 vs fun j hj => h j (List.mem_append_right _ hj)).trans (w1 vs fun j hj => h j (List.mem_append_left _ hj))⟩
theorem gt_tup {gs : TGs} {js : List Nat} {n : Nat} {t : α × τ} (h : GTs K gs sl sl' js t) (hn : Tp.n (α × τ) = n := by rfl) : GT K (gTup K n gs) sl sl' js t := fun σ Kn H v s ek r Q q => by
  obtain ⟨p, ws, rfl, h1, h2⟩ := r
  exact ⟨p, ws, rfl, st_of (ek _ _ h1), (Tp.len h2).trans hn, h σ Kn H ws s ek h2 Q q⟩
end
section
variable {K : Fg} {F Kn0 : Hp} {sl sl' : List Sl} {ow ow1 : List Ow} {α : Type} [Rp α] {te : TE} {x : α} {D : Ends} {g : TG} {js : List Nat}
/-- a, b = e -/
theorem sb_unp (h : EV K F Kn0 sl ow te x) (hg : GT K g sl sl' js x) (k : SN K F Kn0 sl' ow D) : SB K F Kn0 sl ow D (tAsg te g) := fun σ Kn H s =>
  h σ Kn H s _ fun v Kn1 H1 g1 r1 => by
    have s1 := s.grow g1
    exact hg σ Kn1 H1 v s1.sl s1.ek r1 _ fun σ' h' _ => k σ' Kn1 H1 ⟨s1.e0, s1.ek, s1.ef, s1.sep, h', s1.ow⟩
theorem sb_unpM (h : EM K F Kn0 sl ow te ow1 x) (hg : GT K g sl sl' js x) (k : SN K F Kn0 sl' ow1 D) : SB K F Kn0 sl ow D (tAsg te g) := fun σ Kn H s =>
  h σ Kn H s _ fun v Kn1 H1 e1 s1 r1 => hg σ Kn1 H1 v s1.sl s1.ek r1 _ fun σ' h' _ => k σ' Kn1 H1 ⟨s1.e0, s1.ek, s1.ef, s1.sep, h', s1.ow⟩
/-- a, b = e1, e2 -/
theorem sb_par {α β : Type} [Rp α] [Rp β] {ta : TA} {i j : Nat} {x : α} {y : β} (hs : (sl.set i (sv x)).set j (sv y) = sl') (h : EA K F Kn0 sl ow ta (x, y, ())) (k : SN K F Kn0 sl' ow D) : SB K F Kn0 sl ow D (tPar i j ta) := fun σ Kn H s =>
  h σ Kn H s _ fun vs Kn1 H1 g1 r1 => by
    obtain ⟨v, w, rfl, h1, h2⟩ := two_args r1
    exact ⟨v, w, rfl, k _ Kn1 H1 (hs ▸ ((s.grow g1).setv i h1).setv j h2)⟩
end

/-! ### what is walked -/
def WK {β : Type} [Rp β] (K : Fg) (Kn1 : Hp) (J : It) (xs : List β) : Prop := ∀ i Kn' H', Ex Kn1 Kn' → Ex Kn' H' →
  (∀ x, xs[i]? = some x → J.go i H' ∧ ∀ v H2, J.yld i H' v H2 → ∃ Kn2, Gr Kn' H' Kn2 H2 ∧ rep K Kn2 v x) ∧ (xs.length ≤ i → J.stop i H')
section
variable (K : Fg) (F Kn0 : Hp) (sl : List Sl) (ow : List Ow)
def IT {β : Type} [Rp β] (wi : TI) (xs : List β) : Prop := ∀ σ Kn H, S K F Kn0 sl ow σ Kn H → ∀ R : It → Hp → Prop, (∀ J Kn1 H1, Gr Kn H Kn1 H1 → WK K Kn1 J xs → R J H1) → wi σ H R
def ITM {β : Type} [Rp β] (wi : TI) (ow' : List Ow) (xs : List β) : Prop := ∀ σ Kn H, S K F Kn0 sl ow σ Kn H → ∀ R : It → Hp → Prop, (∀ J Kn1 H1, Ex Kn Kn1 → S K F Kn0 sl ow' σ Kn1 H1 → WK K Kn1 J xs → R J H1) → wi σ H R
end
/-- lo, lo + 1 .. below hi -/
def irange (lo hi : Int) : List Int := (List.range (hi - lo).toNat).map fun (k : Nat) => lo + (k : Int)
def rngO (lo hi : Int) : Option (List Int) := if -1000000000000 ≤ lo ∧ lo ≤ 1000000000000 ∧ -1000000000000 ≤ hi ∧ hi ≤ 1000000000000 then some (irange lo hi) else none
def enumI {α : Type} (xs : List α) : List (Int × α × Unit) := xs.mapIdx fun i x => ((i : Int), x, ())
def zipI {α β : Type} (xs : List α) (ys : List β) : List (α × β × Unit) := List.zipWith (fun a b => (a, b, ())) xs ys
section
variable {K : Fg} {F Kn0 : Hp} {sl sl' : List Sl} {ow ow1 : List Ow} {α β : Type} [Rp α] [Rp β] {te : TE} {ta : TA}
theorem IT.m {wi : TI} {xs : List β} (h : IT K F Kn0 sl ow wi xs) : ITM K F Kn0 sl ow wi ow xs := fun σ Kn H s R q => h σ Kn H s R fun J Kn1 H1 g w => q J Kn1 H1 g.kk (s.grow g) w
theorem wk_list {Kn1 : Hp} {p : Addr} {ws : List V} {xs : List α} (h : SqL K Kn1 p ws) (r : Paired (rep K Kn1) ws xs) : WK K Kn1 (Itl K p) xs := fun i Kn' H' e1 e2 => by
  have hq : SqL K H' p ws := ex_l (e1.trans e2) h
  refine ⟨fun x hx => ?_, fun hl => ⟨ws, hq, by rw [paired_len r]; exact hl⟩⟩
  obtain ⟨v, hv, rv⟩ := paired_at r hx
  refine ⟨⟨ws, v, hq, hv⟩, fun u H2 hy => ?_⟩
  obtain ⟨rfl, f⟩ := hy
  have : v = u := Option.some.inj (hv.symm.trans (f ws hq))
  subst this
  exact ⟨Kn', Gr.refl e2, Rp.mono e1 rv⟩
theorem it_list {xs : List α} (h : EV K F Kn0 sl ow te xs) : IT K F Kn0 sl ow (iList K te) xs := fun σ Kn H s R q => h σ Kn H s _ fun v Kn1 H1 g1 r1 => by
  obtain ⟨p, ws, rfl, h3, h4⟩ := r1
  exact ⟨p, rfl, ⟨ws, sq_of (g1.kh _ _ h3)⟩, q _ Kn1 H1 g1 (wk_list (sq_of h3) h4)⟩
theorem it_listF {xs : Fz α} (h : EV K F Kn0 sl ow te xs) : IT K F Kn0 sl ow (iList K te) xs.l := fun σ Kn H s R q => h σ Kn H s _ fun v Kn1 H1 g1 r1 => by
  obtain ⟨p, ws, rfl, h3, h4⟩ := r1
  exact ⟨p, rfl, ⟨ws, ex_l g1.kh h3⟩, q _ Kn1 H1 g1 (wk_list h3 h4)⟩
theorem itm_list {xs : List α} (h : ENM K F Kn0 sl ow te ow1 xs) : ITM K F Kn0 sl ow (iList K te) ow1 xs := fun σ Kn H s R q => h σ Kn H s _ fun p ws Kn1 H1 e1 s1 fp kp no hw r1 => by
  have s2 := s1.know (o := .lst ws) fp kp no hw
  exact ⟨p, rfl, ⟨ws, sq_of hw⟩, q _ _ H1 (e1.trans (Ex.new kp)) s2 (wk_list (sq_of upd_same) (paired_mono (Ex.new kp) r1))⟩
theorem it_tup {xs : Tu α} (h : EV K F Kn0 sl ow te xs) : IT K F Kn0 sl ow (iTup K te) xs.l := fun σ Kn H s R q => h σ Kn H s _ fun v Kn1 H1 g1 r1 => by
  obtain ⟨p, ws, rfl, h3, h4⟩ := r1
  refine ⟨p, rfl, ⟨ws, st_of (g1.kh _ _ h3)⟩, q _ Kn1 H1 g1 fun i Kn' H' e1 e2 => ?_⟩
  have hq : SqT K H' p ws := st_of ((e1.trans e2) _ _ h3)
  refine ⟨fun x hx => ?_, fun hl => ⟨ws, hq, by rw [paired_len h4]; exact hl⟩⟩
  obtain ⟨v, hv, rv⟩ := paired_at h4 hx
  refine ⟨⟨ws, v, hq, hv⟩, fun u H2 hy => ?_⟩
  obtain ⟨rfl, f⟩ := hy
  have : v = u := Option.some.inj (hv.symm.trans (f ws hq))
  subst this
  exact ⟨Kn', Gr.refl e2, Rp.mono e1 rv⟩
theorem wk_range {Kn1 : Hp} (lo hi : Int) : WK K Kn1 (Itr lo (hi - lo).toNat) (irange lo hi) := fun i Kn' H' e1 e2 => by
  refine ⟨fun x hx => ?_, fun hl => ?_⟩
  · unfold irange at hx
    rw [List.getElem?_map] at hx
    cases q : (List.range (hi - lo).toNat)[i]? with
    | none => rw [q] at hx; cases hx
    | some m =>
      rw [q] at hx
      obtain ⟨hlt, he⟩ := List.getElem?_eq_some_iff.mp q
      rw [List.getElem_range] at he
      rw [List.length_range] at hlt
      subst he
      cases hx
      refine ⟨hlt, fun v H2 hy => ?_⟩
      obtain ⟨rfl, rfl⟩ := hy
      exact ⟨Kn', Gr.refl e2, rfl⟩
  · unfold irange at hl
    rw [List.length_map, List.length_range] at hl
    exact hl
theorem it_rng1 {n : Int} {xs : List Int} (h : EA K F Kn0 sl ow ta (n, ())) (hx : rngO 0 n = some xs) : IT K F Kn0 sl ow (iRng1 ta) xs := fun σ Kn H s R q => h σ Kn H s _ fun vs Kn1 H1 g1 r1 => by
  obtain ⟨v, rfl, h1⟩ := one_arg r1
  cases h1
  unfold rngO at hx
  split at hx
  · rename_i hb
    cases hx
    refine ⟨n, rfl, by omega, by omega, q _ Kn1 H1 g1 ?_⟩
    have w := wk_range (K := K) (Kn1 := Kn1) 0 n
    rw [Int.sub_zero] at w
    exact w
  · cases hx
theorem itm_rng1 {n : Int} {xs : List Int} (h : EAM K F Kn0 sl ow ta ow1 (n, ())) (hx : rngO 0 n = some xs) : ITM K F Kn0 sl ow (iRng1 ta) ow1 xs := fun σ Kn H s R q => h σ Kn H s _ fun vs Kn1 H1 e1 s1 r1 => by
  obtain ⟨v, rfl, h1⟩ := one_arg r1
  cases h1
  unfold rngO at hx
  split at hx
  · rename_i hb
    cases hx
    refine ⟨n, rfl, by omega, by omega, q _ Kn1 H1 e1 s1 ?_⟩
    have w := wk_range (K := K) (Kn1 := Kn1) 0 n
    rw [Int.sub_zero] at w
    exact w
  · cases hx
theorem it_rng2 {lo n : Int} {xs : List Int} (h : EA K F Kn0 sl ow ta (lo, n, ())) (hx : rngO lo n = some xs) : IT K F Kn0 sl ow (iRng2 ta) xs := fun σ Kn H s R q => h σ Kn H s _ fun vs Kn1 H1 g1 r1 => by
  obtain ⟨v, w, rfl, h1, h2⟩ := two_args r1
  cases h1
  cases h2
  unfold rngO at hx
  split at hx
  · rename_i hb
    cases hx
    exact ⟨lo, n, rfl, ⟨by omega, by omega, by omega, by omega⟩, q _ Kn1 H1 g1 (wk_range lo n)⟩
  · cases hx
theorem enum_get {xs : List α} {i : Nat} {y : Int × α × Unit} (h : (enumI xs)[i]? = some y) : ∃ x, xs[i]? = some x ∧ y = ((i : Int), x, ()) := by
  unfold enumI at h
  rw [List.getElem?_mapIdx] at h
  cases q : xs[i]? with
  | none => rw [q] at h; cases h
  | some x => rw [q] at h; cases h; exact ⟨x, rfl, rfl⟩
theorem wk_enum {Kn1 : Hp} {p : Addr} {ws : List V} {xs : List α} (h : SqL K Kn1 p ws) (r : Paired (rep K Kn1) ws xs) : WK K Kn1 (Ite K p) (enumI xs) := fun i Kn' H' e1 e2 => by
  have hq : SqL K H' p ws := ex_l (e1.trans e2) h
  refine ⟨fun y hy => ?_, fun hl => ⟨ws, hq, by rw [paired_len r]; simpa [enumI] using hl⟩⟩
  obtain ⟨x, hx, rfl⟩ := enum_get hy
  obtain ⟨v, hv, rv⟩ := paired_at r hx
  refine ⟨⟨ws, v, hq, hv⟩, fun u H2 hy => ?_⟩
  obtain ⟨T, z, rfl, hT, rfl, f⟩ := hy
  have : v = z := Option.some.inj (hv.symm.trans (f ws hq))
  subst this
  have g : Gr Kn' H' (upd Kn' T (.tup [.int (i : Nat), v])) (upd H' T (.tup [.int (i : Nat), v])) := Gr.new e2 hT
  exact ⟨_, g, T, _, rfl, upd_same, .int (i : Nat), [v], rfl, rfl, v, [], rfl, Rp.mono (e1.trans g.kk) rv, rfl⟩
theorem it_enum {xs : List α} (h : EA K F Kn0 sl ow ta (xs, ())) : IT K F Kn0 sl ow (iEnum K ta) (enumI xs) := fun σ Kn H s R q => h σ Kn H s _ fun vs Kn1 H1 g1 r1 => by
  obtain ⟨v, rfl, p, ws, rfl, h3, h4⟩ := one_arg r1
  exact ⟨p, ws, rfl, sq_of (g1.kh _ _ h3), q _ Kn1 H1 g1 (wk_enum (sq_of h3) h4)⟩
theorem zip_get {xs : List α} {ys : List β} {i : Nat} {z : α × β × Unit} (h : (zipI xs ys)[i]? = some z) : ∃ x y, xs[i]? = some x ∧ ys[i]? = some y ∧ z = (x, y, ()) := by
  unfold zipI at h
  rw [List.getElem?_zipWith] at h
  cases q : xs[i]? with
  | none => rw [q] at h; simp at h
  | some x =>
    cases q2 : ys[i]? with
    | none => rw [q, q2] at h; simp at h
    | some y =>
      rw [q, q2] at h
      simp at h
      exact ⟨x, y, rfl, rfl, h.symm⟩
theorem it_zip {xs : List α} {ys : List β} (h : EA K F Kn0 sl ow ta (xs, ys, ())) : IT K F Kn0 sl ow (iZip K ta) (zipI xs ys) := fun σ Kn H s R q => h σ Kn H s _ fun vs Kn1 H1 g1 r1 => by
  obtain ⟨v, w, rfl, ⟨p, ws, rfl, h3, h4⟩, ⟨p2, ws2, rfl, h5, h6⟩⟩ := two_args r1
  refine ⟨p, p2, ws, ws2, rfl, sq_of (g1.kh _ _ h3), sq_of (g1.kh _ _ h5), q _ Kn1 H1 g1 fun i Kn' H' e1 e2 => ?_⟩
  have hq : SqL K H' p ws := sq_of ((e1.trans e2) _ _ h3)
  have hq2 : SqL K H' p2 ws2 := sq_of ((e1.trans e2) _ _ h5)
  refine ⟨fun y hy => ?_, fun hl => ⟨ws, ws2, hq, hq2, ?_⟩⟩
  · obtain ⟨x, y, hx, hy2, rfl⟩ := zip_get hy
    obtain ⟨v, hv, rv⟩ := paired_at h4 hx
    obtain ⟨v2, hv2, rv2⟩ := paired_at h6 hy2
    refine ⟨⟨ws, ws2, v, v2, hq, hq2, hv, hv2⟩, fun u H2 hy => ?_⟩
    obtain ⟨T, z, z2, rfl, hT, rfl, f, f2⟩ := hy
    have e3 : v = z := Option.some.inj (hv.symm.trans (f ws hq))
    have e4 : v2 = z2 := Option.some.inj (hv2.symm.trans (f2 ws2 hq2))
    subst e3
    subst e4
    have g : Gr Kn' H' (upd Kn' T (.tup [v, v2])) (upd H' T (.tup [v, v2])) := Gr.new e2 hT
    exact ⟨_, g, T, _, rfl, upd_same, v, [v2], rfl, Rp.mono (e1.trans g.kk) rv, v2, [], rfl, Rp.mono (e1.trans g.kk) rv2, rfl⟩
  · rw [paired_len h4, paired_len h6]
    simp [zipI] at hl
    omega
end

/-! ### loops -/
structure Bs (F Kn0 Kn1 : Hp) : Prop where
  e : Ex Kn0 Kn1
  sp : ∀ p, F p ≠ none → Kn0 p = none → Kn1 p = none
section
variable {K : Fg} {F Kn0 Kn1 : Hp} {sl sl' : List Sl} {ow ow0 ow1 : List Ow} {α β γ : Type} [Rp α] [Rp β] [Rp γ] {D : Ends} {σ : L2.St} {Kn H : Hp}
theorem Bs.refl : Bs F Kn0 Kn0 := ⟨Ex.refl _, fun _ _ h => h⟩
theorem S.bs (s : S K F Kn0 sl ow σ Kn H) : Bs F Kn0 Kn := ⟨s.e0, s.sep⟩
theorem S.rebase (s : S K F Kn0 sl ow σ Kn H) : S K F Kn sl ow σ Kn H := ⟨Ex.refl _, s.ek, s.ef, fun _ _ h => h, s.sl, s.ow⟩
theorem S.unbase (b : Bs F Kn0 Kn1) (s : S K F Kn1 sl ow σ Kn H) : S K F Kn0 sl ow σ Kn H := ⟨b.e.trans s.e0, s.ek, s.ef, fun p h1 h2 => s.sep p h1 (b.sp p h1 h2), s.sl, s.ow⟩
theorem RT.base {R : VK} {x : α} (q : RT K F Kn0 ow R x) (b : Bs F Kn0 Kn1) : RT K F Kn1 ow R x := fun v Kn H s => q v Kn H (s.unbase b)
theorem RN.base {R : VK} {xs : List α} (q : RN K F Kn0 ow R xs) (b : Bs F Kn0 Kn1) : RN K F Kn1 ow R xs := fun p ws Kn H s => q p ws Kn H (s.unbase b)
theorem SN.base (q : SN K F Kn0 sl ow D) (b : Bs F Kn0 Kn1) : SN K F Kn1 sl ow D := fun σ Kn H s => q σ Kn H (s.unbase b)
theorem sb_for {wi : TI} {g : TG} {tb : TS} {Sx : Type} {xs : List β} (slx : Sx → List Sl) (owx : Sx → List Ow) (gx : β → Sx → List Sl) (js : List Nat) (P : List β → Sx → Prop) (s0 : Sx) (hi : ITM K F Kn0 sl ow wi ow1 xs) (h0 : P xs s0) (le : SlLe sl (slx s0)) (eo : (owx s0).Sublist ow1)
    (hg : ∀ x s, GT K g (slx s) (gx x s) js x)
    (step : ∀ Kn1, Bs F Kn0 Kn1 → ∀ x rest s, P (x :: rest) s → ∀ N : L2.St → Hp → Prop, (∀ s', P rest s' → ∀ σ Kn H, S K F Kn1 (slx s') (owx s') σ Kn H → N σ H) → SB K F Kn1 (gx x s) (owx s) { D with nx := N, ct := N, bk := D.nx } tb)
    (done : ∀ s, P [] s → SN K F Kn0 (slx s) (owx s) D) : SB K F Kn0 sl ow D (tFor wi g tb) := fun σ Kn H s =>
  hi σ Kn H s _ fun J Kn1 H1 e1 s1 w => by
    have b : Bs F Kn0 Kn1 := s1.bs
    refine ⟨fun i m σ H => i + m = xs.length ∧ ∃ Kn s, P (xs.drop i) s ∧ S K F Kn1 (slx s) (owx s) σ Kn H, ⟨xs.length, by omega, Kn1, s0, h0, (s1.rebase.le le).sub eo⟩, fun i m σ H hW => ?_⟩
    obtain ⟨em, Kn, s, hP, hS⟩ := hW
    by_cases hlt : i < xs.length
    · have hx : xs[i]? = some xs[i] := List.getElem?_eq_getElem hlt
      have hd : xs.drop i = xs[i] :: xs.drop (i + 1) := List.drop_eq_getElem_cons hlt
      rw [hd] at hP
      obtain ⟨go, yl⟩ := (w i Kn H hS.e0 hS.ek).1 _ hx
      refine .inr ⟨go, fun σ' H' => ∃ Kn s, P (xs.drop (i + 1)) s ∧ S K F Kn1 (slx s) (owx s) σ' Kn H', fun σ' H' ⟨Kn', s', h1, h2⟩ => ⟨m - 1, by omega, by omega, Kn', s', h1, h2⟩, fun v H' hy => ?_⟩
      obtain ⟨Kn2, g2, rv⟩ := yl v H' hy
      have hS2 := hS.grow g2
      refine hg _ s σ Kn2 H' v hS2.sl hS2.ek rv _ fun σ2 h2 _ => ?_
      exact step Kn1 b _ _ s hP _ (fun s' hs' σ Kn H hS' => ⟨Kn, s', hs', hS'⟩) σ2 Kn2 H' ⟨hS2.e0, hS2.ek, hS2.ef, hS2.sep, h2, hS2.ow⟩
    · have hd : xs.drop i = [] := List.drop_eq_nil_of_le (by omega)
      rw [hd] at hP
      exact .inl ⟨(w i Kn H hS.e0 hS.ek).2 (by omega), done s hP σ Kn H (hS.unbase b)⟩
theorem sb_while {tt : TT} {tb : TS} {Sx : Type} (slx : Sx → List Sl) (owx : Sx → List Ow) (P : Nat → Sx → Prop) (n0 : Nat) (s0 : Sx) (h0 : P n0 s0) (le : SlLe sl (slx s0)) (eo : (owx s0).Sublist ow)
    (step : ∀ n s, P n s → ∃ b, ET K F Kn0 (slx s) (owx s) tt b ∧
      (b = true → ∀ N : L2.St → Hp → Prop, (∀ m s', m < n → P m s' → ∀ σ Kn H, S K F Kn0 (slx s') (owx s') σ Kn H → N σ H) → SB K F Kn0 (slx s) (owx s) { D with nx := N, ct := N, bk := D.nx } tb) ∧ (b = false → SN K F Kn0 (slx s) (owx s) D)) :
    SB K F Kn0 sl ow D (tWhile tt tb) := fun σ Kn H s => by
  refine ⟨fun n σ H => ∃ Kn s, P n s ∧ S K F Kn0 (slx s) (owx s) σ Kn H, ⟨n0, Kn, s0, h0, (s.le le).sub eo⟩, fun n σ H hW => ?_⟩
  obtain ⟨Kn, s, hP, hS⟩ := hW
  obtain ⟨b, h1, h2, h3⟩ := step n s hP
  refine h1 σ Kn H hS _ fun Kn1 H1 g1 => ?_
  cases b with
  | true => exact iteT ⟨fun σ H => ∃ m Kn s, m < n ∧ P m s ∧ S K F Kn0 (slx s) (owx s) σ Kn H, fun σ' H' ⟨m, Kn', s', hm, hp, hs⟩ => ⟨m, hm, Kn', s', hp, hs⟩, h2 rfl _ (fun m s' hm hp σ Kn H hs => ⟨m, Kn, s', hm, hp, hs⟩) σ Kn1 H1 (hS.grow g1)⟩
  | false => exact iteF (h3 rfl σ Kn1 H1 (hS.grow g1))
end

/-! ### comprehensions -/
def lcGo {β γ : Type} (c : β → Option Bool) (f : β → Option γ) : List β → Option (List γ)
  | [] => some []
  | x :: xs => (c x).bind fun b => if b = true then (f x).bind fun z => (lcGo c f xs).bind fun zs => some (z :: zs) else lcGo c f xs
def lcM {β γ : Type} (c : β → Option Bool) (f : β → Option γ) (xs : List β) : Option (List γ) := if xs.length < 1000000 then lcGo c f xs else none
def lcSGo {β γ Sx : Type} (f : β → Sx → Option (γ × Sx)) : List β → Sx → Option (List γ × Sx)
  | [], s => some ([], s)
  | x :: xs, s => (f x s).bind fun r => (lcSGo f xs r.2).bind fun q => some (r.1 :: q.1, q.2)
def lcS {β γ Sx : Type} (f : β → Sx → Option (γ × Sx)) (xs : List β) (s : Sx) : Option (List γ × Sx) := if xs.length < 1000000 then lcSGo f xs s else none
section
variable {K : Fg} {F Kn0 : Hp} {sl sl' : List Sl} {ow ow0 ow1 : List Ow} {α β γ : Type} [Rp α] [Rp β] [Rp γ] {σ : L2.St} {Kn H : Hp} {tt : TT} {te : TE} {wi : TI} {g : TG} {vs js : List Nat}
theorem bind_some {α β : Type} {m : Option α} {f : α → Option β} {r : β} (h : m.bind f = some r) : ∃ a, m = some a ∧ f a = some r := by
  cases m with
  | none => cases h
  | some a => exact ⟨a, rfl, h⟩
theorem SlsOk.wipe : ∀ {vs : List Nat} {Kn : Hp} {sl : List Sl} {σ : L2.St}, (∀ j ∈ vs, sl[j]? = some .any) → SlsOk K Kn sl σ → SlsOk K Kn sl (wipe σ vs)
  | [], _, _, _, _, h => h
  | v :: vs, Kn, sl, σ, hv, h => by
    have h1 := SlsOk.wipe (vs := vs) (fun j hj => hv j (List.mem_cons_of_mem _ hj)) h
    have h2 := SlsOk.set (K := K) (H := Kn) (s := .any) (o := none) trivial v h1
    have e : sl.set v .any = sl := by
      refine List.ext_getElem? fun m => ?_
      have hm := hv v List.mem_cons_self
      by_cases q : v = m
      · subst q
        rw [List.getElem?_set_self (List.getElem?_eq_some_iff.mp hm).1, hm]
      · rw [List.getElem?_set_ne q]
    rw [e] at h2
    exact h2
theorem S.wipe (s : S K F Kn0 sl ow σ Kn H) (hv : ∀ j ∈ vs, sl[j]? = some .any) : S K F Kn0 sl ow (wipe σ vs) Kn H := ⟨s.e0, s.ek, s.ef, s.sep, s.sl.wipe hv, s.ow⟩
theorem Gr.mut {Kn' H' : Hp} {p : Addr} {o : HO} (g : Gr Kn H Kn' H') (hp : H p = none) (kp : Kn' p = none) : Gr Kn H Kn' (upd H' p o) :=
  ⟨g.kk, Ex.mut g.hh hp, upd_in g.kh kp, g.sp⟩
theorem S.slots {σ2 : L2.St} (s : S K F Kn0 sl ow σ Kn H) (h : SlsOk K Kn sl' σ2) : S K F Kn0 sl' ow σ2 Kn H := ⟨s.e0, s.ek, s.ef, s.sep, h, s.ow⟩
theorem en_lc {xs : List β} {zs : List γ} {c : β → Option Bool} {f : β → Option γ} (gx : β → List Sl) (hm : lcM c f xs = some zs) (hi : IT K F Kn0 sl ow wi xs) (hv : ∀ j ∈ vs, sl[j]? = some .any) (hg : ∀ x, GT K g sl (gx x) js x) (hj : ∀ j ∈ js, j ∈ vs)
    (ht : ∀ p (acc : List γ) x b, c x = some b → ET K F Kn0 (gx x) (ol p acc :: ow) tt b) (he : ∀ p (acc : List γ) x z, c x = some true → f x = some z → EV K F Kn0 (gx x) (ol p acc :: ow) te z) :
    EN K F Kn0 sl ow (tLc wi g tt te vs) zs := fun σ Kn H s Q q => by
  unfold lcM at hm
  split at hm
  case isFalse => cases hm
  rename_i hlen
  refine hi σ Kn H s _ fun J Kn1 H1 g1 w D hD => ?_
  have s1 := s.grow g1
  have kD : Kn1 D = none := fresh_back s1.ek hD
  have fD : F D = none := fresh_back s1.ef hD
  refine ⟨fun i m H' => i + m = xs.length ∧ ∃ Kn' ws acc rest, Gr Kn1 H1 Kn' H' ∧ Kn' D = none ∧ H' D = some (.lst ws) ∧ Paired (rep K Kn') ws acc ∧ acc.length ≤ i ∧ lcGo c f (xs.drop i) = some rest ∧ acc ++ rest = zs,
    ⟨xs.length, by omega, Kn1, [], [], zs, (Gr.newU g1.kh hD), kD, upd_same, .nil, Nat.le_refl _, hm, rfl⟩, fun i m H' hW => ?_⟩
  obtain ⟨em, Kn', ws, acc, rest, gr, kD', hD', rp, hal, hrest, hz⟩ := hW
  have s' : S K F Kn0 sl (ol D acc :: ow) σ Kn' H' := (s1.grow gr).own fD kD' (owned_ne s1 hD) hD' rp
  by_cases hlt : i < xs.length
  · have hx : xs[i]? = some xs[i] := List.getElem?_eq_getElem hlt
    have hd : xs.drop i = xs[i] :: xs.drop (i + 1) := List.drop_eq_getElem_cons hlt
    rw [hd] at hrest
    obtain ⟨b, hb, hrest⟩ := bind_some hrest
    obtain ⟨go, yl⟩ := (w i Kn' H' gr.kk gr.kh).1 _ hx
    refine .inr ⟨go, fun H'' => ∃ Kn' ws acc rest, Gr Kn1 H1 Kn' H'' ∧ Kn' D = none ∧ H'' D = some (.lst ws) ∧ Paired (rep K Kn') ws acc ∧ acc.length ≤ i + 1 ∧ lcGo c f (xs.drop (i + 1)) = some rest ∧ acc ++ rest = zs, fun H'' h => ⟨m - 1, by omega, by omega, h⟩, fun v H2 hy => ?_⟩
    obtain ⟨Kn2, g2, rv⟩ := yl v H2 hy
    have s2 := (s'.grow g2).wipe hv
    refine hg _ _ Kn2 H2 v s2.sl s2.ek rv _ fun σ3 h3 hw3 => ?_
    have s3 := s2.slots h3
    have hDn : H' D ≠ none := ne_none_of hD'
    refine ⟨(hw3 vs hj).trans ?_, ht D acc _ b hb σ3 Kn2 H2 s3 _ fun Kn3 H3 g3 => ?_⟩
    · have ww : ∀ (vs us : List Nat) (σ : L2.St), (∀ j ∈ vs, j ∈ us) → L2.wipe (L2.wipe σ vs) us = L2.wipe σ us := by
        intro vs
        induction vs with
        | nil => intro us σ _; rfl
        | cons a r ih =>
          intro us σ hh
          show L2.wipe ((L2.wipe σ r).set a none) us = L2.wipe σ us
          rw [wipe_set (hh a List.mem_cons_self)]
          exact ih us σ fun j hj => hh j (List.mem_cons_of_mem _ hj)
      exact ww vs vs σ fun _ h => h
    · have g123 : Gr Kn1 H1 Kn3 H3 := (gr.trans g2).trans g3
      have kD3 : Kn3 D = none := (g2.trans g3).sp D hDn kD'
      have hD3 : H3 D = some (.lst ws) := (g2.trans g3).hh _ _ hD'
      cases b with
      | true =>
        obtain ⟨z, hfz, hrest⟩ := bind_some (show (f xs[i]).bind _ = some rest from hrest)
        obtain ⟨zs', hzs, hrest⟩ := bind_some hrest
        cases hrest
        refine iteT (he D acc _ z hb hfz σ3 Kn3 H3 (s3.grow g3) _ fun y Kn4 H4 g4 ry => ?_)
        have g234 := (g2.trans g3).trans g4
        have kD4 : Kn4 D = none := g4.sp D (ne_none_of hD3) kD3
        refine ⟨ws, g4.hh _ _ hD3, by rw [paired_len rp]; exact lt_line (by omega), Kn4, ws ++ [y], acc ++ [z], zs', (gr.trans g234).mut hD kD4, kD4, upd_same, paired_append (paired_mono g234.kk rp) (.cons ry .nil), ?_, hzs, ?_⟩
        · rw [List.length_append, List.length_singleton]; omega
        · rw [List.append_assoc]; exact hz
      | false =>
        have hrest : lcGo c f (xs.drop (i + 1)) = some rest := hrest
        exact iteF ⟨Kn3, ws, acc, rest, g123, kD3, hD3, paired_mono (g2.trans g3).kk rp, by omega, hrest, hz⟩
  · have hd : xs.drop i = [] := List.drop_eq_nil_of_le (by omega)
    rw [hd] at hrest
    cases hrest
    rw [List.append_nil] at hz
    subst hz
    exact .inl ⟨(w i Kn' H' gr.kk gr.kh).2 (by omega), q D ws Kn' H' (g1.trans gr) (fresh_back g1.hh hD) kD' hD' rp⟩
theorem et_yes : ET K F Kn0 sl ow tYes true := fun σ Kn H s Q q => q Kn H (Gr.refl s.ek)
/-- what changes on the way: owx -/
theorem enm_lc {Sx : Type} {xs : List β} {zs : List γ} {f : β → Sx → Option (γ × Sx)} (owx : Sx → List Ow) (gx : β → List Sl) (s0 s9 : Sx) (hm : lcS f xs s0 = some (zs, s9)) (hi : ITM K F Kn0 sl ow wi (owx s0) xs) (hv : ∀ j ∈ vs, sl[j]? = some .any) (hg : ∀ x, GT K g sl (gx x) js x) (hj : ∀ j ∈ js, j ∈ vs)
    (he : ∀ Kn1, Bs F Kn0 Kn1 → ∀ p (acc : List γ) x s z s', f x s = some (z, s') → EM K F Kn1 (gx x) (ol p acc :: owx s) te (ol p acc :: owx s') z) :
    ENM K F Kn0 sl ow (tLc wi g tYes te vs) (owx s9) zs := fun σ Kn H s Q q => by
  unfold lcS at hm
  split at hm
  case isFalse => cases hm
  rename_i hlen
  refine hi σ Kn H s _ fun J Kn1 H1 e1 s1 w D hD => ?_
  have kD : Kn1 D = none := fresh_back s1.ek hD
  have fD : F D = none := fresh_back s1.ef hD
  have b1 : Bs F Kn0 Kn1 := s1.bs
  refine ⟨fun i m H' => i + m = xs.length ∧ ∃ Kn' st acc rest, S K F Kn1 sl (ol D acc :: owx st) σ Kn' H' ∧ acc.length ≤ i ∧ lcSGo f (xs.drop i) st = some (rest, s9) ∧ acc ++ rest = zs,
    ⟨xs.length, by omega, Kn1, s0, [], zs, ?_, Nat.le_refl _, hm, rfl⟩, fun i m H' hW => ?_⟩
  · have s2 := s1.rebase.grow (Gr.newU (o := .lst []) s1.ek hD)
    exact s2.own fD kD (owned_ne s1 hD) upd_same .nil
  obtain ⟨em, Kn', st, acc, rest, s', hal, hrest, hz⟩ := hW
  obtain ⟨_, kD', ws, hD', rp⟩ := s'.ow.each (ol D acc) List.mem_cons_self
  have hD' : H' D = some (.lst ws) := hD'
  by_cases hlt : i < xs.length
  · have hx : xs[i]? = some xs[i] := List.getElem?_eq_getElem hlt
    have hd : xs.drop i = xs[i] :: xs.drop (i + 1) := List.drop_eq_getElem_cons hlt
    rw [hd] at hrest
    obtain ⟨⟨z, st'⟩, hf, hrest⟩ := bind_some hrest
    obtain ⟨⟨zs', s9'⟩, hzs, hrest⟩ := bind_some hrest
    have h9 := Option.some.inj hrest
    have h91 : z :: zs' = rest := congrArg Prod.fst h9
    have h92 : s9' = s9 := congrArg Prod.snd h9
    rw [h92] at hzs
    subst h91
    obtain ⟨go, yl⟩ := (w i Kn' H' s'.e0 s'.ek).1 _ hx
    refine .inr ⟨go, fun H'' => ∃ Kn' st acc rest, S K F Kn1 sl (ol D acc :: owx st) σ Kn' H'' ∧ acc.length ≤ i + 1 ∧ lcSGo f (xs.drop (i + 1)) st = some (rest, s9) ∧ acc ++ rest = zs, fun H'' h => ⟨m - 1, by omega, by omega, h⟩, fun v H2 hy => ?_⟩
    obtain ⟨Kn2, g2, rv⟩ := yl v H2 hy
    have s2 := (s'.grow g2).wipe hv
    refine hg _ _ Kn2 H2 v s2.sl s2.ek rv _ fun σ3 h3 hw3 => ?_
    have s3 := s2.slots h3
    refine ⟨(hw3 vs hj).trans ?_, ?_⟩
    · have ww : ∀ (vs us : List Nat) (σ : L2.St), (∀ j ∈ vs, j ∈ us) → L2.wipe (L2.wipe σ vs) us = L2.wipe σ us := by
        intro vs
        induction vs with
        | nil => intro us σ _; rfl
        | cons a r ih =>
          intro us σ hh
          show L2.wipe ((L2.wipe σ r).set a none) us = L2.wipe σ us
          rw [wipe_set (hh a List.mem_cons_self)]
          exact ih us σ fun j hj => hh j (List.mem_cons_of_mem _ hj)
      exact ww vs vs σ fun _ h => h
    · unfold tYes
      refine iteT ?_
      refine he Kn1 b1 D acc _ st z st' hf σ3 Kn2 H2 s3 _ fun y Kn4 H4 e4 s4 ry => ?_
      obtain ⟨_, kD4, ws4, hD4, rp4⟩ := s4.ow.each (ol D acc) List.mem_cons_self
      have kD4 : Kn4 D = none := kD4
      have s5 : S K F Kn1 (gx xs[i]) (ol D (acc ++ [z]) :: owx st') σ3 Kn4 (upd H4 D (.lst (ws4 ++ [y]))) := s4.write (j := 0) (xs' := acc ++ [z]) rfl (Ex.refl _) (upd_in s4.ek kD4) (fun q hq _ => upd_ne hq) (fun _ _ h => h) upd_same (paired_append rp4 (.cons ry .nil))
      have hsl : SlsOk K Kn4 sl σ := s'.sl.mono (g2.kk.trans e4)
      refine ⟨ws4, hD4, by rw [paired_len rp4]; exact lt_line (by omega), Kn4, st', acc ++ [z], zs', s5.slots hsl, ?_, hzs, ?_⟩
      · rw [List.length_append, List.length_singleton]; omega
      · rw [List.append_assoc]; exact hz
  · have hd : xs.drop i = [] := List.drop_eq_nil_of_le (by omega)
    rw [hd] at hrest
    have h9 := Option.some.inj hrest
    have h91 : [] = rest := congrArg Prod.fst h9
    have h92 : st = s9 := congrArg Prod.snd h9
    subst h91
    subst h92
    rw [List.append_nil] at hz
    subst hz
    have no : ∀ o ∈ owx st, o.ad ≠ D := fun o ho z => (List.nodup_cons.mp s'.ow.nd).1 (List.mem_map.mpr ⟨o, ho, z⟩)
    exact .inl ⟨(w i Kn' H' s'.e0 s'.ek).2 (by omega), q D ws Kn' H' (e1.trans s'.e0) ((s'.unbase b1).sub (List.sublist_cons_self _ _)) fD kD' no hD' rp⟩
end
end Wk
/-! Wk4: loops as functions, == of data, kinds, lists of one's own that are read -/
namespace Wk
open PySem PySem.Spec L2 Evl

/-! ### the mirrors' words -/
inductive Ctl (Sx R : Type) where
  | nx (s : Sx)
  | bk (s : Sx)
  | rt (r : R)
def forS {β Sx : Type} (f : β → Sx → Option Sx) : List β → Sx → Option Sx
  | [], s => some s
  | x :: xs, s => (f x s).bind (forS f xs)
def forC {β Sx R : Type} (f : β → Sx → Option (Ctl Sx R)) : List β → Sx → Option (Ctl Sx R)
  | [], s => some (.nx s)
  | x :: xs, s => (f x s).bind fun c => match c with
    | .nx s' => forC f xs s'
    | .bk s' => some (.nx s')
    | .rt r => some (.rt r)
def whileS {Sx : Type} (c : Sx → Option Bool) (f : Sx → Option Sx) : Nat → Sx → Option Sx
  | 0, _ => none
  | n + 1, s => (c s).bind fun b => if b = true then (f s).bind (whileS c f n) else some s
def whileC {Sx R : Type} (c : Sx → Option Bool) (f : Sx → Option (Ctl Sx R)) : Nat → Sx → Option (Ctl Sx R)
  | 0, _ => none
  | n + 1, s => (c s).bind fun b => if b = true then (f s).bind fun c' => match c' with
    | .nx s' => whileC c f n s'
    | .bk s' => some (.nx s')
    | .rt r => some (.rt r) else some (.nx s)
theorem whileS_more {Sx : Type} {c : Sx → Option Bool} {f : Sx → Option Sx} : ∀ {n m : Nat} {s r : Sx}, whileS c f n s = some r → n ≤ m → whileS c f m s = some r
  | 0, _, _, _, h, _ => by cases h
  | n + 1, 0, _, _, _, h => absurd h (Nat.not_succ_le_zero _)
  | n + 1, m + 1, s, r, h, hm => by
    unfold whileS at h ⊢
    cases e : c s with
    | none => rw [e] at h; cases h
    | some b =>
      rw [e] at h
      cases b with
      | false => exact h
      | true =>
        have h : ((f s).bind (whileS c f n)) = some r := h
        show ((f s).bind (whileS c f m)) = some r
        cases e2 : f s with
        | none => rw [e2] at h; cases h
        | some s' =>
          rw [e2] at h
          exact whileS_more (show whileS c f n s' = some r from h) (Nat.le_of_succ_le_succ hm)
theorem whileC_more {Sx R : Type} {c : Sx → Option Bool} {f : Sx → Option (Ctl Sx R)} : ∀ {n m : Nat} {s : Sx} {r : Ctl Sx R}, whileC c f n s = some r → n ≤ m → whileC c f m s = some r
  | 0, _, _, _, h, _ => by cases h
  | n + 1, 0, _, _, _, h => absurd h (Nat.not_succ_le_zero _)
  | n + 1, m + 1, s, r, h, hm => by
    unfold whileC at h ⊢
    cases e : c s with
    | none => rw [e] at h; cases h
    | some b =>
      rw [e] at h
      cases b with
      | false => exact h
      | true =>
        have h : ((f s).bind _) = some r := h
        show ((f s).bind _) = some r
        cases e2 : f s with
        | none => rw [e2] at h; cases h
        | some k =>
          rw [e2] at h
          cases k with
          | nx s' => exact whileC_more (show whileC c f n s' = some r from h) (Nat.le_of_succ_le_succ hm)
          | bk _ => exact h
          | rt _ => exact h
/-- a while, for as many turns as it takes -/
noncomputable def whileF {Sx : Type} (c : Sx → Option Bool) (f : Sx → Option Sx) (s : Sx) : Option Sx := by
  classical exact if h : ∃ n r, whileS c f n s = some r then some h.choose_spec.choose else none
theorem whileF_some {Sx : Type} {c : Sx → Option Bool} {f : Sx → Option Sx} {s r : Sx} (h : whileF c f s = some r) : ∃ n, whileS c f n s = some r := by
  unfold whileF at h
  split at h
  · rename_i he
    refine ⟨he.choose, ?_⟩
    rw [← Option.some.inj h]
    exact he.choose_spec.choose_spec
  · cases h
theorem whileF_of {Sx : Type} {c : Sx → Option Bool} {f : Sx → Option Sx} {n : Nat} {s r : Sx} (h : whileS c f n s = some r) : whileF c f s = some r := by
  have he : ∃ n r, whileS c f n s = some r := ⟨n, r, h⟩
  unfold whileF
  rw [dif_pos he]
  have h2 := he.choose_spec.choose_spec
  have a := whileS_more h (Nat.le_max_left n he.choose)
  have b := whileS_more h2 (Nat.le_max_right n he.choose)
  exact b.symm.trans a
noncomputable def whileCF {Sx R : Type} (c : Sx → Option Bool) (f : Sx → Option (Ctl Sx R)) (s : Sx) : Option (Ctl Sx R) := by
  classical exact if h : ∃ n r, whileC c f n s = some r then some h.choose_spec.choose else none
theorem whileCF_some {Sx R : Type} {c : Sx → Option Bool} {f : Sx → Option (Ctl Sx R)} {s : Sx} {r : Ctl Sx R} (h : whileCF c f s = some r) : ∃ n, whileC c f n s = some r := by
  unfold whileCF at h
  split at h
  · rename_i he
    refine ⟨he.choose, ?_⟩
    rw [← Option.some.inj h]
    exact he.choose_spec.choose_spec
  · cases h
theorem whileCF_of {Sx R : Type} {c : Sx → Option Bool} {f : Sx → Option (Ctl Sx R)} {n : Nat} {s : Sx} {r : Ctl Sx R} (h : whileC c f n s = some r) : whileCF c f s = some r := by
  have he : ∃ n r, whileC c f n s = some r := ⟨n, r, h⟩
  unfold whileCF
  rw [dif_pos he]
  have h2 := he.choose_spec.choose_spec
  have a := whileC_more h (Nat.le_max_left n he.choose)
  have b := whileC_more h2 (Nat.le_max_right n he.choose)
  exact b.symm.trans a
def appO {α : Type} (xs : List α) (x : α) : Option (List α) := if xs.length < 1000000 then some (xs ++ [x]) else none
def modO (i j : Int) : Option Int := if 0 < j then some (i % j) else none
def divO (i j : Int) : Option Int := if 0 < j ∧ j < 18446744073709551616 then some (i / j) else none
def mulO (i j : Int) : Option Int := if -18446744073709551616 < i ∧ i < 18446744073709551616 then some (i * j) else none
def catO {α : Type} (xs ys : List α) : Option (List α) := if xs.length + ys.length ≤ 1000000 then some (xs ++ ys) else none
theorem appO_some {α : Type} {xs ys : List α} {x : α} (h : appO xs x = some ys) : xs.length < 1000000 ∧ ys = xs ++ [x] := by
  unfold appO at h
  split at h
  · exact ⟨by assumption, (Option.some.inj h).symm⟩
  · cases h
theorem appO_ok {α : Type} {xs : List α} {x : α} (h : xs.length < 1000000) : appO xs x = some (xs ++ [x]) := if_pos h
theorem modO_ok {i j : Int} (h : 0 < j) : modO i j = some (i % j) := if_pos h
theorem divO_ok {i j : Int} (h : 0 < j) (h2 : j < 18446744073709551616) : divO i j = some (i / j) := if_pos ⟨h, h2⟩
theorem mulO_ok {i j : Int} (h : -18446744073709551616 < i) (h2 : i < 18446744073709551616) : mulO i j = some (i * j) := if_pos ⟨h, h2⟩
theorem catO_ok {α : Type} {xs ys : List α} (h : xs.length + ys.length ≤ 1000000) : catO xs ys = some (xs ++ ys) := if_pos h

section
variable {K : Fg} {F Kn0 : Hp} {sl sl' : List Sl} {ow ow0 ow1 ow2 : List Ow} {α β γ τ : Type} [Rp α] [Rp β] [Rp γ] [Tp τ] {ta tb te : TE} {x : α} {D : Ends} {t u tz : TS} {tt : TT} {b : Bool} {i j : Nat} {p : Addr}
theorem SB.sn (h : SB K F Kn0 sl ow D tz) : SN K F Kn0 sl ow { D with nx := tz D } := h
theorem r2_modO {i j z : Int} (h : modO i j = some z) : R2V K (rI (fun _ j => 0 < j) fun i j => .int (i % j)) i j z := by
  unfold modO at h
  split at h
  · cases h
    exact r2_I (by assumption)
  · cases h
theorem r2_divO {i j z : Int} (h : divO i j = some z) : R2V K (rI CDivW fun i j => .int (i / j)) i j z := by
  unfold divO at h
  split at h
  · rename_i hb
    cases h
    exact r2_I (wide_div (b := 64) hb.1 (by omega) (by decide) (by decide))
  · cases h
theorem r2_mulO {i j z : Int} (h : mulO i j = some z) : R2V K (rI CMul fun i j => .int (i * j)) i j z := by
  unfold mulO at h
  split at h
  · rename_i hb
    cases h
    exact r2_I (.inl ⟨by omega, by omega⟩)
  · cases h
theorem r2_catO {xs ys zs : List α} (h : catO xs ys = some zs) : R2L K rCat xs ys zs := by
  unfold catO at h
  split at h
  · cases h
    exact r2_cat (by assumption)
  · cases h
theorem sb_appO {xs xs' : List α} (hi : sl[i]? = some (.at p)) (hj : ow[j]? = some (ol p xs)) (h : EV K F Kn0 sl ow te x) (hx : appO xs x = some xs') (ho : ow.set j (ol p xs') = ow1) (k : SN K F Kn0 sl ow1 D) :
    SB K F Kn0 sl ow D (tDrop (tBM K "list" rAppend (tVar i) (tCons te tNil))) := by
  obtain ⟨h1, rfl⟩ := appO_some hx
  subst ho
  exact sb_app hi hj h h1 k
theorem sb_appOM {xs xs' : List α} (hi : sl[i]? = some (.at p)) (hi0 : ow[j]? = some (ol p xs)) (h : EM K F Kn0 sl ow te ow1 x) (hj : ow1[j]? = some (ol p xs)) (hx : appO xs x = some xs') (ho : ow1.set j (ol p xs') = ow2) (k : SN K F Kn0 sl ow2 D) :
    SB K F Kn0 sl ow D (tDrop (tBM K "list" rAppend (tVar i) (tCons te tNil))) := by
  obtain ⟨h1, rfl⟩ := appO_some hx
  subst ho
  exact sb_appM hi hi0 h hj h1 k
theorem sb_setO {xs xs' : List α} {n : Int} (hi : sl[i]? = some (.at p)) (hj : ow[j]? = some (ol p xs)) (h : EV K F Kn0 sl ow te x) (hn : EV K F Kn0 sl ow tb n) (hx : setI xs n x = some xs') (ho : ow.set j (ol p xs') = ow1) (k : SN K F Kn0 sl ow1 D) :
    SB K F Kn0 sl ow D (tAsg te (gSub (tVar i) tb rSetL)) := by
  subst ho
  exact sb_setI hi hj h hn hx k

/-! ### lists of one's own, read -/
theorem S.borrow {σ : L2.St} {Kn H : Hp} {xs : List α} (s : S K F Kn0 sl ow σ Kn H) (hi : sl[i]? = some (.at p)) (hj : ow[j]? = some (ol p xs)) : ∃ ws, Kn p = none ∧ H p = some (.lst ws) ∧ S K F Kn0 (sl.set i (sv xs)) (ow.eraseIdx j) σ (upd Kn p (.lst ws)) H := by
  obtain ⟨o, h1, h2⟩ := s.sl.get hi
  have h2 : o = some (.ref p) := h2
  obtain ⟨f1, f2, ws, f3, f4⟩ := s.ow.each _ (List.mem_of_getElem? hj)
  have s1 := s.sub (List.eraseIdx_sublist ow j)
  have no : ∀ o ∈ ow.eraseIdx j, o.ad ≠ p := fun o hm z => by
    obtain ⟨m, hm'⟩ := List.getElem?_of_mem hm
    rw [List.getElem?_eraseIdx] at hm'
    split at hm'
    · have := ow_at s.ow.nd hm' hj z
      omega
    · have := ow_at s.ow.nd hm' hj z
      omega
  have s2 := s1.know (o := .lst ws) f1 f2 no f3
  have hσ : σ.set i o = σ := by
    refine List.ext_getElem? fun m => ?_
    by_cases e : i = m
    · subst e
      rw [List.getElem?_set_self (List.getElem?_eq_some_iff.mp h1).1, h1]
    · rw [List.getElem?_set_ne e]
  have s3 := s2.set (x := sv xs) (o := o) i ⟨.ref p, h2, p, ws, rfl, upd_same, paired_mono (Ex.new f2) f4⟩
  rw [hσ] at s3
  exact ⟨ws, f2, f3, s3⟩
theorem ev_bor {γ : Type} [Rp γ] [Fl γ] {z : γ} {xs : List α} (hi : sl[i]? = some (.at p)) (hj : ow[j]? = some (ol p xs)) (hs : sl.set i (sv xs) = sl') (ho : ow.eraseIdx j = ow1) (h : EV K F Kn0 sl' ow1 te z) : EV K F Kn0 sl ow te z := fun σ Kn H s Q q => by
  obtain ⟨ws, kp, hp, s1⟩ := s.borrow hi hj
  subst hs
  subst ho
  exact h σ _ H s1 Q fun v Kn' H' g r => q v Kn H' ⟨Ex.refl _, g.hh, s.ek.trans g.hh, fun _ _ h => h⟩ (Fl.iff.mpr (Fl.iff.mp r))
theorem et_bor {xs : List α} (hi : sl[i]? = some (.at p)) (hj : ow[j]? = some (ol p xs)) (hs : sl.set i (sv xs) = sl') (ho : ow.eraseIdx j = ow1) (h : ET K F Kn0 sl' ow1 tt b) : ET K F Kn0 sl ow tt b := fun σ Kn H s Q q => by
  obtain ⟨ws, kp, hp, s1⟩ := s.borrow hi hj
  subst hs
  subst ho
  exact h σ _ H s1 Q fun Kn' H' g => q Kn H' ⟨Ex.refl _, g.hh, s.ek.trans g.hh, fun _ _ h => h⟩
theorem ev_ixO {xs : List α} {n : Int} {z : α} (hi : sl[i]? = some (.at p)) (hj : ow[j]? = some (ol p xs)) (hn : EV K F Kn0 sl ow tb n) (hz : atI xs n = some z) : EV K F Kn0 sl ow (tOp (rIxL K) (tVar i) tb) z := fun σ Kn H s Q q => by
  obtain ⟨o, h1, h2⟩ := s.sl.get hi
  obtain ⟨f1, f2, ws, f3, f4⟩ := s.ow.each _ (List.mem_of_getElem? hj)
  refine ⟨.ref p, by rw [h1]; exact congrArg some h2, hn σ Kn H s _ fun v Kn1 H1 g1 r1 => ?_⟩
  cases r1
  obtain ⟨u, e, r⟩ := paired_atI f4 hz
  exact ⟨p, ws, n, u, rfl, rfl, sq_of (g1.hh _ _ f3), e, q u Kn1 H1 g1 (Rp.mono g1.kk r)⟩
theorem en_slO {xs : List α} {tl th : TO} {lo hi : Option Int} (hx : sl[i]? = some (.at p)) (hj : ow[j]? = some (ol p xs)) (hl : EO K F Kn0 sl ow tl lo) (hh : EO K F Kn0 sl ow th hi) : EN K F Kn0 sl ow (tSl (rSlL K) (tVar i) tl th) (cut xs lo hi) := fun σ Kn H s Q q => by
  obtain ⟨o, h1, h2⟩ := s.sl.get hx
  obtain ⟨f1, f2, ws, f3, f4⟩ := s.ow.each _ (List.mem_of_getElem? hj)
  refine ⟨.ref p, by rw [h1]; exact congrArg some h2, hl σ Kn H s _ fun Kn2 H2 g2 => hh σ Kn2 H2 (s.grow g2) _ fun Kn3 H3 g3 => ?_⟩
  have g := g2.trans g3
  exact ⟨p, ws, rfl, sq_of (g.hh _ _ f3), fun l hl => q l _ Kn3 _ (g.trans (Gr.newU g3.kh hl)) (fresh_back g.hh hl) (fresh_back g3.kh hl) upd_same (paired_cut (paired_mono g.kk f4) lo hi)⟩
end

/-! ### == -/
class Pd (α : Type) [Rp α] where
  toD : α → PyData
  dp : Nat
  isD : ∀ {K : Fg} {H : Hp} {v : V} {a : α}, rep K H v a → Dp K H v (toD a)
  dep : ∀ a, (toD a).depth ≤ dp
  eqd : ∀ a b : α, PyData.eqv (toD a) (toD b) = true ↔ a = b
class Pq (τ : Type) [Tp τ] where
  toDs : τ → List PyData
  dp : Nat
  isD : ∀ {K : Fg} {H : Hp} {vs : List V} {a : τ}, rept K H vs a → DpAll K H vs (toDs a)
  dep : ∀ a, PyData.depthAll (toDs a) ≤ dp
  eqd : ∀ a b : τ, PyData.eqvAll (toDs a) (toDs b) = true ↔ a = b
def okD {α : Type} [Rp α] [Pd α] (a : α) : Bool := (Pd.toD a).canLay0
instance : Pd Int := { toD := .int, dp := 0, isD := fun h => by cases h; exact .int _, dep := fun a => Nat.le_refl _, eqd := fun a b => by simp [PyData.eqv] }
instance : Pd Bool := { toD := .bool, dp := 0, isD := fun h => by cases h; exact .bl _, dep := fun a => Nat.le_refl _, eqd := fun a b => by simp [PyData.eqv] }
instance : Pd Str := { toD := .str, dp := 0, isD := fun h => by cases h; exact .str _, dep := fun a => Nat.le_refl _, eqd := fun a b => by simp [PyData.eqv] }
theorem eqvAll_map {α : Type} [Rp α] [Pd α] : ∀ (xs ys : List α), PyData.eqvAll (xs.map Pd.toD) (ys.map Pd.toD) = true ↔ xs = ys
  | [], [] => by simp [PyData.eqvAll]
  | [], y :: ys => by simp [PyData.eqvAll]
  | x :: xs, [] => by simp [PyData.eqvAll]
  | x :: xs, y :: ys => by
    simp only [List.map_cons, PyData.eqvAll, Bool.and_eq_true, Pd.eqd, eqvAll_map xs ys, List.cons.injEq]
theorem depthAll_map {α : Type} [Rp α] [Pd α] : ∀ (xs : List α), PyData.depthAll (xs.map Pd.toD) ≤ Pd.dp α
  | [] => Nat.zero_le _
  | x :: xs => by
    simp only [List.map_cons, PyData.depthAll]
    exact Nat.max_le.mpr ⟨Pd.dep x, depthAll_map xs⟩
theorem dpAll_of {α : Type} [Rp α] [Pd α] {K : Fg} {H : Hp} : ∀ {vs : List V} {xs : List α}, Paired (rep K H) vs xs → DpAll K H vs (xs.map Pd.toD)
  | _, _, .nil => .nil
  | _, _, .cons r t => .cons (Pd.isD r) (dpAll_of t)
instance {α : Type} [Rp α] [Pd α] : Pd (List α) where
  toD xs := .list (xs.map Pd.toD)
  dp := Pd.dp α + 1
  isD h := by
    obtain ⟨p, vs, rfl, h1, h2⟩ := h
    exact .lst (sq_of h1) (dpAll_of h2)
  dep a := by
    simp only [PyData.depth]
    exact Nat.succ_le_succ (depthAll_map a)
  eqd a b := by
    simp only [PyData.eqv]
    exact eqvAll_map a b
instance {α : Type} [Rp α] [Pd α] : Pd (Tu α) where
  toD xs := .tuple (xs.l.map Pd.toD)
  dp := Pd.dp α + 1
  isD h := by
    obtain ⟨p, vs, rfl, h1, h2⟩ := h
    exact .tup (st_of h1) (dpAll_of h2)
  dep a := by
    simp only [PyData.depth]
    exact Nat.succ_le_succ (depthAll_map a.l)
  eqd a b := by
    simp only [PyData.eqv]
    rw [eqvAll_map]
    cases a
    cases b
    simp
instance : Pq Unit where
  toDs _ := []
  dp := 0
  isD h := by cases h; exact .nil
  dep _ := Nat.le_refl _
  eqd _ _ := by simp [PyData.eqvAll]
instance {α τ : Type} [Rp α] [Tp τ] [Pd α] [Pq τ] : Pq (α × τ) where
  toDs t := Pd.toD t.1 :: Pq.toDs t.2
  dp := max (Pd.dp α) (Pq.dp τ)
  isD h := by
    obtain ⟨v, r, rfl, h1, h2⟩ := h
    exact .cons (Pd.isD h1) (Pq.isD h2)
  dep a := by
    simp only [PyData.depthAll]
    exact Nat.max_le.mpr ⟨Nat.le_trans (Pd.dep _) (Nat.le_max_left _ _), Nat.le_trans (Pq.dep _) (Nat.le_max_right _ _)⟩
  eqd a b := by
    simp only [PyData.eqvAll, Bool.and_eq_true, Pd.eqd, Pq.eqd]
    constructor
    · rintro ⟨h1, h2⟩
      exact Prod.ext h1 h2
    · rintro rfl
      exact ⟨rfl, rfl⟩
instance {α τ : Type} [Rp α] [Tp τ] [Pd α] [Pq τ] : Pd (α × τ) where
  toD t := .tuple (Pq.toDs t)
  dp := Pq.dp (α × τ) + 1
  isD h := by
    obtain ⟨p, vs, rfl, h1, h2⟩ := h
    exact .tup (st_of h1) (Pq.isD h2)
  dep a := by
    simp only [PyData.depth]
    exact Nat.succ_le_succ (Pq.dep a)
  eqd a b := by
    simp only [PyData.eqv]
    exact Pq.eqd a b
/-- the same kind on both sides -/
def eqO {α : Type} [Rp α] [Pd α] [DecidableEq α] (a b : α) : Option Bool := if (okD a && okD b && decide (Pd.dp α ≤ 64)) = true then some (decide (a = b)) else none
def neO {α : Type} [Rp α] [Pd α] [DecidableEq α] (a b : α) : Option Bool := if (okD a && okD b && decide (Pd.dp α ≤ 64)) = true then some (!decide (a = b)) else none
section
variable {K : Fg} {α : Type} [Rp α] [Pd α] [DecidableEq α]
theorem shaped_of {a : α} (h : okD a = true) (h2 : Pd.dp α ≤ 64) : SeqAt.shaped (Pd.toD a) = true := by
  unfold SeqAt.shaped
  rw [Bool.and_eq_true]
  exact ⟨h, decide_eq_true (Nat.le_trans (Pd.dep a) h2)⟩
theorem eqv_dec (a b : α) : PyData.eqv (Pd.toD a) (Pd.toD b) = decide (a = b) := by
  by_cases h : a = b
  · rw [decide_eq_true h]
    exact (Pd.eqd a b).mpr h
  · rw [decide_eq_false h]
    cases e : PyData.eqv (Pd.toD a) (Pd.toD b) with
    | false => rfl
    | true => exact absurd ((Pd.eqd a b).mp e) h
theorem dp_mono {H H' : Hp} (e : Ex H H') : ∀ {v : V} {d : PyData}, Dp K H v d → Dp K H' v d := fun h =>
  Dp.rec (motive_1 := fun v d _ => Dp K H' v d) (motive_2 := fun vs ds _ => DpAll K H' vs ds) .non .bl .int .str (fun s _ ih => .lst (ex_l e s) ih) (fun s _ ih => .tup (ex_t e s) ih) .nil (fun _ _ h1 h2 => .cons h1 h2) h
theorem r2_eqO {a b : α} {c : Bool} (h : eqO a b = some c) : R2V K (rEqD K) a b c := fun Kn H v w ek h1 h2 Q q => by
  unfold eqO at h
  split at h
  · rename_i hb
    rw [Bool.and_eq_true, Bool.and_eq_true] at hb
    cases h
    refine ⟨Pd.toD a, Pd.toD b, dp_mono ek (Pd.isD h1), dp_mono ek (Pd.isD h2), shaped_of hb.1.1 (of_decide_eq_true hb.2), shaped_of hb.1.2 (of_decide_eq_true hb.2), ?_⟩
    rw [eqv_dec]
    exact q.fl ek
  · cases h
theorem r2_neO {a b : α} {c : Bool} (h : neO a b = some c) : R2V K (rNeD K) a b c := fun Kn H v w ek h1 h2 Q q => by
  unfold neO at h
  split at h
  · rename_i hb
    rw [Bool.and_eq_true, Bool.and_eq_true] at hb
    cases h
    refine ⟨Pd.toD a, Pd.toD b, dp_mono ek (Pd.isD h1), dp_mono ek (Pd.isD h2), shaped_of hb.1.1 (of_decide_eq_true hb.2), shaped_of hb.1.2 (of_decide_eq_true hb.2), ?_⟩
    rw [eqv_dec]
    exact q.fl ek
  · cases h
/-- data without texts: always -/
class Pt (α : Type) [Rp α] [Pd α] : Prop where
  ok : ∀ a : α, okD a = true
class Pu (τ : Type) [Tp τ] [Pq τ] : Prop where
  ok : ∀ a : τ, PyData.canLayAll0 (Pq.toDs a) = true
instance : Pt Int := ⟨fun _ => rfl⟩
instance : Pt Bool := ⟨fun _ => rfl⟩
theorem canLayAll_map {α : Type} [Rp α] [Pd α] : ∀ (xs : List α), (∀ x ∈ xs, okD x = true) → PyData.canLayAll0 (xs.map Pd.toD) = true
  | [], _ => by simp [PyData.canLayAll0]
  | x :: xs, h => by
    simp only [List.map_cons, PyData.canLayAll0, Bool.and_eq_true]
    exact ⟨h x List.mem_cons_self, canLayAll_map xs fun y hy => h y (List.mem_cons_of_mem _ hy)⟩
theorem okD_list {α : Type} [Rp α] [Pd α] {xs : List α} (h : ∀ x ∈ xs, okD x = true) : okD xs = true := by
  show PyData.canLay0 (.list _) = true
  simp only [PyData.canLay0]
  exact canLayAll_map xs h
theorem okD_tu {α : Type} [Rp α] [Pd α] {xs : Tu α} (h : ∀ x ∈ xs.l, okD x = true) : okD xs = true := by
  show PyData.canLay0 (.tuple _) = true
  simp only [PyData.canLay0]
  exact canLayAll_map xs.l h
theorem okD_pair {α τ : Type} [Rp α] [Tp τ] [Pd α] [Pq τ] {t : α × τ} (h : okD t.1 = true) (h2 : PyData.canLayAll0 (Pq.toDs t.2) = true) : okD t = true := by
  show PyData.canLay0 (.tuple (Pd.toD t.1 :: Pq.toDs t.2)) = true
  simp only [PyData.canLay0, PyData.canLayAll0, Bool.and_eq_true]
  exact ⟨h, h2⟩
theorem okDs_cons {α τ : Type} [Rp α] [Tp τ] [Pd α] [Pq τ] {t : α × τ} (h : okD t.1 = true) (h2 : PyData.canLayAll0 (Pq.toDs t.2) = true) : PyData.canLayAll0 (Pq.toDs t) = true := by
  show PyData.canLayAll0 (Pd.toD t.1 :: Pq.toDs t.2) = true
  simp only [PyData.canLayAll0, Bool.and_eq_true]
  exact ⟨h, h2⟩
instance {α : Type} [Rp α] [Pd α] [Pt α] : Pt (List α) := ⟨fun _ => okD_list fun x _ => Pt.ok x⟩
instance {α : Type} [Rp α] [Pd α] [Pt α] : Pt (Tu α) := ⟨fun _ => okD_tu fun x _ => Pt.ok x⟩
instance : Pu Unit := ⟨fun _ => rfl⟩
instance {α τ : Type} [Rp α] [Tp τ] [Pd α] [Pq τ] [Pt α] [Pu τ] : Pu (α × τ) := ⟨fun _ => okDs_cons (Pt.ok _) (Pu.ok _)⟩
instance {α τ : Type} [Rp α] [Tp τ] [Pd α] [Pq τ] [Pt α] [Pu τ] : Pt (α × τ) := ⟨fun _ => okD_pair (Pt.ok _) (Pu.ok _)⟩
theorem r2_eqT [Pt α] {a b : α} (hd : Pd.dp α ≤ 64 := by decide) : R2V K (rEqD K) a b (decide (a = b)) := r2_eqO (by
  unfold eqO
  rw [Pt.ok a, Pt.ok b, decide_eq_true hd]
  rfl)
theorem r2_neT [Pt α] {a b : α} (hd : Pd.dp α ≤ 64 := by decide) : R2V K (rNeD K) a b (!decide (a = b)) := r2_neO (by
  unfold neO
  rw [Pt.ok a, Pt.ok b, decide_eq_true hd]
  rfl)
theorem eqO_ok {a b : α} (h1 : okD a = true) (h2 : okD b = true) (hd : Pd.dp α ≤ 64 := by decide) : eqO a b = some (decide (a = b)) := by
  unfold eqO
  rw [h1, h2, decide_eq_true hd]
  rfl
theorem neO_ok {a b : α} (h1 : okD a = true) (h2 : okD b = true) (hd : Pd.dp α ≤ 64 := by decide) : neO a b = some (!decide (a = b)) := by
  unfold neO
  rw [h1, h2, decide_eq_true hd]
  rfl
end

/-! ### isinstance -/
structure TyN where
  n : String
instance rpTyN : Rp TyN := { rep := fun _ _ v a => v = .ty a.n, swap := fun _ h => h }
instance : Fl TyN := { toV := fun a => V.ty a.n, iff := Iff.rfl }
class Tn (α : Type) [Rp α] where
  nm : String
  is : ∀ {K : Fg} {H : Hp} {v : V} {a : α}, rep K H v a → TyX K H v (.type nm)
instance : Tn Int := ⟨"int", fun h => by cases h; exact .base (.int _)⟩
instance : Tn Bool := ⟨"bool", fun h => by cases h; exact .base (.bl _)⟩
instance : Tn Str := ⟨"str", fun h => by cases h; exact .base (.str _)⟩
instance : Tn Nn := ⟨"NoneType", fun h => by cases h; exact .base .non⟩
instance {α : Type} [Rp α] : Tn (List α) := ⟨"list", fun h => by
  obtain ⟨p, vs, rfl, h1, _⟩ := h
  exact .base (.lst h1)⟩
instance {α : Type} [Rp α] : Tn (Tu α) := ⟨"tuple", fun h => by
  obtain ⟨p, vs, rfl, h1, _⟩ := h
  exact .base (.tup h1)⟩
instance {α τ : Type} [Rp α] [Tp τ] : Tn (α × τ) := ⟨"tuple", fun h => by
  obtain ⟨p, vs, rfl, h1, _⟩ := h
  exact .base (.tup h1)⟩
theorem rc_isi {K : Fg} {α : Type} [Rp α] [Tn α] {x : α} {n : String} {b : Bool} (h : kitB (Tn.nm α) n = some b) : RCV K (rIsi K) (x, TyN.mk n, ()) b := fun Kn H vs ek hr Q q => by
  obtain ⟨v, w, rfl, h1, h2⟩ := two_args hr
  cases h2
  refine ⟨v, .ty n, .type (Tn.nm α), .type n, b, rfl, .ty n, ?_, kit_ty h, q.fl ek⟩
  exact Tn.is (Rp.mono ek h1)

/-! ### great divisors -/
theorem r2_divW {K : Fg} {i j : Int} {b : Nat} (h : 0 < j) (hb : j.natAbs < 2 ^ b) (h0 : 0 < b) (h9 : b ≤ 9000) : R2V K (rI CDivW fun i j => .int (i / j)) i j (i / j) := r2_I (wide_div h hb h0 h9)

/-! ### sorted of whole numbers -/
def srt (xs : List Int) : List Int := xs.mergeSort fun a b => decide (a ≤ b)
theorem srt_perm (xs : List Int) : (srt xs).Perm xs := List.mergeSort_perm xs _
theorem srt_pw (xs : List Int) : (srt xs).Pairwise (· ≤ ·) := by
  have h := List.pairwise_mergeSort (le := fun a b => decide (a ≤ b)) (fun a b c h1 h2 => by
    have h1 := of_decide_eq_true h1
    have h2 := of_decide_eq_true h2
    exact decide_eq_true (by omega)) (fun a b => by
    rcases Int.le_total a b with h | h
    · rw [decide_eq_true h]; rfl
    · rw [decide_eq_true h]; exact Bool.or_true _) xs
  exact h.imp fun h => of_decide_eq_true h
theorem srt_one {xs ys : List Int} (p : ys.Perm xs) (s : ys.Pairwise (· ≤ ·)) : ys = srt xs :=
  List.Perm.eq_of_pairwise (le := fun a b : Int => a ≤ b) (fun a b _ _ h1 h2 => Int.le_antisymm h1 h2) s (srt_pw xs) (p.trans (srt_perm xs).symm)
theorem rc_sorted {K : Fg} {xs : List Int} : RCL K (rSortedI K) (xs, ()) (srt xs) := fun Kn H vs ek h Q q => by
  obtain ⟨v, rfl, p, ws, rfl, h1, h2⟩ := one_arg h
  have e := paired_fl h2
  subst e
  refine ⟨p, xs, rfl, sq_of (ek _ _ h1), fun ns' l pm pw hl => ?_⟩
  rw [srt_one pm pw]
  exact q l _ Kn _ (Gr.newU ek hl) hl (fresh_back ek hl) upd_same (fl_paired (srt xs))
end Wk

namespace Wk
open PySem PySem.Spec L2 Evl
section
variable {K : Fg} {F Kn0 : Hp} {sl sl' : List Sl} {ow ow0 ow1 ow2 : List Ow} {α β γ τ : Type} [Rp α] [Rp β] [Rp γ] [Tp τ] {ta tb te : TE} {x : α} {D : Ends} {t u tz : TS} {tt : TT} {b : Bool} {i j : Nat} {p : Addr}
theorem ev_int (n : Int) : EV K F Kn0 sl ow (tC (.int n)) n := ev_c n
theorem ev_bool (n : Bool) : EV K F Kn0 sl ow (tC (.bl n)) n := ev_c n
theorem ev_str (n : Str) : EV K F Kn0 sl ow (tC (.str n)) n := ev_c n
theorem ev_nn : EV K F Kn0 sl ow (tC .non) Nn.nn := ev_c Nn.nn
theorem ev_ty (n : String) : EV K F Kn0 sl ow (tC (.ty n)) (TyN.mk n) := ev_c (TyN.mk n)
variable {m n : Int}
theorem r2_add : R2V K (rI0 fun i j => .int (i + j)) m n (m + n) := r2_I0
theorem r2_sub : R2V K (rI0 fun i j => .int (i - j)) m n (m - n) := r2_I0
theorem r2_lt : R2V K (rI0 fun i j => .bl (decide (i < j))) m n (decide (m < n)) := r2_I0
theorem r2_le : R2V K (rI0 fun i j => .bl (decide (i ≤ j))) m n (decide (m ≤ n)) := r2_I0
theorem r2_gt : R2V K (rI0 fun i j => .bl (decide (j < i))) m n (decide (n < m)) := r2_I0
theorem r2_ge : R2V K (rI0 fun i j => .bl (decide (j ≤ i))) m n (decide (n ≤ m)) := r2_I0
theorem r2_mod (h : 0 < n := by decide) : R2V K (rI (fun _ j => 0 < j) fun i j => .int (i % j)) m n (m % n) := r2_I h
theorem r2_div (h : 0 < n ∧ n < 1073741824 := by decide) : R2V K (rI CDiv fun i j => .int (i / j)) m n (m / n) := r2_I h
theorem r2_mulr (h : -18446744073709551616 < n ∧ n < 18446744073709551616 := by decide) : R2V K (rI CMul fun i j => .int (i * j)) m n (m * n) := r2_I (.inr ⟨by omega, by omega⟩)
theorem r2_mull (h : -18446744073709551616 < m ∧ m < 18446744073709551616 := by decide) : R2V K (rI CMul fun i j => .int (i * j)) m n (m * n) := r2_I (.inl ⟨by omega, by omega⟩)
theorem r2_divw (h : 0 < n ∧ n < 18446744073709551616 := by decide) : R2V K (rI CDivW fun i j => .int (i / j)) m n (m / n) := r2_divW h.1 (b := 64) (by omega) (by decide) (by decide)
theorem r2_pow {r : Int} (h : 0 ≤ n ∧ n ≤ 1000000 ∧ m.natAbs < 18446744073709551616 := by decide) (e : m ^ n.toNat = r := by decide) : R2V K (rI CPow fun i j => .int (i ^ j.toNat)) m n r := e ▸ r2_I ⟨h.1, h.2.1, by omega⟩
theorem EN.cast {xs ys : List α} (h : EN K F Kn0 sl ow te xs) (e : xs = ys) : EN K F Kn0 sl ow te ys := e ▸ h
theorem EM.cast {y : α} (h : EM K F Kn0 sl ow te ow1 x) (e : x = y) : EM K F Kn0 sl ow te ow1 y := e ▸ h
theorem ENM.cast {xs ys : List α} (h : ENM K F Kn0 sl ow te ow1 xs) (e : xs = ys) : ENM K F Kn0 sl ow te ow1 ys := e ▸ h
theorem SB.is (h1 : sl = sl') (h2 : ow = ow1) (h : SB K F Kn0 sl' ow1 D t) : SB K F Kn0 sl ow D t := by subst h1; subst h2; exact h
theorem EV.is (h1 : sl = sl') (h : EV K F Kn0 sl' ow te x) : EV K F Kn0 sl ow te x := by subst h1; exact h
theorem EM.is (h1 : sl = sl') (h2 : ow = ow2) (h3 : ow1 = ow0) (h : EM K F Kn0 sl' ow2 te ow0 x) : EM K F Kn0 sl ow te ow1 x := by subst h1; subst h2; subst h3; exact h
theorem ET.is (h1 : sl = sl') (h : ET K F Kn0 sl' ow tt b) : ET K F Kn0 sl ow tt b := by subst h1; exact h
theorem ite_t {γ : Type} {b : Bool} {A B : Option γ} {r : γ} (hb : b = true) (h : (if b = true then A else B) = some r) : A = some r := by rw [if_pos hb] at h; exact h
theorem ite_f {γ : Type} {b : Bool} {A B : Option γ} {r : γ} (hb : b = false) (h : (if b = true then A else B) = some r) : B = some r := by rw [if_neg (by rw [hb]; exact Bool.false_ne_true)] at h; exact h
def anyAt (sl : List Sl) (vs : List Nat) : Bool := vs.all fun j => match sl[j]? with
  | some .any => true
  | _ => false
theorem anyAt_of {sl : List Sl} {vs : List Nat} (h : anyAt sl vs = true) : ∀ j ∈ vs, sl[j]? = some .any := fun j hj => by
  have q := List.all_eq_true.mp h j hj
  cases e : sl[j]? with
  | none => rw [e] at q; cases q
  | some s =>
    rw [e] at q
    cases s with
    | any => rfl
    | val _ _ _ => cases q
    | «at» _ => cases q
theorem sub_of {js vs : List Nat} (h : (js.all fun j => vs.contains j) = true) : ∀ j ∈ js, j ∈ vs := fun j hj => by
  have q := List.all_eq_true.mp h j hj
  simpa using q
theorem sn_end {R : VK} (q : RT K F Kn0 ow0 R Nn.nn) (hd : ∀ σ H, R .non H → D.nx σ H) (l : ow0.Sublist ow) : SN K F Kn0 sl ow D := fun σ Kn H s => hd σ H (q _ Kn H (s.sub l).fin rfl)
def EOM (K : Fg) (F Kn0 : Hp) (sl : List Sl) (ow : List Ow) (to : TO) (ow' : List Ow) (o : Option Int) : Prop := ∀ σ Kn H, S K F Kn0 sl ow σ Kn H → ∀ Q : Option Int → Hp → Prop, (∀ Kn' H', Ex Kn Kn' → S K F Kn0 sl ow' σ Kn' H' → Q o H') → to σ H Q
theorem EO.eom {to : TO} {o : Option Int} (h : EO K F Kn0 sl ow to o) : EOM K F Kn0 sl ow to ow o := fun σ Kn H s Q q => h σ Kn H s Q fun Kn' H' g => q Kn' H' g.kk (s.grow g)
theorem eom_some {i : Int} (h : EM K F Kn0 sl ow te ow1 i) : EOM K F Kn0 sl ow (tPart te) ow1 (some i) := fun σ Kn H s Q q => h σ Kn H s _ fun v Kn1 H1 e1 s1 r1 => ⟨i, r1, q Kn1 H1 e1 s1⟩
theorem enm_sl {ow3 : List Ow} {xs : List α} {tl th : TO} {lo hi : Option Int} (h : EM K F Kn0 sl ow te ow1 xs) (hl : EOM K F Kn0 sl ow1 tl ow2 lo) (hh : EOM K F Kn0 sl ow2 th ow3 hi) : ENM K F Kn0 sl ow (tSl (rSlL K) te tl th) ow3 (cut xs lo hi) := fun σ Kn H s Q q =>
  h σ Kn H s _ fun v Kn1 H1 e1 s1 r1 => hl σ Kn1 H1 s1 _ fun Kn2 H2 e2 s2 => hh σ Kn2 H2 s2 _ fun Kn3 H3 e3 s3 => by
    obtain ⟨p, ws, rfl, h3, h4⟩ := r1
    have e13 : Ex Kn1 Kn3 := e2.trans e3
    exact ⟨p, ws, rfl, sq_of (s3.ek _ _ (e13 _ _ h3)), fun l hl => q l _ Kn3 _ (e1.trans e13) (s3.grow (Gr.newU s3.ek hl)) (fresh_back s3.ef hl) (fresh_back s3.ek hl) (owned_ne s3 hl) upd_same (paired_cut (paired_mono e13 h4) lo hi)⟩
/-- the entry of a def -/
theorem enter {σ : L2.St} {Kn H : Hp} {D : Ends} {t : TS} (ek : Ex Kn H) (hs : SlsOk K Kn sl σ) (h : SB K H Kn sl [] D t) : t D σ H := h σ Kn H ⟨Ex.refl _, ek, Ex.refl _, fun _ _ h => h, hs, ⟨(fun _ h => nomatch h), List.nodup_nil⟩⟩
theorem rt_of {H Kn : Hp} {r : α} {Q : VK} (q : RS K Kn H Q r) : RT K H Kn [] Q r := fun v Kn' H' s rv => q v Kn' H' ⟨s.e0, s.ef, s.ek, s.sep⟩ rv
theorem rn_of {H Kn : Hp} {r : List α} {Q : VK} (q : RL K Kn H Q r) : RN K H Kn [] Q r := fun p ws Kn' H' s fp kp hw rv => q p ws Kn' H' ⟨s.e0, s.ef, s.ek, s.sep⟩ fp kp hw rv
/-- all but p -/
def but (H : Hp) (p : Addr) : Hp := fun a => if a = p then none else H a
theorem enterM {σ : L2.St} {Kn H : Hp} {D : Ends} {t : TS} {p : Addr} {ws : List V} {xs : List α} (ek : Ex Kn H) (kp : Kn p = none) (hp : H p = some (.lst ws)) (r : Paired (rep K Kn) ws xs) (hs : SlsOk K Kn sl σ) (h : SB K (but H p) Kn sl [ol p xs] D t) : t D σ H :=
  h σ Kn H ⟨Ex.refl _, ek, fun a u e => by
    unfold but at e
    split at e
    · cases e
    · exact e, fun _ _ h => h, hs, ⟨fun o ho => by
      cases List.mem_singleton.mp ho
      exact ⟨if_pos rfl, kp, ws, hp, r⟩, List.nodup_cons.mpr ⟨(fun h => nomatch h), List.nodup_nil⟩⟩⟩
theorem rt_ofM {H Kn : Hp} {r : β} {p : Addr} {xs' : List α} {Q : VK} (kp : Kn p = none) (q : ∀ v Kn' H' ws', Ex Kn Kn' → Ex Kn' H' → (∀ q, q ≠ p → H q ≠ none → H' q = H q) → (∀ q, H q ≠ none → Kn q = none → Kn' q = none) → H' p = some (.lst ws') → Paired (rep K Kn') ws' xs' → rep K Kn' v r → Q v H') :
    RT K (but H p) Kn [ol p xs'] Q r := fun v Kn' H' s rv => by
  obtain ⟨_, k1, ws, h1, h2⟩ := s.ow.each (ol p xs') List.mem_cons_self
  refine q v Kn' H' ws s.e0 s.ek (fun a ha hn => ?_) (fun a hn hk => ?_) h1 h2 rv
  · have e : but H p a = H a := if_neg ha
    exact (Ex.at_eq s.ef (by rw [e]; exact hn)).trans e
  · by_cases ha : a = p
    · subst ha
      exact k1
    · exact s.sep a (by unfold but; rw [if_neg ha]; exact hn) hk
end
end Wk

/-! ### rules whose readings name K itself (within comprehensions) -/
namespace Wk
open PySem PySem.Spec L2 Evl
section
variable {X : Cx} {K : Fg}
theorem k_isi (h : X.K = K := by rfl) : CallR X (.builtin "isinstance") (rIsi K) := h ▸ call_isi
theorem k_len (h : X.K = K := by rfl) : CallR X (.builtin "len") (fun xs H Q => ∃ p ys, xs = [.ref p] ∧ (SqL K H p ys ∨ SqT K H p ys) ∧ Q (.int ys.length) H) := h ▸ call_len_seq
theorem k_list (h : X.K = K := by rfl) : CallR X (.type "list") (fun xs H Q => ∃ p ys, xs = [.ref p] ∧ (SqL K H p ys ∨ SqT K H p ys) ∧ ∀ l, H l = none → Q (.ref l) (upd H l (.lst ys))) := h ▸ call_list_of
theorem k_tuple (h : X.K = K := by rfl) : CallR X (.type "tuple") (fun xs H Q => ∃ p ys, xs = [.ref p] ∧ ((SqL K H p ys ∧ ∀ l, H l = none → Q (.ref l) (upd H l (.tup ys))) ∨ (SqT K H p ys ∧ Q (.ref p) H))) := h ▸ call_tuple_of
theorem k_sum (hc : X.calm = true := by rfl) (h : X.K = K := by rfl) : CallR X (.builtin "sum") (rSum K) := h ▸ cr_sum hc
theorem k_any (hc : X.calm = true := by rfl) (h : X.K = K := by rfl) : CallR X (.builtin "any") (rAny K) := h ▸ cr_any hc
theorem k_all (hc : X.calm = true := by rfl) (h : X.K = K := by rfl) : CallR X (.builtin "all") (rAll K) := h ▸ cr_all hc
theorem k_max2 (hc : X.calm = true := by rfl) : CallR X (.builtin "max") (fun xs H Q => ∃ i j, xs = [.int i, .int j] ∧ Q (.int (if j > i then j else i)) H) := call_max2 hc
theorem k_min2 (hc : X.calm = true := by rfl) : CallR X (.builtin "min") (fun xs H Q => ∃ i j, xs = [.int i, .int j] ∧ Q (.int (if j < i then j else i)) H) := call_min2 hc
theorem k_sorted (h : X.K = K := by rfl) : CallR X (.builtin "sorted") (rSortedI K) := h ▸ cr_sortedI
theorem k_ixl (h : X.K = K := by rfl) : IxR X (rIxL K) := h ▸ ix_list
theorem k_ixt (h : X.K = K := by rfl) : IxR X (rIxT K) := h ▸ ix_tup
theorem k_sll (h : X.K = K := by rfl) : SlR X (rSlL K) := h ▸ sl_list
theorem k_eqD (hu : X.A.units + 64 < cLine) (h : X.K = K := by rfl) : OpR X (compareOp .Eq) (rEqD K) := h ▸ op_eqD hu
theorem k_neD (hu : X.A.units + 64 < cLine) (h : X.K = K := by rfl) : OpR X (compareOp .NotEq) (rNeD K) := h ▸ op_neD hu
theorem k_in (h : X.K = K := by rfl) : OpR X (compareOp .In) (rIn K false) := h ▸ op_in_seq
theorem k_notIn (h : X.K = K := by rfl) : OpR X (compareOp .NotIn) (rIn K true) := h ▸ op_notIn_seq
theorem kpg_tup {es : List Expr} {k : Nat} {t : TGs} {n : Nat} {pos : Pos} (hs : PGs X es t) (hc : X.calm = true := by rfl) (h : X.K = K := by rfl)
    (hn : (assignEach es X.env).length = n := by rfl) (hst : (assignEach es X.env).findIdx? (·.1) = none := by rfl) : PG X (.Tuple es k pos) (gTup K n t) := h ▸ pg_tup hc hs hn hst
theorem kpi_list {tg e : Expr} {te : TE} (he : PE X e te) (h : X.K = K := by rfl) : PI X tg e (iList K te) := h ▸ pi_list he
theorem kpi_tup {tg e : Expr} {te : TE} (he : PE X e te) (h : X.K = K := by rfl) : PI X tg e (iTup K te) := h ▸ pi_tup he
theorem kpt_truth {a : Expr} {ta : TE} (ha : PE X a ta) (he : ∀ whole, isTrue a X.env whole = (do let v ← whole; standAt a.pos; holding [v] (truthy v)) := by intro _; rfl) (h : X.K = K := by rfl) : PT X a (fun σ H Q => ta σ H fun x H' => ∃ k, TruV K x H' k ∧ Q k H') := h ▸ pt_truth ha he
end
end Wk
/-! Wk5: in, lists made longer, texts, chains, tuples put together -/
namespace Wk
open PySem PySem.Spec L2 Evl
class Fe (α : Type) [Rp α] [Fl α] [DecidableEq α] : Prop where
  flat : ∀ a : α, flatV (Fl.toV a) = true
  eq : ∀ a b : α, eqV (Fl.toV a) (Fl.toV b) = decide (a = b)
instance : Fe Int := ⟨fun _ => rfl, fun a b => by show (a == b) = decide (a = b); by_cases h : a = b <;> simp [h]⟩
instance : Fe Str := ⟨fun _ => rfl, fun a b => by show (a == b) = decide (a = b); by_cases h : a = b <;> simp [h]⟩
def repO {α : Type} (xs : List α) (k : Int) : Option (List α) := if -1000000000 ≤ k ∧ k ≤ 1000000000 ∧ xs.length * k.toNat ≤ 1000000 then some (List.replicate k.toNat xs).flatten else none
def addS (x y : Str) : Option Str := if x.length + y.length ≤ 1000000 then some (x ++ y) else none
def lenS (x : Str) : Option Int := if x.length ≤ 1000000 then some (x.length : Int) else none
def joinO (a : Str) (ys : List Str) : Option Str := if (ys.map (·.length)).sum + ys.length * a.length ≤ 1000000 then some (Txt.join a ys) else none
def powO (i j : Int) : Option Int := if 0 ≤ j ∧ j ≤ 1000000 ∧ i.natAbs < 18446744073709551616 then some (i ^ j.toNat) else none
section
variable {K : Fg} {F Kn0 : Hp} {sl sl' : List Sl} {ow ow0 ow1 ow2 : List Ow} {α β γ τ : Type} [Rp α] [Rp β] [Rp γ] [Tp τ] {ta tb tc te : TE} {x : α} {y : β} {z : γ} {D : Ends} {t u tz : TS} {tt : TT} {a b : Bool} {i j : Nat} {p : Addr}
theorem any_mem {α : Type} [Rp α] [Fl α] [DecidableEq α] [Fe α] (x : α) : ∀ xs : List α, inV (Fl.toV x) (xs.map Fl.toV) = decide (x ∈ xs)
  | [] => by simp [inV]
  | y :: ys => by
    have ih := any_mem x ys
    unfold inV at ih ⊢
    rw [List.map_cons, List.any_cons, ih, Fe.eq]
    by_cases h : y = x
    · subst h
      simp
    · have h' : ¬ x = y := fun e => h e.symm
      simp [h, h']
theorem all_flat {α : Type} [Rp α] [Fl α] [DecidableEq α] [Fe α] : ∀ xs : List α, (xs.map Fl.toV).all flatV = true
  | [] => rfl
  | y :: ys => by
    rw [List.map_cons, List.all_cons, Fe.flat, all_flat ys]
    rfl
theorem r2_in {α : Type} [Rp α] [Fl α] [DecidableEq α] [Fe α] {x : α} {xs : List α} : R2V K (rIn K false) x xs (decide (x ∈ xs)) := fun Kn H v w ek h1 h2 Q q => by
  obtain ⟨p, ws, rfl, h3, h4⟩ := h2
  have e := paired_fl h4
  subst e
  rw [Fl.iff.mp h1]
  refine ⟨p, _, rfl, .inl (sq_of (ek _ _ h3)), Fe.flat x, all_flat xs, ?_⟩
  rw [any_mem]
  exact q.fl ek
theorem r2_notIn {α : Type} [Rp α] [Fl α] [DecidableEq α] [Fe α] {x : α} {xs : List α} : R2V K (rIn K true) x xs (!decide (x ∈ xs)) := fun Kn H v w ek h1 h2 Q q => by
  obtain ⟨p, ws, rfl, h3, h4⟩ := h2
  have e := paired_fl h4
  subst e
  rw [Fl.iff.mp h1]
  refine ⟨p, _, rfl, .inl (sq_of (ek _ _ h3)), Fe.flat x, all_flat xs, ?_⟩
  rw [any_mem]
  exact q.fl ek
theorem r2_inU {α : Type} [Rp α] [Fl α] [DecidableEq α] [Fe α] {x : α} {xs : Tu α} : R2V K (rIn K false) x xs (decide (x ∈ xs.l)) := fun Kn H v w ek h1 h2 Q q => by
  obtain ⟨p, ws, rfl, h3, h4⟩ := h2
  have e := paired_fl h4
  subst e
  rw [Fl.iff.mp h1]
  refine ⟨p, _, rfl, .inr (st_of (ek _ _ h3)), Fe.flat x, all_flat xs.l, ?_⟩
  rw [any_mem]
  exact q.fl ek
theorem r2_notInU {α : Type} [Rp α] [Fl α] [DecidableEq α] [Fe α] {x : α} {xs : Tu α} : R2V K (rIn K true) x xs (!decide (x ∈ xs.l)) := fun Kn H v w ek h1 h2 Q q => by
  obtain ⟨p, ws, rfl, h3, h4⟩ := h2
  have e := paired_fl h4
  subst e
  rw [Fl.iff.mp h1]
  refine ⟨p, _, rfl, .inr (st_of (ek _ _ h3)), Fe.flat x, all_flat xs.l, ?_⟩
  rw [any_mem]
  exact q.fl ek
theorem paired_rep {F : V → α → Prop} {vs : List V} {xs : List α} (h : Paired F vs xs) : ∀ n : Nat, Paired F (List.replicate n vs).flatten (List.replicate n xs).flatten
  | 0 => .nil
  | n + 1 => by
    rw [List.replicate_succ, List.replicate_succ, List.flatten_cons, List.flatten_cons]
    exact paired_append h (paired_rep h n)
theorem r2_repO {xs zs : List α} {k : Int} (h : repO xs k = some zs) : R2L K rRep xs k zs := fun Kn H v w ek h1 h2 Q q => by
  unfold repO at h
  split at h
  · rename_i hb
    cases h
    obtain ⟨p, ws, rfl, h3, h4⟩ := h1
    cases h2
    refine ⟨p, k, ws, rfl, rfl, ek _ _ h3, by omega, by omega, by rw [paired_len h4]; exact le_line hb.2.2, fun l hl => q l _ Kn _ (Gr.newU ek hl) hl (fresh_back ek hl) upd_same (paired_rep h4 _)⟩
  · cases h
theorem r2_addS {x y z : Str} (h : addS x y = some z) : R2V K (fun x y H Q => ∃ i j, x = .str i ∧ y = .str j ∧ i.length + j.length ≤ sizeLine ∧ Q (.str (i ++ j)) H) x y z := fun Kn H v w ek h1 h2 Q q => by
  unfold addS at h
  split at h
  · rename_i hb
    cases h
    exact ⟨x, y, h1, h2, le_line hb, q.fl ek⟩
  · cases h
theorem rc_lenS {x : Str} {z : Int} (h : lenS x = some z) : RCV K (fun xs H Q => ∃ z, xs = [.str z] ∧ z.length ≤ sizeLine ∧ Q (.int z.length) H) (x, ()) z := fun Kn H vs ek hr Q q => by
  obtain ⟨v, rfl, h1⟩ := one_arg hr
  cases h1
  unfold lenS at h
  split at h
  · rename_i hb
    cases h
    exact ⟨x, rfl, le_line hb, q.fl ek⟩
  · cases h
theorem ev_joinO {s : Str} {ys : List Str} {z : Str} (ha : EV K F Kn0 sl ow ta s) (hb : EV K F Kn0 sl ow tb ys) (h : joinO s ys = some z) :
    EV K F Kn0 sl ow (tM1 (fun x xs H Q => ∃ a p, ∃ ys : List Str, x = .str a ∧ xs = [.ref p] ∧ (SqL K H p (ys.map V.str) ∨ SqT K H p (ys.map V.str)) ∧ (ys.map (·.length)).sum + ys.length * a.length ≤ 16777216 ∧ Q (.str (Txt.join a ys)) H) ta tb) z := fun σ Kn H s' Q q =>
  ha σ Kn H s' _ fun v Kn1 H1 g1 r1 => by
    cases r1
    refine ⟨⟨s, rfl⟩, hb σ Kn1 H1 (s'.grow g1) _ fun w Kn2 H2 g2 r2 => ?_⟩
    obtain ⟨p, ws, rfl, h3, h4⟩ := r2
    have e := paired_fl h4
    subst e
    unfold joinO at h
    split at h
    · rename_i hz
      cases h
      exact ⟨s, p, ys, rfl, rfl, .inl (sq_of (g2.kh _ _ h3)), by omega, q _ Kn2 H2 (g1.trans g2) rfl⟩
    · cases h
theorem rc_intB {x : Bool} : RCV K (fun xs H Q => (∃ i, xs = [.int i] ∧ Q (.int i) H) ∨ ∃ k, xs = [.bl k] ∧ Q (.int (if k then 1 else 0)) H) (x, ()) (if x = true then (1 : Int) else 0) := fun Kn H vs ek hr Q q => by
  obtain ⟨v, rfl, h1⟩ := one_arg hr
  cases h1
  exact .inr ⟨x, rfl, q.fl ek⟩
theorem rc_intI {x : Int} : RCV K (fun xs H Q => (∃ i, xs = [.int i] ∧ Q (.int i) H) ∨ ∃ k, xs = [.bl k] ∧ Q (.int (if k then 1 else 0)) H) (x, ()) x := fun Kn H vs ek hr Q q => by
  obtain ⟨v, rfl, h1⟩ := one_arg hr
  cases h1
  exact .inl ⟨x, rfl, q.fl ek⟩
theorem r2_powO {i j z : Int} (h : powO i j = some z) : R2V K (rI CPow fun i j => .int (i ^ j.toNat)) i j z := by
  unfold powO at h
  split at h
  · rename_i hb
    cases h
    exact r2_I ⟨hb.1, hb.2.1, by omega⟩
  · cases h
/-- x < y < z -/
theorem ev_chain {r r' : R2} (ha : EV K F Kn0 sl ow ta x) (hb : EV K F Kn0 sl ow tb y) (hr : R2V K r x y a) (hc : EV K F Kn0 sl ow tc z) (hr' : R2V K r' y z b) : EV K F Kn0 sl ow (tChain r r' ta tb tc) (a && b) := fun σ Kn H s Q q =>
  ha σ Kn H s _ fun v Kn1 H1 g1 r1 => hb σ Kn1 H1 (s.grow g1) _ fun w Kn2 H2 g2 r2 => hr Kn2 H2 v w g2.kh (Rp.mono g2.kk r1) r2 _ fun u Kn3 H3 g3 r3 => by
    refine ⟨a, r3, ?_⟩
    cases a with
    | true => exact iteT (hc σ Kn3 H3 (((s.grow g1).grow g2).grow g3) _ fun v4 Kn4 H4 g4 r4 => hr' Kn4 H4 w v4 g4.kh (Rp.mono (g3.kk.trans g4.kk) r2) r4 Q fun u5 Kn5 H5 g5 r5 => q u5 Kn5 H5 ((((g1.trans g2).trans g3).trans g4).trans g5) r5)
    | false => exact iteF (q _ Kn3 H3 ((g1.trans g2).trans g3) rfl)
/-- t3 is t1 and t2 put together -/
inductive Ap : {τ1 τ2 τ3 : Type} → [Tp τ1] → [Tp τ2] → [Tp τ3] → τ1 → τ2 → τ3 → Prop
  | z {τ : Type} [Tp τ] (t : τ) : Ap () t t
  | s {α τ1 τ2 τ3 : Type} [Rp α] [Tp τ1] [Tp τ2] [Tp τ3] (x : α) {t1 : τ1} {t2 : τ2} {t3 : τ3} : Ap t1 t2 t3 → Ap (x, t1) t2 (x, t3)
theorem Ap.rept {K : Fg} {H : Hp} {τ1 τ2 τ3 : Type} [i1 : Tp τ1] [i2 : Tp τ2] [i3 : Tp τ3] {t1 : τ1} {t2 : τ2} {t3 : τ3} (h : Ap t1 t2 t3) : ∀ {vs ws : List V}, Wk.rept K H vs t1 → Wk.rept K H ws t2 → Wk.rept K H (vs ++ ws) t3 := by
  induction h with
  | z t =>
    intro vs ws h1 h2
    cases h1
    exact h2
  | s x _ ih =>
    intro vs ws h1 h2
    obtain ⟨v, r, rfl, h3, h4⟩ := h1
    exact ⟨v, r ++ ws, rfl, h3, ih h4 h2⟩
theorem r2_catA {α1 τ1 α2 τ2 α3 τ3 : Type} [Rp α1] [Tp τ1] [Rp α2] [Tp τ2] [Rp α3] [Tp τ3] {t1 : α1 × τ1} {t2 : α2 × τ2} {t3 : α3 × τ3} (h : Ap t1 t2 t3) (hn : Tp.n (α1 × τ1) + Tp.n (α2 × τ2) ≤ 1000 := by decide) : R2V K (rCatA K) t1 t2 t3 := fun Kn H v w ek h1 h2 Q q => by
  obtain ⟨p, vs, rfl, h3, h4⟩ := h1
  obtain ⟨p2, ws, rfl, h5, h6⟩ := h2
  have n1 : vs ≠ [] := by
    obtain ⟨_, _, rfl, _⟩ := h4
    simp
  have n2 : ws ≠ [] := by
    obtain ⟨_, _, rfl, _⟩ := h6
    simp
  refine ⟨p, p2, vs, ws, rfl, rfl, st_of (ek _ _ h3), st_of (ek _ _ h5), ?_, fun e => absurd e n1, fun _ e => absurd e n2, fun _ _ l hl => ?_⟩
  · rw [Tp.len h4, Tp.len h6]
    exact le_line (by omega)
  · exact q _ (upd Kn l (.tup (vs ++ ws))) _ (Gr.new ek hl) ⟨l, _, rfl, upd_same, h.rept (Tp.mono (Gr.new ek hl).kk h4) (Tp.mono (Gr.new ek hl).kk h6)⟩
/-- found.clear() -/
theorem sb_clr {xs : List α} (hi : sl[i]? = some (.at p)) (hj : ow[j]? = some (ol p xs)) (ho : ow.set j (ol p ([] : List α)) = ow1) (k : SN K F Kn0 sl ow1 D) : SB K F Kn0 sl ow D (tDrop (tBM0 K "list" rClear (tVar i))) := fun σ Kn H s => by
  obtain ⟨o, h1, h2⟩ := s.sl.get hi
  obtain ⟨f1, f2, ws, f3, f4⟩ := s.ow.each _ (List.mem_of_getElem? hj)
  subst ho
  refine ⟨.ref p, by rw [h1]; exact congrArg some h2, Or.inl ⟨rfl, ws, sq_of f3⟩, p, ws, rfl, rfl, f3, k _ Kn _ ?_⟩
  exact s.write hj (Ex.refl _) (upd_in s.ek f2) (fun q hq _ => upd_ne hq) (fun _ _ h => h) upd_same .nil
theorem en_listO {xs : List α} (hi : sl[i]? = some (.at p)) (hj : ow[j]? = some (ol p xs)) : EN K F Kn0 sl ow (tCB (fun xs H Q => ∃ p ys, xs = [.ref p] ∧ (SqL K H p ys ∨ SqT K H p ys) ∧ ∀ l, H l = none → Q (.ref l) (upd H l (.lst ys))) (tCons (tVar i) tNil)) xs := fun σ Kn H s Q q => by
  obtain ⟨o, h1, h2⟩ := s.sl.get hi
  obtain ⟨f1, f2, ws, f3, f4⟩ := s.ow.each _ (List.mem_of_getElem? hj)
  exact ⟨.ref p, by rw [h1]; exact congrArg some h2, p, ws, rfl, .inl (sq_of f3), fun l hl => q l ws Kn _ (Gr.newU s.ek hl) hl (fresh_back s.ek hl) upd_same f4⟩
/-- a test that changes something on its way -/
def ETM (K : Fg) (F Kn0 : Hp) (sl : List Sl) (ow : List Ow) (tt : TT) (ow' : List Ow) (b : Bool) : Prop := ∀ σ Kn H, S K F Kn0 sl ow σ Kn H → ∀ Q : Bool → Hp → Prop, (∀ Kn' H', Ex Kn Kn' → S K F Kn0 sl ow' σ Kn' H' → Q b H') → tt σ H Q
theorem ET.etm (h : ET K F Kn0 sl ow tt b) : ETM K F Kn0 sl ow tt ow b := fun σ Kn H s Q q => h σ Kn H s Q fun Kn' H' g => q Kn' H' g.kk (s.grow g)
theorem etm_test (h : EM K F Kn0 sl ow te ow1 b) : ETM K F Kn0 sl ow (tTest te) ow1 b := fun σ Kn H s Q q => h σ Kn H s _ fun v Kn' H' e s' r => ⟨b, r, q Kn' H' e s'⟩
theorem etm_and {t u : TT} (h1 : ETM K F Kn0 sl ow t ow1 a) (h2 : a = true → ET K F Kn0 sl ow1 u b) : ETM K F Kn0 sl ow (tAnd t u) ow1 (a && b) := fun σ Kn H s Q q => h1 σ Kn H s _ fun Kn1 H1 e1 s1 => by
  cases a with
  | true => exact iteT (h2 rfl σ Kn1 H1 s1 Q fun Kn2 H2 g2 => q Kn2 H2 (e1.trans g2.kk) (s1.grow g2))
  | false => exact iteF (q Kn1 H1 e1 s1)
theorem etm_or {t u : TT} (h1 : ETM K F Kn0 sl ow t ow1 a) (h2 : a = false → ET K F Kn0 sl ow1 u b) : ETM K F Kn0 sl ow (tOr t u) ow1 (a || b) := fun σ Kn H s Q q => h1 σ Kn H s _ fun Kn1 H1 e1 s1 => by
  cases a with
  | true => exact iteT (q Kn1 H1 e1 s1)
  | false => exact iteF (h2 rfl σ Kn1 H1 s1 Q fun Kn2 H2 g2 => q Kn2 H2 (e1.trans g2.kk) (s1.grow g2))
theorem sb_ifM {t u : TS} (h : ETM K F Kn0 sl ow tt ow1 b) (h1 : b = true → SB K F Kn0 sl ow1 D t) (h2 : b = false → SB K F Kn0 sl ow1 D u) : SB K F Kn0 sl ow D (tIfS tt t u) := fun σ Kn H s => h σ Kn H s _ fun Kn1 H1 e1 s1 => by
  cases b with
  | true => exact iteT (h1 rfl σ Kn1 H1 s1)
  | false => exact iteF (h2 rfl σ Kn1 H1 s1)
end
section
variable {X : Cx} {K : Fg}
theorem k_catA (h : X.K = K := by rfl) : OpR X (binaryOp .Add) (rCatA K) := h ▸ op_catA
theorem k_join {to te : TE} {o e : Expr} {apos pos : Pos} (ho : PE X o to) (he : PE X e te) (hs : starEach [e] X.env = [(false, eval e X.env)] := by rfl) (hbase : attributeBase o "join" X.env (eval o X.env) = eval o X.env := by rfl) (hline : (apos.endLine == pos.line) = true := by rfl) (h : X.K = K := by rfl) :
    PE X (.Call (.Attribute o "join" apos) [e] [] pos) (tM1 (fun x xs H Q => ∃ a p, ∃ ys : List Str, x = .str a ∧ xs = [.ref p] ∧ (SqL K H p (ys.map V.str) ∨ SqT K H p (ys.map V.str)) ∧ (ys.map (·.length)).sum + ys.length * a.length ≤ 16777216 ∧ Q (.str (Txt.join a ys)) H) to te) := h ▸ pe_join ho he hs hbase hline
end
end Wk
/-! Wk6: dicts. -/
namespace Wk
open PySem PySem.Spec L2 Evl
/-- what may be a key -/
class K1 (α : Type) [Rp α] where
  key : α → Key
  inj : ∀ {a b : α}, key a = key b → a = b
  iff : ∀ {K : Fg} {H : Hp} {v : V} {a : α}, rep K H v a → v = kV (key a)
instance : K1 Int := { key := Sum.inl, inj := fun h => Sum.inl.inj h, iff := fun h => h }
instance : K1 Str := { key := Sum.inr, inj := fun h => Sum.inr.inj h, iff := fun h => h }
class KT1 (τ : Type) [Tp τ] where
  keys : τ → List Key
  inj : ∀ {a b : τ}, keys a = keys b → a = b
  iff : ∀ {K : Fg} {H : Hp} {vs : List V} {a : τ}, rept K H vs a → vs = (keys a).map kV
instance : KT1 Unit := { keys := fun _ => [], inj := fun _ => rfl, iff := fun h => h }
instance {α τ : Type} [Rp α] [Tp τ] [K1 α] [KT1 τ] : KT1 (α × τ) where
  keys t := K1.key t.1 :: KT1.keys t.2
  inj h := Prod.ext (K1.inj (List.cons.inj h).1) (KT1.inj (List.cons.inj h).2)
  iff h := by
    obtain ⟨v, r, h1, h2, h3⟩ := h
    rw [h1, K1.iff h2, KT1.iff h3]
    rfl
class Ky (κ : Type) [Rp κ] where
  kt : Type
  dec : DecidableEq kt
  key : κ → kt
  inj : ∀ {a b : κ}, key a = key b → a = b
  ho : List (kt × V) → HO
  isd : ∀ ws, isDk (ho ws)
  get : ∀ {K : Fg} {Kh H : Hp} {p : Addr} {v : V} {a : κ} {ws : List (kt × V)}, rep K Kh v a → Ex Kh H → Rd H p (ho ws) → DGet H p v (valV ws (key a))
  put : ∀ {K : Fg} {Kh H : Hp} {p : Addr} {v y : V} {a : κ} {ws : List (kt × V)}, rep K Kh v a → Ex Kh H → H p = some (ho ws) → ws.length < sizeLine → DPut H p v y (upd H p (ho (putK ws (key a) y)))
instance {κ : Type} [Rp κ] [Ky κ] : DecidableEq (Ky.kt κ) := Ky.dec
instance {α : Type} [Rp α] [K1 α] : Ky α where
  kt := Key
  dec := inferInstance
  key := K1.key
  inj := K1.inj
  ho := .dK
  isd _ := trivial
  get h _ e := by
    rw [K1.iff h]
    exact .inl ⟨_, _, e, rfl, rfl⟩
  put h _ e l := by
    rw [K1.iff h]
    exact DPut.k e l
instance {α τ : Type} [Rp α] [Tp τ] [KT1 (α × τ)] : Ky (α × τ) where
  kt := List Key
  dec := inferInstance
  key := KT1.keys
  inj := KT1.inj
  ho := .dT
  isd _ := trivial
  get h x e := by
    obtain ⟨p, vs, h1, h2, h3⟩ := h
    rw [h1]
    have h4 := x _ _ h2
    rw [KT1.iff (τ := α × _) h3] at h4
    exact .inr ⟨_, _, _, e, rfl, h4, rfl⟩
  put h x e l := by
    obtain ⟨p, vs, h1, h2, h3⟩ := h
    rw [h1]
    have h4 := x _ _ h2
    rw [KT1.iff (τ := α × _) h3] at h4
    exact DPut.t e h4 l
/-- the table of a dict -/
structure Dc (κ β : Type) where
  l : List (κ × β)
section
variable {κ β : Type} [DecidableEq κ]
def getD (kvs : List (κ × β)) (k : κ) : Option β := (kvs.find? fun kv => decide (kv.1 = k)).map (·.2)
def putD (kvs : List (κ × β)) (k : κ) (y : β) : List (κ × β) := if (getD kvs k).isSome = true then kvs.map (fun kv => if kv.1 = k then (kv.1, y) else kv) else kvs ++ [(k, y)]
def putO (kvs : Dc κ β) (k : κ) (y : β) : Option (Dc κ β) := if kvs.l.length < 1000000 then some ⟨putD kvs.l k y⟩ else none
def mergeD (kvs more : List (κ × β)) : List (κ × β) := more.foldl (fun acc kv => putD acc kv.1 kv.2) kvs
end
section
variable {κ β : Type} [Rp κ] [Ky κ] [Rp β]
abbrev DK (K : Fg) (H : Hp) : List (Ky.kt κ × V) → List (κ × β) → Prop := Paired fun w kv => w.1 = Ky.key kv.1 ∧ rep K H w.2 kv.2
theorem DK.mono {K : Fg} {H H' : Hp} {ws : List (Ky.kt κ × V)} {kvs : List (κ × β)} (e : Ex H H') (h : DK K H ws kvs) : DK K H' ws kvs := Paired.mapP h fun _ _ q => ⟨q.1, Rp.mono e q.2⟩
theorem DK.swap {K : Fg} {H H' : Hp} {ws : List (Ky.kt κ × V)} {kvs : List (κ × β)} (e : Sw H H') (h : DK K H ws kvs) : DK K H' ws kvs := Paired.mapP h fun _ _ q => ⟨q.1, Rp.swap e q.2⟩
instance obDc : Ob (Dc κ β) where
  ob K H o x := ∃ ws, o = Ky.ho (κ := κ) ws ∧ DK K H ws x.l
  swap e h := by
    obtain ⟨ws, h1, h2⟩ := h
    exact ⟨ws, h1, DK.swap e h2⟩
instance rpDc : Rp (Dc κ β) where
  rep K H v x := ∃ p ws, v = .ref p ∧ Rd H p (Ky.ho (κ := κ) ws) ∧ DK K H ws x.l
  swap e h := by
    obtain ⟨p, ws, h1, h2, h3⟩ := h
    exact ⟨p, ws, h1, e.rd h2 (Ky.isd ws), DK.swap e h3⟩
theorem rd_ex {H H' : Hp} (e : Ex H H') {q : Addr} {u : HO} (h : Rd H q u) : Rd H' q u := by
  rcases h with h | ⟨o, h⟩
  · exact .inl (e _ _ h)
  · exact .inr ⟨o, e _ _ h⟩
variable [DecidableEq κ]
theorem DK.get {K : Fg} {H : Hp} {ws : List (Ky.kt κ × V)} {kvs : List (κ × β)} (k : κ) (h : DK K H ws kvs) : (getD kvs k = none ∧ valV ws (Ky.key k) = none) ∨ ∃ y v, getD kvs k = some y ∧ valV ws (Ky.key k) = some v ∧ rep K H v y := by
  unfold DK at h
  induction h with
  | nil => exact .inl ⟨rfl, rfl⟩
  | @cons w kv ws kvs h t ih =>
    unfold getD valV
    by_cases e : kv.1 = k
    · have e2 : w.1 = Ky.key k := h.1.trans (congrArg _ e)
      rw [List.find?_cons_of_pos (by simpa using e), List.find?_cons_of_pos (by simpa using e2)]
      exact .inr ⟨_, _, rfl, rfl, h.2⟩
    · have e2 : ¬ w.1 = Ky.key k := fun z => e (Ky.inj (h.1.symm.trans z))
      rw [List.find?_cons_of_neg (by simpa using e), List.find?_cons_of_neg (by simpa using e2)]
      exact ih
theorem DK.some {K : Fg} {H : Hp} {ws : List (Ky.kt κ × V)} {kvs : List (κ × β)} (k : κ) (h : DK K H ws kvs) : (valV ws (Ky.key k)).isSome = (getD kvs k).isSome := by
  rcases h.get k with ⟨h1, h2⟩ | ⟨y, v, h1, h2, _⟩
  · rw [h1, h2]
    rfl
  · rw [h1, h2]
    rfl
theorem DK.repl {K : Fg} {H : Hp} {ws : List (Ky.kt κ × V)} {kvs : List (κ × β)} (k : κ) {v : V} {y : β} (hv : rep K H v y) (h : DK K H ws kvs) : DK K H (ws.map fun kv => if kv.1 = Ky.key k then (kv.1, v) else kv) (kvs.map fun kv => if kv.1 = k then (kv.1, y) else kv) := by
  unfold DK at h ⊢
  induction h with
  | nil => exact .nil
  | @cons w kv ws kvs h t ih =>
    rw [List.map_cons, List.map_cons]
    refine .cons ?_ ih
    by_cases e : kv.1 = k
    · have e2 : w.1 = Ky.key k := h.1.trans (congrArg _ e)
      rw [if_pos e, if_pos e2]
      exact ⟨h.1, hv⟩
    · have e2 : ¬ w.1 = Ky.key k := fun z => e (Ky.inj (h.1.symm.trans z))
      rw [if_neg e, if_neg e2]
      exact h
theorem Paired.app2 {α β : Type} {R : α → β → Prop} : ∀ {xs xs' : List α} {ys ys' : List β}, Paired R xs ys → Paired R xs' ys' → Paired R (xs ++ xs') (ys ++ ys')
  | _, _, _, _, .nil, h => h
  | _, _, _, _, .cons q t, h => .cons q (Paired.app2 t h)
theorem DK.put {K : Fg} {H : Hp} {ws : List (Ky.kt κ × V)} {kvs : List (κ × β)} (k : κ) {v : V} {y : β} (hv : rep K H v y) (h : DK K H ws kvs) : DK K H (putK ws (Ky.key k) v) (putD kvs k y) := by
  unfold putK putD
  rw [valV_any, h.some k]
  split
  · exact DK.repl k hv h
  · exact Paired.app2 h (.cons ⟨rfl, hv⟩ .nil)
end
section
variable {K : Fg} {F Kn0 : Hp} {sl sl' : List Sl} {ow ow0 ow1 ow2 : List Ow} {κ β γ : Type} [Rp κ] [Ky κ] [DecidableEq κ] [Rp β] [Rp γ] {ta tb te td tk : TE} {k : κ} {x : γ} {D : Ends} {t u tz : TS} {b : Bool} {i j : Nat} {p : Addr}
/-- the object at place j is another one now, all else as it was -/
theorem S.writeG {σ : L2.St} {Kn H Kn' H' : Hp} {o1 o2 : Ow} (s : S K F Kn0 sl ow σ Kn H) (hj : ow[j]? = some o1) (ha : o1.ad = p) (hb : o2.ad = p) (kk : Ex Kn Kn') (kh : Ex Kn' H')
    (hq : ∀ q, q ≠ p → H q ≠ none → H' q = H q) (sp : ∀ q, H q ≠ none → Kn q = none → Kn' q = none) (hp : o2.ok K Kn' H') : S K F Kn0 sl (ow.set j o2) σ Kn' H' := by
  obtain ⟨f1, f2, f3⟩ := s.ow.each _ (List.mem_of_getElem? hj)
  have f4 := Ow.there f3
  rw [ha] at f1 f2 f4
  have jl : j < ow.length := (List.getElem?_eq_some_iff.mp hj).1
  refine ⟨s.e0.trans kk, kh, fun a u h => ?_, fun a h1 h2 => sp a (Ex.nn s.ef h1) (s.sep a h1 h2), s.sl.mono kk, ⟨fun o ho => ?_, ?_⟩⟩
  · have hne : a ≠ p := fun z => by rw [z, f1] at h; cases h
    rw [hq a hne (ne_none_of (s.ef _ _ h))]
    exact s.ef _ _ h
  · obtain ⟨i, hi⟩ := List.getElem?_of_mem ho
    by_cases e : i = j
    · subst e
      rw [List.getElem?_set_self jl] at hi
      cases hi
      rw [hb]
      exact ⟨f1, sp p f4 f2, hp⟩
    · rw [List.getElem?_set_ne (Ne.symm e)] at hi
      obtain ⟨h1, h2, h3⟩ := s.ow.each o (List.mem_of_getElem? hi)
      have h4 := Ow.there h3
      have hne : o.ad ≠ p := fun z => e (ow_at s.ow.nd hi hj (z.trans ha.symm))
      exact ⟨h1, sp _ h4 h2, Ow.ok_mono kk (hq _ hne h4) h3⟩
  · have e : (ow.set j o2).map Ow.ad = ow.map Ow.ad := by
      rw [List.map_set]
      refine List.ext_getElem? fun i => ?_
      by_cases e : j = i
      · subst e
        rw [List.getElem?_set_self (by rw [List.length_map]; exact jl), List.getElem?_map, hj, hb, ← ha]
        rfl
      · rw [List.getElem?_set_ne e]
    rw [e]
    exact s.ow.nd
theorem S.ownG {σ : L2.St} {Kn H : Hp} {o : Ow} (s : S K F Kn0 sl ow σ Kn H) (ha : o.ad = p) (fp : F p = none) (kp : Kn p = none) (no : ∀ o ∈ ow, o.ad ≠ p) (ok : o.ok K Kn H) : S K F Kn0 sl (o :: ow) σ Kn H :=
  ⟨s.e0, s.ek, s.ef, s.sep, s.sl, ⟨fun o ho => by
    rcases List.mem_cons.mp ho with rfl | ho
    · rw [ha]
      exact ⟨fp, kp, ok⟩
    · exact s.ow.each o ho, List.nodup_cons.mpr ⟨fun h => by
      obtain ⟨o, ho, e⟩ := List.mem_map.mp h
      exact no o ho (e.trans ha), s.ow.nd⟩⟩⟩
/-- x = {} -/
theorem sb_dnewK {sl' : Addr → List Sl} (hm : Ky.ho (κ := κ) [] = HO.dK []) (hs : ∀ p, sl.set i (.at p) = sl' p) (k : ∀ p, SN K F Kn0 (sl' p) (oo p (Dc.mk ([] : List (κ × β))) :: ow) D) : SB K F Kn0 sl ow D (tAsg tDNewK (gName i)) := fun σ Kn H s p hp =>
  k p _ Kn _ (hs p ▸ ((s.grow (Gr.newU s.ek hp)).ownG (p := p) (o := oo p (Dc.mk ([] : List (κ × β)))) rfl (fresh_back s.ef hp) (fresh_back s.ek hp) (owned_ne s hp) ⟨_, upd_same, [], hm.symm, .nil⟩).seta i)
theorem sb_dnewT {sl' : Addr → List Sl} (hm : Ky.ho (κ := κ) [] = HO.dT []) (hs : ∀ p, sl.set i (.at p) = sl' p) (k : ∀ p, SN K F Kn0 (sl' p) (oo p (Dc.mk ([] : List (κ × β))) :: ow) D) : SB K F Kn0 sl ow D (tAsg tDNewT (gName i)) := fun σ Kn H s p hp =>
  k p _ Kn _ (hs p ▸ ((s.grow (Gr.newU s.ek hp)).ownG (p := p) (o := oo p (Dc.mk ([] : List (κ × β)))) rfl (fresh_back s.ef hp) (fresh_back s.ek hp) (owned_ne s hp) ⟨_, upd_same, [], hm.symm, .nil⟩).seta i)
/-- d[k] = y -/
theorem sb_dput {y : β} {d d' : Dc κ β} (hi : sl[i]? = some (.at p)) (hj : ow[j]? = some (oo p d)) (h : EV K F Kn0 sl ow te y) (hk : EV K F Kn0 sl ow tk k) (hx : putO d k y = some d') (ho : ow.set j (oo p d') = ow1) (n : SN K F Kn0 sl ow1 D) :
    SB K F Kn0 sl ow D (sDPut (tVar i) tk te) := fun σ Kn H s => h σ Kn H s _ fun v Kn1 H1 g1 r1 => by
  obtain ⟨o, h1, h2⟩ := s.sl.get hi
  refine ⟨.ref p, by rw [h1]; exact congrArg some h2, hk σ Kn1 H1 (s.grow g1) _ fun w Kn2 H2 g2 r2 => ?_⟩
  have s2 := (s.grow g1).grow g2
  obtain ⟨f1, f2, o1, f3, ws, f4, f5⟩ := s2.ow.each _ (List.mem_of_getElem? hj)
  subst f4
  unfold putO at hx
  split at hx
  · case isTrue hl =>
    cases hx
    subst ho
    refine ⟨p, _, rfl, Ky.put r2 s2.ek f3 (by rw [f5.length]; exact lt_line hl), n _ Kn2 _ ?_⟩
    exact s2.writeG hj rfl rfl (Ex.refl _) (upd_in s2.ek f2) (fun q hq _ => upd_ne hq) (fun _ _ h => h) ⟨_, upd_same, _, rfl, DK.put k (Rp.mono g2.kk r1) f5⟩
  · cases hx
/-- k in d -/
theorem ev_dinO {d : Dc κ β} (hi : sl[i]? = some (.at p)) (hj : ow[j]? = some (oo p d)) (hk : EV K F Kn0 sl ow tk k) : EV K F Kn0 sl ow (tDIn tk (tVar i)) (getD d.l k).isSome := fun σ Kn H s Q q => hk σ Kn H s _ fun v Kn1 H1 g1 r1 => by
  have s1 := s.grow g1
  obtain ⟨o, h1, h2⟩ := s1.sl.get hi
  obtain ⟨f1, f2, o1, f3, ws, f4, f5⟩ := s1.ow.each _ (List.mem_of_getElem? hj)
  subst f4
  exact ⟨.ref p, by rw [h1]; exact congrArg some h2, p, _, rfl, Ky.get r1 s1.ek (Rd.of f3), q _ Kn1 H1 g1 (congrArg V.bl (f5.some k))⟩
theorem ev_din {d : Dc κ β} (hd : EV K F Kn0 sl ow td d) (hk : EV K F Kn0 sl ow tk k) : EV K F Kn0 sl ow (tDIn tk td) (getD d.l k).isSome := fun σ Kn H s Q q => hk σ Kn H s _ fun v Kn1 H1 g1 r1 => hd σ Kn1 H1 (s.grow g1) _ fun u Kn2 H2 g2 r2 => by
  obtain ⟨p, ws, e1, e2, f5⟩ := r2
  exact ⟨p, _, e1, Ky.get (Rp.mono g2.kk r1) g2.kh (rd_ex g2.kh e2), q _ Kn2 H2 (g1.trans g2) (congrArg V.bl (f5.some k))⟩
theorem ev_dnotinO {d : Dc κ β} (hi : sl[i]? = some (.at p)) (hj : ow[j]? = some (oo p d)) (hk : EV K F Kn0 sl ow tk k) : EV K F Kn0 sl ow (tDNotIn tk (tVar i)) (!(getD d.l k).isSome) := fun σ Kn H s Q q => hk σ Kn H s _ fun v Kn1 H1 g1 r1 => by
  have s1 := s.grow g1
  obtain ⟨o, h1, h2⟩ := s1.sl.get hi
  obtain ⟨f1, f2, o1, f3, ws, f4, f5⟩ := s1.ow.each _ (List.mem_of_getElem? hj)
  subst f4
  exact ⟨.ref p, by rw [h1]; exact congrArg some h2, p, _, rfl, Ky.get r1 s1.ek (Rd.of f3), q _ Kn1 H1 g1 (congrArg (fun b => V.bl (!b)) (f5.some k))⟩
theorem ev_dnotin {d : Dc κ β} (hd : EV K F Kn0 sl ow td d) (hk : EV K F Kn0 sl ow tk k) : EV K F Kn0 sl ow (tDNotIn tk td) (!(getD d.l k).isSome) := fun σ Kn H s Q q => hk σ Kn H s _ fun v Kn1 H1 g1 r1 => hd σ Kn1 H1 (s.grow g1) _ fun u Kn2 H2 g2 r2 => by
  obtain ⟨p, ws, e1, e2, f5⟩ := r2
  exact ⟨p, _, e1, Ky.get (Rp.mono g2.kk r1) g2.kh (rd_ex g2.kh e2), q _ Kn2 H2 (g1.trans g2) (congrArg (fun b => V.bl (!b)) (f5.some k))⟩
/-- d[k] -/
theorem ev_dgetO {d : Dc κ β} {y : β} (hi : sl[i]? = some (.at p)) (hj : ow[j]? = some (oo p d)) (hk : EV K F Kn0 sl ow tk k) (hy : getD d.l k = some y) : EV K F Kn0 sl ow (tDGet (tVar i) tk) y := fun σ Kn H s Q q => by
  obtain ⟨o, h1, h2⟩ := s.sl.get hi
  refine ⟨.ref p, by rw [h1]; exact congrArg some h2, hk σ Kn H s _ fun v Kn1 H1 g1 r1 => ?_⟩
  have s1 := s.grow g1
  obtain ⟨f1, f2, o1, f3, ws, f4, f5⟩ := s1.ow.each _ (List.mem_of_getElem? hj)
  subst f4
  rcases f5.get k with ⟨h1, h2⟩ | ⟨y2, w, h1, h2, h3⟩
  · rw [h1] at hy
    cases hy
  · rw [h1] at hy
    cases hy
    exact ⟨p, w, rfl, h2 ▸ Ky.get r1 s1.ek (Rd.of f3), q w Kn1 H1 g1 h3⟩
theorem ev_dget {d : Dc κ β} {y : β} (hd : EV K F Kn0 sl ow td d) (hk : EV K F Kn0 sl ow tk k) (hy : getD d.l k = some y) : EV K F Kn0 sl ow (tDGet td tk) y := fun σ Kn H s Q q => hd σ Kn H s _ fun u Kn1 H1 g1 r1 => hk σ Kn1 H1 (s.grow g1) _ fun v Kn2 H2 g2 r2 => by
  obtain ⟨p, ws, e1, e2, f5⟩ := Rp.mono g2.kk r1
  rcases f5.get k with ⟨h1, h2⟩ | ⟨y2, w, h1, h2, h3⟩
  · rw [h1] at hy
    cases hy
  · rw [h1] at hy
    cases hy
    exact ⟨p, w, e1, h2 ▸ Ky.get r2 g2.kh (rd_ex g2.kh e2), q w Kn2 H2 (g1.trans g2) h3⟩
/-- a dict of one's own, lent -/
theorem S.borrowG {σ : L2.St} {Kn H : Hp} {d : Dc κ β} (s : S K F Kn0 sl ow σ Kn H) (hi : sl[i]? = some (.at p)) (hj : ow[j]? = some (oo p d)) : ∃ o, Kn p = none ∧ H p = some o ∧ S K F Kn0 (sl.set i (sv d)) (ow.eraseIdx j) σ (upd Kn p o) H := by
  obtain ⟨o, h1, h2⟩ := s.sl.get hi
  have h2 : o = some (.ref p) := h2
  obtain ⟨f1, f2, ob, f3, f4⟩ := s.ow.each _ (List.mem_of_getElem? hj)
  have s1 := s.sub (List.eraseIdx_sublist ow j)
  have no : ∀ o ∈ ow.eraseIdx j, o.ad ≠ p := fun o hm z => by
    obtain ⟨m, hm'⟩ := List.getElem?_of_mem hm
    rw [List.getElem?_eraseIdx] at hm'
    split at hm'
    · have := ow_at s.ow.nd hm' hj z
      omega
    · have := ow_at s.ow.nd hm' hj z
      omega
  have s2 := s1.know (o := ob) f1 f2 no f3
  have hσ : σ.set i o = σ := by
    refine List.ext_getElem? fun m => ?_
    by_cases e : i = m
    · subst e
      rw [List.getElem?_set_self (List.getElem?_eq_some_iff.mp h1).1, h1]
    · rw [List.getElem?_set_ne e]
  have s3 := s2.set (x := sv d) (o := o) i ⟨.ref p, h2, by
    obtain ⟨ws, rfl, f5⟩ := f4
    exact ⟨p, ws, rfl, Rd.of upd_same, DK.mono (Ex.new f2) f5⟩⟩
  rw [hσ] at s3
  exact ⟨ob, f2, f3, s3⟩
theorem ev_borG [Fl γ] {z : γ} {d : Dc κ β} (hi : sl[i]? = some (.at p)) (hj : ow[j]? = some (oo p d)) (hs : sl.set i (sv d) = sl') (ho : ow.eraseIdx j = ow1) (h : EV K F Kn0 sl' ow1 te z) : EV K F Kn0 sl ow te z := fun σ Kn H s Q q => by
  obtain ⟨ws, kp, hp, s1⟩ := s.borrowG hi hj
  subst hs
  subst ho
  exact h σ _ H s1 Q fun v Kn' H' g r => q v Kn H' ⟨Ex.refl _, g.hh, s.ek.trans g.hh, fun _ _ h => h⟩ (Fl.iff.mpr (Fl.iff.mp r))
theorem et_borG {tt : TT} {d : Dc κ β} (hi : sl[i]? = some (.at p)) (hj : ow[j]? = some (oo p d)) (hs : sl.set i (sv d) = sl') (ho : ow.eraseIdx j = ow1) (h : ET K F Kn0 sl' ow1 tt b) : ET K F Kn0 sl ow tt b := fun σ Kn H s Q q => by
  obtain ⟨ws, kp, hp, s1⟩ := s.borrowG hi hj
  subst hs
  subst ho
  exact h σ _ H s1 Q fun Kn' H' g => q Kn H' ⟨Ex.refl _, g.hh, s.ek.trans g.hh, fun _ _ h => h⟩
end
section
variable {X : Cx} {o i e value : Expr} {pos pos' tpos : Pos} {td ty tv : TE}
theorem k_dget (hu : X.A.units + 64 < cLine) (ho : PE X o td) (hi : PE X i ty) (hs : NoSl i) : PE X (.Subscript o i pos) (tDGet td ty) := pe_dget (by omega) ho hi hs
theorem k_din (hu : X.A.units + 64 < cLine) (hi : PE X i ty) (ho : PE X o td) : PC X .In i o (tDIn ty td) := pc_din (by omega) hi ho
theorem k_dnotin (hu : X.A.units + 64 < cLine) (hi : PE X i ty) (ho : PE X o td) : PC X .NotIn i o (tDNotIn ty td) := pc_dnotin (by omega) hi ho
theorem k_dput (hu : X.A.units + 64 < cLine) (ho : PE X o td) (hi : PE X i ty) (hv : PE X value tv) (hs : swapsWith value (some (.Subscript o i pos')) pos.line X.env = pure false) : PS X (.Assign [.Subscript o i pos'] value pos) (sDPut td ty tv) := ps_dput (by omega) ho hi hv hs
end
/-! ### a new list out of an operation with effects -/
section
variable {K : Fg} {F Kn0 : Hp} {sl : List Sl} {ow ow1 ow2 : List Ow} {α β γ : Type} [Rp α] [Rp β] [Rp γ] {ta tb : TE} {x : α} {y : β}
theorem enm_op {r : R2} {zs : List γ} (ha : EM K F Kn0 sl ow ta ow1 x) (hb : EM K F Kn0 sl ow1 tb ow2 y) (hr : R2L K r x y zs) : ENM K F Kn0 sl ow (tOp r ta tb) ow2 zs := fun σ Kn H s Q q =>
  ha σ Kn H s _ fun v Kn1 H1 e1 s1 r1 => hb σ Kn1 H1 s1 _ fun w Kn2 H2 e2 s2 r2 => hr Kn2 H2 v w s2.ek (Rp.mono e2 r1) r2 Q fun p ws Kn' H' g' hp kp hw r' =>
    q p ws Kn' H' ((e1.trans e2).trans g'.kk) (s2.grow g') (fresh_back s2.ef hp) kp (owned_ne s2 hp) hw r'
end
/-! ### a display -/
section
variable {K : Fg} {F Kn0 : Hp} {sl : List Sl} {ow : List Ow} {κ β : Type} [Rp κ] [K1 κ] [DecidableEq κ] [Rp β] {tk tv : TE} {k : κ} {y : β} {trs : List (TE × TE)} {kvs : List (κ × β)}
def EPs (K : Fg) (F Kn0 : Hp) (sl : List Sl) (ow : List Ow) (trs : List (TE × TE)) (kvs : List (κ × β)) : Prop := ∀ σ Kn H, S K F Kn0 sl ow σ Kn H → ∀ Q : List (V × V) → Hp → Prop,
  (∀ ws Kn' H', Gr Kn H Kn' H' → DK K Kn' ws kvs → Q (ws.map fun w => (kV w.1, w.2)) H') → tPairs trs σ H Q
theorem eps_nil : EPs K F Kn0 sl ow [] ([] : List (κ × β)) := fun σ Kn H s Q q => q [] Kn H (Gr.refl s.ek) .nil
theorem eps_cons (hk : EV K F Kn0 sl ow tk k) (hv : EV K F Kn0 sl ow tv y) (hr : EPs K F Kn0 sl ow trs kvs) : EPs K F Kn0 sl ow ((tk, tv) :: trs) ((k, y) :: kvs) := fun σ Kn H s Q q =>
  hk σ Kn H s _ fun v Kn1 H1 g1 r1 => hv σ Kn1 H1 (s.grow g1) _ fun w Kn2 H2 g2 r2 => hr σ Kn2 H2 ((s.grow g1).grow g2) _ fun ws Kn3 H3 g3 r3 => by
    have e := K1.iff r1
    subst e
    exact q ((K1.key k, w) :: ws) Kn3 H3 ((g1.trans g2).trans g3) (.cons ⟨rfl, Rp.mono g3.kk r2⟩ r3)
theorem DK.merge {K : Fg} {H : Hp} : ∀ {ms : List (Key × V)} {more : List (κ × β)} {ws : List (Key × V)} {kvs : List (κ × β)}, DK K H ms more → DK K H ws kvs → DK K H (mergeK ws ms) (mergeD kvs more) := by
  intro ms more ws kvs h
  unfold DK at h
  induction h generalizing ws kvs with
  | nil => exact fun h => h
  | @cons w kv ms more h t ih =>
    intro q
    refine ih ?_
    show DK K H (putK ws w.1 w.2) (putD kvs kv.1 kv.2)
    rw [h.1]
    exact DK.put kv.1 h.2 q
/-- {..}[k] -/
theorem ev_pick (hp : EPs K F Kn0 sl ow trs kvs) (hk : EV K F Kn0 sl ow tk k) (hl : kvs.length ≤ 15) (hy : getD (mergeD [] kvs) k = some y) : EV K F Kn0 sl ow (tDGet (tDisp trs) tk) y := fun σ Kn H s Q q p hp0 => by
  have g0 : Gr Kn H Kn (upd H p (.dK [])) := Gr.newU s.ek hp0
  refine hp σ Kn _ (s.grow g0) _ fun ws Kn1 H1 g1 r1 => ?_
  have e1 : H1 p = some (.dK []) := g1.hh _ _ upd_same
  have kp : Kn1 p = none := g1.sp p (ne_none_of upd_same) (fresh_back s.ek hp0)
  have g : Gr Kn H Kn1 (upd H1 p (.dK (mergeK [] ws))) := ⟨g1.kk, fun a u h => by
    have hne : a ≠ p := fun z => by rw [z, hp0] at h; cases h
    rw [upd_ne hne]
    exact g1.hh _ _ (by rw [upd_ne hne]; exact h), upd_in g1.kh kp, fun a h1 h2 => g1.sp a (Ex.nn g0.hh h1) h2⟩
  refine ⟨e1, ws, rfl, by rw [r1.length]; exact hl, hk σ Kn1 _ (s.grow g) _ fun v Kn2 H2 g2 r2 => ?_⟩
  have r3 : DK K Kn1 (mergeK [] ws) (mergeD [] kvs) := DK.merge r1 .nil
  rcases r3.get k with ⟨h1, h2⟩ | ⟨y2, w, h1, h2, h3⟩
  · rw [h1] at hy
    cases hy
  · rw [h1] at hy
    cases hy
    exact ⟨p, w, rfl, h2 ▸ Ky.get r2 g2.kh (Rd.of (g2.hh _ _ upd_same)), q w Kn2 H2 (g.trans g2) (Rp.mono g2.kk h3)⟩
end
end Wk
/-! Wenum: enumerate over a tuple. -/
namespace L2
open PySem PySem.Spec PyProof.Rows
theorem meets_enum_new1 {v : Value} {o : Obj} {H : Heap → Prop} (B : Begins v o H) :
    Meets (Builtin.«enumerate.__new__» ⟨[.type "enumerate", v], []⟩) (fun _ R s => H s.heap ∧
      R (.ok (.ret (.ref (s.heap.push o).objs.size))) { s with heap := (s.heap.push o).push { cls := .type "enumerate", data := .fields #[.none, .bool false, .ref s.heap.objs.size, rawInt 0, .none, .none] } }) :=
  .of_wp fun prog w A R s h => by
    obtain ⟨hp, g, d, tk, os⟩ := s
    obtain ⟨h1, h⟩ := h
    have hsub := sub_enumerate
    have q1 : ∀ {A' : Around} {E : Value → Shared → Prop} {Q : Value → Shared → Prop}, Q (.ref hp.objs.size) ⟨hp.push o, g, d, tk, os⟩ → wpAny (model prog w) A' (pyIter v) Q E ⟨hp, g, d, tk, os⟩ :=
      fun q => B.iter prog w _ _ ⟨hp, g, d, tk, os⟩ _ h1 q
    wp_walk using q1
    refine wpAny_stack_any fun st => wpAny_pure ?_
    split
    · rename_i c _ _ _ _ _
      cases (c == Value.type "enumerate")
      · wp_walk using q1
        exact ⟨_, rfl, h⟩
      · wp_walk using q1
        exact ⟨_, rfl, h⟩
    · wp_walk using q1
      exact ⟨_, rfl, h⟩
section
variable {prog : Program} {w : World} {A : Around} {E : Value → Shared → Prop} {s : Shared}
theorem enum_begins1 {v : Value} {o : Obj} {H : Heap → Prop} {Q : Value → Shared → Prop} (B : Begins v o H) (h1 : H s.heap)
    (h : ∀ h', IsEnum h' (s.heap.objs.size + 1) s.heap.objs.size 0 .none → h'.get? s.heap.objs.size = some o → h'.objs.size = s.heap.objs.size + 2 →
      (∀ b o, s.heap.get? b = some o → h'.get? b = some o) → Q (.ref (s.heap.objs.size + 1)) { s with heap := h' }) :
    wpAny (model prog w) A (call (.type "enumerate") [v]) Q E s := by
  refine callType_new F.called_enumerate (by decide) (F.typeCall_enumerate_1 _) (F.newCall_enumerate_1 _) (fun obj => F.args_object_init_2 obj _) F.entry_enumerate_new
    (meets_enum_new1 B) ⟨h1, ?_⟩
  have hz : (s.heap.push o).objs.size = s.heap.objs.size + 1 := Heap.size_push ..
  show _ ∧ _
  rw [hz]
  have he : IsEnum ((s.heap.push o).push { cls := .type "enumerate", data := .fields #[.none, .bool false, .ref s.heap.objs.size, rawInt 0, .none, .none] }) (s.heap.objs.size + 1) s.heap.objs.size 0 .none := by
    have := Heap.get?_push_size (s.heap.push o) (o := { cls := .type "enumerate", data := .fields #[.none, .bool false, .ref s.heap.objs.size, rawInt 0, .none, .none] }) rfl
    rw [hz] at this
    exact this
  refine ⟨⟨_, he, rfl⟩, h _ he (Heap.get?_push_of_some _ (Heap.get?_push_size _ B.free)) (by rw [Heap.size_push, hz]) fun b o x => Heap.get?_push_of_some _ (Heap.get?_push_of_some _ x)⟩
end
section
variable {prog : Program} {w : World} {A : Around} {E : Value → Shared → Prop} {s : Shared}
theorem wpAny_pyNext_enum_endT {e it l : Addr} {i : Nat} {items : Array Value} {old : Value} {Q : Option Value → Shared → Prop} (hh : A.handled = none)
    (he : IsEnum s.heap e it i old) (hit : s.heap.IsTupleIter it l i) (hl : s.heap.IsTuple l items) (hx : items[i]? = none)
    (hQ : ∀ h', Heap.ExtBut it s.heap h' → Q none { s with heap := h' }) : wpAny (model prog w) A (pyNext (.ref e)) Q E s := by
  have hT : s.TypeIs (.ref e) "enumerate" := ⟨_, he, rfl⟩
  unfold pyNext
  refine wpAny_bind (wpAny_attempt (wpAny_callSpecial?_slot (name := Str.ofString "__next__") hT F.slot_enumerate_next
    (wpAny_call_entry F.slot_enumerate_next hT F.entry_enumerate_next ?_ (F.args_enumerate_next_1 _))))
  show wpAny _ _ (field (.ref e) 2 >>= _) _ _ _
  refine wpAny_bind (wpAny_field he rfl (x := .ref it) rfl ?_)
  refine wpAny_bind (wpAny_nextOf_tuple_end (by simp [hh]) hit hl hx fun h' x he' hx' => ?_)
  obtain ⟨o, ho, hc⟩ := hx'
  refine wpAny_bind (wpAny_isInstance (T := "StopIteration") (b := true) ⟨o, ho, hc⟩ isSubtype_stop ?_)
  exact wpAny_pure (hQ _ he')
end
/-- the tuple at a, each item in a new pair -/
def IteT (K : PySem.W.Frag) (a : Addr) : It :=
  ⟨fun i H => ∃ (xs : List V) (x : V), SqT K H a xs ∧ xs[i]? = some x, fun i H v H' => ∃ T x, v = .ref T ∧ H T = none ∧ H' = upd H T (.tup [.int (i : Nat), x]) ∧ ∀ xs, SqT K H a xs → xs[i]? = some x, fun i H => ∃ xs : List V, SqT K H a xs ∧ xs.length ≤ i⟩
theorem turn_enumT {P : Program} {w : World} {K : PySem.W.Frag} {elts : List Expr} {kk : Nat} {tpos : Pos} (a e it : Addr) :
    Turn P w K (.Tuple elts kk tpos) (IteT K a) [e, it] e (fun i h => (∃ old, IsEnum h e it ((i : Nat) : Int) old) ∧ h.IsTupleIter it a i ∧ e ≠ it ∧ a ≠ it ∧ e ≠ a) where
  mem := by simp
  obj := fun i h st b hb => by
    obtain ⟨⟨old, he⟩, ⟨o, ho, hc, hd⟩, _⟩ := st
    have e' : b = e ∨ b = it := by simpa using hb
    rcases e' with z | z
    · rw [z]; exact ⟨_, he, fun v q => nomatch q⟩
    · rw [z]; exact ⟨o, ho, fun v q => by rw [hd] at q; cases q⟩
  keep := fun i h h' st k => let ⟨⟨old, he⟩, hi, hne⟩ := st; ⟨⟨old, k e (by simp) _ he⟩, hi.at fun o q => k it (by simp) o q, hne⟩
  item := by
    intro X hP hw hK hc i pins s σ H E I hf st hg
    subst hP hw hK
    obtain ⟨⟨old, he⟩, hit, hne, hai, hea⟩ := st
    obtain ⟨xs, x, hq, hx⟩ := hg
    obtain ⟨its, rv, p, hz⟩ := I.tuple hq
    obtain ⟨u, hu, ru⟩ := rv.get hx
    have hel : e < s.heap.objs.size := Heap.lt_size he
    have hil : it < s.heap.objs.size := by obtain ⟨_, q, _⟩ := hit; exact Heap.lt_size q
    have hlt : i < its.toArray.size := by
      rw [List.size_toArray]
      exact (List.getElem?_eq_some_iff.mp hu).1
    have hh : X.A.in1.handled = none := by simp [I.ok.hd hc]
    refine wpAny_pyNext_enum_itemD (Draws.tuple hh it a hai its.toArray) he ⟨hit, p⟩ hlt hne (by simp [hne, hea]) fun y h' tk hy ho hst hT hsz hk => ?_
    have ey : y = u := by
      rw [show its.toArray[i]? = its[i]? by simp, hu] at hy
      exact (Option.some.inj hy).symm
    subst ey
    obtain ⟨hit', _⟩ := hst
    refine ⟨_, rfl, wpAny_letOwnedTupleGo_enum (s := { s with heap := h', toks := tk + 1 }) ho fun h'' he' sb => ?_⟩
    have hT2 : h''.get? s.heap.objs.size = some { cls := .type "tuple", data := .seq #[.int i tk, y] } := (sb.2 _ (Nat.ne_of_gt hel)).trans hT
    have new : ObjOk X.prog X.w (upd H s.heap.objs.size (.tup [.int (i : Nat), x])) h'' s.heap.objs.size (.tup [.int (i : Nat), x]) :=
      ⟨by show 2 ≤ sizeLine; decide, [.int i tk, y], .cons ⟨_, rfl⟩ (.cons ru .nil), ⟨_, hT2, rfl, _, rfl⟩⟩
    have I1 : Inv X pins σ (upd H s.heap.objs.size (.tup [.int (i : Nat), x])) { s with heap := h'', toks := tk + 1 } :=
      I.turnedNew (ch := [e, it]) (fun b ob hb q => (sb.2 b (fun z => hb (by simp [z]))).trans (hk b ob (fun z => hb (by simp [z])) (fun z => hb (by simp [z])) q)) hf (Nat.le_refl _) new
    refine ⟨.ref s.heap.objs.size, _, I1, rfl, ⟨_, x, rfl, I.hok.fresh (Nat.le_refl _), rfl, fun ys hy => by rw [I.tuple_inj hy hq]; exact hx⟩, ⟨⟨y, ?_⟩, hit'.at fun o q => (sb.2 it (Ne.symm hne)).trans q, hne, hai, hea⟩, fun b hb => ?_⟩
    · have e1 : ((i + 1 : Nat) : Int) = (i : Int) + 1 := by omega
      rw [e1]; exact he'
    · have hb' : b < s.heap.objs.size := by
        have e' : b = e ∨ b = it := by simpa using hb
        rcases e' with z | z
        · rw [z]; exact hel
        · rw [z]; exact hil
      rw [upd_ne (Nat.ne_of_lt hb')]
      exact (hf b hb).1
  done := by
    intro X hP hw hK hc i pins s σ H E I hf st hg
    subst hP hw hK
    obtain ⟨⟨old, he⟩, hit, hne, hai, hea⟩ := st
    obtain ⟨xs, hq, hx⟩ := hg
    obtain ⟨its, rv, p, hz⟩ := I.tuple hq
    obtain ⟨f0, f1, f2, f3, f4, f5⟩ := hf it (by simp)
    have hl := rv.length
    exact wpAny_pyNext_enum_endT (I.ok.hd hc) he hit p (by simp; omega) fun h' eb => ⟨rfl, I.turned (t' := s.toks) (fun b o hb q => eb b o hb q) f0 f1 f3 f4 f5⟩
  self := fun A i s Q E st h => let ⟨⟨_, he⟩, _⟩ := st; wpAny_pyIter_enum he h
def iEnumT (K : PySem.W.Frag) (ta : TA) : TI := fun σ H R => ta σ H fun vs H1 => ∃ a xs, vs = [.ref a] ∧ SqT K H1 a xs ∧ R (IteT K a) H1
theorem pi_enumT {X : Cx} {e : Expr} {ta : TA} {p pos tpos : Pos} {elts : List Expr} {kk : Nat} (hg : Gl X "enumerate") (hm : X.mg "enumerate" = none) (ha : PA X [e] ta) (hs : starEach [e] X.env = [(false, eval e X.env)] := by rfl) :
    PI X (.Tuple elts kk tpos) (.Call (.Name "enumerate" p) [e] [] pos) (iEnumT X.K ta) := by
  refine ⟨fun pins s σ H R I h => ?_⟩
  refine Call_ (ld_blt I hg hm boot_enumerate (PyProof.Rows.callWith_type1 (thn (ha.run pos pins s σ H _ I h) fun us s1 ⟨vs, H1, I1, r1, q1⟩ => ?_) hs rfl))
  obtain ⟨a, xs, ex, hq, q⟩ := q1
  subst ex
  cases r1 with
  | cons r rr =>
    cases rr
    cases r
    obtain ⟨its, rv, p', hz⟩ := I1.tuple hq
    refine enum_begins1 (begins_tuple a its.toArray) p' fun h' he hit hsz hk => wpAny_pyIter_enum he ?_
    have I2 : Inv X pins σ H1 { s1 with heap := h' } := I1.kept (t' := s1.toks) hk
    have hal : a < s1.heap.objs.size := by
      obtain ⟨o, ho, _⟩ := p'
      exact Heap.lt_size ho
    refine ⟨s1.heap.objs.size + 1, [s1.heap.objs.size + 1, s1.heap.objs.size], _, _, H1, rfl, I2, turn_enumT a (s1.heap.objs.size + 1) s1.heap.objs.size, ⟨⟨.none, he⟩, ⟨_, hit, rfl, rfl⟩, Nat.succ_ne_self _, Nat.ne_of_lt hal, Nat.ne_of_gt (Nat.lt_succ_of_lt hal)⟩, fun b hb => ?_, q⟩
    have e' : b = s1.heap.objs.size + 1 ∨ b = s1.heap.objs.size := by simpa using hb
    have hle : s1.heap.objs.size ≤ b := by
      rcases e' with z | z
      · rw [z]; exact Nat.le_add_right _ _
      · rw [z]; exact Nat.le_refl _
    exact I1.fpOk hle (I1.hok.fresh hle)
end L2
namespace Wk
open PySem PySem.Spec L2 Evl
section
variable {K : Fg} {F Kn0 : Hp} {sl sl' : List Sl} {ow ow1 : List Ow} {α β : Type} [Rp α] [Rp β] {te : TE} {ta : TA} {i j : Nat} {p : Addr}
theorem wk_enumT {Kn1 : Hp} {p : Addr} {ws : List V} {xs : List α} (h : SqT K Kn1 p ws) (r : Paired (rep K Kn1) ws xs) : WK K Kn1 (IteT K p) (enumI xs) := fun i Kn' H' e1 e2 => by
  have hq : SqT K H' p ws := ex_t (e1.trans e2) h
  refine ⟨fun y hy => ?_, fun hl => ⟨ws, hq, by rw [paired_len r]; simpa [enumI] using hl⟩⟩
  obtain ⟨x, hx, rfl⟩ := enum_get hy
  obtain ⟨v, hv, rv⟩ := paired_at r hx
  refine ⟨⟨ws, v, hq, hv⟩, fun u H2 hy => ?_⟩
  obtain ⟨T, z, rfl, hT, rfl, f⟩ := hy
  have : v = z := Option.some.inj (hv.symm.trans (f ws hq))
  subst this
  have g : Gr Kn' H' (upd Kn' T (.tup [.int (i : Nat), v])) (upd H' T (.tup [.int (i : Nat), v])) := Gr.new e2 hT
  exact ⟨_, g, T, _, rfl, upd_same, .int (i : Nat), [v], rfl, rfl, v, [], rfl, Rp.mono (e1.trans g.kk) rv, rfl⟩
theorem it_enumT {xs : Tu α} (h : EA K F Kn0 sl ow ta (xs, ())) : IT K F Kn0 sl ow (iEnumT K ta) (enumI xs.l) := fun σ Kn H s R q => h σ Kn H s _ fun vs Kn1 H1 g1 r1 => by
  obtain ⟨v, rfl, p, ws, rfl, h3, h4⟩ := one_arg r1
  exact ⟨p, ws, rfl, st_of (g1.kh _ _ h3), q _ Kn1 H1 g1 (wk_enumT (st_of h3) h4)⟩
/-- tuple(xs), xs one's own -/
theorem ev_tupleO {xs : List α} (hi : sl[i]? = some (.at p)) (hj : ow[j]? = some (ol p xs)) :
    EV K F Kn0 sl ow (tCB (fun xs H Q => ∃ p ys, xs = [.ref p] ∧ ((SqL K H p ys ∧ ∀ l, H l = none → Q (.ref l) (upd H l (.tup ys))) ∨ (SqT K H p ys ∧ Q (.ref p) H))) (tCons (tVar i) tNil)) (Tu.mk xs) := fun σ Kn H s Q q => by
  obtain ⟨o, h1, h2⟩ := s.sl.get hi
  obtain ⟨f1, f2, ws, f3, f4⟩ := s.ow.each _ (List.mem_of_getElem? hj)
  refine ⟨.ref p, by rw [h1]; exact congrArg some h2, p, ws, rfl, .inl ⟨sq_of f3, fun l hl => ?_⟩⟩
  have g : Gr Kn H (upd Kn l (.tup ws)) (upd H l (.tup ws)) := Gr.new s.ek hl
  exact q _ _ _ g ⟨l, ws, rfl, upd_same, paired_mono g.kk f4⟩
end
end Wk
/-! Wsort: sorted of a list of alike data (numbers, texts, tuples of these); sorted of a dict's keys; xs[::-1] -/
namespace L2
open PySem PySem.Spec PyProof.Rows
/-- sorted(xs), xs a list of alike data -/
def rSortedD (K : PySem.W.Frag) : List V → Hp → VK → Prop := fun vs H Q => ∃ (a : Addr) (bs : List (V × PyData)), vs = [V.ref a] ∧ SqL K H a (bs.map (·.1)) ∧ (∀ b ∈ bs, Dp K H b.1 b.2) ∧ PySem.W.AllAlike (bs.map (·.2)) ∧ PySem.W.Sortable (bs.map (·.2)) ∧ bs.length ≤ 1000000 ∧ (∀ b ∈ bs, b.2.depth ≤ 60) ∧
  ∀ p, H p = none → Q (.ref p) (upd H p (.lst ((bs.mergeSort (PySem.W.dataLe false (fun b : V × PyData => b.2))).map (·.1))))
theorem each_vals : ∀ {bs : List (V × PyData)} {us : List Value}, Vals (bs.map (·.1)) us → PySem.W.EachIs (fun v (b : V × PyData) => RelV b.1 v) us bs
  | [], _, h => by
    have h' : Vals [] _ := h
    cases h'
    exact .nil
  | b :: bs, _, h => by
    have h' : Vals (b.1 :: bs.map (·.1)) _ := h
    cases h' with
    | cons r t => exact .cons r (each_vals t)
theorem vals_each : ∀ {bs : List (V × PyData)} {us : List Value}, PySem.W.EachIs (fun v (b : V × PyData) => RelV b.1 v) us bs → Vals (bs.map (·.1)) us
  | _, _, .nil => .nil
  | _, _, .cons r t => .cons r (vals_each t)
theorem each_reads {X : Cx} {pins : List (Addr × Obj)} {σ : St} {H : Hp} {s : Shared} (I : Inv X pins σ H s) : ∀ {bs : List (V × PyData)} {us : List Value}, (∀ b ∈ bs, Dp X.K H b.1 b.2) → PySem.W.EachIs (fun v (b : V × PyData) => RelV b.1 v) us bs → PySem.W.EachIs (fun v (b : V × PyData) => ∃ as, Reads s.heap v b.2 as) us bs
  | _, _, _, .nil => .nil
  | _, _, h, .cons r t => .cons (Dp.reads I _ _ _ (h _ List.mem_cons_self) r) (each_reads I (fun b hb => h b (List.mem_cons_of_mem _ hb)) t)
theorem cr_sortedD {X : Cx} (hu : X.A.units + 64 < cLine) : CallR X (.builtin "sorted") (rSortedD X.K) := by
  intro pins s σ H vs us Q I r h
  obtain ⟨a, bs, rfl, hs, hd, hal, hk, hL, hdp, q⟩ := h
  obtain ⟨its, rv, hl, hz⟩ := I.list hs
  rw [Vals.ref1 r]
  have e := each_vals rv
  have hL' : bs.length ≤ sizeLine := Nat.le_trans hL (by decide)
  refine PySem.W.sorted_data (vs := its) (enc := fun b : V × PyData => b.2) hl.isList e (each_reads I hd e) hal hk hL' (fun b hb => by have := hdp b hb; omega) fun out ho eo => ?_
  obtain ⟨ep, he'⟩ := PyProof.Rows.sortedAll_at s.heap its out.toArray
  have hlen : ((bs.mergeSort (PySem.W.dataLe false (fun b : V × PyData => b.2))).map (·.1)).length ≤ sizeLine := by
    rw [List.length_map, List.length_mergeSort]
    exact hL'
  exact ⟨.ref _, upd H (s.heap.objs.size + 1) (.lst _), I.laid (t' := s.toks) (fun _ _ => PyProof.Rows.sortedAll_old) (Nat.le_succ _) ⟨hlen, out, ep, vals_each eo, he'⟩, rfl, q _ (I.hok.fresh (Nat.le_succ _))⟩
end L2
namespace Wk
open PySem PySem.Spec L2 Evl
/-- alike, one with the other -/
class Al (α : Type) [Rp α] [Pd α] : Prop where
  al : ∀ a b : α, PySem.W.alike (Pd.toD a) (Pd.toD b) = true
class Als (τ : Type) [Tp τ] [Pq τ] : Prop where
  al : ∀ a b : τ, PySem.W.alikeAll (Pq.toDs a) (Pq.toDs b) = true
class So (α : Type) [Rp α] [Pd α] : Prop where
  so : (∀ a : α, ∃ x r, Pd.toD a = .tuple (x :: r)) ∨ ∀ a : α, Pd.toD a ≠ .none ∧ ∀ xs, Pd.toD a ≠ .tuple xs
instance : Al Int := ⟨fun _ _ => rfl⟩
instance : Al Str := ⟨fun _ _ => rfl⟩
instance : Al Bool := ⟨fun _ _ => rfl⟩
instance : Als Unit := ⟨fun _ _ => rfl⟩
instance {α τ : Type} [Rp α] [Tp τ] [Pd α] [Pq τ] [Al α] [Als τ] : Als (α × τ) := ⟨fun a b => by
  show PySem.W.alikeAll (Pd.toD a.1 :: Pq.toDs a.2) (Pd.toD b.1 :: Pq.toDs b.2) = true
  rw [PySem.W.alikeAll, Al.al, Als.al]
  rfl⟩
instance {α τ : Type} [Rp α] [Tp τ] [Pd α] [Pq τ] [Al α] [Als τ] : Al (α × τ) := ⟨fun a b => by
  show PySem.W.alike (.tuple (Pq.toDs a)) (.tuple (Pq.toDs b)) = true
  rw [PySem.W.alike, Als.al]⟩
instance : So Int := ⟨.inr fun a => ⟨(fun h => nomatch h), (fun _ h => nomatch h)⟩⟩
instance : So Str := ⟨.inr fun a => ⟨(fun h => nomatch h), (fun _ h => nomatch h)⟩⟩
instance : So Bool := ⟨.inr fun a => ⟨(fun h => nomatch h), (fun _ h => nomatch h)⟩⟩
instance {α τ : Type} [Rp α] [Tp τ] [Pd α] [Pq τ] : So (α × τ) := ⟨.inl fun a => ⟨_, _, rfl⟩⟩
def leD {α : Type} [Rp α] [Pd α] (a b : α) : Bool := PySem.W.dataLe false (fun c : α => Pd.toD c) a b
def srtD {α : Type} [Rp α] [Pd α] (xs : List α) : List α := xs.mergeSort leD
def srtDO {α : Type} [Rp α] [Pd α] (xs : List α) : Option (List α) := if xs.length ≤ 1000000 ∧ Pd.dp α ≤ 60 then some (srtD xs) else none
theorem paired_zip {α β : Type} {R : α → β → Prop} : ∀ {vs : List α} {xs : List β}, Paired R vs xs → ∃ ps : List (α × β), ps.map (·.1) = vs ∧ ps.map (·.2) = xs ∧ ∀ c ∈ ps, R c.1 c.2
  | _, _, .nil => ⟨[], rfl, rfl, (fun _ h => nomatch h)⟩
  | _, _, .cons r t => by
    obtain ⟨ps, h1, h2, h3⟩ := paired_zip t
    refine ⟨(_, _) :: ps, by rw [List.map_cons, h1], by rw [List.map_cons, h2], fun c hc => ?_⟩
    rcases List.mem_cons.mp hc with rfl | hc
    · exact r
    · exact h3 c hc
theorem zip_paired {α β : Type} {R : α → β → Prop} : ∀ {ps : List (α × β)}, (∀ c ∈ ps, R c.1 c.2) → Paired R (ps.map (·.1)) (ps.map (·.2))
  | [], _ => .nil
  | c :: ps, h => .cons (h c List.mem_cons_self) (zip_paired fun d hd => h d (List.mem_cons_of_mem _ hd))
section
variable {K : Fg} {F Kn0 : Hp} {sl sl' : List Sl} {ow ow1 : List Ow} {α β γ : Type} [Rp α] [Rp β] [Rp γ] {te : TE} {i j : Nat} {p : Addr}
theorem rc_sortD {α : Type} [Rp α] [Pd α] [Al α] [So α] {xs zs : List α} (h : srtDO xs = some zs) : RCL K (rSortedD K) (xs, ()) zs := fun Kn H vs ek hv Q q => by
  unfold srtDO at h
  split at h
  case isFalse => cases h
  rename_i hl
  cases h
  obtain ⟨v, rfl, l, ws, rfl, h1, h2⟩ := one_arg hv
  obtain ⟨ps, e1, e2, e3⟩ := paired_zip h2
  have eb1 : (ps.map fun c => ((c.1, Pd.toD c.2) : V × PyData)).map (·.1) = ws := by
    rw [List.map_map, ← e1]
    rfl
  have lp : ps.length = xs.length := by rw [← e2, List.length_map]
  refine ⟨l, ps.map fun c => (c.1, Pd.toD c.2), rfl, by rw [eb1]; exact sq_of (ek _ _ h1), fun b hb => ?_, ?_, ?_, by rw [List.length_map, lp]; exact hl.1, fun b hb => ?_, fun p hp => ?_⟩
  · obtain ⟨c, hc, rfl⟩ := List.mem_map.mp hb
    exact Pd.isD (Rp.mono ek (e3 c hc))
  · rw [List.map_map]
    exact PySem.W.AllAlike.of fun a b => Al.al _ _
  · rw [List.map_map]
    rcases (So.so : _ ∨ ∀ a : α, _) with h | h
    · exact PySem.W.Sortable.tuples fun c => h _
    · exact PySem.W.Sortable.others fun c => h _
  · obtain ⟨c, hc, rfl⟩ := List.mem_map.mp hb
    exact Nat.le_trans (Pd.dep _) hl.2
  · have m1 : (ps.mergeSort fun a b => leD a.2 b.2).map (fun c => ((c.1, Pd.toD c.2) : V × PyData)) = (ps.map fun c => ((c.1, Pd.toD c.2) : V × PyData)).mergeSort (PySem.W.dataLe false (fun b : V × PyData => b.2)) := List.map_mergeSort fun a _ b _ => rfl
    have m2 : (ps.mergeSort fun a b => leD a.2 b.2).map (·.2) = srtD xs := by
      unfold srtD
      rw [← e2]
      exact List.map_mergeSort fun a _ b _ => rfl
    rw [← m1, List.map_map]
    refine q p _ Kn _ (Gr.newU ek hp) hp (fresh_back ek hp) upd_same ?_
    rw [← m2]
    exact zip_paired fun c hc => e3 c ((List.mergeSort_perm _ _).mem_iff.mp hc)
theorem en_rev {xs : List α} (h : EV K F Kn0 sl ow te xs) : EN K F Kn0 sl ow (tRevL K te) xs.reverse := fun σ Kn H s Q q => h σ Kn H s _ fun v Kn1 H1 g1 r1 => by
  obtain ⟨p, ws, rfl, h3, h4⟩ := r1
  refine ⟨p, ws, rfl, sq_of (g1.kh _ _ h3), fun l hl => q l _ Kn1 _ (g1.trans (Gr.newU g1.kh hl)) (fresh_back g1.hh hl) (fresh_back g1.kh hl) upd_same ?_⟩
  obtain ⟨ps, e1, e2, e3⟩ := paired_zip h4
  rw [← e1, ← e2, ← List.map_reverse, ← List.map_reverse]
  exact zip_paired fun c hc => e3 c (List.mem_reverse.mp hc)
theorem k_sortedD {X : Cx} (hu : X.A.units + 64 < cLine) (h : X.K = K := by rfl) : CallR X (.builtin "sorted") (rSortedD K) := h ▸ cr_sortedD hu
theorem k_revL {X : Cx} {e : Expr} {te : TE} {k : Nat} {p1 p2 p3 pos : Pos} (he : PE X e te) (h : X.K = K := by rfl) : PE X (.Subscript e (.Slice none none (some (.UnaryOp .USub (.Constant (.int 1) k p1) p2)) p3) pos) (tRevL K te) := h ▸ pe_revL he
/-- sorted(d), d a dict with text keys -/
def rSortedK : List V → Hp → VK → Prop := fun xs H Q => ∃ (a : Addr) (kvs : List (Key × V)) (ks : List Str), xs = [.ref a] ∧ Rd H a (.dK kvs) ∧ kvs.map (·.1) = ks.map Sum.inr ∧ ks.length < 64 ∧ ∀ ys p, ys.Perm ks → PyProof.Rows.sortedS ys = true → H p = none → Q (.ref p) (upd H p (.lst (ys.map V.str)))
theorem k_sortedK {X : Cx} (hc : X.calm = true := by rfl) : CallR X (.builtin "sorted") rSortedK := call_sortedD hc
end
end Wk
/-! Wdeal: sum(d.values()), divmod, d[k] += c, xs[i] += c, str(n), zfill, a dict of one's own told -/
namespace L2
open PySem PySem.Spec PyProof.Rows
section
variable {X : Cx}
theorem get_list : PGet X (rIxL X.K) := by
  intro pins s σ H x y v u Q I rx ry h
  obtain ⟨p, xs, i, z, rfl, rfl, hq, he, q⟩ := h
  cases rx
  obtain ⟨t, rfl⟩ := ry
  obtain ⟨its, r, pl, hz⟩ := I.list hq
  obtain ⟨j, h1, h2, h3, h4, h5⟩ := atI_get he
  obtain ⟨w, ew, rw'⟩ := r.get h2
  have hl := r.length
  have hn := line63
  have fin : EP X pins σ Q w s := ⟨z, H, I, rw', q⟩
  by_cases h0 : 0 ≤ i
  · have hj : i.toNat = j := by
      rw [seqIndex_of h0 h5] at h1
      exact Option.some.inj h1
    exact wpAny_getItem_list pl.isList h0 (by omega) (by rw [hj]; simpa using ew) fin
  · have hj : (i + (its.toArray.size : Int)).toNat = j := by
      rw [seqIndex_neg (by omega) h4] at h1
      rw [List.size_toArray, ← hl]
      exact Option.some.inj h1
    exact wpAny_getItem_list_neg pl.isList (by omega) (by rw [List.size_toArray] <;> omega) (by omega) (by rw [hj]; simpa using ew) fin
/-- sum(o.values()), a dict with int values -/
def tSumVals (td : TE) : TE := fun σ H Q => td σ H fun x H1 => ∃ (a : Addr) (kvs : List (Key × V)) (is : List Int), x = V.ref a ∧ Rd H1 a (.dK kvs) ∧ kvs.map (·.2) = is.map V.int ∧ Q (.int is.sum) H1
theorem pre_sum (is : List Int) : ∀ n : Nat, n ≤ is.length → preSum (fun i => is.getD i 0) n = (is.take n).sum
  | 0, _ => rfl
  | n + 1, h => by
    have ih := pre_sum is n (by omega)
    show preSum (fun i => is.getD i 0) n + is.getD n 0 = _
    rw [ih, List.take_succ, List.sum_append, List.getD_eq_getElem?_getD, List.getElem?_eq_getElem (show n < is.length by omega)]
    simp
variable {o : Expr} {p pos apos mpos : Pos} {td : TE}
theorem pe_sumVals (hc : X.calm = true) (hg : Gl X "sum") (hm : X.mg "sum" = none) (hd : PE X o td) (hbase : attributeBase o "values" X.env (eval o X.env) = eval o X.env := by rfl) (hline : (apos.endLine == mpos.line) = true := by rfl)
    (hse : starEach [Expr.Call (.Attribute o "values" apos) [] [] mpos] X.env = [(false, eval (Expr.Call (.Attribute o "values" apos) [] [] mpos) X.env)] := by rfl) :
    PE X (.Call (.Name "sum" p) [.Call (.Attribute o "values" apos) [] [] mpos] [] pos) (tSumVals td) := by
  refine ⟨fun pins s σ H Q I h => ?_⟩
  refine wpAny_Call_Name_kw (ld_blt I hg hm (u := .builtin "sum") (by first | rfl | decide +kernel) ?_ (by first | decide +kernel | decide) (by first | decide +kernel | decide))
  rw [hse]
  refine PySem.callWith_builtin1 (wpAny_Call_method0_late hbase hline (thn (hd.run pins s σ H _ I h) fun v s1 ⟨x, H1, I1, r1, a, kvs, is, ex, ha, hv, q⟩ => ?_))
  subst ex
  obtain rfl : v = Value.ref a := r1
  obtain ⟨_, hsys, vs, rel, dof⟩ := dk_rd I1.hok ha
  obtain ⟨ep, dat⟩ := dof.dictAt
  have dat' := dat
  obtain ⟨ob, es, ho, ex, hdat, hko, hpr, hnd⟩ := dat'
  refine ⟨"dict", "dict.values", F.plainAttrs_dict, F.slot_dict_values, F.type_dict_values, ⟨ob, ho, ex.1⟩, fun b e => ?_, Calls.callWith_builtin rfl (PySem.evalArgs_none ?_)⟩
  · cases e
    exact ⟨ob, ho, ex.2.1⟩
  refine call_meetsIn F.slot_dict_values ⟨ob, ho, ex.1⟩ F.entry_dict_values (F.args_dict_values_1 _) (meets_dict_values (mixKind X.prog X.w) a hsys) ⟨⟨vs, dof⟩, ?_⟩
  have k1 : ∀ b u, s1.heap.get? b = some u → (s1.heap.push { cls := .type "dict_values", data := .fields #[.ref a] }).get? b = some u := fun b u e => Heap.get?_push_of_some _ e
  have dat1 : (s1.heap.push { cls := .type "dict_values", data := .fields #[.ref a] }).DictAt (mixKind X.prog X.w) a vs ep := dat.keep k1
  have hlv : vs.length = is.length := by
    have e1 := congrArg List.length hv
    rw [List.length_map, List.length_map] at e1
    rw [← e1]
    exact (KV.length rel).symm
  have hval : ∀ (i : Nat) (v : Value), (∃ k, vs[i]? = some (k, v)) → ∃ t, v = Value.int (is.getD i 0) t := fun i v ⟨k, hk⟩ => by
    obtain ⟨x, h1, h2⟩ := KV.at' rel hk
    have e1 : (kvs.map (·.2))[i]? = some x := by rw [List.getElem?_map, h1] <;> rfl
    rw [hv, List.getElem?_map] at e1
    obtain ⟨j, hj, e2⟩ := Option.map_eq_some_iff.mp e1
    subst e2
    obtain ⟨t, e3⟩ := h2
    refine ⟨t, ?_⟩
    rw [e3, List.getD_eq_getElem?_getD, hj] <;> rfl
  refine PySem.call_sum_walkAnyS (wpAny_pyIter_values (v := s1.heap.objs.size) (d := a) ⟨_, Heap.get?_push_size _ rfl, rfl, rfl⟩ dat1 ?_)
  have hlt : a < s1.heap.objs.size := Heap.lt_size ho
  have hsz : (s1.heap.push { cls := .type "dict_values", data := .fields #[.ref a] }).objs.size = s1.heap.objs.size + 1 := Heap.size_push _ _
  refine ⟨_, _, _, _, _, _, _, _, rfl, (Walks.dictValues (knd := mixKind X.prog X.w) (A := X.A.in1) (I.ok.hd hc) (s1.heap.push { cls := .type "dict_values", data := .fields #[.ref a] }).objs.size a (by rw [hsz]; exact Nat.ne_of_lt (Nat.lt_succ_of_lt hlt)) vs ep).toS,
    ⟨⟨_, Heap.get?_push_size _ rfl, rfl, rfl⟩, dat1.keep fun b u e => Heap.get?_push_of_some _ e⟩, fun b hb => ?_, hval, fun s' t' hmv => ?_⟩
  · show b < ((s1.heap.push _).push _).objs.size
    rw [Heap.size_push, Heap.size_push]
    rw [hsz] at hb
    rcases List.mem_cons.mp hb with e | hb
    · rw [e]
      exact Nat.lt_succ_self _
    · have e : b = a := List.mem_singleton.mp hb
      rw [e]
      exact Nat.lt_succ_of_lt (Nat.lt_succ_of_lt hlt)
  · have hk : ∀ b u, s1.heap.get? b = some u → s'.heap.get? b = some u := fun b u e => hmv.heap b u (fun hmem => by
      have e1 : b = (s1.heap.push { cls := .type "dict_values", data := .fields #[.ref a] }).objs.size := List.mem_singleton.mp hmem
      have e2 := Heap.lt_size e
      rw [hsz] at e1
      rw [e1] at e2
      exact absurd e2 (Nat.not_lt.mpr (Nat.le_succ _))) (Heap.get?_push_of_some _ (k1 b u e))
    rw [Moved.eq_with hmv]
    have es : preSum (fun i => is.getD i 0) vs.length = is.sum := by
      rw [pre_sum is _ (by omega), hlv, List.take_length]
    refine ⟨.int is.sum, H1, I1.kept (t' := s'.toks) hk, ⟨t', ?_⟩, q⟩
    rw [es]
end
end L2
namespace Wk
open PySem PySem.Spec L2 Evl
theorem leD_total {α : Type} [Rp α] [Pd α] : PySem.W.TotalLe (leD (α := α)) := by
  have h : PySem.W.TotalLe (PySem.W.dataLe false (fun c : α => Pd.toD c)) := by
    unfold PySem.W.dataLe
    exact PySem.W.sortLe_total _ _ _
  exact ⟨fun a b c => h.trans a b c, fun a b => h.total a b⟩
/-- neither less than the other: the same -/
class Ti (α : Type) [Rp α] [Pd α] : Prop where
  ti : ∀ {a b : α}, PySem.W.dataLt (Pd.toD a) (Pd.toD b) = false → PySem.W.dataLt (Pd.toD b) (Pd.toD a) = false → a = b
class Tis (τ : Type) [Tp τ] [Pq τ] : Prop where
  ti : ∀ {a b : τ}, PySem.W.rowLt (Pq.toDs a) (Pq.toDs b) = false → PySem.W.rowLt (Pq.toDs b) (Pq.toDs a) = false → a = b
instance : Ti Int := ⟨fun {a b} h1 h2 => by
  have h1 : PySem.W.dataLt (.int a) (.int b) = false := h1
  have h2 : PySem.W.dataLt (.int b) (.int a) = false := h2
  rw [PySem.W.dataLt_int, decide_eq_false_iff_not] at h1 h2
  omega⟩
instance : Ti Str := ⟨fun {a b} h1 h2 => by
  have h1 : PySem.W.dataLt (.str a) (.str b) = false := h1
  have h2 : PySem.W.dataLt (.str b) (.str a) = false := h2
  rw [PySem.W.dataLt_str, decide_eq_false_iff_not] at h1 h2
  refine PySem.W.str_of_cps ?_
  exact List.le_antisymm (List.not_lt.mp h2) (List.not_lt.mp h1)⟩
instance : Tis Unit := ⟨fun _ _ => rfl⟩
instance {α τ : Type} [Rp α] [Tp τ] [Pd α] [Pq τ] [Al α] [Ti α] [Tis τ] : Tis (α × τ) := ⟨fun {a b} h1 h2 => by
  have h1 : PySem.W.rowLt (Pd.toD a.1 :: Pq.toDs a.2) (Pd.toD b.1 :: Pq.toDs b.2) = false := h1
  have h2 : PySem.W.rowLt (Pd.toD b.1 :: Pq.toDs b.2) (Pd.toD a.1 :: Pq.toDs a.2) = false := h2
  unfold PySem.W.rowLt at h1 h2
  rw [PySem.W.dataLt_cons (Al.al _ _)] at h1 h2
  by_cases e : a.1 = b.1
  · have e1 : PyData.eqv (Pd.toD a.1) (Pd.toD b.1) = true := (Pd.eqd _ _).mpr e
    have e2 : PyData.eqv (Pd.toD b.1) (Pd.toD a.1) = true := (Pd.eqd _ _).mpr e.symm
    rw [if_pos e1] at h1
    rw [if_pos e2] at h2
    exact Prod.ext e (Tis.ti h1 h2)
  · rw [if_neg (fun z => e ((Pd.eqd _ _).mp z))] at h1
    rw [if_neg (fun z => e ((Pd.eqd _ _).mp z).symm)] at h2
    exact absurd (Ti.ti h1 h2) e⟩
instance {α τ : Type} [Rp α] [Tp τ] [Pd α] [Pq τ] [Al α] [Ti α] [Tis τ] : Ti (α × τ) := ⟨fun {a b} h1 h2 => by
  have h1 : PySem.W.dataLt (.tuple (Pq.toDs a)) (.tuple (Pq.toDs b)) = false := h1
  have h2 : PySem.W.dataLt (.tuple (Pq.toDs b)) (.tuple (Pq.toDs a)) = false := h2
  rw [PySem.W.dataLt_tuple] at h1 h2
  exact Tis.ti (τ := α × τ) h1 h2⟩
theorem leD_anti {α : Type} [Rp α] [Pd α] [Ti α] {a b : α} (h1 : leD a b = true) (h2 : leD b a = true) : a = b := by
  have h1 : (!PySem.W.dataLt (Pd.toD b) (Pd.toD a)) = true := h1
  have h2 : (!PySem.W.dataLt (Pd.toD a) (Pd.toD b)) = true := h2
  rw [Bool.not_eq_true'] at h1 h2
  exact Ti.ti h2 h1
theorem srtD_perm {α : Type} [Rp α] [Pd α] (xs : List α) : (srtD xs).Perm xs := List.mergeSort_perm xs _
theorem srtD_pw {α : Type} [Rp α] [Pd α] (xs : List α) : (srtD xs).Pairwise (fun a b => leD a b = true) := List.pairwise_mergeSort (fun a b c => leD_total.trans a b c) (fun a b => by have := leD_total.total a b; simpa using this) xs
theorem srtD_one {α : Type} [Rp α] [Pd α] [Ti α] {xs ys : List α} (p : ys.Perm xs) (s : ys.Pairwise (fun a b => leD a b = true)) : ys = srtD xs :=
  List.Perm.eq_of_pairwise (le := fun a b : α => leD a b = true) (fun a b _ _ h1 h2 => leD_anti h1 h2) s (srtD_pw xs) (p.trans (srtD_perm xs).symm)
theorem leD_str (a b : Str) : leD a b = decide (a.cps.toList ≤ b.cps.toList) := by
  have := congrFun (congrFun (PySem.W.dataLe_str (fun c : Str => c)) a) b
  exact this
theorem sortedS_pw : ∀ (ys : List Str), PyProof.Rows.sortedS ys = true → ys.Pairwise (fun a b => leD a b = true) := by
  have key : ∀ (ys : List Str) (p : Str), PyProof.Rows.risingS p ys = true → (p :: ys).Pairwise (fun a b => leD a b = true) := by
    intro ys
    induction ys with
    | nil => exact fun p _ => List.pairwise_singleton _ _
    | cons y ys ih =>
      intro p h
      have h : (!ltCps y.cps.toList p.cps.toList && PyProof.Rows.risingS y ys) = true := h
      rw [Bool.and_eq_true] at h
      have h2 := ih y h.2
      have h1 : leD p y = true := by
        rw [leD_str, decide_eq_true_eq]
        have := h.1
        rw [PyProof.Rows.ltCps_eq, Bool.not_eq_true', decide_eq_false_iff_not] at this
        exact List.not_lt.mp this
      refine List.pairwise_cons.mpr ⟨fun z hz => ?_, h2⟩
      rcases List.mem_cons.mp hz with rfl | hz
      · exact h1
      · exact leD_total.trans _ _ _ h1 ((List.pairwise_cons.mp h2).1 z hz)
  intro ys h
  match ys, h with
  | [], _ => exact List.Pairwise.nil
  | y :: ys, h => exact key ys y h
/-! rules -/
def skO {β : Type} (d : Dc Str β) : Option (List Str) := if d.l.length < 64 then some (srtD (d.l.map (·.1))) else none
def dmO (a b : Int) : Option (Int × Int × Unit) := if 0 < b ∧ b < 1073741824 then some (a / b, a % b, ()) else none
def strIO (n : Int) : Option Str := if n.natAbs.log2 < 1920 then some ((toString n : String) : Str) else none
def zfO (s : Str) (n : Int) : Option Str := if PadOk n = true then some (Txt.zfill s n) else none
section
variable {K : Fg} {F Kn0 : Hp} {sl sl' : List Sl} {ow ow1 ow2 : List Ow} {α β γ τ : Type} [Rp α] [Rp β] [Rp γ] [Tp τ] {ta : TA} {ta1 tb te ti tk : TE} {D : Ends} {t : TS} {i j : Nat} {p : Addr}
theorem ev_sumVals {d : Dc Str Int} (h : EV K F Kn0 sl ow te d) : EV K F Kn0 sl ow (tSumVals te) (d.l.map (·.2)).sum := fun σ Kn H s Q q => h σ Kn H s _ fun v Kn1 H1 g1 r1 => by
  obtain ⟨p, ws, rfl, h3, h4⟩ := r1
  refine ⟨p, ws, d.l.map (·.2), rfl, rd_ex g1.kh h3, ?_, q _ Kn1 H1 g1 rfl⟩
  unfold DK at h4
  clear h3 q h
  generalize d.l = kvs at h4
  induction h4 with
  | nil => rfl
  | cons r _ ih =>
    rw [List.map_cons, List.map_cons, List.map_cons, ih]
    congr 1
    exact r.2
theorem dk_keys {H : Hp} {ws : List (Key × V)} {kvs : List (Str × β)} (h : DK K H ws kvs) : ws.map (·.1) = (kvs.map (·.1)).map Sum.inr := by
  unfold DK at h
  induction h with
  | nil => rfl
  | cons r _ ih =>
    rw [List.map_cons, List.map_cons, List.map_cons, ih]
    congr 1
    exact r.1
theorem sk_fin {d : Dc Str β} {zs : List Str} (hz : skO d = some zs) {Kn H : Hp} {p : Addr} {ws : List (Key × V)} (ek : Ex Kn H) (hp : Rd H p (.dK ws)) (h4 : DK K Kn ws d.l) {Q : VK} (q : RL K Kn H Q zs) : rSortedK [.ref p] H Q := by
  unfold skO at hz
  split at hz
  case isFalse => cases hz
  rename_i hl
  cases hz
  refine ⟨p, ws, d.l.map (·.1), rfl, hp, dk_keys h4, by rw [List.length_map]; exact hl, fun ys l pm so hl2 => ?_⟩
  have e := srtD_one pm (sortedS_pw ys so)
  subst e
  exact q l _ Kn _ (Gr.newU ek hl2) hl2 (fresh_back ek hl2) upd_same (fl_paired _)
theorem rc_sortK {d : Dc Str β} {zs : List Str} (hz : skO d = some zs) : RCL K rSortedK (d, ()) zs := fun Kn H vs ek hv Q q => by
  obtain ⟨v, rfl, l, ws, rfl, h1, h2⟩ := one_arg hv
  exact sk_fin hz ek (rd_ex ek h1) h2 q
theorem en_sortKO {d : Dc Str β} {zs : List Str} (hi : sl[i]? = some (.at p)) (hj : ow[j]? = some (oo p d)) (hz : skO d = some zs) : EN K F Kn0 sl ow (tCB rSortedK (tCons (tVar i) tNil)) zs := fun σ Kn H s Q q => by
  obtain ⟨o, h1, h2⟩ := s.sl.get hi
  obtain ⟨f1, f2, ob, f3, ws, f4, f5⟩ := s.ow.each _ (List.mem_of_getElem? hj)
  subst f4
  exact ⟨.ref p, by rw [h1]; exact congrArg some h2, sk_fin hz s.ek (Rd.of f3) f5 q⟩
theorem rc_divmod {a b : Int} {r : Int × Int × Unit} (h : dmO a b = some r) : RCV K (fun xs H Q => ∃ i j, xs = [.int i, .int j] ∧ CDiv i j ∧ ∀ p, H p = none → Q (.ref p) (upd H p (.tup [.int (i / j), .int (i % j)]))) (a, b, ()) r := fun Kn H vs ek hv Q q => by
  obtain ⟨v, w, rfl, h1, h2⟩ := two_args hv
  cases h1
  cases h2
  unfold dmO at h
  split at h
  case isFalse => cases h
  rename_i hb
  cases h
  exact ⟨a, b, rfl, hb, fun p hp => q _ _ _ (Gr.new ek hp) ⟨p, _, rfl, upd_same, .int (a / b), _, rfl, rfl, .int (a % b), _, rfl, rfl, rfl⟩⟩
theorem rc_strI {n : Int} {r : Str} (h : strIO n = some r) : RCV K (fun xs H Q => ∃ i, xs = [.int i] ∧ i.natAbs.log2 < 1920 ∧ Q (.str (toString i)) H) (n, ()) r := fun Kn H vs ek hv Q q => by
  obtain ⟨v, rfl, h1⟩ := one_arg hv
  cases h1
  unfold strIO at h
  split at h
  case isFalse => cases h
  rename_i hb
  cases h
  exact ⟨n, rfl, hb, q.fl ek⟩
theorem ev_zfill {x r : Str} {n : Int} (h : EV K F Kn0 sl ow te x) (hn : EV K F Kn0 sl ow tb n) (hz : zfO x n = some r) : EV K F Kn0 sl ow (tBM K "str" (fun x xs H Q => ∃ (a : Str) (i : Int), x = .str a ∧ xs = [.int i] ∧ PadOk i = true ∧ Q (.str (Txt.zfill a i)) H) te (tCons tb tNil)) r := fun σ Kn H s Q q =>
  h σ Kn H s _ fun v Kn1 H1 g1 r1 => by
    cases r1
    refine ⟨rfl, hn σ Kn1 H1 (s.grow g1) _ fun w Kn2 H2 g2 r2 => ?_⟩
    cases r2
    unfold zfO at hz
    split at hz
    case isFalse => cases hz
    rename_i hb
    cases hz
    exact ⟨x, n, rfl, rfl, hb, q _ Kn2 H2 (g1.trans g2) rfl⟩
/-- d[k] += c -/
theorem sb_daug {κ : Type} [Rp κ] [Ky κ] [DecidableEq κ] {d d' : Dc κ Int} {k : κ} {y c : Int} (hi : sl[i]? = some (.at p)) (hj : ow[j]? = some (oo p d)) (hk : EV K F Kn0 sl ow tk k) (hy : getD d.l k = some y) (h : EV K F Kn0 sl ow te c) (hx : putO d k (y + c) = some d') (ho : ow.set j (oo p d') = ow1) (n : SN K F Kn0 sl ow1 D) :
    SB K F Kn0 sl ow D (sDAug (tVar i) tk te L2.rAdd) := fun σ Kn H s => by
  obtain ⟨o, h1, h2⟩ := s.sl.get hi
  refine ⟨.ref p, by rw [h1]; exact congrArg some h2, hk σ Kn H s _ fun w Kn1 H1 g1 r1 => ?_⟩
  have s1 := s.grow g1
  obtain ⟨f1, f2, o1, f3, ws, f4, f5⟩ := s1.ow.each _ (List.mem_of_getElem? hj)
  subst f4
  rcases f5.get k with ⟨q1, q2⟩ | ⟨y2, w2, q1, q2, q3⟩
  · rw [q1] at hy
    cases hy
  · rw [q1] at hy
    cases hy
    refine ⟨p, w2, rfl, q2 ▸ Ky.get r1 s1.ek (Rd.of f3), h σ Kn1 H1 s1 _ fun u Kn2 H2 g2 r2 => ?_⟩
    cases r2
    cases q3
    refine ⟨y, c, rfl, rfl, ?_⟩
    have s2 := s1.grow g2
    have f3' : H2 p = some (Ky.ho ws) := g2.hh _ _ f3
    have f2' : Kn2 p = none := g2.sp p (ne_none_of f3) f2
    unfold putO at hx
    split at hx
    case isFalse => cases hx
    rename_i hl
    cases hx
    subst ho
    refine ⟨_, Ky.put (Rp.mono g2.kk r1) s2.ek f3' (by rw [f5.length]; exact lt_line hl), n _ Kn2 _ ?_⟩
    exact s2.writeG hj rfl rfl (Ex.refl _) (upd_in s2.ek f2') (fun q hq _ => upd_ne hq) (fun _ _ h => h) ⟨_, upd_same, _, rfl, DK.put k rfl (DK.mono g2.kk f5)⟩
/-- xs[n] += c -/
theorem sb_augI {xs xs' : List Int} {n a c : Int} {f : Int → Int → Int} (hi : sl[i]? = some (.at p)) (hj : ow[j]? = some (ol p xs)) (hn : EV K F Kn0 sl ow ti n) (ha : atI xs n = some a) (h : EV K F Kn0 sl ow te c) (hx : setI xs n (f a c) = some xs') (ho : ow.set j (ol p xs') = ow1) (k : SN K F Kn0 sl ow1 D) :
    SB K F Kn0 sl ow D (tAugS (tVar i) ti te (rIxL K) (ipI f) rSetL) := fun σ Kn H s => by
  obtain ⟨o, h1, h2⟩ := s.sl.get hi
  refine ⟨.ref p, by rw [h1]; exact congrArg some h2, hn σ Kn H s _ fun w Kn1 H1 g1 r1 => ?_⟩
  cases r1
  have s1 := s.grow g1
  obtain ⟨f1, f2, ws, f3, f4⟩ := s1.ow.each _ (List.mem_of_getElem? hj)
  obtain ⟨u, e, r⟩ := paired_atI f4 ha
  cases r
  refine ⟨p, ws, n, _, rfl, rfl, sq_of f3, e, h σ Kn1 H1 s1 _ fun v Kn2 H2 g2 r2 => ?_⟩
  cases r2
  refine ⟨a, c, rfl, rfl, ?_⟩
  have s2 := s1.grow g2
  have f3' : H2 p = some (.lst ws) := g2.hh _ _ f3
  have f2' : Kn2 p = none := g2.sp p (ne_none_of f3) f2
  unfold setI at hx
  cases em : ixN xs.length n with
  | none => rw [em] at hx; cases hx
  | some m =>
    rw [em] at hx
    cases hx
    subst ho
    refine ⟨p, ws, n, m, rfl, rfl, f3', by rw [paired_len f4]; exact em, k _ Kn2 _ ?_⟩
    exact s2.write hj (Ex.refl _) (upd_in s2.ek f2') (fun q hq _ => upd_ne hq) (fun _ _ h => h) upd_same (paired_set (show rep K Kn2 (V.int (f a c)) (f a c) from rfl) m (paired_mono g2.kk f4))
/-- a dict of one's own: from now on it is known and stays as it is -/
theorem sb_freezeG {κ : Type} [Rp κ] [Ky κ] [DecidableEq κ] {d : Dc κ β} (hi : sl[i]? = some (.at p)) (hj : ow[j]? = some (oo p d)) (hs : sl.set i (sv d) = sl') (ho : ow.eraseIdx j = ow1) (k : SB K F Kn0 sl' ow1 D t) : SB K F Kn0 sl ow D t := fun σ Kn H s => by
  obtain ⟨ob, kp, hp, s1⟩ := s.borrowG hi hj
  subst hs
  subst ho
  exact k σ _ H s1
theorem k_listGet {X : Cx} (h : X.K = K := by rfl) : PGet X (rIxL K) := h ▸ get_list
end
end Wk
namespace Wk
open PySem PySem.Spec L2 Evl
section
variable {X : Cx} {o i value : Expr} {tpos tpos' : Pos} {td ty tv : TE}
theorem k_daug (hu : X.A.units + 64 < cLine) (ho : PE X o td) (hi : PE X i ty) (hv : PE X value tv) (ha : ∀ ov iv new, augStore i ov iv new = (do holding [new, ov, iv] (setItem ov iv new); release [new, ov, iv] []; pure .next)) : PS X (.AugAssign (.Subscript o i tpos) .Add value tpos') (sDAug td ty tv L2.rAdd) := ps_daug (by omega) ho hi hv in_add ha
end
end Wk
/-! Wupd: dict(pairs) and d.update(d2) with tuple keys. -/
namespace L2
open PySem PySem.Spec PyProof.Rows
def mergeT (kvs more : List (List Key × V)) : List (List Key × V) := more.foldl (fun acc kv => putK acc kv.1 kv.2) kvs
theorem length_mergeT : ∀ (more kvs : List (List Key × V)), (mergeT kvs more).length ≤ kvs.length + more.length
  | [], kvs => Nat.le_refl _
  | p :: r, kvs => by
    have h1 := length_mergeT r (putK kvs p.1 p.2)
    have h2 := length_putK kvs p.1 p.2
    show (mergeT (putK kvs p.1 p.2) r).length ≤ _
    rw [List.length_cons]
    omega
theorem KT.merge {H : Hp} : ∀ {more : List (List Key × V)} {ms : List (List Key × Addr × Value)} {kvs : List (List Key × V)} {xs : List (List Key × Addr × Value)}, KT H more ms → KT H kvs xs → KT H (mergeT kvs more) (storedAllH xs ms) := by
  intro more ms kvs xs r
  unfold KT at r
  induction r generalizing kvs xs with
  | nil => intro q; exact q
  | @cons p q ps qs h t ih =>
    intro r0
    have e : KT H (putK kvs p.1 p.2) (storedH xs q.1 q.2.1 q.2.2) := by
      have := r0.put p.1 h.2.1 h.2.2
      rw [← h.1]
      exact this
    exact ih e
section
variable {X : Cx} {pins : List (Addr × Obj)} {σ : St} {H : Hp} {s : Shared}
theorem pairsT_of (I : Inv X pins σ H s) : ∀ {ps : List Addr} {kvs : List (List Key × V)}, Paired (fun p kv => ∃ b, SqT X.K H p [.ref b, kv.2] ∧ H b = some (.tup (kv.1.map kV))) ps kvs →
    ∃ ms : List (List Key × Addr × Value), KT H kvs ms ∧ ms.length = ps.length ∧ ∀ (j : Nat) (m : List Key × Addr × Value), ms[j]? = some m → ∃ p : Addr, ps[j]? = some p ∧ IsTup s.heap p #[.ref m.2.1, m.2.2]
  | _, _, .nil => ⟨[], .nil, rfl, fun j q e => by simp at e⟩
  | _, _, .cons (a := p) (b := kv) h t => by
    obtain ⟨ms, r, hl, hp⟩ := pairsT_of I t
    obtain ⟨b, h1, h2⟩ := h
    obtain ⟨its, rv, ht, _⟩ := I.tuple h1
    obtain ⟨u, y, ei, ru, ry⟩ := vals2 rv
    subst ei
    cases ru
    refine ⟨(kv.1, b, y) :: ms, .cons ⟨rfl, h2, ry⟩ r, by rw [List.length_cons, List.length_cons, hl], fun j m e => ?_⟩
    cases j with
    | zero =>
      have e' : (kv.1, b, y) = m := Option.some.inj e
      subst e'
      exact ⟨p, rfl, ht⟩
    | succ j =>
      obtain ⟨p', e1, e2⟩ := hp j m (by simpa using e)
      exact ⟨p', by simpa using e1, e2⟩
theorem KT.is_all (I : Inv X pins σ H s) : ∀ {kvs : List (List Key × V)} {ms : List (List Key × Addr × Value)}, KT H kvs ms → ∀ x ∈ ms, (tupleKind (mixKind X.prog X.w)).is s.heap x.1 x.2.1 := by
  intro kvs ms q
  unfold KT at q
  induction q with
  | nil => intro x hx; exact nomatch hx
  | @cons p q ps qs hq t ih =>
    intro x hx
    rcases List.mem_cons.mp hx with e | hx
    · subst e
      exact key_of I.hok (by rw [← hq.1]; exact hq.2.1)
    · exact ih x hx
theorem key_stays {P : Program} {w : World} {h h' : Heap} {k : List Key} {b : Addr} (x : (tupleKind (mixKind P w)).is h k b) (e : ∀ o, h.get? b = some o → h'.get? b = some o) : (tupleKind (mixKind P w)).is h' k b := by
  obtain ⟨o, its, n, h1, h2, h3, h4⟩ := x
  exact ⟨o, its, n, e _ h1, h2, h3, h4⟩
theorem key_there {P : Program} {w : World} {h : Heap} {k : List Key} {b : Addr} (x : (tupleKind (mixKind P w)).is h k b) : b < h.objs.size := by
  obtain ⟨o, its, n, h1, h2, h3, h4⟩ := x
  exact Heap.lt_size h1
end
section
variable {X : Cx}
/-- dict(xs), xs a list of pairs whose keys are tuples -/
def rDictT (K : PySem.W.Frag) : List V → Hp → VK → Prop := fun xs H Q => ∃ (a : Addr) (ps : List Addr) (kvs : List (List Key × V)), xs = [.ref a] ∧ SqL K H a (ps.map V.ref) ∧ Paired (fun p kv => ∃ b, SqT K H p [.ref b, kv.2] ∧ H b = some (.tup (kv.1.map kV))) ps kvs ∧
    ∀ p, H p = none → Q (.ref p) (upd H p (.dT (mergeT [] kvs)))
theorem cr_dictT (hcalm : X.calm = true) (hu : X.A.units + 64 < cLine) : CallR X (.type "dict") (rDictT X.K) := by
  intro pins s σ H xs us Q I r q
  obtain ⟨a, ps, kvs, ex, hq, hp, q⟩ := q
  subst ex
  rw [Vals.ref1 r]
  obtain ⟨its, rv, pl, hz⟩ := I.list hq
  have ei := refs_at rv
  subst ei
  rw [List.length_map] at hz
  obtain ⟨ms, rel, hl, hpr⟩ := pairsT_of I hp
  obtain ⟨o, n, ho, hc, hd, hdat⟩ := pl
  have hall := KT.is_all I rel
  have hprs : (ms.map fun m => ((Value.ref m.2.1, m.2.2) : Value × Value)).length = ms.length := List.length_map _
  refine call_dict_pairsH (knd := tupleKind (mixKind X.prog X.w)) (ps := ms) (PairArg.list a (ps.map Value.ref).toArray (fun j => ps.getD j 0) (ms.map fun m => ((Value.ref m.2.1, m.2.2) : Value × Value))) (I.ok.hd hcalm)
    (show X.A.units + 1 + 1 < cLine by omega) ⟨⟨o, n, ho, hc, hd, hdat⟩, by simp [hl], fun j k v e => ?_⟩ ⟨by rw [hprs], fun i key v e => ?_⟩ (fun h' hk x hx => ?_) (by rw [hprs, hl]; exact hz) fun h' tk dd' k => ?_
  · rw [List.getElem?_map] at e
    cases em : ms[j]? with
    | none => rw [em] at e; cases e
    | some m =>
      rw [em] at e
      cases e
      obtain ⟨p, e1, e2⟩ := hpr j m em
      have eg : ps.getD j 0 = p := by rw [List.getD_eq_getElem?_getD, e1]; rfl
      refine ⟨by simp [e1], ?_⟩
      show PairAt s.heap (ps.getD j 0) _ _
      rw [eg]
      exact .inl e2
  · have e : (ms.map fun m => ((Value.ref m.2.1, m.2.2) : Value × Value))[i]? = some (key, v) := e
    rw [List.getElem?_map] at e
    cases em : ms[i]? with
    | none => rw [em] at e; cases e
    | some m =>
      rw [em] at e
      cases e
      exact ⟨m.1, m.2.1, rfl, rfl⟩
  · exact key_stays (hall x hx) fun o e => hk _ o (Nat.ne_of_lt (key_there (hall x hx))) (by simp) e
  · have hm : (s.heap.objs.size == sysModules) = false := beq_eq_false_iff_ne.mpr (Nat.ne_of_gt I.big)
    have hlen : (mergeT [] kvs).length ≤ sizeLine := by
      refine Nat.le_trans (length_mergeT kvs []) ?_
      rw [List.length_nil, Nat.zero_add, Paired.length rel, hl]
      exact hz
    have hf : H s.heap.objs.size = none := I.hok.fresh (Nat.le_refl _)
    obtain ⟨ob, es, ep, hq2, h2, h3, h4, _, h5⟩ := dd'
    have rel2 : KT (upd H s.heap.objs.size (.dT (mergeT [] kvs))) (mergeT [] kvs) (storedAllH [] ms) := (KT.merge rel .nil).keeps fun b ys e => by
      rw [upd_ne (ne_of_none e hf)]
      exact e
    exact ⟨.ref s.heap.objs.size, upd H s.heap.objs.size (.dT (mergeT [] kvs)), I.laid (t' := tk) (fun b o e => k b o (by simp) e) (Nat.le_refl _) ⟨hlen, hm, _, rel2, ob, es, ep, hq2, h2, h3, h4, h5⟩, rfl, q _ hf⟩
/-- d.update(d2), both with tuple keys -/
def rUpdT (P : Program) (w : World) : V → List V → Hp → VK → Prop := fun x xs H Q => ∃ (a o : Addr) (kvs more : List (List Key × V)), x = .ref a ∧ xs = [.ref o] ∧ H a = some (.dT kvs) ∧ H o = some (.dT more) ∧ a ≠ o ∧ kvs.length + more.length ≤ sizeLine ∧
  (kvs ≠ [] ∨ (more.map fun kv => tupleKeyHash (mixKind P w) kv.1).Nodup) ∧ Q .non (upd H a (.dT (mergeT kvs more)))
theorem mt_updT (hu : X.A.units + 64 < cLine) : MtR X "dict.update" (rUpdT X.prog X.w) := by
  intro pins s σ H x xs v us Q I rx rxs h
  obtain ⟨a, o, kvs, more, rfl, rfl, ha, ho, hao, hsz, hap, q⟩ := h
  cases rx
  rw [Vals.ref1 rxs]
  obtain ⟨z1, hd1, xs1, rel1, dd1⟩ := dt_of I.hok ha
  obtain ⟨z2, hd2, xs2, rel2, dd2⟩ := dt_of I.hok ho
  have l1 := Paired.length rel1
  have l2 := Paired.length rel2
  have hall := KT.is_all I rel2
  refine call_update_dictH (knd := tupleKind (mixKind X.prog X.w)) (show X.A.units + 1 < cLine by omega) hao hd2 dd1 dd2 ?_ (by rw [← l1, ← l2]; exact hsz) fun h' dd' _ hs => ?_
  · rcases hap with h | h
    · refine .inl fun e => h ?_
      rw [e] at l1
      exact List.length_eq_zero_iff.mp l1
    · refine .inr ⟨fun x hx => IsTupleKey.typeIs (hall x hx), ?_⟩
      have e : xs2.map (fun x => (tupleKind (mixKind X.prog X.w)).hash x.1) = more.map fun kv => tupleKeyHash (mixKind X.prog X.w) kv.1 := by
        clear h hsz l1 l2 hall dd2 ho q z2
        unfold KT at rel2
        induction rel2 with
        | nil => rfl
        | cons h t ih =>
          rw [List.map_cons, List.map_cons, ih, h.1]
          rfl
      rw [e]
      exact h
  · have hlen : (mergeT kvs more).length ≤ sizeLine := Nat.le_trans (length_mergeT more kvs) hsz
    obtain ⟨ob, es, ep, hq2, h2, h3, h4, _, h5⟩ := dd'
    have rel3 : KT (upd H a (.dT (mergeT kvs more))) (mergeT kvs more) (storedAllH xs1 xs2) := (KT.merge rel2 rel1).keeps fun c ys ec => by
      rw [upd_ne (ne_of ec ha (fun z => nomatch z))]
      exact ec
    exact ⟨.non, upd H a (.dT (mergeT kvs more)), d_write (ob := .dT (mergeT kvs more)) (t' := s.toks) I (by rw [ha]; exact True.intro) hs ⟨ob, hq2⟩ ⟨hlen, hd1, _, rel3, ob, es, ep, hq2, h2, h3, h4, h5⟩, rfl, q⟩
end
end L2
namespace Wk
open PySem PySem.Spec L2 Evl
abbrev C2 := Int × Int × Unit
def hash2 (x : C2) : Int := reduceHash (Builtin.Tuple.tupleHashOf [hashInt x.1, hashInt x.2.1])
def prs {β : Type} (more : List (C2 × β × Unit)) : List (C2 × β) := more.map fun t => (t.1, t.2.1)
open Classical in
noncomputable def updO {β : Type} (d : Dc C2 β) (more : List (C2 × β × Unit)) : Option (Dc C2 β) :=
  if d.l.length + more.length ≤ 900000 ∧ (d.l ≠ [] ∨ ((mergeD [] (prs more)).map fun t => hash2 t.1).Nodup) then some ⟨mergeD d.l (mergeD [] (prs more))⟩ else none
section
variable {K : Fg} {F Kn0 : Hp} {sl : List Sl} {ow ow1 : List Ow} {β : Type} [Rp β] {te : TE} {D : Ends} {i j : Nat} {p : Addr} {P : Program} {w : World}
theorem prs_of {Kn H : Hp} (e : Ex Kn H) : ∀ {vs : List V} {more : List (C2 × β × Unit)}, Paired (rep K Kn) vs more → ∃ (ps : List Addr) (kvs : List (List Key × V)), vs = ps.map V.ref ∧
    Paired (fun p kv => ∃ b, SqT K H p [.ref b, kv.2] ∧ H b = some (.tup (kv.1.map kV))) ps kvs ∧ DK (κ := C2) K Kn kvs (prs more)
  | _, _, .nil => ⟨[], [], rfl, .nil, .nil⟩
  | _, _, .cons (a := v) (b := t) h r => by
    obtain ⟨ps, kvs, e1, e2, e3⟩ := prs_of e r
    obtain ⟨q, ws, rfl, hq, kv, rest, rfl, hk, yv, rest2, rfl, hy, hu⟩ := h
    cases hu
    obtain ⟨b, us, rfl, hb, h3⟩ := hk
    have hus : us = (KT1.keys t.1).map kV := KT1.iff (τ := C2) h3
    subst hus
    refine ⟨q :: ps, (KT1.keys t.1, yv) :: kvs, by rw [e1]; rfl, .cons ⟨b, st_of (e _ _ hq), e _ _ hb⟩ e2, .cons ⟨rfl, hy⟩ e3⟩
theorem DK.mergeT {Kn : Hp} : ∀ {ms : List (List Key × V)} {more : List (C2 × β)} {ws : List (List Key × V)} {kvs : List (C2 × β)}, DK (κ := C2) K Kn ms more → DK (κ := C2) K Kn ws kvs → DK (κ := C2) K Kn (L2.mergeT ws ms) (mergeD kvs more) := by
  intro ms more ws kvs h
  unfold DK at h
  induction h generalizing ws kvs with
  | nil => exact fun h => h
  | @cons w kv ms more h t ih =>
    intro q
    refine ih ?_
    show DK (κ := C2) K Kn (putK ws w.1 w.2) (putD kvs kv.1 kv.2)
    rw [h.1]
    exact DK.put kv.1 h.2 q
theorem DK.hash {Kn : Hp} : ∀ {ms : List (List Key × V)} {more : List (C2 × β)}, DK (κ := C2) K Kn ms more → (ms.map fun kv => tupleKeyHash (mixKind P w) kv.1) = more.map fun t => hash2 t.1 := by
  intro ms more h
  unfold DK at h
  induction h with
  | nil => rfl
  | cons h t ih =>
    rw [List.map_cons, List.map_cons, ih, h.1]
    rfl
theorem sb_upd {d d' : Dc C2 β} {more : List (C2 × β × Unit)} (hi : sl[i]? = some (.at p)) (hj : ow[j]? = some (oo p d)) (h : EV K F Kn0 sl ow te more) (hx : updO d more = some d') (ho : ow.set j (oo p d') = ow1) (n : SN K F Kn0 sl ow1 D) :
    SB K F Kn0 sl ow D (tDrop (tBM K "dict" (rUpdT P w) (tVar i) (tCons (tCB (rDictT K) (tCons te tNil)) tNil))) := fun σ Kn H s => by
  obtain ⟨o, h1, h2⟩ := s.sl.get hi
  obtain ⟨f1, f2, o1, f3, ws, f4, f5⟩ := s.ow.each _ (List.mem_of_getElem? hj)
  subst f4
  have f3 : H p = some (.dT ws) := f3
  unfold updO at hx
  split at hx
  · case isTrue hc =>
    cases hx
    subst ho
    refine ⟨.ref p, by rw [h1]; exact congrArg some h2, .inr (.inr (.inl ⟨rfl, .inr ⟨ws, f3⟩⟩)), h σ Kn H s _ fun v Kn1 H1 g1 r1 => ?_⟩
    obtain ⟨a, vs, rfl, ha, hv⟩ := r1
    obtain ⟨ps, kvs, rfl, e2, e3⟩ := prs_of g1.kh hv
    refine ⟨a, ps, kvs, rfl, sq_of (g1.kh _ _ ha), e2, fun p2 hp2 => ?_⟩
    have s1 := s.grow g1
    have g2 : Gr Kn1 H1 Kn1 (upd H1 p2 (.dT (L2.mergeT [] kvs))) := Gr.newU g1.kh hp2
    have s2 := s1.grow g2
    have hp1 : H1 p = some (.dT ws) := g1.hh _ _ f3
    have hne : p ≠ p2 := fun z => by
      rw [z, hp2] at hp1
      cases hp1
    have hH2 : (upd H1 p2 (.dT (L2.mergeT [] kvs))) p = some (.dT ws) := by
      rw [upd_ne hne]
      exact hp1
    have f6 : DK (κ := C2) K Kn1 ws d.l := DK.mono g1.kk f5
    have e4 : DK (κ := C2) K Kn1 (L2.mergeT [] kvs) (mergeD [] (prs more)) := DK.mergeT e3 .nil
    have l1 : ws.length = d.l.length := f6.length
    have l2 : kvs.length = more.length := by
      rw [e3.length]
      exact List.length_map _
    have l3 := length_mergeT kvs []
    rw [List.length_nil] at l3
    have kp : Kn1 p = none := g1.sp p (ne_none_of f3) f2
    refine ⟨p, p2, ws, L2.mergeT [] kvs, rfl, rfl, hH2, upd_same, hne, ?_, ?_, n _ Kn1 _ ?_⟩
    · have hs : sizeLine ≥ 1000000 := by rw [sizeLine_eq]; decide
      omega
    · rcases hc.2 with hc | hc
      · refine .inl fun z => hc ?_
        rw [z] at l1
        exact List.length_eq_zero_iff.mp l1.symm
      · refine .inr ?_
        rw [DK.hash e4]
        exact hc
    · exact s2.writeG hj rfl rfl (Ex.refl _) (upd_in s2.ek kp) (fun q hq _ => upd_ne hq) (fun _ _ h => h) ⟨_, upd_same, _, rfl, DK.mergeT e4 f6⟩
  · cases hx
end
section
variable {X : Cx} {K : Fg} {P : Program} {w : World}
theorem k_dictT (hu : X.A.units + 64 < cLine) (hc : X.calm = true := by rfl) (h : X.K = K := by rfl) : CallR X (.type "dict") (rDictT K) := by
  subst h
  exact cr_dictT hc hu
theorem k_updT (hu : X.A.units + 64 < cLine) (h : X.prog = P := by rfl) (hw : X.w = w := by rfl) : MtR X "dict.update" (rUpdT P w) := by
  subst h
  subst hw
  exact mt_updT hu
end
end Wk
namespace Wk
open PySem PySem.Spec L2 Evl
/-- a list with a None put behind -/
structure Nx (α : Type) where
  l : List α
section
variable {K : Fg} {F Kn0 : Hp} {sl : List Sl} {ow ow1 : List Ow} {α γ : Type} [Rp α] [Rp γ] {te : TE} {D : Ends} {i j : Nat} {p : Addr}
instance obNx : Ob (Nx α) where
  ob K H o x := ∃ ws, o = .lst (ws ++ [.non]) ∧ Paired (rep K H) ws x.l
  swap e h := by
    obtain ⟨ws, h1, h2⟩ := h
    exact ⟨ws, h1, paired_swap e h2⟩
theorem sb_appN {xs : List α} (hi : sl[i]? = some (.at p)) (hj : ow[j]? = some (ol p xs)) (h : EV K F Kn0 sl ow te Nn.nn) (hz : (if xs.length < 1000000 then some () else none) = some ()) (ho : ow.set j (oo p (Nx.mk xs)) = ow1) (k : SN K F Kn0 sl ow1 D) :
    SB K F Kn0 sl ow D (tDrop (tBM K "list" rAppend (tVar i) (tCons te tNil))) := fun σ Kn H s => by
  obtain ⟨o, h1, h2⟩ := s.sl.get hi
  obtain ⟨f1, f2, ws, f3, f4⟩ := s.ow.each _ (List.mem_of_getElem? hj)
  have hz : xs.length < 1000000 := by
    by_cases e : xs.length < 1000000
    · exact e
    · rw [if_neg e] at hz
      cases hz
  refine ⟨.ref p, by rw [h1]; exact congrArg some h2, Or.inl ⟨rfl, ws, sq_of f3⟩, h σ Kn H s _ fun v Kn1 H1 g1 r1 => ?_⟩
  cases r1
  refine ⟨p, ws, .non, rfl, rfl, g1.hh _ _ f3, by rw [paired_len f4]; exact lt_line hz, k _ Kn1 _ ?_⟩
  have kp1 : Kn1 p = none := g1.sp p (ne_none_of f3) f2
  subst ho
  exact (s.grow g1).writeG hj rfl rfl (Ex.refl _) (upd_in g1.kh kp1) (fun q hq _ => upd_ne hq) (fun _ _ h => h) ⟨_, upd_same, ws, rfl, paired_mono g1.kk f4⟩
theorem cut_snoc (ws : List V) (v : V) : cut (ws ++ [v]) none (some (-(1 : Int))) = ws := by
  unfold cut
  rw [HT.sIx_none, List.drop_zero, Nat.sub_zero]
  have e : HT.sIx (ws ++ [v]).length (ws ++ [v]).length (some (-(1 : Int))) = (-(1 : Int) + ((ws ++ [v]).length : Int)).toNat := rfl
  rw [e, List.length_append, List.length_singleton, show (-(1 : Int) + ((ws.length + 1 : Nat) : Int)).toNat = ws.length by omega]
  exact List.take_left
theorem en_slN {xs : List α} {tl th : TO} (hx : sl[i]? = some (.at p)) (hj : ow[j]? = some (oo p (Nx.mk xs))) (hl : EO K F Kn0 sl ow tl none) (hh : EO K F Kn0 sl ow th (some (-(1 : Int)))) : EN K F Kn0 sl ow (tSl (rSlL K) (tVar i) tl th) xs := fun σ Kn H s Q q => by
  obtain ⟨o, h1, h2⟩ := s.sl.get hx
  obtain ⟨f1, f2, o1, f3, ws, f4, f5⟩ := s.ow.each _ (List.mem_of_getElem? hj)
  subst f4
  have f3 : H p = some (.lst (ws ++ [.non])) := f3
  refine ⟨.ref p, by rw [h1]; exact congrArg some h2, hl σ Kn H s _ fun Kn2 H2 g2 => hh σ Kn2 H2 (s.grow g2) _ fun Kn3 H3 g3 => ?_⟩
  have g := g2.trans g3
  refine ⟨p, ws ++ [.non], rfl, sq_of (g.hh _ _ f3), fun l hl => ?_⟩
  have e : cutV (ws ++ [V.non]) none (some (-(1 : Int))) = ws := cut_snoc ws .non
  exact q l _ Kn3 _ (g.trans (Gr.newU g3.kh hl)) (fresh_back g.hh hl) (fresh_back g3.kh hl) upd_same (by rw [e]; exact paired_mono g.kk f5)
end
end Wk
namespace Wk
open PySem PySem.Spec L2 Evl
/-- more is untouched -/
def Fle (F F' : Hp) : Prop := Ex F F'
section
variable {K : Fg} {F F' Kn0 : Hp} {sl sl' : List Sl} {ow ow0 ow1 : List Ow} {α γ : Type} [Rp α] [Rp γ] {D : Ends} {i j : Nat} {p : Addr}
theorem S.back {σ : L2.St} {Kn H : Hp} (f : Fle F F') (s : S K F' Kn0 sl ow σ Kn H) : S K F Kn0 sl ow σ Kn H :=
  ⟨s.e0, s.ek, Ex.trans f s.ef, fun q h1 h2 => s.sep q (Ex.nn f h1) h2, s.sl, ⟨fun o ho => by
    obtain ⟨h1, h2, h3⟩ := s.ow.each o ho
    exact ⟨fresh_back f h1, h2, h3⟩, s.ow.nd⟩⟩
theorem RT.fr {R : VK} {x : γ} (f : Fle F F') (q : RT K F Kn0 ow0 R x) : RT K F' Kn0 ow0 R x := fun v Kn H s r => q v Kn H (s.back f) r
theorem RN.fr {R : VK} {xs : List γ} (f : Fle F F') (q : RN K F Kn0 ow0 R xs) : RN K F' Kn0 ow0 R xs := fun p ws Kn H s fp kp hp r => q p ws Kn H (s.back f) (fresh_back f fp) kp hp r
/-- for x in xs, xs one's own, not touched on the way and one's own behind it -/
theorem sb_forO {g : TG} {tb : TS} {Sx : Type} {xs : List α} (hi : sl[i]? = some (.at p)) (hj : ow[j]? = some (ol p xs)) (ho : ow.eraseIdx j = ow1)
    (slx : Sx → List Sl) (owx : Sx → List Ow) (gx : α → Sx → List Sl) (js : List Nat) (P : List α → Sx → Prop) (s0 : Sx) (h0 : P xs s0) (le : SlLe sl (slx s0)) (eo : (owx s0).Sublist ow1)
    (hg : ∀ x s, GT K g (slx s) (gx x s) js x)
    (step : ∀ F', Fle F F' → ∀ Kn1, Bs F' Kn0 Kn1 → ∀ x rest s, P (x :: rest) s → ∀ N : L2.St → Hp → Prop, (∀ s', P rest s' → ∀ σ Kn H, S K F' Kn1 (slx s') (owx s') σ Kn H → N σ H) → SB K F' Kn1 (gx x s) (owx s) { D with nx := N, ct := N, bk := D.nx } tb)
    (done : ∀ s, P [] s → SN K F Kn0 (slx s) (ol p xs :: owx s) D) : SB K F Kn0 sl ow D (tFor (iList K (tVar i)) g tb) := fun σ Kn H s => by
  obtain ⟨o, h1, h2⟩ := s.sl.get hi
  obtain ⟨f1, f2, ws, f3, f4⟩ := s.ow.each _ (List.mem_of_getElem? hj)
  have f1 : F p = none := f1
  have f2 : Kn p = none := f2
  have fl : Fle F (upd F p (.lst ws)) := Ex.new f1
  have s1 := s.sub (List.eraseIdx_sublist ow j)
  have no : ∀ o ∈ ow.eraseIdx j, o.ad ≠ p := fun o hm z => by
    obtain ⟨m, hm'⟩ := List.getElem?_of_mem hm
    rw [List.getElem?_eraseIdx] at hm'
    split at hm'
    · have := ow_at s.ow.nd hm' hj z
      omega
    · have := ow_at s.ow.nd hm' hj z
      omega
  have s2 : S K (upd F p (.lst ws)) Kn0 sl (ow.eraseIdx j) σ Kn H := ⟨s1.e0, s1.ek, fun a u h => by
    by_cases hq : a = p
    · subst hq
      rw [upd_same] at h
      rw [← h]
      exact f3
    · rw [upd_ne hq] at h
      exact s1.ef _ _ h, fun q h1 h2 => by
    by_cases hq : q = p
    · rw [hq]
      exact f2
    · rw [upd_ne hq] at h1
      exact s1.sep q h1 h2, s1.sl, ⟨fun o ho => by
        obtain ⟨a1, a2, a3⟩ := s1.ow.each o ho
        refine ⟨?_, a2, a3⟩
        rw [upd_ne (no o ho)]
        exact a1, s1.ow.nd⟩⟩
  have b : Bs (upd F p (.lst ws)) Kn0 Kn := s2.bs
  refine ⟨.ref p, by rw [h1]; exact congrArg some h2, p, rfl, ⟨ws, sq_of f3⟩, ?_⟩
  refine ⟨fun i m σ H => i + m = xs.length ∧ ∃ Kn2 s, P (xs.drop i) s ∧ S K (upd F p (.lst ws)) Kn (slx s) (owx s) σ Kn2 H, ⟨xs.length, by omega, Kn, s0, h0, (s2.rebase.le le).sub (ho ▸ eo)⟩, fun i m σ H hW => ?_⟩
  obtain ⟨em, Kn2, st, hP, hS⟩ := hW
  have hp2 : H p = some (.lst ws) := hS.ef _ _ upd_same
  have f5 : Paired (rep K Kn2) ws xs := paired_mono hS.e0 f4
  by_cases hlt : i < xs.length
  · have hx : xs[i]? = some xs[i] := List.getElem?_eq_getElem hlt
    have hd : xs.drop i = xs[i] :: xs.drop (i + 1) := List.drop_eq_getElem_cons hlt
    rw [hd] at hP
    obtain ⟨v, hv, rv⟩ := paired_at f5 hx
    refine .inr ⟨⟨ws, v, sq_of hp2, hv⟩, fun σ' H' => ∃ Kn2 s, P (xs.drop (i + 1)) s ∧ S K (upd F p (.lst ws)) Kn (slx s) (owx s) σ' Kn2 H', fun σ' H' ⟨Kn', s', h1, h2⟩ => ⟨m - 1, by omega, by omega, Kn', s', h1, h2⟩, fun u H' hy => ?_⟩
    obtain ⟨rfl, f⟩ := hy
    have : v = u := Option.some.inj (hv.symm.trans (f ws (sq_of hp2)))
    subst this
    refine hg _ st σ Kn2 H' v hS.sl hS.ek rv _ fun σ2 h2 _ => ?_
    exact step _ fl Kn b _ _ st hP _ (fun s' hs' σ Kn2 H hS' => ⟨Kn2, s', hs', hS'⟩) σ2 Kn2 H' ⟨hS.e0, hS.ek, hS.ef, hS.sep, h2, hS.ow⟩
  · have hd : xs.drop i = [] := List.drop_eq_nil_of_le (by omega)
    rw [hd] at hP
    refine .inl ⟨⟨ws, sq_of hp2, by rw [paired_len f5]; omega⟩, done st hP σ Kn2 H ?_⟩
    have s3 := (hS.unbase b).back fl
    refine s3.own f1 (hS.sep p (by rw [upd_same]; exact fun z => nomatch z) f2) (fun o ho z => ?_) hp2 f5
    have := (hS.ow.each o ho).1
    rw [z, upd_same] at this
    cases this
end
end Wk
/-! Wpair: a def that tells two new lists in a tuple; a comprehension over a list of one's own -/
namespace Wk
open PySem PySem.Spec L2 Evl
structure PairAt {α β : Type} [Rp α] [Rp β] (K : Fg) (Kn H : Hp) (pt p1 p2 : Addr) (xs : List α) (ys : List β) : Prop where
  kt : Kn pt = none
  k1 : Kn p1 = none
  k2 : Kn p2 = none
  ne : p1 ≠ p2
  ht : H pt = some (.tup [.ref p1, .ref p2])
  e1 : ∃ w, H p1 = some (.lst w) ∧ Paired (rep K Kn) w xs
  e2 : ∃ w, H p2 = some (.lst w) ∧ Paired (rep K Kn) w ys
section
variable {α β τ : Type} [Rp α] [Rp β] [Tp τ]
def RP (K : Fg) (Kn H : Hp) (Q : VK) (xs : List α) (ys : List β) : Prop := ∀ pt p1 p2 Kn' H', Gr Kn H Kn' H' → H pt = none → H p1 = none → H p2 = none → PairAt K Kn' H' pt p1 p2 xs ys → Q (.ref pt) H'
def EP (K : Fg) (F Kn0 : Hp) (sl : List Sl) (ow : List Ow) (te : TE) (xs : List α) (ys : List β) : Prop := ∀ σ Kn H, S K F Kn0 sl ow σ Kn H → ∀ Q : VK, RP K Kn H Q xs ys → te σ H Q
def PP (K : Fg) (f : τ → Option (List α × List β × Unit)) : Sp := fun vs H Q _ => ∃ Kn t r, Ex Kn H ∧ rept K Kn vs t ∧ f t = some r ∧ RP K Kn H Q r.1 r.2.1
def RNP (K : Fg) (F Kn0 : Hp) (ow : List Ow) (R : VK) (xs : List α) (ys : List β) : Prop := ∀ pt p1 p2 Kn H, S K F Kn0 [] ow [] Kn H → F pt = none → F p1 = none → F p2 = none → PairAt K Kn H pt p1 p2 xs ys → R (.ref pt) H
end
section
variable {K : Fg} {F F' Kn0 Kn1 : Hp} {sl sl' : List Sl} {ow ow0 ow1 : List Ow} {α β γ τ : Type} [Rp α] [Rp β] [Rp γ] [Tp τ] {ta : TA} {te : TE} {t : τ} {E : XK} {D : Ends} {i j k1 k2 : Nat} {p p1 p2 : Addr} {xs : List α} {ys : List β}
theorem RNP.base {R : VK} (q : RNP K F Kn0 ow R xs ys) (b : Bs F Kn0 Kn1) : RNP K F Kn1 ow R xs ys := fun pt p1 p2 Kn H s => q pt p1 p2 Kn H (s.unbase b)
theorem RNP.fr {R : VK} (f : Fle F F') (q : RNP K F Kn0 ow0 R xs ys) : RNP K F' Kn0 ow0 R xs ys := fun pt p1 p2 Kn H s h1 h2 h3 h4 => q pt p1 p2 Kn H (s.back f) (fresh_back f h1) (fresh_back f h2) (fresh_back f h3) h4
theorem rnp_of {H Kn : Hp} {Q : VK} (q : RP K Kn H Q xs ys) : RNP K H Kn [] Q xs ys := fun pt p1 p2 Kn' H' s h1 h2 h3 h4 => q pt p1 p2 Kn' H' ⟨s.e0, s.ef, s.ek, s.sep⟩ h1 h2 h3 h4
theorem ep_call {f : τ → Option (List α × List β × Unit)} {r : List α × List β × Unit} (h : EA K F Kn0 sl ow ta t) (hf : f t = some r) : EP K F Kn0 sl ow (tCall (PP K f) [] E ta) r.1 r.2.1 := fun σ Kn H s Q q =>
  h σ Kn H s _ fun vs Kn1 H1 g1 r1 => by
    show PP K f (vs ++ []) H1 Q E
    rw [List.append_nil]
    exact ⟨Kn1, t, r, g1.kh, r1, hf, fun pt p1 p2 Kn' H' g' h1 h2 h3 h4 => q pt p1 p2 Kn' H' (g1.trans g') (fresh_back g1.hh h1) (fresh_back g1.hh h2) (fresh_back g1.hh h3) h4⟩
theorem EP.ev (h : EP K F Kn0 sl ow te xs ys) : EV K F Kn0 sl ow te (xs, ys, ()) := fun σ Kn H s Q q => h σ Kn H s Q fun pt p1 p2 Kn' H' g f0 f1 f2 a => by
  obtain ⟨kt, k1, k2, ne, ht, ⟨w1, e1, r1⟩, ⟨w2, e2, r2⟩⟩ := a
  have n1 : pt ≠ p1 := fun z => by rw [z, e1] at ht; cases ht
  have n2 : pt ≠ p2 := fun z => by rw [z, e2] at ht; cases ht
  have ga := g.know f1 k1 e1
  have kb : upd Kn' p1 (.lst w1) p2 = none := by rw [upd_ne (Ne.symm ne)]; exact k2
  have gb := ga.know f2 kb e2
  have kc : upd (upd Kn' p1 (.lst w1)) p2 (.lst w2) pt = none := by rw [upd_ne n2, upd_ne n1]; exact kt
  have gc := gb.know f0 kc ht
  have x1 : Ex Kn' (upd Kn' p1 (.lst w1)) := Ex.new k1
  have x2 : Ex (upd Kn' p1 (.lst w1)) (upd (upd Kn' p1 (.lst w1)) p2 (.lst w2)) := Ex.new kb
  have x3 := Ex.new (o := .tup [.ref p1, .ref p2]) kc
  have x := (x1.trans x2).trans x3
  refine q _ _ H' gc ⟨pt, _, rfl, upd_same, .ref p1, _, rfl, ⟨p1, w1, rfl, ?_, paired_mono x r1⟩, .ref p2, _, rfl, ⟨p2, w2, rfl, ?_, paired_mono x r2⟩, rfl⟩
  · exact x3 _ _ (x2 _ _ upd_same)
  · exact x3 _ _ upd_same
theorem EP.cast {xs' : List α} {ys' : List β} (h : EP K F Kn0 sl ow te xs ys) (e1 : xs = xs') (e2 : ys = ys') : EP K F Kn0 sl ow te xs' ys' := e1 ▸ e2 ▸ h
/-- a, b = f(..), both one's own -/
theorem sb_unpP {sl' : Addr → Addr → List Sl} (hs : ∀ p1 p2, (sl.set i (.at p1)).set j (.at p2) = sl' p1 p2) (h : EP K F Kn0 sl ow te xs ys) (k : ∀ p1 p2, SN K F Kn0 (sl' p1 p2) (ol p1 xs :: ol p2 ys :: ow) D) :
    SB K F Kn0 sl ow D (tAsg te (gTup K 2 (gCons (gName i) (gCons (gName j) gNil)))) := fun σ Kn H s => h σ Kn H s _ fun pt p1 p2 Kn' H' g f0 f1 f2 a => by
  obtain ⟨kt, k1, k2, ne, ht, ⟨w1, e1, r1⟩, ⟨w2, e2, r2⟩⟩ := a
  have s1 := s.grow g
  have s2 := s1.own (fresh_back s.ef f2) k2 (owned_ne s f2) e2 r2
  have s3 := s2.own (p := p1) (fresh_back s.ef f1) k1 (fun o ho z => by
    rcases List.mem_cons.mp ho with rfl | ho
    · exact ne z.symm
    · exact owned_ne s f1 o ho z) e1 r1
  exact ⟨pt, _, rfl, st_of ht, rfl, .ref p1, _, rfl, .ref p2, _, rfl, rfl, k p1 p2 _ Kn' H' (hs p1 p2 ▸ (s3.seta (p := p1) i).seta (p := p2) j)⟩
/-- return (a, b), both one's own -/
theorem sb_retP {R : VK} (hi : sl[i]? = some (.at p1)) (hj : sl[j]? = some (.at p2)) (h1 : ow[k1]? = some (ol p1 xs)) (h2 : ow[k2]? = some (ol p2 ys)) (hk : k1 ≠ k2) (q : RNP K F Kn0 ow0 R xs ys) (l : ow0.Sublist ow) (hR : D.rt = R := by rfl) :
    SB K F Kn0 sl ow D (tRet (tTup (tCons (tVar i) (tCons (tVar j) tNil)))) := fun σ Kn H s => by
  subst hR
  obtain ⟨o1, a1, a2⟩ := s.sl.get hi
  obtain ⟨o2, b1, b2⟩ := s.sl.get hj
  obtain ⟨f1, f2, w1, f3, f4⟩ := s.ow.each _ (List.mem_of_getElem? h1)
  obtain ⟨g1, g2, w2, g3, g4⟩ := s.ow.each _ (List.mem_of_getElem? h2)
  have f1 : F p1 = none := f1
  have f2 : Kn p1 = none := f2
  have g1 : F p2 = none := g1
  have g2 : Kn p2 = none := g2
  have ne : p1 ≠ p2 := fun z => hk (ow_at s.ow.nd h1 h2 z)
  refine ⟨.ref p1, by rw [a1]; exact congrArg some a2, .ref p2, by rw [b1]; exact congrArg some b2, by show 2 ≤ sizeLine; exact le_line (by decide), fun pt hp => ?_⟩
  have g : Gr Kn H Kn (upd H pt (.tup [.ref p1, .ref p2])) := Gr.newU s.ek hp
  exact q pt p1 p2 Kn _ ((s.grow g).sub l).fin (fresh_back s.ef hp) f1 g1 ⟨fresh_back s.ek hp, f2, g2, ne, upd_same, ⟨w1, g.hh _ _ f3, f4⟩, ⟨w2, g.hh _ _ g3, g4⟩⟩
/-- [.. for x in xs], xs one's own -/
theorem en_lcO {xs : List β} {zs : List γ} {c : β → Option Bool} {f : β → Option γ} {g : TG} {js vs : List Nat} {tt : TT} (hi : sl[i]? = some (.at p)) (hjw : ow[j]? = some (ol p xs)) (gx : β → List Sl) (hm : lcM c f xs = some zs) (hv : ∀ j ∈ vs, sl[j]? = some .any) (hg : ∀ x, GT K g sl (gx x) js x) (hj : ∀ j ∈ js, j ∈ vs)
    (ht : ∀ p (acc : List γ) x b, c x = some b → ET K F Kn0 (gx x) (ol p acc :: ow) tt b) (he : ∀ p (acc : List γ) x z, c x = some true → f x = some z → EV K F Kn0 (gx x) (ol p acc :: ow) te z) :
    EN K F Kn0 sl ow (tLc (iList K (tVar i)) g tt te vs) zs := fun σ Kn H s Q q => by
  unfold lcM at hm
  split at hm
  case isFalse => cases hm
  rename_i hlen
  obtain ⟨o1, a1, a2⟩ := s.sl.get hi
  obtain ⟨b1, b2, w0, b3, b4⟩ := s.ow.each _ (List.mem_of_getElem? hjw)
  refine ⟨.ref p, by rw [a1]; exact congrArg some a2, p, rfl, ⟨w0, sq_of b3⟩, fun D hD => ?_⟩
  have kD : Kn D = none := fresh_back s.ek hD
  have fD : F D = none := fresh_back s.ef hD
  have W : ∀ i Kn' H', Gr Kn H Kn' H' → (∀ x, xs[i]? = some x → (Itl K p).go i H' ∧ ∀ v H2, (Itl K p).yld i H' v H2 → ∃ Kn2, Gr Kn' H' Kn2 H2 ∧ rep K Kn2 v x) ∧ (xs.length ≤ i → (Itl K p).stop i H') := fun i Kn' H' gr => by
    have hq : SqL K H' p w0 := sq_of (gr.hh _ _ b3)
    refine ⟨fun x hx => ?_, fun hl => ⟨w0, hq, by rw [paired_len b4]; exact hl⟩⟩
    obtain ⟨v, hv, rv⟩ := paired_at b4 hx
    refine ⟨⟨w0, v, hq, hv⟩, fun u H2 hy => ?_⟩
    obtain ⟨rfl, f⟩ := hy
    have : v = u := Option.some.inj (hv.symm.trans (f w0 hq))
    subst this
    exact ⟨Kn', Gr.refl gr.kh, Rp.mono gr.kk rv⟩
  refine ⟨fun i m H' => i + m = xs.length ∧ ∃ Kn' ws acc rest, Gr Kn H Kn' H' ∧ Kn' D = none ∧ H' D = some (.lst ws) ∧ Paired (rep K Kn') ws acc ∧ acc.length ≤ i ∧ lcGo c f (xs.drop i) = some rest ∧ acc ++ rest = zs,
    ⟨xs.length, by omega, Kn, [], [], zs, (Gr.newU s.ek hD), kD, upd_same, .nil, Nat.le_refl _, hm, rfl⟩, fun i m H' hW => ?_⟩
  obtain ⟨em, Kn', ws, acc, rest, gr, kD', hD', rp, hal, hrest, hz⟩ := hW
  have s' : S K F Kn0 sl (ol D acc :: ow) σ Kn' H' := (s.grow gr).own fD kD' (owned_ne s hD) hD' rp
  by_cases hlt : i < xs.length
  · have hx : xs[i]? = some xs[i] := List.getElem?_eq_getElem hlt
    have hd : xs.drop i = xs[i] :: xs.drop (i + 1) := List.drop_eq_getElem_cons hlt
    rw [hd] at hrest
    obtain ⟨b, hb, hrest⟩ := bind_some hrest
    obtain ⟨go, yl⟩ := (W i Kn' H' gr).1 _ hx
    refine .inr ⟨go, fun H'' => ∃ Kn' ws acc rest, Gr Kn H Kn' H'' ∧ Kn' D = none ∧ H'' D = some (.lst ws) ∧ Paired (rep K Kn') ws acc ∧ acc.length ≤ i + 1 ∧ lcGo c f (xs.drop (i + 1)) = some rest ∧ acc ++ rest = zs, fun H'' h => ⟨m - 1, by omega, by omega, h⟩, fun v H2 hy => ?_⟩
    obtain ⟨Kn2, g2, rv⟩ := yl v H2 hy
    have s2 := (s'.grow g2).wipe hv
    refine hg _ _ Kn2 H2 v s2.sl s2.ek rv _ fun σ3 h3 hw3 => ?_
    have s3 := s2.slots h3
    have hDn : H' D ≠ none := ne_none_of hD'
    refine ⟨(hw3 vs hj).trans ?_, ht D acc _ b hb σ3 Kn2 H2 s3 _ fun Kn3 H3 g3 => ?_⟩
    · have ww : ∀ (vs us : List Nat) (σ : L2.St), (∀ j ∈ vs, j ∈ us) → L2.wipe (L2.wipe σ vs) us = L2.wipe σ us := by
        intro vs
        induction vs with
        | nil => intro us σ _; rfl
        | cons a r ih =>
          intro us σ hh
          show L2.wipe ((L2.wipe σ r).set a none) us = L2.wipe σ us
          rw [wipe_set (hh a List.mem_cons_self)]
          exact ih us σ fun j hj => hh j (List.mem_cons_of_mem _ hj)
      exact ww vs vs σ fun _ h => h
    · have g123 : Gr Kn H Kn3 H3 := (gr.trans g2).trans g3
      have kD3 : Kn3 D = none := (g2.trans g3).sp D hDn kD'
      have hD3 : H3 D = some (.lst ws) := (g2.trans g3).hh _ _ hD'
      cases b with
      | true =>
        obtain ⟨z, hfz, hrest⟩ := bind_some (show (f xs[i]).bind _ = some rest from hrest)
        obtain ⟨zs', hzs, hrest⟩ := bind_some hrest
        cases hrest
        refine iteT (he D acc _ z hb hfz σ3 Kn3 H3 (s3.grow g3) _ fun y Kn4 H4 g4 ry => ?_)
        have g234 := (g2.trans g3).trans g4
        have kD4 : Kn4 D = none := g4.sp D (ne_none_of hD3) kD3
        refine ⟨ws, g4.hh _ _ hD3, by rw [paired_len rp]; exact lt_line (by omega), Kn4, ws ++ [y], acc ++ [z], zs', (gr.trans g234).mut hD kD4, kD4, upd_same, paired_append (paired_mono g234.kk rp) (.cons ry .nil), ?_, hzs, ?_⟩
        · rw [List.length_append, List.length_singleton]; omega
        · rw [List.append_assoc]; exact hz
      | false =>
        have hrest : lcGo c f (xs.drop (i + 1)) = some rest := hrest
        exact iteF ⟨Kn3, ws, acc, rest, g123, kD3, hD3, paired_mono (g2.trans g3).kk rp, by omega, hrest, hz⟩
  · have hd : xs.drop i = [] := List.drop_eq_nil_of_le (by omega)
    rw [hd] at hrest
    cases hrest
    rw [List.append_nil] at hz
    subst hz
    exact .inl ⟨(W i Kn' H' gr).2 (by omega), q D ws Kn' H' gr hD kD' hD' rp⟩
end
end Wk
/-! Wdict: a dict walked (it is locked on the way), its values and pairs; a def that tells a new dict; dict(d); dicts alike -/
namespace L2
open PySem PySem.Spec PyProof.Rows
/-- lock it, or it is locked already -/
def tLk (t : TS) : TS := fun D σ H => tLock t D σ H ∨ t D σ H
def tLkE (t : TE) : TE := fun σ H Q => tLockE t σ H Q ∨ t σ H Q
theorem ps_lk {X : Cx} {st : Stmt} {t : TS} (h : PS X st t) : PS X st (tLk t) := by
  refine ⟨fun pins s σ H D I hw => ?_⟩
  rcases hw with hw | hw
  · exact (ps_lock h).run pins s σ H D I hw
  · exact h.run pins s σ H D I hw
theorem pe_lk {X : Cx} {e : Expr} {t : TE} (h : PE X e t) : PE X e (tLkE t) := by
  refine ⟨fun pins s σ H Q I hw => ?_⟩
  rcases hw with hw | hw
  · exact (pe_lock h).run pins s σ H Q I hw
  · exact h.run pins s σ H Q I hw
section
variable {X : Cx}
def rEqDR (r : Bool) : R2 := fun x y H Q => ∃ a b ks ls, x = .ref a ∧ y = .ref b ∧ Rd H a (.dK ks) ∧ Rd H b (.dK ls) ∧ ks.length = ls.length ∧ (∀ p ∈ ks, valV ls p.1 = some p.2 ∧ flatB p.2 = true) ∧ Q (.bl r) H
theorem op_eq_dictR (hu : X.A.units + 64 < cLine) : OpR X (compareOp .Eq) (rEqDR true) := by
  intro pins s σ H x y v u Q I rx ry h
  obtain ⟨a, b, ks, ls, rfl, rfl, ea, eb, hlen, hp, q⟩ := h
  obtain rfl : v = Value.ref a := rx
  obtain rfl : u = Value.ref b := ry
  obtain ⟨_, ya, va, ra, da⟩ := dk_rd I.hok ea
  obtain ⟨_, yb, vb, rb, db⟩ := dk_rd I.hok eb
  have hl : va.length = vb.length := by rw [← ra.length, ← rb.length]; exact hlen
  exact PySem.W.keq_eq (knd := mixKind X.prog X.w) (r := true) ya yb da db (by omega) (fun _ => hits_all rb ra hp) (fin_bl I q (by simp [hl]))
theorem op_ne_dictR (hu : X.A.units + 64 < cLine) : OpR X (compareOp .NotEq) (rEqDR false) := by
  intro pins s σ H x y v u Q I rx ry h
  obtain ⟨a, b, ks, ls, rfl, rfl, ea, eb, hlen, hp, q⟩ := h
  obtain rfl : v = Value.ref a := rx
  obtain rfl : u = Value.ref b := ry
  obtain ⟨_, ya, va, ra, da⟩ := dk_rd I.hok ea
  obtain ⟨_, yb, vb, rb, db⟩ := dk_rd I.hok eb
  have hl : va.length = vb.length := by rw [← ra.length, ← rb.length]; exact hlen
  exact PySem.W.keq_ne (knd := mixKind X.prog X.w) (r := true) ya yb da db (by omega) (fun _ => hits_all rb ra hp) (fin_bl I q (by simp [hl]))
end
end L2
namespace Wk
open PySem PySem.Spec L2 Evl
/-- where it may be walked, and how its results go back -/
structure Mv (K : Fg) (F Kn0 : Hp) (R : VK) (F' Kn1 : Hp) (R' : VK) : Prop where
  fn : ∀ q, F' q = none → F q = none
  st : ∀ sl ow σ Kn H, S K F' Kn1 sl ow σ Kn H → ∃ Kn' H', S K F Kn0 sl ow σ Kn' H' ∧ (∀ v, R v H' → R' v H) ∧ Sw Kn Kn' ∧ ∀ q, Kn q = none → Kn' q = none ∧ H' q = H q
section
variable {K : Fg} {F Kn0 F' Kn1 : Hp} {R R' : VK} {ow0 : List Ow} {α β : Type} [Rp α] [Rp β]
theorem RT.mv {x : α} (q : RT K F Kn0 ow0 R x) (m : Mv K F Kn0 R F' Kn1 R') : RT K F' Kn1 ow0 R' x := fun v Kn H s r => by
  obtain ⟨Kn', H', s', h1, h2, h3⟩ := m.st _ _ _ _ _ s
  exact h1 v (q v Kn' H' s' (Rp.swap h2 r))
theorem RN.mv {xs : List α} (q : RN K F Kn0 ow0 R xs) (m : Mv K F Kn0 R F' Kn1 R') : RN K F' Kn1 ow0 R' xs := fun p ws Kn H s fp kp hp r => by
  obtain ⟨Kn', H', s', h1, h2, h3⟩ := m.st _ _ _ _ _ s
  exact h1 _ (q p ws Kn' H' s' (m.fn p fp) (h3 p kp).1 ((h3 p kp).2.trans hp) (paired_swap h2 r))
theorem RNP.mv {xs : List α} {ys : List β} (q : RNP K F Kn0 ow0 R xs ys) (m : Mv K F Kn0 R F' Kn1 R') : RNP K F' Kn1 ow0 R' xs ys := fun pt p1 p2 Kn H s f0 f1 f2 a => by
  obtain ⟨Kn', H', s', h1, h2, h3⟩ := m.st _ _ _ _ _ s
  obtain ⟨kt, k1, k2, ne, ht, ⟨w1, e1, r1⟩, ⟨w2, e2, r2⟩⟩ := a
  exact h1 _ (q pt p1 p2 Kn' H' s' (m.fn _ f0) (m.fn _ f1) (m.fn _ f2) ⟨(h3 _ kt).1, (h3 _ k1).1, (h3 _ k2).1, ne, (h3 _ kt).2.trans ht, ⟨w1, (h3 _ k1).2.trans e1, paired_swap h2 r1⟩, ⟨w2, (h3 _ k2).2.trans e2, paired_swap h2 r2⟩⟩)
end
def lk (F : Hp) (p : Addr) (o : HO) : Hp := fun q => if q = p then (if F p = none then none else some o) else F q
theorem lk_ne {F : Hp} {p q : Addr} {o : HO} (h : q ≠ p) : lk F p o q = F q := if_neg h
theorem lk_none {F : Hp} {p q : Addr} {o : HO} : lk F p o q = none ↔ F q = none := by
  by_cases h : q = p
  · subst h
    unfold lk
    rw [if_pos rfl]
    constructor
    · intro h
      split at h
      · assumption
      · cases h
    · intro h
      rw [if_pos h]
  · rw [lk_ne h]
section
variable {K : Fg} {F Kn0 : Hp} {sl sl' : List Sl} {ow ow1 : List Ow} {σ : L2.St} {Kn H Kn1 Kn2 H2 : Hp} {p : Addr} {u : HO} {od : Obj}
theorem sw_lock (hu : isDk u) (hk : Kn p = some u) : Sw Kn (upd Kn p (.frz od u)) := fun q w h => by
  by_cases e : q = p
  · subst e
    rw [hk] at h
    cases h
    exact .inr ⟨od, u, hu, .inl ⟨rfl, upd_same⟩⟩
  · exact .inl (by rw [upd_ne e]; exact h)
theorem sw_unlock (hu : isDk u) (hk : Kn p = some (.frz od u)) : Sw Kn (upd Kn p u) := fun q w h => by
  by_cases e : q = p
  · subst e
    rw [hk] at h
    cases h
    exact .inr ⟨od, u, hu, .inr ⟨rfl, upd_same⟩⟩
  · exact .inl (by rw [upd_ne e]; exact h)
theorem S.lock (s : S K F Kn0 sl ow σ Kn H) (hu : isDk u) (hk : Kn p = some u) : S K (lk F p (.frz od u)) (upd Kn p (.frz od u)) sl ow σ (upd Kn p (.frz od u)) (upd H p (.frz od u)) := by
  refine ⟨Ex.refl _, fun a w h => ?_, fun a w h => ?_, fun _ _ h => h, s.sl.swap (sw_lock hu hk), ⟨fun o ho => ?_, s.ow.nd⟩⟩
  · by_cases e : a = p
    · subst e
      rw [upd_same] at h ⊢
      exact h
    · rw [upd_ne e] at h ⊢
      exact s.ek _ _ h
  · by_cases e : a = p
    · subst e
      unfold lk at h
      rw [if_pos rfl] at h
      split at h
      · cases h
      · rw [upd_same]
        exact h
    · rw [lk_ne e] at h
      rw [upd_ne e]
      exact s.ef _ _ h
  · obtain ⟨h1, h2, h3⟩ := s.ow.each o ho
    have hne : o.ad ≠ p := fun z => by rw [z, hk] at h2; cases h2
    exact ⟨lk_none.mpr h1, by rw [upd_ne hne]; exact h2, Ow.ok_swap (sw_lock hu hk) (upd_ne hne) h3⟩
theorem S.unlock (hu : isDk u) (hk : Kn p = some u) (hF : ∀ o, F p = some o → o = u) (s : S K (lk F p (.frz od u)) (upd Kn p (.frz od u)) sl ow σ Kn2 H2) : S K F Kn sl ow σ (upd Kn2 p u) (upd H2 p u) := by
  have hp : Kn2 p = some (.frz od u) := s.e0 _ _ upd_same
  refine ⟨fun a w h => ?_, fun a w h => ?_, fun a w h => ?_, fun a h1 h2 => ?_, s.sl.swap (sw_unlock hu hp), ⟨fun o ho => ?_, s.ow.nd⟩⟩
  · by_cases e : a = p
    · subst e
      rw [upd_same, ← hk]
      exact h
    · rw [upd_ne e]
      exact s.e0 _ _ (by rw [upd_ne e]; exact h)
  · by_cases e : a = p
    · subst e
      rw [upd_same] at h ⊢
      exact h
    · rw [upd_ne e] at h ⊢
      exact s.ek _ _ h
  · by_cases e : a = p
    · subst e
      rw [hF _ h, upd_same]
    · rw [upd_ne e]
      exact s.ef _ _ (by rw [lk_ne e]; exact h)
  · have e : a ≠ p := fun z => by rw [z, hk] at h2; cases h2
    rw [upd_ne e]
    exact s.sep a (fun z => h1 (lk_none.mp z)) (by rw [upd_ne e]; exact h2)
  · obtain ⟨h1, h2, h3⟩ := s.ow.each o ho
    have hne : o.ad ≠ p := fun z => by rw [z, hp] at h2; cases h2
    exact ⟨lk_none.mp h1, by rw [upd_ne hne]; exact h2, Ow.ok_swap (sw_unlock hu hp) (upd_ne hne) h3⟩
theorem mv_lock {R : VK} (b : Bs F Kn0 Kn) (hu : isDk u) (hk : Kn p = some u) (hF : ∀ o, F p = some o → o = u) (b2 : Bs (lk F p (.frz od u)) (upd Kn p (.frz od u)) Kn1) : Mv K F Kn0 R (lk F p (.frz od u)) Kn1 (fun v H' => H' p = some (.frz od u) ∧ R v (upd H' p u)) := by
  refine ⟨fun q h => lk_none.mp h, fun sl ow σ Kn2 H2 s => ?_⟩
  have s2 := s.unbase b2
  have hp : Kn2 p = some (.frz od u) := s2.e0 _ _ upd_same
  refine ⟨_, _, (S.unlock hu hk hF s2).unbase b, fun v h => ⟨s.ek _ _ hp, h⟩, sw_unlock hu hp, fun q h => ?_⟩
  have e : q ≠ p := fun z => by rw [z, hp] at h; cases h
  rw [upd_ne e, upd_ne e]
  exact ⟨h, rfl⟩
theorem mv_base {R : VK} (b : Bs F Kn0 Kn1) : Mv K F Kn0 R F Kn1 R :=
  ⟨fun _ h => h, fun sl ow σ Kn H s => ⟨Kn, H, s.unbase b, fun _ h => h, fun q u h => .inl h, fun q h => ⟨h, rfl⟩⟩⟩
end
/-! ### what is walked of a dict -/
class KB (κ : Type) [Rp κ] [K1 κ] : Prop where
  back : ∀ {K : Fg} {H : Hp} (a : κ), rep K H (kV (K1.key a)) a
instance : KB Int := ⟨fun _ => rfl⟩
instance : KB Str := ⟨fun _ => rfl⟩
section
variable {κ β γ : Type} [Rp κ] [K1 κ] [KB κ] [Rp β] [Rp γ] {K : Fg} {F Kn0 : Hp} {sl sl' : List Sl} {ow ow1 : List Ow} {σ : L2.St} {Kn H Kn1 : Hp} {p : Addr} {i : Nat}
structure DIt (K : Fg) (i : Nat) (d : Dc κ β) {γ : Type} [Rp γ] (wi : TI) (J : Addr → Obj → List (Key × V) → It) (xs : List γ) : Prop where
  w : ∀ (σ : L2.St) (H : Hp) (R : It → Hp → Prop) (p : Addr) (od : Obj) (ws : List (Key × V)), σ[i]? = some (some (.ref p)) → H p = some (.frz od (.dK ws)) → R (J p od ws) H → wi σ H R
  k : ∀ {Kn : Hp} {p : Addr} {od : Obj} {ws : List (Key × V)}, Kn p = some (.frz od (.dK ws)) → DK K Kn ws d.l → WK K Kn (J p od ws) xs
theorem dk_at {ws : List (Key × V)} {kvs : List (κ × β)} (h : DK K Kn ws kvs) {n : Nat} {y : κ × β} (e : kvs[n]? = some y) : ∃ v, ws[n]? = some (K1.key y.1, v) ∧ rep K Kn v y.2 := by
  unfold DK at h
  induction h generalizing n with
  | nil => cases e
  | @cons w kv ws kvs q t ih =>
    cases n with
    | zero =>
      cases e
      exact ⟨w.2, by rw [List.getElem?_cons_zero]; exact congrArg some (Prod.ext q.1 rfl), q.2⟩
    | succ n =>
      obtain ⟨v, h1, h2⟩ := ih (n := n) e
      exact ⟨v, h1, h2⟩
theorem dit_keys {d : Dc κ β} : DIt K i d (iKeys (tVar i)) Itk (d.l.map (·.1)) := by
  refine ⟨fun σ H R p od ws h1 h2 h3 => ⟨.ref p, h1, p, od, rfl, .inl ⟨ws, h2, h3⟩⟩, fun {Kn p od ws} h1 h2 i Kn' H' e1 e2 => ⟨fun x hx => ?_, fun hl => ⟨e2 _ _ (e1 _ _ h1), ?_⟩⟩⟩
  · rw [List.getElem?_map] at hx
    obtain ⟨y, hy, rfl⟩ := Option.map_eq_some_iff.mp hx
    obtain ⟨v, hv, rv⟩ := dk_at h2 hy
    refine ⟨⟨e2 _ _ (e1 _ _ h1), (List.getElem?_eq_some_iff.mp hv).1⟩, fun u H2 hh => ?_⟩
    obtain ⟨rfl, k, v2, e, rfl⟩ := hh
    rw [hv] at e
    cases e
    exact ⟨Kn', Gr.refl e2, KB.back _⟩
  · have := h2.length
    rw [List.length_map] at hl
    omega
theorem dit_vals {d : Dc κ β} : DIt K i d (iVals (tVar i)) Itd (d.l.map (·.2)) := by
  refine ⟨fun σ H R p od ws h1 h2 h3 => ⟨.ref p, h1, p, od, ws, rfl, h2, h3⟩, fun {Kn p od ws} h1 h2 i Kn' H' e1 e2 => ⟨fun x hx => ?_, fun hl => ⟨e2 _ _ (e1 _ _ h1), ?_⟩⟩⟩
  · rw [List.getElem?_map] at hx
    obtain ⟨y, hy, rfl⟩ := Option.map_eq_some_iff.mp hx
    obtain ⟨v, hv, rv⟩ := dk_at h2 hy
    refine ⟨⟨e2 _ _ (e1 _ _ h1), (List.getElem?_eq_some_iff.mp hv).1⟩, fun u H2 hh => ?_⟩
    obtain ⟨rfl, k, e⟩ := hh
    rw [hv] at e
    cases e
    exact ⟨Kn', Gr.refl e2, Rp.mono e1 rv⟩
  · have := h2.length
    rw [List.length_map] at hl
    omega
def itemsD {κ β : Type} (d : Dc κ β) : List (κ × β × Unit) := d.l.map fun kv => (kv.1, kv.2, ())
theorem dit_items {d : Dc κ β} : DIt K i d (iItems (tVar i)) Iti (itemsD d) := by
  unfold itemsD
  refine ⟨fun σ H R p od ws h1 h2 h3 => ⟨.ref p, h1, p, od, ws, rfl, h2, h3⟩, fun {Kn p od ws} h1 h2 i Kn' H' e1 e2 => ⟨fun x hx => ?_, fun hl => ⟨e2 _ _ (e1 _ _ h1), ?_⟩⟩⟩
  · rw [List.getElem?_map] at hx
    obtain ⟨y, hy, rfl⟩ := Option.map_eq_some_iff.mp hx
    obtain ⟨v, hv, rv⟩ := dk_at h2 hy
    refine ⟨⟨e2 _ _ (e1 _ _ h1), (List.getElem?_eq_some_iff.mp hv).1⟩, fun u H2 hh => ?_⟩
    obtain ⟨T, k, v2, e, rfl, hT, rfl⟩ := hh
    rw [hv] at e
    cases e
    have g : Gr Kn' H' (upd Kn' T (.tup [kV (K1.key y.1), v])) (upd H' T (.tup [kV (K1.key y.1), v])) := Gr.new e2 hT
    exact ⟨_, g, T, _, rfl, upd_same, _, _, rfl, KB.back _, v, [], rfl, Rp.mono (e1.trans g.kk) rv, rfl⟩
  · have := h2.length
    rw [List.length_map] at hl
    omega
theorem DIt.it {d : Dc κ β} {wi : TI} {J : Addr → Obj → List (Key × V) → It} {xs : List γ} (h : DIt K i d wi J xs) {od : Obj} {ws : List (Key × V)} (hk : Kn1 p = some (.frz od (.dK ws))) (r : DK K Kn1 ws d.l) : IT K F Kn1 sl ow (fun σ H R => R (J p od ws) H) xs := fun σ Kn H s R q =>
  q _ Kn H (Gr.refl s.ek) (h.k (s.e0 _ _ hk) (DK.mono s.e0 r))
/-- for x in d, d.values(), d.items() -/
theorem sb_forD {g : TG} {tb : TS} {Sx : Type} {d : Dc κ β} {wi : TI} {J : Addr → Obj → List (Key × V) → It} {xs : List γ} {D : Ends} (hd : DIt K i d wi J xs) (hi : sl[i]? = some (sv d))
    (slx : Sx → List Sl) (owx : Sx → List Ow) (gx : γ → Sx → List Sl) (js : List Nat) (P : List γ → Sx → Prop) (s0 : Sx) (h0 : P xs s0) (le : SlLe sl (slx s0)) (eo : (owx s0).Sublist ow)
    (hg : ∀ x s, GT K g (slx s) (gx x s) js x)
    (step : ∀ F' Kn1 R', Mv K F Kn0 D.rt F' Kn1 R' → ∀ bk x rest s, P (x :: rest) s → ∀ N : L2.St → Hp → Prop, (∀ s', P rest s' → ∀ σ Kn H, S K F' Kn1 (slx s') (owx s') σ Kn H → N σ H) → SB K F' Kn1 (gx x s) (owx s) ⟨N, R', bk, N⟩ tb)
    (done : ∀ s, P [] s → SN K F Kn0 (slx s) (owx s) D) : SB K F Kn0 sl ow D (tLk (tFor wi g tb)) := fun σ Kn H s => by
  obtain ⟨o, h1, v, h2, hv⟩ := s.sl.get hi
  obtain ⟨p, ws, rfl, h3, h4⟩ := hv
  have h3 : Rd Kn p (.dK ws) := h3
  have hσ : σ[i]? = some (some (.ref p)) := by rw [h1, h2]
  rcases h3 with h3 | ⟨od, h3⟩
  · refine .inl ⟨p, .dK ws, s.ek _ _ h3, trivial, fun od => ?_⟩
    have hF : ∀ o, F p = some o → o = .dK ws := fun o e => by
      have e1 := s.ef _ _ e
      rw [s.ek _ _ h3] at e1
      exact (Option.some.inj e1).symm
    have s1 := s.lock (u := .dK ws) (od := od) trivial h3
    refine hd.w σ _ _ p od ws hσ upd_same ?_
    have sw : Sw Kn (upd Kn p (.frz od (.dK ws))) := sw_lock (u := .dK ws) trivial h3
    exact sb_for (wi := fun σ H R => R (J p od ws) H) slx owx gx js P s0 (IT.m (hd.it upd_same (DK.swap sw h4))) h0 le eo hg
      (fun Kn1 b x rest st hP N hN => step _ Kn1 _ (mv_lock (u := .dK ws) s.bs trivial h3 hF b) _ x rest st hP N hN)
      (fun st hP σ2 Kn2 H2 s2 => show _ ∧ _ from ⟨s2.ek _ _ (s2.e0 _ _ upd_same), done st hP σ2 _ _ ((S.unlock (u := .dK ws) trivial h3 hF s2).unbase s.bs)⟩) σ _ _ s1
  · refine .inr (hd.w σ _ _ p od ws hσ (s.ek _ _ h3) ?_)
    exact sb_for (wi := fun σ H R => R (J p od ws) H) slx owx gx js P s0 (IT.m (hd.it h3 h4)) h0 le eo hg
      (fun Kn1 b x rest st hP N hN => step F Kn1 D.rt (mv_base ⟨s.e0.trans b.e, fun q h1 h2 => b.sp q h1 (s.sep q h1 h2)⟩) _ x rest st hP N hN)
      (fun st hP => (done st hP).base s.bs) σ Kn H s.rebase
/-- [.. for x in d] -/
theorem en_lcD {d : Dc κ β} {wi : TI} {J : Addr → Obj → List (Key × V) → It} {xs : List γ} {α : Type} [Rp α] {zs : List α} {c : γ → Option Bool} {f : γ → Option α} {g : TG} {tt : TT} {te : TE} {js vs : List Nat} (hd : DIt K i d wi J xs) (hi : sl[i]? = some (sv d)) (gx : γ → List Sl) (hm : lcM c f xs = some zs) (hv : ∀ j ∈ vs, sl[j]? = some .any) (hg : ∀ x, GT K g sl (gx x) js x) (hj : ∀ j ∈ js, j ∈ vs)
    (ht : ∀ F' Kn1 p (acc : List α) x b, c x = some b → ET K F' Kn1 (gx x) (ol p acc :: ow) tt b) (he : ∀ F' Kn1 p (acc : List α) x z, c x = some true → f x = some z → EV K F' Kn1 (gx x) (ol p acc :: ow) te z) :
    EN K F Kn0 sl ow (tLkE (tLc wi g tt te vs)) zs := fun σ Kn H s Q q => by
  obtain ⟨o, h1, v, h2, hv2⟩ := s.sl.get hi
  obtain ⟨p, ws, rfl, h3, h4⟩ := hv2
  have h3 : Rd Kn p (.dK ws) := h3
  have hσ : σ[i]? = some (some (.ref p)) := by rw [h1, h2]
  rcases h3 with h3 | ⟨od, h3⟩
  · refine .inl ⟨p, .dK ws, s.ek _ _ h3, trivial, fun od => ?_⟩
    have s1 := s.lock (u := .dK ws) (od := od) trivial h3
    refine hd.w σ _ _ p od ws hσ upd_same ?_
    have sw : Sw Kn (upd Kn p (.frz od (.dK ws))) := sw_lock (u := .dK ws) trivial h3
    show tLc (fun σ H R => R (J p od ws) H) g tt te vs σ (upd H p (.frz od (.dK ws))) (fun v H' => H' p = some (.frz od (.dK ws)) ∧ Q v (upd H' p (.dK ws)))
    refine en_lc (wi := fun σ H R => R (J p od ws) H) gx hm (hd.it upd_same (DK.swap sw h4)) hv hg hj (ht _ _) (he _ _) σ _ _ s1 _ fun l ys Kn' H' g hl kl hw rr => ?_
    have e1 : Kn' p = some (.frz od (.dK ws)) := g.kk _ _ upd_same
    have e2 : H' p = some (.frz od (.dK ws)) := g.kh _ _ e1
    have np : l ≠ p := fun z => by rw [z, e1] at kl; cases kl
    refine ⟨e2, q l ys (upd Kn' p (.dK ws)) (upd H' p (.dK ws)) ⟨fun a u h => ?_, fun a u h => ?_, fun a u h => ?_, fun a u h => ?_⟩ ?_ ?_ ?_ (paired_swap (sw_unlock (u := .dK ws) trivial e1) rr)⟩
    · by_cases e : a = p
      · subst e
        rw [upd_same, ← h3]
        exact h
      · rw [upd_ne e]
        exact g.kk _ _ (by rw [upd_ne e]; exact h)
    · by_cases e : a = p
      · subst e
        rw [upd_same, ← s.ek _ _ h3]
        exact h
      · rw [upd_ne e]
        exact g.hh _ _ (by rw [upd_ne e]; exact h)
    · by_cases e : a = p
      · subst e
        rw [upd_same] at h ⊢
        exact h
      · rw [upd_ne e] at h ⊢
        exact g.kh _ _ h
    · have e : a ≠ p := fun z => by rw [z, h3] at h; cases h
      rw [upd_ne e]
      exact g.sp a (by rw [upd_ne e]; exact u) (by rw [upd_ne e]; exact h)
    · rw [upd_ne np] at hl
      exact hl
    · rw [upd_ne np]
      exact kl
    · rw [upd_ne np]
      exact hw
  · refine .inr (hd.w σ _ _ p od ws hσ (s.ek _ _ h3) ?_)
    show tLc (fun σ H R => R (J p od ws) H) g tt te vs σ H Q
    refine en_lc (wi := fun σ H R => R (J p od ws) H) gx hm (hd.it h3 h4) hv hg hj (ht _ _) (he _ _) σ Kn H s.rebase _ fun l ys Kn' H' g hl kl hw rr => ?_
    exact q l ys Kn' H' g hl kl hw rr
end
/-! ### a new object told -/
section
variable {α τ γ : Type} [Rp α] [Tp τ] [Ob γ]
def RG (K : Fg) (Kn H : Hp) (Q : VK) (x : γ) : Prop := ∀ p o Kn' H', Gr Kn H Kn' H' → H p = none → Kn' p = none → H' p = some o → Ob.ob K Kn' o x → Q (.ref p) H'
def EG (K : Fg) (F Kn0 : Hp) (sl : List Sl) (ow : List Ow) (te : TE) (x : γ) : Prop := ∀ σ Kn H, S K F Kn0 sl ow σ Kn H → ∀ Q : VK, RG K Kn H Q x → te σ H Q
def PG (K : Fg) (f : τ → Option γ) : Sp := fun vs H Q _ => ∃ Kn t r, Ex Kn H ∧ rept K Kn vs t ∧ f t = some r ∧ RG K Kn H Q r
def RNG (K : Fg) (F Kn0 : Hp) (ow : List Ow) (R : VK) (x : γ) : Prop := ∀ p o Kn H, S K F Kn0 [] ow [] Kn H → F p = none → Kn p = none → H p = some o → Ob.ob K Kn o x → R (.ref p) H
end
section
variable {K : Fg} {F F' Kn0 Kn1 : Hp} {sl sl' : List Sl} {ow ow0 ow1 : List Ow} {α κ β τ γ : Type} [Rp α] [Rp κ] [Ky κ] [DecidableEq κ] [Rp β] [Tp τ] [Ob γ] {ta : TA} {te : TE} {t : τ} {E : XK} {D : Ends} {i j : Nat} {p : Addr} {x : γ} {R R' : VK}
theorem RNG.base (q : RNG K F Kn0 ow R x) (b : Bs F Kn0 Kn1) : RNG K F Kn1 ow R x := fun p o Kn H s => q p o Kn H (s.unbase b)
theorem RNG.fr (f : Fle F F') (q : RNG K F Kn0 ow0 R x) : RNG K F' Kn0 ow0 R x := fun p o Kn H s h1 h2 h3 h4 => q p o Kn H (s.back f) (fresh_back f h1) h2 h3 h4
theorem RNG.mv (q : RNG K F Kn0 ow0 R x) (m : Mv K F Kn0 R F' Kn1 R') : RNG K F' Kn1 ow0 R' x := fun p o Kn H s fp kp hp r => by
  obtain ⟨Kn', H', s', h1, h2, h3⟩ := m.st _ _ _ _ _ s
  exact h1 _ (q p o Kn' H' s' (m.fn p fp) (h3 p kp).1 ((h3 p kp).2.trans hp) (Ob.swap h2 r))
theorem rng_of {H Kn : Hp} {Q : VK} (q : RG K Kn H Q x) : RNG K H Kn [] Q x := fun p o Kn' H' s h1 h2 h3 h4 => q p o Kn' H' ⟨s.e0, s.ef, s.ek, s.sep⟩ h1 h2 h3 h4
theorem eg_call {f : τ → Option γ} {r : γ} (h : EA K F Kn0 sl ow ta t) (hf : f t = some r) : EG K F Kn0 sl ow (tCall (PG K f) [] E ta) r := fun σ Kn H s Q q =>
  h σ Kn H s _ fun vs Kn1 H1 g1 r1 => by
    show PG K f (vs ++ []) H1 Q E
    rw [List.append_nil]
    exact ⟨Kn1, t, r, g1.kh, r1, hf, fun p o Kn' H' g' h1 h2 h3 h4 => q p o Kn' H' (g1.trans g') (fresh_back g1.hh h1) h2 h3 h4⟩
theorem EG.ev {d : Dc κ β} (h : EG K F Kn0 sl ow te d) : EV K F Kn0 sl ow te d := fun σ Kn H s Q q => h σ Kn H s Q fun p o Kn' H' g hp kp ho r => by
  obtain ⟨ws, rfl, r⟩ := r
  exact q _ (upd Kn' p (Ky.ho ws)) H' (g.know hp kp ho) ⟨p, ws, rfl, Rd.of upd_same, DK.mono (Ex.new kp) r⟩
theorem EG.cast {x y : γ} (h : EG K F Kn0 sl ow te x) (e : x = y) : EG K F Kn0 sl ow te y := e ▸ h
/-- x = e, one's own from now on -/
theorem sb_asgG {sl' : Addr → List Sl} (hs : ∀ p, sl.set i (.at p) = sl' p) (h : EG K F Kn0 sl ow te x) (k : ∀ p, SN K F Kn0 (sl' p) (oo p x :: ow) D) : SB K F Kn0 sl ow D (tAsg te (gName i)) := fun σ Kn H s =>
  h σ Kn H s _ fun p o Kn1 H1 g1 hp kp ho r1 => k p _ Kn1 H1 (hs p ▸ ((s.grow g1).ownG (p := p) (o := oo p x) rfl (fresh_back s.ef hp) kp (owned_ne s hp) ⟨o, ho, r1⟩).seta i)
theorem sb_retG (hi : sl[i]? = some (.at p)) (hj : ow[j]? = some (oo p x)) (q : RNG K F Kn0 ow0 R x) (l : ow0.Sublist ow) (hR : D.rt = R := by rfl) : SB K F Kn0 sl ow D (tRet (tVar i)) := fun σ Kn H s => by
  subst hR
  obtain ⟨o, h1, h2⟩ := s.sl.get hi
  obtain ⟨f1, f2, ob, f3, f4⟩ := s.ow.each _ (List.mem_of_getElem? hj)
  exact ⟨.ref p, by rw [h1]; exact congrArg some h2, q p ob Kn H (s.sub l).fin f1 f2 f3 f4⟩
theorem sb_retE (h : EG K F Kn0 sl ow te x) (q : RNG K F Kn0 ow0 R x) (l : ow0.Sublist ow) (hR : D.rt = R := by rfl) : SB K F Kn0 sl ow D (tRet te) := fun σ Kn H s => by
  subst hR
  exact h σ Kn H s _ fun p o Kn' H' g hp kp ho r => q p o Kn' H' ((s.grow g).sub l).fin (fresh_back s.ef hp) kp ho r
end
/-! ### dict(d), dicts alike, a text many times -/
section
variable {K : Fg} {F Kn0 : Hp} {sl sl' : List Sl} {ow ow1 : List Ow} {κ β : Type} [Rp κ] [K1 κ] [DecidableEq κ] [Rp β] {te : TE} {i j : Nat} {p : Addr}
abbrev rDictD : List V → Hp → VK → Prop := fun xs H Q => ∃ (a : Addr) (kvs : List (Key × V)), xs = [.ref a] ∧ Rd H a (.dK kvs) ∧ ∀ p, H p = none → Q (.ref p) (upd H p (.dK kvs))
theorem eg_dict {d : Dc κ β} (h : EV K F Kn0 sl ow te d) : EG K F Kn0 sl ow (tCB rDictD (tCons te tNil)) d := fun σ Kn H s Q q => h σ Kn H s _ fun v Kn1 H1 g1 r1 => by
  obtain ⟨l, ws, rfl, h1, h2⟩ := r1
  exact ⟨l, ws, rfl, rd_ex g1.kh h1, fun p hp => q p _ Kn1 _ (g1.trans (Gr.newU g1.kh hp)) (fresh_back g1.hh hp) (fresh_back g1.kh hp) upd_same ⟨ws, rfl, h2⟩⟩
theorem eg_dictO {d : Dc κ β} (hi : sl[i]? = some (.at p)) (hj : ow[j]? = some (oo p d)) : EG K F Kn0 sl ow (tCB rDictD (tCons (tVar i) tNil)) d := fun σ Kn H s Q q => by
  obtain ⟨o, h1, h2⟩ := s.sl.get hi
  obtain ⟨f1, f2, ob, f3, ws, rfl, f5⟩ := s.ow.each _ (List.mem_of_getElem? hj)
  exact ⟨.ref p, by rw [h1]; exact congrArg some h2, p, ws, rfl, Rd.of f3, fun l hl => q l _ Kn _ (Gr.newU s.ek hl) hl (fresh_back s.ek hl) upd_same ⟨ws, rfl, f5⟩⟩
/-- {k: v, ..} -/
theorem eg_disp {trs : List (TE × TE)} {kvs : List (κ × β)} (hp : EPs K F Kn0 sl ow trs kvs) (hl : kvs.length ≤ 15) : EG K F Kn0 sl ow (tDisp trs) (Dc.mk (mergeD [] kvs)) := fun σ Kn H s Q q p hp0 => by
  have g0 : Gr Kn H Kn (upd H p (.dK [])) := Gr.newU s.ek hp0
  refine hp σ Kn _ (s.grow g0) _ fun ws Kn1 H1 g1 r1 => ?_
  have e1 : H1 p = some (.dK []) := g1.hh _ _ upd_same
  have kp : Kn1 p = none := g1.sp p (ne_none_of upd_same) (fresh_back s.ek hp0)
  have g : Gr Kn H Kn1 (upd H1 p (.dK (mergeK [] ws))) := ⟨g1.kk, fun a u h => by
    have hne : a ≠ p := fun z => by rw [z, hp0] at h; cases h
    rw [upd_ne hne]
    exact g1.hh _ _ (by rw [upd_ne hne]; exact h), upd_in g1.kh kp, fun a h1 h2 => g1.sp a (Ex.nn g0.hh h1) h2⟩
  exact ⟨e1, ws, rfl, by rw [r1.length]; exact hl, q p _ Kn1 _ g hp0 kp upd_same ⟨_, rfl, DK.merge r1 .nil⟩⟩
instance {κ β : Type} [Rp κ] [K1 κ] [Rp β] : Tn (Dc κ β) := ⟨"dict", fun h => by
  obtain ⟨p, ws, rfl, h1, _⟩ := h
  rcases h1 with h1 | ⟨o, h1⟩
  · exact .base (.dK h1)
  · exact .fDict h1⟩
/-- are the dicts alike? told where they are -/
def eqDO {κ β : Type} [DecidableEq κ] [DecidableEq β] (a b : Dc κ β) : Option Bool := if a.l.length = b.l.length ∧ (a.l.all fun kv => decide (getD b.l kv.1 = some kv.2)) = true then some true else none
class FlB (β : Type) [Rp β] : Prop where
  fb : ∀ {K : Fg} {H : Hp} {v : V} {x : β}, rep K H v x → flatB v = true
  un : ∀ {K : Fg} {H : Hp} {v w : V} {x : β}, rep K H v x → rep K H w x → v = w
instance : FlB Int := ⟨fun h => by cases h; rfl, fun h1 h2 => by cases h1; cases h2; rfl⟩
instance : FlB Str := ⟨fun h => by cases h; rfl, fun h1 h2 => by cases h1; cases h2; rfl⟩
instance : FlB Bool := ⟨fun h => by cases h; rfl, fun h1 h2 => by cases h1; cases h2; rfl⟩
theorem dk_mem {Kn : Hp} {ws : List (Key × V)} {kvs : List (κ × β)} (h : DK K Kn ws kvs) {w : Key × V} (hw : w ∈ ws) : ∃ kv ∈ kvs, w.1 = K1.key kv.1 ∧ rep K Kn w.2 kv.2 := by
  unfold DK at h
  induction h with
  | nil => cases hw
  | cons q t ih =>
    rcases List.mem_cons.mp hw with rfl | hw
    · exact ⟨_, List.mem_cons_self, q⟩
    · obtain ⟨kv, h1, h2⟩ := ih hw
      exact ⟨kv, List.mem_cons_of_mem _ h1, h2⟩
theorem eqD_go [DecidableEq β] [FlB β] {a b : Dc κ β} {r r' : Bool} (h : eqDO a b = some r) {Kn H : Hp} {v w : V} (ek : Ex Kn H) (h1 : rep K Kn v a) (h2 : rep K Kn w b) {Q : VK} (q : Q (.bl r') H) : rEqDR r' v w H Q ∧ r = true := by
  obtain ⟨p1, w1, rfl, a1, a2⟩ := h1
  obtain ⟨p2, w2, rfl, b1, b2⟩ := h2
  unfold eqDO at h
  split at h
  case isFalse => cases h
  rename_i hl
  cases h
  refine ⟨⟨p1, p2, w1, w2, rfl, rfl, rd_ex ek a1, rd_ex ek b1, ?_, fun x hx => ?_, q⟩, rfl⟩
  · rw [a2.length, b2.length]
    exact hl.1
  · obtain ⟨kv, hm, e1, e2⟩ := dk_mem a2 hx
    have g := of_decide_eq_true (List.all_eq_true.mp hl.2 kv hm)
    rcases b2.get kv.1 with ⟨z, _⟩ | ⟨y, v, z1, z2, z3⟩
    · rw [z] at g
      cases g
    · rw [z1] at g
      cases g
      refine ⟨?_, FlB.fb e2⟩
      rw [e1]
      have : valV w2 (K1.key kv.1) = some v := z2
      rw [this, FlB.un e2 z3]
theorem r2_eqD [DecidableEq β] [FlB β] {a b : Dc κ β} {r : Bool} (h : eqDO a b = some r) : R2V K (rEqDR true) a b r := fun Kn H v w ek h1 h2 Q q => by
  obtain ⟨_, e⟩ := eqD_go h ek h1 h2 (r' := true) (Q := fun _ _ => True) trivial
  subst e
  exact (eqD_go h ek h1 h2 (r' := true) (q.fl (z := true) ek)).1
theorem r2_neD [DecidableEq β] [FlB β] {a b : Dc κ β} {r : Bool} (h : eqDO a b = some r) : R2V K (rEqDR false) a b (!r) := fun Kn H v w ek h1 h2 Q q => by
  obtain ⟨_, e⟩ := eqD_go h ek h1 h2 (r' := true) (Q := fun _ _ => True) trivial
  subst e
  exact (eqD_go h ek h1 h2 (r' := false) (q.fl (z := false) ek)).1
end
end Wk
/-! Wopt: None or something; is; a tuple of alike things walked; a tuple of two lists of one's own -/
namespace Wk
open PySem PySem.Spec L2 Evl
/-- never None -/
class NN (α : Type) [Rp α] : Prop where
  nn : ∀ {K : Fg} {H : Hp} {v : V} {a : α}, rep K H v a → v ≠ .non
instance : NN Int := ⟨fun h z => by rw [show _ = V.int _ from h] at z; cases z⟩
instance : NN Bool := ⟨fun h z => by rw [show _ = V.bl _ from h] at z; cases z⟩
instance : NN Str := ⟨fun h z => by rw [show _ = V.str _ from h] at z; cases z⟩
instance {α : Type} [Rp α] : NN (List α) := ⟨fun h z => by
  obtain ⟨p, vs, rfl, _⟩ := h
  cases z⟩
instance {α τ : Type} [Rp α] [Tp τ] : NN (α × τ) := ⟨fun h z => by
  obtain ⟨p, vs, rfl, _⟩ := h
  cases z⟩
inductive Ho {α : Type} [Rp α] : {τ : Type} → [Tp τ] → τ → List α → Prop
  | nil : Ho () []
  | cons {τ : Type} [Tp τ] (x : α) {t : τ} {xs : List α} : Ho t xs → Ho (x, t) (x :: xs)
theorem Ho.get {α : Type} [Rp α] {K : Fg} {H : Hp} {τ : Type} [i : Tp τ] {t : τ} {xs : List α} (h : Ho t xs) : ∀ {vs : List V}, rept K H vs t → Paired (rep K H) vs xs := by
  induction h with
  | nil => intro vs r; cases r; exact .nil
  | cons x _ ih =>
    intro vs r
    obtain ⟨v, r, rfl, h1, h2⟩ := r
    exact .cons h1 (ih h2)
structure P2 where
  a : Addr
  b : Addr
instance : Ob P2 := { ob := fun _ _ o x => o = .tup [.ref x.a, .ref x.b], swap := fun _ h => h }
def appP {α : Type} (c : Bool) (xs ys : List α) (x : α) : Option (List α × List α) := if xs.length < 1000000 ∧ ys.length < 1000000 then some (if c = true then (xs, ys ++ [x]) else (xs ++ [x], ys)) else none
section
variable {K : Fg} {F Kn0 : Hp} {sl sl' : List Sl} {ow ow1 ow2 : List Ow} {α β γ τ : Type} [Rp α] [Rp β] [Rp γ] [Tp τ] {ta tb te tn : TE} {D : Ends} {i j k1 k2 : Nat} {p pt p1 p2 : Addr}
theorem ev_some [NN α] {x : α} (h : EV K F Kn0 sl ow te x) : EV K F Kn0 sl ow te (some x) := fun σ Kn H s Q q => h σ Kn H s Q fun v Kn' H' g r => q v Kn' H' g ⟨NN.nn r, r⟩
theorem ev_unopt {o : Option α} {x : α} (h : EV K F Kn0 sl ow te o) (e : o = some x) : EV K F Kn0 sl ow te x := fun σ Kn H s Q q => h σ Kn H s Q fun v Kn' H' g r => by
  subst e
  exact q v Kn' H' g r.2
theorem r2_isN {o : Option α} : R2V K (fun x y H Q => y = .non ∧ Q (.bl (decide (x = .non))) H) o Nn.nn o.isNone := fun Kn H v w ek h1 h2 Q q => by
  cases h2
  refine ⟨rfl, ?_⟩
  cases o with
  | none =>
    cases h1
    exact q.fl ek
  | some x =>
    rw [decide_eq_false h1.1]
    exact q.fl ek
theorem r2_notN {o : Option α} : R2V K (fun x y H Q => y = .non ∧ Q (.bl (!decide (x = .non))) H) o Nn.nn o.isSome := fun Kn H v w ek h1 h2 Q q => by
  cases h2
  refine ⟨rfl, ?_⟩
  cases o with
  | none =>
    cases h1
    exact q.fl ek
  | some x =>
    rw [decide_eq_false h1.1]
    exact q.fl ek
theorem r2_isB {a b : Bool} : R2V K L2.rIsB a b (decide (a = b)) := fun Kn H v w ek h1 h2 Q q => by
  cases h1
  cases h2
  exact ⟨a, b, rfl, rfl, q.fl ek⟩
theorem r2_notB {a b : Bool} : R2V K L2.rNotB a b (!decide (a = b)) := fun Kn H v w ek h1 h2 Q q => by
  cases h1
  cases h2
  exact ⟨a, b, rfl, rfl, q.fl ek⟩
theorem ev_hom {t : β × τ} {xs : List α} (h : EV K F Kn0 sl ow te t) (ho : Ho t xs) : EV K F Kn0 sl ow te (Tu.mk xs) := fun σ Kn H s Q q => h σ Kn H s Q fun v Kn' H' g r => by
  obtain ⟨p, vs, rfl, h1, h2⟩ := r
  exact q _ Kn' H' g ⟨p, vs, rfl, h1, ho.get h2⟩
/-- an object of one's own becomes known, and is no more named -/
theorem S.lend {σ : L2.St} {Kn H : Hp} {o1 : Ow} {ob : HO} (s : S K F Kn0 sl ow σ Kn H) (hj : ow[j]? = some o1) (hp : H o1.ad = some ob) : S K F Kn0 sl (ow.eraseIdx j) σ (upd Kn o1.ad ob) H := by
  obtain ⟨f1, f2, f3⟩ := s.ow.each _ (List.mem_of_getElem? hj)
  have s1 := s.sub (List.eraseIdx_sublist ow j)
  refine s1.know f1 f2 (fun o hm z => ?_) hp
  obtain ⟨m, hm'⟩ := List.getElem?_of_mem hm
  rw [List.getElem?_eraseIdx] at hm'
  split at hm'
  · have := ow_at s.ow.nd hm' hj z
    omega
  · have := ow_at s.ow.nd hm' hj z
    omega
theorem S.borrowP {σ : L2.St} {Kn H : Hp} {xs ys : List α} (s : S K F Kn0 sl ow σ Kn H) (hi : sl[i]? = some (.at pt)) (hj : ow[j]? = some (oo pt (P2.mk p1 p2))) (h1 : (ow.eraseIdx j)[k1]? = some (ol p1 xs)) (h2 : ((ow.eraseIdx j).eraseIdx k1)[k2]? = some (ol p2 ys)) :
    ∃ Kn', S K F Kn0 (sl.set i (sv ((xs, ys, ()) : List α × List α × Unit))) (((ow.eraseIdx j).eraseIdx k1).eraseIdx k2) σ Kn' H := by
  obtain ⟨o, q1, q2⟩ := s.sl.get hi
  have q2 : o = some (.ref pt) := q2
  obtain ⟨_, a2, ob, a3, a4⟩ := s.ow.each _ (List.mem_of_getElem? hj)
  have a4 : ob = .tup [.ref p1, .ref p2] := a4
  subst a4
  have s1 := s.lend hj a3
  obtain ⟨_, b2, w1, b3, b4⟩ := s1.ow.each _ (List.mem_of_getElem? h1)
  have s2 := s1.lend h1 b3
  obtain ⟨_, c2, w2, c3, c4⟩ := s2.ow.each _ (List.mem_of_getElem? h2)
  have s3 := s2.lend h2 c3
  have x2 : Ex (upd Kn pt (.tup [.ref p1, .ref p2])) (upd (upd Kn pt (.tup [.ref p1, .ref p2])) p1 (.lst w1)) := Ex.new b2
  have x3 : Ex (upd (upd Kn pt (.tup [.ref p1, .ref p2])) p1 (.lst w1)) (upd (upd (upd Kn pt (.tup [.ref p1, .ref p2])) p1 (.lst w1)) p2 (.lst w2)) := Ex.new c2
  have hσ : σ.set i o = σ := by
    refine List.ext_getElem? fun m => ?_
    by_cases e : i = m
    · subst e
      rw [List.getElem?_set_self (List.getElem?_eq_some_iff.mp q1).1, q1]
    · rw [List.getElem?_set_ne e]
  have s4 := s3.set (x := sv ((xs, ys, ()) : List α × List α × Unit)) (o := o) i ⟨.ref pt, q2, pt, _, rfl, (x2.trans x3) _ _ upd_same, .ref p1, _, rfl, ⟨p1, w1, rfl, x3 _ _ upd_same, paired_mono (x2.trans x3) b4⟩, .ref p2, _, rfl, ⟨p2, w2, rfl, upd_same, paired_mono x3 c4⟩, rfl⟩
  rw [hσ] at s4
  exact ⟨_, s4⟩
theorem ev_borP [Fl γ] {z : γ} {xs ys : List α} (hi : sl[i]? = some (.at pt)) (hj : ow[j]? = some (oo pt (P2.mk p1 p2))) (h1 : (ow.eraseIdx j)[k1]? = some (ol p1 xs)) (h2 : ((ow.eraseIdx j).eraseIdx k1)[k2]? = some (ol p2 ys)) (hs : sl.set i (sv ((xs, ys, ()) : List α × List α × Unit)) = sl')
    (ho : ((ow.eraseIdx j).eraseIdx k1).eraseIdx k2 = ow1) (h : EV K F Kn0 sl' ow1 te z) : EV K F Kn0 sl ow te z := fun σ Kn H s Q q => by
  obtain ⟨Kn', s1⟩ := s.borrowP hi hj h1 h2
  subst hs
  subst ho
  exact h σ _ H s1 Q fun v Kn' H' g r => q v Kn H' ⟨Ex.refl _, g.hh, s.ek.trans g.hh, fun _ _ h => h⟩ (Fl.iff.mpr (Fl.iff.mp r))
/-- a = (xs, ys), both new -/
theorem sb_asgPair {xs ys : List α} {sl' : Addr → List Sl} (hs : ∀ p, sl.set i (.at p) = sl' p) (ha : EN K F Kn0 sl ow ta xs) (hb : EN K F Kn0 sl ow tb ys) (k : ∀ pt p1 p2, SN K F Kn0 (sl' pt) (oo pt (P2.mk p1 p2) :: ol p1 xs :: ol p2 ys :: ow) D) :
    SB K F Kn0 sl ow D (tAsg (tTup (tCons ta (tCons tb tNil))) (gName i)) := fun σ Kn H s =>
  ha σ Kn H s _ fun p1 w1 Kn1 H1 g1 hp1 kp1 hw1 r1 => hb σ Kn1 H1 (s.grow g1) _ fun p2 w2 Kn2 H2 g2 hp2 kp2 hw2 r2 => by
    have g12 := g1.trans g2
    have h12 : H2 p1 = some (.lst w1) := g2.hh _ _ hw1
    have k12 : Kn2 p1 = none := g2.sp p1 (ne_none_of hw1) kp1
    have n12 : p1 ≠ p2 := fun z => by rw [← z, hw1] at hp2; cases hp2
    refine ⟨by show ([V.ref p1, V.ref p2] : List V).length ≤ sizeLine; exact le_line (Nat.le_of_ble_eq_true rfl), fun pt hp => ?_⟩
    have g3 := g12.trans (Gr.newU (o := .tup [V.ref p1, V.ref p2]) g12.kh hp)
    have n1 : p1 ≠ pt := fun z => by rw [← z, h12] at hp; cases hp
    have n2 : p2 ≠ pt := fun z => by rw [← z, hw2] at hp; cases hp
    have s3 := s.grow g3
    have u1 : upd H2 pt (.tup [V.ref p1, V.ref p2]) p1 = some (.lst w1) := by rw [upd_ne n1]; exact h12
    have u2 : upd H2 pt (.tup [V.ref p1, V.ref p2]) p2 = some (.lst w2) := by rw [upd_ne n2]; exact hw2
    have o2 := s3.own (p := p2) (fresh_back s.ef (fresh_back g1.hh hp2)) kp2 (owned_ne s (fresh_back g1.hh hp2)) u2 r2
    have o1 := o2.own (p := p1) (fresh_back s.ef hp1) k12 (fun o ho z => by
      rcases List.mem_cons.mp ho with rfl | ho
      · exact n12 z.symm
      · exact owned_ne s hp1 o ho z) u1 (paired_mono g2.kk r1)
    have hpH : H pt = none := fresh_back g12.hh hp
    have o0 := o1.ownG (p := pt) (o := oo pt (P2.mk p1 p2)) rfl (fresh_back s.ef hpH) (fresh_back g12.kh hp) (fun o ho z => by
      rcases List.mem_cons.mp ho with rfl | ho
      · exact n1 z
      · rcases List.mem_cons.mp ho with rfl | ho
        · exact n2 z
        · exact owned_ne s hpH o ho z) ⟨_, upd_same, rfl⟩
    exact k pt p1 p2 _ Kn2 _ (hs pt ▸ o0.seta (p := pt) i)
theorem set_ow {o : Ow} (h : ow[j]? = some o) : ow.set j o = ow := by
  refine List.ext_getElem? fun m => ?_
  by_cases e : j = m
  · subst e
    rw [List.getElem?_set_self (List.getElem?_eq_some_iff.mp h).1, h]
  · rw [List.getElem?_set_ne e]
/-- a[int(c)].append(x) -/
theorem sb_appP {xs ys xs' ys' : List α} {x : α} {c : Bool} (hi : sl[i]? = some (.at pt)) (hj : ow[j]? = some (oo pt (P2.mk p1 p2))) (h1 : ow[k1]? = some (ol p1 xs)) (h2 : ow[k2]? = some (ol p2 ys)) (hn : EV K F Kn0 sl ow tn (if c = true then (1 : Int) else 0)) (h : EV K F Kn0 sl ow te x) (hx : appP c xs ys x = some (xs', ys'))
    (ho : (ow.set k1 (ol p1 xs')).set k2 (ol p2 ys') = ow1) (hk : k1 ≠ k2) (k : SN K F Kn0 sl ow1 D) : SB K F Kn0 sl ow D (tDrop (tBM K "list" rAppend (tOp (rIxT K) (tVar i) tn) (tCons te tNil))) := fun σ Kn H s => by
  obtain ⟨o, q1, q2⟩ := s.sl.get hi
  refine ⟨.ref pt, by rw [q1]; exact congrArg some q2, hn σ Kn H s _ fun v Kn1 H1 g1 r1 => ?_⟩
  have s1 := s.grow g1
  obtain ⟨_, a2, ob, a3, a4⟩ := s1.ow.each _ (List.mem_of_getElem? hj)
  have a4 : ob = .tup [.ref p1, .ref p2] := a4
  subst a4
  cases r1
  obtain ⟨_, b2, w1, b3, b4⟩ := s1.ow.each _ (List.mem_of_getElem? h1)
  obtain ⟨_, c2, w2, c3, c4⟩ := s1.ow.each _ (List.mem_of_getElem? h2)
  unfold appP at hx
  split at hx
  case isFalse => cases hx
  rename_i hl
  have hx := Option.some.inj hx
  subst ho
  cases c with
  | true =>
    have e1 : xs = xs' := congrArg Prod.fst hx
    have e2 : ys ++ [x] = ys' := congrArg Prod.snd hx
    subst e1
    subst e2
    refine ⟨pt, _, 1, .ref p2, rfl, rfl, st_of a3, rfl, Or.inl ⟨rfl, w2, sq_of c3⟩, h σ Kn1 H1 s1 _ fun u Kn2 H2 g2 r2 => ?_⟩
    refine ⟨p2, w2, u, rfl, rfl, g2.hh _ _ c3, by rw [paired_len c4]; exact lt_line hl.2, k _ Kn2 _ ?_⟩
    have kp : Kn2 p2 = none := g2.sp p2 (ne_none_of c3) c2
    rw [set_ow h1]
    exact (s1.grow g2).write h2 (Ex.refl _) (upd_in g2.kh kp) (fun q hq _ => upd_ne hq) (fun _ _ h => h) upd_same (paired_append (paired_mono g2.kk c4) (.cons r2 .nil))
  | false =>
    have e1 : xs ++ [x] = xs' := congrArg Prod.fst hx
    have e2 : ys = ys' := congrArg Prod.snd hx
    subst e1
    subst e2
    refine ⟨pt, _, 0, .ref p1, rfl, rfl, st_of a3, rfl, Or.inl ⟨rfl, w1, sq_of b3⟩, h σ Kn1 H1 s1 _ fun u Kn2 H2 g2 r2 => ?_⟩
    refine ⟨p1, w1, u, rfl, rfl, g2.hh _ _ b3, by rw [paired_len b4]; exact lt_line hl.1, k _ Kn2 _ ?_⟩
    have kp : Kn2 p1 = none := g2.sp p1 (ne_none_of b3) b2
    have e : (ow.set k1 (ol p1 (xs ++ [x]))).set k2 (ol p2 ys) = ow.set k1 (ol p1 (xs ++ [x])) := set_ow (by rw [List.getElem?_set_ne hk]; exact h2)
    rw [e]
    exact (s1.grow g2).write h1 (Ex.refl _) (upd_in g2.kh kp) (fun q hq _ => upd_ne hq) (fun _ _ h => h) upd_same (paired_append (paired_mono g2.kk b4) (.cons r2 .nil))
end
end Wk
/-! Wpour: lists of dicts alike; a tuple of a dict and more alike; d.update(d2) with keys of one piece; a def that tells a new dict and more in a tuple -/
namespace PySem.SeqAt
open AutoSeq1 (wpAny_loadPart')
open MeetsSeq MeetsSeq2 MeetsSeq3 SeqRoads2
section
variable {prog : Program} {w : World}
theorem wk_ne_loop (l b : Addr) (items items2 : Array Value) (n n2 : Nat) (dd dd2 : Option Addr) (sl sl2 : Array (Option Value)) (hsz : items.size = items2.size) (k : Nat) :
    ∀ i : Nat, items.size - i = k → MeetsIn prog w (Builtin.«list.__eq__.loop» ⟨[.ref l, .ref b, rawInt i, rawInt 3], []⟩)
      (fun A R s => s.heap.get? l = some { cls := .type "list", dict := dd, data := .seq items n, slots := sl } ∧ s.heap.get? b = some { cls := .type "list", dict := dd2, data := .seq items2 n2, slots := sl2 } ∧
        (∀ j (h1 : j < items.size) (h2 : j < items2.size), EqP prog w A.in1 s items[j] items2[j] true) ∧
        R (.ok (.ret (.bool false))) s) := by
  induction k with
  | zero =>
    intro i hk A R s h
    obtain ⟨hp, g, d, tk, os⟩ := s; obtain ⟨hl, hb, he, h⟩ := h
    wp_walk using wpAny_loadPart' hl, wpAny_loadPart' hb
    have hi1 : items[((i : Nat) : Int).toNat]? = none := by simp; omega
    have hi2 : items2[((i : Nat) : Int).toNat]? = none := by simp; omega
    rw [hi1, hi2]
    wp_walk using wpAny_loadPart' hl, wpAny_loadPart' hb
    show R (.ok (.ret (.bool (items.size != items2.size)))) _
    rw [hsz]
    simpa using h
  | succ k ih =>
    intro i hk A R s h
    obtain ⟨hp, g, d, tk, os⟩ := s; obtain ⟨hl, hb, he, h⟩ := h
    wp_walk using wpAny_loadPart' hl, wpAny_loadPart' hb
    have hlt : i < items.size := by omega
    have hlt2 : i < items2.size := by omega
    have hi1 : items[((i : Nat) : Int).toNat]? = some items[i] := by simp [hlt]
    have hi2 : items2[((i : Nat) : Int).toNat]? = some items2[i] := by simp [hlt2]
    have hc : ((i : Int) + 1) = ((i + 1 : Nat) : Int) := by push_cast; rfl
    rw [hi1, hi2]
    refine wpAny_bind (he i hlt hlt2 _ _ ?_)
    wp_walk
    rw [hc]
    exact ⟨plainId_quiet plain_eq_loop _, codeAny_builtin entry_eq_loop (by
      rw [Around.under_plainId plain_eq_loop _]
      exact ih (i + 1) (by omega) A R _ ⟨hl, hb, he, h⟩)⟩
theorem wk_list_ne (l b : Addr) (items items2 : Array Value) (n n2 : Nat) (dd dd2 : Option Addr) (sl sl2 : Array (Option Value)) (hsz : items.size = items2.size) :
    MeetsIn prog w (Builtin.«list.__ne__» ⟨[.ref l, .ref b], []⟩)
      (fun A R s => s.heap.get? l = some { cls := .type "list", dict := dd, data := .seq items n, slots := sl } ∧ s.heap.get? b = some { cls := .type "list", dict := dd2, data := .seq items2 n2, slots := sl2 } ∧
        (∀ j (h1 : j < items.size) (h2 : j < items2.size), EqP prog w A.in1 s items[j] items2[j] true) ∧
        R (.ok (.ret (.bool false))) s) := by
  intro A R s h
  obtain ⟨hp, g, d, tk, os⟩ := s; obtain ⟨hl, hb, he, h⟩ := h
  have f3 := AutoSeq1.sub_list_list
  have hne : ¬ (items.size != items2.size) = true := by simp [hsz]
  wp_walk using wpAny_loadPart' hl, wpAny_loadPart' hb
  exact ⟨plainId_quiet plain_eq_loop _, codeAny_builtin entry_eq_loop (by
    rw [Around.under_plainId plain_eq_loop _]
    exact wk_ne_loop l b items items2 n n2 dd dd2 sl sl2 hsz _ 0 rfl A R _ ⟨hl, hb, he, h⟩)⟩
theorem wk_ne_lists {A : Around} {s : Shared} {l b : Addr} {items items2 : Array Value} (hl : s.heap.IsList l items) (hb : s.heap.IsList b items2) (hsz : items.size = items2.size) (hu : A.units < cLine)
    (he : ∀ j (h1 : j < items.size) (h2 : j < items2.size), EqP prog w A.in1 s items[j] items2[j] true) (E Q : Value → Shared → Prop) (h : Q (.bool false) s) : wpAny (model prog w) A (richCompare .NotEq (.ref l) (.ref b)) Q E s := by
  obtain ⟨⟨cls, dd, data, sl⟩, ho, hc, n, hd⟩ := id hl
  obtain ⟨⟨cls2, dd2, data2, sl2⟩, ho2, hc2, n2, hd2⟩ := id hb
  simp only at hc hd hc2 hd2
  subst hc hd hc2 hd2
  have ta : s.TypeIs (.ref l) "list" := ⟨_, ho, rfl⟩
  have tb : s.TypeIs (.ref b) "list" := ⟨_, ho2, rfl⟩
  exact wpAny_richCompare_same_room (op := .NotEq) ta tb F.slot_list_ne (call_meetsIn F.slot_list_ne ta F.entry_list_ne (F.args_list_ne_2 _ _) (wk_list_ne l b items items2 n n2 dd dd2 sl sl2 hsz)
    ⟨ho, ho2, he, show Value.bool false ≠ Value.notImplemented ∧ Q (.bool false) s from ⟨(fun x => nomatch x), h⟩⟩) hu
end
end PySem.SeqAt
namespace L2
open PySem PySem.Spec PyProof.Rows
/-- two dicts alike, or the same flat thing -/
def DDf (H : Hp) (x y : V) : Prop := (x = y ∧ flatB x = true) ∨ ∃ a b ks ls, x = .ref a ∧ y = .ref b ∧ Rd H a (.dK ks) ∧ Rd H b (.dK ls) ∧ ks.length = ls.length ∧ ∀ p ∈ ks, valV ls p.1 = some p.2 ∧ flatB p.2 = true
section
variable {X : Cx}
theorem ddf_eqP {pins : List (Addr × Obj)} {σ : St} {H : Hp} {s : Shared} (I : Inv X pins σ H s) {A : Around} (hu : A.units < cLine) {x y : V} {v u : Value} (h : DDf H x y) (rx : RelV x v) (ry : RelV y u) : SeqAt.EqP X.prog X.w A s v u true := by
  rcases h with ⟨rfl, f⟩ | ⟨a, b, ks, ls, rfl, rfl, ea, eb, hl, hp⟩
  · exact (eqAt_same rx ry f).eqP
  · cases (show v = Value.ref a from rx)
    cases (show u = Value.ref b from ry)
    by_cases e : a = b
    · subst e
      exact (SeqAt.EqAt.same _).eqP
    · obtain ⟨_, ya, va, ra, da⟩ := dk_rd I.hok ea
      obtain ⟨_, yb, vb, rb, db⟩ := dk_rd I.hok eb
      refine SeqAt.eqP_refs e fun E Q q => PySem.W.rcP_dicts (knd := mixKind X.prog X.w) (r := true) ya yb da db hu (fun _ => hits_run (F := fun x y => x = y ∧ flatB x = true) (fun x y v u h rx ry => by
        obtain ⟨rfl, f⟩ := h
        exact (eqAt_same rx ry f).eqP) rb ra fun p hm => ⟨p.2, (hp p hm).1, rfl, (hp p hm).2⟩) E Q ?_
      have e : va.length = vb.length := by rw [← ra.length, ← rb.length]; exact hl
      rw [show (va.length == vb.length && true) = true from by rw [e]; simp]
      exact q
/-- xs != ys, alike -/
def rNeDL (K : PySem.W.Frag) : R2 := fun x y H Q => ∃ a b xs ys, x = .ref a ∧ y = .ref b ∧ SqL K H a xs ∧ SqL K H b ys ∧ Paired (DDf H) xs ys ∧ Q (.bl false) H
theorem ddf_items {pins : List (Addr × Obj)} {σ : St} {H : Hp} {s : Shared} (I : Inv X pins σ H s) {A : Around} (hu : A.units < cLine) : ∀ {xs ys : List V} {us ws : List Value}, Paired (DDf H) xs ys → Vals xs us → Vals ys ws → ∀ (j : Nat) (h1 : j < us.length) (h2 : j < ws.length), SeqAt.EqP X.prog X.w A s us[j] ws[j] true
  | _, _, _, _, .nil, r1, _, j, h1, _ => by
    cases r1
    exact absurd h1 (Nat.not_lt_zero _)
  | _, _, _, _, .cons h t, r1, r2, j, h1, h2 => by
    cases r1 with
    | cons a1 b1 =>
      cases r2 with
      | cons a2 b2 =>
        cases j with
        | zero => exact ddf_eqP I hu h a1 a2
        | succ j => exact ddf_items I hu t b1 b2 j (Nat.lt_of_succ_lt_succ h1) (Nat.lt_of_succ_lt_succ h2)
theorem op_neDL (hu : X.A.units + 64 < cLine) : OpR X (compareOp .NotEq) (rNeDL X.K) := by
  intro pins s σ H x y v u Q I rx ry h
  obtain ⟨a, b, xs, ys, rfl, rfl, ha, hb, hp, q⟩ := h
  cases (show v = Value.ref a from rx)
  cases (show u = Value.ref b from ry)
  obtain ⟨us, r1, p1, _⟩ := I.list ha
  obtain ⟨ws, r2, p2, _⟩ := I.list hb
  have hsz : us.toArray.size = ws.toArray.size := by
    rw [List.size_toArray, List.size_toArray, ← r1.length, ← r2.length]
    exact Paired.length hp
  show wpAny (model X.prog X.w) X.A (richCompare .NotEq _ _) _ _ _
  refine SeqAt.wk_ne_lists p1.isList p2.isList hsz (by omega) (fun j h1 h2 => ?_) _ _ ⟨.bl false, H, I, rfl, q⟩
  have k := ddf_items I (A := X.A.in1) (by show X.A.units + 1 < cLine; omega) hp r1 r2 j (by simpa using h1) (by simpa using h2)
  simpa using k
/-- a == b, two tuples alike -/
def rEqDT (K : PySem.W.Frag) : R2 := fun x y H Q => ∃ a b xs ys, x = .ref a ∧ y = .ref b ∧ SqT K H a xs ∧ SqT K H b ys ∧ Paired (DDf H) xs ys ∧ Q (.bl true) H
theorem op_eqDT (hu : X.A.units + 64 < cLine) : OpR X (compareOp .Eq) (rEqDT X.K) := by
  intro pins s σ H x y v u Q I rx ry h
  obtain ⟨a, b, xs, ys, rfl, rfl, ha, hb, hp, q⟩ := h
  cases (show v = Value.ref a from rx)
  cases (show u = Value.ref b from ry)
  obtain ⟨us, r1, p1, _⟩ := I.tuple ha
  obtain ⟨ws, r2, p2, _⟩ := I.tuple hb
  have hsz : us.toArray.size = ws.toArray.size := by
    rw [List.size_toArray, List.size_toArray, ← r1.length, ← r2.length]
    exact Paired.length hp
  show wpAny (model X.prog X.w) X.A (richCompare .Eq _ _) _ _ _
  refine GQ.rc_tupG hsz (by omega) (fun _ s' => s' = s) p1 p2 (fun i h1 h2 s' e => ?_) (fun s' e => ?_) rfl
  · subst e
    have k := ddf_items I (A := X.A.in1) (by show X.A.units + 1 < cLine; omega) hp r1 r2 i (by simpa using h1) (by simpa using h2)
    have k2 : SeqAt.EqP X.prog X.w X.A.in1 s' us.toArray[i] ws.toArray[i] true := by simpa using k
    exact k2 _ _ ⟨rfl, rfl⟩
  · subst e
    exact ⟨.bl true, H, I, rfl, q⟩
/-- d.update(d2) -/
def rUpdK : V → List V → Hp → VK → Prop := fun x xs H Q => ∃ (a o : Addr) (kvs more : List (Key × V)), x = .ref a ∧ xs = [.ref o] ∧ H a = some (.dK kvs) ∧ Rd H o (.dK more) ∧ a ≠ o ∧ kvs.length + more.length ≤ 1000000 ∧ Q .non (upd H a (.dK (mergeK kvs more)))
theorem length_mergeK' : ∀ (more kvs : List (Key × V)), (mergeK kvs more).length ≤ kvs.length + more.length
  | [], kvs => Nat.le_refl _
  | p :: r, kvs => by
    have h1 := length_mergeK' r (putK kvs p.1 p.2)
    have h2 := length_putK kvs p.1 p.2
    show (mergeK (putK kvs p.1 p.2) r).length ≤ _
    rw [List.length_cons]
    omega
theorem mt_updK : MtR X "dict.update" rUpdK := by
  intro pins s σ H x xs v us Q I rx rxs h
  obtain ⟨a, o, kvs, more, rfl, rfl, ha, ho, hao, hsz, q⟩ := h
  cases rx
  rw [Vals.ref1 rxs]
  obtain ⟨z1, hd1, xs1, rel1, dd1⟩ := dk_of I.hok ha
  obtain ⟨z2, hd2, xs2, rel2, dd2⟩ := dk_rd I.hok ho
  have hs0 : (1000000 : Nat) ≤ sizeLine := by decide
  refine call_meetsIn F.slot_dict_update dd1.typeIs F.entry_dict_update (F.args_dict_update_2 _ _) (meets_dict_update (mixKind X.prog X.w) a o hao hd2) ⟨xs1, xs2, dd1, dd2, by rw [← rel1.length, ← rel2.length]; omega, fun h' d1 d2 hs => ?_⟩
  have he : ∃ q, h'.get? a = some q := let ⟨q, _, _, hq, _⟩ := d1; ⟨q, hq⟩
  exact ⟨.non, upd H a (.dK (mergeK kvs more)), d_write (t' := s.toks) I (by rw [ha]; exact True.intro) hs he (dk_new (by have := length_mergeK' more kvs; omega) hd1 (KV.merge rel2 rel1) d1), rfl, q⟩
end
end L2
namespace Wk
open PySem PySem.Spec L2 Evl
section
variable {K : Fg} {F Kn0 : Hp} {sl sl' : List Sl} {ow ow1 : List Ow} {κ β : Type} [Rp κ] [K1 κ] [DecidableEq κ] [Rp β] [DecidableEq β] [FlB β]
def neLO (a b : List (Dc κ β)) : Option Bool := if a.length = b.length ∧ (List.zipWith (fun x y => decide (eqDO x y = some true)) a b).all id = true then some false else none
theorem ddf_of {a b : Dc κ β} (h : eqDO a b = some true) {Kn H : Hp} {v w : V} (ek : Ex Kn H) (h1 : rep K Kn v a) (h2 : rep K Kn w b) : DDf H v w := by
  obtain ⟨⟨p1, p2, w1, w2, e1, e2, r1, r2, hl, hp, _⟩, _⟩ := eqD_go h ek h1 h2 (r' := true) (Q := fun _ _ => True) trivial
  exact .inr ⟨p1, p2, w1, w2, e1, e2, r1, r2, hl, hp⟩
theorem ddfs_of {Kn H : Hp} (ek : Ex Kn H) : ∀ {a b : List (Dc κ β)} {vs ws : List V}, a.length = b.length → (List.zipWith (fun x y => decide (eqDO x y = some true)) a b).all id = true → Paired (rep K Kn) vs a → Paired (rep K Kn) ws b → Paired (DDf H) vs ws
  | [], [], _, _, _, _, .nil, .nil => .nil
  | x :: xs, y :: ys, _, _, hl, ha, .cons h1 t1, .cons h2 t2 => by
    rw [List.zipWith_cons_cons, List.all_cons, Bool.and_eq_true] at ha
    exact .cons (ddf_of (of_decide_eq_true ha.1) ek h1 h2) (ddfs_of ek (Nat.succ.inj hl) ha.2 t1 t2)
theorem r2_neL {a b : List (Dc κ β)} {r : Bool} (h : neLO a b = some r) : R2V K (rNeDL K) a b r := fun Kn H v w ek h1 h2 Q q => by
  obtain ⟨p1, w1, rfl, a1, a2⟩ := h1
  obtain ⟨p2, w2, rfl, b1, b2⟩ := h2
  unfold neLO at h
  split at h
  case isFalse => cases h
  rename_i hb
  cases h
  exact ⟨p1, p2, w1, w2, rfl, rfl, sq_of (ek _ _ a1), sq_of (ek _ _ b1), ddfs_of ek hb.1 hb.2 a2 b2, q.fl ek⟩
def eqTpO {γ : Type} (a b : Dc κ β × Option γ × Unit) : Option Bool := if eqDO a.1 b.1 = some true ∧ a.2.1.isNone = true ∧ b.2.1.isNone = true then some true else none
theorem r2_eqTp {γ : Type} [Rp γ] {a b : Dc κ β × Option γ × Unit} {r : Bool} (h : eqTpO a b = some r) : R2V K (rEqDT K) a b r := fun Kn H v w ek h1 h2 Q q => by
  obtain ⟨p1, w1, rfl, a1, v1, r1, rfl, a2, v2, r2, rfl, a3, a4⟩ := h1
  obtain ⟨p2, w2, rfl, b1, u1, s1, rfl, b2, u2, s2, rfl, b3, b4⟩ := h2
  cases a4
  cases b4
  unfold eqTpO at h
  split at h
  case isFalse => cases h
  rename_i hb
  cases h
  obtain ⟨e1, e2, e3⟩ := hb
  obtain ⟨a, ao, ⟨⟩⟩ := a
  obtain ⟨b, bo, ⟨⟩⟩ := b
  cases ao with
  | some x => cases e2
  | none =>
    cases bo with
    | some x => cases e3
    | none =>
      have a3 : v2 = .non := a3
      have b3 : u2 = .non := b3
      subst a3 b3
      exact ⟨p1, p2, _, _, rfl, rfl, st_of (ek _ _ a1), st_of (ek _ _ b1), .cons (ddf_of e1 ek a2 b2) (.cons (.inl ⟨rfl, rfl⟩) .nil), q.fl ek⟩
end
section
variable {K : Fg} {F Kn0 : Hp} {sl sl' : List Sl} {ow ow1 : List Ow} {κ β : Type} [Rp κ] [K1 κ] [DecidableEq κ] [Rp β] {te : TE} {D : Ends} {i j : Nat} {p : Addr}
theorem eg_new : EG K F Kn0 sl ow tDNewK (Dc.mk ([] : List (κ × β))) := fun σ Kn H s Q q p hp => q p _ Kn _ (Gr.newU s.ek hp) hp (fresh_back s.ek hp) upd_same ⟨[], rfl, .nil⟩
def updK (d e : Dc κ β) : Option (Dc κ β) := if d.l.length + e.l.length ≤ 1000000 then some ⟨mergeD d.l e.l⟩ else none
theorem sb_updK {d d' e : Dc κ β} (hi : sl[i]? = some (.at p)) (hj : ow[j]? = some (oo p d)) (h : EV K F Kn0 sl ow te e) (hx : updK d e = some d') (ho : ow.set j (oo p d') = ow1) (n : SN K F Kn0 sl ow1 D) :
    SB K F Kn0 sl ow D (tDrop (tBM K "dict" rUpdK (tVar i) (tCons te tNil))) := fun σ Kn H s => by
  obtain ⟨o, h1, h2⟩ := s.sl.get hi
  obtain ⟨f1, f2, o1, f3, ws, f4, f5⟩ := s.ow.each _ (List.mem_of_getElem? hj)
  subst f4
  have f3 : H p = some (.dK ws) := f3
  unfold updK at hx
  split at hx
  case isFalse => cases hx
  rename_i hc
  cases hx
  subst ho
  refine ⟨.ref p, by rw [h1]; exact congrArg some h2, .inr (.inr (.inl ⟨rfl, .inl ⟨ws, f3⟩⟩)), h σ Kn H s _ fun v Kn1 H1 g1 r1 => ?_⟩
  obtain ⟨a, vs, rfl, ha, hv⟩ := r1
  have ha : Rd Kn1 a (.dK vs) := ha
  have kp : Kn1 p = none := g1.sp p (ne_none_of f3) f2
  have hne : p ≠ a := fun z => by
    rw [← z] at ha
    rcases ha with ha | ⟨_, ha⟩
    · rw [kp] at ha; cases ha
    · rw [kp] at ha; cases ha
  refine ⟨p, a, ws, vs, rfl, rfl, g1.hh _ _ f3, rd_ex g1.kh ha, hne, by rw [f5.length, hv.length]; exact hc, n _ Kn1 _ ?_⟩
  exact (s.grow g1).writeG hj rfl rfl (Ex.refl _) (upd_in g1.kh kp) (fun q hq _ => upd_ne hq) (fun _ _ h => h) ⟨_, upd_same, _, rfl, DK.merge hv (DK.mono g1.kk f5)⟩
end
/-! ### a tuple of a new object and more -/
structure Tgp (β : Type) where
  a : Addr
  b : β
instance {β : Type} [Rp β] : Rp (Tgp β) where
  rep K H v x := ∃ p w, v = .ref p ∧ H p = some (.tup [.ref x.a, w]) ∧ rep K H w x.b
  swap e h := by
    obtain ⟨p, w, h1, h2, h3⟩ := h
    exact ⟨p, w, h1, e.tup h2, Rp.swap e h3⟩
instance {β : Type} [Rp β] : Tn (Tgp β) := ⟨"tuple", fun h => by
  obtain ⟨p, vs, rfl, h1, _⟩ := h
  exact .base (.tup h1)⟩
section
variable {β τ γ : Type} [Rp β] [Tp τ] [Ob γ]
def RPG (K : Fg) (Kn H : Hp) (Q : VK) (x : γ) (y : β) : Prop := ∀ p o v Kn' H', Gr Kn H Kn' H' → H p = none → Kn' p = none → H' p = some o → Ob.ob K Kn' o x → rep K Kn' v (Tgp.mk p y) → Q v H'
def EPG (K : Fg) (F Kn0 : Hp) (sl : List Sl) (ow : List Ow) (te : TE) (x : γ) (y : β) : Prop := ∀ σ Kn H, S K F Kn0 sl ow σ Kn H → ∀ Q : VK, RPG K Kn H Q x y → te σ H Q
def PPG (K : Fg) (f : τ → Option (γ × β × Unit)) : Sp := fun vs H Q _ => ∃ Kn t r, Ex Kn H ∧ rept K Kn vs t ∧ f t = some r ∧ RPG K Kn H Q r.1 r.2.1
def RNPG (K : Fg) (F Kn0 : Hp) (ow : List Ow) (R : VK) (x : γ) (y : β) : Prop := ∀ p o v Kn H, S K F Kn0 [] ow [] Kn H → F p = none → Kn p = none → H p = some o → Ob.ob K Kn o x → rep K Kn v (Tgp.mk p y) → R v H
end
section
variable {K : Fg} {F F' Kn0 Kn1 : Hp} {sl sl' : List Sl} {ow ow0 ow1 : List Ow} {α κ β τ γ δ : Type} [Rp α] [Rp κ] [Ky κ] [DecidableEq κ] [Rp β] [Rp δ] [Tp τ] [Ob γ] {ta : TA} {te : TE} {t : τ} {E : XK} {D : Ends} {i j : Nat} {p : Addr} {x : γ} {y : β} {R R' : VK}
theorem RNPG.base (q : RNPG K F Kn0 ow R x y) (b : Bs F Kn0 Kn1) : RNPG K F Kn1 ow R x y := fun p o v Kn H s => q p o v Kn H (s.unbase b)
theorem RNPG.fr (f : Fle F F') (q : RNPG K F Kn0 ow0 R x y) : RNPG K F' Kn0 ow0 R x y := fun p o v Kn H s h1 h2 h3 h4 h5 => q p o v Kn H (s.back f) (fresh_back f h1) h2 h3 h4 h5
theorem RNPG.mv (q : RNPG K F Kn0 ow0 R x y) (m : Mv K F Kn0 R F' Kn1 R') : RNPG K F' Kn1 ow0 R' x y := fun p o v Kn H s fp kp hp r r2 => by
  obtain ⟨Kn', H', s', h1, h2, h3⟩ := m.st _ _ _ _ _ s
  exact h1 _ (q p o v Kn' H' s' (m.fn p fp) (h3 p kp).1 ((h3 p kp).2.trans hp) (Ob.swap h2 r) (Rp.swap h2 r2))
theorem rnpg_of {H Kn : Hp} {Q : VK} (q : RPG K Kn H Q x y) : RNPG K H Kn [] Q x y := fun p o v Kn' H' s h1 h2 h3 h4 h5 => q p o v Kn' H' ⟨s.e0, s.ef, s.ek, s.sep⟩ h1 h2 h3 h4 h5
theorem epg_call {f : τ → Option (γ × β × Unit)} {r : γ × β × Unit} (h : EA K F Kn0 sl ow ta t) (hf : f t = some r) : EPG K F Kn0 sl ow (tCall (PPG K f) [] E ta) r.1 r.2.1 := fun σ Kn H s Q q =>
  h σ Kn H s _ fun vs Kn1 H1 g1 r1 => by
    show PPG K f (vs ++ []) H1 Q E
    rw [List.append_nil]
    exact ⟨Kn1, t, r, g1.kh, r1, hf, fun p o v Kn' H' g' h1 h2 h3 h4 h5 => q p o v Kn' H' (g1.trans g') (fresh_back g1.hh h1) h2 h3 h4 h5⟩
theorem EPG.ev {d : Dc κ δ} (h : EPG K F Kn0 sl ow te d y) : EV K F Kn0 sl ow te (d, y, ()) := fun σ Kn H s Q q => h σ Kn H s Q fun p o v Kn' H' g hp kp ho r r2 => by
  obtain ⟨ws, rfl, r⟩ := r
  obtain ⟨pt, w, rfl, ht, rw'⟩ := r2
  have n : pt ≠ p := fun z => by rw [z, kp] at ht; cases ht
  exact q _ (upd Kn' p (Ky.ho ws)) H' (g.know hp kp ho) ⟨pt, _, rfl, by rw [upd_ne n]; exact ht, .ref p, _, rfl, ⟨p, ws, rfl, Rd.of upd_same, DK.mono (Ex.new kp) r⟩, w, _, rfl, Rp.mono (Ex.new kp) rw', rfl⟩
theorem EPG.cast {x' : γ} {y' : β} (h : EPG K F Kn0 sl ow te x y) (e1 : x = x') (e2 : y = y') : EPG K F Kn0 sl ow te x' y' := e1 ▸ e2 ▸ h
/-- t = f(..): the object is one's own -/
theorem sb_asgPG {sl' : Addr → List Sl} (hs : ∀ p, sl.set i (sv (Tgp.mk p y)) = sl' p) (h : EPG K F Kn0 sl ow te x y) (k : ∀ p, SN K F Kn0 (sl' p) (oo p x :: ow) D) : SB K F Kn0 sl ow D (tAsg te (gName i)) := fun σ Kn H s =>
  h σ Kn H s _ fun p o v Kn1 H1 g1 hp kp ho r1 r2 => k p _ Kn1 H1 (hs p ▸ ((s.grow g1).ownG (p := p) (o := oo p x) rfl (fresh_back s.ef hp) kp (owned_ne s hp) ⟨o, ho, r1⟩).setv (x := Tgp.mk p y) i r2)
theorem S.seta' {σ : L2.St} {Kn H : Hp} (s : S K F Kn0 sl ow σ Kn H) (i : Nat) : S K F Kn0 (sl.set i (.at p)) ow (σ.set i (some (.ref p))) Kn H := s.set i rfl
/-- a, b = t -/
theorem sb_unpTg (hs : (sl.set i (.at p)).set j (sv y) = sl') (h : EV K F Kn0 sl ow te (Tgp.mk p y)) (k : SN K F Kn0 sl' ow D) : SB K F Kn0 sl ow D (tAsg te (gTup K 2 (gCons (gName i) (gCons (gName j) gNil)))) := fun σ Kn H s => h σ Kn H s _ fun v Kn' H' g r => by
  obtain ⟨pt, w, rfl, ht, rw'⟩ := r
  have s1 := s.grow g
  exact ⟨pt, _, rfl, st_of (s1.ek _ _ ht), rfl, .ref p, _, rfl, w, _, rfl, rfl, k _ Kn' H' (hs ▸ ((s1.seta' (p := p) i).setv (x := y) j rw'))⟩
theorem sb_retPG (hi : sl[i]? = some (.at p)) (hj : ow[j]? = some (oo p x)) (h : EV K F Kn0 sl ow te y) (q : RNPG K F Kn0 ow0 R x y) (l : ow0.Sublist ow) (hR : D.rt = R := by rfl) : SB K F Kn0 sl ow D (tRet (tTup (tCons (tVar i) (tCons te tNil)))) := fun σ Kn H s => by
  subst hR
  obtain ⟨o1, a1, a2⟩ := s.sl.get hi
  refine ⟨.ref p, by rw [a1]; exact congrArg some a2, h σ Kn H s _ fun v Kn1 H1 g1 r1 => ⟨by show 2 ≤ sizeLine; exact le_line (by decide), fun pt hp => ?_⟩⟩
  have s1 := s.grow g1
  obtain ⟨f1, f2, ob, f3, f4⟩ := s1.ow.each _ (List.mem_of_getElem? hj)
  have f1 : F p = none := f1
  have f2 : Kn1 p = none := f2
  have g : Gr Kn1 H1 (upd Kn1 pt (.tup [.ref p, v])) (upd H1 pt (.tup [.ref p, v])) := Gr.new s1.ek hp
  have n : p ≠ pt := fun z => by rw [z, hp] at f3; cases f3
  exact q p ob _ _ _ ((s1.grow g).sub l).fin f1 (by rw [upd_ne n]; exact f2) (g.hh _ _ f3) (Ob.mono g.kk f4) ⟨pt, v, rfl, upd_same, Rp.mono g.kk r1⟩
theorem rc_lenTg {x : Tgp β} : RCV K (fun xs H Q => ∃ p ys, xs = [.ref p] ∧ (SqL K H p ys ∨ SqT K H p ys) ∧ Q (.int ys.length) H) (x, ()) (2 : Int) := fun Kn H vs ek h Q q => by
  obtain ⟨v, rfl, p, ws, rfl, h1, h2⟩ := one_arg h
  exact ⟨p, _, rfl, .inr (st_of (ek _ _ h1)), q.fl (z := (2 : Int)) ek⟩
end
section
variable {X : Cx} {K : Fg}
theorem k_neDL (hu : X.A.units + 64 < cLine) (h : X.K = K := by rfl) : OpR X (compareOp .NotEq) (rNeDL K) := h ▸ op_neDL hu
theorem k_eqDT (hu : X.A.units + 64 < cLine) (h : X.K = K := by rfl) : OpR X (compareOp .Eq) (rEqDT K) := h ▸ op_eqDT hu
end
end Wk
/-! Wdeq: == of dicts of whole numbers, alike or not; xs + script; != of truths -/
namespace L2
open PySem PySem.Spec PyProof.Rows
inductive DH (ls : List (Key × V)) : List (Key × V) → Bool → Prop
  | nil : DH ls [] true
  | miss {k : Key} {v : V} {r : List (Key × V)} : valV ls k = none → DH ls ((k, v) :: r) false
  | hit {k : Key} {i j : Int} {r : List (Key × V)} {b : Bool} : valV ls k = some (.int j) → DH ls r b → DH ls ((k, .int i) :: r) (decide (i = j) && b)
theorem dh_hits {A : Around} {s : Shared} {ls : List (Key × V)} {vb : List (Key × Value)} (rb : KV ls vb) {ks : List (Key × V)} {r : Bool} (h : DH ls ks r) : ∀ {va : List (Key × Value)}, KV ks va → PySem.W.KeqHits A s vb va r := by
  induction h with
  | nil =>
    intro va ra
    unfold KV at ra
    cases ra
    exact .nil
  | @miss k v r hv =>
    intro va ra
    unfold KV at ra
    cases ra with
    | @cons _ q _ qs h t =>
      obtain ⟨key, y⟩ := q
      obtain ⟨h1, h2⟩ := h
      have h1 : k = key := h1
      subst h1
      refine .miss ?_
      have := rb.val k
      rw [hv] at this
      cases e : valueAt vb k with
      | none => rfl
      | some z => rw [e] at this; exact False.elim this
  | @hit k i j r b hv _ ih =>
    intro va ra
    unfold KV at ra
    cases ra with
    | @cons _ q _ qs h t =>
      obtain ⟨key, y⟩ := q
      obtain ⟨h1, h2⟩ := h
      have h1 : k = key := h1
      subst h1
      have rr : RelO (some (V.int j)) (valueAt vb k) := by rw [← hv]; exact rb.val k
      obtain ⟨z, hz, rz⟩ := rr.some_of
      obtain ⟨t1, rfl⟩ := h2
      obtain ⟨t2, rfl⟩ := rz
      exact .hit hz (SeqAt.EqAt.int_int i t1 j t2) (ih t)
def rEqDG : R2 := fun x y H Q => ∃ a b ks ls r, x = .ref a ∧ y = .ref b ∧ Rd H a (.dK ks) ∧ Rd H b (.dK ls) ∧ DH ls ks r ∧ Q (.bl (decide (ks.length = ls.length) && r)) H
section
variable {X : Cx}
theorem op_eqDG (hu : X.A.units + 64 < cLine) : OpR X (compareOp .Eq) rEqDG := by
  intro pins s σ H x y v u Q I rx ry h
  obtain ⟨a, b, ks, ls, r, rfl, rfl, ea, eb, hr, q⟩ := h
  obtain rfl : v = Value.ref a := rx
  obtain rfl : u = Value.ref b := ry
  obtain ⟨_, ya, va, ra, da⟩ := dk_rd I.hok ea
  obtain ⟨_, yb, vb, rb, db⟩ := dk_rd I.hok eb
  exact PySem.W.keq_eq (knd := mixKind X.prog X.w) (r := r) ya yb da db (by omega) (fun _ => dh_hits rb hr ra) (fin_bl I q (by rw [← ra.length, ← rb.length]; cases r <;> simp [BEq.beq, Nat.beq_eq]))
def rCatL (K : PySem.W.Frag) : R2 := fun x y H Q => ∃ l b xs zs, x = .ref l ∧ y = .ref b ∧ SqL K H l xs ∧ SqL K H b zs ∧ xs.length + zs.length ≤ sizeLine ∧ ∀ p, H p = none → Q (.ref p) (upd H p (.lst (xs ++ zs)))
theorem op_catL : OpR X (binaryOp .Add) (rCatL X.K) := by
  intro pins s σ H x y v u Q I rx ry h
  obtain ⟨l, b, xs, zs, rfl, rfl, hH, hB, hz, q⟩ := h
  cases rx
  cases ry
  obtain ⟨its, r, p1, _⟩ := I.list hH
  obtain ⟨its2, r2, p2, _⟩ := I.list hB
  have hl := r.length
  have hl2 := r2.length
  obtain ⟨⟨cls, dd, data, sl⟩, n, ho, hc, hd0, hd⟩ := id p1
  obtain ⟨⟨cls2, dd2, data2, sl2⟩, n2, ho2, hc2, hd02, hd2⟩ := id p2
  simp only at hc hd hc2 hd2
  subst hc hd hc2 hd2
  have ea : its.toArray ++ its2.toArray = (its ++ its2).toArray := by simp
  refine concat_meets ⟨_, ho, rfl⟩ ⟨_, ho2, rfl⟩ noFill_list_add seq_list_add F.slot_list_add F.entry_list_add (F.args_list_add_2 _ _) (PyProof.Rows.list_addW l b its.toArray its2.toArray n n2 dd dd2 sl sl2 (by rw [List.size_toArray, List.size_toArray]; omega)) ⟨ho, ho2, ?_⟩
  rw [ea]
  exact ⟨.ref _, _, I.lnew (t' := s.toks) (r.append r2) (by rw [List.length_append]; omega), rfl, q _ I.fresh⟩
end
end L2
namespace Wk
open PySem PySem.Spec L2 Evl
section
variable {K : Fg} {F Kn0 : Hp} {sl sl' : List Sl} {ow ow1 : List Ow} {κ α : Type} [Rp κ] [K1 κ] [DecidableEq κ] [Rp α]
/-- a == b for dicts of whole numbers -/
def eqDG (a b : Dc κ Int) : Bool := decide (a.l.length = b.l.length) && a.l.all fun kv => decide (getD b.l kv.1 = some kv.2)
theorem dh_of {H : Hp} {w2 : List (Key × V)} {bl : List (κ × Int)} (hb : DK K H w2 bl) : ∀ {w1 : List (Key × V)} {al : List (κ × Int)}, DK K H w1 al → DH w2 w1 (al.all fun kv => decide (getD bl kv.1 = some kv.2))
  | [], [], _ => .nil
  | (k, v) :: ws, (x, i) :: al, h => by
    unfold DK at h
    cases h with
    | cons q t =>
      obtain ⟨q1, q2⟩ := q
      have q1 : k = K1.key x := q1
      have q2 : v = .int i := q2
      subst q1 q2
      rw [List.all_cons]
      rcases hb.get x with ⟨z, zv⟩ | ⟨y, u, z1, z2, z3⟩
      · have e : decide (getD bl (x, i).1 = some (x, i).2) = false := by
          rw [show getD bl (x, i).1 = none from z]; simp
        rw [e, Bool.false_and]
        exact .miss zv
      · have z3 : u = .int y := z3
        subst z3
        have e : decide (getD bl (x, i).1 = some (x, i).2) = decide (i = y) := by
          rw [show getD bl (x, i).1 = some y from z1]
          exact decide_eq_decide.mpr ⟨fun h => (Option.some.inj h).symm, fun h => congrArg some h.symm⟩
        rw [e]
        exact .hit z2 (dh_of hb t)
theorem r2_eqDG {a b : Dc κ Int} : R2V K rEqDG a b (eqDG a b) := fun Kn H v w ek h1 h2 Q q => by
  obtain ⟨p1, w1, rfl, a1, a2⟩ := h1
  obtain ⟨p2, w2, rfl, b1, b2⟩ := h2
  refine ⟨p1, p2, w1, w2, _, rfl, rfl, rd_ex ek a1, rd_ex ek b1, dh_of b2 a2, ?_⟩
  rw [a2.length, b2.length]
  exact q.fl (z := eqDG a b) ek
theorem r2_neB {i j : Bool} : R2V K rNe i j (!decide (i = j)) := fun Kn H v w ek h1 h2 Q q => by
  cases h1
  cases h2
  refine ⟨rfl, ?_⟩
  have e : decide (V.bl i = V.bl j) = decide (i = j) := by simp
  rw [e]
  exact q.fl (z := !decide (i = j)) ek
/-- xs + script -/
def catF (xs : List α) (ys : Fz α) : Option (List α) := if xs.length + ys.l.length ≤ 1000000 then some (xs ++ ys.l) else none
theorem r2_catF {xs zs : List α} {ys : Fz α} (h : catF xs ys = some zs) : R2L K (rCatL K) xs ys zs := fun Kn H v w ek h1 h2 Q q => by
  obtain ⟨p1, w1, rfl, a1, a2⟩ := h1
  obtain ⟨p2, w2, rfl, b1, b2⟩ := h2
  unfold catF at h
  split at h
  case isFalse => cases h
  rename_i hc
  cases h
  have hs0 : (1000000 : Nat) ≤ sizeLine := by decide
  refine ⟨p1, p2, w1, w2, rfl, rfl, SqL.of (ek _ _ a1), ex_l ek b1, ?_, fun p hp => ?_⟩
  · rw [Paired.length a2, Paired.length b2]; omega
  · exact q p _ Kn _ (Gr.newU ek hp) hp (fresh_back ek hp) upd_same (paired_append a2 b2)
end
section
variable {X : Cx} {K : Fg}
theorem k_eqDG (hu : X.A.units + 64 < cLine) : OpR X (compareOp .Eq) rEqDG := op_eqDG hu
theorem k_catL (h : X.K = K := by rfl) : OpR X (binaryOp .Add) (rCatL K) := h ▸ op_catL
end
end Wk
/-! Wdy: values of any kind (None, truths, numbers, texts, tuples and lists of these), read as data; a dict of the module; a def that calls itself -/
namespace Wk
open PySem PySem.Spec L2 Evl
mutual
inductive Dq (H : Hp) : V → PyData → Prop
  | non : Dq H .non .none
  | bl (b : Bool) : Dq H (.bl b) (.bool b)
  | int (i : Int) : Dq H (.int i) (.int i)
  | str (x : Str) : Dq H (.str x) (.str x)
  | lst {a : Addr} {xs : List V} {ds : List PyData} : H a = some (.lst xs) → DqAll H xs ds → Dq H (.ref a) (.list ds)
  | tup {a : Addr} {xs : List V} {ds : List PyData} : H a = some (.tup xs) → DqAll H xs ds → Dq H (.ref a) (.tuple ds)
inductive DqAll (H : Hp) : List V → List PyData → Prop
  | nil : DqAll H [] []
  | cons {v : V} {vs : List V} {d : PyData} {ds : List PyData} : Dq H v d → DqAll H vs ds → DqAll H (v :: vs) (d :: ds)
end
theorem Dq.swap {H H' : Hp} (e : Sw H H') {v : V} {d : PyData} (h : Dq H v d) : Dq H' v d :=
  Dq.rec (motive_1 := fun v d _ => Dq H' v d) (motive_2 := fun vs ds _ => DqAll H' vs ds) .non .bl .int .str (fun s _ ih => .lst (e.lst s) ih) (fun s _ ih => .tup (e.tup s) ih) .nil (fun _ _ h1 h2 => .cons h1 h2) h
theorem DqAll.swap {H H' : Hp} (e : Sw H H') {v : List V} {d : List PyData} (h : DqAll H v d) : DqAll H' v d :=
  DqAll.rec (motive_1 := fun v d _ => Dq H' v d) (motive_2 := fun vs ds _ => DqAll H' vs ds) .non .bl .int .str (fun s _ ih => .lst (e.lst s) ih) (fun s _ ih => .tup (e.tup s) ih) .nil (fun _ _ h1 h2 => .cons h1 h2) h
theorem Dq.dp {K : Fg} {H : Hp} {v : V} {d : PyData} (h : Dq H v d) : Dp K H v d :=
  Dq.rec (motive_1 := fun v d _ => Dp K H v d) (motive_2 := fun vs ds _ => DpAll K H vs ds) .non .bl .int .str (fun s _ ih => .lst (sq_of s) ih) (fun s _ ih => .tup (st_of s) ih) .nil (fun _ _ h1 h2 => .cons h1 h2) h
structure Dy where
  d : PyData
instance : Rp Dy := { rep := fun _ H v x => Dq H v x.d, swap := fun e h => Dq.swap e h }
/-- to data -/
class Ud (α : Type) [Rp α] where
  toD : α → PyData
  is : ∀ {K : Fg} {H : Hp} {v : V} {a : α}, rep K H v a → Dq H v (toD a)
class Us (τ : Type) [Tp τ] where
  toDs : τ → List PyData
  is : ∀ {K : Fg} {H : Hp} {vs : List V} {a : τ}, rept K H vs a → DqAll H vs (toDs a)
instance : Ud Int := ⟨.int, fun h => by cases h; exact .int _⟩
instance : Ud Bool := ⟨.bool, fun h => by cases h; exact .bl _⟩
instance : Ud Str := ⟨.str, fun h => by cases h; exact .str _⟩
instance : Ud Nn := ⟨fun _ => .none, fun h => by cases h; exact .non⟩
instance : Ud Dy := ⟨Dy.d, fun h => h⟩
instance {α : Type} [Rp α] [Ud α] : Ud (Option α) where
  toD x := match x with | none => .none | some a => Ud.toD a
  is {K H v a} h := by
    cases a with
    | none => cases h; exact .non
    | some a => exact Ud.is h.2
theorem dqAll_of {α : Type} [Rp α] [Ud α] {K : Fg} {H : Hp} : ∀ {vs : List V} {xs : List α}, Paired (rep K H) vs xs → DqAll H vs (xs.map Ud.toD)
  | _, _, .nil => .nil
  | _, _, .cons r t => .cons (Ud.is r) (dqAll_of t)
instance {α : Type} [Rp α] [Ud α] : Ud (List α) where
  toD xs := .list (xs.map Ud.toD)
  is h := by
    obtain ⟨p, vs, rfl, h1, h2⟩ := h
    exact .lst h1 (dqAll_of h2)
instance {α : Type} [Rp α] [Ud α] : Ud (Tu α) where
  toD xs := .tuple (xs.l.map Ud.toD)
  is h := by
    obtain ⟨p, vs, rfl, h1, h2⟩ := h
    exact .tup h1 (dqAll_of h2)
instance : Us Unit := ⟨fun _ => [], fun h => by cases h; exact .nil⟩
instance {α τ : Type} [Rp α] [Tp τ] [Ud α] [Us τ] : Us (α × τ) where
  toDs t := Ud.toD t.1 :: Us.toDs t.2
  is h := by
    obtain ⟨v, r, rfl, h1, h2⟩ := h
    exact .cons (Ud.is h1) (Us.is h2)
instance {α τ : Type} [Rp α] [Tp τ] [Ud α] [Us τ] : Ud (α × τ) where
  toD t := .tuple (Us.toDs (τ := α × τ) t)
  is h := by
    obtain ⟨p, vs, rfl, h1, h2⟩ := h
    exact .tup h1 (Us.is h2)
/-- out of data, where it is of the kind -/
class Od (α : Type) [Rp α] where
  of : PyData → Option α
  un : ∀ {K : Fg} {H : Hp} {v : V} {d : PyData} {a : α}, Dq H v d → of d = some a → rep K H v a
class Os (τ : Type) [Tp τ] where
  ofs : List PyData → Option τ
  un : ∀ {K : Fg} {H : Hp} {vs : List V} {ds : List PyData} {a : τ}, DqAll H vs ds → ofs ds = some a → rept K H vs a
instance : Od Int := ⟨fun d => match d with | .int i => some i | _ => none, fun h e => by cases h <;> cases e; rfl⟩
instance : Od Bool := ⟨fun d => match d with | .bool i => some i | _ => none, fun h e => by cases h <;> cases e; rfl⟩
instance : Od Str := ⟨fun d => match d with | .str i => some i | _ => none, fun h e => by cases h <;> cases e; rfl⟩
instance : Od Dy := ⟨fun d => some ⟨d⟩, fun h e => by cases e; exact h⟩
def ofAll {α : Type} [Rp α] [Od α] : List PyData → Option (List α)
  | [] => some []
  | d :: ds => (Od.of d).bind fun x => (ofAll ds).bind fun xs => some (x :: xs)
theorem ofAll_un {α : Type} [Rp α] [Od α] {K : Fg} {H : Hp} : ∀ {ds : List PyData} {vs : List V} {xs : List α}, DqAll H vs ds → ofAll ds = some xs → Paired (rep K H) vs xs
  | [], _, _, h, e => by
    cases h
    cases e
    exact .nil
  | d :: ds, _, xs, h, e => by
    cases h with
    | cons h1 h2 =>
      obtain ⟨x, ex, e⟩ := bind_some e
      obtain ⟨ys, ey, e⟩ := bind_some e
      cases e
      exact .cons (Od.un h1 ex) (ofAll_un h2 ey)
instance {α : Type} [Rp α] [Od α] : Od (Tu α) where
  of d := match d with | .tuple ds => (ofAll ds).map Tu.mk | _ => none
  un h e := by
    cases h with
    | tup h1 h2 =>
      obtain ⟨xs, e1, rfl⟩ := Option.map_eq_some_iff.mp e
      exact ⟨_, _, rfl, h1, ofAll_un h2 e1⟩
    | _ => cases e
instance {α : Type} [Rp α] [Od α] : Od (List α) where
  of d := match d with | .list ds => ofAll ds | _ => none
  un h e := by
    cases h with
    | lst h1 h2 => exact ⟨_, _, rfl, h1, ofAll_un h2 e⟩
    | _ => cases e
instance : Os Unit := ⟨fun ds => match ds with | [] => some () | _ => none, fun h e => by cases h <;> cases e; rfl⟩
instance {α τ : Type} [Rp α] [Tp τ] [Od α] [Os τ] : Os (α × τ) where
  ofs ds := match ds with | [] => none | d :: ds => (Od.of d).bind fun x => (Os.ofs ds).bind fun t => some (x, t)
  un h e := by
    cases h with
    | nil => cases e
    | cons h1 h2 =>
      obtain ⟨x, ex, e⟩ := bind_some e
      obtain ⟨t, et, e⟩ := bind_some e
      cases e
      exact ⟨_, _, rfl, Od.un h1 ex, Os.un h2 et⟩
instance {α τ : Type} [Rp α] [Tp τ] [Od α] [Os τ] : Od (α × τ) where
  of d := match d with | .tuple ds => Os.ofs (τ := α × τ) ds | _ => none
  un h e := by
    cases h with
    | tup h1 h2 => exact ⟨_, _, rfl, h1, Os.un h2 e⟩
    | _ => cases e
def ofD {α : Type} [Rp α] [Od α] (x : Dy) : Option α := Od.of x.d
def upD {α : Type} [Rp α] [Ud α] (x : α) : Dy := ⟨Ud.toD x⟩
def eqYO (a b : Dy) : Option Bool := if SeqAt.shaped a.d = true ∧ SeqAt.shaped b.d = true then some (PyData.eqv a.d b.d) else none
section
variable {K : Fg} {F Kn0 : Hp} {sl sl' : List Sl} {ow ow1 : List Ow} {α β τ : Type} [Rp α] [Rp β] [Tp τ] {te tk : TE} {x : Dy}
theorem ev_of [Od α] {y : α} (h : EV K F Kn0 sl ow te x) (e : ofD x = some y) : EV K F Kn0 sl ow te y := fun σ Kn H s Q q => h σ Kn H s Q fun v Kn' H' g r => q v Kn' H' g (Od.un r e)
theorem ev_up [Ud α] {y : α} (h : EV K F Kn0 sl ow te y) : EV K F Kn0 sl ow te (upD y) := fun σ Kn H s Q q => h σ Kn H s Q fun v Kn' H' g r => q v Kn' H' g (Ud.is r)
theorem em_up [Ud α] {y : α} (h : EM K F Kn0 sl ow te ow1 y) : EM K F Kn0 sl ow te ow1 (upD y) := fun σ Kn H s Q q => h σ Kn H s Q fun v Kn' H' e s' r => q v Kn' H' e s' (Ud.is r)
/-- a list, where a list is read -/
theorem ev_fz {xs : List α} (h : EV K F Kn0 sl ow te xs) : EV K F Kn0 sl ow te (Fz.mk xs) := fun σ Kn H s Q q => h σ Kn H s Q fun v Kn' H' g r => by
  obtain ⟨p, vs, rfl, h1, h2⟩ := r
  exact q _ Kn' H' g ⟨p, vs, rfl, sq_of h1, h2⟩
theorem r2_eqY {a b : Dy} {c : Bool} (h : eqYO a b = some c) : R2V K (rEqD K) a b c := fun Kn H v w ek h1 h2 Q q => by
  unfold eqYO at h
  split at h
  case isFalse => cases h
  rename_i hb
  cases h
  exact ⟨a.d, b.d, dp_mono ek (Dq.dp h1), dp_mono ek (Dq.dp h2), hb.1, hb.2, q.fl ek⟩
theorem r2_neY {a b : Dy} {c : Bool} (h : eqYO a b = some c) : R2V K (rNeD K) a b (!c) := fun Kn H v w ek h1 h2 Q q => by
  unfold eqYO at h
  split at h
  case isFalse => cases h
  rename_i hb
  cases h
  exact ⟨a.d, b.d, dp_mono ek (Dq.dp h1), dp_mono ek (Dq.dp h2), hb.1, hb.2, q.fl ek⟩
/-- D[k], D a dict of the module -/
theorem ev_kd {w : World} {p : Addr} {tab : List (Str × Str)} {k z : Str} (ht : ∀ kv ∈ tab, KDct K w p kv.1 (.str kv.2)) (hk : EV K F Kn0 sl ow tk k) (hz : getD tab k = some z) : EV K F Kn0 sl ow (tOp (rIxD K w) (tC (.ref p)) tk) z := fun σ Kn H s Q q =>
  hk σ Kn H s _ fun v Kn1 H1 g1 r1 => by
    cases r1
    unfold getD at hz
    obtain ⟨kv, hf, rfl⟩ := Option.map_eq_some_iff.mp hz
    have hk2 := List.find?_some hf
    rw [decide_eq_true_eq] at hk2
    have := ht kv (List.mem_of_find?_eq_some hf)
    rw [hk2] at this
    exact ⟨p, _, _, rfl, rfl, this, q _ Kn1 H1 g1 rfl⟩
theorem k_ixkd {X : Cx} {w : World} (h : X.K = K := by rfl) (hw : X.w = w := by rfl) : IxR X (rIxD K w) := by
  subst h
  subst hw
  exact ix_kdict


end
theorem fnok_none {P : Program} {w : World} {K : Fg} {mg : Str → Option Value} {base : Heap} {CX : CXT} {k : Nat} {f : Addr} {fd : FuncData} {ps : List Str} {τ α : Type} [Tp τ] [Rp α] : FnOk P w K mg base CX k f fd ps (PF K (fun _ : τ => (none : Option α))) := by
  refine ⟨fun vs H Q E h => ?_, fun A outer s H args us vs Q E hr he hb hv h => ?_⟩
  · obtain ⟨_, _, _, _, _, h, _⟩ := h
    cases h
  · obtain ⟨_, _, _, _, _, h, _⟩ := h
    cases h
theorem fnok_noneL {P : Program} {w : World} {K : Fg} {mg : Str → Option Value} {base : Heap} {CX : CXT} {k : Nat} {f : Addr} {fd : FuncData} {ps : List Str} {τ α : Type} [Tp τ] [Rp α] : FnOk P w K mg base CX k f fd ps (PL K (fun _ : τ => (none : Option (List α)))) := by
  refine ⟨fun vs H Q E h => ?_, fun A outer s H args us vs Q E hr he hb hv h => ?_⟩
  · obtain ⟨_, _, _, _, _, h, _⟩ := h
    cases h
  · obtain ⟨_, _, _, _, _, h, _⟩ := h
    cases h
end Wk
/-! Wmix: slices of tuples and texts, extend, a list of unlike things -/
namespace Wk
open PySem PySem.Spec L2 Evl
/-- the places from a on, b of them -/
inductive Cu : {τ : Type} → [Tp τ] → Nat → Nat → {υ : Type} → [Tp υ] → τ → υ → Prop
  | nil {τ : Type} [Tp τ] (t : τ) : Cu 0 0 t ()
  | take {α τ υ : Type} [Rp α] [Tp τ] [Tp υ] {b : Nat} (x : α) {t : τ} {u : υ} : Cu 0 b t u → Cu 0 (b + 1) (x, t) (x, u)
  | drop {α τ υ : Type} [Rp α] [Tp τ] [Tp υ] {a b : Nat} (x : α) {t : τ} {u : υ} : Cu a b t u → Cu (a + 1) b (x, t) u
theorem Cu.get {K : Fg} {H : Hp} {τ : Type} [i : Tp τ] {a b : Nat} {υ : Type} [j : Tp υ] {t : τ} {u : υ} (h : Cu a b t u) : ∀ {vs : List V}, rept K H vs t → rept K H ((vs.drop a).take b) u := by
  induction h with
  | nil t => exact fun _ => rfl
  | take x _ ih =>
    intro vs r
    obtain ⟨v, r, rfl, h1, h2⟩ := r
    exact ⟨v, _, rfl, h1, ih h2⟩
  | drop x _ ih =>
    intro vs r
    obtain ⟨v, r, rfl, h1, h2⟩ := r
    exact ih h2
structure Hl (τ : Type) where
  t : τ
  deriving DecidableEq
instance {τ : Type} [Tp τ] : Rp (Hl τ) where
  rep K H v x := ∃ p vs, v = .ref p ∧ H p = some (.lst vs) ∧ rept K H vs x.t
  swap e h := by
    obtain ⟨p, vs, h1, h2, h3⟩ := h
    exact ⟨p, vs, h1, e.lst h2, Tp.swap e h3⟩
instance {τ : Type} [Tp τ] [Pq τ] : Pd (Hl τ) where
  toD x := .list (Pq.toDs x.t)
  dp := Pq.dp τ + 1
  isD h := by
    obtain ⟨p, vs, rfl, h1, h2⟩ := h
    exact .lst (sq_of h1) (Pq.isD h2)
  dep a := by
    simp only [PyData.depth]
    exact Nat.succ_le_succ (Pq.dep a.t)
  eqd a b := by
    simp only [PyData.eqv]
    rw [Pq.eqd]
    cases a
    cases b
    simp
def cutSO (z : Str) (lo hi : Option Int) : Option Str := if z.length ≤ 1000000 then some (cutS z lo hi) else none
section
variable {K : Fg} {F Kn0 : Hp} {sl sl' : List Sl} {ow ow1 ow2 : List Ow} {α β γ τ υ : Type} [Rp α] [Rp β] [Rp γ] [Tp τ] [Tp υ] {ta : TA} {tb te : TE} {D : Ends} {i j : Nat} {p : Addr}
theorem ev_tsl {t : α × τ} {u : β × υ} {tl th : TO} {lo hi : Option Int} {a b : Nat} (h : EV K F Kn0 sl ow te t) (hl : EO K F Kn0 sl ow tl lo) (hh : EO K F Kn0 sl ow th hi)
    (ha : HT.sIx (Tp.n (α × τ)) 0 lo = a) (hb : HT.sIx (Tp.n (α × τ)) (Tp.n (α × τ)) hi - a = b) (hw : ¬ (HT.sIx (Tp.n (α × τ)) 0 lo = 0 ∧ HT.sIx (Tp.n (α × τ)) (Tp.n (α × τ)) hi = Tp.n (α × τ))) (hc : Cu a b t u) :
    EV K F Kn0 sl ow (tSl (rSlT K) te tl th) u := fun σ Kn H s Q q =>
  h σ Kn H s _ fun v Kn1 H1 g1 r1 => hl σ Kn1 H1 (s.grow g1) _ fun Kn2 H2 g2 => hh σ Kn2 H2 ((s.grow g1).grow g2) _ fun Kn3 H3 g3 => by
    obtain ⟨p, ws, rfl, h3, h4⟩ := r1
    have g : Gr Kn H Kn3 H3 := (g1.trans g2).trans g3
    have e13 : Ex Kn1 Kn3 := g2.kk.trans g3.kk
    have el := Tp.len h4
    refine ⟨p, ws, rfl, st_of ((e13.trans g3.kh) _ _ h3), by rw [el]; exact hw, fun l hl => ?_⟩
    have gn := Gr.new (o := .tup (cutV ws lo hi)) g3.kh hl
    refine q _ _ _ (g.trans gn) ⟨l, _, rfl, upd_same, ?_⟩
    have := hc.get (Tp.mono (e13.trans gn.kk) h4)
    have e : cutV ws lo hi = (ws.drop a).take b := by
      unfold cutV
      rw [el, ha, hb]
    rw [e] at this ⊢
    exact this
theorem ev_slS {z r : Str} {tl th : TO} {lo hi : Option Int} (h : EV K F Kn0 sl ow te z) (hl : EO K F Kn0 sl ow tl lo) (hh : EO K F Kn0 sl ow th hi) (hz : cutSO z lo hi = some r) : EV K F Kn0 sl ow (tSl rSlS te tl th) r := fun σ Kn H s Q q =>
  h σ Kn H s _ fun v Kn1 H1 g1 r1 => hl σ Kn1 H1 (s.grow g1) _ fun Kn2 H2 g2 => hh σ Kn2 H2 ((s.grow g1).grow g2) _ fun Kn3 H3 g3 => by
    cases r1
    unfold cutSO at hz
    split at hz
    · rename_i hq
      cases hz
      exact ⟨z, rfl, le_line hq, q _ Kn3 H3 ((g1.trans g2).trans g3) rfl⟩
    · cases hz
theorem ev_hl {t : τ} (h : EA K F Kn0 sl ow ta t) (hz : Tp.n τ ≤ 1000000 := by decide) : EV K F Kn0 sl ow (tLst ta) (Hl.mk t) := fun σ Kn H s Q q =>
  h σ Kn H s _ fun vs Kn1 H1 g1 r1 => ⟨by rw [Tp.len r1]; exact le_line hz, fun p hp =>
    q _ (upd Kn1 p (.lst vs)) _ (g1.trans (Gr.new g1.kh hp)) ⟨p, vs, rfl, upd_same, Tp.mono (Gr.new g1.kh hp).kk r1⟩⟩
theorem r2_hix {t : Hl τ} {n : Nat} {z : γ} (h : At n t.t z) : R2V K (rIxL K) t (n : Int) z := fun Kn H v w ek h1 h2 Q q => by
  obtain ⟨p, ws, rfl, h3, h4⟩ := h1
  cases h2
  obtain ⟨u, e, r⟩ := h.get h4
  exact ⟨p, ws, n, u, rfl, rfl, sq_of (ek _ _ h3), atI_nat e, q.at ek r⟩
theorem k_slt {X : Cx} (h : X.K = K := by rfl) : SlR X (rSlT K) := h ▸ sl_tup
/-- xs.extend(ys), xs one's own -/
theorem sb_extO {xs ys zs : List α} (hi : sl[i]? = some (.at p)) (hj : ow[j]? = some (ol p xs)) (h : EV K F Kn0 sl ow te ys) (hz : catO xs ys = some zs) (ho : ow.set j (ol p zs) = ow1) (k : SN K F Kn0 sl ow1 D) :
    SB K F Kn0 sl ow D (tDrop (tBM K "list" rExtend (tVar i) (tCons te tNil))) := fun σ Kn H s => by
  obtain ⟨o, h1, h2⟩ := s.sl.get hi
  obtain ⟨f1, f2, ws, f3, f4⟩ := s.ow.each _ (List.mem_of_getElem? hj)
  unfold catO at hz
  split at hz
  case isFalse => cases hz
  rename_i hq
  cases hz
  refine ⟨.ref p, by rw [h1]; exact congrArg some h2, Or.inl ⟨rfl, ws, sq_of f3⟩, h σ Kn H s _ fun v Kn1 H1 g1 r1 => ?_⟩
  obtain ⟨b, vs, rfl, h3, h4⟩ := r1
  refine ⟨p, b, ws, vs, rfl, rfl, g1.hh _ _ f3, g1.kh _ _ h3, by rw [paired_len f4, paired_len h4]; exact le_line hq, k _ Kn1 _ ?_⟩
  have kp1 : Kn1 p = none := g1.sp p (ne_none_of f3) f2
  subst ho
  exact (s.grow g1).write hj (Ex.refl _) (upd_in g1.kh kp1) (fun q hq _ => upd_ne hq) (fun _ _ h => h) upd_same (paired_append (paired_mono g1.kk f4) h4)
end
end Wk
set_option maxHeartbeats 4000000
/-! Weq: == and != of any data: numbers, truths, texts, None, lists, tuples, dicts, one within another -/
namespace PySem.SeqAt
open AutoSeq1 (wpAny_loadPart')
open MeetsSeq MeetsSeq2 MeetsSeq3 SeqRoads2
section
variable {prog : Program} {w : World}
theorem wk_neG_loop (l b : Addr) (items items2 : Array Value) (n n2 : Nat) (dd dd2 : Option Addr) (sl sl2 : Array (Option Value)) (hsz : items.size = items2.size) (e : Nat → Bool) (k : Nat) :
    ∀ i : Nat, items.size - i = k → MeetsIn prog w (Builtin.«list.__eq__.loop» ⟨[.ref l, .ref b, rawInt i, rawInt 3], []⟩)
      (fun A R s => s.heap.get? l = some { cls := .type "list", dict := dd, data := .seq items n, slots := sl } ∧ s.heap.get? b = some { cls := .type "list", dict := dd2, data := .seq items2 n2, slots := sl2 } ∧
        (∀ j (h1 : j < items.size) (h2 : j < items2.size), EqIn prog w A.in1 s items[j] items2[j] (e j)) ∧
        R (.ok (.ret (.bool (!((List.range items.size).drop i).all e)))) s) := by
  induction k with
  | zero =>
    intro i hk A R s h
    obtain ⟨hp, g, d, tk, os⟩ := s; obtain ⟨hl, hb, he, h⟩ := h
    wp_walk using wpAny_loadPart' hl, wpAny_loadPart' hb
    have q1 : items[((i : Nat) : Int).toNat]? = none := by simp; omega
    have q2 : items2[((i : Nat) : Int).toNat]? = none := by simp; omega
    rw [show (List.range items.size).drop i = [] by simp; omega] at h
    rw [q1, q2]
    wp_walk using wpAny_loadPart' hl, wpAny_loadPart' hb
    show R (.ok (.ret (.bool (items.size != items2.size)))) _
    rw [hsz]
    simpa using h
  | succ k ih =>
    intro i hk A R s h
    obtain ⟨hp, g, d, tk, os⟩ := s; obtain ⟨hl, hb, he, h⟩ := h
    wp_walk using wpAny_loadPart' hl, wpAny_loadPart' hb
    have t1 : i < items.size := by omega
    have t2 : i < items2.size := by omega
    have q1 : items[((i : Nat) : Int).toNat]? = some items[i] := by simp [t1]
    have q2 : items2[((i : Nat) : Int).toNat]? = some items2[i] := by simp [t2]
    rw [show (List.range items.size).drop i = i :: (List.range items.size).drop (i + 1) by simp [List.drop_eq_getElem_cons, t1], List.all_cons] at h
    rw [q1, q2]
    refine wpAny_bind (he i t1 t2 _ _ ?_)
    cases ei : e i with
    | true =>
      rw [ei] at h
      wp_walk
      rw [show ((i : Int) + 1) = ((i + 1 : Nat) : Int) by push_cast; rfl]
      refine ⟨plainId_quiet plain_eq_loop _, codeAny_builtin entry_eq_loop ?_⟩
      rw [Around.under_plainId plain_eq_loop _]
      exact ih (i + 1) (by omega) A R _ ⟨hl, hb, he, by simpa using h⟩
    | false =>
      rw [ei] at h
      wp_walk using wpAny_loadPart' hl, wpAny_loadPart' hb
      rw [q1, q2]
      wp_walk
      simpa using h
theorem wk_list_neG (l b : Addr) (items items2 : Array Value) (n n2 : Nat) (dd dd2 : Option Addr) (sl sl2 : Array (Option Value)) (hsz : items.size = items2.size) (e : Nat → Bool) :
    MeetsIn prog w (Builtin.«list.__ne__» ⟨[.ref l, .ref b], []⟩)
      (fun A R s => s.heap.get? l = some { cls := .type "list", dict := dd, data := .seq items n, slots := sl } ∧ s.heap.get? b = some { cls := .type "list", dict := dd2, data := .seq items2 n2, slots := sl2 } ∧
        (∀ j (h1 : j < items.size) (h2 : j < items2.size), EqIn prog w A.in1 s items[j] items2[j] (e j)) ∧
        R (.ok (.ret (.bool (!(List.range items.size).all e)))) s) := by
  intro A R s h
  obtain ⟨hp, g, d, tk, os⟩ := s; obtain ⟨hl, hb, he, h⟩ := h
  have sub := AutoSeq1.sub_list_list
  have hne : ¬ (items.size != items2.size) = true := by simp [hsz]
  wp_walk using wpAny_loadPart' hl, wpAny_loadPart' hb
  refine ⟨plainId_quiet plain_eq_loop _, codeAny_builtin entry_eq_loop ?_⟩
  rw [Around.under_plainId plain_eq_loop _]
  exact wk_neG_loop l b items items2 n n2 dd dd2 sl sl2 hsz e _ 0 rfl A R _ ⟨hl, hb, he, by simpa using h⟩
theorem wk_neG_lists {A : Around} {s : Shared} {l b : Addr} {items items2 : Array Value} {e : Nat → Bool} (hl : s.heap.IsList l items) (hb : s.heap.IsList b items2) (hsz : items.size = items2.size) (hu : A.units < cLine)
    (he : ∀ j (h1 : j < items.size) (h2 : j < items2.size), EqIn prog w A.in1 s items[j] items2[j] (e j)) (E Q : Value → Shared → Prop) (h : Q (.bool (!(List.range items.size).all e)) s) : wpAny (model prog w) A (richCompare .NotEq (.ref l) (.ref b)) Q E s := by
  obtain ⟨⟨cls, dd, data, sl⟩, ho, hc, n, hd⟩ := id hl
  obtain ⟨⟨cls2, dd2, data2, sl2⟩, ho2, hc2, n2, hd2⟩ := id hb
  simp only at hc hd hc2 hd2
  subst hc hd hc2 hd2
  have ta : s.TypeIs (.ref l) "list" := ⟨_, ho, rfl⟩
  have tb : s.TypeIs (.ref b) "list" := ⟨_, ho2, rfl⟩
  exact wpAny_richCompare_same_room (op := .NotEq) ta tb F.slot_list_ne (call_meetsIn F.slot_list_ne ta F.entry_list_ne (F.args_list_ne_2 _ _) (wk_list_neG l b items items2 n n2 dd dd2 sl sl2 hsz e)
    ⟨ho, ho2, he, show Value.bool _ ≠ Value.notImplemented ∧ Q (.bool _) s from ⟨(fun x => nomatch x), h⟩⟩) hu
theorem wk_tuple_neG (l b : Addr) (items items2 : Array Value) (n n2 : Nat) (dd dd2 : Option Addr) (sl sl2 : Array (Option Value)) (e : Nat → Bool) :
    MeetsIn prog w (Builtin.«tuple.__ne__» ⟨[.ref l, .ref b], []⟩)
      (fun A R s => s.heap.get? l = some { cls := .type "tuple", dict := dd, data := .seq items n, slots := sl } ∧ s.heap.get? b = some { cls := .type "tuple", dict := dd2, data := .seq items2 n2, slots := sl2 } ∧
        (∀ j (h1 : j < items.size) (h2 : j < items2.size), EqIn prog w A.in1 s items[j] items2[j] (e j)) ∧
        R (.ok (.ret (.bool (!((List.range (min items.size items2.size)).all e && items.size == items2.size))))) s) :=
  .of_wp fun A R s h => by
    obtain ⟨hp, g, d, tk, os⟩ := s; obtain ⟨hl, hb, he, h⟩ := h
    have sub := AutoSeq1.sub_tuple_tuple
    have zl : (items.toList.zip items2.toList).length = min items.size items2.size := by simp
    wp_walk using wpAny_loadPart' hl, wpAny_loadPart' hb, wpAny_forIn_list _ (fun rest b s' => b.1 = none ∧ s' = ⟨hp, g, d, tk, os⟩ ∧ ∃ i, rest = (items.toList.zip items2.toList).drop i ∧
      R (.ok (.ret (.bool (!(((List.range (min items.size items2.size)).drop i).all e && items.size == items2.size))))) ⟨hp, g, d, tk, os⟩) _
    case turn =>
      rintro ⟨y, x⟩ rest b s' ⟨hb', rfl, i, hz, hR⟩
      have hlt : i < (items.toList.zip items2.toList).length := Nat.lt_of_not_le fun h' => by
        rw [List.drop_of_length_le h'] at hz
        cases hz
      have hm : i < min items.size items2.size := zl ▸ hlt
      have h1 : i < items.size := Nat.lt_of_lt_of_le hm (Nat.min_le_left _ _)
      have h2 : i < items2.size := Nat.lt_of_lt_of_le hm (Nat.min_le_right _ _)
      rw [List.drop_eq_getElem_cons hlt] at hz
      injection hz with hyx hrest
      obtain rfl : y = items[i] := by simpa using congrArg Prod.fst hyx
      obtain rfl : x = items2[i] := by simpa using congrArg Prod.snd hyx
      rw [show (List.range (min items.size items2.size)).drop i = i :: (List.range (min items.size items2.size)).drop (i + 1) by simp [List.drop_eq_getElem_cons, hm], List.all_cons] at hR
      refine wpAny_bind (he i h1 h2 _ _ ?_)
      cases ei : e i with
      | true =>
        rw [ei] at hR
        wp_walk
        exact ⟨rfl, rfl, i + 1, hrest, by simpa using hR⟩
      | false =>
        rw [ei] at hR
        wp_walk
        exact ⟨_, rfl, by simpa using hR⟩
    case fin =>
      rintro ⟨b1, b2⟩ s' ⟨hb', rfl, i, hz, hR⟩
      simp only at hb'
      subst hb'
      have hge : min items.size items2.size ≤ i := Nat.le_of_not_lt fun h' => by
        rw [List.drop_eq_getElem_cons (zl ▸ h')] at hz
        cases hz
      rw [List.drop_of_length_le (by simpa using hge)] at hR
      wp_walk
      exact ⟨_, rfl, by simpa [Builtin.Tuple.tupleCompareSizes, bne] using hR⟩
    case h => exact ⟨rfl, rfl, 0, rfl, by simpa using h⟩
theorem wk_neG_tuples {A : Around} {s : Shared} {l b : Addr} {items items2 : Array Value} {e : Nat → Bool} (hl : s.heap.IsTuple l items) (hb : s.heap.IsTuple b items2) (hu : A.units < cLine)
    (he : ∀ j (h1 : j < items.size) (h2 : j < items2.size), EqIn prog w A.in1 s items[j] items2[j] (e j)) (E Q : Value → Shared → Prop) (h : Q (.bool (!((List.range (min items.size items2.size)).all e && items.size == items2.size))) s) :
    wpAny (model prog w) A (richCompare .NotEq (.ref l) (.ref b)) Q E s := by
  obtain ⟨⟨cls, dd, data, sl⟩, ho, hc, n, hd⟩ := id hl
  obtain ⟨⟨cls2, dd2, data2, sl2⟩, ho2, hc2, n2, hd2⟩ := id hb
  simp only at hc hd hc2 hd2
  subst hc hd hc2 hd2
  have ta : s.TypeIs (.ref l) "tuple" := ⟨_, ho, rfl⟩
  have tb : s.TypeIs (.ref b) "tuple" := ⟨_, ho2, rfl⟩
  exact wpAny_richCompare_same_room (op := .NotEq) ta tb F.slot_tuple_ne (call_meetsIn F.slot_tuple_ne ta F.entry_tuple_ne (F.args_tuple_ne_2 _ _) (wk_tuple_neG l b items items2 n n2 dd dd2 sl sl2 e)
    ⟨ho, ho2, he, show Value.bool _ ≠ Value.notImplemented ∧ Q (.bool _) s from ⟨(fun x => nomatch x), h⟩⟩) hu
end
end PySem.SeqAt
namespace PySem.W
open PySem PySem.Calls PyProof.Rows PySem.Spec
open PySem.SeqAt (EqIn)
theorem wk_neG_dicts {prog : Program} {w : World} {K : Type} [DecidableEq K] {knd : KeyKind prog w K} {A : Around} {s : Shared} {a b : Addr} {ka kb : List (K × Value)} {r : Bool} (ha : (a == sysModules) = false) (hb : (b == sysModules) = false)
    (da : s.heap.DictOf knd a ka) (db : s.heap.DictOf knd b kb) (hu : A.units < cLine) (hits : ka.length = kb.length → KeqHitsIn prog w A.in1 s kb ka r) (E Q : Value → Shared → Prop) (h : Q (.bool (!(ka.length == kb.length && r))) s) :
    wpAny (model prog w) A (richCompare .NotEq (.ref a) (.ref b)) Q E s := by
  refine wpAny_richCompare_same_room (op := .NotEq) da.typeIs db.typeIs PySem.F.slot_dict_ne (wpAny_call_entry PySem.F.slot_dict_ne da.typeIs PySem.F.entry_dict_ne ?_ (PySem.F.args_dict_ne_2 _ _)) hu
  show wpAny _ _ (Builtin.Dict.dictSlotArgs "__ne__" ⟨[.ref a, .ref b], []⟩ >>= _) _ _ s
  unfold Builtin.Dict.dictSlotArgs
  refine wpAny_bind (wpAny_bind (wpAny_notOrdered_dict da.typeIs ?_))
  show wpAny _ _ (pure (Value.ref a, Value.ref b)) _ _ s
  refine wpAny_pure (wpAny_bind (wpAny_isInstance (T := "dict") db.typeIs PySem.F.sub_dict_dict ?_))
  simp only [Bool.not_true, Bool.false_eq_true, if_false]
  refine wpAny_bind (wpAny_pure (wpAny_bind (wpAny_pure (wpAny_bind (keq_samePairsIn ha hb da db hits (wpAny_pure ⟨_, rfl, (fun x => nomatch x), ?_⟩))))))
  simpa using h
theorem EqTree.mono {prog : Program} {w : World} {s : Shared} {n : Nat} {v y : Value} {b : Bool} (t : EqTree prog w s n v y b) : ∀ {m : Nat}, n ≤ m → EqTree prog w s m v y b := by
  induction t with
  | leaf h => exact fun hm => .leaf fun A hu => h A (by omega)
  | same => exact fun _ => .same
  | lists hne hl hl' hsz _ ih =>
    intro m hm
    obtain ⟨k, rfl⟩ : ∃ k, m = k + 1 := ⟨m - 1, by omega⟩
    exact .lists hne hl hl' hsz fun j h1 h2 => ih j h1 h2 (by omega)
  | listsLen hne hl hl' hsz =>
    intro m hm
    obtain ⟨k, rfl⟩ : ∃ k, m = k + 1 := ⟨m - 1, by omega⟩
    exact .listsLen hne hl hl' hsz
  | tuples hne hl hl' _ ih =>
    intro m hm
    obtain ⟨k, rfl⟩ : ∃ k, m = k + 1 := ⟨m - 1, by omega⟩
    exact .tuples hne hl hl' fun j h1 h2 => ih j h1 h2 (by omega)
  | dicts hne ha hb da db _ ih =>
    intro m hm
    obtain ⟨k, rfl⟩ : ∃ k, m = k + 1 := ⟨m - 1, by omega⟩
    exact .dicts hne ha hb da db fun k v y hm hv => ih k v y hm hv (by omega)
end PySem.W
namespace L2
open PySem PySem.Spec PyProof.Rows PySem.W
/-- x == y, x != y answer so, as operations -/
def TopB (K : PySem.W.Frag) (H : Hp) (op : CmpOp) (x y : V) (b : Bool) : Prop := ∀ {X : Cx} {pins σ s}, X.K = K → X.A.units + 64 < cLine → Inv X pins σ H s → ∀ {v u : Value}, RelV x v → RelV y u → ∀ E Q : Value → Shared → Prop, Q (.bool b) s → wpAny (model X.prog X.w) X.A (compareOp op v u) Q E s
def rTop (K : PySem.W.Frag) (op : CmpOp) : R2 := fun x y H Q => ∃ b, TopB K H op x y b ∧ Q (.bl b) H
theorem op_top {X : Cx} {op : CmpOp} (hu : X.A.units + 64 < cLine) : OpR X (compareOp op) (rTop X.K op) := by
  intro pins s σ H x y v u Q I rx ry h
  obtain ⟨b, hb, q⟩ := h
  exact hb rfl hu I rx ry _ _ ⟨.bl b, H, I, rfl, q⟩
end L2
namespace Wk
open PySem PySem.Spec L2 Evl PySem.W
/-- data whose equality is told -/
class Qe (α : Type) [Rp α] where
  dq : Nat
  qe : α → α → Bool
  rf : ∀ {X : Cx} {pins : List (Addr × Obj)} {σ : L2.St} {H : Hp} {s : Shared}, Inv X pins σ H s → ∀ {Kn : Hp} {x : V} {a b : α}, Ex Kn H → rep X.K Kn x a → rep X.K Kn x b → qe a b = true
  is : ∀ {X : Cx} {pins : List (Addr × Obj)} {σ : L2.St} {H : Hp} {s : Shared}, Inv X pins σ H s → ∀ {Kn : Hp} {x y : V} {a b : α}, Ex Kn H → rep X.K Kn x a → rep X.K Kn y b → ∀ {v u : Value}, RelV x v → RelV y u → EqTree X.prog X.w s dq v u (qe a b)
/-- None beside it -/
class Qn (α : Type) [Rp α] where
  no : ∀ {X : Cx} {pins : List (Addr × Obj)} {σ : L2.St} {H : Hp} {s : Shared}, Inv X pins σ H s → ∀ {Kn : Hp} {x : V} {a : α}, Ex Kn H → rep X.K Kn x a → ∀ {v : Value}, RelV x v → EqTree X.prog X.w s 1 v .none false ∧ EqTree X.prog X.w s 1 .none v false
instance : Qe Int where
  dq := 0
  qe a b := decide (a = b)
  rf _ _ _ _ _ _ h1 h2 := by cases h1; cases h2; exact decide_eq_true rfl
  is _ _ _ _ a b _ h1 h2 _ _ r1 r2 := by
    cases h1
    cases h2
    obtain ⟨t1, rfl⟩ := r1
    obtain ⟨t2, rfl⟩ := r2
    exact .leaf fun A _ => SeqAt.EqAt.int_int a t1 b t2
instance : Qn Int where
  no _ _ _ a _ h _ r := by
    cases h
    obtain ⟨t, rfl⟩ := r
    exact ⟨.leaf fun A _ => SeqAt.EqAt.int_none a t, .leaf fun A _ => SeqAt.EqAt.none_int a t⟩
instance : Qe Bool where
  dq := 0
  qe a b := decide (a = b)
  rf _ _ _ _ _ _ h1 h2 := by cases h1; cases h2; exact decide_eq_true rfl
  is _ _ _ _ a b _ h1 h2 _ _ r1 r2 := by
    cases h1
    cases h2
    cases r1
    cases r2
    have e : decide (a = b) = (a == b) := by cases a <;> cases b <;> rfl
    rw [e]
    exact .leaf fun A _ => SeqAt.EqAt.bool_bool a b
instance : Qe Str where
  dq := 0
  qe a b := decide (a = b)
  rf _ _ _ _ _ _ h1 h2 := by cases h1; cases h2; exact decide_eq_true rfl
  is _ _ _ _ a b _ h1 h2 _ _ r1 r2 := by
    cases h1
    cases h2
    obtain ⟨t1, rfl⟩ := r1
    obtain ⟨t2, rfl⟩ := r2
    have e : decide (a = b) = (a == b) := by
      by_cases z : a = b
      · subst z; simp
      · simp [z]
    rw [e]
    exact .leaf fun A _ => SeqAt.EqAt.str_str a t1 b t2
instance : Qe Nn where
  dq := 0
  qe _ _ := true
  rf _ _ _ _ _ _ _ _ := rfl
  is _ _ _ _ _ _ _ h1 h2 _ _ r1 r2 := by
    cases h1
    cases h2
    cases r1
    cases r2
    exact .same
instance {α : Type} [Rp α] [Qe α] [Qn α] : Qe (Option α) where
  dq := Qe.dq α + 1
  qe a b := match a, b with
    | none, none => true
    | some x, some y => Qe.qe x y
    | _, _ => false
  rf {X _ _ _ _} I _ _ a b ek h1 h2 := by
    cases a with
    | none =>
      cases b with
      | none => rfl
      | some y => exact absurd h1 h2.1
    | some x =>
      cases b with
      | none => exact absurd h2 h1.1
      | some y => exact Qe.rf I ek h1.2 h2.2
  is {X _ _ _ _} I _ _ _ a b ek h1 h2 _ _ r1 r2 := by
    cases a with
    | none =>
      cases h1
      cases r1
      cases b with
      | none =>
        cases h2
        cases r2
        exact .same
      | some y => exact (Qn.no I ek h2.2 r2).2.mono (by omega)
    | some x =>
      cases b with
      | none =>
        cases h2
        cases r2
        exact (Qn.no I ek h1.2 r1).1.mono (by omega)
      | some y => exact (Qe.is I ek h1.2 h2.2 r1 r2).mono (by omega)
/-- one by one -/
inductive EqAll (prog : Program) (w : World) (s : Shared) (n : Nat) : List Value → List Value → Bool → Prop
  | nil : EqAll prog w s n [] [] true
  | cons {v u : Value} {vs us : List Value} {b c : Bool} : EqTree prog w s n v u b → EqAll prog w s n vs us c → EqAll prog w s n (v :: vs) (u :: us) (b && c)
theorem range_all (e : Nat → Bool) (n : Nat) : (List.range (n + 1)).all e = (e 0 && (List.range n).all fun j => e (j + 1)) := by
  rw [List.range_succ_eq_map, List.all_cons, List.all_map]
  rfl
theorem EqAll.go {prog : Program} {w : World} {s : Shared} {n : Nat} {vs us : List Value} {b : Bool} (h : EqAll prog w s n vs us b) : vs.length = us.length ∧ ∃ e : Nat → Bool, (∀ j (h1 : j < vs.toArray.size) (h2 : j < us.toArray.size), EqTree prog w s n vs.toArray[j] us.toArray[j] (e j)) ∧ (List.range vs.length).all e = b := by
  induction h with
  | nil => exact ⟨rfl, fun _ => true, fun j h1 _ => absurd h1 (Nat.not_lt_zero _), rfl⟩
  | @cons v u vs us b c h t ih =>
    obtain ⟨hl, e, h1, h2⟩ := ih
    refine ⟨by rw [List.length_cons, List.length_cons, hl], fun j => match j with | 0 => b | j + 1 => e j, fun j j1 j2 => ?_, ?_⟩
    · cases j with
      | zero => exact h
      | succ j => exact h1 j (by simpa using j1) (by simpa using j2)
    · rw [List.length_cons, range_all, ← h2]
def qeL {α : Type} [Rp α] [Qe α] : List α → List α → Bool
  | [], [] => true
  | x :: xs, y :: ys => Qe.qe x y && qeL xs ys
  | _, _ => false
theorem qeL_len {α : Type} [Rp α] [Qe α] : ∀ {xs ys : List α}, xs.length ≠ ys.length → qeL xs ys = false
  | [], [], h => absurd rfl h
  | [], _ :: _, _ => rfl
  | _ :: _, [], _ => rfl
  | x :: xs, y :: ys, h => by
    show (Qe.qe x y && qeL xs ys) = false
    rw [qeL_len (fun z => h (by rw [List.length_cons, List.length_cons, z])), Bool.and_false]
section
variable {X : Cx} {pins : List (Addr × Obj)} {σ : L2.St} {H Kn : Hp} {s : Shared} {α : Type} [Rp α] [Qe α]
theorem rfL (I : Inv X pins σ H s) (ek : Ex Kn H) : ∀ {vs : List V} {xs ys : List α}, Paired (rep X.K Kn) vs xs → Paired (rep X.K Kn) vs ys → qeL xs ys = true
  | _, _, _, .nil, .nil => rfl
  | _, _, _, .cons h1 t1, .cons h2 t2 => by
    show (Qe.qe _ _ && qeL _ _) = true
    rw [Qe.rf I ek h1 h2, rfL I ek t1 t2]
    rfl
theorem eqAllL (I : Inv X pins σ H s) (ek : Ex Kn H) : ∀ {vs ws : List V} {xs ys : List α} {us zs : List Value}, xs.length = ys.length → Paired (rep X.K Kn) vs xs → Paired (rep X.K Kn) ws ys → Vals vs us → Vals ws zs → EqAll X.prog X.w s (Qe.dq α) us zs (qeL xs ys)
  | _, _, _, _, _, _, _, .nil, .nil, .nil, .nil => .nil
  | _, _, _, _, _, _, hl, .cons h1 t1, .cons h2 t2, .cons r1 q1, .cons r2 q2 => .cons (Qe.is I ek h1 h2 r1 r2) (eqAllL I ek (Nat.succ.inj hl) t1 t2 q1 q2)
  | _, _, _, _, _, _, hl, .nil, .cons _ _, _, _ => by cases hl
  | _, _, _, _, _, _, hl, .cons _ _, .nil, _, _ => by cases hl
theorem list_tree (I : Inv X pins σ H s) (ek : Ex Kn H) {p q : Addr} {vs ws : List V} {xs ys : List α} (hp : Kn p = some (.lst vs)) (hq : Kn q = some (.lst ws)) (h1 : Paired (rep X.K Kn) vs xs) (h2 : Paired (rep X.K Kn) ws ys) : EqTree X.prog X.w s (Qe.dq α + 1) (.ref p) (.ref q) (qeL xs ys) := by
  by_cases hpq : p = q
  · subst hpq
    rw [hp] at hq
    cases hq
    rw [rfL I ek h1 h2]
    exact .same
  · obtain ⟨us, r1, p1, _⟩ := I.list (sq_of (ek _ _ hp))
    obtain ⟨zs, r2, p2, _⟩ := I.list (sq_of (ek _ _ hq))
    have l1 := Paired.length h1
    have l2 := Paired.length h2
    have m1 := r1.length
    have m2 := r2.length
    by_cases hl : xs.length = ys.length
    · obtain ⟨_, e, he, hb⟩ := (eqAllL I ek hl h1 h2 r1 r2).go
      have t := EqTree.lists hpq p1.isList p2.isList (by rw [List.size_toArray, List.size_toArray]; omega) he
      rw [List.size_toArray, hb] at t
      exact t
    · rw [qeL_len hl]
      exact .listsLen hpq p1.isList p2.isList (by rw [List.size_toArray, List.size_toArray]; simp; omega)
end
instance {α : Type} [Rp α] [Qe α] : Qe (List α) where
  dq := Qe.dq α + 1
  qe := qeL
  rf I _ _ _ _ ek h1 h2 := by
    obtain ⟨p, vs, rfl, a1, a2⟩ := h1
    obtain ⟨q, ws, e, b1, b2⟩ := h2
    cases e
    rw [a1] at b1
    cases b1
    exact rfL I ek a2 b2
  is I _ _ _ _ _ ek h1 h2 _ _ r1 r2 := by
    obtain ⟨p, vs, rfl, a1, a2⟩ := h1
    obtain ⟨q, ws, rfl, b1, b2⟩ := h2
    cases r1
    cases r2
    exact list_tree I ek a1 b1 a2 b2
instance {α : Type} [Rp α] : Qn (List α) where
  no I _ _ _ ek h _ r := by
    obtain ⟨p, vs, rfl, a1, a2⟩ := h
    cases r
    obtain ⟨us, r1, p1, _⟩ := I.list (sq_of (ek _ _ a1))
    exact ⟨.leaf fun A hu => SeqAt.EqAt.list_none p1.isList (by omega), .leaf fun A hu => SeqAt.EqAt.none_list p1.isList (by omega)⟩
/-- the places of a tuple -/
class Qs (τ : Type) [Tp τ] where
  dq : Nat
  qe : τ → τ → Bool
  rf : ∀ {X : Cx} {pins : List (Addr × Obj)} {σ : L2.St} {H : Hp} {s : Shared}, Inv X pins σ H s → ∀ {Kn : Hp} {vs : List V} {a b : τ}, Ex Kn H → rept X.K Kn vs a → rept X.K Kn vs b → qe a b = true
  is : ∀ {X : Cx} {pins : List (Addr × Obj)} {σ : L2.St} {H : Hp} {s : Shared}, Inv X pins σ H s → ∀ {Kn : Hp} {vs ws : List V} {a b : τ}, Ex Kn H → rept X.K Kn vs a → rept X.K Kn ws b → ∀ {us zs : List Value}, Vals vs us → Vals ws zs → EqAll X.prog X.w s dq us zs (qe a b)
theorem EqAll.mono {prog : Program} {w : World} {s : Shared} {n m : Nat} (hm : n ≤ m) {vs us : List Value} {b : Bool} (h : EqAll prog w s n vs us b) : EqAll prog w s m vs us b := by
  induction h with
  | nil => exact .nil
  | cons h _ ih => exact .cons (h.mono hm) ih
instance : Qs Unit where
  dq := 0
  qe _ _ := true
  rf _ _ _ _ _ _ _ _ := rfl
  is _ _ _ _ _ _ _ h1 h2 _ _ r1 r2 := by
    cases h1
    cases h2
    cases r1
    cases r2
    exact .nil
instance {α τ : Type} [Rp α] [Tp τ] [Qe α] [Qs τ] : Qs (α × τ) where
  dq := max (Qe.dq α) (Qs.dq τ)
  qe a b := Qe.qe a.1 b.1 && Qs.qe a.2 b.2
  rf I _ _ _ _ ek h1 h2 := by
    obtain ⟨v, r, rfl, a1, a2⟩ := h1
    obtain ⟨w, r2, e, b1, b2⟩ := h2
    cases e
    rw [Qe.rf I ek a1 b1, Qs.rf I ek a2 b2]
    rfl
  is I _ _ _ _ _ ek h1 h2 _ _ r1 r2 := by
    obtain ⟨v, r, rfl, a1, a2⟩ := h1
    obtain ⟨w, r2, rfl, b1, b2⟩ := h2
    cases r1 with
    | cons c1 d1 =>
      cases r2 with
      | cons c2 d2 => exact .cons ((Qe.is I ek a1 b1 c1 c2).mono (Nat.le_max_left _ _)) ((Qs.is I ek a2 b2 d1 d2).mono (Nat.le_max_right _ _))
section
variable {X : Cx} {pins : List (Addr × Obj)} {σ : L2.St} {H Kn : Hp} {s : Shared} {τ : Type} [Tp τ] [Qs τ]
theorem tup_tree (I : Inv X pins σ H s) (ek : Ex Kn H) {p q : Addr} {vs ws : List V} {a b : τ} (hp : Kn p = some (.tup vs)) (hq : Kn q = some (.tup ws)) (h1 : rept X.K Kn vs a) (h2 : rept X.K Kn ws b) : EqTree X.prog X.w s (Qs.dq τ + 1) (.ref p) (.ref q) (Qs.qe a b) := by
  by_cases hpq : p = q
  · subst hpq
    rw [hp] at hq
    cases hq
    rw [Qs.rf I ek h1 h2]
    exact .same
  · obtain ⟨us, r1, p1, _⟩ := I.tuple (st_of (ek _ _ hp))
    obtain ⟨zs, r2, p2, _⟩ := I.tuple (st_of (ek _ _ hq))
    obtain ⟨hl, e, he, hb⟩ := (Qs.is I ek h1 h2 r1 r2).go
    have t := EqTree.tuples hpq p1 p2 he
    rw [List.size_toArray, List.size_toArray, ← hl, Nat.min_self, hb] at t
    simpa using t
end
instance {α τ : Type} [Rp α] [Tp τ] [Qe α] [Qs τ] : Qe (α × τ) where
  dq := Qs.dq (α × τ) + 1
  qe a b := Qs.qe a b
  rf I _ _ _ _ ek h1 h2 := by
    obtain ⟨p, vs, rfl, a1, a2⟩ := h1
    obtain ⟨q, ws, e, b1, b2⟩ := h2
    cases e
    rw [a1] at b1
    cases b1
    exact Qs.rf I ek a2 b2
  is I _ _ _ _ _ ek h1 h2 _ _ r1 r2 := by
    obtain ⟨p, vs, rfl, a1, a2⟩ := h1
    obtain ⟨q, ws, rfl, b1, b2⟩ := h2
    cases r1
    cases r2
    exact tup_tree I ek a1 b1 a2 b2
instance {α τ : Type} [Rp α] [Tp τ] : Qn (α × τ) where
  no I _ _ _ ek h _ r := by
    obtain ⟨p, vs, rfl, a1, a2⟩ := h
    cases r
    obtain ⟨us, r1, p1, _⟩ := I.tuple (st_of (ek _ _ a1))
    exact ⟨.leaf fun A hu => SeqAt.EqAt.tuple_none p1 (by omega), .leaf fun A hu => SeqAt.EqAt.none_tuple p1 (by omega)⟩
/-! ### dicts -/
section
variable {κ β : Type} [Rp κ] [K1 κ] [DecidableEq κ] [Rp β]
def getK (l : List (κ × β)) (k : Key) : Option β := (l.find? fun kv => decide ((Ky.key kv.1 : Key) = k)).map (·.2)
theorem getK_key (l : List (κ × β)) (x : κ) : getK l (Ky.key x) = getD l x := by
  unfold getK getD
  congr 2
  funext kv
  exact decide_eq_decide.mpr ⟨fun h => Ky.inj h, fun h => by rw [h]⟩
theorem DK.getK {K : Fg} {H : Hp} {ws : List (Key × V)} {kvs : List (κ × β)} (k : Key) (h : DK K H ws kvs) : (Wk.getK kvs k = none ∧ valV ws k = none) ∨ ∃ y v, Wk.getK kvs k = Option.some y ∧ valV ws k = Option.some v ∧ rep K H v y := by
  unfold DK at h
  induction h with
  | nil => exact .inl ⟨rfl, rfl⟩
  | @cons w kv ws kvs h t ih =>
    unfold Wk.getK valV
    by_cases e : (Ky.key kv.1 : Key) = k
    · have e2 : w.1 = k := h.1.trans e
      rw [List.find?_cons_of_pos (by simpa using e), List.find?_cons_of_pos (by simpa using e2)]
      exact .inr ⟨_, _, rfl, rfl, h.2⟩
    · have e2 : ¬ w.1 = k := fun z => e (h.1.symm.trans z)
      rw [List.find?_cons_of_neg (by simpa using e), List.find?_cons_of_neg (by simpa using e2)]
      exact ih
theorem DK.keys {K : Fg} {H : Hp} {ws : List (Key × V)} {kvs : List (κ × β)} (h : DK K H ws kvs) : kvs.map (fun kv => (Ky.key kv.1 : Key)) = ws.map (·.1) := by
  unfold DK at h
  induction h with
  | nil => rfl
  | cons h _ ih =>
    rw [List.map_cons, List.map_cons, ih]
    exact congrArg (· :: _) h.1.symm
theorem getK_mem {l : List (κ × β)} (nd : (l.map fun kv => (Ky.key kv.1 : Key)).Nodup) : ∀ {kv : κ × β}, kv ∈ l → getK l (Ky.key kv.1) = some kv.2 := by
  induction l with
  | nil => exact fun h => nomatch h
  | cons p l ih =>
    intro kv h
    rw [List.map_cons, List.nodup_cons] at nd
    unfold getK
    rcases List.mem_cons.mp h with rfl | h
    · rw [List.find?_cons_of_pos (by simp)]
      rfl
    · have ne : ¬ (Ky.key p.1 : Key) = Ky.key kv.1 := fun z => nd.1 (z ▸ List.mem_map.mpr ⟨kv, h, rfl⟩)
      rw [List.find?_cons_of_neg (by simpa using ne)]
      exact ih nd.2 h
/-- two values of a pair's place -/
theorem DK.at {K : Fg} {H : Hp} {ws : List (Key × V)} {kvs : List (κ × β)} (h : DK K H ws kvs) : ∀ {w : Key × V}, w ∈ ws → ∃ kv ∈ kvs, w.1 = Ky.key kv.1 ∧ rep K H w.2 kv.2 := by
  unfold DK at h
  induction h with
  | nil => exact fun h => nomatch h
  | @cons w0 kv0 ws kvs h t ih =>
    intro w hw
    rcases List.mem_cons.mp hw with rfl | hw
    · exact ⟨kv0, List.mem_cons_self, h.1, h.2⟩
    · obtain ⟨kv, h1, h2⟩ := ih hw
      exact ⟨kv, List.mem_cons_of_mem _ h1, h2⟩
def qeD [Qe β] (a b : Dc κ β) : Bool := decide (a.l.length = b.l.length) && a.l.all fun kv => match getD b.l kv.1 with
  | some y => Qe.qe kv.2 y
  | none => false
theorem kv_mem {ws : List (Key × V)} {vs : List (Key × Value)} (h : KV ws vs) {k : Key} {v : Value} (hm : (k, v) ∈ vs) : ∃ x, (k, x) ∈ ws ∧ RelV x v := by
  unfold KV at h
  induction h with
  | nil => cases hm
  | @cons p q ws vs h t ih =>
    rcases List.mem_cons.mp hm with e | hm
    · obtain ⟨h1, h2⟩ := h
      obtain ⟨k', x⟩ := p
      subst e
      have h1 : k' = k := h1
      subst h1
      exact ⟨x, List.mem_cons_self, h2⟩
    · obtain ⟨x, h1, h2⟩ := ih hm
      exact ⟨x, List.mem_cons_of_mem _ h1, h2⟩
theorem rd_one {H : Hp} {p : Addr} {w1 w2 : List (Key × V)} (h1 : Rd H p (.dK w1)) (h2 : Rd H p (.dK w2)) : w1 = w2 := by
  rcases h1 with h1 | ⟨o1, h1⟩ <;> rcases h2 with h2 | ⟨o2, h2⟩
  · rw [h1] at h2; cases h2; rfl
  · rw [h1] at h2; cases h2
  · rw [h1] at h2; cases h2
  · rw [h1] at h2; cases h2; rfl
end
section
variable {κ β : Type} [Rp κ] [K1 κ] [DecidableEq κ] [Rp β] [Qe β] {X : Cx} {pins : List (Addr × Obj)} {σ : L2.St} {H Kn : Hp} {s : Shared}
theorem rfD (I : Inv X pins σ H s) (ek : Ex Kn H) {p : Addr} {ws : List (Key × V)} {a b : Dc κ β} (hp : Rd H p (.dK ws)) (h1 : DK X.K Kn ws a.l) (h2 : DK X.K Kn ws b.l) : qeD a b = true := by
  obtain ⟨_, _, vs, rv, dv⟩ := dk_rd I.hok hp
  have nd : (ws.map (·.1)).Nodup := by
    obtain ⟨_, _, _, _, _, _, _, _, nd⟩ := dv
    rw [KV.keys rv]
    exact nd
  unfold qeD
  rw [Bool.and_eq_true, decide_eq_true_eq, List.all_eq_true]
  refine ⟨by rw [← Paired.length h1, ← Paired.length h2], fun kv hkv => ?_⟩
  rw [← getK_key]
  have k1 := getK_mem (by rw [h1.keys]; exact nd) hkv
  rcases h2.getK (Ky.key kv.1) with ⟨_, n⟩ | ⟨y, v, e1, e2, r⟩
  · rcases h1.getK (Ky.key kv.1) with ⟨n1, _⟩ | ⟨y2, v2, _, e4, _⟩
    · rw [k1] at n1; cases n1
    · rw [n] at e4; cases e4
  · rw [e1]
    rcases h1.getK (Ky.key kv.1) with ⟨n1, _⟩ | ⟨y2, v2, e3, e4, r2⟩
    · rw [k1] at n1; cases n1
    · rw [e2] at e4
      cases e4
      rw [k1] at e3
      cases e3
      exact Qe.rf I ek r2 r
def eqK (al bl : List (κ × β)) (k : Key) : Bool := match getK al k, getK bl k with
  | some x, some y => Qe.qe x y
  | _, _ => true
theorem dict_go (I : Inv X pins σ H s) (ek : Ex Kn H) {p q : Addr} {w1 w2 : List (Key × V)} {a b : Dc κ β} (hp : Rd H p (.dK w1)) (hq : Rd H q (.dK w2)) (h1 : DK X.K Kn w1 a.l) (h2 : DK X.K Kn w2 b.l) :
    ∃ (ka kb : List (Key × Value)), (p == sysModules) = false ∧ (q == sysModules) = false ∧ s.heap.DictOf (mixKind X.prog X.w) p ka ∧ s.heap.DictOf (mixKind X.prog X.w) q kb ∧
      (∀ k v y, (k, v) ∈ ka → valueAt kb k = some y → EqTree X.prog X.w s (Qe.dq β) v y (eqK a.l b.l k)) ∧ (ka.length == kb.length && ka.all fun p => (valueAt kb p.1).isSome && eqK a.l b.l p.1) = qeD a b := by
  obtain ⟨_, s1, ka, r1, d1⟩ := dk_rd I.hok hp
  obtain ⟨_, s2, kb, r2, d2⟩ := dk_rd I.hok hq
  have nd : (w1.map (·.1)).Nodup := by
    obtain ⟨_, _, _, _, _, _, _, _, nd⟩ := id d1
    rw [KV.keys r1]
    exact nd
  have nda : (a.l.map fun kv => (Ky.key kv.1 : Key)).Nodup := by rw [h1.keys]; exact nd
  refine ⟨ka, kb, s1, s2, d1, d2, fun k v y hm hv => ?_, ?_⟩
  · obtain ⟨x, hx, rx⟩ := kv_mem r1 hm
    obtain ⟨kv, hkv, hk, rkv⟩ := h1.at hx
    have hk : k = Ky.key kv.1 := hk
    have g1 := getK_mem nda hkv
    rw [← hk] at g1
    have rr := r2.val k
    rw [hv] at rr
    rcases h2.getK k with ⟨_, n⟩ | ⟨z, zv, e1, e2, rz⟩
    · rw [n] at rr
      exact False.elim rr
    · rw [e2] at rr
      unfold eqK
      rw [g1, e1]
      exact Qe.is I ek rkv rz rx rr
  · unfold qeD
    have l1 : ka.length = a.l.length := by rw [← KV.length r1, Paired.length h1]
    have l2 : kb.length = b.l.length := by rw [← KV.length r2, Paired.length h2]
    rw [l1, l2]
    have e0 : (a.l.length == b.l.length) = decide (a.l.length = b.l.length) := by simp [BEq.beq, Nat.beq_eq]
    rw [e0]
    congr 1
    have em : (ka.all fun p => (valueAt kb p.1).isSome && eqK a.l b.l p.1) = (ka.map (·.1)).all fun k => (valueAt kb k).isSome && eqK a.l b.l k := by rw [List.all_map]; rfl
    rw [em, ← KV.keys r1, ← h1.keys, List.all_map]
    refine Bool.eq_iff_iff.mpr ?_
    rw [List.all_eq_true, List.all_eq_true]
    refine forall_congr' fun kv => forall_congr' fun hkv => ?_
    have g1 := getK_mem nda hkv
    have g2 := getK_key b.l kv.1
    have v2 : (valueAt kb (Ky.key kv.1 : Key)).isSome = (getD b.l kv.1).isSome := by
      have rr := r2.val (Ky.key kv.1)
      rw [← h2.some kv.1]
      cases e : valV w2 (Ky.key kv.1 : Key) <;> cases e2 : valueAt kb (Ky.key kv.1 : Key)
      · rfl
      · rw [e, e2] at rr; exact False.elim rr
      · rw [e, e2] at rr; exact False.elim rr
      · rfl
    show ((valueAt kb (Ky.key kv.1 : Key)).isSome && eqK a.l b.l (Ky.key kv.1)) = true ↔ _
    rw [v2]
    unfold eqK
    rw [g1, g2]
    cases getD b.l kv.1 <;> simp
theorem dict_tree (I : Inv X pins σ H s) (ek : Ex Kn H) {p q : Addr} {w1 w2 : List (Key × V)} {a b : Dc κ β} (hp : Rd H p (.dK w1)) (hq : Rd H q (.dK w2)) (h1 : DK X.K Kn w1 a.l) (h2 : DK X.K Kn w2 b.l) : EqTree X.prog X.w s (Qe.dq β + 1) (.ref p) (.ref q) (qeD a b) := by
  by_cases hpq : p = q
  · subst hpq
    have := rd_one hp hq
    subst this
    rw [rfD I ek hp h1 h2]
    exact .same
  · obtain ⟨ka, kb, s1, s2, d1, d2, t, e⟩ := dict_go I ek hp hq h1 h2
    rw [← e]
    exact .dicts hpq s1 s2 d1 d2 t
end
instance {κ β : Type} [Rp κ] [K1 κ] [DecidableEq κ] [Rp β] [Qe β] : Qe (Dc κ β) where
  dq := Qe.dq β + 1
  qe := qeD
  rf I _ _ _ _ ek h1 h2 := by
    obtain ⟨p, vs, rfl, a1, a2⟩ := h1
    obtain ⟨q, ws, e, b1, b2⟩ := h2
    cases e
    have := rd_one (rd_ex ek a1) (rd_ex ek b1)
    subst this
    exact rfD I ek (rd_ex ek a1) a2 b2
  is I _ _ _ _ _ ek h1 h2 _ _ r1 r2 := by
    obtain ⟨p, vs, rfl, a1, a2⟩ := h1
    obtain ⟨q, ws, rfl, b1, b2⟩ := h2
    cases r1
    cases r2
    exact dict_tree I ek (rd_ex ek a1) (rd_ex ek b1) a2 b2
/-! ### as operations -/
class Qt (α : Type) [Rp α] [Qe α] where
  eq : ∀ {K : Fg} {Kn H : Hp} {x y : V} {a b : α}, Qe.dq α ≤ 60 → Ex Kn H → rep K Kn x a → rep K Kn y b → TopB K H .Eq x y (Qe.qe a b)
  ne : ∀ {K : Fg} {Kn H : Hp} {x y : V} {a b : α}, Qe.dq α ≤ 60 → Ex Kn H → rep K Kn x a → rep K Kn y b → TopB K H .NotEq x y (!Qe.qe a b)
instance {α : Type} [Rp α] [Qe α] : Qt (List α) where
  eq {K Kn H x y a b} hd ek h1 h2 := by
    obtain ⟨p, vs, rfl, a1, a2⟩ := h1
    obtain ⟨q, ws, rfl, b1, b2⟩ := h2
    intro X pins σ s hK hu I v u r1 r2 E Q hQ
    subst hK
    cases r1
    cases r2
    have hd : Qe.dq α + 1 ≤ 60 := hd
    obtain ⟨us, c1, p1, _⟩ := I.list (sq_of (ek _ _ a1))
    obtain ⟨zs, c2, p2, _⟩ := I.list (sq_of (ek _ _ b1))
    have l1 := Paired.length a2
    have l2 := Paired.length b2
    have m1 := c1.length
    have m2 := c2.length
    by_cases hl : a.length = b.length
    · obtain ⟨_, e, he, hb⟩ := (eqAllL I ek hl a2 b2 c1 c2).go
      refine eq_listsT p1.isList p2.isList (by rw [List.size_toArray, List.size_toArray]; omega) he (by omega) ?_
      rw [List.size_toArray, hb]
      exact hQ
    · have hQ : Q (.bool (qeL a b)) s := hQ
      rw [qeL_len hl] at hQ
      exact SeqAt.RcAt.lists_lengths p1.isList p2.isList (by rw [List.size_toArray, List.size_toArray]; simp; omega) (by omega) _ _ _ _ hQ
  ne {K Kn H x y a b} hd ek h1 h2 := by
    obtain ⟨p, vs, rfl, a1, a2⟩ := h1
    obtain ⟨q, ws, rfl, b1, b2⟩ := h2
    intro X pins σ s hK hu I v u r1 r2 E Q hQ
    subst hK
    cases r1
    cases r2
    have hd : Qe.dq α + 1 ≤ 60 := hd
    obtain ⟨us, c1, p1, _⟩ := I.list (sq_of (ek _ _ a1))
    obtain ⟨zs, c2, p2, _⟩ := I.list (sq_of (ek _ _ b1))
    have l1 := Paired.length a2
    have l2 := Paired.length b2
    have m1 := c1.length
    have m2 := c2.length
    by_cases hl : a.length = b.length
    · obtain ⟨_, e, he, hb⟩ := (eqAllL I ek hl a2 b2 c1 c2).go
      refine SeqAt.wk_neG_lists p1.isList p2.isList (by rw [List.size_toArray, List.size_toArray]; omega) (by omega) (fun j j1 j2 => (he j j1 j2).at X.A.in1 (by show X.A.units + 1 + _ < cLine; omega)) _ _ ?_
      rw [List.size_toArray, hb]
      exact hQ
    · have hQ : Q (.bool (!qeL a b)) s := hQ
      rw [qeL_len hl] at hQ
      exact SeqAt.RcNeAt.lists_lengths p1.isList p2.isList (by rw [List.size_toArray, List.size_toArray]; simp; omega) (by omega) _ _ _ _ hQ
instance {α τ : Type} [Rp α] [Tp τ] [Qe α] [Qs τ] : Qt (α × τ) where
  eq {K Kn H x y a b} hd ek h1 h2 := by
    obtain ⟨p, vs, rfl, a1, a2⟩ := h1
    obtain ⟨q, ws, rfl, b1, b2⟩ := h2
    intro X pins σ s hK hu I v u r1 r2 E Q hQ
    subst hK
    cases r1
    cases r2
    have hd : Qs.dq (α × τ) + 1 ≤ 60 := hd
    obtain ⟨us, c1, p1, _⟩ := I.tuple (st_of (ek _ _ a1))
    obtain ⟨zs, c2, p2, _⟩ := I.tuple (st_of (ek _ _ b1))
    obtain ⟨hl, e, he, hb⟩ := (Qs.is I ek a2 b2 c1 c2).go
    refine eq_tuplesT p1 p2 he (by omega) ?_
    rw [List.size_toArray, List.size_toArray, ← hl, Nat.min_self, hb]
    have hQ : Q (.bool (Qs.qe a b)) s := hQ
    simpa using hQ
  ne {K Kn H x y a b} hd ek h1 h2 := by
    obtain ⟨p, vs, rfl, a1, a2⟩ := h1
    obtain ⟨q, ws, rfl, b1, b2⟩ := h2
    intro X pins σ s hK hu I v u r1 r2 E Q hQ
    subst hK
    cases r1
    cases r2
    have hd : Qs.dq (α × τ) + 1 ≤ 60 := hd
    obtain ⟨us, c1, p1, _⟩ := I.tuple (st_of (ek _ _ a1))
    obtain ⟨zs, c2, p2, _⟩ := I.tuple (st_of (ek _ _ b1))
    obtain ⟨hl, e, he, hb⟩ := (Qs.is I ek a2 b2 c1 c2).go
    refine SeqAt.wk_neG_tuples p1 p2 (by omega) (fun j j1 j2 => (he j j1 j2).at X.A.in1 (by show X.A.units + 1 + _ < cLine; omega)) _ _ ?_
    rw [List.size_toArray, List.size_toArray, ← hl, Nat.min_self, hb]
    have hQ : Q (.bool (!Qs.qe a b)) s := hQ
    simpa using hQ
instance {κ β : Type} [Rp κ] [K1 κ] [DecidableEq κ] [Rp β] [Qe β] : Qt (Dc κ β) where
  eq {K Kn H x y a b} hd ek h1 h2 := by
    obtain ⟨p, vs, rfl, a1, a2⟩ := h1
    obtain ⟨q, ws, rfl, b1, b2⟩ := h2
    intro X pins σ s hK hu I v u r1 r2 E Q hQ
    subst hK
    cases r1
    cases r2
    have hd : Qe.dq β + 1 ≤ 60 := hd
    obtain ⟨ka, kb, s1, s2, d1, d2, t, e⟩ := dict_go I ek (rd_ex ek a1) (rd_ex ek b1) a2 b2
    refine eq_dictsT s1 s2 d1 d2 t (by omega) ?_
    rw [e]
    exact hQ
  ne {K Kn H x y a b} hd ek h1 h2 := by
    obtain ⟨p, vs, rfl, a1, a2⟩ := h1
    obtain ⟨q, ws, rfl, b1, b2⟩ := h2
    intro X pins σ s hK hu I v u r1 r2 E Q hQ
    subst hK
    cases r1
    cases r2
    have hd : Qe.dq β + 1 ≤ 60 := hd
    obtain ⟨ka, kb, s1, s2, d1, d2, t, e⟩ := dict_go I ek (rd_ex ek a1) (rd_ex ek b1) a2 b2
    refine PySem.W.wk_neG_dicts s1 s2 d1 d2 (by omega) (fun _ => KeqHitsIn.of _ fun k v y hm hv => (t k v y hm hv).at X.A.in1 (by show X.A.units + 1 + _ < cLine; omega)) _ _ ?_
    rw [e]
    exact hQ
section
variable {K : Fg} {α : Type} [Rp α] [Qe α] [Qt α]
theorem r2_eqQ {a b : α} (hd : Qe.dq α ≤ 60 := by decide) : R2V K (rTop K .Eq) a b (Qe.qe a b) := fun Kn H v w ek h1 h2 Q q => ⟨_, Qt.eq hd ek h1 h2, q.fl (z := Qe.qe a b) ek⟩
theorem r2_neQ {a b : α} (hd : Qe.dq α ≤ 60 := by decide) : R2V K (rTop K .NotEq) a b (!Qe.qe a b) := fun Kn H v w ek h1 h2 Q q => ⟨_, Qt.ne hd ek h1 h2, q.fl (z := !Qe.qe a b) ek⟩
end
theorem k_top {X : Cx} {K : Fg} {op : CmpOp} (hu : X.A.units + 64 < cLine) (h : X.K = K := by rfl) : OpR X (compareOp op) (rTop K op) := h ▸ op_top hu
end Wk
/-! Wmin: min, max of a list of whole numbers. -/
namespace Wk
open PySem PySem.Spec L2 Evl
def minG : Int → List Int → Int
  | m, [] => m
  | m, x :: xs => minG (min m x) xs
def maxG : Int → List Int → Int
  | m, [] => m
  | m, x :: xs => maxG (max m x) xs
def minL : List Int → Option Int
  | [] => none
  | x :: xs => some (minG x xs)
def maxL : List Int → Option Int
  | [] => none
  | x :: xs => some (maxG x xs)
theorem minG_spec : ∀ (xs : List Int) (m : Int), (minG m xs = m ∨ minG m xs ∈ xs) ∧ minG m xs ≤ m ∧ ∀ x ∈ xs, minG m xs ≤ x
  | [], m => ⟨.inl rfl, Int.le_refl _, (fun _ h => nomatch h)⟩
  | y :: ys, m => by
    obtain ⟨h1, h2, h3⟩ := minG_spec ys (min m y)
    show (minG (min m y) ys = m ∨ minG (min m y) ys ∈ y :: ys) ∧ minG (min m y) ys ≤ m ∧ ∀ x ∈ y :: ys, minG (min m y) ys ≤ x
    refine ⟨?_, by omega, fun x hx => ?_⟩
    · rcases h1 with h1 | h1
      · by_cases e : m ≤ y
        · exact .inl (h1.trans (by omega))
        · exact .inr (by rw [h1, show min m y = y by omega]; exact List.mem_cons_self)
      · exact .inr (List.mem_cons_of_mem _ h1)
    · rcases List.mem_cons.mp hx with rfl | hx
      · omega
      · exact h3 x hx
theorem maxG_spec : ∀ (xs : List Int) (m : Int), (maxG m xs = m ∨ maxG m xs ∈ xs) ∧ m ≤ maxG m xs ∧ ∀ x ∈ xs, x ≤ maxG m xs
  | [], m => ⟨.inl rfl, Int.le_refl _, (fun _ h => nomatch h)⟩
  | y :: ys, m => by
    obtain ⟨h1, h2, h3⟩ := maxG_spec ys (max m y)
    show (maxG (max m y) ys = m ∨ maxG (max m y) ys ∈ y :: ys) ∧ m ≤ maxG (max m y) ys ∧ ∀ x ∈ y :: ys, x ≤ maxG (max m y) ys
    refine ⟨?_, by omega, fun x hx => ?_⟩
    · rcases h1 with h1 | h1
      · by_cases e : y ≤ m
        · exact .inl (h1.trans (by omega))
        · exact .inr (by rw [h1, show max m y = y by omega]; exact List.mem_cons_self)
      · exact .inr (List.mem_cons_of_mem _ h1)
    · rcases List.mem_cons.mp hx with rfl | hx
      · omega
      · exact h3 x hx
theorem minL_spec {xs : List Int} {m : Int} (h : minL xs = some m) : m ∈ xs ∧ ∀ x ∈ xs, m ≤ x := by
  match xs, h with
  | y :: ys, h =>
    cases h
    obtain ⟨h1, h2, h3⟩ := minG_spec ys y
    refine ⟨?_, fun x hx => ?_⟩
    · rcases h1 with h1 | h1
      · rw [h1]
        exact List.mem_cons_self
      · exact List.mem_cons_of_mem _ h1
    · rcases List.mem_cons.mp hx with rfl | hx
      · exact h2
      · exact h3 x hx
theorem maxL_spec {xs : List Int} {m : Int} (h : maxL xs = some m) : m ∈ xs ∧ ∀ x ∈ xs, x ≤ m := by
  match xs, h with
  | y :: ys, h =>
    cases h
    obtain ⟨h1, h2, h3⟩ := maxG_spec ys y
    refine ⟨?_, fun x hx => ?_⟩
    · rcases h1 with h1 | h1
      · rw [h1]
        exact List.mem_cons_self
      · exact List.mem_cons_of_mem _ h1
    · rcases List.mem_cons.mp hx with rfl | hx
      · exact h2
      · exact h3 x hx
theorem rc_minL {K : Fg} {xs : List Int} {m : Int} (hm : minL xs = some m) : RCV K (rMin K) (xs, ()) m := fun Kn H vs ek h Q q => by
  obtain ⟨v, rfl, p, ws, rfl, h1, h2⟩ := one_arg h
  have e := paired_fl h2
  subst e
  obtain ⟨s1, s2⟩ := minL_spec hm
  refine ⟨p, xs, rfl, sq_of (ek _ _ h1), List.length_pos_of_mem s1, fun k hk hle => ?_⟩
  have e : k = m := by
    have := s2 k hk
    have := hle m s1
    omega
  subst e
  exact q.fl ek
theorem rc_maxL {K : Fg} {xs : List Int} {m : Int} (hm : maxL xs = some m) : RCV K (rMax K) (xs, ()) m := fun Kn H vs ek h Q q => by
  obtain ⟨v, rfl, p, ws, rfl, h1, h2⟩ := one_arg h
  have e := paired_fl h2
  subst e
  obtain ⟨s1, s2⟩ := maxL_spec hm
  refine ⟨p, xs, rfl, sq_of (ek _ _ h1), List.length_pos_of_mem s1, fun k hk hle => ?_⟩
  have e : k = m := by
    have := s2 k hk
    have := hle m s1
    omega
  subst e
  exact q.fl ek
section
variable {X : Cx} {K : Fg}
theorem k_maxL (hc : X.calm = true := by rfl) (h : X.K = K := by rfl) : CallR X (.builtin "max") (rMax K) := h ▸ cr_max hc
theorem k_minL (hc : X.calm = true := by rfl) (h : X.K = K := by rfl) : CallR X (.builtin "min") (rMin K) := h ▸ cr_min hc
end
end Wk
/-! lists of one's own, lent where a tuple of plain values comes -/
namespace Wk
open PySem PySem.Spec L2 Evl
def del (Kn : Hp) (p : Addr) : Hp := fun a => if a = p then none else Kn a
theorem del_ne {Kn : Hp} {p a : Addr} (h : a ≠ p) : del Kn p a = Kn a := if_neg h
theorem del_same {Kn : Hp} {p : Addr} : del Kn p p = none := if_pos rfl
class Nl (α : Type) [Rp α] where
  out : ∀ {K : Fg} {Kn : Hp} {p : Addr} {ws : List V} {v : V} {x : α}, Kn p = some (.lst ws) → rep K Kn v x → rep K (del Kn p) v x
class NlT (τ : Type) [Tp τ] where
  out : ∀ {K : Fg} {Kn : Hp} {p : Addr} {ws vs : List V} {t : τ}, Kn p = some (.lst ws) → rept K Kn vs t → rept K (del Kn p) vs t
instance : Nl Int := ⟨fun _ h => h⟩
instance : Nl Bool := ⟨fun _ h => h⟩
instance : Nl Str := ⟨fun _ h => h⟩
instance : NlT Unit := ⟨fun _ h => h⟩
instance {α τ : Type} [Rp α] [Tp τ] [Nl α] [NlT τ] : NlT (α × τ) := ⟨fun e h => by
  obtain ⟨v, r, h1, h2, h3⟩ := h
  exact ⟨v, r, h1, Nl.out e h2, NlT.out e h3⟩⟩
instance {α τ : Type} [Rp α] [Tp τ] [NlT (α × τ)] : Nl (α × τ) := ⟨fun {K Kn p ws v x} e h => by
  obtain ⟨q, vs, h1, h2, h3⟩ := h
  have hne : q ≠ p := fun z => by
    rw [z, e] at h2
    cases h2
  exact ⟨q, vs, h1, (del_ne hne).trans h2, NlT.out (τ := α × τ) e h3⟩⟩
theorem ev_borT {K : Fg} {F Kn0 : Hp} {sl sl' : List Sl} {ow ow1 : List Ow} {α γ : Type} [Rp α] [Rp γ] {te : TE} {i j : Nat} {p : Addr} [Nl γ] {z : γ} {xs : List α} (hi : sl[i]? = some (.at p)) (hj : ow[j]? = some (ol p xs)) (hs : sl.set i (sv xs) = sl') (ho : ow.eraseIdx j = ow1) (h : EV K F Kn0 sl' ow1 te z) : EV K F Kn0 sl ow te z := fun σ Kn H s Q q => by
  obtain ⟨ws, kp, hp, s1⟩ := s.borrow hi hj
  subst hs
  subst ho
  refine h σ _ H s1 Q fun v Kn' H' g r => q v (del Kn' p) H' ⟨fun a u h => ?_, g.hh, fun a u h => ?_, fun a h1 h2 => ?_⟩ (Nl.out (g.kk _ _ upd_same) r)
  · have hne : a ≠ p := fun z => by
      rw [z, kp] at h
      cases h
    rw [del_ne hne]
    exact g.kk _ _ (by rw [upd_ne hne]; exact h)
  · by_cases e : a = p
    · subst e
      rw [del_same] at h
      cases h
    · rw [del_ne e] at h
      exact g.kh _ _ h
  · by_cases e : a = p
    · rw [e]
      exact del_same
    · rw [del_ne e]
      exact g.sp a h1 (by rw [upd_ne e]; exact h2)
end Wk
set_option maxHeartbeats 4000000
/-! Wgrid: a list of one's own whose items are lists of one's own -/
namespace Wk
open PySem PySem.Spec L2 Evl
structure Adr where
  a : Addr
instance : Rp Adr := { rep := fun _ _ v x => v = .ref x.a, swap := fun _ h => h }
instance : Fl Adr := { toV := fun x => .ref x.a, iff := Iff.rfl }
def rowsO {α : Type} [Rp α] (ps : Nat → Addr) : Nat → List (List α) → List Ow
  | _, [] => []
  | k, xs :: r => ol (ps k) xs :: rowsO ps (k + 1) r
def ptsO (ps : Nat → Addr) (n : Nat) : List Adr := (List.range n).map fun k => Adr.mk (ps k)
def gridO {α : Type} [Rp α] (p : Addr) (ps : Nat → Addr) (xss : List (List α)) : List Ow := ol p (ptsO ps xss.length) :: rowsO ps 0 xss
/-- rows[i][j] = x -/
def setG {α : Type} (xss : List (List α)) (i j : Int) (x : α) : Option (List (List α)) := (ixN xss.length i).bind fun k => (xss[k]?).bind fun r => (setI r j x).map fun r' => xss.set k r'
section
variable {K : Fg} {F Kn0 : Hp} {sl sl' : List Sl} {ow ow1 base : List Ow} {α β γ : Type} [Rp α] [Rp β] [Rp γ] {D : Ends} {t : TS} {te tb tb1 tb2 : TE} {tt : TT} {b : Bool} {x : α} {i : Nat} {p : Addr} {ps : Nat → Addr} {xss : List (List α)} {σ : L2.St} {Kn H : Hp}
theorem rows_at : ∀ {xss : List (List α)} {k j : Nat} {xs : List α}, xss[j]? = some xs → (rowsO ps k xss)[j]? = some (ol (ps (k + j)) xs)
  | [], _, _, _, h => by simp at h
  | y :: r, k, 0, xs, h => by
    cases h
    rfl
  | y :: r, k, j + 1, xs, h => by
    have h : r[j]? = some xs := h
    show (rowsO ps (k + 1) r)[j]? = _
    rw [rows_at (k := k + 1) h, show k + 1 + j = k + (j + 1) by omega]
theorem rows_set : ∀ {xss : List (List α)} {k j : Nat} {xs : List α}, (rowsO ps k xss).set j (ol (ps (k + j)) xs) = rowsO ps k (xss.set j xs)
  | [], _, _, _ => rfl
  | y :: r, k, 0, xs => rfl
  | y :: r, k, j + 1, xs => by
    show ol (ps k) y :: (rowsO ps (k + 1) r).set j (ol (ps (k + (j + 1))) xs) = ol (ps k) y :: rowsO ps (k + 1) (r.set j xs)
    rw [show k + (j + 1) = k + 1 + j by omega, rows_set]
theorem rows_app : ∀ {xss : List (List α)} {k : Nat} {xs : List α}, rowsO ps k (xss ++ [xs]) = rowsO ps k xss ++ [ol (ps (k + xss.length)) xs]
  | [], k, xs => rfl
  | y :: r, k, xs => by
    show ol (ps k) y :: rowsO ps (k + 1) (r ++ [xs]) = ol (ps k) y :: (rowsO ps (k + 1) r ++ [ol (ps (k + (r.length + 1))) xs])
    rw [rows_app, show k + (r.length + 1) = k + 1 + r.length by omega]
theorem rows_congr {ps qs : Nat → Addr} : ∀ {xss : List (List α)} {k : Nat}, (∀ j, k ≤ j → j < k + xss.length → ps j = qs j) → rowsO ps k xss = rowsO qs k xss
  | [], _, _ => rfl
  | y :: r, k, h => by
    show ol (ps k) y :: rowsO ps (k + 1) r = ol (qs k) y :: rowsO qs (k + 1) r
    rw [h k (Nat.le_refl _) (by rw [List.length_cons]; omega), rows_congr fun j h1 h2 => h j (by omega) (by rw [List.length_cons]; omega)]
theorem pts_at {n j : Nat} (h : j < n) : (ptsO ps n)[j]? = some (Adr.mk (ps j)) := by
  unfold ptsO
  rw [List.getElem?_map, List.getElem?_range h]
  rfl
theorem pts_len {n : Nat} : (ptsO ps n).length = n := by
  unfold ptsO
  rw [List.length_map, List.length_range]
/-- one of one's own is known from now on -/
theorem S.knowAt {xs : List α} {j : Nat} (s : S K F Kn0 sl ow σ Kn H) (hj : ow[j]? = some (ol p xs)) : ∃ ws, Kn p = none ∧ H p = some (.lst ws) ∧ Paired (rep K Kn) ws xs ∧ S K F Kn0 sl (ow.eraseIdx j) σ (upd Kn p (.lst ws)) H := by
  obtain ⟨f1, f2, ws, f3, f4⟩ := s.ow.each _ (List.mem_of_getElem? hj)
  have s1 := s.sub (List.eraseIdx_sublist ow j)
  have no : ∀ o ∈ ow.eraseIdx j, o.ad ≠ p := fun o hm z => by
    obtain ⟨m, hm'⟩ := List.getElem?_of_mem hm
    rw [List.getElem?_eraseIdx] at hm'
    split at hm'
    · have := ow_at s.ow.nd hm' hj z
      omega
    · have := ow_at s.ow.nd hm' hj z
      omega
  exact ⟨ws, f2, f3, f4, s1.know (o := .lst ws) f1 f2 no f3⟩
theorem erase_mid (o : Ow) : ∀ (base r : List Ow), (base ++ o :: r).eraseIdx base.length = base ++ r
  | [], _ => rfl
  | a :: base, r => by
    show a :: (base ++ o :: r).eraseIdx base.length = a :: (base ++ r)
    rw [erase_mid o base r]
theorem at_mid (o : Ow) : ∀ (base r : List Ow), (base ++ o :: r)[base.length]? = some o
  | [], _ => rfl
  | a :: base, r => at_mid o base r
theorem S.knowRows : ∀ {xss : List (List α)} {k : Nat} {Kn : Hp}, S K F Kn0 sl (base ++ rowsO ps k xss) σ Kn H → ∃ Kn', Ex Kn Kn' ∧ S K F Kn0 sl base σ Kn' H ∧ (∀ j xs, xss[j]? = some xs → rep K Kn' (.ref (ps (k + j))) xs) ∧ ∀ q, Kn q = none → (∀ j, j < xss.length → ps (k + j) ≠ q) → Kn' q = none
  | [], k, Kn, s => ⟨Kn, Ex.refl _, by
    have e : base ++ rowsO ps k ([] : List (List α)) = base := List.append_nil _
    rw [← e]
    exact s, (fun j xs h => by simp at h), fun q h _ => h⟩
  | y :: r, k, Kn, s => by
    have hj : (base ++ rowsO ps k (y :: r))[base.length]? = some (ol (ps k) y) := at_mid _ _ _
    obtain ⟨ws, h1, h2, h3, s1⟩ := s.knowAt hj
    have e : (base ++ rowsO ps k (y :: r)).eraseIdx base.length = base ++ rowsO ps (k + 1) r := erase_mid _ _ _
    rw [e] at s1
    obtain ⟨Kn', e1, s2, e2, e3⟩ := S.knowRows (k := k + 1) s1
    have ex := (Ex.new (o := HO.lst ws) h1)
    refine ⟨Kn', ex.trans e1, s2, fun j xs h => ?_, fun q h hn => ?_⟩
    · cases j with
      | zero =>
        cases h
        exact ⟨ps k, ws, rfl, e1 _ _ upd_same, paired_mono (ex.trans e1) h3⟩
      | succ j =>
        have := e2 j xs h
        rw [show k + 1 + j = k + (j + 1) by omega] at this
        exact this
    · have hk : q ≠ ps k := fun z => hn 0 (by rw [List.length_cons]; omega) z.symm
      refine e3 q ?_ fun j hj => ?_
      · rw [upd_ne hk]
        exact h
      · have := hn (j + 1) (by rw [List.length_cons]; omega)
        rw [show k + (j + 1) = k + 1 + j by omega] at this
        exact this
/-- the grid is known from now on -/
theorem S.knowGrid (s : S K F Kn0 sl (base ++ gridO p ps xss) σ Kn H) (hi : sl[i]? = some (.at p)) : ∃ Kn', Ex Kn Kn' ∧ S K F Kn0 (sl.set i (sv xss)) base σ Kn' H := by
  obtain ⟨o, h1, h2⟩ := s.sl.get hi
  have h2 : o = some (.ref p) := h2
  have e0 : base ++ gridO p ps xss = (base ++ [ol p (ptsO ps xss.length)]) ++ rowsO ps 0 xss := by
    rw [List.append_assoc]
    rfl
  rw [e0] at s
  obtain ⟨Kn1, e1, s1, e2, e3⟩ := S.knowRows s
  have hj : (base ++ [ol p (ptsO ps xss.length)])[base.length]? = some (ol p (ptsO ps xss.length)) := at_mid _ _ _
  obtain ⟨ws, k1, k2, k3, s2⟩ := s1.knowAt hj
  have e : (base ++ [ol p (ptsO ps xss.length)]).eraseIdx base.length = base := by
    rw [erase_mid, List.append_nil]
  rw [e] at s2
  have ex := (Ex.new (o := HO.lst ws) k1)
  have hr : rep K (upd Kn1 p (.lst ws)) (.ref p) xss := by
    refine ⟨p, ws, rfl, upd_same, ?_⟩
    have hl := paired_len k3
    rw [pts_len] at hl
    have key : ∀ (n : Nat) (vs : List V) (yss : List (List α)), (∀ j v, vs[j]? = some v → v = V.ref (ps (n + j))) → (∀ j xs, yss[j]? = some xs → rep K Kn1 (.ref (ps (n + j))) xs) → vs.length = yss.length → Paired (rep K (upd Kn1 p (.lst ws))) vs yss := by
      intro n vs
      induction vs generalizing n with
      | nil =>
        intro yss _ _ hl
        cases yss with
        | nil => exact .nil
        | cons y r => cases hl
      | cons v vs ih =>
        intro yss hv hy hl
        cases yss with
        | nil => cases hl
        | cons y r =>
          have q1 := hv 0 v rfl
          have q2 := hy 0 y rfl
          refine .cons ?_ (ih (n + 1) r (fun j u h => ?_) (fun j xs h => ?_) (Nat.succ.inj hl))
          · rw [q1]
            exact Rp.mono ex q2
          · rw [show n + 1 + j = n + (j + 1) by omega]
            exact hv (j + 1) u h
          · rw [show n + 1 + j = n + (j + 1) by omega]
            exact hy (j + 1) xs h
    refine key 0 ws xss (fun j v h => ?_) (fun j xs h => e2 j xs h) hl
    have hjl : j < xss.length := by
      have := (List.getElem?_eq_some_iff.mp h).1
      omega
    obtain ⟨v', q1, q2⟩ := paired_at k3 (pts_at (ps := ps) hjl)
    rw [h] at q1
    cases q1
    rw [Nat.zero_add]
    exact q2
  have hσ : σ.set i o = σ := by
    refine List.ext_getElem? fun m => ?_
    by_cases e : i = m
    · subst e
      rw [List.getElem?_set_self (List.getElem?_eq_some_iff.mp h1).1, h1]
    · rw [List.getElem?_set_ne e]
  have s3 := s2.set (x := sv xss) (o := o) i ⟨.ref p, h2, hr⟩
  rw [hσ] at s3
  exact ⟨_, e1.trans ex, s3⟩
theorem sb_frzQ (hi : sl[i]? = some (.at p)) (ho : ow = base ++ gridO p ps xss) (hs : sl.set i (sv xss) = sl') (k : SB K F Kn0 sl' base D t) : SB K F Kn0 sl ow D t := fun σ Kn H s => by
  subst ho hs
  obtain ⟨Kn', _, s'⟩ := s.knowGrid hi
  exact k σ Kn' H s'
theorem ev_borQ [Fl γ] {z : γ} (hi : sl[i]? = some (.at p)) (ho : ow = base ++ gridO p ps xss) (hs : sl.set i (sv xss) = sl') (h : EV K F Kn0 sl' base te z) : EV K F Kn0 sl ow te z := fun σ Kn H s Q q => by
  subst ho hs
  obtain ⟨Kn1, _, s1⟩ := s.knowGrid hi
  exact h σ _ H s1 Q fun v Kn' H' g r => q v Kn H' ⟨Ex.refl _, g.hh, s.ek.trans g.hh, fun _ _ h => h⟩ (Fl.iff.mpr (Fl.iff.mp r))
theorem et_borQ (hi : sl[i]? = some (.at p)) (ho : ow = base ++ gridO p ps xss) (hs : sl.set i (sv xss) = sl') (h : ET K F Kn0 sl' base tt b) : ET K F Kn0 sl ow tt b := fun σ Kn H s Q q => by
  subst ho hs
  obtain ⟨Kn1, _, s1⟩ := s.knowGrid hi
  exact h σ _ H s1 Q fun Kn' H' g => q Kn H' ⟨Ex.refl _, g.hh, s.ek.trans g.hh, fun _ _ h => h⟩
theorem grid_at {j : Nat} {xs : List α} (h : xss[j]? = some xs) : (base ++ gridO p ps xss)[base.length + 1 + j]? = some (ol (ps j) xs) := by
  rw [List.getElem?_append_right (by omega), show base.length + 1 + j - base.length = j + 1 by omega]
  show (rowsO ps 0 xss)[j]? = _
  rw [rows_at h, Nat.zero_add]
theorem grid_set {j : Nat} {xs : List α} (hl : j < xss.length) : (base ++ gridO p ps xss).set (base.length + 1 + j) (ol (ps j) xs) = base ++ gridO p ps (xss.set j xs) := by
  rw [List.set_append_right _ _ (by omega), show base.length + 1 + j - base.length = j + 1 by omega]
  show base ++ (ol p (ptsO ps xss.length) :: (rowsO ps 0 xss).set j (ol (ps j) xs)) = base ++ (ol p (ptsO ps (xss.set j xs).length) :: rowsO ps 0 (xss.set j xs))
  have := rows_set (ps := ps) (xss := xss) (k := 0) (j := j) (xs := xs)
  rw [Nat.zero_add] at this
  rw [this, List.length_set]
/-- rows[i][j] = e -/
theorem sb_setQ {n m : Int} {xss' : List (List α)} (hi : sl[i]? = some (.at p)) (ho : ow = base ++ gridO p ps xss) (h : EV K F Kn0 sl ow te x) (hn : EV K F Kn0 sl ow tb1 n) (hm : EV K F Kn0 sl ow tb2 m) (hx : setG xss n m x = some xss') (k : SN K F Kn0 sl (base ++ gridO p ps xss') D) :
    SB K F Kn0 sl ow D (tAsg te (gSub (tOp (rIxL K) (tVar i) tb1) tb2 rSetL)) := fun σ Kn H s => h σ Kn H s _ fun v Kn1 H1 g1 r1 => by
  subst ho
  obtain ⟨o, h1, h2⟩ := s.sl.get hi
  refine ⟨.ref p, by rw [h1]; exact congrArg some h2, hn σ Kn1 H1 (s.grow g1) _ fun w Kn2 H2 g2 r2 => ?_⟩
  have s2 := (s.grow g1).grow g2
  unfold setG at hx
  obtain ⟨j, hj, hx⟩ := bind_some hx
  obtain ⟨r, hr, hx⟩ := bind_some hx
  obtain ⟨r', hr', hx⟩ := Option.map_eq_some_iff.mp hx
  subst hx
  have hjl : j < xss.length := (List.getElem?_eq_some_iff.mp hr).1
  obtain ⟨f1, f2, ws, f3, f4⟩ := s2.ow.each (ol p (ptsO ps xss.length)) (List.mem_of_getElem? (at_mid _ _ _))
  have f3 : H2 p = some (.lst ws) := f3
  have f4 : Paired (rep K Kn2) ws (ptsO ps xss.length) := f4
  obtain ⟨u, q1, q2⟩ := paired_at f4 (pts_at (ps := ps) hjl)
  have q2 : u = .ref (ps j) := q2
  cases r2
  refine ⟨p, ws, n, u, rfl, rfl, sq_of f3, ?_, hm σ Kn2 H2 s2 _ fun y Kn3 H3 g3 r3 => ?_⟩
  · unfold atI
    rw [paired_len f4, pts_len, hj]
    exact q1
  · have s3 := s2.grow g3
    obtain ⟨d1, d2, us, d3, d4⟩ := s3.ow.each _ (List.mem_of_getElem? (grid_at (base := base) (p := p) (ps := ps) hr))
    have d3 : H3 (ps j) = some (.lst us) := d3
    unfold setI at hr'
    obtain ⟨l, hl, rfl⟩ := Option.map_eq_some_iff.mp hr'
    cases r3
    refine ⟨ps j, us, m, l, q2, rfl, d3, by rw [paired_len d4]; exact hl, k _ Kn3 _ ?_⟩
    have := s3.write (grid_at (base := base) (p := p) (ps := ps) hr) (Ex.refl _) (upd_in g3.kh d2) (fun q hq _ => upd_ne hq) (fun _ _ h => h) upd_same (paired_set (Rp.mono (g2.kk.trans g3.kk) r1) l d4)
    rw [grid_set hjl] at this
    exact this
theorem EN.is {xs : List α} (h1 : sl = sl') (h : EN K F Kn0 sl' ow te xs) : EN K F Kn0 sl ow te xs := by subst h1; exact h
theorem S.perm (s : S K F Kn0 sl ow σ Kn H) (h : ow.Perm ow1) : S K F Kn0 sl ow1 σ Kn H := ⟨s.e0, s.ek, s.ef, s.sep, s.sl, ⟨fun o ho => s.ow.each o (h.mem_iff.mpr ho), (h.map _).nodup_iff.mp s.ow.nd⟩⟩
/-- a new grid -/
structure NewG (K : Fg) (H Kn' H' : Hp) (p : Addr) (ps : Nat → Addr) (xss : List (List α)) : Prop where
  each : ∀ o ∈ gridO p ps xss, H o.ad = none ∧ Kn' o.ad = none ∧ o.ok K Kn' H'
  nd : ((gridO p ps xss).map Ow.ad).Nodup
theorem S.ownGr {Kn' H' : Hp} (s : S K F Kn0 sl ow σ Kn H) (g : Gr Kn H Kn' H') (n : NewG K H Kn' H' p ps xss) : S K F Kn0 sl (ow ++ gridO p ps xss) σ Kn' H' := by
  have s' := s.grow g
  refine ⟨s'.e0, s'.ek, s'.ef, s'.sep, s'.sl, ⟨fun o ho => ?_, ?_⟩⟩
  · rcases List.mem_append.mp ho with ho | ho
    · exact s'.ow.each o ho
    · obtain ⟨h1, h2, h3⟩ := n.each o ho
      exact ⟨fresh_back s.ef h1, h2, h3⟩
  · rw [List.map_append]
    refine List.nodup_append.mpr ⟨s.ow.nd, n.nd, fun a ha b hb e => ?_⟩
    obtain ⟨o, ho, rfl⟩ := List.mem_map.mp ha
    obtain ⟨u, hu, rfl⟩ := List.mem_map.mp hb
    exact owned_ne s (n.each u hu).1 o ho e
def EQ2 (K : Fg) (F Kn0 : Hp) (sl : List Sl) (ow : List Ow) (te : TE) (xss : List (List α)) : Prop := ∀ σ Kn H, S K F Kn0 sl ow σ Kn H → ∀ Q : VK, (∀ p ps Kn' H', Gr Kn H Kn' H' → NewG K H Kn' H' p ps xss → Q (.ref p) H') → te σ H Q
theorem EQ2.cast {xss yss : List (List α)} (h : EQ2 K F Kn0 sl ow te xss) (e : xss = yss) : EQ2 K F Kn0 sl ow te yss := e ▸ h
theorem sb_asgQ2 {sl' : Addr → List Sl} (hs : ∀ p, sl.set i (.at p) = sl' p) (h : EQ2 K F Kn0 sl ow te xss) (k : ∀ p ps, SN K F Kn0 (sl' p) (ow ++ gridO p ps xss) D) : SB K F Kn0 sl ow D (tAsg te (gName i)) := fun σ Kn H s =>
  h σ Kn H s _ fun p ps Kn1 H1 g1 n1 => k p ps _ Kn1 H1 (hs p ▸ (s.ownGr g1 n1).seta i)
theorem eq_lcQ {wi : TI} {g : TG} {vs js : List Nat} {xs : List β} {zs : List (List γ)} {c : β → Option Bool} {f : β → Option (List γ)} (gx : β → List Sl) (hm : lcM c f xs = some zs) (hi : IT K F Kn0 sl ow wi xs) (hv : ∀ j ∈ vs, sl[j]? = some .any) (hg : ∀ x, GT K g sl (gx x) js x) (hj : ∀ j ∈ js, j ∈ vs)
    (ht : ∀ ex x b, c x = some b → ET K F Kn0 (gx x) (ow ++ ex) tt b) (he : ∀ ex x z, c x = some true → f x = some z → EN K F Kn0 (gx x) (ow ++ ex) te z) :
    EQ2 K F Kn0 sl ow (tLc wi g tt te vs) zs := fun σ Kn H s Q q => by
  unfold lcM at hm
  split at hm
  case isFalse => cases hm
  rename_i hlen
  refine hi σ Kn H s _ fun J Kn1 H1 g1 w D hD => ?_
  have s1 := s.grow g1
  have kD : Kn1 D = none := fresh_back s1.ek hD
  have fD : F D = none := fresh_back s1.ef hD
  refine ⟨fun i m H' => i + m = xs.length ∧ ∃ Kn' ps acc rest, (Gr Kn1 H1 Kn' H' ∧ ∀ o ∈ gridO D ps acc, H1 o.ad = none) ∧ S K F Kn0 sl (ow ++ gridO D ps acc) σ Kn' H' ∧ acc.length ≤ i ∧ lcGo c f (xs.drop i) = some rest ∧ acc ++ rest = zs,
    ⟨xs.length, by omega, Kn1, fun _ => D, [], zs, ⟨Gr.newU s1.ek hD, fun o ho => by
      cases List.mem_singleton.mp ho
      exact hD⟩, ?_, Nat.le_refl _, hm, rfl⟩, fun i m H' hW => ?_⟩
  · have s2 := (s1.grow (Gr.newU (o := .lst []) s1.ek hD)).own (α := Adr) (xs := []) fD kD (owned_ne s1 hD) upd_same .nil
    exact s2.perm (List.perm_append_singleton _ _).symm
  obtain ⟨em, Kn', ps, acc, rest, ⟨gr, fr⟩, s', hal, hrest, hz⟩ := hW
  have ek := gr.kk
  by_cases hlt : i < xs.length
  · have hx : xs[i]? = some xs[i] := List.getElem?_eq_getElem hlt
    have hd : xs.drop i = xs[i] :: xs.drop (i + 1) := List.drop_eq_getElem_cons hlt
    rw [hd] at hrest
    obtain ⟨b, hb, hrest⟩ := bind_some hrest
    obtain ⟨go, yl⟩ := (w i Kn' H' ek s'.ek).1 _ hx
    refine .inr ⟨go, fun H'' => ∃ Kn' ps acc rest, (Gr Kn1 H1 Kn' H'' ∧ ∀ o ∈ gridO D ps acc, H1 o.ad = none) ∧ S K F Kn0 sl (ow ++ gridO D ps acc) σ Kn' H'' ∧ acc.length ≤ i + 1 ∧ lcGo c f (xs.drop (i + 1)) = some rest ∧ acc ++ rest = zs, fun H'' h => ⟨m - 1, by omega, by omega, h⟩, fun v H2 hy => ?_⟩
    obtain ⟨Kn2, g2, rv⟩ := yl v H2 hy
    have s2 := (s'.grow g2).wipe hv
    refine hg _ _ Kn2 H2 v s2.sl s2.ek rv _ fun σ3 h3 hw3 => ?_
    have s3 := s2.slots h3
    refine ⟨(hw3 vs hj).trans ?_, ht _ _ b hb σ3 Kn2 H2 s3 _ fun Kn3 H3 g3 => ?_⟩
    · have ww : ∀ (vs us : List Nat) (σ : L2.St), (∀ j ∈ vs, j ∈ us) → L2.wipe (L2.wipe σ vs) us = L2.wipe σ us := by
        intro vs
        induction vs with
        | nil => intro us σ _; rfl
        | cons a r ih =>
          intro us σ hh
          show L2.wipe ((L2.wipe σ r).set a none) us = L2.wipe σ us
          rw [wipe_set (hh a List.mem_cons_self)]
          exact ih us σ fun j hj => hh j (List.mem_cons_of_mem _ hj)
      exact ww vs vs σ fun _ h => h
    · cases b with
      | true =>
        obtain ⟨z, hfz, hrest⟩ := bind_some (show (f xs[i]).bind _ = some rest from hrest)
        obtain ⟨zs', hzs, hrest⟩ := bind_some hrest
        cases hrest
        refine iteT (he _ _ z hb hfz σ3 Kn3 H3 (s3.grow g3) _ fun a ws Kn4 H4 g4 ha ka hw rw_ => ?_)
        have s4 := s'.grow ((g2.trans g3).trans g4)
        have sa := (s'.grow (g2.trans g3))
        have fa : F a = none := fresh_back sa.ef ha
        have na : ∀ o ∈ ow ++ gridO D ps acc, o.ad ≠ a := owned_ne sa ha
        obtain ⟨d1, d2, us, d3, d4⟩ := s4.ow.each (ol D (ptsO ps acc.length)) (List.mem_of_getElem? (at_mid _ _ _))
        have d3 : H4 D = some (.lst us) := d3
        have d4 : Paired (rep K Kn4) us (ptsO ps acc.length) := d4
        have ul := paired_len d4
        rw [pts_len] at ul
        have aD : D ≠ a := fun z => na (ol D (ptsO ps acc.length)) (List.mem_of_getElem? (at_mid _ _ _)) z
        let qs : Nat → Addr := fun k => if k = acc.length then a else ps k
        have eg : gridO D ps acc = ol D (ptsO ps acc.length) :: rowsO qs 0 acc := by
          unfold gridO
          rw [rows_congr (ps := ps) (qs := qs) fun j _ h => (if_neg (show ¬ j = acc.length by omega)).symm]
        have s5 := s4.own fa ka na hw rw_
        have s6 := s5.perm (ow1 := ow ++ (ol D (ptsO ps acc.length) :: (rowsO qs 0 acc ++ [ol a z]))) (by
          rw [eg]
          have : ow ++ (ol D (ptsO ps acc.length) :: (rowsO qs 0 acc ++ [ol a z])) = (ow ++ (ol D (ptsO ps acc.length) :: rowsO qs 0 acc)) ++ [ol a z] := by
            rw [List.append_assoc]
            rfl
          rw [this]
          exact (List.perm_append_singleton _ _).symm)
        have epts : ptsO qs (acc.length + 1) = ptsO ps acc.length ++ [Adr.mk a] := by
          unfold ptsO
          rw [List.range_succ, List.map_append]
          refine congr (congrArg _ (List.map_congr_left fun k hk => ?_)) ?_
          · rw [List.mem_range] at hk
            show Adr.mk (if k = acc.length then a else ps k) = _
            rw [if_neg (by omega)]
          · show [Adr.mk (if acc.length = acc.length then a else ps acc.length)] = _
            rw [if_pos rfl]
        have hk4 : Kn4 D = none := d2
        have s7 := s6.write (p := D) (xs' := ptsO qs (acc.length + 1)) (ws := us ++ [.ref a]) (H' := upd H4 D (.lst (us ++ [.ref a]))) (at_mid _ _ _) (Ex.refl _) (upd_in g4.kh hk4) (fun q hq _ => upd_ne hq) (fun _ _ h => h) upd_same (by
          rw [epts]
          exact paired_append d4 (.cons rfl .nil))
        have e8 : (ow ++ (ol D (ptsO ps acc.length) :: (rowsO qs 0 acc ++ [ol a z]))).set ow.length (ol D (ptsO qs (acc.length + 1))) = ow ++ gridO D qs (acc ++ [z]) := by
          rw [List.set_append_right _ _ (Nat.le_refl _), Nat.sub_self]
          show ow ++ (ol D (ptsO qs (acc.length + 1)) :: (rowsO qs 0 acc ++ [ol a z])) = ow ++ (ol D (ptsO qs (acc ++ [z]).length) :: rowsO qs 0 (acc ++ [z]))
          rw [rows_app, Nat.zero_add, List.length_append, show qs acc.length = a from if_pos rfl]
          rfl
        rw [e8] at s7
        have g14 : Gr Kn1 H1 Kn4 H4 := gr.trans ((g2.trans g3).trans g4)
        refine ⟨us, d3, by rw [ul]; exact lt_line (by omega), Kn4, qs, acc ++ [z], zs', ⟨g14.mut hD hk4, fun o ho => ?_⟩, s7, ?_, hzs, ?_⟩
        · rcases List.mem_cons.mp ho with rfl | ho
          · exact hD
          · rw [rows_app] at ho
            rcases List.mem_append.mp ho with ho | ho
            · exact fr o (by rw [eg]; exact List.mem_cons_of_mem _ ho)
            · cases List.mem_singleton.mp ho
              show H1 (qs (0 + acc.length)) = none
              rw [Nat.zero_add, show qs acc.length = a from if_pos rfl]
              exact fresh_back (gr.trans (g2.trans g3)).hh ha
        · rw [List.length_append, List.length_singleton]; omega
        · rw [List.append_assoc]; exact hz
      | false =>
        have hrest : lcGo c f (xs.drop (i + 1)) = some rest := hrest
        exact iteF ⟨Kn3, ps, acc, rest, ⟨gr.trans (g2.trans g3), fr⟩, s'.grow (g2.trans g3), by omega, hrest, hz⟩
  · have hd : xs.drop i = [] := List.drop_eq_nil_of_le (by omega)
    rw [hd] at hrest
    cases hrest
    rw [List.append_nil] at hz
    subst hz
    refine .inl ⟨(w i Kn' H' ek s'.ek).2 (by omega), q D ps Kn' H' (g1.trans gr) ⟨fun o ho => ?_, ?_⟩⟩
    · obtain ⟨_, h2, h3⟩ := s'.ow.each o (List.mem_append_right _ ho)
      exact ⟨fresh_back g1.hh (fr o ho), h2, h3⟩
    · have := s'.ow.nd
      rw [List.map_append] at this
      exact (List.nodup_append.mp this).2.1
end
end Wk
set_option maxHeartbeats 4000000
/-! Wgrid2: a def that tells a new list of new lists; such a list lent where something new and flat is made; rows made longer -/
namespace Wk
open PySem PySem.Spec L2 Evl
/-- what is not None -/
class Nz (α : Type) [Rp α] [Fl α] : Prop where
  nz : ∀ a : α, Fl.toV a ≠ V.non
instance : Nz Int := ⟨fun _ z => nomatch z⟩
instance : Nz Str := ⟨fun _ z => nomatch z⟩
instance : Nz Bool := ⟨fun _ z => nomatch z⟩
def optV {α : Type} [Rp α] [Fl α] : Option α → V
  | none => .non
  | some x => Fl.toV x
instance {α : Type} [Rp α] [Fl α] [Nz α] : Fl (Option α) where
  toV := optV
  iff {K H v a} := by
    cases a with
    | none => exact Iff.rfl
    | some x =>
      constructor
      · intro h
        exact Fl.iff.mp h.2
      · intro h
        subst h
        exact ⟨Nz.nz x, Fl.iff.mpr rfl⟩
section
variable {K : Fg} {F Kn0 : Hp} {sl sl' : List Sl} {ow ow1 base : List Ow} {α β γ τ : Type} [Rp α] [Rp β] [Rp γ] [Tp τ] {D : Ends} {t : TS} {te tb tb1 tb2 : TE} {tt : TT} {b : Bool} {x : α} {i : Nat} {p : Addr} {ps : Nat → Addr} {xss : List (List α)} {σ : L2.St} {Kn H : Hp}
theorem flat_any [Fl γ] {H H' : Hp} {vs : List V} {xs : List γ} (h : Paired (rep K H) vs xs) : Paired (rep K H') vs xs := by
  have e := paired_fl h
  subst e
  exact fl_paired xs
theorem en_borQ [Fl γ] {zs : List γ} (hi : sl[i]? = some (.at p)) (ho : ow = base ++ gridO p ps xss) (hs : sl.set i (sv xss) = sl') (h : EN K F Kn0 sl' base te zs) : EN K F Kn0 sl ow te zs := fun σ Kn H s Q q => by
  subst ho hs
  obtain ⟨Kn1, _, s1⟩ := s.knowGrid hi
  exact h σ _ H s1 Q fun l ws Kn' H' g hl kl hw r => q l ws Kn H' ⟨Ex.refl _, g.hh, s.ek.trans g.hh, fun _ _ h => h⟩ hl (fresh_back s.ek hl) hw (flat_any r)
theorem rows_mem {ps : Nat → Addr} : ∀ {xss : List (List α)} {k : Nat} {o : Ow}, o ∈ rowsO ps k xss → ∃ j xs, xs ∈ xss ∧ o = ol (ps j) xs
  | [], _, _, h => nomatch h
  | y :: r, k, o, h => by
    rcases List.mem_cons.mp h with rfl | h
    · exact ⟨k, y, List.mem_cons_self, rfl⟩
    · obtain ⟨j, xs, h1, h2⟩ := rows_mem h
      exact ⟨j, xs, List.mem_cons_of_mem _ h1, h2⟩
theorem newG_flat [Fl γ] {zss : List (List γ)} {H Kn1 Kn2 H' : Hp} {p : Addr} {ps : Nat → Addr} (n : NewG K H Kn1 H' p ps zss) (e : Ex Kn2 H) : NewG K H Kn2 H' p ps zss := ⟨fun o ho => by
  obtain ⟨h1, h2, h3⟩ := n.each o ho
  refine ⟨h1, fresh_back e h1, ?_⟩
  rcases List.mem_cons.mp ho with rfl | ho
  · obtain ⟨ws, h4, h5⟩ := h3
    exact ⟨ws, h4, flat_any h5⟩
  · obtain ⟨j, xs, _, rfl⟩ := rows_mem ho
    obtain ⟨ws, h4, h5⟩ := h3
    exact ⟨ws, h4, flat_any h5⟩, n.nd⟩
theorem eq_borQ [Fl γ] {zss : List (List γ)} (hi : sl[i]? = some (.at p)) (ho : ow = base ++ gridO p ps xss) (hs : sl.set i (sv xss) = sl') (h : EQ2 K F Kn0 sl' base te zss) : EQ2 K F Kn0 sl ow te zss := fun σ Kn H s Q q => by
  subst ho hs
  obtain ⟨Kn1, _, s1⟩ := s.knowGrid hi
  exact h σ _ H s1 Q fun p' ps' Kn' H' g n => q p' ps' Kn H' ⟨Ex.refl _, g.hh, s.ek.trans g.hh, fun _ _ h => h⟩ (newG_flat n s.ek)
/-- [e], a new list of one new list -/
theorem eq_one {xs : List α} (h : EN K F Kn0 sl ow te xs) : EQ2 K F Kn0 sl ow (tLst (tCons te tNil)) [xs] := fun σ Kn H s Q q =>
  h σ Kn H s _ fun a ws Kn1 H1 g1 ha ka hw r1 => ⟨(Nat.le_of_ble_eq_true rfl), fun p hp => by
    have hne : p ≠ a := fun z => by rw [z, hw] at hp; cases hp
    refine q p (fun _ => a) Kn1 _ (g1.trans (Gr.newU g1.kh hp)) ⟨fun o ho => ?_, ?_⟩
    · rcases List.mem_cons.mp ho with rfl | ho
      · exact ⟨fresh_back g1.hh hp, fresh_back g1.kh hp, [.ref a], upd_same, .cons rfl .nil⟩
      · cases List.mem_singleton.mp ho
        refine ⟨ha, ka, ws, ?_, r1⟩
        show upd H1 p _ a = _
        rw [upd_ne (Ne.symm hne)]
        exact hw
    · show [p, a].Nodup
      exact List.nodup_cons.mpr ⟨(fun h => hne (List.mem_singleton.mp h)), List.nodup_cons.mpr ⟨(fun h => nomatch h), List.nodup_nil⟩⟩⟩
theorem S.appG {xs : List α} {ws : List V} {a : Addr} (s : S K F Kn0 sl (ow ++ gridO p ps xss) σ Kn H) (fa : F a = none) (ka : Kn a = none) (na : ∀ o ∈ ow ++ gridO p ps xss, o.ad ≠ a) (hw : H a = some (.lst ws)) (r : Paired (rep K Kn) ws xs) :
    ∃ qs us, H p = some (.lst us) ∧ us.length = xss.length ∧ S K F Kn0 sl (ow ++ gridO p qs (xss ++ [xs])) σ Kn (upd H p (.lst (us ++ [.ref a]))) := by
  obtain ⟨d1, d2, us, d3, d4⟩ := s.ow.each (ol p (ptsO ps xss.length)) (List.mem_of_getElem? (at_mid _ _ _))
  have d3 : H p = some (.lst us) := d3
  have d4 : Paired (rep K Kn) us (ptsO ps xss.length) := d4
  have ul := paired_len d4
  rw [pts_len] at ul
  let qs : Nat → Addr := fun k => if k = xss.length then a else ps k
  have eg : gridO p ps xss = ol p (ptsO ps xss.length) :: rowsO qs 0 xss := by
    unfold gridO
    rw [rows_congr (ps := ps) (qs := qs) fun j _ h => (if_neg (show ¬ j = xss.length by omega)).symm]
  have s5 := s.own fa ka na hw r
  have s6 := s5.perm (ow1 := ow ++ (ol p (ptsO ps xss.length) :: (rowsO qs 0 xss ++ [ol a xs]))) (by
    rw [eg]
    have : ow ++ (ol p (ptsO ps xss.length) :: (rowsO qs 0 xss ++ [ol a xs])) = (ow ++ (ol p (ptsO ps xss.length) :: rowsO qs 0 xss)) ++ [ol a xs] := by
      rw [List.append_assoc]
      rfl
    rw [this]
    exact (List.perm_append_singleton _ _).symm)
  have epts : ptsO qs (xss.length + 1) = ptsO ps xss.length ++ [Adr.mk a] := by
    unfold ptsO
    rw [List.range_succ, List.map_append]
    refine congr (congrArg _ (List.map_congr_left fun k hk => ?_)) ?_
    · rw [List.mem_range] at hk
      show Adr.mk (if k = xss.length then a else ps k) = _
      rw [if_neg (by omega)]
    · show [Adr.mk (if xss.length = xss.length then a else ps xss.length)] = _
      rw [if_pos rfl]
  have hk4 : Kn p = none := d2
  have s7 := s6.write (p := p) (xs' := ptsO qs (xss.length + 1)) (ws := us ++ [.ref a]) (H' := upd H p (.lst (us ++ [.ref a]))) (at_mid _ _ _) (Ex.refl _) (upd_in s.ek hk4) (fun q hq _ => upd_ne hq) (fun _ _ h => h) upd_same (by
    rw [epts]
    exact paired_append d4 (.cons rfl .nil))
  have e8 : (ow ++ (ol p (ptsO ps xss.length) :: (rowsO qs 0 xss ++ [ol a xs]))).set ow.length (ol p (ptsO qs (xss.length + 1))) = ow ++ gridO p qs (xss ++ [xs]) := by
    rw [List.set_append_right _ _ (Nat.le_refl _), Nat.sub_self]
    show ow ++ (ol p (ptsO qs (xss.length + 1)) :: (rowsO qs 0 xss ++ [ol a xs])) = ow ++ (ol p (ptsO qs (xss ++ [xs]).length) :: rowsO qs 0 (xss ++ [xs]))
    rw [rows_app, Nat.zero_add, List.length_append, show qs xss.length = a from if_pos rfl]
    rfl
  rw [e8] at s7
  exact ⟨qs, us, d3, ul, s7⟩
/-- rows.append(e), e a new list -/
theorem sb_appQ {xs : List α} {xss' : List (List α)} (hi : sl[i]? = some (.at p)) (ho : ow = base ++ gridO p ps xss) (h : EN K F Kn0 sl ow te xs) (hx : appO xss xs = some xss') (k : ∀ qs, SN K F Kn0 sl (base ++ gridO p qs xss') D) : SB K F Kn0 sl ow D (tDrop (tBM K "list" rAppend (tVar i) (tCons te tNil))) := fun σ Kn H s => by
  subst ho
  obtain ⟨hl, rfl⟩ := appO_some hx
  obtain ⟨o, h1, h2⟩ := s.sl.get hi
  obtain ⟨_, _, ws0, f0, _⟩ := s.ow.each (ol p (ptsO ps xss.length)) (List.mem_of_getElem? (at_mid _ _ _))
  refine ⟨.ref p, by rw [h1]; exact congrArg some h2, Or.inl ⟨rfl, ws0, sq_of f0⟩, h σ Kn H s _ fun a ws Kn1 H1 g1 ha ka hw r1 => ?_⟩
  obtain ⟨qs, us, e1, e2, s2⟩ := (s.grow g1).appG (fresh_back s.ef ha) ka (owned_ne s ha) hw r1
  exact ⟨p, us, .ref a, rfl, rfl, e1, by rw [e2]; exact lt_line hl, k qs _ Kn1 _ s2⟩
/-- one of the rows is another one now -/
def rowG (xss : List (List α)) (n : Int) (f : List α → Option (List α)) : Option (List (List α)) := (ixN xss.length n).bind fun k => (xss[k]?).bind fun r => (f r).map fun r' => xss.set k r'
theorem rowG_some {n : Int} {f : List α → Option (List α)} {xss' : List (List α)} (h : rowG xss n f = some xss') : ∃ k r r', ixN xss.length n = some k ∧ xss[k]? = some r ∧ f r = some r' ∧ xss' = xss.set k r' := by
  unfold rowG at h
  obtain ⟨k, h1, h⟩ := bind_some h
  obtain ⟨r, h2, h⟩ := bind_some h
  obtain ⟨r', h3, rfl⟩ := Option.map_eq_some_iff.mp h
  exact ⟨k, r, r', h1, h2, h3, rfl⟩
theorem S.rowAt {k : Nat} {n : Int} {r : List α} (s : S K F Kn0 sl (base ++ gridO p ps xss) σ Kn H) (h1 : ixN xss.length n = some k) (h2 : xss[k]? = some r) : ∃ us, H p = some (.lst us) ∧ atI us n = some (.ref (ps k)) ∧ ∃ ws, H (ps k) = some (.lst ws) ∧ Kn (ps k) = none ∧ Paired (rep K Kn) ws r := by
  have hjl : k < xss.length := (List.getElem?_eq_some_iff.mp h2).1
  obtain ⟨f1, f2, us, f3, f4⟩ := s.ow.each (ol p (ptsO ps xss.length)) (List.mem_of_getElem? (at_mid _ _ _))
  have f4 : Paired (rep K Kn) us (ptsO ps xss.length) := f4
  obtain ⟨u, q1, q2⟩ := paired_at f4 (pts_at (ps := ps) hjl)
  have q2 : u = .ref (ps k) := q2
  subst q2
  obtain ⟨d1, d2, ws, d3, d4⟩ := s.ow.each _ (List.mem_of_getElem? (grid_at (base := base) (p := p) (ps := ps) h2))
  refine ⟨us, f3, ?_, ws, d3, d2, d4⟩
  unfold atI
  rw [paired_len f4, pts_len, h1]
  exact q1
/-- rows[n].append(e) -/
theorem sb_appRow {n : Int} {xss' : List (List α)} (hi : sl[i]? = some (.at p)) (ho : ow = base ++ gridO p ps xss) (hn : EV K F Kn0 sl ow tb n) (h : EV K F Kn0 sl ow te x) (hx : rowG xss n (fun r => appO r x) = some xss') (k : SN K F Kn0 sl (base ++ gridO p ps xss') D) :
    SB K F Kn0 sl ow D (tDrop (tBM K "list" rAppend (tOp (rIxL K) (tVar i) tb) (tCons te tNil))) := fun σ Kn H s => by
  subst ho
  obtain ⟨o, h1, h2⟩ := s.sl.get hi
  obtain ⟨kk, r, r', e1, e2, e3, rfl⟩ := rowG_some hx
  obtain ⟨hl, rfl⟩ := appO_some e3
  have hjl : kk < xss.length := (List.getElem?_eq_some_iff.mp e2).1
  refine ⟨.ref p, by rw [h1]; exact congrArg some h2, hn σ Kn H s _ fun w Kn2 H2 g2 r2 => ?_⟩
  cases r2
  have s2 := s.grow g2
  obtain ⟨us, q1, q2, ws, q3, q4, q5⟩ := s2.rowAt e1 e2
  refine ⟨p, us, n, .ref (ps kk), rfl, rfl, sq_of q1, q2, Or.inl ⟨rfl, ws, sq_of q3⟩, h σ Kn2 H2 s2 _ fun v Kn3 H3 g3 r3 => ?_⟩
  have s3 := s2.grow g3
  have hk := g3.sp _ (ne_none_of q3) q4
  refine ⟨ps kk, ws, v, rfl, rfl, g3.hh _ _ q3, by rw [paired_len q5]; exact lt_line hl, k _ Kn3 _ ?_⟩
  have := s3.write (grid_at (base := base) (p := p) (ps := ps) e2) (Ex.refl _) (upd_in g3.kh hk) (fun q hq _ => upd_ne hq) (fun _ _ h => h) upd_same (paired_append (paired_mono g3.kk q5) (.cons r3 .nil))
  rw [grid_set hjl] at this
  exact this
/-- rows[n].clear() -/
theorem sb_clrRow {n : Int} {xss' : List (List α)} (hi : sl[i]? = some (.at p)) (ho : ow = base ++ gridO p ps xss) (hn : EV K F Kn0 sl ow tb n) (hx : rowG xss n (fun _ => some []) = some xss') (k : SN K F Kn0 sl (base ++ gridO p ps xss') D) :
    SB K F Kn0 sl ow D (tDrop (tBM0 K "list" rClear (tOp (rIxL K) (tVar i) tb))) := fun σ Kn H s => by
  subst ho
  obtain ⟨o, h1, h2⟩ := s.sl.get hi
  obtain ⟨kk, r, r', e1, e2, e3, rfl⟩ := rowG_some hx
  cases e3
  have hjl : kk < xss.length := (List.getElem?_eq_some_iff.mp e2).1
  refine ⟨.ref p, by rw [h1]; exact congrArg some h2, hn σ Kn H s _ fun w Kn2 H2 g2 r2 => ?_⟩
  cases r2
  have s2 := s.grow g2
  obtain ⟨us, q1, q2, ws, q3, q4, q5⟩ := s2.rowAt e1 e2
  refine ⟨p, us, n, .ref (ps kk), rfl, rfl, sq_of q1, q2, Or.inl ⟨rfl, ws, sq_of q3⟩, ps kk, ws, rfl, rfl, q3, k _ Kn2 _ ?_⟩
  have := s2.write (xs' := ([] : List α)) (grid_at (base := base) (p := p) (ps := ps) e2) (Ex.refl _) (upd_in g2.kh q4) (fun q hq _ => upd_ne hq) (fun _ _ h => h) upd_same .nil
  rw [grid_set hjl] at this
  exact this
/-! a def that tells one -/
def PGr (K : Fg) (f : τ → Option (List (List α))) : Sp := fun vs H Q _ => ∃ Kn t r, Ex Kn H ∧ rept K Kn vs t ∧ f t = some r ∧ ∀ p ps Kn' H', Gr Kn H Kn' H' → NewG K H Kn' H' p ps r → Q (.ref p) H'
def RGr (K : Fg) (F Kn0 : Hp) (R : VK) (xss : List (List α)) : Prop := ∀ p ps Kn H, S K F Kn0 [] (gridO p ps xss) [] Kn H → R (.ref p) H
theorem sb_retGr {R : VK} (hi : sl[i]? = some (.at p)) (ho : ow = base ++ gridO p ps xss) (q : RGr K F Kn0 R xss) (hR : D.rt = R := by rfl) : SB K F Kn0 sl ow D (tRet (tVar i)) := fun σ Kn H s => by
  subst hR ho
  obtain ⟨o, h1, h2⟩ := s.sl.get hi
  exact ⟨.ref p, by rw [h1]; exact congrArg some h2, q p ps Kn H (s.sub (List.sublist_append_right _ _)).fin⟩
theorem rgr_of {H Kn : Hp} {r : List (List α)} {Q : VK} (q : ∀ p ps Kn' H', Gr Kn H Kn' H' → NewG K H Kn' H' p ps r → Q (.ref p) H') : RGr K H Kn Q r := fun p ps Kn' H' s =>
  q p ps Kn' H' ⟨s.e0, s.ef, s.ek, s.sep⟩ ⟨fun o ho => s.ow.each o ho, s.ow.nd⟩
theorem eq_call {f : τ → Option (List (List α))} {r : List (List α)} {ta : TA} {t : τ} {E : XK} (h : EA K F Kn0 sl ow ta t) (hf : f t = some r) : EQ2 K F Kn0 sl ow (tCall (PGr K f) [] E ta) r := fun σ Kn H s Q q =>
  h σ Kn H s _ fun vs Kn1 H1 g1 r1 => by
    show PGr K f (vs ++ []) H1 Q E
    rw [List.append_nil]
    exact ⟨Kn1, t, r, g1.kh, r1, hf, fun p ps Kn' H' g' n => q p ps Kn' H' (g1.trans g') ⟨fun o ho => ⟨fresh_back g1.hh (n.each o ho).1, (n.each o ho).2⟩, n.nd⟩⟩
/-- known at once -/
theorem EQ2.ev (h : EQ2 K F Kn0 sl ow te xss) : EV K F Kn0 sl ow te xss := fun σ Kn H s Q q => h σ Kn H s Q fun p ps Kn' H' g n => by
  have s1 : S K H Kn [] ([] ++ gridO p ps xss) [] Kn' H' := ⟨g.kk, g.kh, g.hh, g.sp, trivial, ⟨fun o ho => n.each o ho, n.nd⟩⟩
  have s2 : S K H Kn [.at p] ([] ++ gridO p ps xss) [some (.ref p)] Kn' H' := ⟨s1.e0, s1.ek, s1.ef, s1.sep, ⟨rfl, trivial⟩, s1.ow⟩
  obtain ⟨Kn2, e2, s3⟩ := s2.knowGrid (i := 0) rfl
  obtain ⟨o, e3, v, e4, e5⟩ := s3.sl.get (i := 0) rfl
  cases e3
  cases e4
  exact q _ Kn2 H' ⟨s3.e0, s3.ef, s3.ek, s3.sep⟩ e5
end
section
variable {K : Fg} {F Kn0 : Hp} {α : Type} [Rp α] {xss : List (List α)}
theorem RGr.base {R : VK} {Kn1 : Hp} (q : RGr K F Kn0 R xss) (b : Bs F Kn0 Kn1) : RGr K F Kn1 R xss := fun p ps Kn H s => q p ps Kn H (s.unbase b)
end
end Wk
set_option synthInstance.maxHeartbeats 4000000
set_option synthInstance.maxSize 20000
/-! the mirrors of k62, printed by gen.py -/
namespace Wk62
open PySem L2 Wk
noncomputable def m_flat_L2 (word_4 : (Tu Str)) : (Int × Str × Unit) → ((List (Str × Bool × Unit))) → Option ((List (Str × Bool × Unit))) := fun (k_11, piece_12, _) told_10 =>
  (appO told_10 (piece_12, (decide ((k_11 + (1 : Int)) < (word_4.l.length : Int))), ())).bind fun told_18 =>
  some told_18
noncomputable def m_flat_L1 : (Tu Str) → ((List (Str × Bool × Unit))) → Option ((List (Str × Bool × Unit))) := fun word_4 told_3 =>
  (forS (m_flat_L2 word_4) (enumI word_4.l) told_3).bind fun told_19 =>
  some told_19
noncomputable def m_flat (words_1 : (Tu (Tu Str))) : Option (List (Str × Bool × Unit)) :=
  (some ([] : List (Str × Bool × Unit))).bind fun told_2 =>
  (forS (m_flat_L1) words_1.l told_2).bind fun told_21 =>
  some told_21
noncomputable def m_width_at (widths_23 : (List Int)) (row_24 : Int) : Option Int :=
  (atI widths_23 (min row_24 ((widths_23.length : Int) - (1 : Int)))).bind fun i_25 =>
  some i_25
noncomputable def m_reaches_L1 (pieces_26 : (List (Str × Bool × Unit))) (width_28 : Int) : Int → (Int × (List (Int × Int × Unit))) → Option (Ctl (Int × (List (Int × Int × Unit))) (List (Int × Int × Unit))) := fun till_34 (size_32, told_33) =>
  (atI pieces_26 (till_34 - (1 : Int))).bind fun i_40 =>
  (some i_40).bind fun (piece_41, joint_42, _) =>
  (lenS piece_41).bind fun n_43 =>
  (some (size_32 + n_43)).bind fun size_44 =>
  ((if (decide ((size_44 + (if joint_42 = true then (1 : Int) else 0)) ≤ width_28)) = true then ((appO told_33 (till_34, ((width_28 - size_44) - (if joint_42 = true then (1 : Int) else 0)), ())).bind fun told_47 =>
  some told_47) else (some told_33))).bind fun told_48 =>
  (if (decide (width_28 < size_44)) = true then (some (Ctl.rt told_48)) else ((if (!joint_42) = true then ((some (size_44 + (1 : Int))).bind fun size_56 =>
  some (Ctl.nx (size_56, told_48))) else (some (Ctl.nx (size_44, told_48))))))
noncomputable def m_reaches (pieces_26 : (List (Str × Bool × Unit))) (first_27 : Int) (width_28 : Int) : Option (List (Int × Int × Unit)) :=
  (some ([] : List (Int × Int × Unit))).bind fun told_29 =>
  (some (0 : Int)).bind fun size_30 =>
  (rngO (first_27 + (1 : Int)) ((pieces_26.length : Int) + (1 : Int))).bind fun rg_31 =>
  (forC (m_reaches_L1 pieces_26 width_28) rg_31 (size_30, told_29)).bind fun tot_39 => match tot_39 with
  | .nx (size_57, told_58) => (some told_58)
  | .bk _ => none
  | .rt r_ => some r_
noncomputable def m_is_barred (pieces_60 : (List (Str × Bool × Unit))) (place_61 : Int) (width_62 : Int) : Option Bool :=
  (atI pieces_60 place_61).bind fun i_63 =>
  (some i_63).bind fun (piece_64, joint_65, _) =>
  (lenS piece_64).bind fun n_66 =>
  some (decide (width_62 < (n_66 + (if joint_65 = true then (1 : Int) else 0))))
noncomputable def m_put_less (told_67 : (List (Option Int))) (place_68 : Int) (cost_69 : Int) : Option (Nn × (List (Option Int))) :=
  (atI told_67 place_68).bind fun i_71 =>
  ((if (i_71.isNone) = true then some true else ((atI told_67 place_68).bind fun i_72 => (i_72).bind fun s_73 => some (decide (cost_69 < s_73))))).bind fun b_74 =>
  (if b_74 = true then ((setI told_67 place_68 (some cost_69)).bind fun told_77 =>
  some (Nn.nn, told_77)) else (some (Nn.nn, told_67)))
noncomputable def m_next_costs_L2 (pieces_78 : (List (Str × Bool × Unit))) (joint_79 : Int) (costs_81 : (List (Option Int))) (place_86 : Int) : (Int × Int × Unit) → ((List (Option Int))) → Option ((List (Option Int))) := fun (till_98, lack_99, _) told_97 =>
  (if (decide (till_98 < (pieces_78.length : Int))) = true then ((atI costs_81 place_86).bind fun i_108 =>
  (mulO lack_99 lack_99).bind fun m_109 =>
  (i_108).bind fun s_110 =>
  (atI pieces_78 (till_98 - (1 : Int))).bind fun i_111 =>
  (mulO joint_79 (if i_111.2.1 = true then (1 : Int) else 0)).bind fun m_112 =>
  (m_put_less told_97 till_98 ((s_110 + m_109) + m_112)).bind fun (r_113, told_114) =>
  some told_114) else (some told_97))
noncomputable def m_next_costs_L1 (pieces_78 : (List (Str × Bool × Unit))) (joint_79 : Int) (width_80 : Int) (costs_81 : (List (Option Int))) : Int → ((List (Option Int))) → Option ((List (Option Int))) := fun place_86 told_85 =>
  (atI costs_81 place_86).bind fun i_93 =>
  (if (i_93.isSome) = true then ((m_reaches pieces_78 place_86 width_80).bind fun r_96 =>
  (forS (m_next_costs_L2 pieces_78 joint_79 costs_81 place_86) r_96 told_85).bind fun told_115 =>
  (m_is_barred pieces_78 place_86 width_80).bind fun r_118 =>
  (if r_118 = true then ((atI costs_81 place_86).bind fun i_121 =>
  (mulO width_80 width_80).bind fun m_122 =>
  (i_121).bind fun s_123 =>
  (m_put_less told_115 place_86 (s_123 + m_122)).bind fun (r_124, told_125) =>
  some told_125) else (some told_115))) else (some told_85))
noncomputable def m_next_costs (pieces_78 : (List (Str × Bool × Unit))) (joint_79 : Int) (width_80 : Int) (costs_81 : (List (Option Int))) : Option (List (Option Int)) :=
  (repO ([none] : List (Option Int)) ((pieces_78.length : Int) + (1 : Int))).bind fun rep_82 =>
  (some rep_82).bind fun told_83 =>
  (rngO 0 (pieces_78.length : Int)).bind fun rg_84 =>
  (forS (m_next_costs_L1 pieces_78 joint_79 width_80 costs_81) rg_84 told_83).bind fun told_126 =>
  some told_126
noncomputable def m_table_of_L1 (joint_129 : Int) (widths_130 : (List Int)) (pieces_133 : (List (Str × Bool × Unit))) : Int → ((List (List (Option Int)))) → Option ((List (List (Option Int)))) := fun row_140 table_139 =>
  (m_width_at widths_130 row_140).bind fun r_146 =>
  (atI table_139 row_140).bind fun i_147 =>
  (m_next_costs pieces_133 joint_129 r_146 i_147).bind fun r_148 =>
  (appO table_139 r_148).bind fun table_149 =>
  some table_149
noncomputable def m_table_of (words_128 : (Tu (Tu Str))) (joint_129 : Int) (widths_130 : (List Int)) (many_131 : Int) : Option (List (List (Option Int))) :=
  (m_flat words_128).bind fun r_132 =>
  (some r_132).bind fun pieces_133 =>
  (repO ([none] : List (Option Int)) (pieces_133.length : Int)).bind fun rep_134 =>
  (catO ([(some (0 : Int))] : List (Option Int)) rep_134).bind fun cat_135 =>
  (some [cat_135]).bind fun table_136 =>
  (rngO 0 many_131).bind fun rg_137 =>
  (forS (m_table_of_L1 joint_129 widths_130 pieces_133) rg_137 table_136).bind fun table_150 =>
  some table_150
noncomputable def m__law_cell_at (script_152 : (Fz Int)) (k_153 : Int) : Option Int :=
  (if (decide (k_153 < (script_152.l.length : Int))) = true then ((atI script_152.l k_153).bind fun i_157 =>
  some i_157) else (some (0 : Int)))
noncomputable def m__law_numbers_L1 : Int → (Int × (List Int)) → Option (Int × (List Int)) := fun k_168 (number_166, found_167) =>
  (appO found_167 (number_166 % (5040 : Int))).bind fun found_174 =>
  (some (number_166 / (5040 : Int))).bind fun number_175 =>
  some (number_175, found_174)
noncomputable def m__law_numbers_L2 : Int → (Int × (List Int)) → Option (Int × (List Int)) := fun k_183 (number_181, found_182) =>
  (some ((((number_181 + k_183) + (1 : Int)) * (48271 : Int)) % (2147483647 : Int))).bind fun number_189 =>
  (appO found_182 ((number_189 * (69621 : Int)) % (2147483629 : Int))).bind fun found_190 =>
  some (number_189, found_190)
noncomputable def m__law_numbers (cell_158 : Int) (many_159 : Int) : Option (List Int) :=
  (some ([] : List Int)).bind fun found_160 =>
  (some (cell_158 - (1000000000000000000 : Int))).bind fun number_161 =>
  (if (decide ((0 : Int) ≤ number_161)) = true then ((rngO 0 many_159).bind fun rg_165 =>
  (forS (m__law_numbers_L1) rg_165 (number_161, found_160)).bind fun (number_176, found_177) =>
  some found_177) else ((some (cell_158 % (2147483647 : Int))).bind fun number_179 =>
  (rngO 0 (many_159 + (1 : Int))).bind fun rg_180 =>
  (forS (m__law_numbers_L2) rg_180 (number_179, found_160)).bind fun (number_191, found_192) =>
  some (cut found_192 (some (1 : Int)) none)))
noncomputable def m__law_words_L1 : Int → ((List Str) × (List (Tu Str))) → Option ((List Str) × (List (Tu Str))) := fun cell_200 (word_198, words_here_199) =>
  (m__law_numbers cell_200 (2 : Int)).bind fun r_206 =>
  (some r_206).bind fun some_207 =>
  (atI some_207 (0 : Int)).bind fun i_208 =>
  (cutSO ("abcde" : Str) none (some ((1 : Int) + (i_208 % (5 : Int))))).bind fun cs_209 =>
  (appO word_198 cs_209).bind fun word_210 =>
  (atI some_207 (1 : Int)).bind fun i_212 =>
  (if ((decide ((i_212 % (2 : Int)) = (0 : Int))) || (decide ((word_210.length : Int) = (3 : Int)))) = true then ((appO words_here_199 (Tu.mk word_210)).bind fun words_here_215 =>
  (some ([] : List Str)).bind fun word_216 =>
  some (word_216, words_here_215)) else (some (word_210, words_here_199)))
noncomputable def m__law_words (cells_194 : (List Int)) : Option (Tu (Tu Str)) :=
  (some ([] : List (Tu Str))).bind fun words_here_195 =>
  (some ([] : List Str)).bind fun word_196 =>
  (forS (m__law_words_L1) cells_194 (word_196, words_here_195)).bind fun (word_217, words_here_218) =>
  ((if (decide ((0 : Int) < (word_217.length : Int))) = true then ((appO words_here_218 (Tu.mk word_217)).bind fun words_here_222 =>
  some words_here_222) else (some words_here_218))).bind fun words_here_223 =>
  some (Tu.mk words_here_223)
noncomputable def m__law_pieces_L2 (word_228 : (Tu Str)) : (Int × Str × Unit) → ((List (Int × Int × Unit))) → Option ((List (Int × Int × Unit))) := fun (k_235, piece_236, _) told_234 =>
  (lenS piece_236).bind fun n_242 =>
  (appO told_234 (n_242, (if (decide ((k_235 + (1 : Int)) < (word_228.l.length : Int))) = true then (1 : Int) else 0), ())).bind fun told_243 =>
  some told_243
noncomputable def m__law_pieces_L1 : (Tu Str) → ((List (Int × Int × Unit))) → Option ((List (Int × Int × Unit))) := fun word_228 told_227 =>
  (forS (m__law_pieces_L2 word_228) (enumI word_228.l) told_227).bind fun told_244 =>
  some told_244
noncomputable def m__law_pieces (words_here_225 : (Tu (Tu Str))) : Option (List (Int × Int × Unit)) :=
  (some ([] : List (Int × Int × Unit))).bind fun told_226 =>
  (forS (m__law_pieces_L1) words_here_225.l told_226).bind fun told_246 =>
  some told_246
noncomputable def m__law_size_L1 (pieces_here_248 : (List (Int × Int × Unit))) (till_250 : Int) : Int → (Int) → Option (Int) := fun k_255 size_here_254 =>
  (atI pieces_here_248 k_255).bind fun i_261 =>
  (some (size_here_254 + i_261.1)).bind fun size_here_262 =>
  (if (decide ((k_255 + (1 : Int)) < till_250)) = true then ((atI pieces_here_248 k_255).bind fun i_266 =>
  (some ((size_here_262 + (1 : Int)) - i_266.2.1)).bind fun size_here_267 =>
  some size_here_267) else (some size_here_262))
noncomputable def m__law_size (pieces_here_248 : (List (Int × Int × Unit))) (first_249 : Int) (till_250 : Int) : Option Int :=
  (atI pieces_here_248 (till_250 - (1 : Int))).bind fun i_251 =>
  (some i_251.2.1).bind fun size_here_252 =>
  (rngO first_249 till_250).bind fun rg_253 =>
  (forS (m__law_size_L1 pieces_here_248 till_250) rg_253 size_here_252).bind fun size_here_268 =>
  some size_here_268
noncomputable def m__law_due_L1 (pieces_here_270 : (List (Int × Int × Unit))) (joint_271 : Int) (width_272 : Int) (costs_273 : (List (Option Int))) (till_274 : Int) : Int → ((List Int)) → Option ((List Int)) := fun first_278 told_277 =>
  (m__law_size pieces_here_270 first_278 till_274).bind fun r_284 =>
  (some r_284).bind fun size_here_285 =>
  (atI costs_273 first_278).bind fun i_287 =>
  (if ((i_287.isSome) && ((decide (till_274 < (pieces_here_270.length : Int))) && (decide (size_here_285 ≤ width_272)))) = true then ((atI costs_273 first_278).bind fun i_290 =>
  (powO (width_272 - size_here_285) (2 : Int)).bind fun w_291 =>
  (i_290).bind fun s_292 =>
  (atI pieces_here_270 (till_274 - (1 : Int))).bind fun i_293 =>
  (mulO joint_271 i_293.2.1).bind fun m_294 =>
  (appO told_277 ((s_292 + w_291) + m_294)).bind fun told_295 =>
  some told_295) else (some told_277))
noncomputable def m__law_due (pieces_here_270 : (List (Int × Int × Unit))) (joint_271 : Int) (width_272 : Int) (costs_273 : (List (Option Int))) (till_274 : Int) : Option (Option Int) :=
  (some ([] : List Int)).bind fun told_275 =>
  (rngO 0 till_274).bind fun rg_276 =>
  (forS (m__law_due_L1 pieces_here_270 joint_271 width_272 costs_273 till_274) rg_276 told_275).bind fun told_296 =>
  ((if (decide (till_274 < (pieces_here_270.length : Int))) = true then ((atI costs_273 till_274).bind fun i_299 => ((if (i_299.isSome) = true then ((m__law_size pieces_here_270 till_274 (till_274 + (1 : Int))).bind fun r_300 => some (decide (width_272 < r_300))) else some false)).bind fun b_301 => some b_301) else some false)).bind fun b_302 =>
  ((if b_302 = true then ((atI costs_273 till_274).bind fun i_304 =>
  (mulO width_272 width_272).bind fun m_305 =>
  (i_304).bind fun s_306 =>
  (appO told_296 (s_306 + m_305)).bind fun told_307 =>
  some told_307) else (some told_296))).bind fun told_308 =>
  (if (decide ((told_308.length : Int) = (0 : Int))) = true then (some none) else ((minL told_308).bind fun min_313 =>
  some (some min_313)))
noncomputable def m_law_L1 (pieces_here_318 : (List (Int × Int × Unit))) (joint_323 : Int) (widths_331 : (List Int)) (table_336 : (List (List (Option Int)))) : Int → (Unit) → Option (Ctl (Unit) Bool) := fun row_347 _ =>
  (atI widths_331 (min row_347 ((widths_331.length : Int) - (1 : Int)))).bind fun i_353 =>
  (some i_353).bind fun width_354 =>
  (rngO 0 ((pieces_here_318.length : Int) + (1 : Int))).bind fun rg_355 =>
  (lcM (fun _ => some true) (fun till_356 => ((atI table_336 row_347).bind fun i_358 => (m__law_due pieces_here_318 joint_323 width_354 i_358 till_356).bind fun r_359 => some r_359)) rg_355).bind fun zs_357 =>
  (some zs_357).bind fun due_here_360 =>
  (atI table_336 (row_347 + (1 : Int))).bind fun i_362 =>
  ((if (!true) = true then some true else ((atI table_336 (row_347 + (1 : Int))).bind fun i_363 => some (!Qe.qe i_363 due_here_360)))).bind fun b_364 =>
  (if b_364 = true then (some (Ctl.rt false)) else (some (Ctl.nx ())))
noncomputable def m_law (script_314 : (Fz Int)) : Option Bool :=
  (m__law_words (cut script_314.l (some (3 : Int)) (some (15 : Int)))).bind fun r_315 =>
  (some r_315).bind fun words_here_316 =>
  (m__law_pieces words_here_316).bind fun r_317 =>
  (some r_317).bind fun pieces_here_318 =>
  (m__law_cell_at script_314 (0 : Int)).bind fun r_319 =>
  (m__law_numbers r_319 (7 : Int)).bind fun r_320 =>
  (some r_320).bind fun some_321 =>
  (atI some_321 (0 : Int)).bind fun i_322 =>
  (some (i_322 % (100 : Int))).bind fun joint_323 =>
  (atI some_321 (1 : Int)).bind fun i_324 =>
  (rngO 0 (i_324 % (4 : Int))).bind fun rg_325 =>
  (lcM (fun _ => some true) (fun k_326 => ((atI some_321 ((2 : Int) + k_326)).bind fun i_328 => some (i_328 % (13 : Int)))) rg_325).bind fun zs_327 =>
  (atI some_321 (5 : Int)).bind fun i_329 =>
  (catO zs_327 ([((1 : Int) + (i_329 % (12 : Int)))] : List Int)).bind fun cat_330 =>
  (some cat_330).bind fun widths_331 =>
  (atI some_321 (6 : Int)).bind fun i_332 =>
  (some ((1 : Int) + (i_332 % (8 : Int)))).bind fun many_333 =>
  (some widths_331).bind fun held_334 =>
  (m_table_of words_here_316 joint_323 held_334 many_333).bind fun r_335 =>
  (some r_335).bind fun table_336 =>
  (if ((!true) || ((!decide ((table_336.length : Int) = (many_333 + (1 : Int)))) || (!decide (held_334 = widths_331)))) = true then (some false) else ((atI table_336 (0 : Int)).bind fun i_341 =>
  (repO ([none] : List (Option Int)) (pieces_here_318.length : Int)).bind fun rep_342 =>
  (catO ([(some (0 : Int))] : List (Option Int)) rep_342).bind fun cat_343 =>
  (if (!Qe.qe i_341 cat_343) = true then (some false) else ((rngO 0 many_333).bind fun rg_346 =>
  (forC (m_law_L1 pieces_here_318 joint_323 widths_331 table_336) rg_346 ()).bind fun tot_352 => match tot_352 with
  | .nx _ => ((lcM (fun _ => some true) (fun costs_368 => (some costs_368)) table_336).bind fun zs_369 =>
  (some zs_369).bind fun due_here_370 =>
  (rowG table_336 (0 : Int) (fun r => appO r (some (7 : Int)))).bind fun table_371 =>
  (rowG table_371 (1 : Int) (fun _ => some [])).bind fun table_372 =>
  (m_table_of words_here_316 joint_323 widths_331 many_333).bind fun r_373 =>
  some (Qe.qe r_373 due_here_370))
  | .bk _ => none
  | .rt r_ => some r_))))
end Wk62
set_option synthInstance.maxHeartbeats 4000000
set_option synthInstance.maxSize 20000
/-! the walks of k62, printed by gen.py -/
namespace Wk62
open PySem L2 Wk
def topS (i : Nat) : Stmt := PySem.Challenge.pw_boxgalley_k62_the_table_of_rows.main.body.getD i (.Pass ⟨0, 0, 0, 0⟩)
abbrev s_flat : Stmt := topS 1
abbrev s_width_at : Stmt := topS 2
abbrev s_reaches : Stmt := topS 3
abbrev s_is_barred : Stmt := topS 4
abbrev s_put_less : Stmt := topS 5
abbrev s_next_costs : Stmt := topS 6
abbrev s_table_of : Stmt := topS 7
abbrev s__law_cell_at : Stmt := topS 9
abbrev s__law_numbers : Stmt := topS 10
abbrev s__law_words : Stmt := topS 11
abbrev s__law_pieces : Stmt := topS 12
abbrev s__law_size : Stmt := topS 13
abbrev s__law_due : Stmt := topS 14
abbrev s_law : Stmt := topS 15
structure TX (K : Fg) (mg : Str → Option Value) (w : World) where
  a_flat : Addr
  d_flat : FuncData
  F_flat : Fun K "flat" "flat" s_flat a_flat d_flat
  b_flat : Binds K d_flat ["words"] []
  g_flat : mg "flat" = some (.ref a_flat)
  a_width_at : Addr
  d_width_at : FuncData
  F_width_at : Fun K "width_at" "width_at" s_width_at a_width_at d_width_at
  b_width_at : Binds K d_width_at ["widths", "row"] []
  g_width_at : mg "width_at" = some (.ref a_width_at)
  a_reaches : Addr
  d_reaches : FuncData
  F_reaches : Fun K "reaches" "reaches" s_reaches a_reaches d_reaches
  b_reaches : Binds K d_reaches ["pieces", "first", "width"] []
  g_reaches : mg "reaches" = some (.ref a_reaches)
  a_is_barred : Addr
  d_is_barred : FuncData
  F_is_barred : Fun K "is_barred" "is_barred" s_is_barred a_is_barred d_is_barred
  b_is_barred : Binds K d_is_barred ["pieces", "place", "width"] []
  g_is_barred : mg "is_barred" = some (.ref a_is_barred)
  a_put_less : Addr
  d_put_less : FuncData
  F_put_less : Fun K "put_less" "put_less" s_put_less a_put_less d_put_less
  b_put_less : Binds K d_put_less ["told", "place", "cost"] []
  g_put_less : mg "put_less" = some (.ref a_put_less)
  a_next_costs : Addr
  d_next_costs : FuncData
  F_next_costs : Fun K "next_costs" "next_costs" s_next_costs a_next_costs d_next_costs
  b_next_costs : Binds K d_next_costs ["pieces", "joint", "width", "costs"] []
  g_next_costs : mg "next_costs" = some (.ref a_next_costs)
  a_table_of : Addr
  d_table_of : FuncData
  F_table_of : Fun K "table_of" "table_of" s_table_of a_table_of d_table_of
  b_table_of : Binds K d_table_of ["words", "joint", "widths", "many"] []
  g_table_of : mg "table_of" = some (.ref a_table_of)
  a__law_cell_at : Addr
  d__law_cell_at : FuncData
  F__law_cell_at : Fun K "_law_cell_at" "_law_cell_at" s__law_cell_at a__law_cell_at d__law_cell_at
  b__law_cell_at : Binds K d__law_cell_at ["_law_script", "_law_k"] []
  g__law_cell_at : mg "_law_cell_at" = some (.ref a__law_cell_at)
  a__law_numbers : Addr
  d__law_numbers : FuncData
  F__law_numbers : Fun K "_law_numbers" "_law_numbers" s__law_numbers a__law_numbers d__law_numbers
  b__law_numbers : Binds K d__law_numbers ["_law_cell", "_law_many"] []
  g__law_numbers : mg "_law_numbers" = some (.ref a__law_numbers)
  a__law_words : Addr
  d__law_words : FuncData
  F__law_words : Fun K "_law_words" "_law_words" s__law_words a__law_words d__law_words
  b__law_words : Binds K d__law_words ["_law_cells"] []
  g__law_words : mg "_law_words" = some (.ref a__law_words)
  a__law_pieces : Addr
  d__law_pieces : FuncData
  F__law_pieces : Fun K "_law_pieces" "_law_pieces" s__law_pieces a__law_pieces d__law_pieces
  b__law_pieces : Binds K d__law_pieces ["_law_words_here"] []
  g__law_pieces : mg "_law_pieces" = some (.ref a__law_pieces)
  a__law_size : Addr
  d__law_size : FuncData
  F__law_size : Fun K "_law_size" "_law_size" s__law_size a__law_size d__law_size
  b__law_size : Binds K d__law_size ["_law_pieces_here", "_law_first", "_law_till"] []
  g__law_size : mg "_law_size" = some (.ref a__law_size)
  a__law_due : Addr
  d__law_due : FuncData
  F__law_due : Fun K "_law_due" "_law_due" s__law_due a__law_due d__law_due
  b__law_due : Binds K d__law_due ["_law_pieces_here", "_law_joint", "_law_width", "_law_costs", "_law_till"] []
  g__law_due : mg "_law_due" = some (.ref a__law_due)
  a_law : Addr
  d_law : FuncData
  F_law : Fun K "law" "law" s_law a_law d_law
  b_law : Binds K d_law ["_law_script"] []
  g_law : mg "law" = some (.ref a_law)
  z_enumerate : mg "enumerate" = none
  z_int : mg "int" = none
  z_isinstance : mg "isinstance" = none
  z_len : mg "len" = none
  z_list : mg "list" = none
  z_min : mg "min" = none
  z_range : mg "range" = none
  z_tuple : mg "tuple" = none
def spLaw (K : Fg) : Sp := fun vs H Q _ => ∃ (a : Addr) (ns : List Int), vs = [.ref a] ∧ SqL K H a (ns.map V.int) ∧ ns.length ≤ 63 ∧ ∀ H', Q (.bl true) H'
theorem fn_weak {P : Program} {w : World} {K : Fg} {mg : Str → Option Value} {base : Heap} {k : Nat} {f : Addr} {fd : FuncData} {m : Fz Int → Option Bool}
    (h : FnOk P w K mg base CX0 k f fd ["_law_script"] (PF (τ := Fz Int × Unit) K fun t => m t.1)) (main : ∀ ns : List Int, ns.length ≤ 63 → m (Fz.mk ns) = some true) : FnOk P w K mg base CX0 k f fd ["_law_script"] (spLaw K) :=
  h.imp fun vs H Q E hh => by
    obtain ⟨a, ns, rfl, hs, hl, q⟩ := hh
    exact ⟨H, (Fz.mk ns, ()), true, Evl.Ex.refl _, ⟨.ref a, [], rfl, ⟨a, ns.map V.int, rfl, hs, fl_paired ns⟩, rfl⟩, main ns hl, fun u Kn' H' g r => by cases r; exact q H'⟩
section
variable {P : Program} {w : World} {K : Fg} {mg : Str → Option Value} {base : Heap}
theorem sc_flat : FnScope ["words", "told", "word", "k", "piece"] ["words"] (defScope s_flat) := ⟨rfl, rfl, rfl, by decide +kernel, rfl, by decide +kernel, by decide +kernel⟩
set_option maxHeartbeats 4000000 in
theorem ok_flat (T : TX K mg w) : FnOk P w K mg base CX0 1 T.a_flat T.d_flat ["words"] (PL (τ := (Tu (Tu Str)) × Unit) K (fun t => m_flat t.1)) := by
  refine T.F_flat.ok sc_flat (fun vs H Q E h => ?_) (fun cdv A outer s H vs Q E hr h => ?_)
  · obtain ⟨Kn, t, r, ek, h, hf, q⟩ := h
    exact Tp.len h
  · obtain ⟨Kn, t, r_, ek, h, hf, q⟩ := h
    obtain ⟨words_1, u_⟩ := t
    obtain ⟨v_0, rr_, rfl, hv_0, h⟩ := h
    obtain rfl := h
    replace hf : m_flat words_1 = some r_ := hf
    unfold m_flat at hf
    refine ⟨_, (pss_cons (ps_set (i := 1) sc_flat.nd rfl (.inl rfl) (pe_lst pa_nil))
      (pss_cons (ps_for PassesOwn.never rfl (kpi_tup (pv 0)) (pg_name (i := 2) sc_flat.nd rfl (.inl rfl)) (pss_one (ps_for PassesOwn.never rfl (pi_enumT (by rfl) T.z_enumerate (pa_cons (pv 2) pa_nil)) (kpg_tup (n := 2) (pgs_cons (pg_name (i := 3) sc_flat.nd rfl (.inl rfl)) (pgs_cons (pg_name (i := 4) sc_flat.nd rfl (.inl rfl)) pgs_nil))) (pss_one (ps_expr (pe_bm PySem.F.plainAttrs_list PySem.F.slot_list_append PySem.F.type_list_append mt_append (pv 1) (pa_cons (pe_tup (pa_cons (pv 4) (pa_cons (pe_cmpR op_lt (pe_op op_add (pv 3) pe_int) (pe_callB k_len (by rfl) T.z_len PySem.boot_len (pa_cons (pv 2) pa_nil)) (nomark _)) pa_nil))) pa_nil)))))))
      (pss_one (ps_ret (pv 1))))), ?_⟩
    refine enter (Kn := Kn) (sl := [sv words_1, .any, .any, .any, .any]) ek ⟨⟨v_0, rfl, hv_0⟩, trivial, trivial, trivial, trivial, trivial⟩ ?_
    have q := rn_of q
    obtain ⟨told_2, h_told_2, hf⟩ := bind_some hf
    refine SB.seqB (fun kx_ => sb_asgO (sl' := fun p_told_2 => [sv words_1, .at p_told_2, .any, .any, .any]) (fun _ => rfl) (EN.cast (en_lst el_nil) (Option.some.inj h_told_2)) (fun p_told_2 => (kx_ _ _ ?_)))
    obtain ⟨told_21, h_tot_9, hf⟩ := bind_some hf
    refine SB.seqB (fun kx_22 => sb_for (β := (Tu Str)) (Sx := (List (Str × Bool × Unit))) (fun s => [sv words_1, .at p_told_2, .any, .any, .any]) (fun s => [ol p_told_2 s]) (fun x s => [sv words_1, .at p_told_2, sv x, .any, .any]) [2] (fun xs s => forS (m_flat_L1) xs s = some told_21) told_2 (IT.m (it_tup (ev_var (i := 0) rfl))) h_tot_9 (.keep (.keep (.keep (.keep (.keep .nil))))) (List.Sublist.refl _) (fun x s => (gt_name rfl)) ?_ ?_)
    · intro Kn1 b1 word_4 rest_ told_3 hP_6 N_ hN_5
      obtain ⟨c_, hc_7, hP_6⟩ := bind_some hP_6
      have q_8 := q.base b1
      unfold m_flat_L1 at hc_7
      refine SB.is (sl' := [sv words_1, .at p_told_2, sv word_4, .any, .any]) (ow1 := [ol p_told_2 told_3]) rfl rfl ?_
      obtain ⟨told_19, h_tot_17, hc_7⟩ := bind_some hc_7
      refine sb_for (β := (Int × Str × Unit)) (Sx := (List (Str × Bool × Unit))) (fun s => [sv words_1, .at p_told_2, sv word_4, .any, .any]) (fun s => [ol p_told_2 s]) (fun x s => [sv words_1, .at p_told_2, sv word_4, sv x.1, sv x.2.1]) [3, 4] (fun xs s => forS (m_flat_L2 word_4) xs s = some told_19) told_3 (IT.m (it_enumT (ea_cons (ev_var (i := 2) rfl) ea_nil))) h_tot_17 (.keep (.keep (.keep (.keep (.keep .nil))))) (List.Sublist.refl _) (fun x s => (gt_tup (gts_cons (gt_name rfl) (gts_cons (gt_name rfl) gts_nil)))) ?_ ?_
      · intro Kn1 b1 x_ rest_ told_10 hP_14 N_ hN_13
        obtain ⟨k_11, piece_12, _⟩ := x_
        obtain ⟨c_, hc_15, hP_14⟩ := bind_some hP_14
        have q_16 := q_8.base b1
        unfold m_flat_L2 at hc_15
        refine SB.is (sl' := [sv words_1, .at p_told_2, sv word_4, sv k_11, sv piece_12]) (ow1 := [ol p_told_2 told_10]) rfl rfl ?_
        obtain ⟨told_18, h_told_18, hc_15⟩ := bind_some hc_15
        refine sb_appO (i := 1) (j := 0) rfl rfl (ev_tup (ea_cons (ev_var (i := 4) rfl) (ea_cons (ev_op (ev_op (ev_var (i := 3) rfl) (ev_int 1) r2_add) (ev_cb (ea_cons (ev_var (i := 2) rfl) ea_nil) rc_lenT) r2_lt) ea_nil))) h_told_18 (ow1 := [ol p_told_2 told_18]) rfl ?_
        cases hc_15
        exact fun σ Kn H s => hN_13 _ hP_14 σ Kn H ((s.le (.keep (.keep (.keep (.drop (.drop .nil)))))).sub (List.Sublist.refl _))
      · intro s_ h0
        cases h0
        show SN _ _ _ [sv words_1, .at p_told_2, sv word_4, .any, .any] [ol p_told_2 told_19] _
        cases hc_7
        exact fun σ Kn H s => hN_5 _ hP_6 σ Kn H ((s.le (.keep (.keep (.drop (.keep (.keep .nil)))))).sub (List.Sublist.refl _))
    · intro s_ h0
      cases h0
      refine kx_22 _ _ ?_
      refine SB.is (sl' := [sv words_1, .at p_told_2, .any, .any, .any]) (ow1 := [ol p_told_2 told_21]) rfl rfl ?_
      cases hf
      exact sb_retO (i := 1) (j := 0) rfl rfl q (List.Sublist.cons _ List.Sublist.slnil)
theorem sc_width_at : FnScope ["widths", "row"] ["widths", "row"] (defScope s_width_at) := ⟨rfl, rfl, rfl, by decide +kernel, rfl, by decide +kernel, by decide +kernel⟩
set_option maxHeartbeats 4000000 in
theorem ok_width_at (T : TX K mg w) : FnOk P w K mg base CX0 1 T.a_width_at T.d_width_at ["widths", "row"] (PF (τ := (List Int) × Int × Unit) K (fun t => m_width_at t.1 t.2.1)) := by
  refine T.F_width_at.ok sc_width_at (fun vs H Q E h => ?_) (fun cdv A outer s H vs Q E hr h => ?_)
  · obtain ⟨Kn, t, r, ek, h, hf, q⟩ := h
    exact Tp.len h
  · obtain ⟨Kn, t, r_, ek, h, hf, q⟩ := h
    obtain ⟨widths_23, row_24, u_⟩ := t
    obtain ⟨v_0, rr_, rfl, hv_0, h⟩ := h
    obtain ⟨v_1, rr_, rfl, hv_1, h⟩ := h
    obtain rfl := h
    replace hf : m_width_at widths_23 row_24 = some r_ := hf
    unfold m_width_at at hf
    refine ⟨_, (pss_one (ps_ret (pe_ix k_ixl (pv 0) (pe_callB k_min2 (by rfl) T.z_min (by decide +kernel) (pa_cons (pv 1) (pa_cons (pe_op op_sub (pe_callB k_len (by rfl) T.z_len PySem.boot_len (pa_cons (pv 0) pa_nil)) pe_int) pa_nil))) (fun _ _ => rfl)))), ?_⟩
    refine enter (Kn := Kn) (sl := [sv widths_23, sv row_24]) ek ⟨⟨v_0, rfl, hv_0⟩, ⟨v_1, rfl, hv_1⟩, trivial⟩ ?_
    have q := rt_of q
    obtain ⟨i_25, h_i_25, hf⟩ := bind_some hf
    cases hf
    exact sb_ret (ev_op (ev_var (i := 0) rfl) (ev_cb (ea_cons (ev_var (i := 1) rfl) (ea_cons (ev_op (ev_cb (ea_cons (ev_var (i := 0) rfl) ea_nil) rc_len) (ev_int 1) r2_sub) ea_nil)) rc_min) (r2_ixL h_i_25)) q (List.Sublist.refl _)
theorem sc_reaches : FnScope ["pieces", "first", "width", "told", "size", "till", "piece", "joint"] ["pieces", "first", "width"] (defScope s_reaches) := ⟨rfl, rfl, rfl, by decide +kernel, rfl, by decide +kernel, by decide +kernel⟩
set_option maxHeartbeats 4000000 in
theorem ok_reaches (T : TX K mg w) : FnOk P w K mg base CX0 1 T.a_reaches T.d_reaches ["pieces", "first", "width"] (PL (τ := (List (Str × Bool × Unit)) × Int × Int × Unit) K (fun t => m_reaches t.1 t.2.1 t.2.2.1)) := by
  refine T.F_reaches.ok sc_reaches (fun vs H Q E h => ?_) (fun cdv A outer s H vs Q E hr h => ?_)
  · obtain ⟨Kn, t, r, ek, h, hf, q⟩ := h
    exact Tp.len h
  · obtain ⟨Kn, t, r_, ek, h, hf, q⟩ := h
    obtain ⟨pieces_26, first_27, width_28, u_⟩ := t
    obtain ⟨v_0, rr_, rfl, hv_0, h⟩ := h
    obtain ⟨v_1, rr_, rfl, hv_1, h⟩ := h
    obtain ⟨v_2, rr_, rfl, hv_2, h⟩ := h
    obtain rfl := h
    replace hf : m_reaches pieces_26 first_27 width_28 = some r_ := hf
    unfold m_reaches at hf
    refine ⟨_, (pss_cons (ps_set (i := 3) sc_reaches.nd rfl (.inl rfl) (pe_lst pa_nil))
      (pss_cons (ps_set (i := 4) sc_reaches.nd rfl (.inl rfl) pe_int)
      (pss_cons (ps_for PassesOwn.never rfl (pi_range2 (by rfl) T.z_range (pa_cons (pe_op op_add (pv 1) pe_int) (pa_cons (pe_op op_add (pe_callB k_len (by rfl) T.z_len PySem.boot_len (pa_cons (pv 0) pa_nil)) pe_int) pa_nil))) (pg_name (i := 5) sc_reaches.nd rfl (.inl rfl)) (pss_cons (ps_asg (pe_ix k_ixl (pv 0) (pe_op op_sub (pv 5) pe_int) (fun _ _ => rfl)) (kpg_tup (n := 2) (pgs_cons (pg_name (i := 6) sc_reaches.nd rfl (.inl rfl)) (pgs_cons (pg_name (i := 7) sc_reaches.nd rfl (.inl rfl)) pgs_nil))))
      (pss_cons (ps_set (i := 4) sc_reaches.nd rfl (.inl rfl) (pe_op op_add (pv 4) (pe_callB call_len_str (by rfl) T.z_len PySem.boot_len (pa_cons (pv 6) pa_nil))))
      (Evl.pss_cut (ps_if (pt_cmpR op_le (pe_op op_add (pv 4) (pe_callTy call_int1 (by rfl) T.z_int (by decide +kernel) (pa_cons (pv 7) pa_nil))) (pv 2) (nomark _)) (pss_one (ps_expr (pe_bm PySem.F.plainAttrs_list PySem.F.slot_list_append PySem.F.type_list_append mt_append (pv 3) (pa_cons (pe_tup (pa_cons (pv 5) (pa_cons (pe_op op_sub (pe_op op_sub (pv 2) (pv 4)) (pe_callTy call_int1 (by rfl) T.z_int (by decide +kernel) (pa_cons (pv 7) pa_nil))) pa_nil))) pa_nil)))) pss_nil)
      (pss_cons (ps_if (pt_cmpR op_gt (pv 4) (pv 2) (nomark _)) (pss_one (ps_ret (pv 3))) pss_nil)
      (pss_one (ps_if (pt_not (pt_val (pv 7))) (pss_one (ps_set (i := 4) sc_reaches.nd rfl (.inl rfl) (pe_op op_add (pv 4) pe_int))) pss_nil)))))))
      (pss_one (ps_ret (pv 3)))))), ?_⟩
    refine enter (Kn := Kn) (sl := [sv pieces_26, sv first_27, sv width_28, .any, .any, .any, .any, .any]) ek ⟨⟨v_0, rfl, hv_0⟩, ⟨v_1, rfl, hv_1⟩, ⟨v_2, rfl, hv_2⟩, trivial, trivial, trivial, trivial, trivial, trivial⟩ ?_
    have q := rn_of q
    obtain ⟨told_29, h_told_29, hf⟩ := bind_some hf
    refine SB.seqB (fun kx_ => sb_asgO (sl' := fun p_told_29 => [sv pieces_26, sv first_27, sv width_28, .at p_told_29, .any, .any, .any, .any]) (fun _ => rfl) (EN.cast (en_lst el_nil) (Option.some.inj h_told_29)) (fun p_told_29 => (kx_ _ _ ?_)))
    obtain ⟨size_30, h_size_30, hf⟩ := bind_some hf
    refine SB.seqB (fun kx_ => sb_asg (sl' := [sv pieces_26, sv first_27, sv width_28, .at p_told_29, sv size_30, .any, .any, .any]) rfl (EV.cast (ev_int 0) (Option.some.inj h_size_30)) (kx_ _ _ ?_))
    obtain ⟨rg_31, h_rg_31, hf⟩ := bind_some hf
    obtain ⟨tot_39, h_tot_39, hf⟩ := bind_some hf
    refine SB.seqB (fun kx_59 => sb_for (β := Int) (Sx := Int × (List (Int × Int × Unit))) (fun s => [sv pieces_26, sv first_27, sv width_28, .at p_told_29, sv s.1, .any, .any, .any]) (fun s => [ol p_told_29 s.2]) (fun x s => [sv pieces_26, sv first_27, sv width_28, .at p_told_29, sv s.1, sv x, .any, .any]) [5] (fun xs s => forC (m_reaches_L1 pieces_26 width_28) xs s = some tot_39) (size_30, told_29) (IT.m (it_rng2 (ea_cons (ev_op (ev_var (i := 1) rfl) (ev_int 1) r2_add) (ea_cons (ev_op (ev_cb (ea_cons (ev_var (i := 0) rfl) ea_nil) rc_len) (ev_int 1) r2_add) ea_nil)) h_rg_31)) h_tot_39 (.keep (.keep (.keep (.keep (.keep (.keep (.keep (.keep .nil)))))))) (List.Sublist.refl _) (fun x s => (gt_name rfl)) ?_ ?_)
    · intro Kn1 b1 till_34 rest_ s_ hP_36 N_ hN_35
      obtain ⟨size_32, told_33⟩ := s_
      obtain ⟨c_, hc_37, hP_36⟩ := bind_some hP_36
      have q_38 := q.base b1
      unfold m_reaches_L1 at hc_37
      refine SB.is (sl' := [sv pieces_26, sv first_27, sv width_28, .at p_told_29, sv size_32, sv till_34, .any, .any]) (ow1 := [ol p_told_29 told_33]) rfl rfl ?_
      obtain ⟨i_40, h_i_40, hc_37⟩ := bind_some hc_37
      obtain ⟨⟨piece_41, joint_42, _⟩, h_piece_41, hc_37⟩ := bind_some hc_37
      refine SB.seqB (fun kx_ => sb_unp (sl' := [sv pieces_26, sv first_27, sv width_28, .at p_told_29, sv size_32, sv till_34, sv piece_41, sv joint_42]) (EV.cast (ev_op (ev_var (i := 0) rfl) (ev_op (ev_var (i := 5) rfl) (ev_int 1) r2_sub) (r2_ixL h_i_40)) (Option.some.inj h_piece_41)) (gt_tup (gts_cons (gt_name rfl) (gts_cons (gt_name rfl) gts_nil))) (kx_ _ _ ?_))
      obtain ⟨n_43, h_n_43, hc_37⟩ := bind_some hc_37
      obtain ⟨size_44, h_size_44, hc_37⟩ := bind_some hc_37
      refine SB.seqB (fun kx_ => sb_asg (sl' := [sv pieces_26, sv first_27, sv width_28, .at p_told_29, sv size_44, sv till_34, sv piece_41, sv joint_42]) rfl (EV.cast (ev_op (ev_var (i := 4) rfl) (ev_cb (ea_cons (ev_var (i := 6) rfl) ea_nil) (rc_lenS h_n_43)) r2_add) (Option.some.inj h_size_44)) (kx_ _ _ ?_))
      obtain ⟨told_48, hj_45, hc_37⟩ := bind_some hc_37
      refine SB.cutB (sl' := [sv pieces_26, sv first_27, sv width_28, .at p_told_29, sv size_44, sv till_34, sv piece_41, sv joint_42]) (ow1 := [ol p_told_29 told_48]) (fun km_49 => sb_if (b := (decide ((size_44 + (if joint_42 = true then (1 : Int) else 0)) ≤ width_28))) (et_test (ev_op (ev_op (ev_var (i := 4) rfl) (ev_cb (ea_cons (ev_var (i := 7) rfl) ea_nil) rc_intB) r2_add) (ev_var (i := 2) rfl) r2_le)) (fun hb_46 => ?_) (fun hb_46 => ?_)) ?_
      · have hj_45 := ite_t hb_46 hj_45
        obtain ⟨told_47, h_told_47, hj_45⟩ := bind_some hj_45
        refine sb_appO (i := 3) (j := 0) rfl rfl (ev_tup (ea_cons (ev_var (i := 5) rfl) (ea_cons (ev_op (ev_op (ev_var (i := 2) rfl) (ev_var (i := 4) rfl) r2_sub) (ev_cb (ea_cons (ev_var (i := 7) rfl) ea_nil) rc_intB) r2_sub) ea_nil))) h_told_47 (ow1 := [ol p_told_29 told_47]) rfl ?_
        cases hj_45
        exact km_49 _ _ (.keep (.keep (.keep (.keep (.keep (.keep (.keep (.keep .nil)))))))) (List.Sublist.refl _)
      · have hj_45 := ite_f hb_46 hj_45
        refine sb_nx ?_
        cases hj_45
        exact km_49 _ _ (.keep (.keep (.keep (.keep (.keep (.keep (.keep (.keep .nil)))))))) (List.Sublist.refl _)
      refine SB.seqB (fun kx_52 => sb_if (b := (decide (width_28 < size_44))) (et_test (ev_op (ev_var (i := 4) rfl) (ev_var (i := 2) rfl) r2_gt)) (fun hb_51 => ?_) (fun hb_51 => ?_))
      · have hc_37 := ite_t hb_51 hc_37
        cases hc_37
        replace hP_36 : some (Ctl.rt told_48) = some tot_39 := hP_36
        cases hP_36
        replace hf : some told_48 = some r_ := hf
        cases hf
        exact sb_retO (i := 3) (j := 0) rfl rfl q_38 (List.Sublist.cons _ List.Sublist.slnil)
      · have hc_37 := ite_f hb_51 hc_37
        refine sb_nx ?_
        refine kx_52 _ _ ?_
        refine sb_if (b := (!joint_42)) (et_not (et_B (ev_var (i := 7) rfl))) (fun hb_54 => ?_) (fun hb_54 => ?_)
        · have hc_37 := ite_t hb_54 hc_37
          obtain ⟨size_56, h_size_56, hc_37⟩ := bind_some hc_37
          refine sb_asg (sl' := [sv pieces_26, sv first_27, sv width_28, .at p_told_29, sv size_56, sv till_34, sv piece_41, sv joint_42]) rfl (EV.cast (ev_op (ev_var (i := 4) rfl) (ev_int 1) r2_add) (Option.some.inj h_size_56)) ?_
          cases hc_37
          exact fun σ Kn H s => hN_35 _ hP_36 σ Kn H ((s.le (.keep (.keep (.keep (.keep (.keep (.drop (.drop (.drop .nil))))))))).sub (List.Sublist.refl _))
        · have hc_37 := ite_f hb_54 hc_37
          refine sb_nx ?_
          cases hc_37
          exact fun σ Kn H s => hN_35 _ hP_36 σ Kn H ((s.le (.keep (.keep (.keep (.keep (.keep (.drop (.drop (.drop .nil))))))))).sub (List.Sublist.refl _))
    · intro s_ h0
      obtain ⟨size_57, told_58⟩ := s_
      cases h0
      refine kx_59 _ _ ?_
      refine SB.is (sl' := [sv pieces_26, sv first_27, sv width_28, .at p_told_29, sv size_57, .any, .any, .any]) (ow1 := [ol p_told_29 told_58]) rfl rfl ?_
      cases hf
      exact sb_retO (i := 3) (j := 0) rfl rfl q (List.Sublist.cons _ List.Sublist.slnil)
theorem sc_is_barred : FnScope ["pieces", "place", "width", "piece", "joint"] ["pieces", "place", "width"] (defScope s_is_barred) := ⟨rfl, rfl, rfl, by decide +kernel, rfl, by decide +kernel, by decide +kernel⟩
set_option maxHeartbeats 4000000 in
theorem ok_is_barred (T : TX K mg w) : FnOk P w K mg base CX0 1 T.a_is_barred T.d_is_barred ["pieces", "place", "width"] (PF (τ := (List (Str × Bool × Unit)) × Int × Int × Unit) K (fun t => m_is_barred t.1 t.2.1 t.2.2.1)) := by
  refine T.F_is_barred.ok sc_is_barred (fun vs H Q E h => ?_) (fun cdv A outer s H vs Q E hr h => ?_)
  · obtain ⟨Kn, t, r, ek, h, hf, q⟩ := h
    exact Tp.len h
  · obtain ⟨Kn, t, r_, ek, h, hf, q⟩ := h
    obtain ⟨pieces_60, place_61, width_62, u_⟩ := t
    obtain ⟨v_0, rr_, rfl, hv_0, h⟩ := h
    obtain ⟨v_1, rr_, rfl, hv_1, h⟩ := h
    obtain ⟨v_2, rr_, rfl, hv_2, h⟩ := h
    obtain rfl := h
    replace hf : m_is_barred pieces_60 place_61 width_62 = some r_ := hf
    unfold m_is_barred at hf
    refine ⟨_, (pss_cons (ps_asg (pe_ix k_ixl (pv 0) (pv 1) (fun _ _ => rfl)) (kpg_tup (n := 2) (pgs_cons (pg_name (i := 3) sc_is_barred.nd rfl (.inl rfl)) (pgs_cons (pg_name (i := 4) sc_is_barred.nd rfl (.inl rfl)) pgs_nil))))
      (pss_one (ps_ret (pe_cmpR op_gt (pe_op op_add (pe_callB call_len_str (by rfl) T.z_len PySem.boot_len (pa_cons (pv 3) pa_nil)) (pe_callTy call_int1 (by rfl) T.z_int (by decide +kernel) (pa_cons (pv 4) pa_nil))) (pv 2) (nomark _))))), ?_⟩
    refine enter (Kn := Kn) (sl := [sv pieces_60, sv place_61, sv width_62, .any, .any]) ek ⟨⟨v_0, rfl, hv_0⟩, ⟨v_1, rfl, hv_1⟩, ⟨v_2, rfl, hv_2⟩, trivial, trivial, trivial⟩ ?_
    have q := rt_of q
    obtain ⟨i_63, h_i_63, hf⟩ := bind_some hf
    obtain ⟨⟨piece_64, joint_65, _⟩, h_piece_64, hf⟩ := bind_some hf
    refine SB.seqB (fun kx_ => sb_unp (sl' := [sv pieces_60, sv place_61, sv width_62, sv piece_64, sv joint_65]) (EV.cast (ev_op (ev_var (i := 0) rfl) (ev_var (i := 1) rfl) (r2_ixL h_i_63)) (Option.some.inj h_piece_64)) (gt_tup (gts_cons (gt_name rfl) (gts_cons (gt_name rfl) gts_nil))) (kx_ _ _ ?_))
    obtain ⟨n_66, h_n_66, hf⟩ := bind_some hf
    cases hf
    exact sb_ret (ev_op (ev_op (ev_cb (ea_cons (ev_var (i := 3) rfl) ea_nil) (rc_lenS h_n_66)) (ev_cb (ea_cons (ev_var (i := 4) rfl) ea_nil) rc_intB) r2_add) (ev_var (i := 2) rfl) r2_gt) q (List.Sublist.refl _)
theorem sc_put_less : FnScope ["told", "place", "cost"] ["told", "place", "cost"] (defScope s_put_less) := ⟨rfl, rfl, rfl, by decide +kernel, rfl, by decide +kernel, by decide +kernel⟩
set_option maxHeartbeats 4000000 in
theorem ok_put_less (T : TX K mg w) : FnOk P w K mg base CX0 1 T.a_put_less T.d_put_less ["told", "place", "cost"] (PM (τ := Int × Int × Unit) K (fun xs t => m_put_less xs t.1 t.2.1)) := by
  refine T.F_put_less.ok sc_put_less (fun vs H Q E h => ?_) (fun cdv A outer s H vs Q E hr h => ?_)
  · obtain ⟨Kn, p, ws, rest, t, xs, r, xs', rfl, ek, kp, hp, hw, h, hf, q⟩ := h
    show rest.length + 1 = _
    rw [Tp.len h]
    rfl
  · obtain ⟨Kn, p_0, ws, rest, t, told_67, r_, xs_, rfl, ek, kp, hp, hw, h, hf, q⟩ := h
    obtain ⟨place_68, cost_69, u_⟩ := t
    obtain ⟨v_1, rr_, rfl, hv_0, h⟩ := h
    obtain ⟨v_2, rr_, rfl, hv_1, h⟩ := h
    obtain rfl := h
    replace hf : m_put_less told_67 place_68 cost_69 = some (r_, xs_) := hf
    unfold m_put_less at hf
    refine ⟨_, (pss_one (ps_if (PW.pt (pw_or (pt_cmpR op_isN (pe_ix k_ixl (pv 0) (pv 1) (fun _ _ => rfl)) pe_non (nomark _)) (pw_or1 (pt_cmpR op_lt (pv 2) (pe_ix k_ixl (pv 0) (pv 1) (fun _ _ => rfl)) (nomark _))))) (pss_one (ps_asg (pv 2) (pg_sub (pv 0) (pv 1) set_list))) pss_nil)), ?_⟩
    refine enterM (sl := [.at p_0, sv place_68, sv cost_69]) (p := p_0) (xs := told_67) ek kp hp hw ⟨rfl, ⟨v_1, rfl, hv_0⟩, ⟨v_2, rfl, hv_1⟩, trivial⟩ ?_
    have q := rt_ofM kp q
    clear hp hw ek kp
    obtain ⟨i_71, h_i_71, hf⟩ := bind_some hf
    obtain ⟨b_74, h_b_74, hf⟩ := bind_some hf
    refine sb_if (b := b_74) (et_orO h_b_74 (et_test (ev_bor (i := 0) (j := 0) (sl' := [sv told_67, sv place_68, sv cost_69]) (ow1 := []) rfl rfl rfl rfl (ev_op (ev_op (ev_var (i := 0) rfl) (ev_var (i := 1) rfl) (r2_ixL h_i_71)) ev_nn r2_isN))) (fun _ _ h => by obtain ⟨i_72, h_i_72, h⟩ := bind_some h; obtain ⟨s_73, h_s_73, h⟩ := bind_some h; have hz_ := Option.some.inj h; subst hz_; exact (et_test (ev_bor (i := 0) (j := 0) (sl' := [sv told_67, sv place_68, sv cost_69]) (ow1 := []) rfl rfl rfl rfl (ev_op (ev_var (i := 2) rfl) (ev_unopt (ev_op (ev_var (i := 0) rfl) (ev_var (i := 1) rfl) (r2_ixL h_i_72)) h_s_73) r2_lt))))) (fun hb_75 => ?_) (fun hb_75 => ?_)
    · have hf := ite_t hb_75 hf
      obtain ⟨told_77, h_told_77, hf⟩ := bind_some hf
      refine sb_setO (i := 0) (j := 0) rfl rfl (ev_some (ev_var (i := 2) rfl)) (ev_var (i := 1) rfl) h_told_77 (ow1 := [ol p_0 told_77]) rfl ?_
      cases hf
      exact sn_end q (fun _ _ h => h) (List.Sublist.refl _)
    · have hf := ite_f hb_75 hf
      refine sb_nx ?_
      cases hf
      exact sn_end q (fun _ _ h => h) (List.Sublist.refl _)
theorem sc_next_costs : FnScope ["pieces", "joint", "width", "costs", "told", "place", "till", "lack"] ["pieces", "joint", "width", "costs"] (defScope s_next_costs) := ⟨rfl, rfl, rfl, by decide +kernel, rfl, by decide +kernel, by decide +kernel⟩
set_option maxHeartbeats 4000000 in
theorem ok_next_costs (T : TX K mg w) : FnOk P w K mg base CX0 2 T.a_next_costs T.d_next_costs ["pieces", "joint", "width", "costs"] (PL (τ := (List (Str × Bool × Unit)) × Int × Int × (List (Option Int)) × Unit) K (fun t => m_next_costs t.1 t.2.1 t.2.2.1 t.2.2.2.1)) := by
  refine T.F_next_costs.ok sc_next_costs (fun vs H Q E h => ?_) (fun cdv A outer s H vs Q E hr h => ?_)
  · obtain ⟨Kn, t, r, ek, h, hf, q⟩ := h
    exact Tp.len h
  · obtain ⟨Kn, t, r_, ek, h, hf, q⟩ := h
    obtain ⟨pieces_78, joint_79, width_80, costs_81, u_⟩ := t
    obtain ⟨v_0, rr_, rfl, hv_0, h⟩ := h
    obtain ⟨v_1, rr_, rfl, hv_1, h⟩ := h
    obtain ⟨v_2, rr_, rfl, hv_2, h⟩ := h
    obtain ⟨v_3, rr_, rfl, hv_3, h⟩ := h
    obtain rfl := h
    replace hf : m_next_costs pieces_78 joint_79 width_80 costs_81 = some r_ := hf
    unfold m_next_costs at hf
    refine ⟨_, (pss_cons (ps_set (i := 4) sc_next_costs.nd rfl (.inl rfl) (pe_op op_rep (pe_lst (pa_cons pe_non pa_nil)) (pe_op op_add (pe_callB k_len (by rfl) T.z_len PySem.boot_len (pa_cons (pv 0) pa_nil)) pe_int)))
      (pss_cons (ps_for PassesOwn.never rfl (pi_range1 (by rfl) T.z_range (pa_cons (pe_callB k_len (by rfl) T.z_len PySem.boot_len (pa_cons (pv 0) pa_nil)) pa_nil)) (pg_name (i := 5) sc_next_costs.nd rfl (.inl rfl)) (pss_one (ps_if (pt_cmpR op_notN (pe_ix k_ixl (pv 3) (pv 5) (fun _ _ => rfl)) pe_non (nomark _)) (pss_cons (ps_for PassesOwn.never rfl (kpi_list (pe_call (ok_reaches T) hr (by rfl) T.g_reaches T.F_reaches.kp T.b_reaches .nil pass0 (pa_cons (pv 0) (pa_cons (pv 5) (pa_cons (pv 2) pa_nil))))) (kpg_tup (n := 2) (pgs_cons (pg_name (i := 6) sc_next_costs.nd rfl (.inl rfl)) (pgs_cons (pg_name (i := 7) sc_next_costs.nd rfl (.inl rfl)) pgs_nil))) (pss_one (ps_if (pt_cmpR op_lt (pv 6) (pe_callB k_len (by rfl) T.z_len PySem.boot_len (pa_cons (pv 0) pa_nil)) (nomark _)) (pss_one (ps_expr (pe_call (ok_put_less T) hr (by rfl) T.g_put_less T.F_put_less.kp T.b_put_less .nil pass0 (pa_cons (pv 4) (pa_cons (pv 6) (pa_cons (pe_op op_add (pe_op op_add (pe_ix k_ixl (pv 3) (pv 5) (fun _ _ => rfl)) (pe_op op_mul (pv 7) (pv 7))) (pe_op op_mul (pv 1) (pe_callTy call_int1 (by rfl) T.z_int (by decide +kernel) (pa_cons (pe_ix k_ixt (pe_ix k_ixl (pv 0) (pe_op op_sub (pv 6) pe_int) (fun _ _ => rfl)) pe_int (fun _ _ => rfl)) pa_nil)))) pa_nil)))))) pss_nil)))
      (pss_one (ps_if (pt_val (pe_call (ok_is_barred T) hr (by rfl) T.g_is_barred T.F_is_barred.kp T.b_is_barred .nil pass0 (pa_cons (pv 0) (pa_cons (pv 5) (pa_cons (pv 2) pa_nil))))) (pss_one (ps_expr (pe_call (ok_put_less T) hr (by rfl) T.g_put_less T.F_put_less.kp T.b_put_less .nil pass0 (pa_cons (pv 4) (pa_cons (pv 5) (pa_cons (pe_op op_add (pe_ix k_ixl (pv 3) (pv 5) (fun _ _ => rfl)) (pe_op op_mul (pv 2) (pv 2))) pa_nil)))))) pss_nil))) pss_nil)))
      (pss_one (ps_ret (pv 4))))), ?_⟩
    refine enter (Kn := Kn) (sl := [sv pieces_78, sv joint_79, sv width_80, sv costs_81, .any, .any, .any, .any]) ek ⟨⟨v_0, rfl, hv_0⟩, ⟨v_1, rfl, hv_1⟩, ⟨v_2, rfl, hv_2⟩, ⟨v_3, rfl, hv_3⟩, trivial, trivial, trivial, trivial, trivial⟩ ?_
    have q := rn_of q
    obtain ⟨rep_82, h_rep_82, hf⟩ := bind_some hf
    obtain ⟨told_83, h_told_83, hf⟩ := bind_some hf
    refine SB.seqB (fun kx_ => sb_asgO (sl' := fun p_told_83 => [sv pieces_78, sv joint_79, sv width_80, sv costs_81, .at p_told_83, .any, .any, .any]) (fun _ => rfl) (EN.cast (en_op (EN.ev (en_lst (el_cons ev_none el_nil))) (ev_op (ev_cb (ea_cons (ev_var (i := 0) rfl) ea_nil) rc_len) (ev_int 1) r2_add) (r2_repO h_rep_82)) (Option.some.inj h_told_83)) (fun p_told_83 => (kx_ _ _ ?_)))
    obtain ⟨rg_84, h_rg_84, hf⟩ := bind_some hf
    obtain ⟨told_126, h_tot_91, hf⟩ := bind_some hf
    refine SB.seqB (fun kx_127 => sb_for (β := Int) (Sx := (List (Option Int))) (fun s => [sv pieces_78, sv joint_79, sv width_80, sv costs_81, .at p_told_83, .any, .any, .any]) (fun s => [ol p_told_83 s]) (fun x s => [sv pieces_78, sv joint_79, sv width_80, sv costs_81, .at p_told_83, sv x, .any, .any]) [5] (fun xs s => forS (m_next_costs_L1 pieces_78 joint_79 width_80 costs_81) xs s = some told_126) told_83 (IT.m (it_rng1 (ea_cons (ev_cb (ea_cons (ev_var (i := 0) rfl) ea_nil) rc_len) ea_nil) h_rg_84)) h_tot_91 (.keep (.keep (.keep (.keep (.keep (.keep (.keep (.keep .nil)))))))) (List.Sublist.refl _) (fun x s => (gt_name rfl)) ?_ ?_)
    · intro Kn1 b1 place_86 rest_ told_85 hP_88 N_ hN_87
      obtain ⟨c_, hc_89, hP_88⟩ := bind_some hP_88
      have q_90 := q.base b1
      unfold m_next_costs_L1 at hc_89
      refine SB.is (sl' := [sv pieces_78, sv joint_79, sv width_80, sv costs_81, .at p_told_83, sv place_86, .any, .any]) (ow1 := [ol p_told_83 told_85]) rfl rfl ?_
      obtain ⟨i_93, h_i_93, hc_89⟩ := bind_some hc_89
      refine sb_if (b := (i_93.isSome)) (et_test (ev_op (ev_op (ev_var (i := 3) rfl) (ev_var (i := 5) rfl) (r2_ixL h_i_93)) ev_nn r2_notN)) (fun hb_94 => ?_) (fun hb_94 => ?_)
      · have hc_89 := ite_t hb_94 hc_89
        obtain ⟨r_96, h_r_96, hc_89⟩ := bind_some hc_89
        obtain ⟨told_115, h_tot_104, hc_89⟩ := bind_some hc_89
        refine SB.seqB (fun kx_116 => sb_for (β := (Int × Int × Unit)) (Sx := (List (Option Int))) (fun s => [sv pieces_78, sv joint_79, sv width_80, sv costs_81, .at p_told_83, sv place_86, .any, .any]) (fun s => [ol p_told_83 s]) (fun x s => [sv pieces_78, sv joint_79, sv width_80, sv costs_81, .at p_told_83, sv place_86, sv x.1, sv x.2.1]) [6, 7] (fun xs s => forS (m_next_costs_L2 pieces_78 joint_79 costs_81 place_86) xs s = some told_115) told_85 (IT.m (it_list (EN.ev (en_call (ea_cons (ev_var (i := 0) rfl) (ea_cons (ev_var (i := 5) rfl) (ea_cons (ev_var (i := 2) rfl) ea_nil))) h_r_96)))) h_tot_104 (.keep (.keep (.keep (.keep (.keep (.keep (.keep (.keep .nil)))))))) (List.Sublist.refl _) (fun x s => (gt_tup (gts_cons (gt_name rfl) (gts_cons (gt_name rfl) gts_nil)))) ?_ ?_)
        · intro Kn1 b1 x_ rest_ told_97 hP_101 N_ hN_100
          obtain ⟨till_98, lack_99, _⟩ := x_
          obtain ⟨c_, hc_102, hP_101⟩ := bind_some hP_101
          have q_103 := q_90.base b1
          unfold m_next_costs_L2 at hc_102
          refine SB.is (sl' := [sv pieces_78, sv joint_79, sv width_80, sv costs_81, .at p_told_83, sv place_86, sv till_98, sv lack_99]) (ow1 := [ol p_told_83 told_97]) rfl rfl ?_
          refine sb_if (b := (decide (till_98 < (pieces_78.length : Int)))) (et_test (ev_op (ev_var (i := 6) rfl) (ev_cb (ea_cons (ev_var (i := 0) rfl) ea_nil) rc_len) r2_lt)) (fun hb_106 => ?_) (fun hb_106 => ?_)
          · have hc_102 := ite_t hb_106 hc_102
            obtain ⟨i_108, h_i_108, hc_102⟩ := bind_some hc_102
            obtain ⟨m_109, h_m_109, hc_102⟩ := bind_some hc_102
            obtain ⟨s_110, h_s_110, hc_102⟩ := bind_some hc_102
            obtain ⟨i_111, h_i_111, hc_102⟩ := bind_some hc_102
            obtain ⟨m_112, h_m_112, hc_102⟩ := bind_some hc_102
            obtain ⟨⟨r_113, told_114⟩, h_r_113, hc_102⟩ := bind_some hc_102
            refine sb_dropM (em_callM (i := 4) (j := 0) rfl (EA.eam (ea_cons (ev_var (i := 6) rfl) (ea_cons (ev_op (ev_op (ev_unopt (ev_op (ev_var (i := 3) rfl) (ev_var (i := 5) rfl) (r2_ixL h_i_108)) h_s_110) (ev_op (ev_var (i := 7) rfl) (ev_var (i := 7) rfl) (r2_mulO h_m_109)) r2_add) (ev_op (ev_var (i := 1) rfl) (ev_cb (ea_cons (ev_op (ev_op (ev_var (i := 0) rfl) (ev_op (ev_var (i := 6) rfl) (ev_int 1) r2_sub) (r2_ixL h_i_111)) (ev_int 1) (r2_tix (n := 1) (At.s _ (At.z _ _)))) ea_nil) rc_intB) (r2_mulO h_m_112)) r2_add) ea_nil))) rfl h_r_113) ?_
            cases hc_102
            exact fun σ Kn H s => hN_100 _ hP_101 σ Kn H ((s.le (.keep (.keep (.keep (.keep (.keep (.keep (.drop (.drop .nil))))))))).sub (List.Sublist.refl _))
          · have hc_102 := ite_f hb_106 hc_102
            refine sb_nx ?_
            cases hc_102
            exact fun σ Kn H s => hN_100 _ hP_101 σ Kn H ((s.le (.keep (.keep (.keep (.keep (.keep (.keep (.drop (.drop .nil))))))))).sub (List.Sublist.refl _))
        · intro s_ h0
          cases h0
          refine kx_116 _ _ ?_
          refine SB.is (sl' := [sv pieces_78, sv joint_79, sv width_80, sv costs_81, .at p_told_83, sv place_86, .any, .any]) (ow1 := [ol p_told_83 told_115]) rfl rfl ?_
          obtain ⟨r_118, h_r_118, hc_89⟩ := bind_some hc_89
          refine sb_if (b := r_118) (et_B (ev_call (ea_cons (ev_var (i := 0) rfl) (ea_cons (ev_var (i := 5) rfl) (ea_cons (ev_var (i := 2) rfl) ea_nil))) h_r_118)) (fun hb_119 => ?_) (fun hb_119 => ?_)
          · have hc_89 := ite_t hb_119 hc_89
            obtain ⟨i_121, h_i_121, hc_89⟩ := bind_some hc_89
            obtain ⟨m_122, h_m_122, hc_89⟩ := bind_some hc_89
            obtain ⟨s_123, h_s_123, hc_89⟩ := bind_some hc_89
            obtain ⟨⟨r_124, told_125⟩, h_r_124, hc_89⟩ := bind_some hc_89
            refine sb_dropM (em_callM (i := 4) (j := 0) rfl (EA.eam (ea_cons (ev_var (i := 5) rfl) (ea_cons (ev_op (ev_unopt (ev_op (ev_var (i := 3) rfl) (ev_var (i := 5) rfl) (r2_ixL h_i_121)) h_s_123) (ev_op (ev_var (i := 2) rfl) (ev_var (i := 2) rfl) (r2_mulO h_m_122)) r2_add) ea_nil))) rfl h_r_124) ?_
            cases hc_89
            exact fun σ Kn H s => hN_87 _ hP_88 σ Kn H ((s.le (.keep (.keep (.keep (.keep (.keep (.drop (.keep (.keep .nil))))))))).sub (List.Sublist.refl _))
          · have hc_89 := ite_f hb_119 hc_89
            refine sb_nx ?_
            cases hc_89
            exact fun σ Kn H s => hN_87 _ hP_88 σ Kn H ((s.le (.keep (.keep (.keep (.keep (.keep (.drop (.keep (.keep .nil))))))))).sub (List.Sublist.refl _))
      · have hc_89 := ite_f hb_94 hc_89
        refine sb_nx ?_
        cases hc_89
        exact fun σ Kn H s => hN_87 _ hP_88 σ Kn H ((s.le (.keep (.keep (.keep (.keep (.keep (.drop (.keep (.keep .nil))))))))).sub (List.Sublist.refl _))
    · intro s_ h0
      cases h0
      refine kx_127 _ _ ?_
      refine SB.is (sl' := [sv pieces_78, sv joint_79, sv width_80, sv costs_81, .at p_told_83, .any, .any, .any]) (ow1 := [ol p_told_83 told_126]) rfl rfl ?_
      cases hf
      exact sb_retO (i := 4) (j := 0) rfl rfl q (List.Sublist.cons _ List.Sublist.slnil)
theorem sc_table_of : FnScope ["words", "joint", "widths", "many", "pieces", "table", "row"] ["words", "joint", "widths", "many"] (defScope s_table_of) := ⟨rfl, rfl, rfl, by decide +kernel, rfl, by decide +kernel, by decide +kernel⟩
set_option maxHeartbeats 4000000 in
theorem ok_table_of (T : TX K mg w) : FnOk P w K mg base CX0 3 T.a_table_of T.d_table_of ["words", "joint", "widths", "many"] (PGr (τ := (Tu (Tu Str)) × Int × (List Int) × Int × Unit) K (fun t => m_table_of t.1 t.2.1 t.2.2.1 t.2.2.2.1)) := by
  refine T.F_table_of.ok sc_table_of (fun vs H Q E h => ?_) (fun cdv A outer s H vs Q E hr h => ?_)
  · obtain ⟨Kn, t, r, ek, h, hf, q⟩ := h
    exact Tp.len h
  · obtain ⟨Kn, t, r_, ek, h, hf, q⟩ := h
    obtain ⟨words_128, joint_129, widths_130, many_131, u_⟩ := t
    obtain ⟨v_0, rr_, rfl, hv_0, h⟩ := h
    obtain ⟨v_1, rr_, rfl, hv_1, h⟩ := h
    obtain ⟨v_2, rr_, rfl, hv_2, h⟩ := h
    obtain ⟨v_3, rr_, rfl, hv_3, h⟩ := h
    obtain rfl := h
    replace hf : m_table_of words_128 joint_129 widths_130 many_131 = some r_ := hf
    unfold m_table_of at hf
    refine ⟨_, (pss_cons (ps_set (i := 4) sc_table_of.nd rfl (.inl rfl) (pe_call (ok_flat T) (hr.mono (by decide)) (by rfl) T.g_flat T.F_flat.kp T.b_flat .nil pass0 (pa_cons (pv 0) pa_nil)))
      (pss_cons (ps_set (i := 5) sc_table_of.nd rfl (.inl rfl) (pe_lst (pa_cons (pe_op op_cat (pe_lst (pa_cons pe_int pa_nil)) (pe_op op_rep (pe_lst (pa_cons pe_non pa_nil)) (pe_callB k_len (by rfl) T.z_len PySem.boot_len (pa_cons (pv 4) pa_nil)))) pa_nil)))
      (pss_cons (ps_for PassesOwn.never rfl (pi_range1 (by rfl) T.z_range (pa_cons (pv 3) pa_nil)) (pg_name (i := 6) sc_table_of.nd rfl (.inl rfl)) (pss_one (ps_expr (pe_bm PySem.F.plainAttrs_list PySem.F.slot_list_append PySem.F.type_list_append mt_append (pv 5) (pa_cons (pe_call (ok_next_costs T) hr (by rfl) T.g_next_costs T.F_next_costs.kp T.b_next_costs .nil pass0 (pa_cons (pv 4) (pa_cons (pv 1) (pa_cons (pe_call (ok_width_at T) (hr.mono (by decide)) (by rfl) T.g_width_at T.F_width_at.kp T.b_width_at .nil pass0 (pa_cons (pv 2) (pa_cons (pv 6) pa_nil))) (pa_cons (pe_ix k_ixl (pv 5) (pv 6) (fun _ _ => rfl)) pa_nil))))) pa_nil)))))
      (pss_one (ps_ret (pv 5)))))), ?_⟩
    refine enter (Kn := Kn) (sl := [sv words_128, sv joint_129, sv widths_130, sv many_131, .any, .any, .any]) ek ⟨⟨v_0, rfl, hv_0⟩, ⟨v_1, rfl, hv_1⟩, ⟨v_2, rfl, hv_2⟩, ⟨v_3, rfl, hv_3⟩, trivial, trivial, trivial, trivial⟩ ?_
    have q := rgr_of q
    obtain ⟨r_132, h_r_132, hf⟩ := bind_some hf
    obtain ⟨pieces_133, h_pieces_133, hf⟩ := bind_some hf
    refine SB.seqB (fun kx_ => sb_asg (sl' := [sv words_128, sv joint_129, sv widths_130, sv many_131, sv pieces_133, .any, .any]) rfl (EV.cast (EN.ev (en_call (ea_cons (ev_var (i := 0) rfl) ea_nil) h_r_132)) (Option.some.inj h_pieces_133)) (kx_ _ _ ?_))
    obtain ⟨rep_134, h_rep_134, hf⟩ := bind_some hf
    obtain ⟨cat_135, h_cat_135, hf⟩ := bind_some hf
    obtain ⟨table_136, h_table_136, hf⟩ := bind_some hf
    refine SB.seqB (fun kx_ => sb_asgQ2 (sl' := fun p_table_136 => [sv words_128, sv joint_129, sv widths_130, sv many_131, sv pieces_133, .at p_table_136, .any]) (fun _ => rfl) (EQ2.cast (eq_one (en_op (EN.ev (en_lst (el_cons (ev_some (ev_int 0)) el_nil))) (EN.ev (en_op (EN.ev (en_lst (el_cons ev_none el_nil))) (ev_cb (ea_cons (ev_var (i := 4) rfl) ea_nil) rc_len) (r2_repO h_rep_134))) (r2_catO h_cat_135))) (Option.some.inj h_table_136)) (fun p_table_136 ps_table_136 => (kx_ _ _ ?_)))
    obtain ⟨rg_137, h_rg_137, hf⟩ := bind_some hf
    obtain ⟨table_150, h_tot_145, hf⟩ := bind_some hf
    refine SB.seqB (fun kx_151 => sb_for (β := Int) (Sx := (Nat → Addr) × (List (List (Option Int)))) (fun s => [sv words_128, sv joint_129, sv widths_130, sv many_131, sv pieces_133, .at p_table_136, .any]) (fun s => ([] ++ gridO p_table_136 s.1 s.2)) (fun x s => [sv words_128, sv joint_129, sv widths_130, sv many_131, sv pieces_133, .at p_table_136, sv x]) [6] (fun xs s => forS (m_table_of_L1 joint_129 widths_130 pieces_133) xs s.2 = some table_150) (ps_table_136, table_136) (IT.m (it_rng1 (ea_cons (ev_var (i := 3) rfl) ea_nil) h_rg_137)) h_tot_145 (.keep (.keep (.keep (.keep (.keep (.keep (.keep .nil))))))) (List.Sublist.refl _) (fun x s => (gt_name rfl)) ?_ ?_)
    · intro Kn1 b1 row_140 rest_ s_ hP_142 N_ hN_141
      obtain ⟨qs_138, table_139⟩ := s_
      replace hP_142 : forS (m_table_of_L1 joint_129 widths_130 pieces_133) (_ :: rest_) table_139 = some table_150 := hP_142
      obtain ⟨c_, hc_143, hP_142⟩ := bind_some hP_142
      have q_144 := q.base b1
      unfold m_table_of_L1 at hc_143
      refine SB.is (sl' := [sv words_128, sv joint_129, sv widths_130, sv many_131, sv pieces_133, .at p_table_136, sv row_140]) (ow1 := ([] ++ gridO p_table_136 qs_138 table_139)) rfl rfl ?_
      obtain ⟨r_146, h_r_146, hc_143⟩ := bind_some hc_143
      obtain ⟨i_147, h_i_147, hc_143⟩ := bind_some hc_143
      obtain ⟨r_148, h_r_148, hc_143⟩ := bind_some hc_143
      obtain ⟨table_149, h_table_149, hc_143⟩ := bind_some hc_143
      refine sb_appQ (i := 5) (base := []) rfl rfl (en_borQ (i := 5) (base := []) (sl' := [sv words_128, sv joint_129, sv widths_130, sv many_131, sv pieces_133, sv table_139, sv row_140]) rfl rfl rfl (en_call (ea_cons (ev_var (i := 4) rfl) (ea_cons (ev_var (i := 1) rfl) (ea_cons (ev_call (ea_cons (ev_var (i := 2) rfl) (ea_cons (ev_var (i := 6) rfl) ea_nil)) h_r_146) (ea_cons (ev_op (ev_var (i := 5) rfl) (ev_var (i := 6) rfl) (r2_ixL h_i_147)) ea_nil)))) h_r_148)) h_table_149 (fun qs_table_149 => ?_)
      cases hc_143
      exact fun σ Kn H s => hN_141 (qs_table_149, _) hP_142 σ Kn H ((s.le (.keep (.keep (.keep (.keep (.keep (.keep (.drop .nil)))))))).sub (List.Sublist.refl _))
    · intro s_ h0
      obtain ⟨qs_138, s_⟩ := s_
      replace h0 : some s_ = some table_150 := h0
      cases h0
      refine kx_151 _ _ ?_
      refine SB.is (sl' := [sv words_128, sv joint_129, sv widths_130, sv many_131, sv pieces_133, .at p_table_136, .any]) (ow1 := ([] ++ gridO p_table_136 qs_138 table_150)) rfl rfl ?_
      cases hf
      exact sb_retGr (i := 5) (base := []) rfl rfl q
theorem sc__law_cell_at : FnScope ["_law_script", "_law_k"] ["_law_script", "_law_k"] (defScope s__law_cell_at) := ⟨rfl, rfl, rfl, by decide +kernel, rfl, by decide +kernel, by decide +kernel⟩
set_option maxHeartbeats 4000000 in
theorem ok__law_cell_at (T : TX K mg w) : FnOk P w K mg base CX0 1 T.a__law_cell_at T.d__law_cell_at ["_law_script", "_law_k"] (PF (τ := (Fz Int) × Int × Unit) K (fun t => m__law_cell_at t.1 t.2.1)) := by
  refine T.F__law_cell_at.ok sc__law_cell_at (fun vs H Q E h => ?_) (fun cdv A outer s H vs Q E hr h => ?_)
  · obtain ⟨Kn, t, r, ek, h, hf, q⟩ := h
    exact Tp.len h
  · obtain ⟨Kn, t, r_, ek, h, hf, q⟩ := h
    obtain ⟨script_152, k_153, u_⟩ := t
    obtain ⟨v_0, rr_, rfl, hv_0, h⟩ := h
    obtain ⟨v_1, rr_, rfl, hv_1, h⟩ := h
    obtain rfl := h
    replace hf : m__law_cell_at script_152 k_153 = some r_ := hf
    unfold m__law_cell_at at hf
    refine ⟨_, (pss_cons (ps_if (pt_cmpR op_lt (pv 1) (pe_callB k_len (by rfl) T.z_len PySem.boot_len (pa_cons (pv 0) pa_nil)) (nomark _)) (pss_one (ps_ret (pe_ix k_ixl (pv 0) (pv 1) (fun _ _ => rfl)))) pss_nil)
      (pss_one (ps_ret pe_int))), ?_⟩
    refine enter (Kn := Kn) (sl := [sv script_152, sv k_153]) ek ⟨⟨v_0, rfl, hv_0⟩, ⟨v_1, rfl, hv_1⟩, trivial⟩ ?_
    have q := rt_of q
    refine SB.seqB (fun kx_156 => sb_if (b := (decide (k_153 < (script_152.l.length : Int)))) (et_test (ev_op (ev_var (i := 1) rfl) (ev_cb (ea_cons (ev_var (i := 0) rfl) ea_nil) rc_lenF) r2_lt)) (fun hb_155 => ?_) (fun hb_155 => ?_))
    · have hf := ite_t hb_155 hf
      obtain ⟨i_157, h_i_157, hf⟩ := bind_some hf
      cases hf
      exact sb_ret (ev_op (ev_var (i := 0) rfl) (ev_var (i := 1) rfl) (r2_ixF h_i_157)) q (List.Sublist.refl _)
    · have hf := ite_f hb_155 hf
      refine sb_nx ?_
      refine kx_156 _ _ ?_
      cases hf
      exact sb_ret (ev_int 0) q (List.Sublist.refl _)
theorem sc__law_numbers : FnScope ["_law_cell", "_law_many", "_law_found", "_law_number", "_law_k"] ["_law_cell", "_law_many"] (defScope s__law_numbers) := ⟨rfl, rfl, rfl, by decide +kernel, rfl, by decide +kernel, by decide +kernel⟩
set_option maxHeartbeats 4000000 in
theorem ok__law_numbers (T : TX K mg w) : FnOk P w K mg base CX0 1 T.a__law_numbers T.d__law_numbers ["_law_cell", "_law_many"] (PL (τ := Int × Int × Unit) K (fun t => m__law_numbers t.1 t.2.1)) := by
  refine T.F__law_numbers.ok sc__law_numbers (fun vs H Q E h => ?_) (fun cdv A outer s H vs Q E hr h => ?_)
  · obtain ⟨Kn, t, r, ek, h, hf, q⟩ := h
    exact Tp.len h
  · obtain ⟨Kn, t, r_, ek, h, hf, q⟩ := h
    obtain ⟨cell_158, many_159, u_⟩ := t
    obtain ⟨v_0, rr_, rfl, hv_0, h⟩ := h
    obtain ⟨v_1, rr_, rfl, hv_1, h⟩ := h
    obtain rfl := h
    replace hf : m__law_numbers cell_158 many_159 = some r_ := hf
    unfold m__law_numbers at hf
    refine ⟨_, (pss_cons (ps_set (i := 2) sc__law_numbers.nd rfl (.inl rfl) (pe_lst pa_nil))
      (pss_cons (ps_set (i := 3) sc__law_numbers.nd rfl (.inl rfl) (pe_op op_sub (pv 0) (pe_op op_pow pe_int pe_int)))
      (pss_cons (ps_if (pt_cmpR op_ge (pv 3) pe_int (nomark _)) (pss_cons (ps_for PassesOwn.never rfl (pi_range1 (by rfl) T.z_range (pa_cons (pv 1) pa_nil)) (pg_name (i := 4) sc__law_numbers.nd rfl (.inl rfl)) (pss_cons (ps_expr (pe_bm PySem.F.plainAttrs_list PySem.F.slot_list_append PySem.F.type_list_append mt_append (pv 2) (pa_cons (pe_op op_mod (pv 3) pe_int) pa_nil)))
      (pss_one (ps_set (i := 3) sc__law_numbers.nd rfl (.inl rfl) (pe_op op_fdiv (pv 3) pe_int)))))
      (pss_one (ps_ret (pv 2)))) pss_nil)
      (pss_cons (ps_set (i := 3) sc__law_numbers.nd rfl (.inl rfl) (pe_op op_mod (pv 0) pe_int))
      (pss_cons (ps_for PassesOwn.never rfl (pi_range1 (by rfl) T.z_range (pa_cons (pe_op op_add (pv 1) pe_int) pa_nil)) (pg_name (i := 4) sc__law_numbers.nd rfl (.inl rfl)) (pss_cons (ps_set (i := 3) sc__law_numbers.nd rfl (.inl rfl) (pe_op op_mod (pe_op op_mul (pe_op op_add (pe_op op_add (pv 3) (pv 4)) pe_int) pe_int) pe_int))
      (pss_one (ps_expr (pe_bm PySem.F.plainAttrs_list PySem.F.slot_list_append PySem.F.type_list_append mt_append (pv 2) (pa_cons (pe_op op_mod (pe_op op_mul (pv 3) pe_int) pe_int) pa_nil))))))
      (pss_one (ps_ret (pe_slice k_sll (pv 2) (po_some pe_int) po_none)))))))), ?_⟩
    refine enter (Kn := Kn) (sl := [sv cell_158, sv many_159, .any, .any, .any]) ek ⟨⟨v_0, rfl, hv_0⟩, ⟨v_1, rfl, hv_1⟩, trivial, trivial, trivial, trivial⟩ ?_
    have q := rn_of q
    obtain ⟨found_160, h_found_160, hf⟩ := bind_some hf
    refine SB.seqB (fun kx_ => sb_asgO (sl' := fun p_found_160 => [sv cell_158, sv many_159, .at p_found_160, .any, .any]) (fun _ => rfl) (EN.cast (en_lst el_nil) (Option.some.inj h_found_160)) (fun p_found_160 => (kx_ _ _ ?_)))
    obtain ⟨number_161, h_number_161, hf⟩ := bind_some hf
    refine SB.seqB (fun kx_ => sb_asg (sl' := [sv cell_158, sv many_159, .at p_found_160, sv number_161, .any]) rfl (EV.cast (ev_op (ev_var (i := 0) rfl) (ev_op (ev_int 10) (ev_int 18) (r2_pow (r := 1000000000000000000))) r2_sub) (Option.some.inj h_number_161)) (kx_ _ _ ?_))
    refine SB.seqB (fun kx_164 => sb_if (b := (decide ((0 : Int) ≤ number_161))) (et_test (ev_op (ev_var (i := 3) rfl) (ev_int 0) r2_ge)) (fun hb_163 => ?_) (fun hb_163 => ?_))
    · have hf := ite_t hb_163 hf
      obtain ⟨rg_165, h_rg_165, hf⟩ := bind_some hf
      obtain ⟨⟨number_176, found_177⟩, h_tot_173, hf⟩ := bind_some hf
      refine SB.seqB (fun kx_178 => sb_for (β := Int) (Sx := Int × (List Int)) (fun s => [sv cell_158, sv many_159, .at p_found_160, sv s.1, .any]) (fun s => [ol p_found_160 s.2]) (fun x s => [sv cell_158, sv many_159, .at p_found_160, sv s.1, sv x]) [4] (fun xs s => forS (m__law_numbers_L1) xs s = some (number_176, found_177)) (number_161, found_160) (IT.m (it_rng1 (ea_cons (ev_var (i := 1) rfl) ea_nil) h_rg_165)) h_tot_173 (.keep (.keep (.keep (.keep (.keep .nil))))) (List.Sublist.refl _) (fun x s => (gt_name rfl)) ?_ ?_)
      · intro Kn1 b1 k_168 rest_ s_ hP_170 N_ hN_169
        obtain ⟨number_166, found_167⟩ := s_
        obtain ⟨c_, hc_171, hP_170⟩ := bind_some hP_170
        have q_172 := q.base b1
        unfold m__law_numbers_L1 at hc_171
        refine SB.is (sl' := [sv cell_158, sv many_159, .at p_found_160, sv number_166, sv k_168]) (ow1 := [ol p_found_160 found_167]) rfl rfl ?_
        obtain ⟨found_174, h_found_174, hc_171⟩ := bind_some hc_171
        refine SB.seqB (fun kx_ => sb_appO (i := 2) (j := 0) rfl rfl (ev_op (ev_var (i := 3) rfl) (ev_int 5040) r2_mod) h_found_174 (ow1 := [ol p_found_160 found_174]) rfl (kx_ _ _ ?_))
        obtain ⟨number_175, h_number_175, hc_171⟩ := bind_some hc_171
        refine sb_asg (sl' := [sv cell_158, sv many_159, .at p_found_160, sv number_175, sv k_168]) rfl (EV.cast (ev_op (ev_var (i := 3) rfl) (ev_int 5040) r2_div) (Option.some.inj h_number_175)) ?_
        cases hc_171
        exact fun σ Kn H s => hN_169 _ hP_170 σ Kn H ((s.le (.keep (.keep (.keep (.keep (.drop .nil)))))).sub (List.Sublist.refl _))
      · intro s_ h0
        cases h0
        refine kx_178 _ _ ?_
        refine SB.is (sl' := [sv cell_158, sv many_159, .at p_found_160, sv number_176, .any]) (ow1 := [ol p_found_160 found_177]) rfl rfl ?_
        cases hf
        exact sb_retO (i := 2) (j := 0) rfl rfl q (List.Sublist.cons _ List.Sublist.slnil)
    · have hf := ite_f hb_163 hf
      refine sb_nx ?_
      refine kx_164 _ _ ?_
      obtain ⟨number_179, h_number_179, hf⟩ := bind_some hf
      refine SB.seqB (fun kx_ => sb_asg (sl' := [sv cell_158, sv many_159, .at p_found_160, sv number_179, .any]) rfl (EV.cast (ev_op (ev_var (i := 0) rfl) (ev_int 2147483647) r2_mod) (Option.some.inj h_number_179)) (kx_ _ _ ?_))
      obtain ⟨rg_180, h_rg_180, hf⟩ := bind_some hf
      obtain ⟨⟨number_191, found_192⟩, h_tot_188, hf⟩ := bind_some hf
      refine SB.seqB (fun kx_193 => sb_for (β := Int) (Sx := Int × (List Int)) (fun s => [sv cell_158, sv many_159, .at p_found_160, sv s.1, .any]) (fun s => [ol p_found_160 s.2]) (fun x s => [sv cell_158, sv many_159, .at p_found_160, sv s.1, sv x]) [4] (fun xs s => forS (m__law_numbers_L2) xs s = some (number_191, found_192)) (number_179, found_160) (IT.m (it_rng1 (ea_cons (ev_op (ev_var (i := 1) rfl) (ev_int 1) r2_add) ea_nil) h_rg_180)) h_tot_188 (.keep (.keep (.keep (.keep (.keep .nil))))) (List.Sublist.refl _) (fun x s => (gt_name rfl)) ?_ ?_)
      · intro Kn1 b1 k_183 rest_ s_ hP_185 N_ hN_184
        obtain ⟨number_181, found_182⟩ := s_
        obtain ⟨c_, hc_186, hP_185⟩ := bind_some hP_185
        have q_187 := q.base b1
        unfold m__law_numbers_L2 at hc_186
        refine SB.is (sl' := [sv cell_158, sv many_159, .at p_found_160, sv number_181, sv k_183]) (ow1 := [ol p_found_160 found_182]) rfl rfl ?_
        obtain ⟨number_189, h_number_189, hc_186⟩ := bind_some hc_186
        refine SB.seqB (fun kx_ => sb_asg (sl' := [sv cell_158, sv many_159, .at p_found_160, sv number_189, sv k_183]) rfl (EV.cast (ev_op (ev_op (ev_op (ev_op (ev_var (i := 3) rfl) (ev_var (i := 4) rfl) r2_add) (ev_int 1) r2_add) (ev_int 48271) r2_mulr) (ev_int 2147483647) r2_mod) (Option.some.inj h_number_189)) (kx_ _ _ ?_))
        obtain ⟨found_190, h_found_190, hc_186⟩ := bind_some hc_186
        refine sb_appO (i := 2) (j := 0) rfl rfl (ev_op (ev_op (ev_var (i := 3) rfl) (ev_int 69621) r2_mulr) (ev_int 2147483629) r2_mod) h_found_190 (ow1 := [ol p_found_160 found_190]) rfl ?_
        cases hc_186
        exact fun σ Kn H s => hN_184 _ hP_185 σ Kn H ((s.le (.keep (.keep (.keep (.keep (.drop .nil)))))).sub (List.Sublist.refl _))
      · intro s_ h0
        cases h0
        refine kx_193 _ _ ?_
        refine SB.is (sl' := [sv cell_158, sv many_159, .at p_found_160, sv number_191, .any]) (ow1 := [ol p_found_160 found_192]) rfl rfl ?_
        refine sb_freeze (i := 2) (j := 0) (sl' := [sv cell_158, sv many_159, sv found_192, sv number_191, .any]) (ow1 := []) rfl rfl rfl rfl ?_
        cases hf
        exact sb_retL (en_sl (ev_var (i := 2) rfl) (eo_some (ev_int 1)) eo_none) q (List.Sublist.refl _)
theorem sc__law_words : FnScope ["_law_cells", "_law_words_here", "_law_word", "_law_cell", "_law_some"] ["_law_cells"] (defScope s__law_words) := ⟨rfl, rfl, rfl, by decide +kernel, rfl, by decide +kernel, by decide +kernel⟩
set_option maxHeartbeats 4000000 in
theorem ok__law_words (T : TX K mg w) : FnOk P w K mg base CX0 2 T.a__law_words T.d__law_words ["_law_cells"] (PF (τ := (List Int) × Unit) K (fun t => m__law_words t.1)) := by
  refine T.F__law_words.ok sc__law_words (fun vs H Q E h => ?_) (fun cdv A outer s H vs Q E hr h => ?_)
  · obtain ⟨Kn, t, r, ek, h, hf, q⟩ := h
    exact Tp.len h
  · obtain ⟨Kn, t, r_, ek, h, hf, q⟩ := h
    obtain ⟨cells_194, u_⟩ := t
    obtain ⟨v_0, rr_, rfl, hv_0, h⟩ := h
    obtain rfl := h
    replace hf : m__law_words cells_194 = some r_ := hf
    unfold m__law_words at hf
    refine ⟨_, (pss_cons (ps_set (i := 1) sc__law_words.nd rfl (.inl rfl) (pe_lst pa_nil))
      (pss_cons (ps_set (i := 2) sc__law_words.nd rfl (.inl rfl) (pe_lst pa_nil))
      (pss_cons (ps_for PassesOwn.never rfl (kpi_list (pv 0)) (pg_name (i := 3) sc__law_words.nd rfl (.inl rfl)) (pss_cons (ps_set (i := 4) sc__law_words.nd rfl (.inl rfl) (pe_call (ok__law_numbers T) hr (by rfl) T.g__law_numbers T.F__law_numbers.kp T.b__law_numbers .nil pass0 (pa_cons (pv 3) (pa_cons pe_int pa_nil))))
      (pss_cons (ps_expr (pe_bm PySem.F.plainAttrs_list PySem.F.slot_list_append PySem.F.type_list_append mt_append (pv 2) (pa_cons (pe_slice sl_str pe_str po_none (po_some (pe_op op_add pe_int (pe_op op_mod (pe_ix k_ixl (pv 4) pe_int (fun _ _ => rfl)) pe_int)))) pa_nil)))
      (pss_one (ps_if (PW.pt (pw_or (pt_cmpR op_eq (pe_op op_mod (pe_ix k_ixl (pv 4) pe_int (fun _ _ => rfl)) pe_int) pe_int (nomark _)) (pw_or1 (pt_cmpR op_eq (pe_callB k_len (by rfl) T.z_len PySem.boot_len (pa_cons (pv 2) pa_nil)) pe_int (nomark _))))) (pss_cons (ps_expr (pe_bm PySem.F.plainAttrs_list PySem.F.slot_list_append PySem.F.type_list_append mt_append (pv 1) (pa_cons (pe_callTy k_tuple (by rfl) T.z_tuple (by decide +kernel) (pa_cons (pv 2) pa_nil)) pa_nil)))
      (pss_one (ps_set (i := 2) sc__law_words.nd rfl (.inl rfl) (pe_lst pa_nil)))) pss_nil)))))
      (Evl.pss_cut (ps_if (pt_cmpR op_gt (pe_callB k_len (by rfl) T.z_len PySem.boot_len (pa_cons (pv 2) pa_nil)) pe_int (nomark _)) (pss_one (ps_expr (pe_bm PySem.F.plainAttrs_list PySem.F.slot_list_append PySem.F.type_list_append mt_append (pv 1) (pa_cons (pe_callTy k_tuple (by rfl) T.z_tuple (by decide +kernel) (pa_cons (pv 2) pa_nil)) pa_nil)))) pss_nil)
      (pss_one (ps_ret (pe_callTy k_tuple (by rfl) T.z_tuple (by decide +kernel) (pa_cons (pv 1) pa_nil)))))))), ?_⟩
    refine enter (Kn := Kn) (sl := [sv cells_194, .any, .any, .any, .any]) ek ⟨⟨v_0, rfl, hv_0⟩, trivial, trivial, trivial, trivial, trivial⟩ ?_
    have q := rt_of q
    obtain ⟨words_here_195, h_words_here_195, hf⟩ := bind_some hf
    refine SB.seqB (fun kx_ => sb_asgO (sl' := fun p_words_here_195 => [sv cells_194, .at p_words_here_195, .any, .any, .any]) (fun _ => rfl) (EN.cast (en_lst el_nil) (Option.some.inj h_words_here_195)) (fun p_words_here_195 => (kx_ _ _ ?_)))
    obtain ⟨word_196, h_word_196, hf⟩ := bind_some hf
    refine SB.seqB (fun kx_ => sb_asgO (sl' := fun p_word_196 => [sv cells_194, .at p_words_here_195, .at p_word_196, .any, .any]) (fun _ => rfl) (EN.cast (en_lst el_nil) (Option.some.inj h_word_196)) (fun p_word_196 => (kx_ _ _ ?_)))
    obtain ⟨⟨word_217, words_here_218⟩, h_tot_205, hf⟩ := bind_some hf
    refine SB.seqB (fun kx_219 => sb_for (β := Int) (Sx := Addr × (List Str) × (List (Tu Str))) (fun s => [sv cells_194, .at p_words_here_195, .at s.1, .any, .any]) (fun s => [ol s.1 s.2.1, ol p_words_here_195 s.2.2]) (fun x s => [sv cells_194, .at p_words_here_195, .at s.1, sv x, .any]) [3] (fun xs s => forS (m__law_words_L1) xs s.2 = some (word_217, words_here_218)) (p_word_196, word_196, words_here_195) (IT.m (it_list (ev_var (i := 0) rfl))) h_tot_205 (.keep (.keep (.keep (.keep (.keep .nil))))) (List.Sublist.refl _) (fun x s => (gt_name rfl)) ?_ ?_)
    · intro Kn1 b1 cell_200 rest_ s_ hP_202 N_ hN_201
      obtain ⟨pa_197, word_198, words_here_199⟩ := s_
      replace hP_202 : forS (m__law_words_L1) (_ :: rest_) (word_198, words_here_199) = some (word_217, words_here_218) := hP_202
      obtain ⟨c_, hc_203, hP_202⟩ := bind_some hP_202
      have q_204 := q.base b1
      unfold m__law_words_L1 at hc_203
      refine SB.is (sl' := [sv cells_194, .at p_words_here_195, .at pa_197, sv cell_200, .any]) (ow1 := [ol pa_197 word_198, ol p_words_here_195 words_here_199]) rfl rfl ?_
      obtain ⟨r_206, h_r_206, hc_203⟩ := bind_some hc_203
      obtain ⟨some_207, h_some_207, hc_203⟩ := bind_some hc_203
      refine SB.seqB (fun kx_ => sb_asg (sl' := [sv cells_194, .at p_words_here_195, .at pa_197, sv cell_200, sv some_207]) rfl (EV.cast (EN.ev (en_call (ea_cons (ev_var (i := 3) rfl) (ea_cons (ev_int 2) ea_nil)) h_r_206)) (Option.some.inj h_some_207)) (kx_ _ _ ?_))
      obtain ⟨i_208, h_i_208, hc_203⟩ := bind_some hc_203
      obtain ⟨cs_209, h_cs_209, hc_203⟩ := bind_some hc_203
      obtain ⟨word_210, h_word_210, hc_203⟩ := bind_some hc_203
      refine SB.seqB (fun kx_ => sb_appO (i := 2) (j := 0) rfl rfl (ev_slS (ev_str ("abcde" : Str)) eo_none (eo_some (ev_op (ev_int 1) (ev_op (ev_op (ev_var (i := 4) rfl) (ev_int 0) (r2_ixL h_i_208)) (ev_int 5) r2_mod) r2_add)) h_cs_209) h_word_210 (ow1 := [ol pa_197 word_210, ol p_words_here_195 words_here_199]) rfl (kx_ _ _ ?_))
      obtain ⟨i_212, h_i_212, hc_203⟩ := bind_some hc_203
      refine sb_if (b := ((decide ((i_212 % (2 : Int)) = (0 : Int))) || (decide ((word_210.length : Int) = (3 : Int))))) (et_or (et_test (ev_op (ev_op (ev_op (ev_var (i := 4) rfl) (ev_int 1) (r2_ixL h_i_212)) (ev_int 2) r2_mod) (ev_int 0) r2_eqI)) (fun _ => (et_test (ev_bor (i := 2) (j := 0) (sl' := [sv cells_194, .at p_words_here_195, sv word_210, sv cell_200, sv some_207]) (ow1 := [ol p_words_here_195 words_here_199]) rfl rfl rfl rfl (ev_op (ev_cb (ea_cons (ev_var (i := 2) rfl) ea_nil) rc_len) (ev_int 3) r2_eqI))))) (fun hb_213 => ?_) (fun hb_213 => ?_)
      · have hc_203 := ite_t hb_213 hc_203
        obtain ⟨words_here_215, h_words_here_215, hc_203⟩ := bind_some hc_203
        refine SB.seqB (fun kx_ => sb_appO (i := 1) (j := 1) rfl rfl (ev_tupleO (i := 2) (j := 0) rfl rfl) h_words_here_215 (ow1 := [ol pa_197 word_210, ol p_words_here_195 words_here_215]) rfl (kx_ _ _ ?_))
        obtain ⟨word_216, h_word_216, hc_203⟩ := bind_some hc_203
        refine sb_asgO (sl' := fun p_word_216 => [sv cells_194, .at p_words_here_195, .at p_word_216, sv cell_200, sv some_207]) (fun _ => rfl) (EN.cast (en_lst el_nil) (Option.some.inj h_word_216)) (fun p_word_216 => ?_)
        cases hc_203
        exact fun σ Kn H s => hN_201 (p_word_216, word_216, words_here_215) hP_202 σ Kn H ((s.le (.keep (.keep (.keep (.drop (.drop .nil)))))).sub (List.Sublist.cons_cons _ (List.Sublist.cons _ (List.Sublist.cons_cons _ List.Sublist.slnil))))
      · have hc_203 := ite_f hb_213 hc_203
        refine sb_nx ?_
        cases hc_203
        exact fun σ Kn H s => hN_201 (pa_197, word_210, words_here_199) hP_202 σ Kn H ((s.le (.keep (.keep (.keep (.drop (.drop .nil)))))).sub (List.Sublist.refl _))
    · intro s_ h0
      obtain ⟨pa_197, s_⟩ := s_
      replace h0 : some s_ = some (word_217, words_here_218) := h0
      cases h0
      refine kx_219 _ _ ?_
      refine SB.is (sl' := [sv cells_194, .at p_words_here_195, .at pa_197, .any, .any]) (ow1 := [ol pa_197 word_217, ol p_words_here_195 words_here_218]) rfl rfl ?_
      refine sb_freeze (i := 2) (j := 0) (sl' := [sv cells_194, .at p_words_here_195, sv word_217, .any, .any]) (ow1 := [ol p_words_here_195 words_here_218]) rfl rfl rfl rfl ?_
      obtain ⟨words_here_223, hj_220, hf⟩ := bind_some hf
      refine SB.cutB (sl' := [sv cells_194, .at p_words_here_195, sv word_217, .any, .any]) (ow1 := [ol p_words_here_195 words_here_223]) (fun km_224 => sb_if (b := (decide ((0 : Int) < (word_217.length : Int)))) (et_test (ev_op (ev_cb (ea_cons (ev_var (i := 2) rfl) ea_nil) rc_len) (ev_int 0) r2_gt)) (fun hb_221 => ?_) (fun hb_221 => ?_)) ?_
      · have hj_220 := ite_t hb_221 hj_220
        obtain ⟨words_here_222, h_words_here_222, hj_220⟩ := bind_some hj_220
        refine sb_appO (i := 1) (j := 0) rfl rfl (ev_cb (ea_cons (ev_var (i := 2) rfl) ea_nil) rc_tuple) h_words_here_222 (ow1 := [ol p_words_here_195 words_here_222]) rfl ?_
        cases hj_220
        exact km_224 _ _ (.keep (.keep (.keep (.keep (.keep .nil))))) (List.Sublist.refl _)
      · have hj_220 := ite_f hb_221 hj_220
        refine sb_nx ?_
        cases hj_220
        exact km_224 _ _ (.keep (.keep (.keep (.keep (.keep .nil))))) (List.Sublist.refl _)
      refine sb_freeze (i := 1) (j := 0) (sl' := [sv cells_194, sv words_here_223, sv word_217, .any, .any]) (ow1 := []) rfl rfl rfl rfl ?_
      cases hf
      exact sb_ret (ev_cb (ea_cons (ev_var (i := 1) rfl) ea_nil) rc_tuple) q (List.Sublist.refl _)
theorem sc__law_pieces : FnScope ["_law_words_here", "_law_told", "_law_word", "_law_k", "_law_piece"] ["_law_words_here"] (defScope s__law_pieces) := ⟨rfl, rfl, rfl, by decide +kernel, rfl, by decide +kernel, by decide +kernel⟩
set_option maxHeartbeats 4000000 in
theorem ok__law_pieces (T : TX K mg w) : FnOk P w K mg base CX0 1 T.a__law_pieces T.d__law_pieces ["_law_words_here"] (PL (τ := (Tu (Tu Str)) × Unit) K (fun t => m__law_pieces t.1)) := by
  refine T.F__law_pieces.ok sc__law_pieces (fun vs H Q E h => ?_) (fun cdv A outer s H vs Q E hr h => ?_)
  · obtain ⟨Kn, t, r, ek, h, hf, q⟩ := h
    exact Tp.len h
  · obtain ⟨Kn, t, r_, ek, h, hf, q⟩ := h
    obtain ⟨words_here_225, u_⟩ := t
    obtain ⟨v_0, rr_, rfl, hv_0, h⟩ := h
    obtain rfl := h
    replace hf : m__law_pieces words_here_225 = some r_ := hf
    unfold m__law_pieces at hf
    refine ⟨_, (pss_cons (ps_set (i := 1) sc__law_pieces.nd rfl (.inl rfl) (pe_lst pa_nil))
      (pss_cons (ps_for PassesOwn.never rfl (kpi_tup (pv 0)) (pg_name (i := 2) sc__law_pieces.nd rfl (.inl rfl)) (pss_one (ps_for PassesOwn.never rfl (pi_enumT (by rfl) T.z_enumerate (pa_cons (pv 2) pa_nil)) (kpg_tup (n := 2) (pgs_cons (pg_name (i := 3) sc__law_pieces.nd rfl (.inl rfl)) (pgs_cons (pg_name (i := 4) sc__law_pieces.nd rfl (.inl rfl)) pgs_nil))) (pss_one (ps_expr (pe_bm PySem.F.plainAttrs_list PySem.F.slot_list_append PySem.F.type_list_append mt_append (pv 1) (pa_cons (pe_tup (pa_cons (pe_callB call_len_str (by rfl) T.z_len PySem.boot_len (pa_cons (pv 4) pa_nil)) (pa_cons (pe_callTy call_int1 (by rfl) T.z_int (by decide +kernel) (pa_cons (pe_cmpR op_lt (pe_op op_add (pv 3) pe_int) (pe_callB k_len (by rfl) T.z_len PySem.boot_len (pa_cons (pv 2) pa_nil)) (nomark _)) pa_nil)) pa_nil))) pa_nil)))))))
      (pss_one (ps_ret (pv 1))))), ?_⟩
    refine enter (Kn := Kn) (sl := [sv words_here_225, .any, .any, .any, .any]) ek ⟨⟨v_0, rfl, hv_0⟩, trivial, trivial, trivial, trivial, trivial⟩ ?_
    have q := rn_of q
    obtain ⟨told_226, h_told_226, hf⟩ := bind_some hf
    refine SB.seqB (fun kx_ => sb_asgO (sl' := fun p_told_226 => [sv words_here_225, .at p_told_226, .any, .any, .any]) (fun _ => rfl) (EN.cast (en_lst el_nil) (Option.some.inj h_told_226)) (fun p_told_226 => (kx_ _ _ ?_)))
    obtain ⟨told_246, h_tot_233, hf⟩ := bind_some hf
    refine SB.seqB (fun kx_247 => sb_for (β := (Tu Str)) (Sx := (List (Int × Int × Unit))) (fun s => [sv words_here_225, .at p_told_226, .any, .any, .any]) (fun s => [ol p_told_226 s]) (fun x s => [sv words_here_225, .at p_told_226, sv x, .any, .any]) [2] (fun xs s => forS (m__law_pieces_L1) xs s = some told_246) told_226 (IT.m (it_tup (ev_var (i := 0) rfl))) h_tot_233 (.keep (.keep (.keep (.keep (.keep .nil))))) (List.Sublist.refl _) (fun x s => (gt_name rfl)) ?_ ?_)
    · intro Kn1 b1 word_228 rest_ told_227 hP_230 N_ hN_229
      obtain ⟨c_, hc_231, hP_230⟩ := bind_some hP_230
      have q_232 := q.base b1
      unfold m__law_pieces_L1 at hc_231
      refine SB.is (sl' := [sv words_here_225, .at p_told_226, sv word_228, .any, .any]) (ow1 := [ol p_told_226 told_227]) rfl rfl ?_
      obtain ⟨told_244, h_tot_241, hc_231⟩ := bind_some hc_231
      refine sb_for (β := (Int × Str × Unit)) (Sx := (List (Int × Int × Unit))) (fun s => [sv words_here_225, .at p_told_226, sv word_228, .any, .any]) (fun s => [ol p_told_226 s]) (fun x s => [sv words_here_225, .at p_told_226, sv word_228, sv x.1, sv x.2.1]) [3, 4] (fun xs s => forS (m__law_pieces_L2 word_228) xs s = some told_244) told_227 (IT.m (it_enumT (ea_cons (ev_var (i := 2) rfl) ea_nil))) h_tot_241 (.keep (.keep (.keep (.keep (.keep .nil))))) (List.Sublist.refl _) (fun x s => (gt_tup (gts_cons (gt_name rfl) (gts_cons (gt_name rfl) gts_nil)))) ?_ ?_
      · intro Kn1 b1 x_ rest_ told_234 hP_238 N_ hN_237
        obtain ⟨k_235, piece_236, _⟩ := x_
        obtain ⟨c_, hc_239, hP_238⟩ := bind_some hP_238
        have q_240 := q_232.base b1
        unfold m__law_pieces_L2 at hc_239
        refine SB.is (sl' := [sv words_here_225, .at p_told_226, sv word_228, sv k_235, sv piece_236]) (ow1 := [ol p_told_226 told_234]) rfl rfl ?_
        obtain ⟨n_242, h_n_242, hc_239⟩ := bind_some hc_239
        obtain ⟨told_243, h_told_243, hc_239⟩ := bind_some hc_239
        refine sb_appO (i := 1) (j := 0) rfl rfl (ev_tup (ea_cons (ev_cb (ea_cons (ev_var (i := 4) rfl) ea_nil) (rc_lenS h_n_242)) (ea_cons (ev_cb (ea_cons (ev_op (ev_op (ev_var (i := 3) rfl) (ev_int 1) r2_add) (ev_cb (ea_cons (ev_var (i := 2) rfl) ea_nil) rc_lenT) r2_lt) ea_nil) rc_intB) ea_nil))) h_told_243 (ow1 := [ol p_told_226 told_243]) rfl ?_
        cases hc_239
        exact fun σ Kn H s => hN_237 _ hP_238 σ Kn H ((s.le (.keep (.keep (.keep (.drop (.drop .nil)))))).sub (List.Sublist.refl _))
      · intro s_ h0
        cases h0
        show SN _ _ _ [sv words_here_225, .at p_told_226, sv word_228, .any, .any] [ol p_told_226 told_244] _
        cases hc_231
        exact fun σ Kn H s => hN_229 _ hP_230 σ Kn H ((s.le (.keep (.keep (.drop (.keep (.keep .nil)))))).sub (List.Sublist.refl _))
    · intro s_ h0
      cases h0
      refine kx_247 _ _ ?_
      refine SB.is (sl' := [sv words_here_225, .at p_told_226, .any, .any, .any]) (ow1 := [ol p_told_226 told_246]) rfl rfl ?_
      cases hf
      exact sb_retO (i := 1) (j := 0) rfl rfl q (List.Sublist.cons _ List.Sublist.slnil)
theorem sc__law_size : FnScope ["_law_pieces_here", "_law_first", "_law_till", "_law_size_here", "_law_k"] ["_law_pieces_here", "_law_first", "_law_till"] (defScope s__law_size) := ⟨rfl, rfl, rfl, by decide +kernel, rfl, by decide +kernel, by decide +kernel⟩
set_option maxHeartbeats 4000000 in
theorem ok__law_size (T : TX K mg w) : FnOk P w K mg base CX0 1 T.a__law_size T.d__law_size ["_law_pieces_here", "_law_first", "_law_till"] (PF (τ := (List (Int × Int × Unit)) × Int × Int × Unit) K (fun t => m__law_size t.1 t.2.1 t.2.2.1)) := by
  refine T.F__law_size.ok sc__law_size (fun vs H Q E h => ?_) (fun cdv A outer s H vs Q E hr h => ?_)
  · obtain ⟨Kn, t, r, ek, h, hf, q⟩ := h
    exact Tp.len h
  · obtain ⟨Kn, t, r_, ek, h, hf, q⟩ := h
    obtain ⟨pieces_here_248, first_249, till_250, u_⟩ := t
    obtain ⟨v_0, rr_, rfl, hv_0, h⟩ := h
    obtain ⟨v_1, rr_, rfl, hv_1, h⟩ := h
    obtain ⟨v_2, rr_, rfl, hv_2, h⟩ := h
    obtain rfl := h
    replace hf : m__law_size pieces_here_248 first_249 till_250 = some r_ := hf
    unfold m__law_size at hf
    refine ⟨_, (pss_cons (ps_set (i := 3) sc__law_size.nd rfl (.inl rfl) (pe_ix k_ixt (pe_ix k_ixl (pv 0) (pe_op op_sub (pv 2) pe_int) (fun _ _ => rfl)) pe_int (fun _ _ => rfl)))
      (pss_cons (ps_for PassesOwn.never rfl (pi_range2 (by rfl) T.z_range (pa_cons (pv 1) (pa_cons (pv 2) pa_nil))) (pg_name (i := 4) sc__law_size.nd rfl (.inl rfl)) (pss_cons (ps_set (i := 3) sc__law_size.nd rfl (.inl rfl) (pe_op op_add (pv 3) (pe_ix k_ixt (pe_ix k_ixl (pv 0) (pv 4) (fun _ _ => rfl)) pe_int (fun _ _ => rfl))))
      (pss_one (ps_if (pt_cmpR op_lt (pe_op op_add (pv 4) pe_int) (pv 2) (nomark _)) (pss_one (ps_set (i := 3) sc__law_size.nd rfl (.inl rfl) (pe_op op_sub (pe_op op_add (pv 3) pe_int) (pe_ix k_ixt (pe_ix k_ixl (pv 0) (pv 4) (fun _ _ => rfl)) pe_int (fun _ _ => rfl))))) pss_nil))))
      (pss_one (ps_ret (pv 3))))), ?_⟩
    refine enter (Kn := Kn) (sl := [sv pieces_here_248, sv first_249, sv till_250, .any, .any]) ek ⟨⟨v_0, rfl, hv_0⟩, ⟨v_1, rfl, hv_1⟩, ⟨v_2, rfl, hv_2⟩, trivial, trivial, trivial⟩ ?_
    have q := rt_of q
    obtain ⟨i_251, h_i_251, hf⟩ := bind_some hf
    obtain ⟨size_here_252, h_size_here_252, hf⟩ := bind_some hf
    refine SB.seqB (fun kx_ => sb_asg (sl' := [sv pieces_here_248, sv first_249, sv till_250, sv size_here_252, .any]) rfl (EV.cast (ev_op (ev_op (ev_var (i := 0) rfl) (ev_op (ev_var (i := 2) rfl) (ev_int 1) r2_sub) (r2_ixL h_i_251)) (ev_int 1) (r2_tix (n := 1) (At.s _ (At.z _ _)))) (Option.some.inj h_size_here_252)) (kx_ _ _ ?_))
    obtain ⟨rg_253, h_rg_253, hf⟩ := bind_some hf
    obtain ⟨size_here_268, h_tot_260, hf⟩ := bind_some hf
    refine SB.seqB (fun kx_269 => sb_for (β := Int) (Sx := Int) (fun s => [sv pieces_here_248, sv first_249, sv till_250, sv s, .any]) (fun s => []) (fun x s => [sv pieces_here_248, sv first_249, sv till_250, sv s, sv x]) [4] (fun xs s => forS (m__law_size_L1 pieces_here_248 till_250) xs s = some size_here_268) size_here_252 (IT.m (it_rng2 (ea_cons (ev_var (i := 1) rfl) (ea_cons (ev_var (i := 2) rfl) ea_nil)) h_rg_253)) h_tot_260 (.keep (.keep (.keep (.keep (.keep .nil))))) (List.Sublist.refl _) (fun x s => (gt_name rfl)) ?_ ?_)
    · intro Kn1 b1 k_255 rest_ size_here_254 hP_257 N_ hN_256
      obtain ⟨c_, hc_258, hP_257⟩ := bind_some hP_257
      have q_259 := q.base b1
      unfold m__law_size_L1 at hc_258
      refine SB.is (sl' := [sv pieces_here_248, sv first_249, sv till_250, sv size_here_254, sv k_255]) (ow1 := []) rfl rfl ?_
      obtain ⟨i_261, h_i_261, hc_258⟩ := bind_some hc_258
      obtain ⟨size_here_262, h_size_here_262, hc_258⟩ := bind_some hc_258
      refine SB.seqB (fun kx_ => sb_asg (sl' := [sv pieces_here_248, sv first_249, sv till_250, sv size_here_262, sv k_255]) rfl (EV.cast (ev_op (ev_var (i := 3) rfl) (ev_op (ev_op (ev_var (i := 0) rfl) (ev_var (i := 4) rfl) (r2_ixL h_i_261)) (ev_int 0) (r2_tix (n := 0) (At.z _ _))) r2_add) (Option.some.inj h_size_here_262)) (kx_ _ _ ?_))
      refine sb_if (b := (decide ((k_255 + (1 : Int)) < till_250))) (et_test (ev_op (ev_op (ev_var (i := 4) rfl) (ev_int 1) r2_add) (ev_var (i := 2) rfl) r2_lt)) (fun hb_264 => ?_) (fun hb_264 => ?_)
      · have hc_258 := ite_t hb_264 hc_258
        obtain ⟨i_266, h_i_266, hc_258⟩ := bind_some hc_258
        obtain ⟨size_here_267, h_size_here_267, hc_258⟩ := bind_some hc_258
        refine sb_asg (sl' := [sv pieces_here_248, sv first_249, sv till_250, sv size_here_267, sv k_255]) rfl (EV.cast (ev_op (ev_op (ev_var (i := 3) rfl) (ev_int 1) r2_add) (ev_op (ev_op (ev_var (i := 0) rfl) (ev_var (i := 4) rfl) (r2_ixL h_i_266)) (ev_int 1) (r2_tix (n := 1) (At.s _ (At.z _ _)))) r2_sub) (Option.some.inj h_size_here_267)) ?_
        cases hc_258
        exact fun σ Kn H s => hN_256 _ hP_257 σ Kn H ((s.le (.keep (.keep (.keep (.keep (.drop .nil)))))).sub (List.Sublist.refl _))
      · have hc_258 := ite_f hb_264 hc_258
        refine sb_nx ?_
        cases hc_258
        exact fun σ Kn H s => hN_256 _ hP_257 σ Kn H ((s.le (.keep (.keep (.keep (.keep (.drop .nil)))))).sub (List.Sublist.refl _))
    · intro s_ h0
      cases h0
      refine kx_269 _ _ ?_
      refine SB.is (sl' := [sv pieces_here_248, sv first_249, sv till_250, sv size_here_268, .any]) (ow1 := []) rfl rfl ?_
      cases hf
      exact sb_ret (ev_var (i := 3) rfl) q (List.Sublist.refl _)
theorem sc__law_due : FnScope ["_law_pieces_here", "_law_joint", "_law_width", "_law_costs", "_law_till", "_law_told", "_law_first", "_law_size_here"] ["_law_pieces_here", "_law_joint", "_law_width", "_law_costs", "_law_till"] (defScope s__law_due) := ⟨rfl, rfl, rfl, by decide +kernel, rfl, by decide +kernel, by decide +kernel⟩
set_option maxHeartbeats 4000000 in
theorem ok__law_due (T : TX K mg w) : FnOk P w K mg base CX0 2 T.a__law_due T.d__law_due ["_law_pieces_here", "_law_joint", "_law_width", "_law_costs", "_law_till"] (PF (τ := (List (Int × Int × Unit)) × Int × Int × (List (Option Int)) × Int × Unit) K (fun t => m__law_due t.1 t.2.1 t.2.2.1 t.2.2.2.1 t.2.2.2.2.1)) := by
  refine T.F__law_due.ok sc__law_due (fun vs H Q E h => ?_) (fun cdv A outer s H vs Q E hr h => ?_)
  · obtain ⟨Kn, t, r, ek, h, hf, q⟩ := h
    exact Tp.len h
  · obtain ⟨Kn, t, r_, ek, h, hf, q⟩ := h
    obtain ⟨pieces_here_270, joint_271, width_272, costs_273, till_274, u_⟩ := t
    obtain ⟨v_0, rr_, rfl, hv_0, h⟩ := h
    obtain ⟨v_1, rr_, rfl, hv_1, h⟩ := h
    obtain ⟨v_2, rr_, rfl, hv_2, h⟩ := h
    obtain ⟨v_3, rr_, rfl, hv_3, h⟩ := h
    obtain ⟨v_4, rr_, rfl, hv_4, h⟩ := h
    obtain rfl := h
    replace hf : m__law_due pieces_here_270 joint_271 width_272 costs_273 till_274 = some r_ := hf
    unfold m__law_due at hf
    refine ⟨_, (pss_cons (ps_set (i := 5) sc__law_due.nd rfl (.inl rfl) (pe_lst pa_nil))
      (pss_cons (ps_for PassesOwn.never rfl (pi_range1 (by rfl) T.z_range (pa_cons (pv 4) pa_nil)) (pg_name (i := 6) sc__law_due.nd rfl (.inl rfl)) (pss_cons (ps_set (i := 7) sc__law_due.nd rfl (.inl rfl) (pe_call (ok__law_size T) hr (by rfl) T.g__law_size T.F__law_size.kp T.b__law_size .nil pass0 (pa_cons (pv 0) (pa_cons (pv 6) (pa_cons (pv 4) pa_nil)))))
      (pss_one (ps_if (PW.pt (pw_and (pt_cmpR op_notN (pe_ix k_ixl (pv 3) (pv 6) (fun _ _ => rfl)) pe_non (nomark _)) (pw_and (pt_cmpR op_lt (pv 4) (pe_callB k_len (by rfl) T.z_len PySem.boot_len (pa_cons (pv 0) pa_nil)) (nomark _)) (pw_and1 (pt_cmpR op_le (pv 7) (pv 2) (nomark _)))))) (pss_one (ps_expr (pe_bm PySem.F.plainAttrs_list PySem.F.slot_list_append PySem.F.type_list_append mt_append (pv 5) (pa_cons (pe_op op_add (pe_op op_add (pe_ix k_ixl (pv 3) (pv 6) (fun _ _ => rfl)) (pe_op op_pow (pe_op op_sub (pv 2) (pv 7)) pe_int)) (pe_op op_mul (pv 1) (pe_ix k_ixt (pe_ix k_ixl (pv 0) (pe_op op_sub (pv 4) pe_int) (fun _ _ => rfl)) pe_int (fun _ _ => rfl)))) pa_nil)))) pss_nil))))
      (Evl.pss_cut (ps_if (PW.pt (pw_and (pt_cmpR op_lt (pv 4) (pe_callB k_len (by rfl) T.z_len PySem.boot_len (pa_cons (pv 0) pa_nil)) (nomark _)) (pw_and (pt_cmpR op_notN (pe_ix k_ixl (pv 3) (pv 4) (fun _ _ => rfl)) pe_non (nomark _)) (pw_and1 (pt_cmpR op_gt (pe_call (ok__law_size T) hr (by rfl) T.g__law_size T.F__law_size.kp T.b__law_size .nil pass0 (pa_cons (pv 0) (pa_cons (pv 4) (pa_cons (pe_op op_add (pv 4) pe_int) pa_nil)))) (pv 2) (nomark _)))))) (pss_one (ps_expr (pe_bm PySem.F.plainAttrs_list PySem.F.slot_list_append PySem.F.type_list_append mt_append (pv 5) (pa_cons (pe_op op_add (pe_ix k_ixl (pv 3) (pv 4) (fun _ _ => rfl)) (pe_op op_mul (pv 2) (pv 2))) pa_nil)))) pss_nil)
      (pss_cons (ps_if (pt_cmpR op_eq (pe_callB k_len (by rfl) T.z_len PySem.boot_len (pa_cons (pv 5) pa_nil)) pe_int (nomark _)) (pss_one (ps_ret pe_non)) pss_nil)
      (pss_one (ps_ret (pe_callB k_minL (by rfl) T.z_min (by decide +kernel) (pa_cons (pv 5) pa_nil)))))))), ?_⟩
    refine enter (Kn := Kn) (sl := [sv pieces_here_270, sv joint_271, sv width_272, sv costs_273, sv till_274, .any, .any, .any]) ek ⟨⟨v_0, rfl, hv_0⟩, ⟨v_1, rfl, hv_1⟩, ⟨v_2, rfl, hv_2⟩, ⟨v_3, rfl, hv_3⟩, ⟨v_4, rfl, hv_4⟩, trivial, trivial, trivial, trivial⟩ ?_
    have q := rt_of q
    obtain ⟨told_275, h_told_275, hf⟩ := bind_some hf
    refine SB.seqB (fun kx_ => sb_asgO (sl' := fun p_told_275 => [sv pieces_here_270, sv joint_271, sv width_272, sv costs_273, sv till_274, .at p_told_275, .any, .any]) (fun _ => rfl) (EN.cast (en_lst el_nil) (Option.some.inj h_told_275)) (fun p_told_275 => (kx_ _ _ ?_)))
    obtain ⟨rg_276, h_rg_276, hf⟩ := bind_some hf
    obtain ⟨told_296, h_tot_283, hf⟩ := bind_some hf
    refine SB.seqB (fun kx_297 => sb_for (β := Int) (Sx := (List Int)) (fun s => [sv pieces_here_270, sv joint_271, sv width_272, sv costs_273, sv till_274, .at p_told_275, .any, .any]) (fun s => [ol p_told_275 s]) (fun x s => [sv pieces_here_270, sv joint_271, sv width_272, sv costs_273, sv till_274, .at p_told_275, sv x, .any]) [6] (fun xs s => forS (m__law_due_L1 pieces_here_270 joint_271 width_272 costs_273 till_274) xs s = some told_296) told_275 (IT.m (it_rng1 (ea_cons (ev_var (i := 4) rfl) ea_nil) h_rg_276)) h_tot_283 (.keep (.keep (.keep (.keep (.keep (.keep (.keep (.keep .nil)))))))) (List.Sublist.refl _) (fun x s => (gt_name rfl)) ?_ ?_)
    · intro Kn1 b1 first_278 rest_ told_277 hP_280 N_ hN_279
      obtain ⟨c_, hc_281, hP_280⟩ := bind_some hP_280
      have q_282 := q.base b1
      unfold m__law_due_L1 at hc_281
      refine SB.is (sl' := [sv pieces_here_270, sv joint_271, sv width_272, sv costs_273, sv till_274, .at p_told_275, sv first_278, .any]) (ow1 := [ol p_told_275 told_277]) rfl rfl ?_
      obtain ⟨r_284, h_r_284, hc_281⟩ := bind_some hc_281
      obtain ⟨size_here_285, h_size_here_285, hc_281⟩ := bind_some hc_281
      refine SB.seqB (fun kx_ => sb_asg (sl' := [sv pieces_here_270, sv joint_271, sv width_272, sv costs_273, sv till_274, .at p_told_275, sv first_278, sv size_here_285]) rfl (EV.cast (ev_call (ea_cons (ev_var (i := 0) rfl) (ea_cons (ev_var (i := 6) rfl) (ea_cons (ev_var (i := 4) rfl) ea_nil))) h_r_284) (Option.some.inj h_size_here_285)) (kx_ _ _ ?_))
      obtain ⟨i_287, h_i_287, hc_281⟩ := bind_some hc_281
      refine sb_if (b := ((i_287.isSome) && ((decide (till_274 < (pieces_here_270.length : Int))) && (decide (size_here_285 ≤ width_272))))) (et_and (et_test (ev_op (ev_op (ev_var (i := 3) rfl) (ev_var (i := 6) rfl) (r2_ixL h_i_287)) ev_nn r2_notN)) (fun _ => (et_and (et_test (ev_op (ev_var (i := 4) rfl) (ev_cb (ea_cons (ev_var (i := 0) rfl) ea_nil) rc_len) r2_lt)) (fun _ => (et_test (ev_op (ev_var (i := 7) rfl) (ev_var (i := 2) rfl) r2_le)))))) (fun hb_288 => ?_) (fun hb_288 => ?_)
      · have hc_281 := ite_t hb_288 hc_281
        obtain ⟨i_290, h_i_290, hc_281⟩ := bind_some hc_281
        obtain ⟨w_291, h_w_291, hc_281⟩ := bind_some hc_281
        obtain ⟨s_292, h_s_292, hc_281⟩ := bind_some hc_281
        obtain ⟨i_293, h_i_293, hc_281⟩ := bind_some hc_281
        obtain ⟨m_294, h_m_294, hc_281⟩ := bind_some hc_281
        obtain ⟨told_295, h_told_295, hc_281⟩ := bind_some hc_281
        refine sb_appO (i := 5) (j := 0) rfl rfl (ev_op (ev_op (ev_unopt (ev_op (ev_var (i := 3) rfl) (ev_var (i := 6) rfl) (r2_ixL h_i_290)) h_s_292) (ev_op (ev_op (ev_var (i := 2) rfl) (ev_var (i := 7) rfl) r2_sub) (ev_int 2) (r2_powO h_w_291)) r2_add) (ev_op (ev_var (i := 1) rfl) (ev_op (ev_op (ev_var (i := 0) rfl) (ev_op (ev_var (i := 4) rfl) (ev_int 1) r2_sub) (r2_ixL h_i_293)) (ev_int 1) (r2_tix (n := 1) (At.s _ (At.z _ _)))) (r2_mulO h_m_294)) r2_add) h_told_295 (ow1 := [ol p_told_275 told_295]) rfl ?_
        cases hc_281
        exact fun σ Kn H s => hN_279 _ hP_280 σ Kn H ((s.le (.keep (.keep (.keep (.keep (.keep (.keep (.drop (.drop .nil))))))))).sub (List.Sublist.refl _))
      · have hc_281 := ite_f hb_288 hc_281
        refine sb_nx ?_
        cases hc_281
        exact fun σ Kn H s => hN_279 _ hP_280 σ Kn H ((s.le (.keep (.keep (.keep (.keep (.keep (.keep (.drop (.drop .nil))))))))).sub (List.Sublist.refl _))
    · intro s_ h0
      cases h0
      refine kx_297 _ _ ?_
      refine SB.is (sl' := [sv pieces_here_270, sv joint_271, sv width_272, sv costs_273, sv till_274, .at p_told_275, .any, .any]) (ow1 := [ol p_told_275 told_296]) rfl rfl ?_
      obtain ⟨b_302, h_b_302, hf⟩ := bind_some hf
      obtain ⟨told_308, hj_298, hf⟩ := bind_some hf
      refine SB.cutB (sl' := [sv pieces_here_270, sv joint_271, sv width_272, sv costs_273, sv till_274, .at p_told_275, .any, .any]) (ow1 := [ol p_told_275 told_308]) (fun km_309 => sb_if (b := b_302) (et_andO h_b_302 (et_test (ev_op (ev_var (i := 4) rfl) (ev_cb (ea_cons (ev_var (i := 0) rfl) ea_nil) rc_len) r2_lt)) (fun _ _ h => by obtain ⟨i_299, h_i_299, h⟩ := bind_some h; obtain ⟨b_301, h_b_301, h⟩ := bind_some h; have hz_ := Option.some.inj h; subst hz_; exact (et_andO h_b_301 (et_test (ev_op (ev_op (ev_var (i := 3) rfl) (ev_var (i := 4) rfl) (r2_ixL h_i_299)) ev_nn r2_notN)) (fun _ _ h => by obtain ⟨r_300, h_r_300, h⟩ := bind_some h; have hz_ := Option.some.inj h; subst hz_; exact (et_test (ev_op (ev_call (ea_cons (ev_var (i := 0) rfl) (ea_cons (ev_var (i := 4) rfl) (ea_cons (ev_op (ev_var (i := 4) rfl) (ev_int 1) r2_add) ea_nil))) h_r_300) (ev_var (i := 2) rfl) r2_gt)))))) (fun hb_303 => ?_) (fun hb_303 => ?_)) ?_
      · have hj_298 := ite_t hb_303 hj_298
        obtain ⟨i_304, h_i_304, hj_298⟩ := bind_some hj_298
        obtain ⟨m_305, h_m_305, hj_298⟩ := bind_some hj_298
        obtain ⟨s_306, h_s_306, hj_298⟩ := bind_some hj_298
        obtain ⟨told_307, h_told_307, hj_298⟩ := bind_some hj_298
        refine sb_appO (i := 5) (j := 0) rfl rfl (ev_op (ev_unopt (ev_op (ev_var (i := 3) rfl) (ev_var (i := 4) rfl) (r2_ixL h_i_304)) h_s_306) (ev_op (ev_var (i := 2) rfl) (ev_var (i := 2) rfl) (r2_mulO h_m_305)) r2_add) h_told_307 (ow1 := [ol p_told_275 told_307]) rfl ?_
        cases hj_298
        exact km_309 _ _ (.keep (.keep (.keep (.keep (.keep (.keep (.keep (.keep .nil)))))))) (List.Sublist.refl _)
      · have hj_298 := ite_f hb_303 hj_298
        refine sb_nx ?_
        cases hj_298
        exact km_309 _ _ (.keep (.keep (.keep (.keep (.keep (.keep (.keep (.keep .nil)))))))) (List.Sublist.refl _)
      refine sb_freeze (i := 5) (j := 0) (sl' := [sv pieces_here_270, sv joint_271, sv width_272, sv costs_273, sv till_274, sv told_308, .any, .any]) (ow1 := []) rfl rfl rfl rfl ?_
      refine SB.seqB (fun kx_312 => sb_if (b := (decide ((told_308.length : Int) = (0 : Int)))) (et_test (ev_op (ev_cb (ea_cons (ev_var (i := 5) rfl) ea_nil) rc_len) (ev_int 0) r2_eqI)) (fun hb_311 => ?_) (fun hb_311 => ?_))
      · have hf := ite_t hb_311 hf
        cases hf
        exact sb_ret ev_none q (List.Sublist.refl _)
      · have hf := ite_f hb_311 hf
        refine sb_nx ?_
        refine kx_312 _ _ ?_
        obtain ⟨min_313, h_min_313, hf⟩ := bind_some hf
        cases hf
        exact sb_ret (ev_some (ev_cb (ea_cons (ev_var (i := 5) rfl) ea_nil) (rc_minL h_min_313))) q (List.Sublist.refl _)
theorem sc_law : FnScope ["_law_script", "_law_words_here", "_law_pieces_here", "_law_some", "_law_joint", "_law_widths", "_law_many", "_law_held", "_law_table", "_law_row", "_law_width", "_law_due_here", "_law_costs", "_law_k", "_law_till"] ["_law_script"] (defScope s_law) := ⟨rfl, rfl, rfl, by decide +kernel, rfl, by decide +kernel, by decide +kernel⟩
set_option maxHeartbeats 4000000 in
theorem ok_law (T : TX K mg w) : FnOk P w K mg base CX0 4 T.a_law T.d_law ["_law_script"] (PF (τ := (Fz Int) × Unit) K (fun t => m_law t.1)) := by
  refine T.F_law.ok sc_law (fun vs H Q E h => ?_) (fun cdv A outer s H vs Q E hr h => ?_)
  · obtain ⟨Kn, t, r, ek, h, hf, q⟩ := h
    exact Tp.len h
  · obtain ⟨Kn, t, r_, ek, h, hf, q⟩ := h
    obtain ⟨script_314, u_⟩ := t
    obtain ⟨v_0, rr_, rfl, hv_0, h⟩ := h
    obtain rfl := h
    replace hf : m_law script_314 = some r_ := hf
    unfold m_law at hf
    refine ⟨_, (pss_cons (ps_set (i := 1) sc_law.nd rfl (.inl rfl) (pe_call (ok__law_words T) (hr.mono (by decide)) (by rfl) T.g__law_words T.F__law_words.kp T.b__law_words .nil pass0 (pa_cons (pe_slice k_sll (pv 0) (po_some pe_int) (po_some pe_int)) pa_nil)))
      (pss_cons (ps_set (i := 2) sc_law.nd rfl (.inr rfl) (pe_call (ok__law_pieces T) (hr.mono (by decide)) (by rfl) T.g__law_pieces T.F__law_pieces.kp T.b__law_pieces .nil pass0 (pa_cons (pv 1) pa_nil)))
      (pss_cons (ps_set (i := 3) sc_law.nd rfl (.inr rfl) (pe_call (ok__law_numbers T) (hr.mono (by decide)) (by rfl) T.g__law_numbers T.F__law_numbers.kp T.b__law_numbers .nil pass0 (pa_cons (pe_call (ok__law_cell_at T) (hr.mono (by decide)) (by rfl) T.g__law_cell_at T.F__law_cell_at.kp T.b__law_cell_at .nil pass0 (pa_cons (pv 0) (pa_cons pe_int pa_nil))) (pa_cons pe_int pa_nil))))
      (pss_cons (ps_set (i := 4) sc_law.nd rfl (.inr rfl) (pe_op op_mod (pe_ix k_ixl (pv 3) pe_int (fun _ _ => rfl)) pe_int))
      (pss_cons (ps_set (i := 5) sc_law.nd rfl (.inl rfl) (pe_op op_cat (pe_lc (own := [("_law_k", 13)]) (g := gName 13) (tt := tYes) (by rfl) sc_law.nd (pi_range1 (by rfl) T.z_range (pa_cons (pe_op op_mod (pe_ix k_ixl (pv 3) pe_int (fun _ _ => rfl)) pe_int) pa_nil)) (blkOk_by (own := [("_law_k", 13)]) (N := ["_law_script", "_law_words_here", "_law_pieces_here", "_law_some", "_law_joint", "_law_widths", "_law_many", "_law_held", "_law_table", "_law_row", "_law_width", "_law_due_here", "_law_costs", "_law_k", "_law_till"]) (sc := defScope s_law) (by decide +kernel)) (fun _ _ _ _ _ => (pg_name (i := 13) sc_law.nd rfl (Or.inl rfl))) (fun _ _ _ _ _ => pts_nil) (fun _ _ _ _ _ => (pe_op op_mod (pe_ix k_ixl (pv 3) (pe_op op_add pe_int (pv 13)) (fun _ _ => rfl)) pe_int))) (pe_lst (pa_cons (pe_op op_add pe_int (pe_op op_mod (pe_ix k_ixl (pv 3) pe_int (fun _ _ => rfl)) pe_int)) pa_nil))))
      (pss_cons (ps_set (i := 6) sc_law.nd rfl (.inl rfl) (pe_op op_add pe_int (pe_op op_mod (pe_ix k_ixl (pv 3) pe_int (fun _ _ => rfl)) pe_int)))
      (pss_cons (ps_set (i := 7) sc_law.nd rfl (.inl rfl) (pe_callTy k_list (by rfl) T.z_list (by decide +kernel) (pa_cons (pv 5) pa_nil)))
      (pss_cons (ps_set (i := 8) sc_law.nd rfl (.inr rfl) (pe_call (ok_table_of T) hr (by rfl) T.g_table_of T.F_table_of.kp T.b_table_of .nil pass0 (pa_cons (pv 1) (pa_cons (pv 4) (pa_cons (pv 7) (pa_cons (pv 6) pa_nil))))))
      (pss_cons (ps_if (PW.pt (pw_or (pt_not (pt_val (pe_callB k_isi (by rfl) T.z_isinstance (by decide +kernel) (pa_cons (pv 8) (pa_cons (pe_bltn (v := .ty "list") (u := .type "list") (by rfl) T.z_list (by decide +kernel) rfl) pa_nil))))) (pw_or (pt_cmpR op_ne (pe_callB k_len (by rfl) T.z_len PySem.boot_len (pa_cons (pv 8) pa_nil)) (pe_op op_add (pv 6) pe_int) (nomark _)) (pw_or1 (pt_cmpR (k_neD hr.units) (pv 7) (pv 5) (nomark _)))))) (pss_one (ps_ret pe_bl)) pss_nil)
      (pss_cons (ps_if (pt_cmpR (k_top hr.units) (pe_ix k_ixl (pv 8) pe_int (fun _ _ => rfl)) (pe_op op_cat (pe_lst (pa_cons pe_int pa_nil)) (pe_op op_rep (pe_lst (pa_cons pe_non pa_nil)) (pe_callB k_len (by rfl) T.z_len PySem.boot_len (pa_cons (pv 2) pa_nil)))) (nomark _)) (pss_one (ps_ret pe_bl)) pss_nil)
      (pss_cons (ps_for PassesOwn.never rfl (pi_range1 (by rfl) T.z_range (pa_cons (pv 6) pa_nil)) (pg_name (i := 9) sc_law.nd rfl (.inr rfl)) (pss_cons (ps_set (i := 10) sc_law.nd rfl (.inr rfl) (pe_ix k_ixl (pv 5) (pe_callB k_min2 (by rfl) T.z_min (by decide +kernel) (pa_cons (pv 9) (pa_cons (pe_op op_sub (pe_callB k_len (by rfl) T.z_len PySem.boot_len (pa_cons (pv 5) pa_nil)) pe_int) pa_nil))) (fun _ _ => rfl)))
      (pss_cons (ps_setLc (i := 11) (own := [("_law_till", 14)]) (g := gName 14) (tt := tYes) rfl sc_law.nd rfl rfl (sw_true rfl rfl rfl (by decide +kernel)) (pi_range1 (by rfl) T.z_range (pa_cons (pe_op op_add (pe_callB k_len (by rfl) T.z_len PySem.boot_len (pa_cons (pv 2) pa_nil)) pe_int) pa_nil)) (blkOk_by (own := [("_law_till", 14)]) (N := ["_law_script", "_law_words_here", "_law_pieces_here", "_law_some", "_law_joint", "_law_widths", "_law_many", "_law_held", "_law_table", "_law_row", "_law_width", "_law_due_here", "_law_costs", "_law_k", "_law_till"]) (sc := defScope s_law) (by decide +kernel)) (fun _ _ _ _ _ => (pg_name (i := 14) sc_law.nd rfl (Or.inl rfl))) (fun _ _ _ _ _ => pts_nil) (fun _ _ _ _ _ => (pe_call (ok__law_due T) (hr.mono (by decide)) (by rfl) T.g__law_due T.F__law_due.kp T.b__law_due .nil pass0 (pa_cons (pv 2) (pa_cons (pv 4) (pa_cons (pv 10) (pa_cons (pe_ix k_ixl (pv 8) (pv 9) (fun _ _ => rfl)) (pa_cons (pv 14) pa_nil))))))))
      (pss_one (ps_if (PW.pt (pw_or (pt_not (pt_val (pe_callB k_isi (by rfl) T.z_isinstance (by decide +kernel) (pa_cons (pe_ix k_ixl (pv 8) (pe_op op_add (pv 9) pe_int) (fun _ _ => rfl)) (pa_cons (pe_bltn (v := .ty "list") (u := .type "list") (by rfl) T.z_list (by decide +kernel) rfl) pa_nil))))) (pw_or1 (pt_cmpR (k_top hr.units) (pe_ix k_ixl (pv 8) (pe_op op_add (pv 9) pe_int) (fun _ _ => rfl)) (pv 11) (nomark _))))) (pss_one (ps_ret pe_bl)) pss_nil)))))
      (pss_cons (ps_setLc (i := 11) (own := [("_law_costs", 12)]) (g := gName 12) (tt := tYes) rfl sc_law.nd rfl rfl (sw_true rfl rfl rfl (by decide +kernel)) (kpi_list (pv 8)) (blkOk_by (own := [("_law_costs", 12)]) (N := ["_law_script", "_law_words_here", "_law_pieces_here", "_law_some", "_law_joint", "_law_widths", "_law_many", "_law_held", "_law_table", "_law_row", "_law_width", "_law_due_here", "_law_costs", "_law_k", "_law_till"]) (sc := defScope s_law) (by decide +kernel)) (fun _ _ _ _ _ => (pg_name (i := 12) sc_law.nd rfl (Or.inl rfl))) (fun _ _ _ _ _ => pts_nil) (fun _ _ _ _ _ => (pe_callTy k_list (by rfl) T.z_list (by decide +kernel) (pa_cons (pv 12) pa_nil))))
      (pss_cons (ps_expr (pe_bm PySem.F.plainAttrs_list PySem.F.slot_list_append PySem.F.type_list_append mt_append (pe_ix k_ixl (pv 8) pe_int (fun _ _ => rfl)) (pa_cons pe_int pa_nil)))
      (pss_cons (ps_expr (pe_bm0 PySem.F.plainAttrs_list PySem.F.slot_list_clear PySem.F.type_list_clear mt_clear (pe_ix k_ixl (pv 8) pe_int (fun _ _ => rfl))))
      (pss_one (ps_ret (pe_cmpR (k_top hr.units) (pe_call (ok_table_of T) hr (by rfl) T.g_table_of T.F_table_of.kp T.b_table_of .nil pass0 (pa_cons (pv 1) (pa_cons (pv 4) (pa_cons (pv 5) (pa_cons (pv 6) pa_nil))))) (pv 11) (nomark _)))))))))))))))))), ?_⟩
    refine enter (Kn := Kn) (sl := [sv script_314, .any, .any, .any, .any, .any, .any, .any, .any, .any, .any, .any, .any, .any, .any]) ek ⟨⟨v_0, rfl, hv_0⟩, trivial, trivial, trivial, trivial, trivial, trivial, trivial, trivial, trivial, trivial, trivial, trivial, trivial, trivial, trivial⟩ ?_
    have q := rt_of q
    obtain ⟨r_315, h_r_315, hf⟩ := bind_some hf
    obtain ⟨words_here_316, h_words_here_316, hf⟩ := bind_some hf
    refine SB.seqB (fun kx_ => sb_asg (sl' := [sv script_314, sv words_here_316, .any, .any, .any, .any, .any, .any, .any, .any, .any, .any, .any, .any, .any]) rfl (EV.cast (ev_call (ea_cons (EN.ev (en_slF (ev_var (i := 0) rfl) (eo_some (ev_int 3)) (eo_some (ev_int 15)))) ea_nil) h_r_315) (Option.some.inj h_words_here_316)) (kx_ _ _ ?_))
    obtain ⟨r_317, h_r_317, hf⟩ := bind_some hf
    obtain ⟨pieces_here_318, h_pieces_here_318, hf⟩ := bind_some hf
    refine SB.seqB (fun kx_ => sb_asg (sl' := [sv script_314, sv words_here_316, sv pieces_here_318, .any, .any, .any, .any, .any, .any, .any, .any, .any, .any, .any, .any]) rfl (EV.cast (EN.ev (en_call (ea_cons (ev_var (i := 1) rfl) ea_nil) h_r_317)) (Option.some.inj h_pieces_here_318)) (kx_ _ _ ?_))
    obtain ⟨r_319, h_r_319, hf⟩ := bind_some hf
    obtain ⟨r_320, h_r_320, hf⟩ := bind_some hf
    obtain ⟨some_321, h_some_321, hf⟩ := bind_some hf
    refine SB.seqB (fun kx_ => sb_asg (sl' := [sv script_314, sv words_here_316, sv pieces_here_318, sv some_321, .any, .any, .any, .any, .any, .any, .any, .any, .any, .any, .any]) rfl (EV.cast (EN.ev (en_call (ea_cons (ev_call (ea_cons (ev_var (i := 0) rfl) (ea_cons (ev_int 0) ea_nil)) h_r_319) (ea_cons (ev_int 7) ea_nil)) h_r_320)) (Option.some.inj h_some_321)) (kx_ _ _ ?_))
    obtain ⟨i_322, h_i_322, hf⟩ := bind_some hf
    obtain ⟨joint_323, h_joint_323, hf⟩ := bind_some hf
    refine SB.seqB (fun kx_ => sb_asg (sl' := [sv script_314, sv words_here_316, sv pieces_here_318, sv some_321, sv joint_323, .any, .any, .any, .any, .any, .any, .any, .any, .any, .any]) rfl (EV.cast (ev_op (ev_op (ev_var (i := 3) rfl) (ev_int 0) (r2_ixL h_i_322)) (ev_int 100) r2_mod) (Option.some.inj h_joint_323)) (kx_ _ _ ?_))
    obtain ⟨i_324, h_i_324, hf⟩ := bind_some hf
    obtain ⟨rg_325, h_rg_325, hf⟩ := bind_some hf
    obtain ⟨zs_327, h_zs_327, hf⟩ := bind_some hf
    obtain ⟨i_329, h_i_329, hf⟩ := bind_some hf
    obtain ⟨cat_330, h_cat_330, hf⟩ := bind_some hf
    obtain ⟨widths_331, h_widths_331, hf⟩ := bind_some hf
    refine SB.seqB (fun kx_ => sb_asg (sl' := [sv script_314, sv words_here_316, sv pieces_here_318, sv some_321, sv joint_323, sv widths_331, .any, .any, .any, .any, .any, .any, .any, .any, .any]) rfl (EV.cast (EN.ev (en_op (EN.ev (en_lc (js := [13]) (fun x => [sv script_314, sv words_here_316, sv pieces_here_318, sv some_321, sv joint_323, .any, .any, .any, .any, .any, .any, .any, .any, sv x, .any]) h_zs_327 (it_rng1 (ea_cons (ev_op (ev_op (ev_var (i := 3) rfl) (ev_int 1) (r2_ixL h_i_324)) (ev_int 4) r2_mod) ea_nil) h_rg_325) (anyAt_of (by rfl)) (fun x => (gt_name rfl)) (sub_of (by rfl)) (fun _ _ x b h => by cases h; exact et_yes) (fun _ _ x z _ h => by obtain ⟨k_326, hx_⟩ : ∃ y, y = x := ⟨x, rfl⟩; subst hx_; obtain ⟨i_328, h_i_328, h⟩ := bind_some h; have hz_ := Option.some.inj h; subst hz_; exact EV.is (sl' := [sv script_314, sv words_here_316, sv pieces_here_318, sv some_321, sv joint_323, .any, .any, .any, .any, .any, .any, .any, .any, sv k_326, .any]) rfl (ev_op (ev_op (ev_var (i := 3) rfl) (ev_op (ev_int 2) (ev_var (i := 13) rfl) r2_add) (r2_ixL h_i_328)) (ev_int 13) r2_mod)))) (EN.ev (en_lst (el_cons (ev_op (ev_int 1) (ev_op (ev_op (ev_var (i := 3) rfl) (ev_int 5) (r2_ixL h_i_329)) (ev_int 12) r2_mod) r2_add) el_nil))) (r2_catO h_cat_330))) (Option.some.inj h_widths_331)) (kx_ _ _ ?_))
    obtain ⟨i_332, h_i_332, hf⟩ := bind_some hf
    obtain ⟨many_333, h_many_333, hf⟩ := bind_some hf
    refine SB.seqB (fun kx_ => sb_asg (sl' := [sv script_314, sv words_here_316, sv pieces_here_318, sv some_321, sv joint_323, sv widths_331, sv many_333, .any, .any, .any, .any, .any, .any, .any, .any]) rfl (EV.cast (ev_op (ev_int 1) (ev_op (ev_op (ev_var (i := 3) rfl) (ev_int 6) (r2_ixL h_i_332)) (ev_int 8) r2_mod) r2_add) (Option.some.inj h_many_333)) (kx_ _ _ ?_))
    obtain ⟨held_334, h_held_334, hf⟩ := bind_some hf
    refine SB.seqB (fun kx_ => sb_asg (sl' := [sv script_314, sv words_here_316, sv pieces_here_318, sv some_321, sv joint_323, sv widths_331, sv many_333, sv held_334, .any, .any, .any, .any, .any, .any, .any]) rfl (EV.cast (EN.ev (en_cb (ea_cons (ev_var (i := 5) rfl) ea_nil) rc_list)) (Option.some.inj h_held_334)) (kx_ _ _ ?_))
    obtain ⟨r_335, h_r_335, hf⟩ := bind_some hf
    obtain ⟨table_336, h_table_336, hf⟩ := bind_some hf
    refine SB.seqB (fun kx_ => sb_asgQ2 (sl' := fun p_table_336 => [sv script_314, sv words_here_316, sv pieces_here_318, sv some_321, sv joint_323, sv widths_331, sv many_333, sv held_334, .at p_table_336, .any, .any, .any, .any, .any, .any]) (fun _ => rfl) (EQ2.cast (eq_call (ea_cons (ev_var (i := 1) rfl) (ea_cons (ev_var (i := 4) rfl) (ea_cons (ev_var (i := 7) rfl) (ea_cons (ev_var (i := 6) rfl) ea_nil)))) h_r_335) (Option.some.inj h_table_336)) (fun p_table_336 ps_table_336 => (kx_ _ _ ?_)))
    refine SB.seqB (fun kx_339 => sb_if (b := ((!true) || ((!decide ((table_336.length : Int) = (many_333 + (1 : Int)))) || (!decide (held_334 = widths_331))))) (et_or (et_not (et_B (ev_borQ (i := 8) (base := []) (sl' := [sv script_314, sv words_here_316, sv pieces_here_318, sv some_321, sv joint_323, sv widths_331, sv many_333, sv held_334, sv table_336, .any, .any, .any, .any, .any, .any]) rfl rfl rfl (ev_cb (ea_cons (ev_var (i := 8) rfl) (ea_cons (ev_ty "list") ea_nil)) (rc_isi (b := true) (by decide +kernel)))))) (fun _ => (et_or (et_test (ev_borQ (i := 8) (base := []) (sl' := [sv script_314, sv words_here_316, sv pieces_here_318, sv some_321, sv joint_323, sv widths_331, sv many_333, sv held_334, sv table_336, .any, .any, .any, .any, .any, .any]) rfl rfl rfl (ev_op (ev_cb (ea_cons (ev_var (i := 8) rfl) ea_nil) rc_len) (ev_op (ev_var (i := 6) rfl) (ev_int 1) r2_add) r2_neI))) (fun _ => (et_test (ev_op (ev_var (i := 7) rfl) (ev_var (i := 5) rfl) r2_neT)))))) (fun hb_338 => ?_) (fun hb_338 => ?_))
    · have hf := ite_t hb_338 hf
      cases hf
      exact sb_ret (ev_bool false) q (List.nil_sublist _)
    · have hf := ite_f hb_338 hf
      refine sb_nx ?_
      refine kx_339 _ _ ?_
      obtain ⟨i_341, h_i_341, hf⟩ := bind_some hf
      obtain ⟨rep_342, h_rep_342, hf⟩ := bind_some hf
      obtain ⟨cat_343, h_cat_343, hf⟩ := bind_some hf
      refine SB.seqB (fun kx_345 => sb_if (b := (!Qe.qe i_341 cat_343)) (et_test (ev_borQ (i := 8) (base := []) (sl' := [sv script_314, sv words_here_316, sv pieces_here_318, sv some_321, sv joint_323, sv widths_331, sv many_333, sv held_334, sv table_336, .any, .any, .any, .any, .any, .any]) rfl rfl rfl (ev_op (ev_op (ev_var (i := 8) rfl) (ev_int 0) (r2_ixL h_i_341)) (EN.ev (en_op (EN.ev (en_lst (el_cons (ev_some (ev_int 0)) el_nil))) (EN.ev (en_op (EN.ev (en_lst (el_cons ev_none el_nil))) (ev_cb (ea_cons (ev_var (i := 2) rfl) ea_nil) rc_len) (r2_repO h_rep_342))) (r2_catO h_cat_343))) r2_neQ))) (fun hb_344 => ?_) (fun hb_344 => ?_))
      · have hf := ite_t hb_344 hf
        cases hf
        exact sb_ret (ev_bool false) q (List.nil_sublist _)
      · have hf := ite_f hb_344 hf
        refine sb_nx ?_
        refine kx_345 _ _ ?_
        obtain ⟨rg_346, h_rg_346, hf⟩ := bind_some hf
        obtain ⟨tot_352, h_tot_352, hf⟩ := bind_some hf
        refine SB.seqB (fun kx_367 => sb_for (β := Int) (Sx := Unit) (fun s => [sv script_314, sv words_here_316, sv pieces_here_318, sv some_321, sv joint_323, sv widths_331, sv many_333, sv held_334, .at p_table_336, .any, .any, .any, .any, .any, .any]) (fun s => ([] ++ gridO p_table_336 ps_table_336 table_336)) (fun x s => [sv script_314, sv words_here_316, sv pieces_here_318, sv some_321, sv joint_323, sv widths_331, sv many_333, sv held_334, .at p_table_336, sv x, .any, .any, .any, .any, .any]) [9] (fun xs s => forC (m_law_L1 pieces_here_318 joint_323 widths_331 table_336) xs s = some tot_352) () (IT.m (it_rng1 (ea_cons (ev_var (i := 6) rfl) ea_nil) h_rg_346)) h_tot_352 (.keep (.keep (.keep (.keep (.keep (.keep (.keep (.keep (.keep (.keep (.keep (.keep (.keep (.keep (.keep .nil))))))))))))))) (List.Sublist.refl _) (fun x s => (gt_name rfl)) ?_ ?_)
        · intro Kn1 b1 row_347 rest_ s_ hP_349 N_ hN_348
          obtain ⟨c_, hc_350, hP_349⟩ := bind_some hP_349
          have q_351 := q.base b1
          unfold m_law_L1 at hc_350
          refine SB.is (sl' := [sv script_314, sv words_here_316, sv pieces_here_318, sv some_321, sv joint_323, sv widths_331, sv many_333, sv held_334, .at p_table_336, sv row_347, .any, .any, .any, .any, .any]) (ow1 := ([] ++ gridO p_table_336 ps_table_336 table_336)) rfl rfl ?_
          obtain ⟨i_353, h_i_353, hc_350⟩ := bind_some hc_350
          obtain ⟨width_354, h_width_354, hc_350⟩ := bind_some hc_350
          refine SB.seqB (fun kx_ => sb_asg (sl' := [sv script_314, sv words_here_316, sv pieces_here_318, sv some_321, sv joint_323, sv widths_331, sv many_333, sv held_334, .at p_table_336, sv row_347, sv width_354, .any, .any, .any, .any]) rfl (EV.cast (ev_op (ev_var (i := 5) rfl) (ev_cb (ea_cons (ev_var (i := 9) rfl) (ea_cons (ev_op (ev_cb (ea_cons (ev_var (i := 5) rfl) ea_nil) rc_len) (ev_int 1) r2_sub) ea_nil)) rc_min) (r2_ixL h_i_353)) (Option.some.inj h_width_354)) (kx_ _ _ ?_))
          obtain ⟨rg_355, h_rg_355, hc_350⟩ := bind_some hc_350
          obtain ⟨zs_357, h_zs_357, hc_350⟩ := bind_some hc_350
          obtain ⟨due_here_360, h_due_here_360, hc_350⟩ := bind_some hc_350
          refine SB.seqB (fun kx_ => sb_asg (sl' := [sv script_314, sv words_here_316, sv pieces_here_318, sv some_321, sv joint_323, sv widths_331, sv many_333, sv held_334, .at p_table_336, sv row_347, sv width_354, sv due_here_360, .any, .any, .any]) rfl (EV.cast (EN.ev (en_borQ (i := 8) (base := []) (sl' := [sv script_314, sv words_here_316, sv pieces_here_318, sv some_321, sv joint_323, sv widths_331, sv many_333, sv held_334, sv table_336, sv row_347, sv width_354, .any, .any, .any, .any]) rfl rfl rfl (en_lc (js := [14]) (fun x => [sv script_314, sv words_here_316, sv pieces_here_318, sv some_321, sv joint_323, sv widths_331, sv many_333, sv held_334, sv table_336, sv row_347, sv width_354, .any, .any, .any, sv x]) h_zs_357 (it_rng1 (ea_cons (ev_op (ev_cb (ea_cons (ev_var (i := 2) rfl) ea_nil) rc_len) (ev_int 1) r2_add) ea_nil) h_rg_355) (anyAt_of (by rfl)) (fun x => (gt_name rfl)) (sub_of (by rfl)) (fun _ _ x b h => by cases h; exact et_yes) (fun _ _ x z _ h => by obtain ⟨till_356, hx_⟩ : ∃ y, y = x := ⟨x, rfl⟩; subst hx_; obtain ⟨i_358, h_i_358, h⟩ := bind_some h; obtain ⟨r_359, h_r_359, h⟩ := bind_some h; have hz_ := Option.some.inj h; subst hz_; exact EV.is (sl' := [sv script_314, sv words_here_316, sv pieces_here_318, sv some_321, sv joint_323, sv widths_331, sv many_333, sv held_334, sv table_336, sv row_347, sv width_354, .any, .any, .any, sv till_356]) rfl (ev_call (ea_cons (ev_var (i := 2) rfl) (ea_cons (ev_var (i := 4) rfl) (ea_cons (ev_var (i := 10) rfl) (ea_cons (ev_op (ev_var (i := 8) rfl) (ev_var (i := 9) rfl) (r2_ixL h_i_358)) (ea_cons (ev_var (i := 14) rfl) ea_nil))))) h_r_359))))) (Option.some.inj h_due_here_360)) (kx_ _ _ ?_))
          obtain ⟨i_362, h_i_362, hc_350⟩ := bind_some hc_350
          obtain ⟨b_364, h_b_364, hc_350⟩ := bind_some hc_350
          refine sb_if (b := b_364) (et_orO h_b_364 (et_not (et_B (ev_borQ (i := 8) (base := []) (sl' := [sv script_314, sv words_here_316, sv pieces_here_318, sv some_321, sv joint_323, sv widths_331, sv many_333, sv held_334, sv table_336, sv row_347, sv width_354, sv due_here_360, .any, .any, .any]) rfl rfl rfl (ev_cb (ea_cons (ev_op (ev_var (i := 8) rfl) (ev_op (ev_var (i := 9) rfl) (ev_int 1) r2_add) (r2_ixL h_i_362)) (ea_cons (ev_ty "list") ea_nil)) (rc_isi (b := true) (by decide +kernel)))))) (fun _ _ h => by obtain ⟨i_363, h_i_363, h⟩ := bind_some h; have hz_ := Option.some.inj h; subst hz_; exact (et_test (ev_borQ (i := 8) (base := []) (sl' := [sv script_314, sv words_here_316, sv pieces_here_318, sv some_321, sv joint_323, sv widths_331, sv many_333, sv held_334, sv table_336, sv row_347, sv width_354, sv due_here_360, .any, .any, .any]) rfl rfl rfl (ev_op (ev_op (ev_var (i := 8) rfl) (ev_op (ev_var (i := 9) rfl) (ev_int 1) r2_add) (r2_ixL h_i_363)) (ev_var (i := 11) rfl) r2_neQ))))) (fun hb_365 => ?_) (fun hb_365 => ?_)
          · have hc_350 := ite_t hb_365 hc_350
            cases hc_350
            replace hP_349 : some (Ctl.rt false) = some tot_352 := hP_349
            cases hP_349
            replace hf : some false = some r_ := hf
            cases hf
            exact sb_ret (ev_bool false) q_351 (List.nil_sublist _)
          · have hc_350 := ite_f hb_365 hc_350
            refine sb_nx ?_
            cases hc_350
            exact fun σ Kn H s => hN_348 _ hP_349 σ Kn H ((s.le (.keep (.keep (.keep (.keep (.keep (.keep (.keep (.keep (.keep (.drop (.drop (.drop (.keep (.keep (.keep .nil)))))))))))))))).sub (List.Sublist.refl _))
        · intro s_ h0
          cases h0
          refine kx_367 _ _ ?_
          refine SB.is (sl' := [sv script_314, sv words_here_316, sv pieces_here_318, sv some_321, sv joint_323, sv widths_331, sv many_333, sv held_334, .at p_table_336, .any, .any, .any, .any, .any, .any]) (ow1 := ([] ++ gridO p_table_336 ps_table_336 table_336)) rfl rfl ?_
          obtain ⟨zs_369, h_zs_369, hf⟩ := bind_some hf
          obtain ⟨due_here_370, h_due_here_370, hf⟩ := bind_some hf
          refine SB.seqB (fun kx_ => sb_asg (sl' := [sv script_314, sv words_here_316, sv pieces_here_318, sv some_321, sv joint_323, sv widths_331, sv many_333, sv held_334, .at p_table_336, .any, .any, sv due_here_370, .any, .any, .any]) rfl (EV.cast (EQ2.ev (eq_borQ (i := 8) (base := []) (sl' := [sv script_314, sv words_here_316, sv pieces_here_318, sv some_321, sv joint_323, sv widths_331, sv many_333, sv held_334, sv table_336, .any, .any, .any, .any, .any, .any]) rfl rfl rfl (eq_lcQ (js := [12]) (fun x => [sv script_314, sv words_here_316, sv pieces_here_318, sv some_321, sv joint_323, sv widths_331, sv many_333, sv held_334, sv table_336, .any, .any, .any, sv x, .any, .any]) h_zs_369 (it_list (ev_var (i := 8) rfl)) (anyAt_of (by rfl)) (fun x => (gt_name rfl)) (sub_of (by rfl)) (fun _ x b h => by cases h; exact et_yes) (fun _ x z _ h => by obtain ⟨costs_368, hx_⟩ : ∃ y, y = x := ⟨x, rfl⟩; subst hx_; have hz_ := Option.some.inj h; subst hz_; exact EN.is (sl' := [sv script_314, sv words_here_316, sv pieces_here_318, sv some_321, sv joint_323, sv widths_331, sv many_333, sv held_334, sv table_336, .any, .any, .any, sv costs_368, .any, .any]) rfl (en_cb (ea_cons (ev_var (i := 12) rfl) ea_nil) rc_list))))) (Option.some.inj h_due_here_370)) (kx_ _ _ ?_))
          obtain ⟨table_371, h_table_371, hf⟩ := bind_some hf
          refine SB.seqB (fun kx_ => sb_appRow (i := 8) (base := []) rfl rfl (ev_int 0) (ev_some (ev_int 7)) h_table_371 (kx_ _ _ ?_))
          obtain ⟨table_372, h_table_372, hf⟩ := bind_some hf
          refine SB.seqB (fun kx_ => sb_clrRow (i := 8) (base := []) rfl rfl (ev_int 1) h_table_372 (kx_ _ _ ?_))
          obtain ⟨r_373, h_r_373, hf⟩ := bind_some hf
          cases hf
          exact sb_ret (ev_op (EQ2.ev (eq_call (ea_cons (ev_var (i := 1) rfl) (ea_cons (ev_var (i := 4) rfl) (ea_cons (ev_var (i := 5) rfl) (ea_cons (ev_var (i := 6) rfl) ea_nil)))) h_r_373)) (ev_var (i := 11) rfl) r2_eqQ) q (List.nil_sublist _)
end
theorem all_mk (main : ∀ ns : List Int, ns.length ≤ 63 → m_law (Fz.mk ns) = some true) {l : PySem.W.OpenLaw} {w : World} {K : Fg} {h : Heap} {mg : Str → Option Value} {fa f_flat f_width_at f_reaches f_is_barred f_put_less f_next_costs f_table_of f__law_cell_at f__law_numbers f__law_words f__law_pieces f__law_size f__law_due f_law : Addr} (X : K.In h) (G : h.Ns mainGlobals mg) (hfa : mg "law" = some (.ref fa))
     {od_flat an_flat : Option Addr} {sl_flat : Array (Option Value)} {oc_flat kV_flat dc_flat pm_flat cd_flat ct_flat : Value} {od_width_at an_width_at : Option Addr} {sl_width_at : Array (Option Value)} {oc_width_at kV_width_at dc_width_at pm_width_at cd_width_at ct_width_at : Value} {od_reaches an_reaches : Option Addr} {sl_reaches : Array (Option Value)} {oc_reaches kV_reaches dc_reaches pm_reaches cd_reaches ct_reaches : Value} {od_is_barred an_is_barred : Option Addr} {sl_is_barred : Array (Option Value)} {oc_is_barred kV_is_barred dc_is_barred pm_is_barred cd_is_barred ct_is_barred : Value} {od_put_less an_put_less : Option Addr} {sl_put_less : Array (Option Value)} {oc_put_less kV_put_less dc_put_less pm_put_less cd_put_less ct_put_less : Value} {od_next_costs an_next_costs : Option Addr} {sl_next_costs : Array (Option Value)} {oc_next_costs kV_next_costs dc_next_costs pm_next_costs cd_next_costs ct_next_costs : Value} {od_table_of an_table_of : Option Addr} {sl_table_of : Array (Option Value)} {oc_table_of kV_table_of dc_table_of pm_table_of cd_table_of ct_table_of : Value} {od__law_cell_at an__law_cell_at : Option Addr} {sl__law_cell_at : Array (Option Value)} {oc__law_cell_at kV__law_cell_at dc__law_cell_at pm__law_cell_at cd__law_cell_at ct__law_cell_at : Value} {od__law_numbers an__law_numbers : Option Addr} {sl__law_numbers : Array (Option Value)} {oc__law_numbers kV__law_numbers dc__law_numbers pm__law_numbers cd__law_numbers ct__law_numbers : Value} {od__law_words an__law_words : Option Addr} {sl__law_words : Array (Option Value)} {oc__law_words kV__law_words dc__law_words pm__law_words cd__law_words ct__law_words : Value} {od__law_pieces an__law_pieces : Option Addr} {sl__law_pieces : Array (Option Value)} {oc__law_pieces kV__law_pieces dc__law_pieces pm__law_pieces cd__law_pieces ct__law_pieces : Value} {od__law_size an__law_size : Option Addr} {sl__law_size : Array (Option Value)} {oc__law_size kV__law_size dc__law_size pm__law_size cd__law_size ct__law_size : Value} {od__law_due an__law_due : Option Addr} {sl__law_due : Array (Option Value)} {oc__law_due kV__law_due dc__law_due pm__law_due cd__law_due ct__law_due : Value} {od_law an_law : Option Addr} {sl_law : Array (Option Value)} {oc_law kV_law dc_law pm_law cd_law ct_law : Value}
    (a_flat : PySem.W.nsIn K mainGlobals "flat" = some (some (.ref f_flat))) (l_flat : K.lookup f_flat = some ⟨oc_flat, od_flat, .func (PySem.W.fnOf "flat" "flat" (defArgs s_flat) (defBody s_flat) (defScope s_flat) .none kV_flat dc_flat pm_flat an_flat cd_flat ct_flat), sl_flat⟩) (c_flat : PySem.W.codeIn K cd_flat "flat" = true) (k_flat : PySem.W.keepIn K (.ref f_flat) = true)
    (a_width_at : PySem.W.nsIn K mainGlobals "width_at" = some (some (.ref f_width_at))) (l_width_at : K.lookup f_width_at = some ⟨oc_width_at, od_width_at, .func (PySem.W.fnOf "width_at" "width_at" (defArgs s_width_at) (defBody s_width_at) (defScope s_width_at) .none kV_width_at dc_width_at pm_width_at an_width_at cd_width_at ct_width_at), sl_width_at⟩) (c_width_at : PySem.W.codeIn K cd_width_at "width_at" = true) (k_width_at : PySem.W.keepIn K (.ref f_width_at) = true)
    (a_reaches : PySem.W.nsIn K mainGlobals "reaches" = some (some (.ref f_reaches))) (l_reaches : K.lookup f_reaches = some ⟨oc_reaches, od_reaches, .func (PySem.W.fnOf "reaches" "reaches" (defArgs s_reaches) (defBody s_reaches) (defScope s_reaches) .none kV_reaches dc_reaches pm_reaches an_reaches cd_reaches ct_reaches), sl_reaches⟩) (c_reaches : PySem.W.codeIn K cd_reaches "reaches" = true) (k_reaches : PySem.W.keepIn K (.ref f_reaches) = true)
    (a_is_barred : PySem.W.nsIn K mainGlobals "is_barred" = some (some (.ref f_is_barred))) (l_is_barred : K.lookup f_is_barred = some ⟨oc_is_barred, od_is_barred, .func (PySem.W.fnOf "is_barred" "is_barred" (defArgs s_is_barred) (defBody s_is_barred) (defScope s_is_barred) .none kV_is_barred dc_is_barred pm_is_barred an_is_barred cd_is_barred ct_is_barred), sl_is_barred⟩) (c_is_barred : PySem.W.codeIn K cd_is_barred "is_barred" = true) (k_is_barred : PySem.W.keepIn K (.ref f_is_barred) = true)
    (a_put_less : PySem.W.nsIn K mainGlobals "put_less" = some (some (.ref f_put_less))) (l_put_less : K.lookup f_put_less = some ⟨oc_put_less, od_put_less, .func (PySem.W.fnOf "put_less" "put_less" (defArgs s_put_less) (defBody s_put_less) (defScope s_put_less) .none kV_put_less dc_put_less pm_put_less an_put_less cd_put_less ct_put_less), sl_put_less⟩) (c_put_less : PySem.W.codeIn K cd_put_less "put_less" = true) (k_put_less : PySem.W.keepIn K (.ref f_put_less) = true)
    (a_next_costs : PySem.W.nsIn K mainGlobals "next_costs" = some (some (.ref f_next_costs))) (l_next_costs : K.lookup f_next_costs = some ⟨oc_next_costs, od_next_costs, .func (PySem.W.fnOf "next_costs" "next_costs" (defArgs s_next_costs) (defBody s_next_costs) (defScope s_next_costs) .none kV_next_costs dc_next_costs pm_next_costs an_next_costs cd_next_costs ct_next_costs), sl_next_costs⟩) (c_next_costs : PySem.W.codeIn K cd_next_costs "next_costs" = true) (k_next_costs : PySem.W.keepIn K (.ref f_next_costs) = true)
    (a_table_of : PySem.W.nsIn K mainGlobals "table_of" = some (some (.ref f_table_of))) (l_table_of : K.lookup f_table_of = some ⟨oc_table_of, od_table_of, .func (PySem.W.fnOf "table_of" "table_of" (defArgs s_table_of) (defBody s_table_of) (defScope s_table_of) .none kV_table_of dc_table_of pm_table_of an_table_of cd_table_of ct_table_of), sl_table_of⟩) (c_table_of : PySem.W.codeIn K cd_table_of "table_of" = true) (k_table_of : PySem.W.keepIn K (.ref f_table_of) = true)
    (a__law_cell_at : PySem.W.nsIn K mainGlobals "_law_cell_at" = some (some (.ref f__law_cell_at))) (l__law_cell_at : K.lookup f__law_cell_at = some ⟨oc__law_cell_at, od__law_cell_at, .func (PySem.W.fnOf "_law_cell_at" "_law_cell_at" (defArgs s__law_cell_at) (defBody s__law_cell_at) (defScope s__law_cell_at) .none kV__law_cell_at dc__law_cell_at pm__law_cell_at an__law_cell_at cd__law_cell_at ct__law_cell_at), sl__law_cell_at⟩) (c__law_cell_at : PySem.W.codeIn K cd__law_cell_at "_law_cell_at" = true) (k__law_cell_at : PySem.W.keepIn K (.ref f__law_cell_at) = true)
    (a__law_numbers : PySem.W.nsIn K mainGlobals "_law_numbers" = some (some (.ref f__law_numbers))) (l__law_numbers : K.lookup f__law_numbers = some ⟨oc__law_numbers, od__law_numbers, .func (PySem.W.fnOf "_law_numbers" "_law_numbers" (defArgs s__law_numbers) (defBody s__law_numbers) (defScope s__law_numbers) .none kV__law_numbers dc__law_numbers pm__law_numbers an__law_numbers cd__law_numbers ct__law_numbers), sl__law_numbers⟩) (c__law_numbers : PySem.W.codeIn K cd__law_numbers "_law_numbers" = true) (k__law_numbers : PySem.W.keepIn K (.ref f__law_numbers) = true)
    (a__law_words : PySem.W.nsIn K mainGlobals "_law_words" = some (some (.ref f__law_words))) (l__law_words : K.lookup f__law_words = some ⟨oc__law_words, od__law_words, .func (PySem.W.fnOf "_law_words" "_law_words" (defArgs s__law_words) (defBody s__law_words) (defScope s__law_words) .none kV__law_words dc__law_words pm__law_words an__law_words cd__law_words ct__law_words), sl__law_words⟩) (c__law_words : PySem.W.codeIn K cd__law_words "_law_words" = true) (k__law_words : PySem.W.keepIn K (.ref f__law_words) = true)
    (a__law_pieces : PySem.W.nsIn K mainGlobals "_law_pieces" = some (some (.ref f__law_pieces))) (l__law_pieces : K.lookup f__law_pieces = some ⟨oc__law_pieces, od__law_pieces, .func (PySem.W.fnOf "_law_pieces" "_law_pieces" (defArgs s__law_pieces) (defBody s__law_pieces) (defScope s__law_pieces) .none kV__law_pieces dc__law_pieces pm__law_pieces an__law_pieces cd__law_pieces ct__law_pieces), sl__law_pieces⟩) (c__law_pieces : PySem.W.codeIn K cd__law_pieces "_law_pieces" = true) (k__law_pieces : PySem.W.keepIn K (.ref f__law_pieces) = true)
    (a__law_size : PySem.W.nsIn K mainGlobals "_law_size" = some (some (.ref f__law_size))) (l__law_size : K.lookup f__law_size = some ⟨oc__law_size, od__law_size, .func (PySem.W.fnOf "_law_size" "_law_size" (defArgs s__law_size) (defBody s__law_size) (defScope s__law_size) .none kV__law_size dc__law_size pm__law_size an__law_size cd__law_size ct__law_size), sl__law_size⟩) (c__law_size : PySem.W.codeIn K cd__law_size "_law_size" = true) (k__law_size : PySem.W.keepIn K (.ref f__law_size) = true)
    (a__law_due : PySem.W.nsIn K mainGlobals "_law_due" = some (some (.ref f__law_due))) (l__law_due : K.lookup f__law_due = some ⟨oc__law_due, od__law_due, .func (PySem.W.fnOf "_law_due" "_law_due" (defArgs s__law_due) (defBody s__law_due) (defScope s__law_due) .none kV__law_due dc__law_due pm__law_due an__law_due cd__law_due ct__law_due), sl__law_due⟩) (c__law_due : PySem.W.codeIn K cd__law_due "_law_due" = true) (k__law_due : PySem.W.keepIn K (.ref f__law_due) = true)
    (a_law : PySem.W.nsIn K mainGlobals "law" = some (some (.ref f_law))) (l_law : K.lookup f_law = some ⟨oc_law, od_law, .func (PySem.W.fnOf "law" "law" (defArgs s_law) (defBody s_law) (defScope s_law) .none kV_law dc_law pm_law an_law cd_law ct_law), sl_law⟩) (c_law : PySem.W.codeIn K cd_law "law" = true) (k_law : PySem.W.keepIn K (.ref f_law) = true)
    (z_enumerate : PySem.W.nsIn K mainGlobals "enumerate" = some none)
    (z_int : PySem.W.nsIn K mainGlobals "int" = some none)
    (z_isinstance : PySem.W.nsIn K mainGlobals "isinstance" = some none)
    (z_len : PySem.W.nsIn K mainGlobals "len" = some none)
    (z_list : PySem.W.nsIn K mainGlobals "list" = some none)
    (z_min : PySem.W.nsIn K mainGlobals "min" = some none)
    (z_range : PySem.W.nsIn K mainGlobals "range" = some none)
    (z_tuple : PySem.W.nsIn K mainGlobals "tuple" = some none) :
    ∃ fd : FuncData, (∀ (s : Shared) (v : Value), BindsTo s fd ⟨[v], []⟩ [("_law_script", v)]) ∧ ∀ base : Heap, K.In base → base.Ns mainGlobals mg → FnOk l.prog w K mg base CX0 4 fa fd ["_law_script"] (spLaw K) := by
  have e := hfa.symm.trans (PySem.W.mg_of X G a_law)
  cases e
  have F_flat := fun_mk (st := s_flat) l_flat c_flat k_flat
  have F_width_at := fun_mk (st := s_width_at) l_width_at c_width_at k_width_at
  have F_reaches := fun_mk (st := s_reaches) l_reaches c_reaches k_reaches
  have F_is_barred := fun_mk (st := s_is_barred) l_is_barred c_is_barred k_is_barred
  have F_put_less := fun_mk (st := s_put_less) l_put_less c_put_less k_put_less
  have F_next_costs := fun_mk (st := s_next_costs) l_next_costs c_next_costs k_next_costs
  have F_table_of := fun_mk (st := s_table_of) l_table_of c_table_of k_table_of
  have F__law_cell_at := fun_mk (st := s__law_cell_at) l__law_cell_at c__law_cell_at k__law_cell_at
  have F__law_numbers := fun_mk (st := s__law_numbers) l__law_numbers c__law_numbers k__law_numbers
  have F__law_words := fun_mk (st := s__law_words) l__law_words c__law_words k__law_words
  have F__law_pieces := fun_mk (st := s__law_pieces) l__law_pieces c__law_pieces k__law_pieces
  have F__law_size := fun_mk (st := s__law_size) l__law_size c__law_size k__law_size
  have F__law_due := fun_mk (st := s__law_due) l__law_due c__law_due k__law_due
  have F_law := fun_mk (st := s_law) l_law c_law k_law
  have b_flat := F_flat.binds (ps := ["words"]) fun _ _ _ _ _ _ us hl => match us, hl with | [_], _ => rfl
  have b_width_at := F_width_at.binds (ps := ["widths", "row"]) fun _ _ _ _ _ _ us hl => match us, hl with | [_, _], _ => rfl
  have b_reaches := F_reaches.binds (ps := ["pieces", "first", "width"]) fun _ _ _ _ _ _ us hl => match us, hl with | [_, _, _], _ => rfl
  have b_is_barred := F_is_barred.binds (ps := ["pieces", "place", "width"]) fun _ _ _ _ _ _ us hl => match us, hl with | [_, _, _], _ => rfl
  have b_put_less := F_put_less.binds (ps := ["told", "place", "cost"]) fun _ _ _ _ _ _ us hl => match us, hl with | [_, _, _], _ => rfl
  have b_next_costs := F_next_costs.binds (ps := ["pieces", "joint", "width", "costs"]) fun _ _ _ _ _ _ us hl => match us, hl with | [_, _, _, _], _ => rfl
  have b_table_of := F_table_of.binds (ps := ["words", "joint", "widths", "many"]) fun _ _ _ _ _ _ us hl => match us, hl with | [_, _, _, _], _ => rfl
  have b__law_cell_at := F__law_cell_at.binds (ps := ["_law_script", "_law_k"]) fun _ _ _ _ _ _ us hl => match us, hl with | [_, _], _ => rfl
  have b__law_numbers := F__law_numbers.binds (ps := ["_law_cell", "_law_many"]) fun _ _ _ _ _ _ us hl => match us, hl with | [_, _], _ => rfl
  have b__law_words := F__law_words.binds (ps := ["_law_cells"]) fun _ _ _ _ _ _ us hl => match us, hl with | [_], _ => rfl
  have b__law_pieces := F__law_pieces.binds (ps := ["_law_words_here"]) fun _ _ _ _ _ _ us hl => match us, hl with | [_], _ => rfl
  have b__law_size := F__law_size.binds (ps := ["_law_pieces_here", "_law_first", "_law_till"]) fun _ _ _ _ _ _ us hl => match us, hl with | [_, _, _], _ => rfl
  have b__law_due := F__law_due.binds (ps := ["_law_pieces_here", "_law_joint", "_law_width", "_law_costs", "_law_till"]) fun _ _ _ _ _ _ us hl => match us, hl with | [_, _, _, _, _], _ => rfl
  have b_law := F_law.binds (ps := ["_law_script"]) fun _ _ _ _ _ _ us hl => match us, hl with | [_], _ => rfl
  let T : TX K mg w := ⟨_, _, F_flat, b_flat, PySem.W.mg_of X G a_flat, _, _, F_width_at, b_width_at, PySem.W.mg_of X G a_width_at, _, _, F_reaches, b_reaches, PySem.W.mg_of X G a_reaches, _, _, F_is_barred, b_is_barred, PySem.W.mg_of X G a_is_barred, _, _, F_put_less, b_put_less, PySem.W.mg_of X G a_put_less, _, _, F_next_costs, b_next_costs, PySem.W.mg_of X G a_next_costs, _, _, F_table_of, b_table_of, PySem.W.mg_of X G a_table_of, _, _, F__law_cell_at, b__law_cell_at, PySem.W.mg_of X G a__law_cell_at, _, _, F__law_numbers, b__law_numbers, PySem.W.mg_of X G a__law_numbers, _, _, F__law_words, b__law_words, PySem.W.mg_of X G a__law_words, _, _, F__law_pieces, b__law_pieces, PySem.W.mg_of X G a__law_pieces, _, _, F__law_size, b__law_size, PySem.W.mg_of X G a__law_size, _, _, F__law_due, b__law_due, PySem.W.mg_of X G a__law_due, _, _, F_law, b_law, PySem.W.mg_of X G a_law, PySem.W.mg_none_of X G z_enumerate, PySem.W.mg_none_of X G z_int, PySem.W.mg_none_of X G z_isinstance, PySem.W.mg_none_of X G z_len, PySem.W.mg_none_of X G z_list, PySem.W.mg_none_of X G z_min, PySem.W.mg_none_of X G z_range, PySem.W.mg_none_of X G z_tuple⟩
  refine ⟨PySem.W.fnOf "law" "law" (defArgs s_law) (defBody s_law) (defScope s_law) .none kV_law dc_law pm_law an_law cd_law ct_law, fun s v => .of_eq rfl, fun base _ _ => ?_⟩
  exact fn_weak (ok_law T) main
end Wk62
/-! Wp: plain facts about the mirrors' words -/
namespace Wk
open PySem L2

theorem bs {α β : Type} (a : α) (f : α → Option β) : (some a).bind f = f a := by rw [Option.bind_some]
theorem bind_ok {α β : Type} {m : Option α} {f : α → Option β} {a : α} (h : m = some a) : m.bind f = f a := by rw [h]; rfl
theorem atI_ok {α : Type} {xs : List α} {i : Int} (h0 : 0 ≤ i) (h : i < xs.length) : atI xs i = xs[i.toNat]? := by
  obtain ⟨k, rfl⟩ := Int.eq_ofNat_of_zero_le h0
  have hk : k < xs.length := by omega
  have e : xs[k]? = some xs[k] := List.getElem?_eq_getElem hk
  rw [show ((k : Int)).toNat = k from rfl, e]
  exact atI_nat e
theorem atI_some {α : Type} {xs : List α} {i : Int} (h0 : 0 ≤ i) (h : i < xs.length) : ∃ x, atI xs i = some x ∧ xs[i.toNat]? = some x := by
  have hk : i.toNat < xs.length := by omega
  exact ⟨xs[i.toNat], by rw [atI_ok h0 h]; exact List.getElem?_eq_getElem hk, List.getElem?_eq_getElem hk⟩
theorem pick2 {α : Type} (x y : α) {k : Int} (h0 : 0 ≤ k) (h : k < 2) : atI [x, y] k = some (if k = 0 then x else y) := by
  rcases (show k = 0 ∨ k = 1 by omega) with rfl | rfl <;> rfl
theorem pick3 {α : Type} (x y z : α) {k : Int} (h0 : 0 ≤ k) (h : k < 3) : atI [x, y, z] k = some (if k = 0 then x else if k = 1 then y else z) := by
  rcases (show k = 0 ∨ k = 1 ∨ k = 2 by omega) with rfl | rfl | rfl <;> rfl
theorem pick4 {α : Type} (x y z u : α) {k : Int} (h0 : 0 ≤ k) (h : k < 4) : atI [x, y, z, u] k = some (if k = 0 then x else if k = 1 then y else if k = 2 then z else u) := by
  rcases (show k = 0 ∨ k = 1 ∨ k = 2 ∨ k = 3 by omega) with rfl | rfl | rfl | rfl <;> rfl
theorem forC_all {β R : Type} {f : β → Unit → Option (Ctl Unit R)} : ∀ {xs : List β}, (∀ x ∈ xs, f x () = some (.nx ())) → forC f xs () = some (.nx ())
  | [], _ => rfl
  | x :: xs, h => by
    unfold forC
    rw [h x List.mem_cons_self]
    exact forC_all fun y hy => h y (List.mem_cons_of_mem _ hy)
/-- a loop that always goes on, by an invariant -/
theorem forC_inv {β Sx R : Type} {f : β → Sx → Option (Ctl Sx R)} (I : List β → Sx → Prop) : ∀ {xs : List β} {s : Sx}, I xs s → (∀ x rest s, I (x :: rest) s → ∃ s', f x s = some (.nx s') ∧ I rest s') → ∃ s', forC f xs s = some (.nx s') ∧ I [] s'
  | [], s, h, _ => ⟨s, rfl, h⟩
  | x :: xs, s, h, hs => by
    obtain ⟨s', e, h'⟩ := hs x xs s h
    obtain ⟨s2, e2, h2⟩ := forC_inv I h' hs
    refine ⟨s2, ?_, h2⟩
    unfold forC
    rw [e]
    exact e2
theorem forS_inv {β Sx : Type} {f : β → Sx → Option Sx} (I : List β → Sx → Prop) : ∀ {xs : List β} {s : Sx}, I xs s → (∀ x rest s, I (x :: rest) s → ∃ s', f x s = some s' ∧ I rest s') → ∃ s', forS f xs s = some s' ∧ I [] s'
  | [], s, h, _ => ⟨s, rfl, h⟩
  | x :: xs, s, h, hs => by
    obtain ⟨s', e, h'⟩ := hs x xs s h
    obtain ⟨s2, e2, h2⟩ := forS_inv I h' hs
    refine ⟨s2, ?_, h2⟩
    unfold forS
    rw [e]
    exact e2
/-- a loop as a fold -/
theorem forS_fold {β Sx : Type} {f : β → Sx → Option Sx} (g : Sx → β → Sx) (I : List β → Sx → Prop) : ∀ {xs : List β} {s : Sx}, I xs s → (∀ x rest s, I (x :: rest) s → f x s = some (g s x) ∧ I rest (g s x)) → forS f xs s = some (xs.foldl g s)
  | [], s, h, _ => rfl
  | x :: xs, s, h, hs => by
    obtain ⟨e, h'⟩ := hs x xs s h
    unfold forS
    rw [e]
    exact forS_fold g I h' hs
theorem forS_cons {β Sx : Type} {f : β → Sx → Option Sx} {x : β} {xs : List β} {s s' : Sx} (h : f x s = some s') : forS f (x :: xs) s = forS f xs s' := by
  show ((f x s).bind _) = _
  rw [h]
  rfl
theorem forC_cons {β Sx R : Type} {f : β → Sx → Option (Ctl Sx R)} {x : β} {xs : List β} {s s' : Sx} (h : f x s = some (.nx s')) : forC f (x :: xs) s = forC f xs s' := by
  show ((f x s).bind _) = _
  rw [h]
  rfl
/-- by places -/
theorem forS_ix {β Sx : Type} {f : β → Sx → Option Sx} {xs : List β} (P : Nat → Sx → Prop) {s : Sx} (h0 : P 0 s) (step : ∀ (i : Nat) (hi : i < xs.length) s, P i s → ∃ s', f xs[i] s = some s' ∧ P (i + 1) s') : ∃ s', forS f xs s = some s' ∧ P xs.length s' := by
  have key : ∀ (m i : Nat) (s : Sx), i + m = xs.length → P i s → ∃ s', forS f (xs.drop i) s = some s' ∧ P xs.length s' := by
    intro m
    induction m with
    | zero =>
      intro i s hi hp
      have e : i = xs.length := by omega
      subst e
      rw [List.drop_length]
      exact ⟨s, rfl, hp⟩
    | succ m ih =>
      intro i s hi hp
      have hl : i < xs.length := by omega
      obtain ⟨s', e, hp'⟩ := step i hl s hp
      obtain ⟨r, e2, h2⟩ := ih (i + 1) s' (by omega) hp'
      refine ⟨r, ?_, h2⟩
      rw [List.drop_eq_getElem_cons hl, forS_cons e]
      exact e2
  have := key xs.length 0 s (by omega) h0
  rwa [List.drop_zero] at this
theorem forC_ix {β Sx R : Type} {f : β → Sx → Option (Ctl Sx R)} {xs : List β} (P : Nat → Sx → Prop) {s : Sx} (h0 : P 0 s) (step : ∀ (i : Nat) (hi : i < xs.length) s, P i s → ∃ s', f xs[i] s = some (.nx s') ∧ P (i + 1) s') : ∃ s', forC f xs s = some (.nx s') ∧ P xs.length s' := by
  have key : ∀ (m i : Nat) (s : Sx), i + m = xs.length → P i s → ∃ s', forC f (xs.drop i) s = some (.nx s') ∧ P xs.length s' := by
    intro m
    induction m with
    | zero =>
      intro i s hi hp
      have e : i = xs.length := by omega
      subst e
      rw [List.drop_length]
      exact ⟨s, rfl, hp⟩
    | succ m ih =>
      intro i s hi hp
      have hl : i < xs.length := by omega
      obtain ⟨s', e, hp'⟩ := step i hl s hp
      obtain ⟨r, e2, h2⟩ := ih (i + 1) s' (by omega) hp'
      refine ⟨r, ?_, h2⟩
      rw [List.drop_eq_getElem_cons hl, forC_cons e]
      exact e2
  have := key xs.length 0 s (by omega) h0
  rwa [List.drop_zero] at this
/-- two loops over one list, turn by turn -/
theorem forS2_ix {β S1 S2 : Type} {f1 : β → S1 → Option S1} {f2 : β → S2 → Option S2} {xs : List β} (P : Nat → S1 → S2 → Prop) {s1 : S1} {s2 : S2} (h0 : P 0 s1 s2)
    (step : ∀ (i : Nat) (hi : i < xs.length) s1 s2, P i s1 s2 → ∃ s1' s2', f1 xs[i] s1 = some s1' ∧ f2 xs[i] s2 = some s2' ∧ P (i + 1) s1' s2') : ∃ r1 r2, forS f1 xs s1 = some r1 ∧ forS f2 xs s2 = some r2 ∧ P xs.length r1 r2 := by
  have key : ∀ (m i : Nat) (s1 : S1) (s2 : S2), i + m = xs.length → P i s1 s2 → ∃ r1 r2, forS f1 (xs.drop i) s1 = some r1 ∧ forS f2 (xs.drop i) s2 = some r2 ∧ P xs.length r1 r2 := by
    intro m
    induction m with
    | zero =>
      intro i s1 s2 hi hp
      have e : i = xs.length := by omega
      subst e
      rw [List.drop_length]
      exact ⟨s1, s2, rfl, rfl, hp⟩
    | succ m ih =>
      intro i s1 s2 hi hp
      have hl : i < xs.length := by omega
      obtain ⟨a, b, e1, e2, hp'⟩ := step i hl s1 s2 hp
      obtain ⟨r1, r2, h1, h2, h3⟩ := ih (i + 1) a b (by omega) hp'
      refine ⟨r1, r2, ?_, ?_, h3⟩
      · rw [List.drop_eq_getElem_cons hl, forS_cons e1]
        exact h1
      · rw [List.drop_eq_getElem_cons hl, forS_cons e2]
        exact h2
  have := key xs.length 0 s1 s2 (by omega) h0
  rwa [List.drop_zero] at this
theorem enumI_at {α : Type} (xs : List α) (i : Nat) (hi : i < (enumI xs).length) : (enumI xs)[i] = ((i : Int), xs[i]'(by simpa [enumI] using hi), ()) := by simp [enumI]
theorem whileS_inv {Sx : Type} {c : Sx → Option Bool} {f : Sx → Option Sx} (I : Sx → Prop) (μ : Sx → Nat) (step : ∀ s, I s → ∃ b, c s = some b ∧ (b = true → ∃ s', f s = some s' ∧ I s' ∧ μ s' < μ s)) :
    ∀ (n : Nat) {s : Sx}, I s → μ s < n → ∃ s', whileS c f n s = some s' ∧ I s' ∧ c s' = some false
  | 0, _, _, h => absurd h (Nat.not_lt_zero _)
  | n + 1, s, hI, hn => by
    obtain ⟨b, hb, hs⟩ := step s hI
    unfold whileS
    rw [hb]
    cases b with
    | false => exact ⟨s, rfl, hI, hb⟩
    | true =>
      obtain ⟨s', e, hI', hm⟩ := hs rfl
      obtain ⟨s2, e2, h2⟩ := whileS_inv I μ step n hI' (by omega)
      refine ⟨s2, ?_, h2⟩
      show ((f s).bind _) = _
      rw [e]
      exact e2
theorem whileF_inv {Sx : Type} {c : Sx → Option Bool} {f : Sx → Option Sx} (I : Sx → Prop) (μ : Sx → Nat) (step : ∀ s, I s → ∃ b, c s = some b ∧ (b = true → ∃ s', f s = some s' ∧ I s' ∧ μ s' < μ s)) {s : Sx} (h : I s) :
    ∃ s', whileF c f s = some s' ∧ I s' ∧ c s' = some false := by
  obtain ⟨s', e, h1, h2⟩ := whileS_inv I μ step (μ s + 1) h (Nat.lt_succ_self _)
  exact ⟨s', whileF_of e, h1, h2⟩
theorem cut_len {α : Type} (xs : List α) (lo hi : Option Int) : (cut xs lo hi).length ≤ xs.length := by
  unfold cut
  rw [List.length_take, List.length_drop]
  omega
theorem cut_mem {α : Type} {xs : List α} {lo hi : Option Int} {x : α} (h : x ∈ cut xs lo hi) : x ∈ xs := List.mem_of_mem_drop (List.mem_of_mem_take h)
theorem cut_from {α : Type} (xs : List α) (k : Nat) : cut xs (some (k : Int)) none = xs.drop k := by
  unfold cut
  rw [HT.sIx_nat, HT.sIx_none]
  by_cases h : k ≤ xs.length
  · rw [Nat.min_eq_left h, List.take_of_length_le (by rw [List.length_drop]; omega)]
  · rw [Nat.min_eq_right (by omega), List.drop_eq_nil_of_le (Nat.le_refl _), List.drop_eq_nil_of_le (show xs.length ≤ k by omega)]
    exact List.take_nil
theorem cut_to {α : Type} (xs : List α) (k : Nat) : cut xs none (some (k : Int)) = xs.take k := by
  unfold cut
  rw [HT.sIx_nat, HT.sIx_none, List.drop_zero, Nat.sub_zero]
  by_cases h : k ≤ xs.length
  · rw [Nat.min_eq_left h]
  · rw [Nat.min_eq_right (by omega), List.take_of_length_le (Nat.le_refl _), List.take_of_length_le (by omega)]
theorem rngO_ok {lo hi : Int} (h1 : -1000000000000 ≤ lo) (h2 : lo ≤ 1000000000000) (h3 : -1000000000000 ≤ hi) (h4 : hi ≤ 1000000000000) : rngO lo hi = some (irange lo hi) := if_pos ⟨h1, h2, h3, h4⟩
theorem irange_len (lo hi : Int) : (irange lo hi).length = (hi - lo).toNat := by simp [irange]
theorem enumI_len {α : Type} (xs : List α) : (enumI xs).length = xs.length := by simp [enumI]
theorem lcM_len {β γ : Type} {c : β → Option Bool} {f : β → Option γ} {xs : List β} (h : xs.length < 1000000) : lcM c f xs = lcGo c f xs := if_pos h
theorem lcGo_all {β γ : Type} {f : β → Option γ} (g : β → γ) : ∀ {xs : List β}, (∀ x ∈ xs, f x = some (g x)) → lcGo (fun _ => some true) f xs = some (xs.map g)
  | [], _ => rfl
  | x :: xs, h => by
    unfold lcGo
    show ((f x).bind _) = _
    rw [h x List.mem_cons_self, lcGo_all g fun y hy => h y (List.mem_cons_of_mem _ hy)]
    rfl
theorem lcGo_if {β γ : Type} {c : β → Option Bool} {f : β → Option γ} (p : β → Bool) (g : β → γ) : ∀ {xs : List β}, (∀ x ∈ xs, c x = some (p x)) → (∀ x ∈ xs, p x = true → f x = some (g x)) → lcGo c f xs = some ((xs.filter p).map g)
  | [], _, _ => rfl
  | x :: xs, hc, h => by
    unfold lcGo
    rw [hc x List.mem_cons_self]
    have ih := lcGo_if p g (xs := xs) (fun y hy => hc y (List.mem_cons_of_mem _ hy)) (fun y hy => h y (List.mem_cons_of_mem _ hy))
    cases e : p x with
    | true =>
      show ((f x).bind _) = _
      rw [h x List.mem_cons_self e, ih, List.filter_cons_of_pos e]
      rfl
    | false =>
      show lcGo c f xs = _
      rw [ih, List.filter_cons_of_neg (by rw [e]; exact Bool.false_ne_true)]
theorem lcM_all {β γ : Type} {f : β → Option γ} (g : β → γ) {xs : List β} (hl : xs.length < 1000000) (h : ∀ x ∈ xs, f x = some (g x)) : lcM (fun _ => some true) f xs = some (xs.map g) := by
  rw [lcM_len hl, lcGo_all g h]
/-- draws, one an item -/
theorem lcSGo_inv {β γ Sx : Type} {f : β → Sx → Option (γ × Sx)} (I : Sx → Prop) (P : γ → Prop) (step : ∀ x s, I s → ∃ z s', f x s = some (z, s') ∧ I s' ∧ P z) :
    ∀ {xs : List β} {s : Sx}, I s → ∃ zs s', lcSGo f xs s = some (zs, s') ∧ I s' ∧ zs.length = xs.length ∧ ∀ z ∈ zs, P z
  | [], s, h => ⟨[], s, rfl, h, rfl, fun _ hz => nomatch hz⟩
  | x :: xs, s, h => by
    obtain ⟨z, s', e, h', hp⟩ := step x s h
    obtain ⟨zs, s2, e2, h2, hl, hz⟩ := lcSGo_inv I P step (xs := xs) h'
    refine ⟨z :: zs, s2, ?_, h2, by rw [List.length_cons, List.length_cons, hl], fun y hy => ?_⟩
    · unfold lcSGo
      rw [e]
      show ((lcSGo f xs s').bind _) = _
      rw [e2]
      rfl
    · rcases List.mem_cons.mp hy with rfl | hy
      · exact hp
      · exact hz y hy
theorem lcS_inv {β γ Sx : Type} {f : β → Sx → Option (γ × Sx)} (I : Sx → Prop) (P : γ → Prop) (step : ∀ x s, I s → ∃ z s', f x s = some (z, s') ∧ I s' ∧ P z) {xs : List β} {s : Sx} (hl : xs.length < 1000000) (h : I s) :
    ∃ zs s', lcS f xs s = some (zs, s') ∧ I s' ∧ zs.length = xs.length ∧ ∀ z ∈ zs, P z := by
  unfold lcS
  rw [if_pos hl]
  exact lcSGo_inv I P step h
theorem forS_app {β γ : Type} {f : β → List γ → Option (List γ)} (g : β → γ) : ∀ {xs : List β} {s : List γ}, s.length + xs.length ≤ 1000000 → (∀ x ∈ xs, ∀ s : List γ, s.length < 1000000 → f x s = some (s ++ [g x])) → forS f xs s = some (s ++ xs.map g)
  | [], s, _, _ => by rw [List.map_nil, List.append_nil]; rfl
  | x :: xs, s, hl, h => by
    rw [List.length_cons] at hl
    rw [forS_cons (h x List.mem_cons_self s (by omega)), forS_app g (by rw [List.length_append, List.length_singleton]; omega) fun y hy => h y (List.mem_cons_of_mem _ hy), List.map_cons, List.append_assoc]
    rfl
theorem enumI_mem {α : Type} [Rp α] {xs : List α} {y : Int × α × Unit} (h : y ∈ enumI xs) : ∃ (i : Nat) (x : α), xs[i]? = some x ∧ y = ((i : Int), x, ()) := by
  obtain ⟨i, hi⟩ := List.getElem?_of_mem h
  obtain ⟨x, hx, e⟩ := enum_get hi
  exact ⟨i, x, hx, e⟩
theorem zipI_mem {α β : Type} [Rp α] [Rp β] {xs : List α} {ys : List β} {z : α × β × Unit} (h : z ∈ zipI xs ys) : ∃ (i : Nat) (x : α) (y : β), xs[i]? = some x ∧ ys[i]? = some y ∧ z = (x, y, ()) := by
  obtain ⟨i, hi⟩ := List.getElem?_of_mem h
  obtain ⟨x, y, hx, hy, e⟩ := zip_get hi
  exact ⟨i, x, y, hx, hy, e⟩
/-! texts -/
theorem len_app (x y : Str) : (x ++ y).length = x.length + y.length := by
  show (x.cps ++ y.cps).size = _
  rw [Array.size_append]
  rfl
theorem ok_app {x y : Str} (hx : PyData.strOk x = true) (hy : PyData.strOk y = true) : PyData.strOk (x ++ y) = true := by
  show (x.cps ++ y.cps).all _ = true
  rw [Array.all_append]
  exact Bool.and_eq_true_iff.mpr ⟨hx, hy⟩
theorem ok_join {s : Str} (hs : PyData.strOk s = true) : ∀ {ys : List Str}, (∀ y ∈ ys, PyData.strOk y = true) → PyData.strOk (Str.join s ys) = true
  | [], _ => by
    unfold Str.join
    decide +kernel
  | [x], h => h x List.mem_cons_self
  | x :: y :: r, h => ok_app (ok_app (h x List.mem_cons_self) hs) (ok_join hs fun z hz => h z (List.mem_cons_of_mem _ hz))
theorem joinO_ok {s : Str} {ys : List Str} (h : (ys.map (·.length)).sum + ys.length * s.length ≤ 1000000) : joinO s ys = some (Str.join s ys) := by
  unfold joinO
  rw [if_pos h, TL.join_eq]
/-- a sign of a written text -/
theorem ixS_ok {s : Str} {i : Int} (hl : s.length ≤ 100000) (h0 : 0 ≤ i) (h : i < (s.length : Int)) (hs : PyData.strOk s = true) : ∃ c, ixS s i = some ⟨#[c]⟩ ∧ PyData.strOk ⟨#[c]⟩ = true ∧ (⟨#[c]⟩ : Str).length = 1 := by
  have hl2 : s.cps.toList.length = s.length := Array.length_toList
  obtain ⟨c, e, e2⟩ := atI_some (xs := s.cps.toList) h0 (by rw [hl2]; exact h)
  refine ⟨c, ?_, ?_, rfl⟩
  · unfold ixS
    rw [if_pos hl, e]
    rfl
  · have hm : c ∈ s.cps := Array.mem_toList_iff.mp (List.mem_of_getElem? e2)
    have := Array.all_eq_true'.mp hs c hm
    show (#[c] : Array Nat).all _ = true
    simpa using this
/-! dicts, and more -/
theorem cut_init {α : Type} (xs : List α) : cut xs none (some (-(1 : Int))) = xs.dropLast := by
  unfold cut
  rw [HT.sIx_none, List.drop_zero, Nat.sub_zero, List.dropLast_eq_take]
  have e : HT.sIx xs.length xs.length (some (-(1 : Int))) = (-(1 : Int) + (xs.length : Int)).toNat := rfl
  rw [e]
  congr 1
  omega
theorem mem_irange {x a b : Int} : x ∈ irange a b ↔ a ≤ x ∧ x < b := by
  unfold irange
  rw [List.mem_map]
  constructor
  · rintro ⟨k, hk, rfl⟩
    rw [List.mem_range] at hk
    omega
  · intro h
    exact ⟨(x - a).toNat, List.mem_range.mpr (by omega), by omega⟩
section
variable {κ β : Type} [DecidableEq κ]
theorem getD_pos {p : κ × β} {r : List (κ × β)} {k : κ} (e : p.1 = k) : getD (p :: r) k = some p.2 := by simp [getD, List.find?_cons, e]
theorem getD_neg {p : κ × β} {r : List (κ × β)} {k : κ} (e : ¬ p.1 = k) : getD (p :: r) k = getD r k := by simp [getD, List.find?_cons, e]
theorem getD_map (k j : κ) (y : β) : ∀ kvs : List (κ × β), getD (kvs.map fun kv => if kv.1 = k then (kv.1, y) else kv) j = (getD kvs j).map fun x => if j = k then y else x
  | [] => rfl
  | p :: r => by
    rw [List.map_cons]
    have ih := getD_map k j y r
    by_cases a : p.1 = k
    · rw [if_pos a]
      by_cases b : p.1 = j
      · rw [getD_pos (p := (p.1, y)) b, getD_pos b, Option.map_some, if_pos (b.symm.trans a)]
      · rw [getD_neg (p := (p.1, y)) b, getD_neg b, ih]
    · rw [if_neg a]
      by_cases b : p.1 = j
      · rw [getD_pos b, getD_pos b, Option.map_some, if_neg (fun z => a (b.trans z))]
      · rw [getD_neg b, getD_neg b, ih]
theorem getD_snoc (k j : κ) (y : β) : ∀ kvs : List (κ × β), getD kvs k = none → getD (kvs ++ [(k, y)]) j = if j = k then some y else getD kvs j
  | [], _ => by
    by_cases e : k = j
    · rw [List.nil_append, getD_pos (p := (k, y)) e, if_pos e.symm]
    · rw [List.nil_append, getD_neg (p := (k, y)) e, if_neg (Ne.symm e)]
  | p :: r, h => by
    have hk : ¬ p.1 = k := fun e => by rw [getD_pos e] at h; cases h
    rw [getD_neg hk] at h
    have ih := getD_snoc k j y r h
    rw [List.cons_append]
    by_cases e : p.1 = j
    · rw [getD_pos e, getD_pos e, if_neg (fun z => hk (e.trans z))]
    · rw [getD_neg e, getD_neg e, ih]
theorem getD_put (kvs : List (κ × β)) (k j : κ) (y : β) : getD (putD kvs k y) j = if j = k then some y else getD kvs j := by
  unfold putD
  by_cases a : (getD kvs k).isSome = true
  · rw [if_pos a, getD_map]
    by_cases e : j = k
    · obtain ⟨x, hx⟩ := Option.isSome_iff_exists.mp a
      rw [if_pos e, e, hx, Option.map_some, if_pos rfl]
    · rw [if_neg e]
      cases getD kvs j with
      | none => rfl
      | some x => rw [Option.map_some, if_neg e]
  · rw [if_neg a]
    refine getD_snoc k j y kvs ?_
    cases q : getD kvs k with
    | none => rfl
    | some x => rw [q] at a; exact (a rfl).elim
theorem len_put (kvs : List (κ × β)) (k : κ) (y : β) : (putD kvs k y).length ≤ kvs.length + 1 := by
  unfold putD
  split
  · rw [List.length_map]; omega
  · rw [List.length_append, List.length_cons, List.length_nil]; omega
theorem putO_ok {d : Dc κ β} {k : κ} {y : β} (h : d.l.length < 1000000) : putO d k y = some ⟨putD d.l k y⟩ := if_pos h
end
theorem forC_any {β R : Type} {f : β → Unit → Option (Ctl Unit R)} {r : R} (p : β → Bool) : ∀ {xs : List β}, (∀ x ∈ xs, f x () = some (if p x = true then .rt r else .nx ())) → forC f xs () = some (if xs.any p = true then .rt r else .nx ())
  | [], _ => rfl
  | x :: xs, h => by
    have hx := h x List.mem_cons_self
    cases e : p x with
    | true =>
      rw [e] at hx
      show ((f x ()).bind _) = _
      rw [hx, List.any_cons, e]
      rfl
    | false =>
      rw [e] at hx
      rw [forC_cons (s' := ()) hx, forC_any p fun y hy => h y (List.mem_cons_of_mem _ hy), List.any_cons, e]
      rfl
end Wk
set_option synthInstance.maxHeartbeats 4000000
set_option synthInstance.maxSize 20000
/-! k62: the plain law -/
namespace Wk62
open PySem L2 Wk
theorem cell_at {ns : List Int} (k : Int) (h0 : 0 ≤ k) : ∃ c, m__law_cell_at (Fz.mk ns) k = some c := by
  unfold m__law_cell_at
  by_cases h : k < (ns.length : Int)
  · obtain ⟨x, e, _⟩ := atI_some (xs := ns) h0 h
    exact ⟨x, by rw [if_pos (decide_eq_true h), e]; rfl⟩
  · exact ⟨0, by rw [if_neg (by simpa using h)]⟩
theorem numbers_ok (cell many : Int) (h0 : 0 ≤ many) (hm : many ≤ 1000) : ∃ f, m__law_numbers cell many = some f ∧ f.length = many.toNat := by
  unfold m__law_numbers
  simp only [bs]
  by_cases hc : 0 ≤ cell - 1000000000000000000
  · rw [decide_eq_true hc]
    simp only [if_true]
    rw [rngO_ok (by omega) (by omega) (by omega) (by omega)]
    simp only [bs]
    obtain ⟨⟨n, f⟩, e, h⟩ := forS_inv (f := m__law_numbers_L1) (fun rest s => s.2.length + rest.length = many.toNat) (xs := irange 0 many) (s := (cell - 1000000000000000000, [])) (by rw [irange_len]; simp) (fun x rest s hs => by
      obtain ⟨n, f⟩ := s
      have hs : f.length + (rest.length + 1) = many.toNat := hs
      refine ⟨(n / 5040, f ++ [n % 5040]), ?_, ?_⟩
      · unfold m__law_numbers_L1
        simp only [appO_ok (show f.length < 1000000 by omega), bs]
      · show (f ++ [n % 5040]).length + rest.length = _
        rw [List.length_append, List.length_singleton]
        omega)
    rw [e]
    exact ⟨f, rfl, h⟩
  · rw [decide_eq_false hc]
    simp only [Bool.false_eq_true, if_false, bs]
    rw [rngO_ok (by omega) (by omega) (by omega) (by omega)]
    simp only [bs]
    obtain ⟨⟨n, f⟩, e, h⟩ := forS_inv (f := m__law_numbers_L2) (fun rest s => s.2.length + rest.length = many.toNat + 1) (xs := irange 0 (many + 1)) (s := (cell % 2147483647, [])) (by rw [irange_len]; show 0 + _ = _; omega) (fun x rest s hs => by
      obtain ⟨n, f⟩ := s
      have hs : f.length + (rest.length + 1) = many.toNat + 1 := hs
      refine ⟨((n + x + 1) * 48271 % 2147483647, f ++ [((n + x + 1) * 48271 % 2147483647) * 69621 % 2147483629]), ?_, ?_⟩
      · unfold m__law_numbers_L2
        simp only [appO_ok (show f.length < 1000000 by omega), bs]
      · show (f ++ [((n + x + 1) * 48271 % 2147483647) * 69621 % 2147483629]).length + rest.length = _
        rw [List.length_append, List.length_singleton]
        omega)
    rw [e]
    simp only [bs]
    rw [show cut f (some (1 : Int)) none = f.drop 1 from cut_from f 1]
    have h : f.length + 0 = many.toNat + 1 := h
    exact ⟨_, rfl, by rw [List.length_drop]; omega⟩
theorem cut_le {α : Type} (xs : List α) (a b : Nat) : (cut xs (some (a : Int)) (some (b : Int))).length ≤ b - a := by
  unfold cut
  rw [HT.sIx_nat, HT.sIx_nat, List.length_take]
  omega
/-! pieces of words, in a row -/
abbrev T := Str × Bool × Unit
def pw (w : Tu Str) : List T := (enumI w.l).map fun y => (y.2.1, decide (y.1 + 1 < (w.l.length : Int)), ())
def fl : List (Tu Str) → List T
  | [] => []
  | w :: r => pw w ++ fl r
theorem pw_len (w : Tu Str) : (pw w).length = w.l.length := by
  unfold pw
  rw [List.length_map, enumI_len]
theorem forS_appd {β Sx : Type} {f : β → Sx → Option Sx} : ∀ (xs ys : List β) (s : Sx), forS f (xs ++ ys) s = (forS f xs s).bind fun s => forS f ys s
  | [], _, _ => rfl
  | x :: xs, ys, s => by
    show ((f x s).bind fun s => forS f (xs ++ ys) s) = ((f x s).bind fun s => forS f xs s).bind fun s => forS f ys s
    cases f x s with
    | none => rfl
    | some s' => exact forS_appd xs ys s'
theorem forS_map {β γ Sx : Type} {f : β → Sx → Option Sx} {g : γ → Sx → Option Sx} (h : β → γ) : ∀ (xs : List β) (s : Sx), (∀ x ∈ xs, ∀ s, f x s = g (h x) s) → forS f xs s = forS g (xs.map h) s
  | [], _, _ => rfl
  | x :: xs, s, e => by
    show ((f x s).bind fun s => forS f xs s) = ((g (h x) s).bind fun s => forS g (xs.map h) s)
    rw [e x List.mem_cons_self]
    cases g (h x) s with
    | none => rfl
    | some s' => exact forS_map h xs s' fun y hy => e y (List.mem_cons_of_mem _ hy)
theorem flat_go : ∀ (W : List (Tu Str)) (acc : List T), acc.length + (fl W).length ≤ 1000000 → forS m_flat_L1 W acc = some (acc ++ fl W)
  | [], acc, _ => by rw [show fl [] = [] from rfl, List.append_nil]; rfl
  | w :: W, acc, h => by
    have e : fl (w :: W) = pw w ++ fl W := rfl
    rw [e, List.length_append, pw_len] at h
    rw [forS_cons (s' := acc ++ pw w) ?_, flat_go W _ (by rw [List.length_append, pw_len]; omega), e, List.append_assoc]
    unfold m_flat_L1
    rw [forS_app (fun y => ((y.2.1, decide (y.1 + 1 < (w.l.length : Int)), ()) : T)) (by rw [enumI_len]; omega) fun y _ s hs => by
      obtain ⟨k, p, u⟩ := y
      unfold m_flat_L2
      show ((appO s (p, decide (k + 1 < (w.l.length : Int)), ())).bind fun t => some t) = _
      rw [appO_ok hs]
      rfl]
    rfl
theorem flat_ok {W : List (Tu Str)} (h : (fl W).length ≤ 1000) : m_flat (Tu.mk W) = some (fl W) := by
  unfold m_flat
  simp only [bs]
  rw [flat_go W [] (by simp; omega), List.nil_append]
  rfl
theorem addS_ok {x y : Str} (h : x.length + y.length ≤ 1000000) : addS x y = some (x ++ y) := if_pos h
theorem dash_len : ("-" : Str).length = 1 := by decide +kernel
theorem blank_len : (" " : Str).length = 1 := by decide +kernel
theorem cut_mid {α : Type} {xs : List α} {a b : Nat} (h1 : a ≤ b) (h2 : b ≤ xs.length) : cut xs (some (a : Int)) (some (b : Int)) = (xs.drop a).take (b - a) := by
  unfold cut
  rw [HT.sIx_nat, HT.sIx_nat, Nat.min_eq_left h2, Nat.min_eq_left (by omega)]
theorem fl_app : ∀ xs ys : List (Tu Str), fl (xs ++ ys) = fl xs ++ fl ys
  | [], _ => rfl
  | x :: xs, ys => by
    show pw x ++ fl (xs ++ ys) = (pw x ++ fl xs) ++ fl ys
    rw [fl_app xs ys, List.append_assoc]
theorem fl_one (w : Tu Str) : (fl [w]).length = w.l.length := by
  show (pw w ++ []).length = _
  rw [List.append_nil, pw_len]
theorem mem_fl : ∀ {W : List (Tu Str)} {x : T}, x ∈ fl W → ∃ w ∈ W, x.1 ∈ w.l
  | [], _, h => nomatch h
  | w :: W, x, h => by
    rcases List.mem_append.mp h with h | h
    · unfold pw at h
      obtain ⟨y, hy, rfl⟩ := List.mem_map.mp h
      obtain ⟨i, z, hz, rfl⟩ := enumI_mem hy
      exact ⟨w, List.mem_cons_self, List.mem_of_getElem? hz⟩
    · obtain ⟨v, h1, h2⟩ := mem_fl h
      exact ⟨v, List.mem_cons_of_mem _ h1, h2⟩
theorem two {l : List Int} (h : l.length = 2) : ∃ a b, l = [a, b] := by
  match l, h with
  | [a, b], _ => exact ⟨a, b, rfl⟩
/-! sizes of rows -/
def ln (P : List T) (k : Nat) : Int := match P[k]? with | some x => (x.1.length : Int) | none => 0
def jt (P : List T) (k : Nat) : Int := match P[k]? with | some x => if x.2.1 = true then 1 else 0 | none => 0
def pre (P : List T) : Nat → Int
  | 0 => 0
  | k + 1 => pre P k + ln P k + 1 - jt P k
def sz (P : List T) (f t : Nat) : Int := pre P (t - 1) - pre P f + ln P (t - 1) + jt P (t - 1)
structure PiOk (P : List T) : Prop where
  n : P.length ≤ 100
  l : ∀ x ∈ P, x.1.length ≤ 12
theorem ln_at {P : List T} {k : Nat} {x : T} (h : P[k]? = some x) : ln P k = (x.1.length : Int) := by unfold ln; rw [h]
theorem jt_at {P : List T} {k : Nat} {x : T} (h : P[k]? = some x) : jt P k = if x.2.1 = true then 1 else 0 := by unfold jt; rw [h]
theorem ln_bd {P : List T} (h : PiOk P) (k : Nat) : 0 ≤ ln P k ∧ ln P k ≤ 12 := by
  unfold ln
  cases e : P[k]? with
  | none => exact ⟨Int.le_refl _, by show (0 : Int) ≤ 12; omega⟩
  | some x =>
    have := h.l x (List.mem_of_getElem? e)
    show 0 ≤ (x.1.length : Int) ∧ (x.1.length : Int) ≤ 12
    omega
theorem jt_bd (P : List T) (k : Nat) : 0 ≤ jt P k ∧ jt P k ≤ 1 := by
  unfold jt
  cases P[k]? with
  | none => exact ⟨Int.le_refl _, by show (0 : Int) ≤ 1; omega⟩
  | some x =>
    show 0 ≤ (if x.2.1 = true then (1 : Int) else 0) ∧ (if x.2.1 = true then (1 : Int) else 0) ≤ 1
    split <;> omega
theorem pre_mono {P : List T} (h : PiOk P) {a b : Nat} (hab : a ≤ b) : pre P a ≤ pre P b := by
  induction b with
  | zero =>
    have : a = 0 := by omega
    rw [this]
    exact Int.le_refl _
  | succ b ih =>
    by_cases e : a = b + 1
    · rw [e]
      exact Int.le_refl _
    · have := ih (by omega)
      have l := ln_bd h b
      have j := jt_bd P b
      show pre P a ≤ pre P b + ln P b + 1 - jt P b
      omega
theorem pre_bd {P : List T} (h : PiOk P) (k : Nat) : 0 ≤ pre P k ∧ pre P k ≤ 13 * k := by
  induction k with
  | zero => exact ⟨Int.le_refl _, by show (0 : Int) ≤ 13 * 0; omega⟩
  | succ k ih =>
    have l := ln_bd h k
    have j := jt_bd P k
    show 0 ≤ pre P k + ln P k + 1 - jt P k ∧ pre P k + ln P k + 1 - jt P k ≤ 13 * ((k + 1 : Nat) : Int)
    omega
theorem sz_bd {P : List T} (h : PiOk P) {f t : Nat} (hf : f ≤ 100) (ht : t ≤ 100) : -1300 ≤ sz P f t ∧ sz P f t ≤ 1400 := by
  have a := pre_bd h (t - 1)
  have b := pre_bd h f
  have l := ln_bd h (t - 1)
  have j := jt_bd P (t - 1)
  unfold sz
  omega
theorem at_nat {α : Type} {xs : List α} {k : Nat} {x : α} (h : xs[k]? = some x) : atI xs (k : Int) = some x := by
  rw [atI_ok (by omega) (by have := (List.getElem?_eq_some_iff.mp h).1; omega), Int.toNat_natCast]
  exact h
theorem at_pred {α : Type} {xs : List α} {k : Nat} {x : α} (h : xs[k]? = some x) : atI xs (((k + 1 : Nat) : Int) - 1) = some x := by
  rw [show (((k + 1 : Nat) : Int) - 1) = (k : Int) by omega]
  exact at_nat h
theorem lenS_ok {s : Str} (h : s.length ≤ 1000000) : lenS s = some (s.length : Int) := if_pos h
theorem irange_at {lo hi : Int} {i : Nat} (h : i < (irange lo hi).length) : (irange lo hi)[i] = lo + (i : Int) := by simp [irange]
theorem forC_brk {β S R : Type} {f : β → S → Option (Ctl S R)} (Q : R → Prop) : ∀ {xs : List β} (P : Nat → S → Prop) {s : S}, P 0 s →
    (∀ (i : Nat) (hi : i < xs.length) s, P i s → (∃ s', f xs[i] s = some (.nx s') ∧ P (i + 1) s') ∨ ∃ r, f xs[i] s = some (.rt r) ∧ Q r) →
    (∃ s', forC f xs s = some (.nx s') ∧ P xs.length s') ∨ ∃ r, forC f xs s = some (.rt r) ∧ Q r
  | [], P, s, h0, _ => .inl ⟨s, rfl, h0⟩
  | x :: xs, P, s, h0, step => by
    rcases step 0 (Nat.zero_lt_succ _) s h0 with ⟨s', a, h1⟩ | ⟨r, a, h1⟩
    · rw [forC_cons (x := x) (xs := xs) a]
      exact forC_brk Q (xs := xs) (fun i => P (i + 1)) h1 fun i hi s hp => step (i + 1) (Nat.succ_lt_succ hi) s hp
    · refine .inr ⟨r, ?_, h1⟩
      have a : f x s = some (.rt r) := a
      show ((f x s).bind _) = _
      rw [a]
      rfl
structure Rs (P : List T) (f : Nat) (w : Int) (m : Nat) (rs : List (Int × Int × Unit)) : Prop where
  len : rs.length ≤ m - f
  mem : ∀ x, x ∈ rs ↔ ∃ t : Nat, f < t ∧ t ≤ m ∧ sz P f t ≤ w ∧ x = ((t : Int), w - sz P f t, ())
theorem reaches_ok {P : List T} (h : PiOk P) {f : Nat} (hf : f ≤ P.length) (w : Int) : ∃ rs, m_reaches P f w = some rs ∧ Rs P f w P.length rs := by
  have hn := h.n
  unfold m_reaches
  simp only [bs]
  rw [rngO_ok (by omega) (by omega) (by omega) (by omega)]
  simp only [bs]
  have hL : (irange ((f : Int) + 1) ((P.length : Int) + 1)).length = P.length - f := by
    rw [irange_len]
    omega
  rcases forC_brk (f := m_reaches_L1 P w) (Rs P f w P.length) (xs := irange ((f : Int) + 1) ((P.length : Int) + 1)) (fun i s => s.1 = pre P (f + i) - pre P f ∧ Rs P f w (f + i) s.2) (s := (0, [])) ⟨by show (0 : Int) = pre P (f + 0) - pre P f; rw [Nat.add_zero]; omega, ⟨Nat.zero_le _, fun x => ⟨(fun h => nomatch h), fun ⟨t, h1, h2, _⟩ => absurd h1 (by omega)⟩⟩⟩ (fun i hi s hs => by
    obtain ⟨size, told⟩ := s
    obtain ⟨h1, h2⟩ := hs
    simp only at h1 h2
    rw [irange_at hi]
    rw [hL] at hi
    have hx : P[f + i]? = some P[f + i] := List.getElem?_eq_getElem (by omega)
    generalize P[f + i]'(by omega) = x at hx
    have hxl := h.l x (List.mem_of_getElem? hx)
    have el := ln_at hx
    have ej := jt_at hx
    have es : sz P f (f + i + 1) = size + ln P (f + i) + jt P (f + i) := by
      unfold sz
      rw [show f + i + 1 - 1 = f + i by omega]
      omega
    have ep : pre P (f + (i + 1)) = pre P (f + i) + ln P (f + i) + 1 - jt P (f + i) := rfl
    rw [show ((f : Int) + 1 + (i : Int)) = ((f + i + 1 : Nat) : Int) by omega]
    obtain ⟨p, j, u⟩ := x
    have hxl : p.length ≤ 12 := hxl
    have el : ln P (f + i) = (p.length : Int) := el
    have ej : jt P (f + i) = if j = true then 1 else 0 := ej
    have e1 : m_reaches_L1 P w ((f + i + 1 : Nat) : Int) (size, told) = ((if (decide (((size + ln P (f + i)) + jt P (f + i)) ≤ w)) = true then ((appO told (((f + i + 1 : Nat) : Int), ((w - (size + ln P (f + i))) - jt P (f + i)), ())).bind fun told_97 =>
        some told_97) else (some told))).bind fun told_98 =>
        (if (decide (w < size + ln P (f + i))) = true then (some (Ctl.rt told_98)) else ((if (!j) = true then ((some (size + ln P (f + i) + (1 : Int))).bind fun size_106 =>
        some (Ctl.nx (size_106, told_98))) else (some (Ctl.nx (size + ln P (f + i), told_98)))))) := by
      unfold m_reaches_L1
      dsimp only
      rw [at_pred hx]
      simp only [bs]
      rw [lenS_ok (by omega)]
      simp only [bs, el, ej]
    have told' : ∃ told', ((if (decide (((size + ln P (f + i)) + jt P (f + i)) ≤ w)) = true then ((appO told (((f + i + 1 : Nat) : Int), ((w - (size + ln P (f + i))) - jt P (f + i)), ())).bind fun told_97 =>
        some told_97) else (some told))) = some told' ∧ Rs P f w (f + i + 1) told' := by
      by_cases q : size + ln P (f + i) + jt P (f + i) ≤ w
      · rw [if_pos (decide_eq_true q), appO_ok (by have := h2.len; omega), bs]
        refine ⟨_, rfl, ⟨?_, fun x => ?_⟩⟩
        · rw [List.length_append]
          have := h2.len
          show told.length + 1 ≤ _
          omega
        · rw [List.mem_append, List.mem_singleton, h2.mem]
          constructor
          · rintro (⟨t, a, b, c, d⟩ | rfl)
            · exact ⟨t, a, by omega, c, d⟩
            · refine ⟨f + i + 1, by omega, Nat.le_refl _, by omega, ?_⟩
              rw [es, show w - (size + ln P (f + i) + jt P (f + i)) = w - (size + ln P (f + i)) - jt P (f + i) by omega]
          · rintro ⟨t, a, b, c, d⟩
            by_cases ht : t = f + i + 1
            · right
              rw [d, ht, es, show w - (size + ln P (f + i) + jt P (f + i)) = w - (size + ln P (f + i)) - jt P (f + i) by omega]
            · exact .inl ⟨t, a, by omega, c, d⟩
      · rw [if_neg (by rw [decide_eq_true_eq]; exact q)]
        refine ⟨_, rfl, ⟨by have := h2.len; omega, fun x => ?_⟩⟩
        rw [h2.mem]
        constructor
        · rintro ⟨t, a, b, c, d⟩
          exact ⟨t, a, by omega, c, d⟩
        · rintro ⟨t, a, b, c, d⟩
          refine ⟨t, a, ?_, c, d⟩
          by_cases ht : t = f + i + 1
          · rw [ht, es] at c
            exact absurd c q
          · omega
    obtain ⟨told', et, ht⟩ := told'
    rw [e1, et, bs]
    by_cases q : w < size + ln P (f + i)
    · rw [if_pos (decide_eq_true q)]
      refine .inr ⟨_, rfl, ⟨by have := ht.len; omega, fun x => ?_⟩⟩
      rw [ht.mem]
      constructor
      · rintro ⟨t, a, b, c, d⟩
        exact ⟨t, a, by omega, c, d⟩
      · rintro ⟨t, a, b, c, d⟩
        refine ⟨t, a, ?_, c, d⟩
        by_cases htl : t ≤ f + i + 1
        · exact htl
        · exfalso
          have pm := pre_mono h (show f + (i + 1) ≤ t - 1 by omega)
          have l := ln_bd h (t - 1)
          have j1 := jt_bd P (t - 1)
          have j2 := jt_bd P (f + i)
          unfold sz at c
          omega
    · rw [if_neg (by rw [decide_eq_true_eq]; exact q)]
      refine .inl ?_
      cases j with
      | true =>
        refine ⟨_, rfl, ?_, ht⟩
        show size + ln P (f + i) = pre P (f + (i + 1)) - pre P f
        rw [ep]
        have ej : jt P (f + i) = 1 := ej
        omega
      | false =>
        refine ⟨_, rfl, ?_, ht⟩
        show size + ln P (f + i) + 1 = pre P (f + (i + 1)) - pre P f
        rw [ep]
        have ej : jt P (f + i) = 0 := ej
        omega) with ⟨⟨size, told⟩, e, h1, h2⟩ | ⟨r, e, hr⟩
  · rw [e]
    rw [hL, show f + (P.length - f) = P.length by omega] at h2
    exact ⟨told, rfl, h2⟩
  · rw [e]
    exact ⟨r, rfl, hr⟩
theorem sz_one (P : List T) (k : Nat) : sz P k (k + 1) = ln P k + jt P k := by
  unfold sz
  rw [show k + 1 - 1 = k by omega]
  omega
theorem barred_ok {P : List T} (h : PiOk P) {k : Nat} (hk : k < P.length) (w : Int) : m_is_barred P k w = some (decide (w < sz P k (k + 1))) := by
  have hx : P[k]? = some P[k] := List.getElem?_eq_getElem hk
  generalize P[k] = x at hx
  have hxl := h.l x (List.mem_of_getElem? hx)
  unfold m_is_barred
  rw [at_nat hx, sz_one, ln_at hx, jt_at hx]
  obtain ⟨p, j, u⟩ := x
  simp only [bs]
  rw [lenS_ok (by have : p.length ≤ 12 := hxl; omega)]
  rfl
/-! the law's own -/
def pc (x : T) : Int × Int × Unit := ((x.1.length : Int), (if x.2.1 = true then 1 else 0), ())
theorem pieces_go : ∀ (W : List (Tu Str)) (acc : List (Int × Int × Unit)), acc.length + (fl W).length ≤ 1000000 → (∀ w ∈ W, ∀ p ∈ w.l, p.length ≤ 1000000) → forS m__law_pieces_L1 W acc = some (acc ++ (fl W).map pc)
  | [], acc, _, _ => by rw [show fl [] = [] from rfl, List.map_nil, List.append_nil]; rfl
  | w :: W, acc, h, hp => by
    have e : fl (w :: W) = pw w ++ fl W := rfl
    rw [e, List.length_append, pw_len] at h
    rw [forS_cons (s' := acc ++ (pw w).map pc) ?_, pieces_go W _ (by rw [List.length_append, List.length_map, pw_len]; omega) (fun v hv => hp v (List.mem_cons_of_mem _ hv)), e, List.map_append, List.append_assoc]
    unfold m__law_pieces_L1
    rw [forS_app (fun y => pc ((y.2.1, decide (y.1 + 1 < (w.l.length : Int)), ()) : T)) (by rw [enumI_len]; omega) fun y hy s hs => by
      obtain ⟨i, p, hi, rfl⟩ := enumI_mem hy
      have := hp w List.mem_cons_self p (List.mem_of_getElem? hi)
      unfold m__law_pieces_L2
      simp only [lenS_ok this, bs]
      rw [appO_ok hs]
      unfold pc
      simp]
    simp only [bs]
    unfold pw
    rw [List.map_map]
    rfl
theorem pieces_ok {W : List (Tu Str)} (h : (fl W).length ≤ 1000) (hp : ∀ w ∈ W, ∀ p ∈ w.l, p.length ≤ 1000000) : m__law_pieces (Tu.mk W) = some ((fl W).map pc) := by
  unfold m__law_pieces
  simp only [bs]
  rw [pieces_go W [] (by simp; omega) hp, List.nil_append]
  rfl
theorem pc_at {P : List T} {k : Nat} {x : T} (h : P[k]? = some x) : (P.map pc)[k]? = some (ln P k, jt P k, ()) := by
  rw [List.getElem?_map, h, ln_at h, jt_at h]
  rfl
theorem law_size_ok {P : List T} (h : PiOk P) {f t : Nat} (hf : f < t) (ht : t ≤ P.length) : m__law_size (P.map pc) f t = some (sz P f t) := by
  have hn := h.n
  have hx : P[t - 1]? = some P[t - 1] := List.getElem?_eq_getElem (by omega)
  unfold m__law_size
  rw [show ((t : Int) - 1) = ((t - 1 : Nat) : Int) by omega, at_nat (pc_at hx)]
  simp only [bs]
  rw [rngO_ok (by omega) (by omega) (by omega) (by omega)]
  simp only [bs]
  have hL : (irange (f : Int) (t : Int)).length = t - f := by
    rw [irange_len]
    omega
  obtain ⟨s, e, hs⟩ := forS_ix (f := m__law_size_L1 (P.map pc) t) (xs := irange (f : Int) (t : Int)) (fun i (s : Int) => (i < t - f → s = jt P (t - 1) + pre P (f + i) - pre P f) ∧ (i = t - f → s = sz P f t)) (s := jt P (t - 1)) ⟨fun _ => by rw [Nat.add_zero]; omega, fun z => absurd z (by omega)⟩ (fun i hi s hs => by
    rw [irange_at hi]
    rw [hL] at hi
    have hs := hs.1 hi
    have hx : P[f + i]? = some P[f + i] := List.getElem?_eq_getElem (by omega)
    have ep : pre P (f + (i + 1)) = pre P (f + i) + ln P (f + i) + 1 - jt P (f + i) := rfl
    unfold m__law_size_L1
    rw [show ((f : Int) + (i : Int)) = ((f + i : Nat) : Int) by omega, at_nat (pc_at hx)]
    simp only [bs]
    by_cases q : ((f + i : Nat) : Int) + 1 < t
    · rw [if_pos (decide_eq_true q)]
      refine ⟨_, rfl, fun _ => ?_, fun z => absurd z (by omega)⟩
      rw [ep]
      omega
    · rw [if_neg (by rw [decide_eq_true_eq]; exact q)]
      refine ⟨_, rfl, fun z => absurd z (by omega), fun _ => ?_⟩
      unfold sz
      rw [show t - 1 = f + i by omega] at hs ⊢
      omega)
  rw [e]
  rw [hL] at hs
  rw [hs.2 rfl]
  rfl
/-! costs of rows -/
def wat (ws : List Int) (r : Nat) : Int := ws.getD (min r (ws.length - 1)) 0
structure WiOk (ws : List Int) : Prop where
  n : ws ≠ []
  l : ws.length ≤ 100
  b : ∀ w ∈ ws, 0 ≤ w ∧ w ≤ 1000
theorem wat_at {ws : List Int} (h : WiOk ws) (r : Nat) : atI ws (min (r : Int) ((ws.length : Int) - 1)) = some (wat ws r) := by
  have h0 : 0 < ws.length := List.length_pos_iff.mpr h.n
  rw [show min (r : Int) ((ws.length : Int) - 1) = ((min r (ws.length - 1) : Nat) : Int) by omega]
  refine at_nat ?_
  have hl : min r (ws.length - 1) < ws.length := by omega
  unfold wat
  rw [List.getD_eq_getElem?_getD, List.getElem?_eq_getElem hl]
  rfl
theorem width_ok {ws : List Int} (h : WiOk ws) (r : Nat) : m_width_at ws r = some (wat ws r) := by
  unfold m_width_at
  rw [wat_at h]
  rfl
theorem wat_bd {ws : List Int} (h : WiOk ws) (r : Nat) : 0 ≤ wat ws r ∧ wat ws r ≤ 1000 := by
  have h0 : 0 < ws.length := List.length_pos_iff.mpr h.n
  have hl : min r (ws.length - 1) < ws.length := by omega
  unfold wat
  rw [List.getD_eq_getElem?_getD, List.getElem?_eq_getElem hl]
  exact h.b _ (List.getElem_mem hl)
/-- what a row costs that is not the last -/
def stp (P : List T) (J w : Int) (f t : Nat) : Int := (w - sz P f t) * (w - sz P f t) + J * jt P (t - 1)
/-! the table of rows -/
abbrev Co := List (Option Int)
def Cand (P : List T) (J w : Int) (c : Co) (j : Nat) (v : Int) : Prop :=
  (∃ p cp, p < j ∧ j < P.length ∧ c[p]? = some (some cp) ∧ sz P p j ≤ w ∧ v = cp + stp P J w p j) ∨ (∃ cp, j < P.length ∧ c[j]? = some (some cp) ∧ w < sz P j (j + 1) ∧ v = cp + w * w)
structure Mn (n : Nat) (C : Nat → Int → Prop) (a : Co) : Prop where
  len : a.length = n + 1
  is : ∀ (j : Nat) (v : Int), a[j]? = some (some v) → C j v
  le : ∀ j v, j ≤ n → C j v → ∃ v', a[j]? = some (some v') ∧ v' ≤ v
theorem Mn.congr {n : Nat} {C C' : Nat → Int → Prop} {a : Co} (h : Mn n C a) (e : ∀ j v, j ≤ n → (C j v ↔ C' j v)) : Mn n C' a :=
  ⟨h.len, fun j v q => (e j v (by have := (List.getElem?_eq_some_iff.mp q).1; have := h.len; omega)).mp (h.is j v q), fun j v hj q => h.le j v hj ((e j v hj).mpr q)⟩
theorem setI_nat {α : Type} {xs : List α} {i : Nat} (x : α) (h : i < xs.length) : setI xs (i : Int) x = some (xs.set i x) := by
  unfold setI ixN
  rw [if_pos (by omega), if_pos (by omega)]
  rfl
theorem put_ok {n : Nat} {C : Nat → Int → Prop} {a : Co} (h : Mn n C a) {t : Nat} (ht : t ≤ n) (v : Int) : ∃ a', m_put_less a t v = some (.nn, a') ∧ Mn n (fun j x => C j x ∨ (j = t ∧ x = v)) a' := by
  have hl := h.len
  have hx : a[t]? = some a[t] := List.getElem?_eq_getElem (by omega)
  generalize ho : a[t]'(by omega) = o at hx
  unfold m_put_less
  rw [at_nat hx]
  simp only [bs]
  have set_ : ∀ (hw : ∀ v', o = some v' → v < v'), Mn n (fun j x => C j x ∨ (j = t ∧ x = v)) (a.set t (some v)) := fun hw => by
    refine ⟨by rw [List.length_set]; exact hl, fun j x q => ?_, fun j x hj q => ?_⟩
    · by_cases hjt : j = t
      · subst hjt
        rw [List.getElem?_set_self (by omega)] at q
        cases q
        exact .inr ⟨rfl, rfl⟩
      · rw [List.getElem?_set_ne (Ne.symm hjt)] at q
        exact .inl (h.is j x q)
    · by_cases hjt : j = t
      · subst hjt
        rw [List.getElem?_set_self (by omega)]
        refine ⟨v, rfl, ?_⟩
        rcases q with q | ⟨_, rfl⟩
        · obtain ⟨v', e, le⟩ := h.le j x hj q
          rw [hx] at e
          cases e
          have := hw v' rfl
          omega
        · exact Int.le_refl _
      · rw [List.getElem?_set_ne (Ne.symm hjt)]
        rcases q with q | ⟨e, _⟩
        · exact h.le j x hj q
        · exact absurd e hjt
  cases o with
  | none =>
    rw [if_pos (show Option.isNone (none : Option Int) = true from rfl), bs, if_pos rfl, setI_nat _ (by omega), bs]
    exact ⟨_, rfl, set_ fun v' z => nomatch z⟩
  | some v' =>
    rw [if_neg (show ¬ (Option.isNone (some v')) = true from fun z => by cases z), bs, bs]
    by_cases q : v < v'
    · rw [if_pos (decide_eq_true q), setI_nat _ (by omega), bs]
      exact ⟨_, rfl, set_ fun u z => by cases z; exact q⟩
    · rw [if_neg (by rw [decide_eq_true_eq]; exact q)]
      refine ⟨_, rfl, ⟨hl, fun j x e => .inl (h.is j x e), fun j x hj e => ?_⟩⟩
      rcases e with e | ⟨rfl, rfl⟩
      · exact h.le j x hj e
      · exact ⟨v', hx, by omega⟩
theorem rep_none (k : Nat) : (List.replicate k ([none] : Co)).flatten = List.replicate k none := by
  induction k with
  | zero => rfl
  | succ k ih =>
    rw [List.replicate_succ, List.flatten_cons, ih, List.replicate_succ]
    rfl
theorem repO_none {k : Nat} (h : k ≤ 1000) : repO ([none] : Co) (k : Int) = some (List.replicate k none) := by
  unfold repO
  rw [if_pos ⟨by omega, by omega, by show 1 * _ ≤ _; omega⟩, show ((k : Int)).toNat = k from rfl, rep_none]
structure NumOk (J w : Int) : Prop where
  j : 0 ≤ J ∧ J ≤ 1000
  w : 0 ≤ w ∧ w ≤ 1000
theorem next_ok {P : List T} (h : PiOk P) {J w : Int} (nw : NumOk J w) {c : Co} (hc : c.length = P.length + 1) : ∃ a, m_next_costs P J w c = some a ∧ Mn P.length (Cand P J w c) a := by
  have hn := h.n
  have j0 := nw.j
  have w0 := nw.w
  unfold m_next_costs
  rw [show ((P.length : Int) + 1) = ((P.length + 1 : Nat) : Int) by omega, repO_none (by omega)]
  simp only [bs]
  rw [rngO_ok (by omega) (by omega) (by omega) (by omega)]
  simp only [bs]
  have hL : (irange 0 (P.length : Int)).length = P.length := by
    rw [irange_len]
    omega
  obtain ⟨a, ea, ha⟩ := forS_ix (f := m_next_costs_L1 P J w c) (xs := irange 0 (P.length : Int)) (fun i a => Mn P.length (fun j v => (∃ p cp, p < i ∧ p < j ∧ j < P.length ∧ c[p]? = some (some cp) ∧ sz P p j ≤ w ∧ v = cp + stp P J w p j) ∨ (∃ cp, j < i ∧ j < P.length ∧ c[j]? = some (some cp) ∧ w < sz P j (j + 1) ∧ v = cp + w * w)) a) (s := List.replicate (P.length + 1) none)
    ⟨List.length_replicate, (fun j v q => by
      rw [List.getElem?_replicate] at q
      split at q <;> cases q), fun j v _ q => by
      rcases q with ⟨p, cp, z, _⟩ | ⟨cp, z, _⟩
      · exact absurd z (Nat.not_lt_zero _)
      · exact absurd z (Nat.not_lt_zero _)⟩ (fun i hi a ha => by
    rw [irange_at hi, Int.zero_add]
    rw [hL] at hi
    have hx : c[i]? = some c[i] := List.getElem?_eq_getElem (by omega)
    generalize c[i]'(by omega) = o at hx
    unfold m_next_costs_L1
    rw [at_nat hx]
    simp only [bs]
    cases o with
    | none =>
      rw [if_neg (show ¬ (Option.isSome (none : Option Int)) = true from fun z => by cases z)]
      refine ⟨a, rfl, ha.congr fun j v _ => ?_⟩
      constructor
      · rintro (⟨p, cp, z, r⟩ | ⟨cp, z, r⟩)
        · exact .inl ⟨p, cp, by omega, r⟩
        · exact .inr ⟨cp, by omega, r⟩
      · rintro (⟨p, cp, z, r1, r2, r3, r⟩ | ⟨cp, z, r1, r2, r⟩)
        · refine .inl ⟨p, cp, ?_, r1, r2, r3, r⟩
          by_cases q : p = i
          · rw [q, hx] at r3
            cases r3
          · omega
        · refine .inr ⟨cp, ?_, r1, r2, r⟩
          by_cases q : j = i
          · rw [q, hx] at r2
            cases r2
          · omega
    | some cp =>
      rw [if_pos (show (Option.isSome (some cp)) = true from rfl)]
      obtain ⟨rs, er, hr⟩ := reaches_ok h (f := i) (by omega) w
      rw [er, bs]
      obtain ⟨b, eb, hb⟩ := forS_ix (f := m_next_costs_L2 P J c i) (xs := rs) (fun k a => Mn P.length (fun j v => ((∃ p cp, p < i ∧ p < j ∧ j < P.length ∧ c[p]? = some (some cp) ∧ sz P p j ≤ w ∧ v = cp + stp P J w p j) ∨ (∃ cp, j < i ∧ j < P.length ∧ c[j]? = some (some cp) ∧ w < sz P j (j + 1) ∧ v = cp + w * w)) ∨ ∃ x ∈ rs.take k, ∃ t : Nat, x.1 = t ∧ t < P.length ∧ j = t ∧ v = cp + stp P J w i t) a) (s := a)
        (ha.congr fun j v _ => ⟨.inl, fun z => z.elim id fun ⟨x, hx, _⟩ => by simp at hx⟩) (fun k hk a ha => by
        have hm : rs[k] ∈ rs := List.getElem_mem hk
        obtain ⟨t, t1, t2, t3, t4⟩ := (hr.mem _).mp hm
        have htake : ∀ x, x ∈ rs.take (k + 1) ↔ x ∈ rs.take k ∨ x = rs[k] := fun x => by
          rw [List.take_succ, List.getElem?_eq_getElem hk, List.mem_append]
          simp
        rw [t4] at htake ⊢
        have sb := sz_bd h (f := i) (t := t) (by omega) (by omega)
        have jb := jt_bd P (t - 1)
        unfold m_next_costs_L2
        dsimp only
        by_cases q : (t : Int) < (P.length : Int)
        · rw [if_pos (decide_eq_true q), at_nat hx, bs, mulO_ok (by omega) (by omega), bs, bs]
          have hy : P[t - 1]? = some P[t - 1] := List.getElem?_eq_getElem (by omega)
          rw [show ((t : Int) - 1) = ((t - 1 : Nat) : Int) by omega, at_nat hy, bs, ← jt_at hy, mulO_ok (by omega) (by omega), bs]
          obtain ⟨a', ea', ha'⟩ := put_ok ha (t := t) (by omega) (cp + (w - sz P i t) * (w - sz P i t) + J * jt P (t - 1))
          rw [ea', bs]
          refine ⟨a', rfl, ha'.congr fun j v _ => ?_⟩
          have ev : cp + (w - sz P i t) * (w - sz P i t) + J * jt P (t - 1) = cp + stp P J w i t := by
            unfold stp
            omega
          rw [ev]
          constructor
          · rintro ((z | ⟨x, hx', z⟩) | ⟨z1, z2⟩)
            · exact .inl z
            · exact .inr ⟨x, (htake x).mpr (.inl hx'), z⟩
            · exact .inr ⟨_, (htake _).mpr (.inr rfl), t, rfl, by omega, z1, z2⟩
          · rintro (z | ⟨x, hx', t', z1, z2, z3, z4⟩)
            · exact .inl (.inl z)
            · rcases (htake x).mp hx' with hx' | rfl
              · exact .inl (.inr ⟨x, hx', t', z1, z2, z3, z4⟩)
              · have : t' = t := by
                  have z1 : (t : Int) = t' := z1
                  omega
                subst this
                exact .inr ⟨z3, z4⟩
        · rw [if_neg (by rw [decide_eq_true_eq]; exact q)]
          refine ⟨a, rfl, ha.congr fun j v _ => ?_⟩
          constructor
          · rintro (z | ⟨x, hx', z⟩)
            · exact .inl z
            · exact .inr ⟨x, (htake x).mpr (.inl hx'), z⟩
          · rintro (z | ⟨x, hx', t', z1, z2, z3, z4⟩)
            · exact .inl z
            · rcases (htake x).mp hx' with hx' | rfl
              · exact .inr ⟨x, hx', t', z1, z2, z3, z4⟩
              · have z1 : (t : Int) = t' := z1
                omega)
      rw [eb, bs, barred_ok h hi, bs]
      rw [List.take_length] at hb
      have fin : ∀ j v, j ≤ P.length → (((((∃ p cp, p < i ∧ p < j ∧ j < P.length ∧ c[p]? = some (some cp) ∧ sz P p j ≤ w ∧ v = cp + stp P J w p j) ∨ (∃ cp, j < i ∧ j < P.length ∧ c[j]? = some (some cp) ∧ w < sz P j (j + 1) ∧ v = cp + w * w)) ∨ ∃ x ∈ rs, ∃ t : Nat, x.1 = t ∧ t < P.length ∧ j = t ∧ v = cp + stp P J w i t) ∨ (w < sz P i (i + 1) ∧ j = i ∧ v = cp + w * w)) ↔
          ((∃ p cp, p < i + 1 ∧ p < j ∧ j < P.length ∧ c[p]? = some (some cp) ∧ sz P p j ≤ w ∧ v = cp + stp P J w p j) ∨ (∃ cp, j < i + 1 ∧ j < P.length ∧ c[j]? = some (some cp) ∧ w < sz P j (j + 1) ∧ v = cp + w * w))) := fun j v hj => by
        constructor
        · rintro (((⟨p, cp', z, r⟩ | ⟨cp', z, r⟩) | ⟨x, hx', t, z1, z2, z3, z4⟩) | ⟨z1, z2, z3⟩)
          · exact .inl ⟨p, cp', by omega, r⟩
          · exact .inr ⟨cp', by omega, r⟩
          · obtain ⟨t', t1, t2, t3, t4⟩ := (hr.mem x).mp hx'
            have : t' = t := by
              rw [t4] at z1
              have z1 : (t' : Int) = t := z1
              omega
            subst this
            subst z3
            exact .inl ⟨i, cp, by omega, t1, z2, hx, t3, z4⟩
          · subst z2
            exact .inr ⟨cp, by omega, hi, hx, z1, z3⟩
        · rintro (⟨p, cp', z, r1, r2, r3, r4, r5⟩ | ⟨cp', z, r1, r2, r3, r4⟩)
          · by_cases q : p = i
            · subst q
              rw [hx] at r3
              cases r3
              exact .inl (.inr ⟨_, (hr.mem _).mpr ⟨j, r1, hj, r4, rfl⟩, j, rfl, r2, rfl, r5⟩)
            · exact .inl (.inl (.inl ⟨p, cp', by omega, r1, r2, r3, r4, r5⟩))
          · by_cases q : j = i
            · subst q
              rw [hx] at r2
              cases r2
              exact .inr ⟨r3, rfl, r4⟩
            · exact .inl (.inl (.inr ⟨cp', by omega, r1, r2, r3, r4⟩))
      by_cases q : w < sz P i (i + 1)
      · rw [if_pos (decide_eq_true q), mulO_ok (by omega) (by omega), bs, bs]
        obtain ⟨a', ea', ha'⟩ := put_ok hb (t := i) (by omega) (cp + w * w)
        rw [ea', bs]
        refine ⟨a', rfl, ha'.congr fun j v hj => ?_⟩
        rw [← fin j v hj]
        constructor
        · rintro (z | ⟨z1, z2⟩)
          · exact .inl z
          · exact .inr ⟨q, z1, z2⟩
        · rintro (z | ⟨_, z1, z2⟩)
          · exact .inl z
          · exact .inr ⟨z1, z2⟩
      · rw [if_neg (by rw [decide_eq_true_eq]; exact q)]
        refine ⟨b, rfl, hb.congr fun j v hj => ?_⟩
        rw [← fin j v hj]
        constructor
        · exact .inl
        · rintro (z | ⟨z, _⟩)
          · exact z
          · exact absurd z q)
  rw [ea]
  refine ⟨a, rfl, ?_⟩
  rw [hL] at ha
  refine ha.congr fun j v _ => ?_
  unfold Cand
  constructor
  · rintro (⟨p, cp, z, r⟩ | ⟨cp, z, r⟩)
    · exact .inl ⟨p, cp, r⟩
    · exact .inr ⟨cp, r⟩
  · rintro (⟨p, cp, r1, r2, r⟩ | ⟨cp, r1, r⟩)
    · exact .inl ⟨p, cp, by omega, r1, r2, r⟩
    · exact .inr ⟨cp, by omega, r1, r⟩
/-- the rows of costs, one from another -/
structure Tab (P : List T) (J : Int) (ws : List Int) (many : Nat) (tb : List Co) : Prop where
  len : tb.length = many + 1
  zero : tb[0]? = some (some 0 :: List.replicate P.length none)
  row : ∀ (r : Nat) (c : Co), tb[r]? = some c → c.length = P.length + 1
  next : ∀ (r : Nat) (c a : Co), tb[r]? = some c → tb[r + 1]? = some a → Mn P.length (Cand P J (wat ws r) c) a
theorem table_ok {W : List (Tu Str)} (h : PiOk (fl W)) {ws : List Int} (hw : WiOk ws) {J : Int} (j0 : 0 ≤ J ∧ J ≤ 1000) {many : Nat} (hm : many ≤ 100) : ∃ tb, m_table_of (Tu.mk W) J ws many = some tb ∧ Tab (fl W) J ws many tb := by
  have hn := h.n
  unfold m_table_of
  rw [flat_ok (by omega)]
  simp only [bs]
  rw [repO_none (by omega)]
  simp only [bs]
  rw [catO_ok (by rw [List.length_replicate]; show 1 + _ ≤ _; omega)]
  simp only [bs]
  rw [rngO_ok (by omega) (by omega) (by omega) (by omega)]
  simp only [bs]
  have hL : (irange 0 (many : Int)).length = many := by
    rw [irange_len]
    omega
  obtain ⟨tb, et, ht⟩ := forS_ix (f := m_table_of_L1 J ws (fl W)) (xs := irange 0 (many : Int)) (fun i tb => Tab (fl W) J ws i tb) (s := [[some 0] ++ List.replicate (fl W).length none]) ⟨rfl, rfl, (fun r c q => by
    cases r with
    | zero =>
      have : [some 0] ++ List.replicate (fl W).length none = c := Option.some.inj q
      rw [← this, List.length_append, List.length_replicate]
      show 1 + _ = _
      omega
    | succ r => simp at q), fun r c a _ q => by simp at q⟩ (fun i hi tb ht => by
    rw [irange_at hi, Int.zero_add]
    rw [hL] at hi
    have hlen := ht.len
    have hx : tb[i]? = some tb[i] := List.getElem?_eq_getElem (by omega)
    generalize tb[i]'(by omega) = c at hx
    have hcl := ht.row i c hx
    obtain ⟨a, ea, ha⟩ := next_ok h (J := J) (w := wat ws i) ⟨j0, wat_bd hw i⟩ hcl
    unfold m_table_of_L1
    rw [width_ok hw, bs, at_nat hx, bs, ea, bs, appO_ok (by omega)]
    refine ⟨_, rfl, ⟨by rw [List.length_append, hlen]; rfl, ?_, fun r d q => ?_, fun r d b q1 q2 => ?_⟩⟩
    · rw [List.getElem?_append_left (by omega)]
      exact ht.zero
    · by_cases hr : r < tb.length
      · rw [List.getElem?_append_left hr] at q
        exact ht.row r d q
      · rw [List.getElem?_append_right (by omega)] at q
        have : r - tb.length = 0 := by
          cases z : r - tb.length with
          | zero => rfl
          | succ k => rw [z] at q; simp at q
        rw [this] at q
        cases q
        exact ha.len
    · by_cases hr : r + 1 < tb.length
      · rw [List.getElem?_append_left hr] at q2
        rw [List.getElem?_append_left (by omega)] at q1
        exact ht.next r d b q1 q2
      · rw [List.getElem?_append_right (by omega)] at q2
        have e0 : r + 1 - tb.length = 0 := by
          cases z : r + 1 - tb.length with
          | zero => rfl
          | succ k => rw [z] at q2; simp at q2
        rw [e0] at q2
        cases q2
        have : r = i := by omega
        subst this
        rw [List.getElem?_append_left (by omega), hx] at q1
        cases q1
        exact ha)
  rw [et]
  rw [hL] at ht
  exact ⟨tb, rfl, ht⟩
theorem sq_nn (x : Int) : 0 ≤ x * x := by
  rcases Int.le_total 0 x with h | h
  · exact Int.mul_nonneg h h
  · have := Int.mul_nonneg (show 0 ≤ -x by omega) (show 0 ≤ -x by omega)
    rwa [Int.neg_mul_neg] at this
theorem stp_nn {P : List T} {J w : Int} (hJ : 0 ≤ J) (f t : Nat) : 0 ≤ stp P J w f t := by
  have := sq_nn (w - sz P f t)
  have := Int.mul_nonneg hJ (jt_bd P (t - 1)).1
  unfold stp
  omega
theorem Tab.nn {P : List T} {J : Int} {ws : List Int} {many : Nat} {tb : List Co} (h : Tab P J ws many tb) (hJ : 0 ≤ J) : ∀ (r : Nat) (c : Co) (j : Nat) (v : Int), tb[r]? = some c → c[j]? = some (some v) → 0 ≤ v
  | 0, c, j, v, q1, q2 => by
    rw [h.zero] at q1
    cases q1
    cases j with
    | zero =>
      have : (0 : Int) = v := by
        have q2 : some (some (0 : Int)) = some (some v) := q2
        injection q2 with q2
        injection q2
      omega
    | succ j =>
      rw [List.getElem?_cons_succ, List.getElem?_replicate] at q2
      split at q2 <;> cases q2
  | r + 1, c, j, v, q1, q2 => by
    have hr : tb[r]? = some (tb[r]'(by have := (List.getElem?_eq_some_iff.mp q1).1; omega)) := List.getElem?_eq_getElem _
    rcases (h.next r _ c hr q1).is j v q2 with ⟨p, cp, _, _, e, _, rfl⟩ | ⟨cp, _, e, _, rfl⟩
    · have := Tab.nn h hJ r _ p cp hr e
      have := stp_nn (P := P) (w := wat ws r) hJ p j
      omega
    · have := Tab.nn h hJ r _ j cp hr e
      have := sq_nn (wat ws r)
      omega
theorem Tab.col0 {P : List T} {J : Int} {ws : List Int} {many : Nat} {tb : List Co} (h : Tab P J ws many tb) {j : Nat} {v : Int} {c : Co} (q1 : tb[0]? = some c) (q2 : c[j]? = some (some v)) : j = 0 ∧ v = 0 := by
  rw [h.zero] at q1
  cases q1
  cases j with
  | zero =>
    have q2 : some (some (0 : Int)) = some (some v) := q2
    injection q2 with q2
    injection q2 with q2
    exact ⟨rfl, q2.symm⟩
  | succ j =>
    rw [List.getElem?_cons_succ, List.getElem?_replicate] at q2
    split at q2 <;> cases q2
/-! data of any kind -/
def okn (d : PyData) (n : Nat) : Prop := d.canLay0 = true ∧ d.depth ≤ n
theorem okn.mono {d : PyData} {n m : Nat} (h : okn d n) (l : n ≤ m) : okn d m := ⟨h.1, Nat.le_trans h.2 l⟩
theorem okn_int (i : Int) (n : Nat) : okn (.int i) n := ⟨by simp only [PyData.canLay0], by simp only [PyData.depth]; exact Nat.zero_le _⟩
theorem okn_str {s : Str} (h : PyData.strOk s = true) (n : Nat) : okn (.str s) n := ⟨by simp only [PyData.canLay0, h], by simp only [PyData.depth]; exact Nat.zero_le _⟩
theorem okn_tup {ds : List PyData} {n : Nat} (h : ∀ d ∈ ds, okn d n) : okn (.tuple ds) (n + 1) := by
  have h1 : PyData.canLayAll0 ds = true := by
    induction ds with
    | nil => rfl
    | cons d ds ih =>
      simp only [PyData.canLayAll0, (h d List.mem_cons_self).1, ih fun e he => h e (List.mem_cons_of_mem _ he), Bool.and_self]
  have h2 : PyData.depthAll ds ≤ n := by
    induction ds with
    | nil => exact Nat.zero_le _
    | cons d ds ih =>
      simp only [PyData.depthAll]
      refine Nat.max_le.mpr ⟨(h d List.mem_cons_self).2, ih (fun e he => h e (List.mem_cons_of_mem _ he)) ?_⟩
      simp only [PyData.canLayAll0, Bool.and_eq_true] at h1
      exact h1.2
  exact ⟨by simp only [PyData.canLay0, h1], by simp only [PyData.depth]; omega⟩
theorem okn_cons {d : PyData} {ds : List PyData} {n : Nat} (h : okn d n) (hs : ∀ e ∈ ds, okn e n) : ∀ e ∈ d :: ds, okn e n := fun e he => by
  rcases List.mem_cons.mp he with rfl | he
  · exact h
  · exact hs e he
theorem okn_nil {n : Nat} : ∀ e ∈ ([] : List PyData), okn e n := fun _ h => nomatch h
theorem okn_shaped {d : PyData} {n : Nat} (h : okn d n) (l : n ≤ 64) : SeqAt.shaped d = true := by
  unfold SeqAt.shaped
  rw [h.1, decide_eq_true (Nat.le_trans h.2 l)]
  rfl
theorem eqY_self {d : PyData} {n : Nat} (h : okn d n) (l : n ≤ 64) : eqYO ⟨d⟩ ⟨d⟩ = some true := by
  unfold eqYO
  rw [if_pos ⟨okn_shaped h l, okn_shaped h l⟩]
  exact congrArg some (SeqAt.eqv_refl d h.1)
theorem ofTu (ds : List PyData) : (ofD ⟨.tuple ds⟩ : Option (Tu Dy)) = some ⟨ds.map Dy.mk⟩ := by
  have : ofAll (α := Dy) ds = some (ds.map Dy.mk) := by
    induction ds with
    | nil => rfl
    | cons d ds ih =>
      show (some (Dy.mk d)).bind (fun x => (ofAll ds).bind fun xs => some (x :: xs)) = _
      rw [ih]
      rfl
  show (ofAll (α := Dy) ds).map Tu.mk = _
  rw [this]
  rfl
theorem ofTu2 (ds : List (PyData × PyData)) : (ofD ⟨.tuple (ds.map fun p => .tuple [p.1, p.2])⟩ : Option (Tu (Dy × Dy × Unit))) = some ⟨ds.map fun p => (⟨p.1⟩, ⟨p.2⟩, ())⟩ := by
  have : ofAll (α := Dy × Dy × Unit) (ds.map fun p => .tuple [p.1, p.2]) = some (ds.map fun p => (⟨p.1⟩, ⟨p.2⟩, ())) := by
    induction ds with
    | nil => rfl
    | cons d ds ih =>
      rw [List.map_cons]
      show (some ((⟨d.1⟩, ⟨d.2⟩, ()) : Dy × Dy × Unit)).bind (fun x => (ofAll _).bind fun xs => some (x :: xs)) = _
      rw [ih]
      rfl
  show (ofAll (α := Dy × Dy × Unit) _).map Tu.mk = _
  rw [this]
  rfl
theorem of2 (a b : PyData) : (ofD ⟨.tuple [a, b]⟩ : Option (Dy × Dy × Unit)) = some (⟨a⟩, ⟨b⟩, ()) := rfl
theorem of3 (a b c : PyData) : (ofD ⟨.tuple [a, b, c]⟩ : Option (Dy × Dy × Dy × Unit)) = some (⟨a⟩, ⟨b⟩, ⟨c⟩, ()) := rfl
theorem of4 (a b c d : PyData) : (ofD ⟨.tuple [a, b, c, d]⟩ : Option (Dy × Dy × Dy × Dy × Unit)) = some (⟨a⟩, ⟨b⟩, ⟨c⟩, ⟨d⟩, ()) := rfl
theorem of5 (a b c d e : PyData) : (ofD ⟨.tuple [a, b, c, d, e]⟩ : Option (Dy × Dy × Dy × Dy × Dy × Unit)) = some (⟨a⟩, ⟨b⟩, ⟨c⟩, ⟨d⟩, ⟨e⟩, ()) := rfl
theorem ofS (s : Str) : (ofD ⟨.str s⟩ : Option Str) = some s := rfl
theorem ofI (i : Int) : (ofD ⟨.int i⟩ : Option Int) = some i := rfl
theorem at2_0 {α : Type} (a b : α) : atI [a, b] (0 : Int) = some a := rfl
theorem at2_1 {α : Type} (a b : α) : atI [a, b] (1 : Int) = some b := rfl
theorem at3_0 {α : Type} (a b c : α) : atI [a, b, c] (0 : Int) = some a := rfl
theorem at3_1 {α : Type} (a b c : α) : atI [a, b, c] (1 : Int) = some b := rfl
theorem at3_2 {α : Type} (a b c : α) : atI [a, b, c] (2 : Int) = some c := rfl
theorem at4_0 {α : Type} (a b c d : α) : atI [a, b, c, d] (0 : Int) = some a := rfl
theorem at4_1 {α : Type} (a b c d : α) : atI [a, b, c, d] (1 : Int) = some b := rfl
theorem at4_2 {α : Type} (a b c d : α) : atI [a, b, c, d] (2 : Int) = some c := rfl
theorem at4_3 {α : Type} (a b c d : α) : atI [a, b, c, d] (3 : Int) = some d := rfl
theorem at5_4 {α : Type} (a b c d e : α) : atI [a, b, c, d, e] (4 : Int) = some e := rfl
theorem mapD (ds : List PyData) : (ds.map Dy.mk).map Ud.toD = ds := by
  rw [List.map_map]
  exact List.map_id _
theorem lcGo_pair {β γ : Type} {f : β → Option γ} {xs : List β} {ys : List γ} (h : Paired (fun x y => f x = some y) xs ys) : lcGo (fun _ => some true) f xs = some ys := by
  induction h with
  | nil => rfl
  | @cons x y xs ys h _ ih =>
    show (f x).bind (fun z => (lcGo _ f xs).bind fun zs => some (z :: zs)) = _
    rw [h, bs, ih]
    rfl
theorem lcM_pair {β γ : Type} {f : β → Option γ} {xs : List β} {ys : List γ} (hl : xs.length < 1000000) (h : Paired (fun x y => f x = some y) xs ys) : lcM (fun _ => some true) f xs = some ys := by
  unfold lcM
  rw [if_pos hl, lcGo_pair h]
theorem Paired.map2 {α β γ δ : Type} {R : α → β → Prop} {S : γ → δ → Prop} {f : α → γ} {g : β → δ} (hf : ∀ a b, R a b → S (f a) (g b)) : ∀ {xs : List α} {ys : List β}, Paired R xs ys → Paired S (xs.map f) (ys.map g)
  | _, _, .nil => .nil
  | _, _, .cons h t => .cons (hf _ _ h) (Paired.map2 hf t)
theorem Paired.flip {α β : Type} {R : α → β → Prop} {S : β → α → Prop} (hf : ∀ a b, R a b → S b a) : ∀ {xs : List α} {ys : List β}, Paired R xs ys → Paired S ys xs
  | _, _, .nil => .nil
  | _, _, .cons h t => .cons (hf _ _ h) (Paired.flip hf t)
theorem Paired.memL {α β : Type} {R : α → β → Prop} : ∀ {xs : List α} {ys : List β}, Paired R xs ys → ∀ x ∈ xs, ∃ y ∈ ys, R x y
  | _, _, .cons h t, x, hx => by
    rcases List.mem_cons.mp hx with rfl | hx
    · exact ⟨_, List.mem_cons_self, h⟩
    · obtain ⟨y, h1, h2⟩ := Paired.memL t x hx
      exact ⟨y, List.mem_cons_of_mem _ h1, h2⟩
/-! the law's words -/
theorem cut_str {z : Str} (h : PyData.strOk z = true) (hl : z.length ≤ 1000) (lo hi : Option Int) : ∃ r, cutSO z lo hi = some r ∧ PyData.strOk r = true ∧ r.length ≤ z.length := by
  refine ⟨cutS z lo hi, if_pos (by omega), ?_, ?_⟩
  · have hz := Array.all_eq_true'.mp h
    show ((cutS z lo hi).cps).all _ = true
    unfold cutS
    refine Array.all_eq_true'.mpr fun x hx => hz x ?_
    have hx := List.mem_of_mem_drop (List.mem_of_mem_take (Array.mem_toList_iff.mpr hx))
    exact Array.mem_toList_iff.mp hx
  · show ((cutS z lo hi).cps).size ≤ z.cps.size
    unfold cutS
    show (List.take _ (List.drop _ z.cps.toList)).toArray.size ≤ _
    rw [List.size_toArray, List.length_take, List.length_drop, Array.length_toList]
    omega
structure WdOk (w : Tu Str) : Prop where
  one : 1 ≤ w.l.length
  p : ∀ x ∈ w.l, x.length ≤ 12 ∧ PyData.strOk x = true
theorem abcde_len : ("abcde" : Str).length = 5 := by decide +kernel
theorem abcde_ok : PyData.strOk ("abcde" : Str) = true := by decide +kernel
structure InvW (N : Nat) (rest : List Int) (s : List Str × List (Tu Str)) : Prop where
  n : (fl s.2).length + s.1.length + rest.length = N
  ok : ∀ w ∈ s.2, WdOk w
  p : ∀ x ∈ s.1, x.length ≤ 12 ∧ PyData.strOk x = true
theorem fl_ge : ∀ W : List (Tu Str), (∀ w ∈ W, WdOk w) → W.length ≤ (fl W).length
  | [], _ => Nat.le_refl _
  | w :: W, h => by
    have := fl_ge W fun z hz => h z (List.mem_cons_of_mem _ hz)
    have h1 := (h w List.mem_cons_self).one
    show W.length + 1 ≤ (pw w ++ fl W).length
    rw [List.length_append, pw_len]
    omega
theorem words_ok (cs : List Int) (hl : cs.length ≤ 1000) : ∃ W, m__law_words cs = some (Tu.mk W) ∧ (∀ w ∈ W, WdOk w) ∧ (fl W).length = cs.length := by
  unfold m__law_words
  simp only [bs]
  obtain ⟨⟨wd, ws⟩, e, h⟩ := forS_inv (f := m__law_words_L1) (InvW cs.length) (xs := cs) (s := ([], [])) ⟨by show 0 + 0 + cs.length = _; omega, (fun _ h => nomatch h), (fun _ h => nomatch h)⟩ (fun x rest s hs => by
    obtain ⟨wd, ws⟩ := s
    obtain ⟨h1, h2, h4⟩ := hs
    have h1 : (fl ws).length + wd.length + (rest.length + 1) = cs.length := h1
    have h2 : ∀ w ∈ ws, WdOk w := h2
    have h4 : ∀ x ∈ wd, x.length ≤ 12 ∧ PyData.strOk x = true := h4
    obtain ⟨l, e0, hl2⟩ := numbers_ok x 2 (by omega) (by omega)
    obtain ⟨a, b, rfl⟩ := two hl2
    obtain ⟨p, e1, hp1, hp2⟩ := cut_str abcde_ok (by rw [abcde_len]; omega) none (some (1 + a % 5))
    rw [abcde_len] at hp2
    have wl := fl_ge ws h2
    have h5 : ∀ y ∈ wd ++ [p], y.length ≤ 12 ∧ PyData.strOk y = true := by
      intro y hy
      rcases List.mem_append.mp hy with hy | hy
      · exact h4 y hy
      · rw [List.mem_singleton] at hy
        rw [hy]
        exact ⟨by omega, hp1⟩
    have h6 : (wd ++ [p]).length = wd.length + 1 := by rw [List.length_append, List.length_singleton]
    unfold m__law_words_L1
    simp only [e0, bs, show atI [a, b] (0 : Int) = some a from rfl, show atI [a, b] (1 : Int) = some b from rfl, e1]
    rw [appO_ok (by omega)]
    simp only [bs]
    cases hb : (decide (b % 2 = 0) || decide (((wd ++ [p]).length : Int) = 3)) with
    | true =>
      simp only [if_true]
      rw [appO_ok (by omega)]
      simp only [bs]
      refine ⟨_, rfl, ?_, fun w hw => ?_, fun _ h => nomatch h⟩
      · show (fl (ws ++ [Tu.mk (wd ++ [p])])).length + 0 + rest.length = _
        rw [fl_app, List.length_append, fl_one, h6]
        omega
      · rcases List.mem_append.mp hw with hw | hw
        · exact h2 w hw
        · rw [List.mem_singleton] at hw
          subst hw
          exact ⟨by show 1 ≤ (wd ++ [p]).length; omega, h5⟩
    | false =>
      simp only [Bool.false_eq_true, if_false]
      exact ⟨_, rfl, by show (fl ws).length + (wd ++ [p]).length + rest.length = _; omega, h2, h5⟩)
  rw [e]
  obtain ⟨h1, h2, h4⟩ := h
  have h1 : (fl ws).length + wd.length + 0 = cs.length := h1
  have h2 : ∀ w ∈ ws, WdOk w := h2
  have h4 : ∀ x ∈ wd, x.length ≤ 12 ∧ PyData.strOk x = true := h4
  have wl := fl_ge ws h2
  simp only [bs]
  by_cases q : (0 : Int) < (wd.length : Int)
  · rw [if_pos (decide_eq_true q), appO_ok (by omega)]
    simp only [bs]
    refine ⟨_, rfl, fun w hw => ?_, ?_⟩
    · rcases List.mem_append.mp hw with hw | hw
      · exact h2 w hw
      · rw [List.mem_singleton] at hw
        subst hw
        exact ⟨by show 1 ≤ wd.length; omega, h4⟩
    · rw [fl_app, List.length_append, fl_one]
      show (fl ws).length + wd.length = _
      omega
  · rw [if_neg (by rw [decide_eq_true_eq]; exact q)]
    simp only [bs]
    exact ⟨_, rfl, h2, by omega⟩
theorem fl_pi {W : List (Tu Str)} (h : ∀ w ∈ W, WdOk w) (hn : (fl W).length ≤ 100) : PiOk (fl W) := ⟨hn, fun x hx => by
  obtain ⟨w, hw, hm⟩ := mem_fl hx
  exact ((h w hw).p _ hm).1⟩
theorem fl_str {W : List (Tu Str)} (h : ∀ w ∈ W, WdOk w) : ∀ x ∈ fl W, PyData.strOk x.1 = true := fun x hx => by
  obtain ⟨w, hw, hm⟩ := mem_fl hx
  exact ((h w hw).p _ hm).2
/-! the law -/
theorem seven {l : List Int} (h : l.length = 7) : ∃ a b c d e f g, l = [a, b, c, d, e, f, g] := by
  match l, h with
  | [a, b, c, d, e, f, g], _ => exact ⟨a, b, c, d, e, f, g, rfl⟩
theorem qe_co : ∀ c : Co, qeL c c = true
  | [] => rfl
  | o :: r => by
    show (Qe.qe o o && qeL r r) = true
    rw [qe_co r]
    cases o with
    | none => rfl
    | some v =>
      show (decide (v = v) && true) = true
      rw [decide_eq_true rfl]
      rfl
theorem qe_tb : ∀ tb : List Co, qeL tb tb = true
  | [] => rfl
  | c :: r => by
    show (qeL c c && qeL r r) = true
    rw [qe_co c, qe_tb r]
    rfl
theorem sq_ok {i : Int} (h1 : 0 ≤ i) (h2 : i ≤ 10000) : powO i (2 : Int) = some (i * i) := by
  unfold powO
  rw [if_pos ⟨by omega, by omega, by omega⟩]
  show some (i ^ 2) = _
  rw [Int.pow_succ, Int.pow_succ, Int.pow_zero, Int.one_mul]
/-- what the law puts together for a place: all that may be its cost -/
theorem due_ok {P : List T} (h : PiOk P) {J w : Int} (nw : NumOk J w) {c a : Co} (hc : c.length = P.length + 1) (hm : Mn P.length (Cand P J w c) a) {t : Nat} (ht : t ≤ P.length) {o : Option Int} (ho : a[t]? = some o) : m__law_due (P.map pc) J w c t = some o := by
  have hn := h.n
  have j0 := nw.j
  have w0 := nw.w
  unfold m__law_due
  simp only [bs]
  rw [rngO_ok (by omega) (by omega) (by omega) (by omega)]
  simp only [bs]
  have hL : (irange 0 (t : Int)).length = t := by
    rw [irange_len]
    omega
  obtain ⟨L, eL, hl1, hl2⟩ := forS_ix (f := m__law_due_L1 (P.map pc) J w c t) (xs := irange 0 (t : Int)) (fun i L => L.length ≤ i ∧ ∀ v, v ∈ L ↔ ∃ p cp, p < i ∧ p < t ∧ t < P.length ∧ c[p]? = some (some cp) ∧ sz P p t ≤ w ∧ v = cp + stp P J w p t) (s := ([] : List Int)) ⟨Nat.le_refl _, fun v => ⟨fun z => (nomatch z), fun ⟨p, cp, z, _⟩ => absurd z (Nat.not_lt_zero _)⟩⟩ (fun i hi L hL' => by
    rw [irange_at hi, Int.zero_add]
    rw [hL] at hi
    obtain ⟨l1, l2⟩ := hL'
    have hx : c[i]? = some c[i] := List.getElem?_eq_getElem (by omega)
    generalize c[i]'(by omega) = o at hx
    have hz : P[t - 1]? = some P[t - 1] := List.getElem?_eq_getElem (by omega)
    have sb := sz_bd h (f := i) (t := t) (by omega) (by omega)
    unfold m__law_due_L1
    rw [law_size_ok h hi ht, bs, bs, at_nat hx, bs, List.length_map]
    have skip : (∀ cp, ¬ (o = some cp ∧ t < P.length ∧ sz P i t ≤ w)) → ∀ v, v ∈ L ↔ ∃ p cp, p < i + 1 ∧ p < t ∧ t < P.length ∧ c[p]? = some (some cp) ∧ sz P p t ≤ w ∧ v = cp + stp P J w p t := fun hno v => by
      rw [l2]
      constructor
      · rintro ⟨p, cp, z, r⟩
        exact ⟨p, cp, by omega, r⟩
      · rintro ⟨p, cp, z, r1, r2, r3, r4, r5⟩
        refine ⟨p, cp, ?_, r1, r2, r3, r4, r5⟩
        by_cases q : p = i
        · subst q
          rw [hx] at r3
          exact absurd ⟨Option.some.inj r3, r2, r4⟩ (hno cp)
        · omega
    cases o with
    | none =>
      rw [if_neg (by simp)]
      exact ⟨L, rfl, by omega, skip fun cp z => by cases z.1⟩
    | some cp =>
      by_cases q : t < P.length ∧ sz P i t ≤ w
      · rw [if_pos (by rw [decide_eq_true (show (t : Int) < (P.length : Int) by omega), decide_eq_true q.2]; rfl), bs, sq_ok (by omega) (by omega), bs, bs, show ((t : Int) - 1) = ((t - 1 : Nat) : Int) by omega, at_nat (pc_at hz), bs, mulO_ok (by omega) (by omega), bs, appO_ok (by omega), bs]
        refine ⟨_, rfl, by rw [List.length_append]; show _ + 1 ≤ _; omega, fun v => ?_⟩
        have ev : cp + (w - sz P i t) * (w - sz P i t) + J * jt P (t - 1) = cp + stp P J w i t := by
          unfold stp
          omega
        rw [List.mem_append, List.mem_singleton, l2]
        constructor
        · rintro (⟨p, cp', z, r⟩ | rfl)
          · exact ⟨p, cp', by omega, r⟩
          · exact ⟨i, cp, by omega, hi, q.1, hx, q.2, ev⟩
        · rintro ⟨p, cp', z, r1, r2, r3, r4, r5⟩
          by_cases e : p = i
          · subst e
            rw [hx] at r3
            cases r3
            exact .inr (r5.trans ev.symm)
          · exact .inl ⟨p, cp', by omega, r1, r2, r3, r4, r5⟩
      · rw [if_neg (by
          rw [Bool.and_eq_true, Bool.and_eq_true, decide_eq_true_eq, decide_eq_true_eq]
          exact fun z => q ⟨by omega, z.2.2⟩)]
        exact ⟨L, rfl, by omega, skip fun cp' z => q z.2⟩)
  rw [eL]
  simp only [bs]
  rw [hL] at hl1 hl2
  have hx : c[t]? = some c[t] := List.getElem?_eq_getElem (by omega)
  generalize c[t]'(by omega) = ot at hx
  rw [List.length_map, at_nat hx]
  -- the square of a width
  have fin : ∀ L' : List Int, (∀ v, v ∈ L' ↔ Cand P J w c t v) → (if decide ((L'.length : Int) = (0 : Int)) = true then (some none) else ((minL L').bind fun m => some (some m))) = some o := fun L' hL' => by
    cases L' with
    | nil =>
      rw [if_pos (by decide)]
      cases o with
      | none => rfl
      | some v => exact absurd ((hL' v).mpr (hm.is t v ho)) (fun z => nomatch z)
    | cons x r =>
      rw [if_neg (by rw [decide_eq_true_eq, List.length_cons]; omega)]
      obtain ⟨m, em⟩ : ∃ m, minL (x :: r) = some m := ⟨_, rfl⟩
      obtain ⟨m1, m2⟩ := minL_spec em
      rw [em, bs]
      obtain ⟨v', e, le⟩ := hm.le t m ht ((hL' m).mp m1)
      rw [ho] at e
      cases e
      have := m2 v' ((hL' v').mpr (hm.is t v' ho))
      have : m = v' := by omega
      rw [this]
  have cand : ∀ v, Cand P J w c t v ↔ (∃ p cp, p < t ∧ p < t ∧ t < P.length ∧ c[p]? = some (some cp) ∧ sz P p t ≤ w ∧ v = cp + stp P J w p t) ∨ (∃ cp, t < P.length ∧ c[t]? = some (some cp) ∧ w < sz P t (t + 1) ∧ v = cp + w * w) := fun v => by
    unfold Cand
    constructor
    · rintro (⟨p, cp, r⟩ | ⟨cp, r⟩)
      · exact .inl ⟨p, cp, r.1, r⟩
      · exact .inr ⟨cp, r⟩
    · rintro (⟨p, cp, _, r⟩ | ⟨cp, r⟩)
      · exact .inl ⟨p, cp, r⟩
      · exact .inr ⟨cp, r⟩
  have nobar : (∀ cp, ¬ (t < P.length ∧ ot = some cp ∧ w < sz P t (t + 1))) → ∀ v, v ∈ L ↔ Cand P J w c t v := fun hno v => by
    rw [cand, hl2]
    constructor
    · exact .inl
    · rintro (z | ⟨cp, z1, z2, z3, _⟩)
      · exact z
      · rw [hx] at z2
        exact absurd ⟨z1, Option.some.inj z2, z3⟩ (hno cp)
  by_cases q : t < P.length
  · rw [if_pos (decide_eq_true (show (t : Int) < (P.length : Int) by omega)), bs]
    cases ot with
    | none =>
      rw [if_neg (show ¬ (Option.isSome (none : Option Int)) = true from fun z => by cases z), bs, bs, if_neg (by decide), bs]
      exact fin L (nobar fun cp z => by cases z.2.1)
    | some cp =>
      rw [if_pos (show (Option.isSome (some cp)) = true from rfl), show ((t : Int) + 1) = ((t + 1 : Nat) : Int) by omega, law_size_ok h (by omega) (by omega), bs, bs, bs]
      by_cases q2 : w < sz P t (t + 1)
      · rw [if_pos (decide_eq_true q2), bs, mulO_ok (by omega) (by omega), bs, bs, appO_ok (by omega), bs, bs]
        refine fin _ fun v => ?_
        rw [cand, List.mem_append, List.mem_singleton, hl2]
        constructor
        · rintro (z | rfl)
          · exact .inl z
          · exact .inr ⟨cp, q, hx, q2, rfl⟩
        · rintro (z | ⟨cp', z1, z2, z3, z4⟩)
          · exact .inl z
          · rw [hx] at z2
            cases z2
            exact .inr z4
      · rw [if_neg (by rw [decide_eq_true_eq]; exact q2), bs]
        exact fin L (nobar fun cp z => q2 z.2.2)
  · rw [if_neg (by rw [decide_eq_true_eq]; omega), bs, if_neg (by decide), bs]
    exact fin L (nobar fun cp z => q z.1)
theorem dues_ok {P : List T} (h : PiOk P) {J w : Int} (nw : NumOk J w) {c a : Co} (hc : c.length = P.length + 1) (hm : Mn P.length (Cand P J w c) a) (f : Int → Option (Option Int)) (hf : ∀ t : Nat, f (t : Int) = m__law_due (P.map pc) J w c t) : lcM (fun _ => some true) f (irange 0 ((P.length : Int) + 1)) = some a := by
  have hn := h.n
  have hL : (irange 0 ((P.length : Int) + 1)).length = P.length + 1 := by
    rw [irange_len]
    omega
  refine lcM_pair (by omega) ?_
  have hal := hm.len
  have key : ∀ (m k : Nat) (xs : List Int) (ys : Co), xs.length = m → ys.length = m → (∀ i x, xs[i]? = some x → x = ((k + i : Nat) : Int)) → (∀ i y, ys[i]? = some y → a[k + i]? = some y) → k + m = P.length + 1 → Paired (fun x y => f x = some y) xs ys := by
    intro m
    induction m with
    | zero =>
      intro k xs ys hx hy _ _ _
      rw [List.length_eq_zero_iff.mp hx, List.length_eq_zero_iff.mp hy]
      exact .nil
    | succ m ih =>
      intro k xs ys hx hy e1 e2 hk
      match xs, ys, hx, hy with
      | x :: xs, y :: ys, hx, hy =>
        refine .cons ?_ (ih (k + 1) xs ys (Nat.succ.inj hx) (Nat.succ.inj hy) (fun i z hz => ?_) (fun i z hz => ?_) (by omega))
        · have := e1 0 x rfl
          rw [this, hf]
          exact due_ok h nw hc hm (by omega) (e2 0 y rfl)
        · rw [e1 (i + 1) z hz, show k + (i + 1) = k + 1 + i by omega]
        · rw [show k + 1 + i = k + (i + 1) by omega]
          exact e2 (i + 1) z hz
  refine key (P.length + 1) 0 _ _ hL hal (fun i x hx => ?_) (fun i y hy => ?_) (by omega)
  · obtain ⟨hi, e⟩ := List.getElem?_eq_some_iff.mp hx
    rw [← e, irange_at hi]
    omega
  · rw [Nat.zero_add]
    exact hy
theorem co_self (tb : List Co) (h : tb.length < 1000000) : lcM (fun _ => some true) (fun c : Co => some c) tb = some tb := by
  rw [lcM_all (fun c => c) h (fun _ _ => rfl), List.map_id']
theorem law_main (ns : List Int) (hl : ns.length ≤ 63) : m_law (Fz.mk ns) = some true := by
  obtain ⟨c0, e0⟩ := cell_at (ns := ns) 0 (by omega)
  have hcut : (cut ns (some (3 : Int)) (some (15 : Int))).length ≤ 12 := cut_le ns 3 15
  obtain ⟨W, eW, hW, hWl⟩ := words_ok (cut ns (some (3 : Int)) (some (15 : Int))) (by omega)
  obtain ⟨l, en, hl7⟩ := numbers_ok c0 7 (by omega) (by omega)
  obtain ⟨s0, s1, s2, s3, s4, s5, s6, rfl⟩ := seven hl7
  have x0 : atI [s0, s1, s2, s3, s4, s5, s6] (0 : Int) = some s0 := rfl
  have x1 : atI [s0, s1, s2, s3, s4, s5, s6] (1 : Int) = some s1 := rfl
  have x5 : atI [s0, s1, s2, s3, s4, s5, s6] (5 : Int) = some s5 := rfl
  have x6 : atI [s0, s1, s2, s3, s4, s5, s6] (6 : Int) = some s6 := rfl
  have h : PiOk (fl W) := fl_pi hW (by omega)
  unfold m_law
  rw [eW, bs, bs, pieces_ok (by omega) (fun w hw p hp => by have := ((hW w hw).p p hp).1; omega), bs, bs, e0, bs, en, bs, bs, x0, bs, bs, x1, bs, rngO_ok (by omega) (by omega) (by omega) (by omega), bs]
  have hdr : ∀ k ∈ irange 0 (s1 % 4), ∃ v, ((atI [s0, s1, s2, s3, s4, s5, s6] ((2 : Int) + k)).bind fun i_907 => some (i_907 % (13 : Int))) = some v ∧ 0 ≤ v ∧ v ≤ 12 := fun k hk => by
    rw [mem_irange] at hk
    obtain ⟨x, ex, _⟩ := atI_some (xs := [s0, s1, s2, s3, s4, s5, s6]) (i := 2 + k) (by omega) (by show 2 + k < (7 : Int); omega)
    rw [ex]
    exact ⟨_, rfl, by omega, by omega⟩
  rw [lcM_all (f := fun k => ((atI [s0, s1, s2, s3, s4, s5, s6] ((2 : Int) + k)).bind fun i_907 => some (i_907 % (13 : Int)))) (fun k => (((atI [s0, s1, s2, s3, s4, s5, s6] ((2 : Int) + k)).bind fun i_907 => some (i_907 % (13 : Int)))).getD 0) (by rw [irange_len]; omega) (fun k hk => by
    obtain ⟨v, e, _⟩ := hdr k hk
    rw [e]
    rfl), bs, x5, bs]
  have hzl : ((irange 0 (s1 % 4)).map fun k => (((atI [s0, s1, s2, s3, s4, s5, s6] ((2 : Int) + k)).bind fun i_907 => some (i_907 % (13 : Int)))).getD 0).length ≤ 3 := by
    rw [List.length_map, irange_len]
    omega
  have hzb : ∀ v ∈ ((irange 0 (s1 % 4)).map fun k => (((atI [s0, s1, s2, s3, s4, s5, s6] ((2 : Int) + k)).bind fun i_907 => some (i_907 % (13 : Int)))).getD 0), 0 ≤ v ∧ v ≤ 12 := fun v hv => by
    obtain ⟨k, hk, rfl⟩ := List.mem_map.mp hv
    obtain ⟨v, e, hv⟩ := hdr k hk
    rw [e]
    exact hv
  generalize ((irange 0 (s1 % 4)).map fun k => (((atI [s0, s1, s2, s3, s4, s5, s6] ((2 : Int) + k)).bind fun i_907 => some (i_907 % (13 : Int)))).getD 0) = zs at hzl hzb
  rw [catO_ok (by show _ + 1 ≤ _; omega), bs, bs, x6, bs, bs, bs]
  have hw : WiOk (zs ++ [1 + s5 % 12]) := ⟨by simp, by rw [List.length_append]; show _ + 1 ≤ _; omega, fun v hv => by
    rcases List.mem_append.mp hv with hv | hv
    · have := hzb v hv
      omega
    · rw [List.mem_singleton.mp hv]
      omega⟩
  generalize zs ++ [1 + s5 % 12] = ws at hw
  obtain ⟨many, em, hm0, hm⟩ : ∃ many : Nat, 1 + s6 % 8 = (many : Int) ∧ 1 ≤ many ∧ many ≤ 100 := ⟨(1 + s6 % 8).toNat, by omega, by omega, by omega⟩
  rw [em]
  have j0 : 0 ≤ s0 % 100 ∧ s0 % 100 ≤ 1000 := by omega
  obtain ⟨tb, et, ht⟩ := table_ok h hw j0 hm
  have hlen := ht.len
  rw [et, bs, bs, if_neg (by rw [decide_eq_true (show (tb.length : Int) = (many : Int) + 1 by omega), decide_eq_true (show ws = ws from rfl)]; decide)]
  rw [show atI tb (0 : Int) = some _ from at_nat (k := 0) ht.zero, bs, List.length_map, repO_none (by omega), bs, catO_ok (by rw [List.length_replicate]; show 1 + _ ≤ _; omega), bs]
  rw [show Qe.qe (some 0 :: List.replicate (fl W).length none : Co) ([some 0] ++ List.replicate (fl W).length none) = true from qe_co _, if_neg (by decide), rngO_ok (by omega) (by omega) (by omega) (by omega), bs]
  rw [forC_all (f := m_law_L1 ((fl W).map pc) (s0 % 100) ws tb) (fun x hx => by
    rw [mem_irange] at hx
    obtain ⟨r, rfl⟩ : ∃ r : Nat, x = (r : Int) := ⟨x.toNat, by omega⟩
    have hr : r < many := by omega
    have q1 : tb[r]? = some tb[r] := List.getElem?_eq_getElem (by omega)
    have q2 : tb[r + 1]? = some tb[r + 1] := List.getElem?_eq_getElem (by omega)
    generalize tb[r]'(by omega) = c at q1
    generalize tb[r + 1]'(by omega) = a at q2
    have nw : NumOk (s0 % 100) (wat ws r) := ⟨j0, wat_bd hw r⟩
    unfold m_law_L1
    rw [wat_at hw, bs, bs, List.length_map, rngO_ok (by omega) (by omega) (by omega) (by omega), bs, dues_ok h nw (ht.row r c q1) (ht.next r c a q1 q2) _ (fun t => by
      show ((atI tb (r : Int)).bind _) = _
      rw [at_nat q1, bs]
      cases m__law_due ((fl W).map pc) (s0 % 100) (wat ws r) c t <;> rfl), bs, bs, show ((r : Int) + 1) = ((r + 1 : Nat) : Int) by omega, at_nat q2, bs, if_neg (by decide), bs, show Qe.qe a a = true from qe_co a, bs, if_neg (by decide)]), bs]
  dsimp only
  rw [co_self tb (by omega), bs, bs]
  have hz := ht.zero
  have r0 : rowG tb (0 : Int) (fun r => appO r (some (7 : Int))) = some (tb.set 0 ((some 0 :: List.replicate (fl W).length none) ++ [some 7])) := by
    unfold rowG
    rw [show ixN tb.length (0 : Int) = some 0 from by unfold ixN; rw [if_pos (by omega), if_pos (by omega)]; rfl, bs, hz, bs]
    show Option.map (fun r' => tb.set 0 r') (appO (some 0 :: List.replicate (fl W).length none) (some 7)) = _
    rw [appO_ok (by rw [List.length_cons, List.length_replicate]; omega)]
    rfl
  rw [r0, bs]
  have q1 : (tb.set 0 ((some 0 :: List.replicate (fl W).length none) ++ [some 7]))[1]? = some (tb[1]'(by omega)) := by
    rw [List.getElem?_set_ne (by omega)]
    exact List.getElem?_eq_getElem _
  have r1 : ∃ z, rowG (tb.set 0 ((some 0 :: List.replicate (fl W).length none) ++ [some 7])) (1 : Int) (fun _ => some []) = some z := by
    unfold rowG
    rw [List.length_set, show ixN tb.length (1 : Int) = some 1 from by unfold ixN; rw [if_pos (by omega), if_pos (by omega)]; rfl, bs, q1, bs]
    exact ⟨_, rfl⟩
  obtain ⟨z, ez⟩ := r1
  rw [ez, bs, bs]
  exact congrArg some (qe_tb tb)
end Wk62
set_option synthInstance.maxHeartbeats 4000000
set_option synthInstance.maxSize 20000
open PySem PySem.W PyProof.Rows in
set_option maxRecDepth 100000 in
set_option maxHeartbeats 0 in
theorem PySem.Challenge.cw_boxgalley_k62_the_table_of_rows_holds : PySem.Challenge.rw_boxgalley_k62_the_table_of_rows.Holds := by
  w_on; o_law; k_head; (case hw => w_witness2)
  k_fill
  refine L2.walk_of (l := PySem.Challenge.rw_boxgalley_k62_the_table_of_rows) (n := 63) (k := 4) (x := "_law_script") (CX := fun _ => L2.CX0) (sp := fun w => Wk62.spLaw _) rfl (by decide) rfl ⟨rfl, by decide, by decide⟩ (fun w h Y => PySem.W.kIn_of Y) ?F (fun _ _ a ns hl _ hS => ⟨a, ns, rfl, hS, hl, fun _ => rfl⟩) (fun _ _ _ _ _ h => h)
  case F =>
    intro w mg fa h KX G hmg
    refine' Wk62.all_mk Wk62.law_main KX G hmg ?a_flat ?l_flat ?c_flat ?k_flat ?a_width_at ?l_width_at ?c_width_at ?k_width_at ?a_reaches ?l_reaches ?c_reaches ?k_reaches ?a_is_barred ?l_is_barred ?c_is_barred ?k_is_barred ?a_put_less ?l_put_less ?c_put_less ?k_put_less ?a_next_costs ?l_next_costs ?c_next_costs ?k_next_costs ?a_table_of ?l_table_of ?c_table_of ?k_table_of ?a__law_cell_at ?l__law_cell_at ?c__law_cell_at ?k__law_cell_at ?a__law_numbers ?l__law_numbers ?c__law_numbers ?k__law_numbers ?a__law_words ?l__law_words ?c__law_words ?k__law_words ?a__law_pieces ?l__law_pieces ?c__law_pieces ?k__law_pieces ?a__law_size ?l__law_size ?c__law_size ?k__law_size ?a__law_due ?l__law_due ?c__law_due ?k__law_due ?a_law ?l_law ?c_law ?k_law ?z_enumerate ?z_int ?z_isinstance ?z_len ?z_list ?z_min ?z_range ?z_tuple
    (case a_flat => k_is)
    (case l_flat => k_is)
    (case c_flat => k_is)
    (case k_flat => k_is)
    (case a_width_at => k_is)
    (case l_width_at => k_is)
    (case c_width_at => k_is)
    (case k_width_at => k_is)
    (case a_reaches => k_is)
    (case l_reaches => k_is)
    (case c_reaches => k_is)
    (case k_reaches => k_is)
    (case a_is_barred => k_is)
    (case l_is_barred => k_is)
    (case c_is_barred => k_is)
    (case k_is_barred => k_is)
    (case a_put_less => k_is)
    (case l_put_less => k_is)
    (case c_put_less => k_is)
    (case k_put_less => k_is)
    (case a_next_costs => k_is)
    (case l_next_costs => k_is)
    (case c_next_costs => k_is)
    (case k_next_costs => k_is)
    (case a_table_of => k_is)
    (case l_table_of => k_is)
    (case c_table_of => k_is)
    (case k_table_of => k_is)
    (case a__law_cell_at => k_is)
    (case l__law_cell_at => k_is)
    (case c__law_cell_at => k_is)
    (case k__law_cell_at => k_is)
    (case a__law_numbers => k_is)
    (case l__law_numbers => k_is)
    (case c__law_numbers => k_is)
    (case k__law_numbers => k_is)
    (case a__law_words => k_is)
    (case l__law_words => k_is)
    (case c__law_words => k_is)
    (case k__law_words => k_is)
    (case a__law_pieces => k_is)
    (case l__law_pieces => k_is)
    (case c__law_pieces => k_is)
    (case k__law_pieces => k_is)
    (case a__law_size => k_is)
    (case l__law_size => k_is)
    (case c__law_size => k_is)
    (case k__law_size => k_is)
    (case a__law_due => k_is)
    (case l__law_due => k_is)
    (case c__law_due => k_is)
    (case k__law_due => k_is)
    (case a_law => k_is)
    (case l_law => k_is)
    (case c_law => k_is)
    (case k_law => k_is)
    (case z_enumerate => k_is)
    (case z_int => k_is)
    (case z_isinstance => k_is)
    (case z_len => k_is)
    (case z_list => k_is)
    (case z_min => k_is)
    (case z_range => k_is)
    (case z_tuple => k_is)
