import PyProof.Rows.All
import Wide.All
import OpenK.AllK
import Wide.FinOn
import HandS.ForMost
import HandS.Evl
import HandS.Wide
import HandS.IsInst
import HandS.SortInts
import HandS.TupAny
import HandS.Dict
import KE.SortData
import HandS.Style
import HandS.More
import HandS.Sort
import HandS.StrMore
import PyProof.SumAny
import KE.KDictPairs
import KE.KDictCopyH
import HandS.DictComp
import HandS.Iter
import HandS.Text
import PySem.Challenge.RW_boxgalley_k85_trees_mirrored
set_option Elab.async false
set_option linter.all false
set_option maxRecDepth 100000
set_option maxHeartbeats 2000000
/-! Wk: typed mirrors over the hand layer: what a value stands for, a state by slots and owned objects, one rule a construct. -/
namespace Wk
open PySem PySem.Spec L2 Evl

abbrev Fg := PySem.W.Frag
def isDk : HO → Prop
  | .dK _ => True
  | .dT _ => True
  | _ => False
/-- all that stood stands; a dict may be locked, or set free again -/
def Sw (H H' : Hp) : Prop := ∀ q u, H q = some u → H' q = some u ∨ ∃ o w, isDk w ∧ ((u = w ∧ H' q = some (.frz o w)) ∨ (u = .frz o w ∧ H' q = some w))
theorem Sw.of {H H' : Hp} (e : Ex H H') : Sw H H' := fun q u h => .inl (e q u h)
theorem Sw.keep {H H' : Hp} (e : Sw H H') {q : Addr} {u : HO} (h : H q = some u) (n1 : ¬ isDk u) (n2 : ∀ o w, u ≠ .frz o w) : H' q = some u := by
  rcases e q u h with h | ⟨o, w, hw, ⟨rfl, _⟩ | ⟨h, _⟩⟩
  · exact h
  · exact absurd hw n1
  · exact absurd h (n2 o w)
theorem Sw.lst {H H' : Hp} (e : Sw H H') {q : Addr} {vs : List V} (h : H q = some (.lst vs)) : H' q = some (.lst vs) := e.keep h (fun z => z) (fun _ _ z => nomatch z)
theorem Sw.tup {H H' : Hp} (e : Sw H H') {q : Addr} {vs : List V} (h : H q = some (.tup vs)) : H' q = some (.tup vs) := e.keep h (fun z => z) (fun _ _ z => nomatch z)
theorem Sw.rdl {H H' : Hp} (e : Sw H H') {q : Addr} {u : HO} (h : Rd H q u) (n1 : ¬ isDk u) (n2 : ∀ o w, u ≠ .frz o w) : Rd H' q u := by
  rcases h with h | ⟨o, h⟩
  · exact .inl (e.keep h n1 n2)
  · rcases e q _ h with h | ⟨o2, w, hw, ⟨z, _⟩ | ⟨h, h2⟩⟩
    · exact .inr ⟨o, h⟩
    · subst z
      exact False.elim hw
    · cases h
      exact absurd hw n1
theorem Sw.rd {H H' : Hp} (e : Sw H H') {q : Addr} {u : HO} (h : Rd H q u) (n1 : isDk u) : Rd H' q u := by
  have n2 : ∀ o w, u ≠ .frz o w := fun o w z => by
    subst z
    exact n1
  rcases h with h | ⟨o, h⟩
  · rcases e q _ h with h | ⟨o2, w, hw, ⟨rfl, h⟩ | ⟨h, _⟩⟩
    · exact .inl h
    · exact .inr ⟨o2, h⟩
    · exact absurd h (n2 _ _)
  · rcases e q _ h with h | ⟨o2, w, hw, ⟨z, _⟩ | ⟨h, h2⟩⟩
    · exact .inr ⟨o, h⟩
    · subst z
      exact False.elim hw
    · cases h
      exact .inl h2
theorem Sw.l {K : Fg} {H H' : Hp} (e : Sw H H') {a : Addr} {xs : List V} (h : SqL K H a xs) : SqL K H' a xs := by
  rcases h with h | h
  · exact .inl (e.rdl h (fun z => z) (fun _ _ z => nomatch z))
  · exact .inr h
theorem Sw.t {K : Fg} {H H' : Hp} (e : Sw H H') {a : Addr} {xs : List V} (h : SqT K H a xs) : SqT K H' a xs := by
  rcases h with h | h
  · exact .inl (e.rdl h (fun z => z) (fun _ _ z => nomatch z))
  · exact .inr h
/-- v stands for a, by what is known in H -/
class Rp (α : Type) where
  rep : Fg → Hp → V → α → Prop
  swap : ∀ {K : Fg} {H H' : Hp} {v : V} {a : α}, Sw H H' → rep K H v a → rep K H' v a
theorem Rp.mono {α : Type} [i : Rp α] {K : Fg} {H H' : Hp} {v : V} {a : α} (e : Ex H H') (h : Rp.rep K H v a) : Rp.rep K H' v a := i.swap (.of e) h
/-- the places of a tuple | the arguments of a call -/
class Tp (τ : Type) where
  n : Nat
  rept : Fg → Hp → List V → τ → Prop
  len : ∀ {K : Fg} {H : Hp} {vs : List V} {t : τ}, rept K H vs t → vs.length = n
  swap : ∀ {K : Fg} {H H' : Hp} {vs : List V} {t : τ}, Sw H H' → rept K H vs t → rept K H' vs t
theorem Tp.mono {τ : Type} [i : Tp τ] {K : Fg} {H H' : Hp} {vs : List V} {t : τ} (e : Ex H H') (h : Tp.rept K H vs t) : Tp.rept K H' vs t := i.swap (.of e) h
abbrev rep {α : Type} [Rp α] (K : Fg) (H : Hp) (v : V) (a : α) : Prop := Rp.rep K H v a
abbrev rept {τ : Type} [Tp τ] (K : Fg) (H : Hp) (vs : List V) (t : τ) : Prop := Tp.rept K H vs t
/-- what needs no heap -/
class Fl (α : Type) [Rp α] where
  toV : α → V
  iff : ∀ {K : Fg} {H : Hp} {v : V} {a : α}, Rp.rep K H v a ↔ v = toV a

inductive Nn where | nn
  deriving DecidableEq
instance rpInt : Rp Int := { rep := fun _ _ v a => v = .int a, swap := fun _ h => h }
instance : Fl Int := { toV := V.int, iff := Iff.rfl }
instance rpBool : Rp Bool := { rep := fun _ _ v a => v = .bl a, swap := fun _ h => h }
instance : Fl Bool := { toV := V.bl, iff := Iff.rfl }
instance rpStr : Rp Str := { rep := fun _ _ v a => v = .str a, swap := fun _ h => h }
instance : Fl Str := { toV := V.str, iff := Iff.rfl }
instance rpNn : Rp Nn := { rep := fun _ _ v _ => v = .non, swap := fun _ h => h }
instance : Fl Nn := { toV := fun _ => V.non, iff := Iff.rfl }
/-- None, or something -/
instance {α : Type} [Rp α] : Rp (Option α) where
  rep K H v a := match a with | none => v = .non | some x => v ≠ .non ∧ rep K H v x
  swap {K H H' v a} e h := match a, h with
    | none, h => h
    | some _, h => ⟨h.1, Rp.swap e h.2⟩

theorem paired_mono {α : Type} [Rp α] {K : Fg} {H H' : Hp} (e : Ex H H') {vs : List V} {xs : List α} (h : Paired (rep K H) vs xs) : Paired (rep K H') vs xs :=
  Paired.mapP h fun _ _ q => Rp.mono e q
theorem paired_swap {α : Type} [Rp α] {K : Fg} {H H' : Hp} (e : Sw H H') {vs : List V} {xs : List α} (h : Paired (rep K H) vs xs) : Paired (rep K H') vs xs :=
  Paired.mapP h fun _ _ q => Rp.swap e q
/-- a list that stands exactly so -/
instance {α : Type} [Rp α] : Rp (List α) where
  rep K H v xs := ∃ p vs, v = .ref p ∧ H p = some (.lst vs) ∧ Paired (rep K H) vs xs
  swap e h := by
    obtain ⟨p, vs, h1, h2, h3⟩ := h
    exact ⟨p, vs, h1, e.lst h2, paired_swap e h3⟩
/-- a list that is read (the script, a list of the top) -/
structure Fz (α : Type) where
  l : List α
instance {α : Type} [Rp α] : Rp (Fz α) where
  rep K H v xs := ∃ p vs, v = .ref p ∧ SqL K H p vs ∧ Paired (rep K H) vs xs.l
  swap e h := by
    obtain ⟨p, vs, h1, h2, h3⟩ := h
    exact ⟨p, vs, h1, e.l h2, paired_swap e h3⟩
/-- a tuple of the top -/
structure Kt (α : Type) where
  l : List α
instance {α : Type} [Rp α] : Rp (Kt α) where
  rep K H v xs := ∃ p vs, v = .ref p ∧ SqT K H p vs ∧ Paired (rep K H) vs xs.l
  swap e h := by
    obtain ⟨p, vs, h1, h2, h3⟩ := h
    exact ⟨p, vs, h1, e.t h2, paired_swap e h3⟩
/-- a tuple of alike things, of any length -/
structure Tu (α : Type) where
  l : List α
  deriving DecidableEq
instance {α : Type} [Rp α] : Rp (Tu α) where
  rep K H v xs := ∃ p vs, v = .ref p ∧ H p = some (.tup vs) ∧ Paired (rep K H) vs xs.l
  swap e h := by
    obtain ⟨p, vs, h1, h2, h3⟩ := h
    exact ⟨p, vs, h1, e.tup h2, paired_swap e h3⟩
instance : Tp Unit where
  n := 0
  rept _ _ vs _ := vs = []
  len h := by rw [h]; rfl
  swap _ h := h
instance {α τ : Type} [Rp α] [Tp τ] : Tp (α × τ) where
  n := Tp.n τ + 1
  rept K H vs t := ∃ v r, vs = v :: r ∧ rep K H v t.1 ∧ rept K H r t.2
  len h := by
    obtain ⟨v, r, h1, h2, h3⟩ := h
    rw [h1, List.length_cons, Tp.len h3]
  swap e h := by
    obtain ⟨v, r, h1, h2, h3⟩ := h
    exact ⟨v, r, h1, Rp.swap e h2, Tp.swap e h3⟩
/-- a tuple: (a, (b, (c, ()))) -/
instance {α τ : Type} [Rp α] [Tp τ] : Rp (α × τ) where
  rep K H v t := ∃ p vs, v = .ref p ∧ H p = some (.tup vs) ∧ rept K H vs t
  swap e h := by
    obtain ⟨p, vs, h1, h2, h3⟩ := h
    exact ⟨p, vs, h1, e.tup h2, Tp.swap e h3⟩

/-! ### the state -/
inductive Sl : Type 1 where
  | any
  | val (α : Type) (i : Rp α) (x : α)
  | at (p : Addr)
def sv {α : Type} [i : Rp α] (x : α) : Sl := .val α i x
def Sl.ok (K : Fg) (Kn : Hp) : Sl → Option V → Prop
  | .any, _ => True
  | .val _ i x, o => ∃ v, o = some v ∧ i.rep K Kn v x
  | .at p, o => o = some (.ref p)
def SlsOk (K : Fg) (Kn : Hp) : List Sl → St → Prop
  | [], [] => True
  | s :: ss, o :: os => s.ok K Kn o ∧ SlsOk K Kn ss os
  | _, _ => False
theorem Sl.ok_mono {K : Fg} {H H' : Hp} (e : Ex H H') : ∀ {s : Sl} {o : Option V}, s.ok K H o → s.ok K H' o
  | .any, _, _ => trivial
  | .val _ i _, _, ⟨v, h1, h2⟩ => ⟨v, h1, i.swap (.of e) h2⟩
  | .at _, _, h => h
theorem SlsOk.mono {K : Fg} {H H' : Hp} (e : Ex H H') : ∀ {ss : List Sl} {σ : St}, SlsOk K H ss σ → SlsOk K H' ss σ
  | [], [], _ => trivial
  | _ :: _, _ :: _, h => ⟨Sl.ok_mono e h.1, SlsOk.mono e h.2⟩
theorem Sl.ok_swap {K : Fg} {H H' : Hp} (e : Sw H H') : ∀ {s : Sl} {o : Option V}, s.ok K H o → s.ok K H' o
  | .any, _, _ => trivial
  | .val _ i _, _, ⟨v, h1, h2⟩ => ⟨v, h1, i.swap e h2⟩
  | .at _, _, h => h
theorem SlsOk.swap {K : Fg} {H H' : Hp} (e : Sw H H') : ∀ {ss : List Sl} {σ : St}, SlsOk K H ss σ → SlsOk K H' ss σ
  | [], [], _ => trivial
  | _ :: _, _ :: _, h => ⟨Sl.ok_swap e h.1, SlsOk.swap e h.2⟩
theorem SlsOk.get {K : Fg} {H : Hp} : ∀ {ss : List Sl} {σ : St} {i : Nat} {s : Sl}, SlsOk K H ss σ → ss[i]? = some s → ∃ o, σ[i]? = some o ∧ s.ok K H o
  | _ :: _, o :: _, 0, _, h, e => by
    cases Option.some.inj e
    exact ⟨o, rfl, h.1⟩
  | _ :: ss, _ :: os, i + 1, s, h, e => SlsOk.get (ss := ss) (σ := os) (i := i) h.2 e
theorem SlsOk.set {K : Fg} {H : Hp} {s : Sl} {o : Option V} (hs : s.ok K H o) : ∀ {ss : List Sl} {σ : St} (i : Nat), SlsOk K H ss σ → SlsOk K H (ss.set i s) (σ.set i o)
  | [], [], _, _ => trivial
  | _ :: _, _ :: _, 0, h => ⟨hs, h.2⟩
  | _ :: _, _ :: _, i + 1, h => ⟨h.1, SlsOk.set hs i h.2⟩
/-- less is known -/
inductive SlLe : List Sl → List Sl → Prop
  | nil : SlLe [] []
  | keep {s : Sl} {a b : List Sl} : SlLe a b → SlLe (s :: a) (s :: b)
  | drop {s : Sl} {a b : List Sl} : SlLe a b → SlLe (s :: a) (.any :: b)
theorem SlLe.refl : ∀ (a : List Sl), SlLe a a
  | [] => .nil
  | _ :: r => .keep (SlLe.refl r)
theorem SlsOk.le {K : Fg} {H : Hp} : ∀ {a b : List Sl} {σ : St}, SlLe a b → SlsOk K H a σ → SlsOk K H b σ
  | _, _, [], .nil, _ => trivial
  | _, _, _ :: _, .keep l, h => ⟨h.1, SlsOk.le l h.2⟩
  | _, _, _ :: _, .drop l, h => ⟨trivial, SlsOk.le l h.2⟩

/-- what an object stands for, by what is known in H -/
class Ob (γ : Type) where
  ob : Fg → Hp → HO → γ → Prop
  swap : ∀ {K : Fg} {H H' : Hp} {o : HO} {x : γ}, Sw H H' → ob K H o x → ob K H' o x
theorem Ob.mono {γ : Type} [i : Ob γ] {K : Fg} {H H' : Hp} {o : HO} {x : γ} (e : Ex H H') (h : Ob.ob K H o x) : Ob.ob K H' o x := i.swap (.of e) h
/-- an object of one's own, that may change -/
inductive Ow : Type 1 where
  | lst (p : Addr) (α : Type) (i : Rp α) (xs : List α)
  | obj (p : Addr) (γ : Type) (i : Ob γ) (x : γ)
def oo {γ : Type} [i : Ob γ] (p : Addr) (x : γ) : Ow := .obj p γ i x
def ol {α : Type} [i : Rp α] (p : Addr) (xs : List α) : Ow := .lst p α i xs
def Ow.ad : Ow → Addr
  | .lst p _ _ _ => p
  | .obj p _ _ _ => p
def Ow.ok (K : Fg) (Kn H : Hp) : Ow → Prop
  | .lst p _ i xs => ∃ vs, H p = some (.lst vs) ∧ Paired (i.rep K Kn) vs xs
  | .obj p _ i x => ∃ o, H p = some o ∧ i.ob K Kn o x
theorem Ow.ok_swap {K : Fg} {Kn Kn' H H' : Hp} (e : Sw Kn Kn') : ∀ {o : Ow}, H' o.ad = H o.ad → o.ok K Kn H → o.ok K Kn' H'
  | .lst _ _ i _, eh, ⟨vs, h1, h2⟩ => ⟨vs, eh.trans h1, Paired.mapP h2 fun _ _ q => i.swap e q⟩
  | .obj _ _ i _, eh, ⟨o, h1, h2⟩ => ⟨o, eh.trans h1, i.swap e h2⟩
theorem Ow.ok_mono {K : Fg} {Kn Kn' H H' : Hp} (e : Ex Kn Kn') {o : Ow} (eh : H' o.ad = H o.ad) (h : o.ok K Kn H) : o.ok K Kn' H' := Ow.ok_swap (.of e) eh h
theorem ne_none_of {H : Hp} {p : Addr} {o : HO} (h : H p = some o) : H p ≠ none := fun z => by
  rw [h] at z
  cases z
theorem Ow.there {K : Fg} {Kn H : Hp} : ∀ {o : Ow}, o.ok K Kn H → H o.ad ≠ none
  | .lst p _ _ _, h => by
    obtain ⟨vs, h, _⟩ := h
    exact ne_none_of (show H p = some (.lst vs) from h)
  | .obj p _ _ _, h => by
    obtain ⟨o, h, _⟩ := h
    exact ne_none_of (show H p = some o from h)
structure OwsOk (K : Fg) (F Kn H : Hp) (ow : List Ow) : Prop where
  each : ∀ o ∈ ow, F o.ad = none ∧ Kn o.ad = none ∧ o.ok K Kn H
  nd : (ow.map Ow.ad).Nodup

/-- the state: F stands untouched, Kn is known (by and by more), the slots, the objects of one's own -/
structure S (K : Fg) (F Kn0 : Hp) (sl : List Sl) (ow : List Ow) (σ : St) (Kn H : Hp) : Prop where
  e0 : Ex Kn0 Kn
  ek : Ex Kn H
  ef : Ex F H
  sep : ∀ p, F p ≠ none → Kn0 p = none → Kn p = none
  sl : SlsOk K Kn sl σ
  ow : OwsOk K F Kn H ow

/-- growth: nothing that stood is touched, nothing that stood unknown is known -/
structure Gr (Kn H Kn' H' : Hp) : Prop where
  kk : Ex Kn Kn'
  hh : Ex H H'
  kh : Ex Kn' H'
  sp : ∀ p, H p ≠ none → Kn p = none → Kn' p = none
theorem Gr.refl {Kn H : Hp} (e : Ex Kn H) : Gr Kn H Kn H := ⟨Ex.refl _, Ex.refl _, e, fun _ _ h => h⟩
theorem Ex.nn {H H' : Hp} (e : Ex H H') {p : Addr} (h : H p ≠ none) : H' p ≠ none := by
  cases q : H p with
  | none => exact absurd q h
  | some o => exact ne_none_of (e _ _ q)
theorem Ex.at_eq {H H' : Hp} (e : Ex H H') {p : Addr} (h : H p ≠ none) : H' p = H p := by
  cases q : H p with
  | none => exact absurd q h
  | some o => exact e _ _ q
theorem Gr.trans {Kn H Kn1 H1 Kn2 H2 : Hp} (a : Gr Kn H Kn1 H1) (b : Gr Kn1 H1 Kn2 H2) : Gr Kn H Kn2 H2 :=
  ⟨a.kk.trans b.kk, a.hh.trans b.hh, b.kh, fun p h1 h2 => b.sp p (Ex.nn a.hh h1) (a.sp p h1 h2)⟩
/-- a new object, known -/
theorem Gr.new {Kn H : Hp} {p : Addr} {o : HO} (e : Ex Kn H) (hp : H p = none) : Gr Kn H (upd Kn p o) (upd H p o) := by
  have kp : Kn p = none := fresh_back e hp
  refine ⟨Ex.new kp, Ex.new hp, fun a u h => ?_, fun q h1 h2 => ?_⟩
  · by_cases hq : a = p
    · subst hq
      rw [upd_same] at h ⊢
      exact h
    · rw [upd_ne hq] at h ⊢
      exact e _ _ h
  · have hq : q ≠ p := fun z => by
      subst z
      exact h1 hp
    rw [upd_ne hq]
    exact h2
/-- a new object, not known yet -/
theorem Gr.newU {Kn H : Hp} {p : Addr} {o : HO} (e : Ex Kn H) (hp : H p = none) : Gr Kn H Kn (upd H p o) :=
  ⟨Ex.refl _, Ex.new hp, e.trans (Ex.new hp), fun _ _ h2 => h2⟩
/-- what was new is known from now on -/
theorem Gr.know {Kn H Kn' H' : Hp} {p : Addr} {o : HO} (g : Gr Kn H Kn' H') (hp : H p = none) (kp : Kn' p = none) (hp' : H' p = some o) : Gr Kn H (upd Kn' p o) H' :=
  ⟨g.kk.trans (Ex.new kp), g.hh, fun a u h => by
    by_cases hq : a = p
    · subst hq
      rw [upd_same] at h
      rw [← h]
      exact hp'
    · rw [upd_ne hq] at h
      exact g.kh _ _ h, fun q h1 h2 => by
    have hq : q ≠ p := fun z => by
      subst z
      exact h1 hp
    rw [upd_ne hq]
    exact g.sp q h1 h2⟩

section
variable {K : Fg} {F Kn0 : Hp} {sl sl' : List Sl} {ow ow' : List Ow} {σ : St} {Kn H Kn' H' : Hp}
theorem S.grow (s : S K F Kn0 sl ow σ Kn H) (g : Gr Kn H Kn' H') : S K F Kn0 sl ow σ Kn' H' :=
  ⟨s.e0.trans g.kk, g.kh, s.ef.trans g.hh, fun p h1 h2 => g.sp p (Ex.nn s.ef h1) (s.sep p h1 h2), s.sl.mono g.kk,
    ⟨fun o ho => by
      obtain ⟨h1, h2, h3⟩ := s.ow.each o ho
      have h4 := Ow.there h3
      exact ⟨h1, g.sp _ h4 h2, Ow.ok_mono g.kk (Ex.at_eq g.hh h4) h3⟩, s.ow.nd⟩⟩
theorem S.le (s : S K F Kn0 sl ow σ Kn H) (l : SlLe sl sl') : S K F Kn0 sl' ow σ Kn H := ⟨s.e0, s.ek, s.ef, s.sep, s.sl.le l, s.ow⟩
theorem S.set (s : S K F Kn0 sl ow σ Kn H) {x : Sl} {o : Option V} (i : Nat) (h : x.ok K Kn o) : S K F Kn0 (sl.set i x) ow (σ.set i o) Kn H :=
  ⟨s.e0, s.ek, s.ef, s.sep, SlsOk.set h i s.sl, s.ow⟩
theorem S.setv (s : S K F Kn0 sl ow σ Kn H) {α : Type} [Rp α] {x : α} {v : V} (i : Nat) (h : rep K Kn v x) : S K F Kn0 (sl.set i (sv x)) ow (σ.set i (some v)) Kn H :=
  s.set i ⟨v, rfl, h⟩
/-- some objects are not named any more -/
theorem S.sub (s : S K F Kn0 sl ow σ Kn H) (l : ow'.Sublist ow) : S K F Kn0 sl ow' σ Kn H :=
  ⟨s.e0, s.ek, s.ef, s.sep, s.sl, ⟨fun o ho => s.ow.each o (l.subset ho), s.ow.nd.sublist (l.map _)⟩⟩
theorem S.fin (s : S K F Kn0 sl ow σ Kn H) : S K F Kn0 [] ow [] Kn H := ⟨s.e0, s.ek, s.ef, s.sep, trivial, s.ow⟩
end

/-! ### the judgements -/
section
variable (K : Fg) (F Kn0 : Hp) (sl : List Sl) (ow : List Ow)
def EV {α : Type} [Rp α] (te : TE) (x : α) : Prop := ∀ σ Kn H, S K F Kn0 sl ow σ Kn H → ∀ Q : VK, (∀ v Kn' H', Gr Kn H Kn' H' → rep K Kn' v x → Q v H') → te σ H Q
/-- a new list -/
def EN {α : Type} [Rp α] (te : TE) (xs : List α) : Prop := ∀ σ Kn H, S K F Kn0 sl ow σ Kn H → ∀ Q : VK,
  (∀ p ws Kn' H', Gr Kn H Kn' H' → H p = none → Kn' p = none → H' p = some (.lst ws) → Paired (rep K Kn') ws xs → Q (.ref p) H') → te σ H Q
/-- what is changed on the way is told: ow, then ow' -/
def EM {α : Type} [Rp α] (te : TE) (ow' : List Ow) (x : α) : Prop := ∀ σ Kn H, S K F Kn0 sl ow σ Kn H → ∀ Q : VK,
  (∀ v Kn' H', Ex Kn Kn' → S K F Kn0 sl ow' σ Kn' H' → rep K Kn' v x → Q v H') → te σ H Q
def ENM {α : Type} [Rp α] (te : TE) (ow' : List Ow) (xs : List α) : Prop := ∀ σ Kn H, S K F Kn0 sl ow σ Kn H → ∀ Q : VK,
  (∀ p ws Kn' H', Ex Kn Kn' → S K F Kn0 sl ow' σ Kn' H' → F p = none → Kn' p = none → (∀ o ∈ ow', o.ad ≠ p) → H' p = some (.lst ws) → Paired (rep K Kn') ws xs → Q (.ref p) H') → te σ H Q
def ET (tt : TT) (b : Bool) : Prop := ∀ σ Kn H, S K F Kn0 sl ow σ Kn H → ∀ Q : Bool → Hp → Prop, (∀ Kn' H', Gr Kn H Kn' H' → Q b H') → tt σ H Q
def EA {τ : Type} [Tp τ] (ta : TA) (t : τ) : Prop := ∀ σ Kn H, S K F Kn0 sl ow σ Kn H → ∀ Q : List V → Hp → Prop, (∀ vs Kn' H', Gr Kn H Kn' H' → rept K Kn' vs t → Q vs H') → ta σ H Q
def EAM {τ : Type} [Tp τ] (ta : TA) (ow' : List Ow) (t : τ) : Prop := ∀ σ Kn H, S K F Kn0 sl ow σ Kn H → ∀ Q : List V → Hp → Prop,
  (∀ vs Kn' H', Ex Kn Kn' → S K F Kn0 sl ow' σ Kn' H' → rept K Kn' vs t → Q vs H') → ta σ H Q
def SB (D : Ends) (ts : TS) : Prop := ∀ σ Kn H, S K F Kn0 sl ow σ Kn H → ts D σ H
/-- what is wanted of a return -/
def RT (R : VK) {α : Type} [Rp α] (x : α) : Prop := ∀ v Kn H, S K F Kn0 [] ow [] Kn H → rep K Kn v x → R v H
def RN (R : VK) {α : Type} [Rp α] (xs : List α) : Prop := ∀ p ws Kn H, S K F Kn0 [] ow [] Kn H → F p = none → Kn p = none → H p = some (.lst ws) → Paired (rep K Kn) ws xs → R (.ref p) H
end

section
variable {K : Fg} {F Kn0 : Hp} {sl sl' : List Sl} {ow ow1 ow2 : List Ow} {α β γ : Type} [Rp α] [Rp β] [Rp γ] {ta tb te : TE} {x : α} {y : β} {z : γ}
theorem EN.ev {xs : List α} (h : EN K F Kn0 sl ow te xs) : EV K F Kn0 sl ow te xs := fun σ Kn H s Q q => h σ Kn H s Q fun p ws Kn' H' g hp kp hw r =>
  q _ (upd Kn' p (.lst ws)) H' (g.know hp kp hw) ⟨p, ws, rfl, upd_same, paired_mono (Ex.new kp) r⟩
theorem EV.em (h : EV K F Kn0 sl ow te x) : EM K F Kn0 sl ow te ow x := fun σ Kn H s Q q => h σ Kn H s Q fun v Kn' H' g r => q v Kn' H' g.kk (s.grow g) r
theorem owned_ne {σ : St} {Kn H : Hp} (s : S K F Kn0 sl ow σ Kn H) {p : Addr} (hp : H p = none) : ∀ o ∈ ow, o.ad ≠ p := fun o ho z => by
  have := Ow.there (s.ow.each o ho).2.2
  rw [z] at this
  exact this hp
theorem EN.em {xs : List α} (h : EN K F Kn0 sl ow te xs) : ENM K F Kn0 sl ow te ow xs := fun σ Kn H s Q q => h σ Kn H s Q fun p ws Kn' H' g hp kp hw r =>
  q p ws Kn' H' g.kk (s.grow g) (fresh_back s.ef hp) kp (owned_ne s hp) hw r
theorem S.know {σ : St} {Kn H : Hp} (s : S K F Kn0 sl ow σ Kn H) {p : Addr} {o : HO} (fp : F p = none) (kp : Kn p = none) (no : ∀ o ∈ ow, o.ad ≠ p) (hp : H p = some o) : S K F Kn0 sl ow σ (upd Kn p o) H :=
  ⟨s.e0.trans (Ex.new kp), fun a u h => by
    by_cases hq : a = p
    · subst hq
      rw [upd_same] at h
      rw [← h]
      exact hp
    · rw [upd_ne hq] at h
      exact s.ek _ _ h, s.ef, fun q h1 h2 => by
    have hq : q ≠ p := fun z => by
      subst z
      exact h1 fp
    rw [upd_ne hq]
    exact s.sep q h1 h2, s.sl.mono (Ex.new kp), ⟨fun o ho => by
      obtain ⟨h1, h2, h3⟩ := s.ow.each o ho
      exact ⟨h1, by rw [upd_ne (no o ho)]; exact h2, Ow.ok_mono (Ex.new kp) rfl h3⟩, s.ow.nd⟩⟩
theorem ENM.em {xs : List α} (h : ENM K F Kn0 sl ow te ow1 xs) : EM K F Kn0 sl ow te ow1 xs := fun σ Kn H s Q q => h σ Kn H s Q fun p ws Kn' H' e s' fp kp no hw r =>
  q _ (upd Kn' p (.lst ws)) H' (e.trans (Ex.new kp)) (s'.know fp kp no hw) ⟨p, ws, rfl, upd_same, paired_mono (Ex.new kp) r⟩
theorem EV.cast {x' : α} (h : EV K F Kn0 sl ow te x) (e : x = x') : EV K F Kn0 sl ow te x' := e ▸ h
theorem ET.cast {tt : TT} {b b' : Bool} (h : ET K F Kn0 sl ow tt b) (e : b = b') : ET K F Kn0 sl ow tt b' := e ▸ h
end
end Wk
/-! Wk2: rules for expressions -/
namespace Wk
open PySem PySem.Spec L2 Evl
section
variable {K : Fg} {F Kn0 : Hp} {sl sl' : List Sl} {ow ow1 ow2 : List Ow} {α β γ τ : Type} [Rp α] [Rp β] [Rp γ] [Tp τ] {ta tb te : TE} {x : α} {y : β} {z : γ}

theorem paired_fl {α : Type} [Rp α] [Fl α] {H : Hp} : ∀ {vs : List V} {xs : List α}, Paired (rep K H) vs xs → vs = xs.map Fl.toV
  | _, _, .nil => rfl
  | _, _, .cons h t => by rw [List.map_cons, ← paired_fl t, Fl.iff.mp h]
theorem fl_paired {α : Type} [Rp α] [Fl α] {H : Hp} : ∀ (xs : List α), Paired (rep K H) (xs.map Fl.toV) xs
  | [] => .nil
  | _ :: t => .cons (Fl.iff.mpr rfl) (fl_paired t)
theorem paired_len {H : Hp} {vs : List V} {xs : List α} (h : Paired (rep K H) vs xs) : vs.length = xs.length := Paired.length h
theorem paired_at {F : V → α → Prop} : ∀ {vs : List V} {xs : List α}, Paired F vs xs → ∀ {j : Nat} {a : α}, xs[j]? = some a → ∃ v, vs[j]? = some v ∧ F v a
  | _, _, .nil, _, _, e => by simp at e
  | _, _, .cons r _, 0, _, e => by
    simp at e
    subst e
    exact ⟨_, rfl, r⟩
  | _, _, .cons _ t, j + 1, a, e => by
    obtain ⟨v, h1, h2⟩ := paired_at t (j := j) (a := a) (by simpa using e)
    exact ⟨v, by simpa using h1, h2⟩
theorem paired_append {F : V → α → Prop} : ∀ {vs ws : List V} {xs ys : List α}, Paired F vs xs → Paired F ws ys → Paired F (vs ++ ws) (xs ++ ys)
  | _, _, _, _, .nil, h => h
  | _, _, _, _, .cons r t, h => .cons r (paired_append t h)
theorem paired_drop {F : V → α → Prop} : ∀ {vs : List V} {xs : List α} (n : Nat), Paired F vs xs → Paired F (vs.drop n) (xs.drop n)
  | _, _, 0, h => h
  | _, _, _ + 1, .nil => .nil
  | _, _, n + 1, .cons _ t => paired_drop n t
theorem paired_take {F : V → α → Prop} : ∀ {vs : List V} {xs : List α} (n : Nat), Paired F vs xs → Paired F (vs.take n) (xs.take n)
  | _, _, 0, _ => .nil
  | _, _, _ + 1, .nil => .nil
  | _, _, n + 1, .cons r t => .cons r (paired_take n t)
theorem paired_set {F : V → α → Prop} {v : V} {a : α} (h : F v a) : ∀ {vs : List V} {xs : List α} (n : Nat), Paired F vs xs → Paired F (vs.set n v) (xs.set n a)
  | _, _, _, .nil => .nil
  | _, _, 0, .cons _ t => .cons h t
  | _, _, n + 1, .cons r t => .cons r (paired_set h n t)
theorem paired_atI {H : Hp} {vs : List V} {xs : List α} (h : Paired (rep K H) vs xs) {i : Int} {a : α} (e : atI xs i = some a) : ∃ v, atI vs i = some v ∧ rep K H v a := by
  unfold atI at e ⊢
  rw [paired_len h]
  cases q : ixN xs.length i with
  | none => rw [q] at e; cases e
  | some j =>
    rw [q] at e
    exact paired_at h e

/-! ### results of rules by values -/
def RS (K : Fg) (Kn H : Hp) (Q : VK) (z : γ) : Prop := ∀ u Kn' H', Gr Kn H Kn' H' → rep K Kn' u z → Q u H'
def RL (K : Fg) (Kn H : Hp) (Q : VK) (zs : List γ) : Prop := ∀ p ws Kn' H', Gr Kn H Kn' H' → H p = none → Kn' p = none → H' p = some (.lst ws) → Paired (rep K Kn') ws zs → Q (.ref p) H'
theorem RS.rl {Kn H : Hp} {Q : VK} {zs : List γ} (h : RS K Kn H Q zs) : RL K Kn H Q zs := fun p ws Kn' H' g hp kp hw r =>
  h _ (upd Kn' p (.lst ws)) H' (g.know hp kp hw) ⟨p, ws, rfl, upd_same, paired_mono (Ex.new kp) r⟩
theorem RS.fl {γ : Type} [Rp γ] [Fl γ] {z : γ} {Kn H : Hp} {Q : VK} (h : RS K Kn H Q z) (e : Ex Kn H) : Q (Fl.toV z) H := h _ Kn H (Gr.refl e) (Fl.iff.mpr rfl)
theorem RS.at {Kn H : Hp} {Q : VK} {z : γ} (h : RS K Kn H Q z) (e : Ex Kn H) {v : V} (r : rep K Kn v z) : Q v H := h _ Kn H (Gr.refl e) r

def R1V (r : V → Hp → VK → Prop) (x : α) (z : γ) : Prop := ∀ (K : Fg) Kn H v, Ex Kn H → rep K Kn v x → ∀ Q, RS K Kn H Q z → r v H Q
def R2V (K : Fg) (r : R2) (x : α) (y : β) (z : γ) : Prop := ∀ Kn H v w, Ex Kn H → rep K Kn v x → rep K Kn w y → ∀ Q, RS K Kn H Q z → r v w H Q
def R2L (K : Fg) (r : R2) (x : α) (y : β) (zs : List γ) : Prop := ∀ Kn H v w, Ex Kn H → rep K Kn v x → rep K Kn w y → ∀ Q, RL K Kn H Q zs → r v w H Q
def RCV (K : Fg) (r : List V → Hp → VK → Prop) (t : τ) (z : γ) : Prop := ∀ Kn H vs, Ex Kn H → rept K Kn vs t → ∀ Q, RS K Kn H Q z → r vs H Q
def RCL (K : Fg) (r : List V → Hp → VK → Prop) (t : τ) (zs : List γ) : Prop := ∀ Kn H vs, Ex Kn H → rept K Kn vs t → ∀ Q, RL K Kn H Q zs → r vs H Q

/-! ### names, constants, operators -/
theorem ev_var {i : Nat} (h : sl[i]? = some (sv x)) : EV K F Kn0 sl ow (tVar i) x := fun σ Kn H s Q q => by
  obtain ⟨o, h1, v, h2, h3⟩ := s.sl.get h
  exact ⟨v, by rw [h1, h2], q v Kn H (Gr.refl s.ek) h3⟩
theorem ev_c {γ : Type} [Rp γ] [Fl γ] (z : γ) {v : V} (e : v = Fl.toV z := by rfl) : EV K F Kn0 sl ow (tC v) z := fun σ Kn H s Q q => q v Kn H (Gr.refl s.ek) (Fl.iff.mpr e)
theorem ev_none : EV K F Kn0 sl ow (tC .non) (none : Option α) := fun σ Kn H s Q q => q .non Kn H (Gr.refl s.ek) rfl
theorem ev_un {r : V → Hp → VK → Prop} (ha : EV K F Kn0 sl ow ta x) (hr : R1V r x z) : EV K F Kn0 sl ow (tUn r ta) z := fun σ Kn H s Q q =>
  ha σ Kn H s _ fun v Kn1 H1 g1 r1 => hr K Kn1 H1 v g1.kh r1 Q fun u Kn' H' g' r' => q u Kn' H' (g1.trans g') r'
theorem ev_op {r : R2} (ha : EV K F Kn0 sl ow ta x) (hb : EV K F Kn0 sl ow tb y) (hr : R2V K r x y z) : EV K F Kn0 sl ow (tOp r ta tb) z := fun σ Kn H s Q q =>
  ha σ Kn H s _ fun v Kn1 H1 g1 r1 => hb σ Kn1 H1 (s.grow g1) _ fun w Kn2 H2 g2 r2 => hr Kn2 H2 v w g2.kh (Rp.mono g2.kk r1) r2 Q fun u Kn' H' g' r' => q u Kn' H' ((g1.trans g2).trans g') r'
theorem en_op {r : R2} {zs : List γ} (ha : EV K F Kn0 sl ow ta x) (hb : EV K F Kn0 sl ow tb y) (hr : R2L K r x y zs) : EN K F Kn0 sl ow (tOp r ta tb) zs := fun σ Kn H s Q q =>
  ha σ Kn H s _ fun v Kn1 H1 g1 r1 => hb σ Kn1 H1 (s.grow g1) _ fun w Kn2 H2 g2 r2 => hr Kn2 H2 v w g2.kh (Rp.mono g2.kk r1) r2 Q fun p ws Kn' H' g' hp kp hw r' =>
    q p ws Kn' H' ((g1.trans g2).trans g') (fresh_back (g1.trans g2).hh hp) kp hw r'
theorem em_op {r : R2} (ha : EM K F Kn0 sl ow ta ow1 x) (hb : EM K F Kn0 sl ow1 tb ow2 y) (hr : R2V K r x y z) : EM K F Kn0 sl ow (tOp r ta tb) ow2 z := fun σ Kn H s Q q =>
  ha σ Kn H s _ fun v Kn1 H1 e1 s1 r1 => hb σ Kn1 H1 s1 _ fun w Kn2 H2 e2 s2 r2 => hr Kn2 H2 v w s2.ek (Rp.mono e2 r1) r2 Q fun u Kn' H' g' r' => q u Kn' H' ((e1.trans e2).trans g'.kk) (s2.grow g') r'
theorem r2_I0 {γ : Type} [Rp γ] [Fl γ] {z : γ} {g : Int → Int → V} {i j : Int} (e : g i j = Fl.toV z := by rfl) : R2V K (rI0 g) i j z := fun Kn H v w ek h1 h2 Q q => ⟨i, j, h1, h2, e ▸ q.fl ek⟩
theorem r2_I {γ : Type} [Rp γ] [Fl γ] {z : γ} {C : Int → Int → Prop} {g : Int → Int → V} {i j : Int} (c : C i j) (e : g i j = Fl.toV z := by rfl) : R2V K (rI C g) i j z := fun Kn H v w ek h1 h2 Q q => ⟨i, j, h1, h2, c, e ▸ q.fl ek⟩
theorem r1_neg {i : Int} : R1V (rU fun i => .int (-i)) i (-i) := fun K Kn H v ek h1 Q q => ⟨i, h1, q.fl ek⟩
theorem r2_eqI {i j : Int} : R2V K rEq i j (decide (i = j)) := fun Kn H v w ek h1 h2 Q q => by
  cases h1
  cases h2
  refine ⟨rfl, ?_⟩
  have e : decide (V.int i = V.int j) = decide (i = j) := by simp
  rw [e]
  exact q.fl ek
theorem r2_neI {i j : Int} : R2V K rNe i j (!decide (i = j)) := fun Kn H v w ek h1 h2 Q q => by
  cases h1
  cases h2
  refine ⟨rfl, ?_⟩
  have e : decide (V.int i = V.int j) = decide (i = j) := by simp
  rw [e]
  exact q.fl ek
theorem r2_eqS {i j : Str} : R2V K rEq i j (decide (i = j)) := fun Kn H v w ek h1 h2 Q q => by
  cases h1
  cases h2
  refine ⟨rfl, ?_⟩
  have e : decide (V.str i = V.str j) = decide (i = j) := by simp
  rw [e]
  exact q.fl ek
theorem r2_neS {i j : Str} : R2V K rNe i j (!decide (i = j)) := fun Kn H v w ek h1 h2 Q q => by
  cases h1
  cases h2
  refine ⟨rfl, ?_⟩
  have e : decide (V.str i = V.str j) = decide (i = j) := by simp
  rw [e]
  exact q.fl ek
theorem r2_eqB {i j : Bool} : R2V K rEq i j (decide (i = j)) := fun Kn H v w ek h1 h2 Q q => by
  cases h1
  cases h2
  refine ⟨rfl, ?_⟩
  have e : decide (V.bl i = V.bl j) = decide (i = j) := by simp
  rw [e]
  exact q.fl ek

/-! ### arguments, tuples, lists -/
theorem ea_nil : EA K F Kn0 sl ow tNil () := fun σ Kn H s Q q => q [] Kn H (Gr.refl s.ek) rfl
theorem ea_cons {tr : TA} {t : τ} (h : EV K F Kn0 sl ow ta x) (hr : EA K F Kn0 sl ow tr t) : EA K F Kn0 sl ow (tCons ta tr) (x, t) := fun σ Kn H s Q q =>
  h σ Kn H s _ fun v Kn1 H1 g1 r1 => hr σ Kn1 H1 (s.grow g1) _ fun vs Kn2 H2 g2 r2 => q _ Kn2 H2 (g1.trans g2) ⟨v, vs, rfl, Rp.mono g2.kk r1, r2⟩
theorem eam_nil : EAM K F Kn0 sl ow tNil ow () := fun σ Kn H s Q q => q [] Kn H (Ex.refl _) s rfl
theorem eam_cons {tr : TA} {t : τ} (h : EM K F Kn0 sl ow ta ow1 x) (hr : EAM K F Kn0 sl ow1 tr ow2 t) : EAM K F Kn0 sl ow (tCons ta tr) ow2 (x, t) := fun σ Kn H s Q q =>
  h σ Kn H s _ fun v Kn1 H1 e1 s1 r1 => hr σ Kn1 H1 s1 _ fun vs Kn2 H2 e2 s2 r2 => q _ Kn2 H2 (e1.trans e2) s2 ⟨v, vs, rfl, Rp.mono e2 r1, r2⟩
theorem EA.eam {ta : TA} {t : τ} (h : EA K F Kn0 sl ow ta t) : EAM K F Kn0 sl ow ta ow t := fun σ Kn H s Q q => h σ Kn H s Q fun vs Kn' H' g r => q vs Kn' H' g.kk (s.grow g) r
/-- alike things -/
def EL {α : Type} [Rp α] (K : Fg) (F Kn0 : Hp) (sl : List Sl) (ow : List Ow) (ta : TA) (xs : List α) : Prop := ∀ σ Kn H, S K F Kn0 sl ow σ Kn H → ∀ Q : List V → Hp → Prop, (∀ vs Kn' H', Gr Kn H Kn' H' → Paired (rep K Kn') vs xs → Q vs H') → ta σ H Q
def ELM {α : Type} [Rp α] (K : Fg) (F Kn0 : Hp) (sl : List Sl) (ow : List Ow) (ta : TA) (ow' : List Ow) (xs : List α) : Prop := ∀ σ Kn H, S K F Kn0 sl ow σ Kn H → ∀ Q : List V → Hp → Prop, (∀ vs Kn' H', Ex Kn Kn' → S K F Kn0 sl ow' σ Kn' H' → Paired (rep K Kn') vs xs → Q vs H') → ta σ H Q
theorem el_nil : EL K F Kn0 sl ow tNil ([] : List α) := fun σ Kn H s Q q => q [] Kn H (Gr.refl s.ek) .nil
theorem el_cons {tr : TA} {xs : List α} (h : EV K F Kn0 sl ow ta x) (hr : EL K F Kn0 sl ow tr xs) : EL K F Kn0 sl ow (tCons ta tr) (x :: xs) := fun σ Kn H s Q q =>
  h σ Kn H s _ fun v Kn1 H1 g1 r1 => hr σ Kn1 H1 (s.grow g1) _ fun vs Kn2 H2 g2 r2 => q _ Kn2 H2 (g1.trans g2) (.cons (Rp.mono g2.kk r1) r2)
theorem elm_nil : ELM K F Kn0 sl ow tNil ow ([] : List α) := fun σ Kn H s Q q => q [] Kn H (Ex.refl _) s .nil
theorem elm_cons {tr : TA} {xs : List α} (h : EM K F Kn0 sl ow ta ow1 x) (hr : ELM K F Kn0 sl ow1 tr ow2 xs) : ELM K F Kn0 sl ow (tCons ta tr) ow2 (x :: xs) := fun σ Kn H s Q q =>
  h σ Kn H s _ fun v Kn1 H1 e1 s1 r1 => hr σ Kn1 H1 s1 _ fun vs Kn2 H2 e2 s2 r2 => q _ Kn2 H2 (e1.trans e2) s2 (.cons (Rp.mono e2 r1) r2)
theorem le_line {n : Nat} (h : n ≤ 1000000) : n ≤ sizeLine := Nat.le_trans h (by decide)
theorem lt_line {n : Nat} (h : n < 1000000) : n < sizeLine := Nat.lt_of_lt_of_le h (by decide)
theorem en_lst {ta : TA} {xs : List α} (h : EL K F Kn0 sl ow ta xs) (hz : xs.length ≤ 1000000 := by exact Nat.le_of_ble_eq_true rfl) : EN K F Kn0 sl ow (tLst ta) xs := fun σ Kn H s Q q =>
  h σ Kn H s _ fun vs Kn1 H1 g1 r1 => ⟨by rw [paired_len r1]; exact le_line hz, fun p hp => q p vs Kn1 _ (g1.trans (Gr.newU g1.kh hp)) (fresh_back g1.hh hp) (fresh_back g1.kh hp) upd_same r1⟩
theorem enm_lst {ta : TA} {xs : List α} (h : ELM K F Kn0 sl ow ta ow1 xs) (hz : xs.length ≤ 1000000 := by exact Nat.le_of_ble_eq_true rfl) : ENM K F Kn0 sl ow (tLst ta) ow1 xs := fun σ Kn H s Q q =>
  h σ Kn H s _ fun vs Kn1 H1 e1 s1 r1 => ⟨by rw [paired_len r1]; exact le_line hz, fun p hp =>
    q p vs Kn1 _ e1 (s1.grow (Gr.newU s1.ek hp)) (fresh_back s1.ef hp) (fresh_back s1.ek hp) (owned_ne s1 hp) upd_same r1⟩
theorem ev_tup {ta : TA} {t : α × τ} (h : EA K F Kn0 sl ow ta t) (hz : Tp.n (α × τ) ≤ 1000000 := by decide) : EV K F Kn0 sl ow (tTup ta) t := fun σ Kn H s Q q =>
  h σ Kn H s _ fun vs Kn1 H1 g1 r1 => ⟨by rw [Tp.len r1]; exact le_line hz, fun p hp =>
    q _ (upd Kn1 p (.tup vs)) _ (g1.trans (Gr.new g1.kh hp)) ⟨p, vs, rfl, upd_same, Tp.mono (Gr.new g1.kh hp).kk r1⟩⟩
theorem em_tup {ta : TA} {t : α × τ} (h : EAM K F Kn0 sl ow ta ow1 t) (hz : Tp.n (α × τ) ≤ 1000000 := by decide) : EM K F Kn0 sl ow (tTup ta) ow1 t := fun σ Kn H s Q q =>
  h σ Kn H s _ fun vs Kn1 H1 e1 s1 r1 => ⟨by rw [Tp.len r1]; exact le_line hz, fun p hp =>
    q _ (upd Kn1 p (.tup vs)) _ (e1.trans (Gr.new s1.ek hp).kk) (s1.grow (Gr.new s1.ek hp)) ⟨p, vs, rfl, upd_same, Tp.mono (Gr.new s1.ek hp).kk r1⟩⟩
theorem ev_tuH {ta : TA} {xs : List α} (h : EL K F Kn0 sl ow ta xs) (hz : xs.length ≤ 1000000 := by exact Nat.le_of_ble_eq_true rfl) : EV K F Kn0 sl ow (tTup ta) (Tu.mk xs) := fun σ Kn H s Q q =>
  h σ Kn H s _ fun vs Kn1 H1 g1 r1 => ⟨by rw [paired_len r1]; exact le_line hz, fun p hp =>
    q _ (upd Kn1 p (.tup vs)) _ (g1.trans (Gr.new g1.kh hp)) ⟨p, vs, rfl, upd_same, paired_mono (Gr.new g1.kh hp).kk r1⟩⟩

/-! ### built-ins, defs -/
theorem ev_cb {r : List V → Hp → VK → Prop} {ta : TA} {t : τ} (h : EA K F Kn0 sl ow ta t) (hr : RCV K r t z) : EV K F Kn0 sl ow (tCB r ta) z := fun σ Kn H s Q q =>
  h σ Kn H s _ fun vs Kn1 H1 g1 r1 => hr Kn1 H1 vs g1.kh r1 Q fun u Kn' H' g' r' => q u Kn' H' (g1.trans g') r'
theorem en_cb {r : List V → Hp → VK → Prop} {ta : TA} {t : τ} {zs : List γ} (h : EA K F Kn0 sl ow ta t) (hr : RCL K r t zs) : EN K F Kn0 sl ow (tCB r ta) zs := fun σ Kn H s Q q =>
  h σ Kn H s _ fun vs Kn1 H1 g1 r1 => hr Kn1 H1 vs g1.kh r1 Q fun p ws Kn' H' g' hp kp hw r' => q p ws Kn' H' (g1.trans g') (fresh_back g1.hh hp) kp hw r'
theorem em_cb {r : List V → Hp → VK → Prop} {ta : TA} {t : τ} (h : EAM K F Kn0 sl ow ta ow1 t) (hr : RCV K r t z) : EM K F Kn0 sl ow (tCB r ta) ow1 z := fun σ Kn H s Q q =>
  h σ Kn H s _ fun vs Kn1 H1 e1 s1 r1 => hr Kn1 H1 vs s1.ek r1 Q fun u Kn' H' g' r' => q u Kn' H' (e1.trans g'.kk) (s1.grow g') r'
theorem one_arg {Kn : Hp} {vs : List V} {x : α} (h : rept K Kn vs (x, ())) : ∃ v, vs = [v] ∧ rep K Kn v x := by
  obtain ⟨v, r, rfl, h1, h2⟩ := h
  cases h2
  exact ⟨v, rfl, h1⟩
theorem two_args {Kn : Hp} {vs : List V} {x : α} {y : β} (h : rept K Kn vs (x, y, ())) : ∃ v w, vs = [v, w] ∧ rep K Kn v x ∧ rep K Kn w y := by
  obtain ⟨v, r, rfl, h1, h2⟩ := h
  obtain ⟨w, rfl, h3⟩ := one_arg h2
  exact ⟨v, w, rfl, h1, h3⟩
theorem rc_max {i j : Int} : RCV K (fun xs H Q => ∃ i j, xs = [.int i, .int j] ∧ Q (.int (if j > i then j else i)) H) (i, j, ()) (max i j) := fun Kn H vs ek h Q q => by
  obtain ⟨v, w, rfl, h1, h2⟩ := two_args h
  cases h1
  cases h2
  refine ⟨i, j, rfl, ?_⟩
  have e : (if j > i then j else i) = max i j := by split <;> omega
  rw [e]
  exact q.fl ek
theorem rc_min {i j : Int} : RCV K (fun xs H Q => ∃ i j, xs = [.int i, .int j] ∧ Q (.int (if j < i then j else i)) H) (i, j, ()) (min i j) := fun Kn H vs ek h Q q => by
  obtain ⟨v, w, rfl, h1, h2⟩ := two_args h
  cases h1
  cases h2
  refine ⟨i, j, rfl, ?_⟩
  have e : (if j < i then j else i) = min i j := by split <;> omega
  rw [e]
  exact q.fl ek
theorem rc_abs {i : Int} : RCV K (fun xs H Q => ∃ i, xs = [.int i] ∧ Q (.int (if i < 0 then -i else i)) H) (i, ()) ((i.natAbs : Int)) := fun Kn H vs ek h Q q => by
  obtain ⟨v, rfl, h1⟩ := one_arg h
  cases h1
  refine ⟨i, rfl, ?_⟩
  have e : (if i < 0 then -i else i) = (i.natAbs : Int) := by split <;> omega
  rw [e]
  exact q.fl ek
theorem rc_len {xs : List α} : RCV K (fun xs H Q => ∃ p ys, xs = [.ref p] ∧ (SqL K H p ys ∨ SqT K H p ys) ∧ Q (.int ys.length) H) (xs, ()) (xs.length : Int) := fun Kn H vs ek h Q q => by
  obtain ⟨v, rfl, p, ws, rfl, h1, h2⟩ := one_arg h
  refine ⟨p, ws, rfl, .inl (sq_of (ek _ _ h1)), ?_⟩
  rw [paired_len h2]
  exact q.fl ek
theorem rc_lenF {xs : Fz α} : RCV K (fun xs H Q => ∃ p ys, xs = [.ref p] ∧ (SqL K H p ys ∨ SqT K H p ys) ∧ Q (.int ys.length) H) (xs, ()) (xs.l.length : Int) := fun Kn H vs ek h Q q => by
  obtain ⟨v, rfl, p, ws, rfl, h1, h2⟩ := one_arg h
  refine ⟨p, ws, rfl, .inl (ex_l ek h1), ?_⟩
  rw [paired_len h2]
  exact q.fl ek
theorem rc_lenT {xs : Tu α} : RCV K (fun xs H Q => ∃ p ys, xs = [.ref p] ∧ (SqL K H p ys ∨ SqT K H p ys) ∧ Q (.int ys.length) H) (xs, ()) (xs.l.length : Int) := fun Kn H vs ek h Q q => by
  obtain ⟨v, rfl, p, ws, rfl, h1, h2⟩ := one_arg h
  refine ⟨p, ws, rfl, .inr (st_of (ek _ _ h1)), ?_⟩
  rw [paired_len h2]
  exact q.fl ek
theorem rc_lenP {t : α × τ} : RCV K (fun xs H Q => ∃ p ys, xs = [.ref p] ∧ (SqL K H p ys ∨ SqT K H p ys) ∧ Q (.int ys.length) H) (t, ()) ((Tp.n (α × τ) : Nat) : Int) := fun Kn H vs ek h Q q => by
  obtain ⟨v, rfl, p, ws, rfl, h1, h2⟩ := one_arg h
  refine ⟨p, ws, rfl, .inr (st_of (ek _ _ h1)), ?_⟩
  rw [Tp.len h2]
  exact q.fl ek
theorem rc_sum {xs : List Int} : RCV K (rSum K) (xs, ()) xs.sum := fun Kn H vs ek h Q q => by
  obtain ⟨v, rfl, p, ws, rfl, h1, h2⟩ := one_arg h
  have e := paired_fl h2
  subst e
  exact ⟨p, xs, rfl, sq_of (ek _ _ h1), q.fl ek⟩
theorem rc_all {xs : List Bool} : RCV K (rAll K) (xs, ()) (xs.all id) := fun Kn H vs ek h Q q => by
  obtain ⟨v, rfl, p, ws, rfl, h1, h2⟩ := one_arg h
  have e := paired_fl h2
  subst e
  exact ⟨p, xs, rfl, sq_of (ek _ _ h1), q.fl ek⟩
theorem rc_any {xs : List Bool} : RCV K (rAny K) (xs, ()) (xs.any id) := fun Kn H vs ek h Q q => by
  obtain ⟨v, rfl, p, ws, rfl, h1, h2⟩ := one_arg h
  have e := paired_fl h2
  subst e
  exact ⟨p, xs, rfl, sq_of (ek _ _ h1), q.fl ek⟩
theorem rc_list {xs : List α} : RCL K (fun xs H Q => ∃ p ys, xs = [.ref p] ∧ (SqL K H p ys ∨ SqT K H p ys) ∧ ∀ l, H l = none → Q (.ref l) (upd H l (.lst ys))) (xs, ()) xs := fun Kn H vs ek h Q q => by
  obtain ⟨v, rfl, p, ws, rfl, h1, h2⟩ := one_arg h
  exact ⟨p, ws, rfl, .inl (sq_of (ek _ _ h1)), fun l hl => q l ws Kn _ (Gr.newU ek hl) hl (fresh_back ek hl) upd_same h2⟩
theorem rc_listF {xs : Fz α} : RCL K (fun xs H Q => ∃ p ys, xs = [.ref p] ∧ (SqL K H p ys ∨ SqT K H p ys) ∧ ∀ l, H l = none → Q (.ref l) (upd H l (.lst ys))) (xs, ()) xs.l := fun Kn H vs ek h Q q => by
  obtain ⟨v, rfl, p, ws, rfl, h1, h2⟩ := one_arg h
  exact ⟨p, ws, rfl, .inl (ex_l ek h1), fun l hl => q l ws Kn _ (Gr.newU ek hl) hl (fresh_back ek hl) upd_same h2⟩
theorem rc_listT {xs : Tu α} : RCL K (fun xs H Q => ∃ p ys, xs = [.ref p] ∧ (SqL K H p ys ∨ SqT K H p ys) ∧ ∀ l, H l = none → Q (.ref l) (upd H l (.lst ys))) (xs, ()) xs.l := fun Kn H vs ek h Q q => by
  obtain ⟨v, rfl, p, ws, rfl, h1, h2⟩ := one_arg h
  exact ⟨p, ws, rfl, .inr (st_of (ek _ _ h1)), fun l hl => q l ws Kn _ (Gr.newU ek hl) hl (fresh_back ek hl) upd_same h2⟩
theorem rc_tuple {xs : List α} : RCV K (fun xs H Q => ∃ p ys, xs = [.ref p] ∧ ((SqL K H p ys ∧ ∀ l, H l = none → Q (.ref l) (upd H l (.tup ys))) ∨ (SqT K H p ys ∧ Q (.ref p) H))) (xs, ()) (Tu.mk xs) := fun Kn H vs ek h Q q => by
  obtain ⟨v, rfl, p, ws, rfl, h1, h2⟩ := one_arg h
  exact ⟨p, ws, rfl, .inl ⟨sq_of (ek _ _ h1), fun l hl => q _ (upd Kn l (.tup ws)) _ (Gr.new ek hl) ⟨l, ws, rfl, upd_same, paired_mono (Gr.new ek hl).kk h2⟩⟩⟩
end

/-! ### items, slices -/
section
variable {K : Fg} {F Kn0 : Hp} {sl sl' : List Sl} {ow ow1 ow2 : List Ow} {α β γ τ : Type} [Rp α] [Rp β] [Rp γ] [Tp τ] {ta tb te : TE}
theorem r2_ixL {xs : List α} {i : Int} {z : α} (h : atI xs i = some z) : R2V K (rIxL K) xs i z := fun Kn H v w ek h1 h2 Q q => by
  obtain ⟨p, ws, rfl, h3, h4⟩ := h1
  cases h2
  obtain ⟨u, e, r⟩ := paired_atI h4 h
  exact ⟨p, ws, i, u, rfl, rfl, sq_of (ek _ _ h3), e, q.at ek r⟩
theorem r2_ixF {xs : Fz α} {i : Int} {z : α} (h : atI xs.l i = some z) : R2V K (rIxL K) xs i z := fun Kn H v w ek h1 h2 Q q => by
  obtain ⟨p, ws, rfl, h3, h4⟩ := h1
  cases h2
  obtain ⟨u, e, r⟩ := paired_atI h4 h
  exact ⟨p, ws, i, u, rfl, rfl, ex_l ek h3, e, q.at ek r⟩
theorem r2_ixU {xs : Tu α} {i : Int} {z : α} (h : atI xs.l i = some z) : R2V K (rIxT K) xs i z := fun Kn H v w ek h1 h2 Q q => by
  obtain ⟨p, ws, rfl, h3, h4⟩ := h1
  cases h2
  obtain ⟨u, e, r⟩ := paired_atI h4 h
  exact ⟨p, ws, i, u, rfl, rfl, st_of (ek _ _ h3), e, q.at ek r⟩
theorem r2_ixK {xs : Kt α} {i : Int} {z : α} (h : atI xs.l i = some z) : R2V K (rIxT K) xs i z := fun Kn H v w ek h1 h2 Q q => by
  obtain ⟨p, ws, rfl, h3, h4⟩ := h1
  cases h2
  obtain ⟨u, e, r⟩ := paired_atI h4 h
  exact ⟨p, ws, i, u, rfl, rfl, ex_t ek h3, e, q.at ek r⟩
/-- the n-th place of a tuple -/
inductive At : {τ : Type} → [Tp τ] → Nat → {α : Type} → [Rp α] → τ → α → Prop
  | z {α τ : Type} [Rp α] [Tp τ] (x : α) (t : τ) : At 0 (x, t) x
  | s {α β τ : Type} [Rp α] [Rp β] [Tp τ] {n : Nat} (x : α) {t : τ} {y : β} : At n t y → At (n + 1) (x, t) y
theorem At.get {K : Fg} {H : Hp} {τ : Type} [i : Tp τ] {n : Nat} {α : Type} [j : Rp α] {t : τ} {a : α} (h : At n t a) : ∀ {vs : List V}, rept K H vs t → ∃ v, vs[n]? = some v ∧ rep K H v a := by
  induction h with
  | z x t =>
    intro vs r
    obtain ⟨v, r, rfl, h1, h2⟩ := r
    exact ⟨v, rfl, h1⟩
  | s x _ ih =>
    intro vs r
    obtain ⟨v, r, rfl, h1, h2⟩ := r
    obtain ⟨w, e, h3⟩ := ih h2
    exact ⟨w, e, h3⟩
theorem r2_tix {t : α × τ} {n : Nat} {z : γ} (h : At n t z) : R2V K (rIxT K) t (n : Int) z := fun Kn H v w ek h1 h2 Q q => by
  obtain ⟨p, ws, rfl, h3, h4⟩ := h1
  cases h2
  obtain ⟨u, e, r⟩ := h.get h4
  exact ⟨p, ws, n, u, rfl, rfl, st_of (ek _ _ h3), atI_nat e, q.at ek r⟩
/-- one sign of a text -/
def ixS (z : Str) (i : Int) : Option Str := if z.length ≤ 100000 then (atI z.cps.toList i).map (fun c => ⟨#[c]⟩) else none
theorem r2_ixS {x : Str} {i : Int} {z : Str} (h : ixS x i = some z) : R2V K rIxS x i z := fun Kn H v w ek h1 h2 Q q => by
  cases h1
  cases h2
  unfold ixS at h
  split at h
  · rename_i hl
    cases e : atI x.cps.toList i with
    | none => rw [e] at h; cases h
    | some c =>
      rw [e] at h
      cases h
      exact ⟨x, i, c, rfl, rfl, le_line (by omega), e, q.fl ek⟩
  · cases h
def cut {α : Type} (xs : List α) (lo hi : Option Int) : List α := (xs.drop (HT.sIx xs.length 0 lo)).take (HT.sIx xs.length xs.length hi - HT.sIx xs.length 0 lo)
theorem paired_cut {F : V → α → Prop} {vs : List V} {xs : List α} (h : Paired F vs xs) (lo hi : Option Int) : Paired F (cutV vs lo hi) (cut xs lo hi) := by
  unfold cutV cut
  rw [Paired.length h]
  exact paired_take _ (paired_drop _ h)
def EO (K : Fg) (F Kn0 : Hp) (sl : List Sl) (ow : List Ow) (to : TO) (o : Option Int) : Prop := ∀ σ Kn H, S K F Kn0 sl ow σ Kn H → ∀ Q : Option Int → Hp → Prop, (∀ Kn' H', Gr Kn H Kn' H' → Q o H') → to σ H Q
theorem eo_none : EO K F Kn0 sl ow tNoPart none := fun σ Kn H s Q q => q Kn H (Gr.refl s.ek)
theorem eo_some {i : Int} (h : EV K F Kn0 sl ow te i) : EO K F Kn0 sl ow (tPart te) (some i) := fun σ Kn H s Q q => h σ Kn H s _ fun v Kn1 H1 g1 r1 => ⟨i, r1, q Kn1 H1 g1⟩
theorem en_sl {xs : List α} {tl th : TO} {lo hi : Option Int} (h : EV K F Kn0 sl ow te xs) (hl : EO K F Kn0 sl ow tl lo) (hh : EO K F Kn0 sl ow th hi) : EN K F Kn0 sl ow (tSl (rSlL K) te tl th) (cut xs lo hi) := fun σ Kn H s Q q =>
  h σ Kn H s _ fun v Kn1 H1 g1 r1 => hl σ Kn1 H1 (s.grow g1) _ fun Kn2 H2 g2 => hh σ Kn2 H2 ((s.grow g1).grow g2) _ fun Kn3 H3 g3 => by
    obtain ⟨p, ws, rfl, h3, h4⟩ := r1
    have g : Gr Kn H Kn3 H3 := (g1.trans g2).trans g3
    have e13 : Ex Kn1 Kn3 := g2.kk.trans g3.kk
    exact ⟨p, ws, rfl, sq_of (g3.kh _ _ (e13 _ _ h3)), fun l hl => q l _ Kn3 _ (g.trans (Gr.newU g3.kh hl)) (fresh_back g.hh hl) (fresh_back g3.kh hl) upd_same (paired_cut (paired_mono e13 h4) lo hi)⟩
theorem en_slF {xs : Fz α} {tl th : TO} {lo hi : Option Int} (h : EV K F Kn0 sl ow te xs) (hl : EO K F Kn0 sl ow tl lo) (hh : EO K F Kn0 sl ow th hi) : EN K F Kn0 sl ow (tSl (rSlL K) te tl th) (cut xs.l lo hi) := fun σ Kn H s Q q =>
  h σ Kn H s _ fun v Kn1 H1 g1 r1 => hl σ Kn1 H1 (s.grow g1) _ fun Kn2 H2 g2 => hh σ Kn2 H2 ((s.grow g1).grow g2) _ fun Kn3 H3 g3 => by
    obtain ⟨p, ws, rfl, h3, h4⟩ := r1
    have g : Gr Kn H Kn3 H3 := (g1.trans g2).trans g3
    have e13 : Ex Kn1 Kn3 := g2.kk.trans g3.kk
    exact ⟨p, ws, rfl, ex_l (e13.trans g3.kh) h3, fun l hl => q l _ Kn3 _ (g.trans (Gr.newU g3.kh hl)) (fresh_back g.hh hl) (fresh_back g3.kh hl) upd_same (paired_cut (paired_mono e13 h4) lo hi)⟩
theorem r2_cat {xs ys : List α} (hz : xs.length + ys.length ≤ 1000000) : R2L K rCat xs ys (xs ++ ys) := fun Kn H v w ek h1 h2 Q q => by
  obtain ⟨p, ws, rfl, h3, h4⟩ := h1
  obtain ⟨p2, ws2, rfl, h5, h6⟩ := h2
  exact ⟨p, p2, ws, ws2, rfl, rfl, ek _ _ h3, ek _ _ h5, by rw [paired_len h4, paired_len h6]; exact le_line hz, fun l hl =>
    q l _ Kn _ (Gr.newU ek hl) hl (fresh_back ek hl) upd_same (paired_append h4 h6)⟩

/-! ### tests -/
variable {t u : TT} {a b c : Bool}
theorem et_test (h : EV K F Kn0 sl ow te b) : ET K F Kn0 sl ow (tTest te) b := fun σ Kn H s Q q => h σ Kn H s _ fun v Kn' H' g r => ⟨b, r, q Kn' H' g⟩
theorem et_B (h : EV K F Kn0 sl ow te b) : ET K F Kn0 sl ow (tB te) b := fun σ Kn H s Q q => h σ Kn H s _ fun v Kn' H' g r => ⟨b, r, q Kn' H' g⟩
theorem et_not (h : ET K F Kn0 sl ow t b) : ET K F Kn0 sl ow (tNot t) (!b) := fun σ Kn H s Q q => h σ Kn H s _ fun Kn' H' g => q Kn' H' g
theorem et_and (h1 : ET K F Kn0 sl ow t a) (h2 : a = true → ET K F Kn0 sl ow u b) : ET K F Kn0 sl ow (tAnd t u) (a && b) := fun σ Kn H s Q q => h1 σ Kn H s _ fun Kn1 H1 g1 => by
  cases a with
  | true => exact iteT (h2 rfl σ Kn1 H1 (s.grow g1) Q fun Kn2 H2 g2 => q Kn2 H2 (g1.trans g2))
  | false => exact iteF (q Kn1 H1 g1)
theorem et_or (h1 : ET K F Kn0 sl ow t a) (h2 : a = false → ET K F Kn0 sl ow u b) : ET K F Kn0 sl ow (tOr t u) (a || b) := fun σ Kn H s Q q => h1 σ Kn H s _ fun Kn1 H1 g1 => by
  cases a with
  | true => exact iteT (q Kn1 H1 g1)
  | false => exact iteF (h2 rfl σ Kn1 H1 (s.grow g1) Q fun Kn2 H2 g2 => q Kn2 H2 (g1.trans g2))
theorem et_andO {m : Option Bool} (h : (if a = true then m else some false) = some c) (h1 : ET K F Kn0 sl ow t a) (h2 : ∀ b, a = true → m = some b → ET K F Kn0 sl ow u b) : ET K F Kn0 sl ow (tAnd t u) c := fun σ Kn H s Q q => h1 σ Kn H s _ fun Kn1 H1 g1 => by
  cases a with
  | true => exact iteT (h2 c rfl h σ Kn1 H1 (s.grow g1) Q fun Kn2 H2 g2 => q Kn2 H2 (g1.trans g2))
  | false =>
    cases h
    exact iteF (q Kn1 H1 g1)
theorem et_orO {m : Option Bool} (h : (if a = true then some true else m) = some c) (h1 : ET K F Kn0 sl ow t a) (h2 : ∀ b, a = false → m = some b → ET K F Kn0 sl ow u b) : ET K F Kn0 sl ow (tOr t u) c := fun σ Kn H s Q q => h1 σ Kn H s _ fun Kn1 H1 g1 => by
  cases a with
  | false => exact iteF (h2 c rfl h σ Kn1 H1 (s.grow g1) Q fun Kn2 H2 g2 => q Kn2 H2 (g1.trans g2))
  | true =>
    cases h
    exact iteT (q Kn1 H1 g1)
theorem ev_andO {m : Option Bool} (h : (if a = true then m else some false) = some c) (h1 : EV K F Kn0 sl ow ta a) (h2 : ∀ b, a = true → m = some b → EV K F Kn0 sl ow tb b) : EV K F Kn0 sl ow (tAndV ta tb) c := fun σ Kn H s Q q => h1 σ Kn H s _ fun v Kn1 H1 g1 r1 => ⟨a, r1, by
  cases a with
  | true => exact iteT (h2 c rfl h σ Kn1 H1 (s.grow g1) Q fun v Kn2 H2 g2 r2 => q v Kn2 H2 (g1.trans g2) r2)
  | false =>
    cases h
    exact iteF (q _ Kn1 H1 g1 rfl)⟩
theorem ev_orO {m : Option Bool} (h : (if a = true then some true else m) = some c) (h1 : EV K F Kn0 sl ow ta a) (h2 : ∀ b, a = false → m = some b → EV K F Kn0 sl ow tb b) : EV K F Kn0 sl ow (tOrV ta tb) c := fun σ Kn H s Q q => h1 σ Kn H s _ fun v Kn1 H1 g1 r1 => ⟨a, r1, by
  cases a with
  | false => exact iteF (h2 c rfl h σ Kn1 H1 (s.grow g1) Q fun v Kn2 H2 g2 r2 => q v Kn2 H2 (g1.trans g2) r2)
  | true =>
    cases h
    exact iteT (q _ Kn1 H1 g1 rfl)⟩
theorem ev_andV (h1 : EV K F Kn0 sl ow ta a) (h2 : a = true → EV K F Kn0 sl ow tb b) : EV K F Kn0 sl ow (tAndV ta tb) (a && b) := fun σ Kn H s Q q => h1 σ Kn H s _ fun v Kn1 H1 g1 r1 => ⟨a, r1, by
  cases a with
  | true => exact iteT (h2 rfl σ Kn1 H1 (s.grow g1) Q fun v Kn2 H2 g2 r2 => q v Kn2 H2 (g1.trans g2) r2)
  | false => exact iteF (q _ Kn1 H1 g1 rfl)⟩
theorem ev_orV (h1 : EV K F Kn0 sl ow ta a) (h2 : a = false → EV K F Kn0 sl ow tb b) : EV K F Kn0 sl ow (tOrV ta tb) (a || b) := fun σ Kn H s Q q => h1 σ Kn H s _ fun v Kn1 H1 g1 r1 => ⟨a, r1, by
  cases a with
  | false => exact iteF (h2 rfl σ Kn1 H1 (s.grow g1) Q fun v Kn2 H2 g2 r2 => q v Kn2 H2 (g1.trans g2) r2)
  | true => exact iteT (q _ Kn1 H1 g1 rfl)⟩
theorem ev_notV (h1 : EV K F Kn0 sl ow ta a) : EV K F Kn0 sl ow (tNotV ta) (!a) := fun σ Kn H s Q q => h1 σ Kn H s _ fun v Kn1 H1 g1 r1 => ⟨a, r1, q _ Kn1 H1 g1 rfl⟩
theorem ev_if {x y : α} (h : ET K F Kn0 sl ow t b) (h1 : b = true → EV K F Kn0 sl ow ta x) (h2 : b = false → EV K F Kn0 sl ow tb y) : EV K F Kn0 sl ow (tIf t ta tb) (if b = true then x else y) := fun σ Kn H s Q q => h σ Kn H s _ fun Kn1 H1 g1 => by
  cases b with
  | true => exact iteT (h1 rfl σ Kn1 H1 (s.grow g1) Q fun v Kn2 H2 g2 r2 => q v Kn2 H2 (g1.trans g2) r2)
  | false => exact iteF (h2 rfl σ Kn1 H1 (s.grow g1) Q fun v Kn2 H2 g2 r2 => q v Kn2 H2 (g1.trans g2) r2)
theorem ev_ifO {m n : Option α} {z : α} (hz : (if b = true then m else n) = some z) (h : ET K F Kn0 sl ow t b) (h1 : ∀ x, b = true → m = some x → EV K F Kn0 sl ow ta x) (h2 : ∀ y, b = false → n = some y → EV K F Kn0 sl ow tb y) : EV K F Kn0 sl ow (tIf t ta tb) z := fun σ Kn H s Q q => h σ Kn H s _ fun Kn1 H1 g1 => by
  cases b with
  | true => exact iteT (h1 z rfl hz σ Kn1 H1 (s.grow g1) Q fun v Kn2 H2 g2 r2 => q v Kn2 H2 (g1.trans g2) r2)
  | false => exact iteF (h2 z rfl hz σ Kn1 H1 (s.grow g1) Q fun v Kn2 H2 g2 r2 => q v Kn2 H2 (g1.trans g2) r2)
/-- truth of a list -/
theorem et_truL {xs : List α} (h : EV K F Kn0 sl ow ta xs) : ET K F Kn0 sl ow (fun σ H Q => ta σ H fun x H' => ∃ k, TruV K x H' k ∧ Q k H') (!xs.isEmpty) := fun σ Kn H s Q q => h σ Kn H s _ fun v Kn1 H1 g1 r1 => by
  obtain ⟨p, ws, rfl, h3, h4⟩ := r1
  refine ⟨_, .inl ⟨ws, sq_of (g1.kh _ _ h3), rfl⟩, ?_⟩
  have e : (!ws.isEmpty) = !xs.isEmpty := by
    cases h4 <;> rfl
  rw [e]
  exact q Kn1 H1 g1
end
end Wk
/-! Wk3: calls, statements, loops, comprehensions -/
namespace Wk
open PySem PySem.Spec L2 Evl

/-! ### promises -/
section
variable {α τ : Type} [Rp α] [Tp τ]
/-- a def that changes nothing: it tells f of its arguments -/
def PF (K : Fg) (f : τ → Option α) : Sp := fun vs H Q _ => ∃ Kn t r, Ex Kn H ∧ rept K Kn vs t ∧ f t = some r ∧ RS K Kn H Q r
/-- .. a new list -/
def PL (K : Fg) (f : τ → Option (List α)) : Sp := fun vs H Q _ => ∃ Kn t r, Ex Kn H ∧ rept K Kn vs t ∧ f t = some r ∧ RL K Kn H Q r
/-- its first argument is a list that it changes -/
def PM {β : Type} [Rp β] (K : Fg) (f : List β → τ → Option (α × List β)) : Sp := fun vs H Q _ => ∃ Kn p ws rest t xs r xs', vs = .ref p :: rest ∧ Ex Kn H ∧ Kn p = none ∧ H p = some (.lst ws) ∧ Paired (rep K Kn) ws xs ∧ rept K Kn rest t ∧ f xs t = some (r, xs') ∧
  ∀ v Kn' H' ws', Ex Kn Kn' → Ex Kn' H' → (∀ q, q ≠ p → H q ≠ none → H' q = H q) → (∀ q, H q ≠ none → Kn q = none → Kn' q = none) → H' p = some (.lst ws') → Paired (rep K Kn') ws' xs' → rep K Kn' v r → Q v H'
end
section
variable {K : Fg} {F Kn0 : Hp} {sl sl' : List Sl} {ow ow1 ow2 : List Ow} {α β γ τ : Type} [Rp α] [Rp β] [Rp γ] [Tp τ] {ta : TA} {te : TE} {t : τ} {E : XK}
theorem ev_call {f : τ → Option α} {r : α} (h : EA K F Kn0 sl ow ta t) (hf : f t = some r) : EV K F Kn0 sl ow (tCall (PF K f) [] E ta) r := fun σ Kn H s Q q =>
  h σ Kn H s _ fun vs Kn1 H1 g1 r1 => by
    show PF K f (vs ++ []) H1 Q E
    rw [List.append_nil]
    exact ⟨Kn1, t, r, g1.kh, r1, hf, fun u Kn' H' g' r' => q u Kn' H' (g1.trans g') r'⟩
theorem en_call {f : τ → Option (List α)} {r : List α} (h : EA K F Kn0 sl ow ta t) (hf : f t = some r) : EN K F Kn0 sl ow (tCall (PL K f) [] E ta) r := fun σ Kn H s Q q =>
  h σ Kn H s _ fun vs Kn1 H1 g1 r1 => by
    show PL K f (vs ++ []) H1 Q E
    rw [List.append_nil]
    exact ⟨Kn1, t, r, g1.kh, r1, hf, fun p ws Kn' H' g' hp kp hw r' => q p ws Kn' H' (g1.trans g') (fresh_back g1.hh hp) kp hw r'⟩
theorem em_call {f : τ → Option α} {r : α} (h : EAM K F Kn0 sl ow ta ow1 t) (hf : f t = some r) : EM K F Kn0 sl ow (tCall (PF K f) [] E ta) ow1 r := fun σ Kn H s Q q =>
  h σ Kn H s _ fun vs Kn1 H1 e1 s1 r1 => by
    show PF K f (vs ++ []) H1 Q E
    rw [List.append_nil]
    exact ⟨Kn1, t, r, s1.ek, r1, hf, fun u Kn' H' g' r' => q u Kn' H' (e1.trans g'.kk) (s1.grow g') r'⟩
theorem enm_call {f : τ → Option (List α)} {r : List α} (h : EAM K F Kn0 sl ow ta ow1 t) (hf : f t = some r) : ENM K F Kn0 sl ow (tCall (PL K f) [] E ta) ow1 r := fun σ Kn H s Q q =>
  h σ Kn H s _ fun vs Kn1 H1 e1 s1 r1 => by
    show PL K f (vs ++ []) H1 Q E
    rw [List.append_nil]
    exact ⟨Kn1, t, r, s1.ek, r1, hf, fun p ws Kn' H' g' hp kp hw r' => q p ws Kn' H' (e1.trans g'.kk) (s1.grow g') (fresh_back s1.ef hp) kp (owned_ne s1 hp) hw r'⟩
theorem ow_at {ow : List Ow} (h : (ow.map Ow.ad).Nodup) {i j : Nat} {o u : Ow} (hi : ow[i]? = some o) (hj : ow[j]? = some u) (e : o.ad = u.ad) : i = j := by
  have a1 : (ow.map Ow.ad)[i]? = some o.ad := by rw [List.getElem?_map, hi]; rfl
  have a2 : (ow.map Ow.ad)[j]? = some o.ad := by rw [List.getElem?_map, hj, e]; rfl
  exact nd_ix h a1 a2
/-- the object at place j is another one now, all else as it was -/
theorem S.write {σ : L2.St} {Kn H Kn' H' : Hp} {p : Addr} {xs xs' : List β} {ws : List V} {j : Nat} (s : S K F Kn0 sl ow σ Kn H) (hj : ow[j]? = some (ol p xs)) (kk : Ex Kn Kn') (kh : Ex Kn' H')
    (hq : ∀ q, q ≠ p → H q ≠ none → H' q = H q) (sp : ∀ q, H q ≠ none → Kn q = none → Kn' q = none) (hp : H' p = some (.lst ws)) (r : Paired (rep K Kn') ws xs') : S K F Kn0 sl (ow.set j (ol p xs')) σ Kn' H' := by
  obtain ⟨f1, f2, f3⟩ := s.ow.each _ (List.mem_of_getElem? hj)
  have f1 : F p = none := f1
  have f2 : Kn p = none := f2
  have f4 : H p ≠ none := Ow.there f3
  have jl : j < ow.length := (List.getElem?_eq_some_iff.mp hj).1
  refine ⟨s.e0.trans kk, kh, fun a u h => ?_, fun a h1 h2 => sp a (Ex.nn s.ef h1) (s.sep a h1 h2), s.sl.mono kk, ⟨fun o ho => ?_, ?_⟩⟩
  · have hne : a ≠ p := fun z => by rw [z, f1] at h; cases h
    rw [hq a hne (ne_none_of (s.ef _ _ h))]
    exact s.ef _ _ h
  · obtain ⟨i, hi⟩ := List.getElem?_of_mem ho
    by_cases e : i = j
    · subst e
      rw [List.getElem?_set_self jl] at hi
      cases hi
      exact ⟨f1, sp p f4 f2, ws, hp, r⟩
    · rw [List.getElem?_set_ne (Ne.symm e)] at hi
      obtain ⟨h1, h2, h3⟩ := s.ow.each o (List.mem_of_getElem? hi)
      have h4 := Ow.there h3
      have hne : o.ad ≠ p := fun z => e (ow_at s.ow.nd hi hj z)
      exact ⟨h1, sp _ h4 h2, Ow.ok_mono kk (hq _ hne h4) h3⟩
  · have e : (ow.set j (ol p xs')).map Ow.ad = ow.map Ow.ad := by
      rw [List.map_set]
      refine List.ext_getElem? fun i => ?_
      by_cases e : j = i
      · subst e
        rw [List.getElem?_set_self (by rw [List.length_map]; exact jl), List.getElem?_map, hj]
        rfl
      · rw [List.getElem?_set_ne e]
    rw [e]
    exact s.ow.nd
theorem em_callM {f : List β → τ → Option (α × List β)} {r : α} {i j : Nat} {p : Addr} {xs xs' : List β} (hi : sl[i]? = some (.at p)) (h : EAM K F Kn0 sl ow ta ow1 t) (hj : ow1[j]? = some (ol p xs)) (hf : f xs t = some (r, xs')) :
    EM K F Kn0 sl ow (tCall (PM K f) [] E (tCons (tVar i) ta)) (ow1.set j (ol p xs')) r := fun σ Kn H s Q q => by
  obtain ⟨o, h1, h2⟩ := s.sl.get hi
  refine ⟨.ref p, by rw [h1]; exact congrArg some h2, h σ Kn H s _ fun vs Kn1 H1 e1 s1 r1 => ?_⟩
  show PM K f ((.ref p :: vs) ++ []) H1 Q E
  rw [List.append_nil]
  obtain ⟨f1, f2, ws, f3, f4⟩ := s1.ow.each _ (List.mem_of_getElem? hj)
  exact ⟨Kn1, p, ws, vs, t, xs, r, xs', rfl, s1.ek, f2, f3, f4, r1, hf, fun v Kn' H' ws' kk kh hq sp hp rr rv => q v Kn' H' (e1.trans kk) (s1.write hj kk kh hq sp hp rr) rv⟩
end

/-! ### statements -/
section
variable (K : Fg) (F Kn0 : Hp) (sl : List Sl) (ow : List Ow)
def SN (D : Ends) : Prop := ∀ σ Kn H, S K F Kn0 sl ow σ Kn H → D.nx σ H
def SC (D : Ends) : Prop := ∀ σ Kn H, S K F Kn0 sl ow σ Kn H → D.ct σ H
def SK (D : Ends) : Prop := ∀ σ Kn H, S K F Kn0 sl ow σ Kn H → D.bk σ H
end
section
variable {K : Fg} {F Kn0 : Hp} {sl sl' : List Sl} {ow ow0 ow1 ow2 : List Ow} {α β γ τ : Type} [Rp α] [Rp β] [Rp γ] [Tp τ] {ta tb te : TE} {x : α} {D : Ends} {t u tz : TS} {tt : TT} {b : Bool} {i j : Nat} {p : Addr}
theorem SB.seq (h : SB K F Kn0 sl ow { D with nx := tz D } t) : SB K F Kn0 sl ow D (tSeq t tz) := h
theorem SB.le (h : SB K F Kn0 sl' ow D t) (l : SlLe sl sl') : SB K F Kn0 sl ow D t := fun σ Kn H s => h σ Kn H (s.le l)
theorem SB.sub (h : SB K F Kn0 sl ow1 D t) (l : ow1.Sublist ow) : SB K F Kn0 sl ow D t := fun σ Kn H s => h σ Kn H (s.sub l)
theorem SN.le (h : SN K F Kn0 sl' ow D) (l : SlLe sl sl') : SN K F Kn0 sl ow D := fun σ Kn H s => h σ Kn H (s.le l)
theorem SN.sub (h : SN K F Kn0 sl ow1 D) (l : ow1.Sublist ow) : SN K F Kn0 sl ow D := fun σ Kn H s => h σ Kn H (s.sub l)
theorem EN.le {xs : List α} (h : EN K F Kn0 sl' ow te xs) (l : SlLe sl sl') : EN K F Kn0 sl ow te xs := fun σ Kn H s => h σ Kn H (s.le l)
theorem EV.le (h : EV K F Kn0 sl' ow te x) (l : SlLe sl sl') : EV K F Kn0 sl ow te x := fun σ Kn H s => h σ Kn H (s.le l)
theorem sb_nx (k : SN K F Kn0 sl ow D) : SB K F Kn0 sl ow D tNext := k
theorem sb_ct (k : SC K F Kn0 sl ow D) : SB K F Kn0 sl ow D tCont := k
theorem sb_bk (k : SK K F Kn0 sl ow D) : SB K F Kn0 sl ow D tBreak := k
theorem sb_asg (hs : sl.set i (sv x) = sl') (h : EV K F Kn0 sl ow te x) (k : SN K F Kn0 sl' ow D) : SB K F Kn0 sl ow D (tAsg te (gName i)) := fun σ Kn H s =>
  h σ Kn H s _ fun v Kn1 H1 g1 r1 => k _ Kn1 H1 (hs ▸ (s.grow g1).setv i r1)
theorem sb_asgM (hs : sl.set i (sv x) = sl') (h : EM K F Kn0 sl ow te ow1 x) (k : SN K F Kn0 sl' ow1 D) : SB K F Kn0 sl ow D (tAsg te (gName i)) := fun σ Kn H s =>
  h σ Kn H s _ fun v Kn1 H1 e1 s1 r1 => k _ Kn1 H1 (hs ▸ s1.setv i r1)
/-- a new object is one's own -/
theorem S.own {σ : L2.St} {Kn H : Hp} {xs : List α} {ws : List V} (s : S K F Kn0 sl ow σ Kn H) (fp : F p = none) (kp : Kn p = none) (no : ∀ o ∈ ow, o.ad ≠ p) (hp : H p = some (.lst ws)) (r : Paired (rep K Kn) ws xs) : S K F Kn0 sl (ol p xs :: ow) σ Kn H :=
  ⟨s.e0, s.ek, s.ef, s.sep, s.sl, ⟨fun o ho => by
    rcases List.mem_cons.mp ho with rfl | ho
    · exact ⟨fp, kp, ws, hp, r⟩
    · exact s.ow.each o ho, List.nodup_cons.mpr ⟨fun h => by
      obtain ⟨o, ho, e⟩ := List.mem_map.mp h
      exact no o ho e, s.ow.nd⟩⟩⟩
theorem S.seta {σ : L2.St} {Kn H : Hp} (s : S K F Kn0 sl ow σ Kn H) (i : Nat) : S K F Kn0 (sl.set i (.at p)) ow (σ.set i (some (.ref p))) Kn H := s.set i rfl
theorem sb_asgO {xs : List α} {sl' : Addr → List Sl} (hs : ∀ p, sl.set i (.at p) = sl' p) (h : EN K F Kn0 sl ow te xs) (k : ∀ p, SN K F Kn0 (sl' p) (ol p xs :: ow) D) : SB K F Kn0 sl ow D (tAsg te (gName i)) := fun σ Kn H s =>
  h σ Kn H s _ fun p ws Kn1 H1 g1 hp kp hw r1 => k p _ Kn1 H1 (hs p ▸ ((s.grow g1).own (fresh_back s.ef hp) kp (owned_ne s hp) hw r1).seta i)
theorem sb_asgOM {xs : List α} {sl' : Addr → List Sl} (hs : ∀ p, sl.set i (.at p) = sl' p) (h : ENM K F Kn0 sl ow te ow1 xs) (k : ∀ p, SN K F Kn0 (sl' p) (ol p xs :: ow1) D) : SB K F Kn0 sl ow D (tAsg te (gName i)) := fun σ Kn H s =>
  h σ Kn H s _ fun p ws Kn1 H1 e1 s1 fp kp no hw r1 => k p _ Kn1 H1 (hs p ▸ (s1.own fp kp no hw r1).seta i)
theorem sb_aug {a c : Int} {f : Int → Int → Int} (hi : sl[i]? = some (sv a)) (hs : sl.set i (sv (f a c)) = sl') (h : EV K F Kn0 sl ow te c) (k : SN K F Kn0 sl' ow D) : SB K F Kn0 sl ow D (tAug i te (ipI f)) := fun σ Kn H s => by
  obtain ⟨o, h1, v, h2, h3⟩ := s.sl.get hi
  cases h3
  exact ⟨.int a, by rw [h1, h2], h σ Kn H s _ fun v Kn1 H1 g1 r1 => ⟨a, c, rfl, r1, k _ Kn1 H1 (hs ▸ (s.grow g1).setv (x := f a c) i rfl)⟩⟩
theorem sb_drop (h : EV K F Kn0 sl ow te x) (k : SN K F Kn0 sl ow D) : SB K F Kn0 sl ow D (tDrop te) := fun σ Kn H s => h σ Kn H s _ fun v Kn1 H1 g1 r1 => k _ Kn1 H1 (s.grow g1)
theorem sb_dropM (h : EM K F Kn0 sl ow te ow1 x) (k : SN K F Kn0 sl ow1 D) : SB K F Kn0 sl ow D (tDrop te) := fun σ Kn H s => h σ Kn H s _ fun v Kn1 H1 e1 s1 r1 => k _ Kn1 H1 s1
theorem upd_in {Kn H : Hp} {o : HO} (ek : Ex Kn H) (kp : Kn p = none) : Ex Kn (upd H p o) := fun a u h => by
  have hq : a ≠ p := fun z => by rw [z, kp] at h; cases h
  rw [upd_ne hq]
  exact ek _ _ h
/-- found.append(e) -/
theorem sb_app {xs : List α} (hi : sl[i]? = some (.at p)) (hj : ow[j]? = some (ol p xs)) (h : EV K F Kn0 sl ow te x) (hz : xs.length < 1000000) (k : SN K F Kn0 sl (ow.set j (ol p (xs ++ [x]))) D) :
    SB K F Kn0 sl ow D (tDrop (tBM K "list" rAppend (tVar i) (tCons te tNil))) := fun σ Kn H s => by
  obtain ⟨o, h1, h2⟩ := s.sl.get hi
  obtain ⟨f1, f2, ws, f3, f4⟩ := s.ow.each _ (List.mem_of_getElem? hj)
  refine ⟨.ref p, by rw [h1]; exact congrArg some h2, Or.inl ⟨rfl, ws, sq_of f3⟩, h σ Kn H s _ fun v Kn1 H1 g1 r1 => ?_⟩
  refine ⟨p, ws, v, rfl, rfl, g1.hh _ _ f3, by rw [paired_len f4]; exact lt_line hz, k _ Kn1 _ ?_⟩
  have kp1 : Kn1 p = none := g1.sp p (ne_none_of f3) f2
  exact (s.grow g1).write hj (Ex.refl _) (upd_in g1.kh kp1) (fun q hq _ => upd_ne hq) (fun _ _ h => h) upd_same (paired_append (paired_mono g1.kk f4) (.cons r1 .nil))
theorem sb_appM {xs : List α} (hi : sl[i]? = some (.at p)) (hi0 : ow[j]? = some (ol p xs)) (h : EM K F Kn0 sl ow te ow1 x) (hj : ow1[j]? = some (ol p xs)) (hz : xs.length < 1000000) (k : SN K F Kn0 sl (ow1.set j (ol p (xs ++ [x]))) D) :
    SB K F Kn0 sl ow D (tDrop (tBM K "list" rAppend (tVar i) (tCons te tNil))) := fun σ Kn H s => by
  obtain ⟨o, h1, h2⟩ := s.sl.get hi
  obtain ⟨_, _, ws0, f0, _⟩ := s.ow.each _ (List.mem_of_getElem? hi0)
  refine ⟨.ref p, by rw [h1]; exact congrArg some h2, Or.inl ⟨rfl, ws0, sq_of f0⟩, h σ Kn H s _ fun v Kn1 H1 e1 s1 r1 => ?_⟩
  obtain ⟨f1, f2, ws, f3, f4⟩ := s1.ow.each _ (List.mem_of_getElem? hj)
  refine ⟨p, ws, v, rfl, rfl, f3, by rw [paired_len f4]; exact lt_line hz, k _ Kn1 _ ?_⟩
  exact s1.write hj (Ex.refl _) (upd_in s1.ek f2) (fun q hq _ => upd_ne hq) (fun _ _ h => h) upd_same (paired_append f4 (.cons r1 .nil))
/-- the place of a written index -/
def setI {α : Type} (xs : List α) (i : Int) (x : α) : Option (List α) := (ixN xs.length i).map fun j => xs.set j x
/-- found[e] = x -/
theorem sb_setI {xs xs' : List α} {n : Int} (hi : sl[i]? = some (.at p)) (hj : ow[j]? = some (ol p xs)) (h : EV K F Kn0 sl ow te x) (hn : EV K F Kn0 sl ow tb n) (hx : setI xs n x = some xs') (k : SN K F Kn0 sl (ow.set j (ol p xs')) D) :
    SB K F Kn0 sl ow D (tAsg te (gSub (tVar i) tb rSetL)) := fun σ Kn H s => h σ Kn H s _ fun v Kn1 H1 g1 r1 => by
  obtain ⟨o, h1, h2⟩ := s.sl.get hi
  refine ⟨.ref p, by rw [h1]; exact congrArg some h2, hn σ Kn1 H1 (s.grow g1) _ fun w Kn2 H2 g2 r2 => ?_⟩
  have s2 := (s.grow g1).grow g2
  obtain ⟨f1, f2, ws, f3, f4⟩ := s2.ow.each _ (List.mem_of_getElem? hj)
  unfold setI at hx
  cases e : ixN xs.length n with
  | none => rw [e] at hx; cases hx
  | some m =>
    rw [e] at hx
    cases hx
    cases r2
    refine ⟨p, ws, n, m, rfl, rfl, f3, by rw [paired_len f4]; exact e, k _ Kn2 _ ?_⟩
    exact s2.write hj (Ex.refl _) (upd_in g2.kh f2) (fun q hq _ => upd_ne hq) (fun _ _ h => h) upd_same (paired_set (Rp.mono g2.kk r1) m f4)
/-- from now on it is known and stays as it is -/
theorem sb_freeze {xs : List α} (hi : sl[i]? = some (.at p)) (hj : ow[j]? = some (ol p xs)) (hs : sl.set i (sv xs) = sl') (ho : ow.eraseIdx j = ow1) (k : SB K F Kn0 sl' ow1 D t) : SB K F Kn0 sl ow D t := fun σ Kn H s => by
  obtain ⟨o, h1, h2⟩ := s.sl.get hi
  have h2 : o = some (.ref p) := h2
  obtain ⟨f1, f2, ws, f3, f4⟩ := s.ow.each _ (List.mem_of_getElem? hj)
  have hsub : ow1.Sublist ow := ho ▸ List.eraseIdx_sublist ow j
  have s1 := s.sub hsub
  have no : ∀ o ∈ ow1, o.ad ≠ p := fun o hm z => by
    have hnd := s.ow.nd
    subst ho
    obtain ⟨m, hm'⟩ := List.getElem?_of_mem hm
    rw [List.getElem?_eraseIdx] at hm'
    split at hm'
    · rename_i hlt
      have := ow_at hnd hm' hj z
      omega
    · rename_i hge
      have := ow_at hnd hm' hj z
      omega
  have s2 := s1.know (o := .lst ws) f1 f2 no f3
  have hσ : σ.set i o = σ := by
    refine List.ext_getElem? fun m => ?_
    by_cases e : i = m
    · subst e
      rw [List.getElem?_set_self (List.getElem?_eq_some_iff.mp h1).1, h1]
    · rw [List.getElem?_set_ne e]
  have s3 := s2.set (x := sv xs) (o := o) i ⟨.ref p, h2, p, ws, rfl, upd_same, paired_mono (Ex.new f2) f4⟩
  rw [hs, hσ] at s3
  exact k σ _ H s3
theorem sb_if (h : ET K F Kn0 sl ow tt b) (h1 : b = true → SB K F Kn0 sl ow D t) (h2 : b = false → SB K F Kn0 sl ow D u) : SB K F Kn0 sl ow D (tIfS tt t u) := fun σ Kn H s => h σ Kn H s _ fun Kn1 H1 g1 => by
  cases b with
  | true => exact iteT (h1 rfl σ Kn1 H1 (s.grow g1))
  | false => exact iteF (h2 rfl σ Kn1 H1 (s.grow g1))
theorem sb_cut (h : SB K F Kn0 sl ow { D with nx := fun σ H => ∃ Kn, S K F Kn0 sl' ow1 σ Kn H } t) (k : SB K F Kn0 sl' ow1 D tz) : SB K F Kn0 sl ow D (tCut t tz) := fun σ Kn H s => ⟨_, h σ Kn H s, fun σ' H' ⟨Kn', s'⟩ => k σ' Kn' H' s'⟩
theorem sn_mid (l : SlLe sl sl') (l2 : ow1.Sublist ow) : SN K F Kn0 sl ow { D with nx := fun σ H => ∃ Kn, S K F Kn0 sl' ow1 σ Kn H } := fun σ Kn H s => ⟨Kn, (s.le l).sub l2⟩
/-- returns -/
theorem sb_ret {R : VK} (h : EV K F Kn0 sl ow te x) (q : RT K F Kn0 ow0 R x) (l : ow0.Sublist ow) (hR : D.rt = R := by rfl) : SB K F Kn0 sl ow D (tRet te) := fun σ Kn H s => by
  subst hR
  exact h σ Kn H s _ fun v Kn1 H1 g1 r1 => q v Kn1 H1 ((s.grow g1).sub l).fin r1
theorem sb_retM {R : VK} (h : EM K F Kn0 sl ow te ow1 x) (q : RT K F Kn0 ow0 R x) (l : ow0.Sublist ow1) (hR : D.rt = R := by rfl) : SB K F Kn0 sl ow D (tRet te) := fun σ Kn H s => by
  subst hR
  exact h σ Kn H s _ fun v Kn1 H1 e1 s1 r1 => q v Kn1 H1 (s1.sub l).fin r1
theorem sb_retL {R : VK} {xs : List α} (h : EN K F Kn0 sl ow te xs) (q : RN K F Kn0 ow0 R xs) (l : ow0.Sublist ow) (hR : D.rt = R := by rfl) : SB K F Kn0 sl ow D (tRet te) := fun σ Kn H s => by
  subst hR
  exact h σ Kn H s _ fun p ws Kn1 H1 g1 hp kp hw r1 => q p ws Kn1 H1 ((s.grow g1).sub l).fin (fresh_back s.ef hp) kp hw r1
/-- a list of one's own is told -/
theorem sb_retO {R : VK} {xs : List α} (hi : sl[i]? = some (.at p)) (hj : ow[j]? = some (ol p xs)) (q : RN K F Kn0 ow0 R xs) (l : ow0.Sublist ow) (hR : D.rt = R := by rfl) : SB K F Kn0 sl ow D (tRet (tVar i)) := fun σ Kn H s => by
  subst hR
  obtain ⟨o, h1, h2⟩ := s.sl.get hi
  obtain ⟨f1, f2, ws, f3, f4⟩ := s.ow.each _ (List.mem_of_getElem? hj)
  exact ⟨.ref p, by rw [h1]; exact congrArg some h2, q p ws Kn H (s.sub l).fin f1 f2 f3 f4⟩
theorem SB.seqB (h : (∀ sl' ow', SB K F Kn0 sl' ow' D tz → SN K F Kn0 sl' ow' { D with nx := tz D }) → SB K F Kn0 sl ow { D with nx := tz D } t) : SB K F Kn0 sl ow D (tSeq t tz) := h fun _ _ k => k
theorem SB.cutB (h : (∀ sl2 ow2, SlLe sl2 sl' → ow1.Sublist ow2 → SN K F Kn0 sl2 ow2 { D with nx := fun σ H => ∃ Kn, S K F Kn0 sl' ow1 σ Kn H }) → SB K F Kn0 sl ow { D with nx := fun σ H => ∃ Kn, S K F Kn0 sl' ow1 σ Kn H } t) (k : SB K F Kn0 sl' ow1 D tz) : SB K F Kn0 sl ow D (tCut t tz) :=
  sb_cut (h fun _ _ l l2 => sn_mid l l2) k
end

/-! ### targets -/
section
variable {α β τ : Type} [Rp α] [Rp β] [Tp τ] {sl sl' sl2 : List Sl} {K : Fg}
theorem wipe_set : ∀ {vs : List Nat} {i : Nat} {o : Option V} {σ : L2.St}, i ∈ vs → wipe (σ.set i o) vs = wipe σ vs
  | v :: vs, i, o, σ, h => by
    by_cases e : i ∈ vs
    · unfold wipe
      rw [wipe_set e]
    · have hv : i = v := (List.mem_cons.mp h).resolve_right e
      subst hv
      have w : ∀ (vs : List Nat) (σ : L2.St), i ∉ vs → wipe (σ.set i o) vs = (wipe σ vs).set i o := by
        intro vs
        induction vs with
        | nil => intro σ _; rfl
        | cons a r ih =>
          intro σ hn
          show (wipe (σ.set i o) r).set a none = ((wipe σ r).set a none).set i o
          rw [ih σ (fun z => hn (List.mem_cons_of_mem _ z)), List.set_comm]
          exact fun z => hn (by rw [z]; exact List.mem_cons_self)
      show (wipe (σ.set i o) vs).set i none = (wipe σ vs).set i none
      rw [w vs σ e, List.set_set]
def GT (K : Fg) (g : TG) (sl sl' : List Sl) (js : List Nat) (x : α) : Prop := ∀ σ Kn H v, SlsOk K Kn sl σ → Ex Kn H → rep K Kn v x → ∀ Q : L2.St → Hp → Prop, (∀ σ', SlsOk K Kn sl' σ' → (∀ vs, (∀ j ∈ js, j ∈ vs) → wipe σ' vs = wipe σ vs) → Q σ' H) → g v σ H Q
def GTs (K : Fg) (g : TGs) (sl sl' : List Sl) (js : List Nat) (t : τ) : Prop := ∀ σ Kn H vs, SlsOk K Kn sl σ → Ex Kn H → rept K Kn vs t → ∀ Q : L2.St → Hp → Prop, (∀ σ', SlsOk K Kn sl' σ' → (∀ vs, (∀ j ∈ js, j ∈ vs) → wipe σ' vs = wipe σ vs) → Q σ' H) → g vs σ H Q
theorem gt_name {i : Nat} {x : α} (hs : sl.set i (sv x) = sl') : GT K (gName i) sl sl' [i] x := fun σ Kn H v s ek r Q q => q _ (hs ▸ SlsOk.set (s := sv x) ⟨v, rfl, r⟩ i s) fun vs h => wipe_set (h i (by simp))
theorem gts_nil : GTs K gNil sl sl [] () := fun σ Kn H vs s ek r Q q => ⟨r, q σ s fun _ _ => rfl⟩
theorem gts_cons {g : TG} {gs : TGs} {js ks : List Nat} {x : α} {t : τ} (h1 : GT K g sl sl' js x) (h2 : GTs K gs sl' sl2 ks t) : GTs K (gCons g gs) sl sl2 (js ++ ks) (x, t) := fun σ Kn H vs s ek r Q q => by
  obtain ⟨v, rest, rfl, r1, r2⟩ := r
  exact ⟨v, rest, rfl, h1 σ Kn H v s ek r1 _ fun σ1 s1 w1 => h2 σ1 Kn H rest s1 ek r2 _ fun σ2 s2 w2 => q σ2 s2 fun vs h => (w2 vs fun j hj => h j (List.mem_append_right _ hj)).trans (w1 vs fun j hj => h j (List.mem_append_left _ hj))⟩
theorem gt_tup {gs : TGs} {js : List Nat} {n : Nat} {t : α × τ} (h : GTs K gs sl sl' js t) (hn : Tp.n (α × τ) = n := by rfl) : GT K (gTup K n gs) sl sl' js t := fun σ Kn H v s ek r Q q => by
  obtain ⟨p, ws, rfl, h1, h2⟩ := r
  exact ⟨p, ws, rfl, st_of (ek _ _ h1), (Tp.len h2).trans hn, h σ Kn H ws s ek h2 Q q⟩
end
section
variable {K : Fg} {F Kn0 : Hp} {sl sl' : List Sl} {ow ow1 : List Ow} {α : Type} [Rp α] {te : TE} {x : α} {D : Ends} {g : TG} {js : List Nat}
/-- a, b = e -/
theorem sb_unp (h : EV K F Kn0 sl ow te x) (hg : GT K g sl sl' js x) (k : SN K F Kn0 sl' ow D) : SB K F Kn0 sl ow D (tAsg te g) := fun σ Kn H s =>
  h σ Kn H s _ fun v Kn1 H1 g1 r1 => by
    have s1 := s.grow g1
    exact hg σ Kn1 H1 v s1.sl s1.ek r1 _ fun σ' h' _ => k σ' Kn1 H1 ⟨s1.e0, s1.ek, s1.ef, s1.sep, h', s1.ow⟩
theorem sb_unpM (h : EM K F Kn0 sl ow te ow1 x) (hg : GT K g sl sl' js x) (k : SN K F Kn0 sl' ow1 D) : SB K F Kn0 sl ow D (tAsg te g) := fun σ Kn H s =>
  h σ Kn H s _ fun v Kn1 H1 e1 s1 r1 => hg σ Kn1 H1 v s1.sl s1.ek r1 _ fun σ' h' _ => k σ' Kn1 H1 ⟨s1.e0, s1.ek, s1.ef, s1.sep, h', s1.ow⟩
/-- a, b = e1, e2 -/
theorem sb_par {α β : Type} [Rp α] [Rp β] {ta : TA} {i j : Nat} {x : α} {y : β} (hs : (sl.set i (sv x)).set j (sv y) = sl') (h : EA K F Kn0 sl ow ta (x, y, ())) (k : SN K F Kn0 sl' ow D) : SB K F Kn0 sl ow D (tPar i j ta) := fun σ Kn H s =>
  h σ Kn H s _ fun vs Kn1 H1 g1 r1 => by
    obtain ⟨v, w, rfl, h1, h2⟩ := two_args r1
    exact ⟨v, w, rfl, k _ Kn1 H1 (hs ▸ ((s.grow g1).setv i h1).setv j h2)⟩
end

/-! ### what is walked -/
def WK {β : Type} [Rp β] (K : Fg) (Kn1 : Hp) (J : It) (xs : List β) : Prop := ∀ i Kn' H', Ex Kn1 Kn' → Ex Kn' H' →
  (∀ x, xs[i]? = some x → J.go i H' ∧ ∀ v H2, J.yld i H' v H2 → ∃ Kn2, Gr Kn' H' Kn2 H2 ∧ rep K Kn2 v x) ∧ (xs.length ≤ i → J.stop i H')
section
variable (K : Fg) (F Kn0 : Hp) (sl : List Sl) (ow : List Ow)
def IT {β : Type} [Rp β] (wi : TI) (xs : List β) : Prop := ∀ σ Kn H, S K F Kn0 sl ow σ Kn H → ∀ R : It → Hp → Prop, (∀ J Kn1 H1, Gr Kn H Kn1 H1 → WK K Kn1 J xs → R J H1) → wi σ H R
def ITM {β : Type} [Rp β] (wi : TI) (ow' : List Ow) (xs : List β) : Prop := ∀ σ Kn H, S K F Kn0 sl ow σ Kn H → ∀ R : It → Hp → Prop, (∀ J Kn1 H1, Ex Kn Kn1 → S K F Kn0 sl ow' σ Kn1 H1 → WK K Kn1 J xs → R J H1) → wi σ H R
end
/-- lo, lo + 1 .. below hi -/
def irange (lo hi : Int) : List Int := (List.range (hi - lo).toNat).map fun (k : Nat) => lo + (k : Int)
def rngO (lo hi : Int) : Option (List Int) := if -1000000000000 ≤ lo ∧ lo ≤ 1000000000000 ∧ -1000000000000 ≤ hi ∧ hi ≤ 1000000000000 then some (irange lo hi) else none
def enumI {α : Type} (xs : List α) : List (Int × α × Unit) := xs.mapIdx fun i x => ((i : Int), x, ())
def zipI {α β : Type} (xs : List α) (ys : List β) : List (α × β × Unit) := List.zipWith (fun a b => (a, b, ())) xs ys
section
variable {K : Fg} {F Kn0 : Hp} {sl sl' : List Sl} {ow ow1 : List Ow} {α β : Type} [Rp α] [Rp β] {te : TE} {ta : TA}
theorem IT.m {wi : TI} {xs : List β} (h : IT K F Kn0 sl ow wi xs) : ITM K F Kn0 sl ow wi ow xs := fun σ Kn H s R q => h σ Kn H s R fun J Kn1 H1 g w => q J Kn1 H1 g.kk (s.grow g) w
theorem wk_list {Kn1 : Hp} {p : Addr} {ws : List V} {xs : List α} (h : SqL K Kn1 p ws) (r : Paired (rep K Kn1) ws xs) : WK K Kn1 (Itl K p) xs := fun i Kn' H' e1 e2 => by
  have hq : SqL K H' p ws := ex_l (e1.trans e2) h
  refine ⟨fun x hx => ?_, fun hl => ⟨ws, hq, by rw [paired_len r]; exact hl⟩⟩
  obtain ⟨v, hv, rv⟩ := paired_at r hx
  refine ⟨⟨ws, v, hq, hv⟩, fun u H2 hy => ?_⟩
  obtain ⟨rfl, f⟩ := hy
  have : v = u := Option.some.inj (hv.symm.trans (f ws hq))
  subst this
  exact ⟨Kn', Gr.refl e2, Rp.mono e1 rv⟩
theorem it_list {xs : List α} (h : EV K F Kn0 sl ow te xs) : IT K F Kn0 sl ow (iList K te) xs := fun σ Kn H s R q => h σ Kn H s _ fun v Kn1 H1 g1 r1 => by
  obtain ⟨p, ws, rfl, h3, h4⟩ := r1
  exact ⟨p, rfl, ⟨ws, sq_of (g1.kh _ _ h3)⟩, q _ Kn1 H1 g1 (wk_list (sq_of h3) h4)⟩
theorem it_listF {xs : Fz α} (h : EV K F Kn0 sl ow te xs) : IT K F Kn0 sl ow (iList K te) xs.l := fun σ Kn H s R q => h σ Kn H s _ fun v Kn1 H1 g1 r1 => by
  obtain ⟨p, ws, rfl, h3, h4⟩ := r1
  exact ⟨p, rfl, ⟨ws, ex_l g1.kh h3⟩, q _ Kn1 H1 g1 (wk_list h3 h4)⟩
theorem itm_list {xs : List α} (h : ENM K F Kn0 sl ow te ow1 xs) : ITM K F Kn0 sl ow (iList K te) ow1 xs := fun σ Kn H s R q => h σ Kn H s _ fun p ws Kn1 H1 e1 s1 fp kp no hw r1 => by
  have s2 := s1.know (o := .lst ws) fp kp no hw
  exact ⟨p, rfl, ⟨ws, sq_of hw⟩, q _ _ H1 (e1.trans (Ex.new kp)) s2 (wk_list (sq_of upd_same) (paired_mono (Ex.new kp) r1))⟩
theorem it_tup {xs : Tu α} (h : EV K F Kn0 sl ow te xs) : IT K F Kn0 sl ow (iTup K te) xs.l := fun σ Kn H s R q => h σ Kn H s _ fun v Kn1 H1 g1 r1 => by
  obtain ⟨p, ws, rfl, h3, h4⟩ := r1
  refine ⟨p, rfl, ⟨ws, st_of (g1.kh _ _ h3)⟩, q _ Kn1 H1 g1 fun i Kn' H' e1 e2 => ?_⟩
  have hq : SqT K H' p ws := st_of ((e1.trans e2) _ _ h3)
  refine ⟨fun x hx => ?_, fun hl => ⟨ws, hq, by rw [paired_len h4]; exact hl⟩⟩
  obtain ⟨v, hv, rv⟩ := paired_at h4 hx
  refine ⟨⟨ws, v, hq, hv⟩, fun u H2 hy => ?_⟩
  obtain ⟨rfl, f⟩ := hy
  have : v = u := Option.some.inj (hv.symm.trans (f ws hq))
  subst this
  exact ⟨Kn', Gr.refl e2, Rp.mono e1 rv⟩
theorem wk_range {Kn1 : Hp} (lo hi : Int) : WK K Kn1 (Itr lo (hi - lo).toNat) (irange lo hi) := fun i Kn' H' e1 e2 => by
  refine ⟨fun x hx => ?_, fun hl => ?_⟩
  · unfold irange at hx
    rw [List.getElem?_map] at hx
    cases q : (List.range (hi - lo).toNat)[i]? with
    | none => rw [q] at hx; cases hx
    | some m =>
      rw [q] at hx
      obtain ⟨hlt, he⟩ := List.getElem?_eq_some_iff.mp q
      rw [List.getElem_range] at he
      rw [List.length_range] at hlt
      subst he
      cases hx
      refine ⟨hlt, fun v H2 hy => ?_⟩
      obtain ⟨rfl, rfl⟩ := hy
      exact ⟨Kn', Gr.refl e2, rfl⟩
  · unfold irange at hl
    rw [List.length_map, List.length_range] at hl
    exact hl
theorem it_rng1 {n : Int} {xs : List Int} (h : EA K F Kn0 sl ow ta (n, ())) (hx : rngO 0 n = some xs) : IT K F Kn0 sl ow (iRng1 ta) xs := fun σ Kn H s R q => h σ Kn H s _ fun vs Kn1 H1 g1 r1 => by
  obtain ⟨v, rfl, h1⟩ := one_arg r1
  cases h1
  unfold rngO at hx
  split at hx
  · rename_i hb
    cases hx
    refine ⟨n, rfl, by omega, by omega, q _ Kn1 H1 g1 ?_⟩
    have w := wk_range (K := K) (Kn1 := Kn1) 0 n
    rw [Int.sub_zero] at w
    exact w
  · cases hx
theorem itm_rng1 {n : Int} {xs : List Int} (h : EAM K F Kn0 sl ow ta ow1 (n, ())) (hx : rngO 0 n = some xs) : ITM K F Kn0 sl ow (iRng1 ta) ow1 xs := fun σ Kn H s R q => h σ Kn H s _ fun vs Kn1 H1 e1 s1 r1 => by
  obtain ⟨v, rfl, h1⟩ := one_arg r1
  cases h1
  unfold rngO at hx
  split at hx
  · rename_i hb
    cases hx
    refine ⟨n, rfl, by omega, by omega, q _ Kn1 H1 e1 s1 ?_⟩
    have w := wk_range (K := K) (Kn1 := Kn1) 0 n
    rw [Int.sub_zero] at w
    exact w
  · cases hx
theorem it_rng2 {lo n : Int} {xs : List Int} (h : EA K F Kn0 sl ow ta (lo, n, ())) (hx : rngO lo n = some xs) : IT K F Kn0 sl ow (iRng2 ta) xs := fun σ Kn H s R q => h σ Kn H s _ fun vs Kn1 H1 g1 r1 => by
  obtain ⟨v, w, rfl, h1, h2⟩ := two_args r1
  cases h1
  cases h2
  unfold rngO at hx
  split at hx
  · rename_i hb
    cases hx
    exact ⟨lo, n, rfl, ⟨by omega, by omega, by omega, by omega⟩, q _ Kn1 H1 g1 (wk_range lo n)⟩
  · cases hx
theorem enum_get {xs : List α} {i : Nat} {y : Int × α × Unit} (h : (enumI xs)[i]? = some y) : ∃ x, xs[i]? = some x ∧ y = ((i : Int), x, ()) := by
  unfold enumI at h
  rw [List.getElem?_mapIdx] at h
  cases q : xs[i]? with
  | none => rw [q] at h; cases h
  | some x => rw [q] at h; cases h; exact ⟨x, rfl, rfl⟩
theorem wk_enum {Kn1 : Hp} {p : Addr} {ws : List V} {xs : List α} (h : SqL K Kn1 p ws) (r : Paired (rep K Kn1) ws xs) : WK K Kn1 (Ite K p) (enumI xs) := fun i Kn' H' e1 e2 => by
  have hq : SqL K H' p ws := ex_l (e1.trans e2) h
  refine ⟨fun y hy => ?_, fun hl => ⟨ws, hq, by rw [paired_len r]; simpa [enumI] using hl⟩⟩
  obtain ⟨x, hx, rfl⟩ := enum_get hy
  obtain ⟨v, hv, rv⟩ := paired_at r hx
  refine ⟨⟨ws, v, hq, hv⟩, fun u H2 hy => ?_⟩
  obtain ⟨T, z, rfl, hT, rfl, f⟩ := hy
  have : v = z := Option.some.inj (hv.symm.trans (f ws hq))
  subst this
  have g : Gr Kn' H' (upd Kn' T (.tup [.int (i : Nat), v])) (upd H' T (.tup [.int (i : Nat), v])) := Gr.new e2 hT
  exact ⟨_, g, T, _, rfl, upd_same, .int (i : Nat), [v], rfl, rfl, v, [], rfl, Rp.mono (e1.trans g.kk) rv, rfl⟩
theorem it_enum {xs : List α} (h : EA K F Kn0 sl ow ta (xs, ())) : IT K F Kn0 sl ow (iEnum K ta) (enumI xs) := fun σ Kn H s R q => h σ Kn H s _ fun vs Kn1 H1 g1 r1 => by
  obtain ⟨v, rfl, p, ws, rfl, h3, h4⟩ := one_arg r1
  exact ⟨p, ws, rfl, sq_of (g1.kh _ _ h3), q _ Kn1 H1 g1 (wk_enum (sq_of h3) h4)⟩
theorem zip_get {xs : List α} {ys : List β} {i : Nat} {z : α × β × Unit} (h : (zipI xs ys)[i]? = some z) : ∃ x y, xs[i]? = some x ∧ ys[i]? = some y ∧ z = (x, y, ()) := by
  unfold zipI at h
  rw [List.getElem?_zipWith] at h
  cases q : xs[i]? with
  | none => rw [q] at h; simp at h
  | some x =>
    cases q2 : ys[i]? with
    | none => rw [q, q2] at h; simp at h
    | some y =>
      rw [q, q2] at h
      simp at h
      exact ⟨x, y, rfl, rfl, h.symm⟩
theorem it_zip {xs : List α} {ys : List β} (h : EA K F Kn0 sl ow ta (xs, ys, ())) : IT K F Kn0 sl ow (iZip K ta) (zipI xs ys) := fun σ Kn H s R q => h σ Kn H s _ fun vs Kn1 H1 g1 r1 => by
  obtain ⟨v, w, rfl, ⟨p, ws, rfl, h3, h4⟩, ⟨p2, ws2, rfl, h5, h6⟩⟩ := two_args r1
  refine ⟨p, p2, ws, ws2, rfl, sq_of (g1.kh _ _ h3), sq_of (g1.kh _ _ h5), q _ Kn1 H1 g1 fun i Kn' H' e1 e2 => ?_⟩
  have hq : SqL K H' p ws := sq_of ((e1.trans e2) _ _ h3)
  have hq2 : SqL K H' p2 ws2 := sq_of ((e1.trans e2) _ _ h5)
  refine ⟨fun y hy => ?_, fun hl => ⟨ws, ws2, hq, hq2, ?_⟩⟩
  · obtain ⟨x, y, hx, hy2, rfl⟩ := zip_get hy
    obtain ⟨v, hv, rv⟩ := paired_at h4 hx
    obtain ⟨v2, hv2, rv2⟩ := paired_at h6 hy2
    refine ⟨⟨ws, ws2, v, v2, hq, hq2, hv, hv2⟩, fun u H2 hy => ?_⟩
    obtain ⟨T, z, z2, rfl, hT, rfl, f, f2⟩ := hy
    have e3 : v = z := Option.some.inj (hv.symm.trans (f ws hq))
    have e4 : v2 = z2 := Option.some.inj (hv2.symm.trans (f2 ws2 hq2))
    subst e3
    subst e4
    have g : Gr Kn' H' (upd Kn' T (.tup [v, v2])) (upd H' T (.tup [v, v2])) := Gr.new e2 hT
    exact ⟨_, g, T, _, rfl, upd_same, v, [v2], rfl, Rp.mono (e1.trans g.kk) rv, v2, [], rfl, Rp.mono (e1.trans g.kk) rv2, rfl⟩
  · rw [paired_len h4, paired_len h6]
    simp [zipI] at hl
    omega
end

/-! ### loops -/
structure Bs (F Kn0 Kn1 : Hp) : Prop where
  e : Ex Kn0 Kn1
  sp : ∀ p, F p ≠ none → Kn0 p = none → Kn1 p = none
section
variable {K : Fg} {F Kn0 Kn1 : Hp} {sl sl' : List Sl} {ow ow0 ow1 : List Ow} {α β γ : Type} [Rp α] [Rp β] [Rp γ] {D : Ends} {σ : L2.St} {Kn H : Hp}
theorem Bs.refl : Bs F Kn0 Kn0 := ⟨Ex.refl _, fun _ _ h => h⟩
theorem S.bs (s : S K F Kn0 sl ow σ Kn H) : Bs F Kn0 Kn := ⟨s.e0, s.sep⟩
theorem S.rebase (s : S K F Kn0 sl ow σ Kn H) : S K F Kn sl ow σ Kn H := ⟨Ex.refl _, s.ek, s.ef, fun _ _ h => h, s.sl, s.ow⟩
theorem S.unbase (b : Bs F Kn0 Kn1) (s : S K F Kn1 sl ow σ Kn H) : S K F Kn0 sl ow σ Kn H := ⟨b.e.trans s.e0, s.ek, s.ef, fun p h1 h2 => s.sep p h1 (b.sp p h1 h2), s.sl, s.ow⟩
theorem RT.base {R : VK} {x : α} (q : RT K F Kn0 ow R x) (b : Bs F Kn0 Kn1) : RT K F Kn1 ow R x := fun v Kn H s => q v Kn H (s.unbase b)
theorem RN.base {R : VK} {xs : List α} (q : RN K F Kn0 ow R xs) (b : Bs F Kn0 Kn1) : RN K F Kn1 ow R xs := fun p ws Kn H s => q p ws Kn H (s.unbase b)
theorem SN.base (q : SN K F Kn0 sl ow D) (b : Bs F Kn0 Kn1) : SN K F Kn1 sl ow D := fun σ Kn H s => q σ Kn H (s.unbase b)
theorem sb_for {wi : TI} {g : TG} {tb : TS} {Sx : Type} {xs : List β} (slx : Sx → List Sl) (owx : Sx → List Ow) (gx : β → Sx → List Sl) (js : List Nat) (P : List β → Sx → Prop) (s0 : Sx) (hi : ITM K F Kn0 sl ow wi ow1 xs) (h0 : P xs s0) (le : SlLe sl (slx s0)) (eo : (owx s0).Sublist ow1)
    (hg : ∀ x s, GT K g (slx s) (gx x s) js x)
    (step : ∀ Kn1, Bs F Kn0 Kn1 → ∀ x rest s, P (x :: rest) s → ∀ N : L2.St → Hp → Prop, (∀ s', P rest s' → ∀ σ Kn H, S K F Kn1 (slx s') (owx s') σ Kn H → N σ H) → SB K F Kn1 (gx x s) (owx s) { D with nx := N, ct := N, bk := D.nx } tb)
    (done : ∀ s, P [] s → SN K F Kn0 (slx s) (owx s) D) : SB K F Kn0 sl ow D (tFor wi g tb) := fun σ Kn H s =>
  hi σ Kn H s _ fun J Kn1 H1 e1 s1 w => by
    have b : Bs F Kn0 Kn1 := s1.bs
    refine ⟨fun i m σ H => i + m = xs.length ∧ ∃ Kn s, P (xs.drop i) s ∧ S K F Kn1 (slx s) (owx s) σ Kn H, ⟨xs.length, by omega, Kn1, s0, h0, (s1.rebase.le le).sub eo⟩, fun i m σ H hW => ?_⟩
    obtain ⟨em, Kn, s, hP, hS⟩ := hW
    by_cases hlt : i < xs.length
    · have hx : xs[i]? = some xs[i] := List.getElem?_eq_getElem hlt
      have hd : xs.drop i = xs[i] :: xs.drop (i + 1) := List.drop_eq_getElem_cons hlt
      rw [hd] at hP
      obtain ⟨go, yl⟩ := (w i Kn H hS.e0 hS.ek).1 _ hx
      refine .inr ⟨go, fun σ' H' => ∃ Kn s, P (xs.drop (i + 1)) s ∧ S K F Kn1 (slx s) (owx s) σ' Kn H', fun σ' H' ⟨Kn', s', h1, h2⟩ => ⟨m - 1, by omega, by omega, Kn', s', h1, h2⟩, fun v H' hy => ?_⟩
      obtain ⟨Kn2, g2, rv⟩ := yl v H' hy
      have hS2 := hS.grow g2
      refine hg _ s σ Kn2 H' v hS2.sl hS2.ek rv _ fun σ2 h2 _ => ?_
      exact step Kn1 b _ _ s hP _ (fun s' hs' σ Kn H hS' => ⟨Kn, s', hs', hS'⟩) σ2 Kn2 H' ⟨hS2.e0, hS2.ek, hS2.ef, hS2.sep, h2, hS2.ow⟩
    · have hd : xs.drop i = [] := List.drop_eq_nil_of_le (by omega)
      rw [hd] at hP
      exact .inl ⟨(w i Kn H hS.e0 hS.ek).2 (by omega), done s hP σ Kn H (hS.unbase b)⟩
theorem sb_while {tt : TT} {tb : TS} {Sx : Type} (slx : Sx → List Sl) (owx : Sx → List Ow) (P : Nat → Sx → Prop) (n0 : Nat) (s0 : Sx) (h0 : P n0 s0) (le : SlLe sl (slx s0)) (eo : (owx s0).Sublist ow)
    (step : ∀ n s, P n s → ∃ b, ET K F Kn0 (slx s) (owx s) tt b ∧
      (b = true → ∀ N : L2.St → Hp → Prop, (∀ m s', m < n → P m s' → ∀ σ Kn H, S K F Kn0 (slx s') (owx s') σ Kn H → N σ H) → SB K F Kn0 (slx s) (owx s) { D with nx := N, ct := N, bk := D.nx } tb) ∧ (b = false → SN K F Kn0 (slx s) (owx s) D)) :
    SB K F Kn0 sl ow D (tWhile tt tb) := fun σ Kn H s => by
  refine ⟨fun n σ H => ∃ Kn s, P n s ∧ S K F Kn0 (slx s) (owx s) σ Kn H, ⟨n0, Kn, s0, h0, (s.le le).sub eo⟩, fun n σ H hW => ?_⟩
  obtain ⟨Kn, s, hP, hS⟩ := hW
  obtain ⟨b, h1, h2, h3⟩ := step n s hP
  refine h1 σ Kn H hS _ fun Kn1 H1 g1 => ?_
  cases b with
  | true => exact iteT ⟨fun σ H => ∃ m Kn s, m < n ∧ P m s ∧ S K F Kn0 (slx s) (owx s) σ Kn H, fun σ' H' ⟨m, Kn', s', hm, hp, hs⟩ => ⟨m, hm, Kn', s', hp, hs⟩, h2 rfl _ (fun m s' hm hp σ Kn H hs => ⟨m, Kn, s', hm, hp, hs⟩) σ Kn1 H1 (hS.grow g1)⟩
  | false => exact iteF (h3 rfl σ Kn1 H1 (hS.grow g1))
end

/-! ### comprehensions -/
def lcGo {β γ : Type} (c : β → Option Bool) (f : β → Option γ) : List β → Option (List γ)
  | [] => some []
  | x :: xs => (c x).bind fun b => if b = true then (f x).bind fun z => (lcGo c f xs).bind fun zs => some (z :: zs) else lcGo c f xs
def lcM {β γ : Type} (c : β → Option Bool) (f : β → Option γ) (xs : List β) : Option (List γ) := if xs.length < 1000000 then lcGo c f xs else none
def lcSGo {β γ Sx : Type} (f : β → Sx → Option (γ × Sx)) : List β → Sx → Option (List γ × Sx)
  | [], s => some ([], s)
  | x :: xs, s => (f x s).bind fun r => (lcSGo f xs r.2).bind fun q => some (r.1 :: q.1, q.2)
def lcS {β γ Sx : Type} (f : β → Sx → Option (γ × Sx)) (xs : List β) (s : Sx) : Option (List γ × Sx) := if xs.length < 1000000 then lcSGo f xs s else none
section
variable {K : Fg} {F Kn0 : Hp} {sl sl' : List Sl} {ow ow0 ow1 : List Ow} {α β γ : Type} [Rp α] [Rp β] [Rp γ] {σ : L2.St} {Kn H : Hp} {tt : TT} {te : TE} {wi : TI} {g : TG} {vs js : List Nat}
theorem bind_some {α β : Type} {m : Option α} {f : α → Option β} {r : β} (h : m.bind f = some r) : ∃ a, m = some a ∧ f a = some r := by
  cases m with
  | none => cases h
  | some a => exact ⟨a, rfl, h⟩
theorem SlsOk.wipe : ∀ {vs : List Nat} {Kn : Hp} {sl : List Sl} {σ : L2.St}, (∀ j ∈ vs, sl[j]? = some .any) → SlsOk K Kn sl σ → SlsOk K Kn sl (wipe σ vs)
  | [], _, _, _, _, h => h
  | v :: vs, Kn, sl, σ, hv, h => by
    have h1 := SlsOk.wipe (vs := vs) (fun j hj => hv j (List.mem_cons_of_mem _ hj)) h
    have h2 := SlsOk.set (K := K) (H := Kn) (s := .any) (o := none) trivial v h1
    have e : sl.set v .any = sl := by
      refine List.ext_getElem? fun m => ?_
      have hm := hv v List.mem_cons_self
      by_cases q : v = m
      · subst q
        rw [List.getElem?_set_self (List.getElem?_eq_some_iff.mp hm).1, hm]
      · rw [List.getElem?_set_ne q]
    rw [e] at h2
    exact h2
theorem S.wipe (s : S K F Kn0 sl ow σ Kn H) (hv : ∀ j ∈ vs, sl[j]? = some .any) : S K F Kn0 sl ow (wipe σ vs) Kn H := ⟨s.e0, s.ek, s.ef, s.sep, s.sl.wipe hv, s.ow⟩
theorem Gr.mut {Kn' H' : Hp} {p : Addr} {o : HO} (g : Gr Kn H Kn' H') (hp : H p = none) (kp : Kn' p = none) : Gr Kn H Kn' (upd H' p o) :=
  ⟨g.kk, Ex.mut g.hh hp, upd_in g.kh kp, g.sp⟩
theorem S.slots {σ2 : L2.St} (s : S K F Kn0 sl ow σ Kn H) (h : SlsOk K Kn sl' σ2) : S K F Kn0 sl' ow σ2 Kn H := ⟨s.e0, s.ek, s.ef, s.sep, h, s.ow⟩
theorem en_lc {xs : List β} {zs : List γ} {c : β → Option Bool} {f : β → Option γ} (gx : β → List Sl) (hm : lcM c f xs = some zs) (hi : IT K F Kn0 sl ow wi xs) (hv : ∀ j ∈ vs, sl[j]? = some .any) (hg : ∀ x, GT K g sl (gx x) js x) (hj : ∀ j ∈ js, j ∈ vs)
    (ht : ∀ p (acc : List γ) x b, c x = some b → ET K F Kn0 (gx x) (ol p acc :: ow) tt b) (he : ∀ p (acc : List γ) x z, c x = some true → f x = some z → EV K F Kn0 (gx x) (ol p acc :: ow) te z) :
    EN K F Kn0 sl ow (tLc wi g tt te vs) zs := fun σ Kn H s Q q => by
  unfold lcM at hm
  split at hm
  case isFalse => cases hm
  rename_i hlen
  refine hi σ Kn H s _ fun J Kn1 H1 g1 w D hD => ?_
  have s1 := s.grow g1
  have kD : Kn1 D = none := fresh_back s1.ek hD
  have fD : F D = none := fresh_back s1.ef hD
  refine ⟨fun i m H' => i + m = xs.length ∧ ∃ Kn' ws acc rest, Gr Kn1 H1 Kn' H' ∧ Kn' D = none ∧ H' D = some (.lst ws) ∧ Paired (rep K Kn') ws acc ∧ acc.length ≤ i ∧ lcGo c f (xs.drop i) = some rest ∧ acc ++ rest = zs,
    ⟨xs.length, by omega, Kn1, [], [], zs, (Gr.newU g1.kh hD), kD, upd_same, .nil, Nat.le_refl _, hm, rfl⟩, fun i m H' hW => ?_⟩
  obtain ⟨em, Kn', ws, acc, rest, gr, kD', hD', rp, hal, hrest, hz⟩ := hW
  have s' : S K F Kn0 sl (ol D acc :: ow) σ Kn' H' := (s1.grow gr).own fD kD' (owned_ne s1 hD) hD' rp
  by_cases hlt : i < xs.length
  · have hx : xs[i]? = some xs[i] := List.getElem?_eq_getElem hlt
    have hd : xs.drop i = xs[i] :: xs.drop (i + 1) := List.drop_eq_getElem_cons hlt
    rw [hd] at hrest
    obtain ⟨b, hb, hrest⟩ := bind_some hrest
    obtain ⟨go, yl⟩ := (w i Kn' H' gr.kk gr.kh).1 _ hx
    refine .inr ⟨go, fun H'' => ∃ Kn' ws acc rest, Gr Kn1 H1 Kn' H'' ∧ Kn' D = none ∧ H'' D = some (.lst ws) ∧ Paired (rep K Kn') ws acc ∧ acc.length ≤ i + 1 ∧ lcGo c f (xs.drop (i + 1)) = some rest ∧ acc ++ rest = zs, fun H'' h => ⟨m - 1, by omega, by omega, h⟩, fun v H2 hy => ?_⟩
    obtain ⟨Kn2, g2, rv⟩ := yl v H2 hy
    have s2 := (s'.grow g2).wipe hv
    refine hg _ _ Kn2 H2 v s2.sl s2.ek rv _ fun σ3 h3 hw3 => ?_
    have s3 := s2.slots h3
    have hDn : H' D ≠ none := ne_none_of hD'
    refine ⟨(hw3 vs hj).trans ?_, ht D acc _ b hb σ3 Kn2 H2 s3 _ fun Kn3 H3 g3 => ?_⟩
    · have ww : ∀ (vs us : List Nat) (σ : L2.St), (∀ j ∈ vs, j ∈ us) → L2.wipe (L2.wipe σ vs) us = L2.wipe σ us := by
        intro vs
        induction vs with
        | nil => intro us σ _; rfl
        | cons a r ih =>
          intro us σ hh
          show L2.wipe ((L2.wipe σ r).set a none) us = L2.wipe σ us
          rw [wipe_set (hh a List.mem_cons_self)]
          exact ih us σ fun j hj => hh j (List.mem_cons_of_mem _ hj)
      exact ww vs vs σ fun _ h => h
    · have g123 : Gr Kn1 H1 Kn3 H3 := (gr.trans g2).trans g3
      have kD3 : Kn3 D = none := (g2.trans g3).sp D hDn kD'
      have hD3 : H3 D = some (.lst ws) := (g2.trans g3).hh _ _ hD'
      cases b with
      | true =>
        obtain ⟨z, hfz, hrest⟩ := bind_some (show (f xs[i]).bind _ = some rest from hrest)
        obtain ⟨zs', hzs, hrest⟩ := bind_some hrest
        cases hrest
        refine iteT (he D acc _ z hb hfz σ3 Kn3 H3 (s3.grow g3) _ fun y Kn4 H4 g4 ry => ?_)
        have g234 := (g2.trans g3).trans g4
        have kD4 : Kn4 D = none := g4.sp D (ne_none_of hD3) kD3
        refine ⟨ws, g4.hh _ _ hD3, by rw [paired_len rp]; exact lt_line (by omega), Kn4, ws ++ [y], acc ++ [z], zs', (gr.trans g234).mut hD kD4, kD4, upd_same, paired_append (paired_mono g234.kk rp) (.cons ry .nil), ?_, hzs, ?_⟩
        · rw [List.length_append, List.length_singleton]; omega
        · rw [List.append_assoc]; exact hz
      | false =>
        have hrest : lcGo c f (xs.drop (i + 1)) = some rest := hrest
        exact iteF ⟨Kn3, ws, acc, rest, g123, kD3, hD3, paired_mono (g2.trans g3).kk rp, by omega, hrest, hz⟩
  · have hd : xs.drop i = [] := List.drop_eq_nil_of_le (by omega)
    rw [hd] at hrest
    cases hrest
    rw [List.append_nil] at hz
    subst hz
    exact .inl ⟨(w i Kn' H' gr.kk gr.kh).2 (by omega), q D ws Kn' H' (g1.trans gr) (fresh_back g1.hh hD) kD' hD' rp⟩
theorem et_yes : ET K F Kn0 sl ow tYes true := fun σ Kn H s Q q => q Kn H (Gr.refl s.ek)
/-- what changes on the way: owx -/
theorem enm_lc {Sx : Type} {xs : List β} {zs : List γ} {f : β → Sx → Option (γ × Sx)} (owx : Sx → List Ow) (gx : β → List Sl) (s0 s9 : Sx) (hm : lcS f xs s0 = some (zs, s9)) (hi : ITM K F Kn0 sl ow wi (owx s0) xs) (hv : ∀ j ∈ vs, sl[j]? = some .any) (hg : ∀ x, GT K g sl (gx x) js x) (hj : ∀ j ∈ js, j ∈ vs)
    (he : ∀ Kn1, Bs F Kn0 Kn1 → ∀ p (acc : List γ) x s z s', f x s = some (z, s') → EM K F Kn1 (gx x) (ol p acc :: owx s) te (ol p acc :: owx s') z) :
    ENM K F Kn0 sl ow (tLc wi g tYes te vs) (owx s9) zs := fun σ Kn H s Q q => by
  unfold lcS at hm
  split at hm
  case isFalse => cases hm
  rename_i hlen
  refine hi σ Kn H s _ fun J Kn1 H1 e1 s1 w D hD => ?_
  have kD : Kn1 D = none := fresh_back s1.ek hD
  have fD : F D = none := fresh_back s1.ef hD
  have b1 : Bs F Kn0 Kn1 := s1.bs
  refine ⟨fun i m H' => i + m = xs.length ∧ ∃ Kn' st acc rest, S K F Kn1 sl (ol D acc :: owx st) σ Kn' H' ∧ acc.length ≤ i ∧ lcSGo f (xs.drop i) st = some (rest, s9) ∧ acc ++ rest = zs,
    ⟨xs.length, by omega, Kn1, s0, [], zs, ?_, Nat.le_refl _, hm, rfl⟩, fun i m H' hW => ?_⟩
  · have s2 := s1.rebase.grow (Gr.newU (o := .lst []) s1.ek hD)
    exact s2.own fD kD (owned_ne s1 hD) upd_same .nil
  obtain ⟨em, Kn', st, acc, rest, s', hal, hrest, hz⟩ := hW
  obtain ⟨_, kD', ws, hD', rp⟩ := s'.ow.each (ol D acc) List.mem_cons_self
  have hD' : H' D = some (.lst ws) := hD'
  by_cases hlt : i < xs.length
  · have hx : xs[i]? = some xs[i] := List.getElem?_eq_getElem hlt
    have hd : xs.drop i = xs[i] :: xs.drop (i + 1) := List.drop_eq_getElem_cons hlt
    rw [hd] at hrest
    obtain ⟨⟨z, st'⟩, hf, hrest⟩ := bind_some hrest
    obtain ⟨⟨zs', s9'⟩, hzs, hrest⟩ := bind_some hrest
    have h9 := Option.some.inj hrest
    have h91 : z :: zs' = rest := congrArg Prod.fst h9
    have h92 : s9' = s9 := congrArg Prod.snd h9
    rw [h92] at hzs
    subst h91
    obtain ⟨go, yl⟩ := (w i Kn' H' s'.e0 s'.ek).1 _ hx
    refine .inr ⟨go, fun H'' => ∃ Kn' st acc rest, S K F Kn1 sl (ol D acc :: owx st) σ Kn' H'' ∧ acc.length ≤ i + 1 ∧ lcSGo f (xs.drop (i + 1)) st = some (rest, s9) ∧ acc ++ rest = zs, fun H'' h => ⟨m - 1, by omega, by omega, h⟩, fun v H2 hy => ?_⟩
    obtain ⟨Kn2, g2, rv⟩ := yl v H2 hy
    have s2 := (s'.grow g2).wipe hv
    refine hg _ _ Kn2 H2 v s2.sl s2.ek rv _ fun σ3 h3 hw3 => ?_
    have s3 := s2.slots h3
    refine ⟨(hw3 vs hj).trans ?_, ?_⟩
    · have ww : ∀ (vs us : List Nat) (σ : L2.St), (∀ j ∈ vs, j ∈ us) → L2.wipe (L2.wipe σ vs) us = L2.wipe σ us := by
        intro vs
        induction vs with
        | nil => intro us σ _; rfl
        | cons a r ih =>
          intro us σ hh
          show L2.wipe ((L2.wipe σ r).set a none) us = L2.wipe σ us
          rw [wipe_set (hh a List.mem_cons_self)]
          exact ih us σ fun j hj => hh j (List.mem_cons_of_mem _ hj)
      exact ww vs vs σ fun _ h => h
    · unfold tYes
      refine iteT ?_
      refine he Kn1 b1 D acc _ st z st' hf σ3 Kn2 H2 s3 _ fun y Kn4 H4 e4 s4 ry => ?_
      obtain ⟨_, kD4, ws4, hD4, rp4⟩ := s4.ow.each (ol D acc) List.mem_cons_self
      have kD4 : Kn4 D = none := kD4
      have s5 : S K F Kn1 (gx xs[i]) (ol D (acc ++ [z]) :: owx st') σ3 Kn4 (upd H4 D (.lst (ws4 ++ [y]))) := s4.write (j := 0) (xs' := acc ++ [z]) rfl (Ex.refl _) (upd_in s4.ek kD4) (fun q hq _ => upd_ne hq) (fun _ _ h => h) upd_same (paired_append rp4 (.cons ry .nil))
      have hsl : SlsOk K Kn4 sl σ := s'.sl.mono (g2.kk.trans e4)
      refine ⟨ws4, hD4, by rw [paired_len rp4]; exact lt_line (by omega), Kn4, st', acc ++ [z], zs', s5.slots hsl, ?_, hzs, ?_⟩
      · rw [List.length_append, List.length_singleton]; omega
      · rw [List.append_assoc]; exact hz
  · have hd : xs.drop i = [] := List.drop_eq_nil_of_le (by omega)
    rw [hd] at hrest
    have h9 := Option.some.inj hrest
    have h91 : [] = rest := congrArg Prod.fst h9
    have h92 : st = s9 := congrArg Prod.snd h9
    subst h91
    subst h92
    rw [List.append_nil] at hz
    subst hz
    have no : ∀ o ∈ owx st, o.ad ≠ D := fun o ho z => (List.nodup_cons.mp s'.ow.nd).1 (List.mem_map.mpr ⟨o, ho, z⟩)
    exact .inl ⟨(w i Kn' H' s'.e0 s'.ek).2 (by omega), q D ws Kn' H' (e1.trans s'.e0) ((s'.unbase b1).sub (List.sublist_cons_self _ _)) fD kD' no hD' rp⟩
end
end Wk
/-! Wk4: loops as functions, == of data, kinds, lists of one's own that are read -/
namespace Wk
open PySem PySem.Spec L2 Evl

/-! ### the mirrors' words -/
inductive Ctl (Sx R : Type) where
  | nx (s : Sx)
  | bk (s : Sx)
  | rt (r : R)
def forS {β Sx : Type} (f : β → Sx → Option Sx) : List β → Sx → Option Sx
  | [], s => some s
  | x :: xs, s => (f x s).bind (forS f xs)
def forC {β Sx R : Type} (f : β → Sx → Option (Ctl Sx R)) : List β → Sx → Option (Ctl Sx R)
  | [], s => some (.nx s)
  | x :: xs, s => (f x s).bind fun c => match c with
    | .nx s' => forC f xs s'
    | .bk s' => some (.nx s')
    | .rt r => some (.rt r)
def whileS {Sx : Type} (c : Sx → Option Bool) (f : Sx → Option Sx) : Nat → Sx → Option Sx
  | 0, _ => none
  | n + 1, s => (c s).bind fun b => if b = true then (f s).bind (whileS c f n) else some s
def whileC {Sx R : Type} (c : Sx → Option Bool) (f : Sx → Option (Ctl Sx R)) : Nat → Sx → Option (Ctl Sx R)
  | 0, _ => none
  | n + 1, s => (c s).bind fun b => if b = true then (f s).bind fun c' => match c' with
    | .nx s' => whileC c f n s'
    | .bk s' => some (.nx s')
    | .rt r => some (.rt r) else some (.nx s)
theorem whileS_more {Sx : Type} {c : Sx → Option Bool} {f : Sx → Option Sx} : ∀ {n m : Nat} {s r : Sx}, whileS c f n s = some r → n ≤ m → whileS c f m s = some r
  | 0, _, _, _, h, _ => by cases h
  | n + 1, 0, _, _, _, h => absurd h (Nat.not_succ_le_zero _)
  | n + 1, m + 1, s, r, h, hm => by
    unfold whileS at h ⊢
    cases e : c s with
    | none => rw [e] at h; cases h
    | some b =>
      rw [e] at h
      cases b with
      | false => exact h
      | true =>
        have h : ((f s).bind (whileS c f n)) = some r := h
        show ((f s).bind (whileS c f m)) = some r
        cases e2 : f s with
        | none => rw [e2] at h; cases h
        | some s' =>
          rw [e2] at h
          exact whileS_more (show whileS c f n s' = some r from h) (Nat.le_of_succ_le_succ hm)
theorem whileC_more {Sx R : Type} {c : Sx → Option Bool} {f : Sx → Option (Ctl Sx R)} : ∀ {n m : Nat} {s : Sx} {r : Ctl Sx R}, whileC c f n s = some r → n ≤ m → whileC c f m s = some r
  | 0, _, _, _, h, _ => by cases h
  | n + 1, 0, _, _, _, h => absurd h (Nat.not_succ_le_zero _)
  | n + 1, m + 1, s, r, h, hm => by
    unfold whileC at h ⊢
    cases e : c s with
    | none => rw [e] at h; cases h
    | some b =>
      rw [e] at h
      cases b with
      | false => exact h
      | true =>
        have h : ((f s).bind _) = some r := h
        show ((f s).bind _) = some r
        cases e2 : f s with
        | none => rw [e2] at h; cases h
        | some k =>
          rw [e2] at h
          cases k with
          | nx s' => exact whileC_more (show whileC c f n s' = some r from h) (Nat.le_of_succ_le_succ hm)
          | bk _ => exact h
          | rt _ => exact h
/-- a while, for as many turns as it takes -/
noncomputable def whileF {Sx : Type} (c : Sx → Option Bool) (f : Sx → Option Sx) (s : Sx) : Option Sx := by
  classical exact if h : ∃ n r, whileS c f n s = some r then some h.choose_spec.choose else none
theorem whileF_some {Sx : Type} {c : Sx → Option Bool} {f : Sx → Option Sx} {s r : Sx} (h : whileF c f s = some r) : ∃ n, whileS c f n s = some r := by
  unfold whileF at h
  split at h
  · rename_i he
    refine ⟨he.choose, ?_⟩
    rw [← Option.some.inj h]
    exact he.choose_spec.choose_spec
  · cases h
theorem whileF_of {Sx : Type} {c : Sx → Option Bool} {f : Sx → Option Sx} {n : Nat} {s r : Sx} (h : whileS c f n s = some r) : whileF c f s = some r := by
  have he : ∃ n r, whileS c f n s = some r := ⟨n, r, h⟩
  unfold whileF
  rw [dif_pos he]
  have h2 := he.choose_spec.choose_spec
  have a := whileS_more h (Nat.le_max_left n he.choose)
  have b := whileS_more h2 (Nat.le_max_right n he.choose)
  exact b.symm.trans a
noncomputable def whileCF {Sx R : Type} (c : Sx → Option Bool) (f : Sx → Option (Ctl Sx R)) (s : Sx) : Option (Ctl Sx R) := by
  classical exact if h : ∃ n r, whileC c f n s = some r then some h.choose_spec.choose else none
theorem whileCF_some {Sx R : Type} {c : Sx → Option Bool} {f : Sx → Option (Ctl Sx R)} {s : Sx} {r : Ctl Sx R} (h : whileCF c f s = some r) : ∃ n, whileC c f n s = some r := by
  unfold whileCF at h
  split at h
  · rename_i he
    refine ⟨he.choose, ?_⟩
    rw [← Option.some.inj h]
    exact he.choose_spec.choose_spec
  · cases h
theorem whileCF_of {Sx R : Type} {c : Sx → Option Bool} {f : Sx → Option (Ctl Sx R)} {n : Nat} {s : Sx} {r : Ctl Sx R} (h : whileC c f n s = some r) : whileCF c f s = some r := by
  have he : ∃ n r, whileC c f n s = some r := ⟨n, r, h⟩
  unfold whileCF
  rw [dif_pos he]
  have h2 := he.choose_spec.choose_spec
  have a := whileC_more h (Nat.le_max_left n he.choose)
  have b := whileC_more h2 (Nat.le_max_right n he.choose)
  exact b.symm.trans a
def appO {α : Type} (xs : List α) (x : α) : Option (List α) := if xs.length < 1000000 then some (xs ++ [x]) else none
def modO (i j : Int) : Option Int := if 0 < j then some (i % j) else none
def divO (i j : Int) : Option Int := if 0 < j ∧ j < 18446744073709551616 then some (i / j) else none
def mulO (i j : Int) : Option Int := if -18446744073709551616 < i ∧ i < 18446744073709551616 then some (i * j) else none
def catO {α : Type} (xs ys : List α) : Option (List α) := if xs.length + ys.length ≤ 1000000 then some (xs ++ ys) else none
theorem appO_some {α : Type} {xs ys : List α} {x : α} (h : appO xs x = some ys) : xs.length < 1000000 ∧ ys = xs ++ [x] := by
  unfold appO at h
  split at h
  · exact ⟨by assumption, (Option.some.inj h).symm⟩
  · cases h
theorem appO_ok {α : Type} {xs : List α} {x : α} (h : xs.length < 1000000) : appO xs x = some (xs ++ [x]) := if_pos h
theorem modO_ok {i j : Int} (h : 0 < j) : modO i j = some (i % j) := if_pos h
theorem divO_ok {i j : Int} (h : 0 < j) (h2 : j < 18446744073709551616) : divO i j = some (i / j) := if_pos ⟨h, h2⟩
theorem mulO_ok {i j : Int} (h : -18446744073709551616 < i) (h2 : i < 18446744073709551616) : mulO i j = some (i * j) := if_pos ⟨h, h2⟩
theorem catO_ok {α : Type} {xs ys : List α} (h : xs.length + ys.length ≤ 1000000) : catO xs ys = some (xs ++ ys) := if_pos h

section
variable {K : Fg} {F Kn0 : Hp} {sl sl' : List Sl} {ow ow0 ow1 ow2 : List Ow} {α β γ τ : Type} [Rp α] [Rp β] [Rp γ] [Tp τ] {ta tb te : TE} {x : α} {D : Ends} {t u tz : TS} {tt : TT} {b : Bool} {i j : Nat} {p : Addr}
theorem SB.sn (h : SB K F Kn0 sl ow D tz) : SN K F Kn0 sl ow { D with nx := tz D } := h
theorem r2_modO {i j z : Int} (h : modO i j = some z) : R2V K (rI (fun _ j => 0 < j) fun i j => .int (i % j)) i j z := by
  unfold modO at h
  split at h
  · cases h
    exact r2_I (by assumption)
  · cases h
theorem r2_divO {i j z : Int} (h : divO i j = some z) : R2V K (rI CDivW fun i j => .int (i / j)) i j z := by
  unfold divO at h
  split at h
  · rename_i hb
    cases h
    exact r2_I (wide_div (b := 64) hb.1 (by omega) (by decide) (by decide))
  · cases h
theorem r2_mulO {i j z : Int} (h : mulO i j = some z) : R2V K (rI CMul fun i j => .int (i * j)) i j z := by
  unfold mulO at h
  split at h
  · rename_i hb
    cases h
    exact r2_I (.inl ⟨by omega, by omega⟩)
  · cases h
theorem r2_catO {xs ys zs : List α} (h : catO xs ys = some zs) : R2L K rCat xs ys zs := by
  unfold catO at h
  split at h
  · cases h
    exact r2_cat (by assumption)
  · cases h
theorem sb_appO {xs xs' : List α} (hi : sl[i]? = some (.at p)) (hj : ow[j]? = some (ol p xs)) (h : EV K F Kn0 sl ow te x) (hx : appO xs x = some xs') (ho : ow.set j (ol p xs') = ow1) (k : SN K F Kn0 sl ow1 D) :
    SB K F Kn0 sl ow D (tDrop (tBM K "list" rAppend (tVar i) (tCons te tNil))) := by
  obtain ⟨h1, rfl⟩ := appO_some hx
  subst ho
  exact sb_app hi hj h h1 k
theorem sb_appOM {xs xs' : List α} (hi : sl[i]? = some (.at p)) (hi0 : ow[j]? = some (ol p xs)) (h : EM K F Kn0 sl ow te ow1 x) (hj : ow1[j]? = some (ol p xs)) (hx : appO xs x = some xs') (ho : ow1.set j (ol p xs') = ow2) (k : SN K F Kn0 sl ow2 D) :
    SB K F Kn0 sl ow D (tDrop (tBM K "list" rAppend (tVar i) (tCons te tNil))) := by
  obtain ⟨h1, rfl⟩ := appO_some hx
  subst ho
  exact sb_appM hi hi0 h hj h1 k
theorem sb_setO {xs xs' : List α} {n : Int} (hi : sl[i]? = some (.at p)) (hj : ow[j]? = some (ol p xs)) (h : EV K F Kn0 sl ow te x) (hn : EV K F Kn0 sl ow tb n) (hx : setI xs n x = some xs') (ho : ow.set j (ol p xs') = ow1) (k : SN K F Kn0 sl ow1 D) :
    SB K F Kn0 sl ow D (tAsg te (gSub (tVar i) tb rSetL)) := by
  subst ho
  exact sb_setI hi hj h hn hx k

/-! ### lists of one's own, read -/
theorem S.borrow {σ : L2.St} {Kn H : Hp} {xs : List α} (s : S K F Kn0 sl ow σ Kn H) (hi : sl[i]? = some (.at p)) (hj : ow[j]? = some (ol p xs)) : ∃ ws, Kn p = none ∧ H p = some (.lst ws) ∧ S K F Kn0 (sl.set i (sv xs)) (ow.eraseIdx j) σ (upd Kn p (.lst ws)) H := by
  obtain ⟨o, h1, h2⟩ := s.sl.get hi
  have h2 : o = some (.ref p) := h2
  obtain ⟨f1, f2, ws, f3, f4⟩ := s.ow.each _ (List.mem_of_getElem? hj)
  have s1 := s.sub (List.eraseIdx_sublist ow j)
  have no : ∀ o ∈ ow.eraseIdx j, o.ad ≠ p := fun o hm z => by
    obtain ⟨m, hm'⟩ := List.getElem?_of_mem hm
    rw [List.getElem?_eraseIdx] at hm'
    split at hm'
    · have := ow_at s.ow.nd hm' hj z
      omega
    · have := ow_at s.ow.nd hm' hj z
      omega
  have s2 := s1.know (o := .lst ws) f1 f2 no f3
  have hσ : σ.set i o = σ := by
    refine List.ext_getElem? fun m => ?_
    by_cases e : i = m
    · subst e
      rw [List.getElem?_set_self (List.getElem?_eq_some_iff.mp h1).1, h1]
    · rw [List.getElem?_set_ne e]
  have s3 := s2.set (x := sv xs) (o := o) i ⟨.ref p, h2, p, ws, rfl, upd_same, paired_mono (Ex.new f2) f4⟩
  rw [hσ] at s3
  exact ⟨ws, f2, f3, s3⟩
theorem ev_bor {γ : Type} [Rp γ] [Fl γ] {z : γ} {xs : List α} (hi : sl[i]? = some (.at p)) (hj : ow[j]? = some (ol p xs)) (hs : sl.set i (sv xs) = sl') (ho : ow.eraseIdx j = ow1) (h : EV K F Kn0 sl' ow1 te z) : EV K F Kn0 sl ow te z := fun σ Kn H s Q q => by
  obtain ⟨ws, kp, hp, s1⟩ := s.borrow hi hj
  subst hs
  subst ho
  exact h σ _ H s1 Q fun v Kn' H' g r => q v Kn H' ⟨Ex.refl _, g.hh, s.ek.trans g.hh, fun _ _ h => h⟩ (Fl.iff.mpr (Fl.iff.mp r))
theorem et_bor {xs : List α} (hi : sl[i]? = some (.at p)) (hj : ow[j]? = some (ol p xs)) (hs : sl.set i (sv xs) = sl') (ho : ow.eraseIdx j = ow1) (h : ET K F Kn0 sl' ow1 tt b) : ET K F Kn0 sl ow tt b := fun σ Kn H s Q q => by
  obtain ⟨ws, kp, hp, s1⟩ := s.borrow hi hj
  subst hs
  subst ho
  exact h σ _ H s1 Q fun Kn' H' g => q Kn H' ⟨Ex.refl _, g.hh, s.ek.trans g.hh, fun _ _ h => h⟩
theorem ev_ixO {xs : List α} {n : Int} {z : α} (hi : sl[i]? = some (.at p)) (hj : ow[j]? = some (ol p xs)) (hn : EV K F Kn0 sl ow tb n) (hz : atI xs n = some z) : EV K F Kn0 sl ow (tOp (rIxL K) (tVar i) tb) z := fun σ Kn H s Q q => by
  obtain ⟨o, h1, h2⟩ := s.sl.get hi
  obtain ⟨f1, f2, ws, f3, f4⟩ := s.ow.each _ (List.mem_of_getElem? hj)
  refine ⟨.ref p, by rw [h1]; exact congrArg some h2, hn σ Kn H s _ fun v Kn1 H1 g1 r1 => ?_⟩
  cases r1
  obtain ⟨u, e, r⟩ := paired_atI f4 hz
  exact ⟨p, ws, n, u, rfl, rfl, sq_of (g1.hh _ _ f3), e, q u Kn1 H1 g1 (Rp.mono g1.kk r)⟩
theorem en_slO {xs : List α} {tl th : TO} {lo hi : Option Int} (hx : sl[i]? = some (.at p)) (hj : ow[j]? = some (ol p xs)) (hl : EO K F Kn0 sl ow tl lo) (hh : EO K F Kn0 sl ow th hi) : EN K F Kn0 sl ow (tSl (rSlL K) (tVar i) tl th) (cut xs lo hi) := fun σ Kn H s Q q => by
  obtain ⟨o, h1, h2⟩ := s.sl.get hx
  obtain ⟨f1, f2, ws, f3, f4⟩ := s.ow.each _ (List.mem_of_getElem? hj)
  refine ⟨.ref p, by rw [h1]; exact congrArg some h2, hl σ Kn H s _ fun Kn2 H2 g2 => hh σ Kn2 H2 (s.grow g2) _ fun Kn3 H3 g3 => ?_⟩
  have g := g2.trans g3
  exact ⟨p, ws, rfl, sq_of (g.hh _ _ f3), fun l hl => q l _ Kn3 _ (g.trans (Gr.newU g3.kh hl)) (fresh_back g.hh hl) (fresh_back g3.kh hl) upd_same (paired_cut (paired_mono g.kk f4) lo hi)⟩
end

/-! ### == -/
class Pd (α : Type) [Rp α] where
  toD : α → PyData
  dp : Nat
  isD : ∀ {K : Fg} {H : Hp} {v : V} {a : α}, rep K H v a → Dp K H v (toD a)
  dep : ∀ a, (toD a).depth ≤ dp
  eqd : ∀ a b : α, PyData.eqv (toD a) (toD b) = true ↔ a = b
class Pq (τ : Type) [Tp τ] where
  toDs : τ → List PyData
  dp : Nat
  isD : ∀ {K : Fg} {H : Hp} {vs : List V} {a : τ}, rept K H vs a → DpAll K H vs (toDs a)
  dep : ∀ a, PyData.depthAll (toDs a) ≤ dp
  eqd : ∀ a b : τ, PyData.eqvAll (toDs a) (toDs b) = true ↔ a = b
def okD {α : Type} [Rp α] [Pd α] (a : α) : Bool := (Pd.toD a).canLay0
instance : Pd Int := { toD := .int, dp := 0, isD := fun h => by cases h; exact .int _, dep := fun a => Nat.le_refl _, eqd := fun a b => by simp [PyData.eqv] }
instance : Pd Bool := { toD := .bool, dp := 0, isD := fun h => by cases h; exact .bl _, dep := fun a => Nat.le_refl _, eqd := fun a b => by simp [PyData.eqv] }
instance : Pd Str := { toD := .str, dp := 0, isD := fun h => by cases h; exact .str _, dep := fun a => Nat.le_refl _, eqd := fun a b => by simp [PyData.eqv] }
theorem eqvAll_map {α : Type} [Rp α] [Pd α] : ∀ (xs ys : List α), PyData.eqvAll (xs.map Pd.toD) (ys.map Pd.toD) = true ↔ xs = ys
  | [], [] => by simp [PyData.eqvAll]
  | [], y :: ys => by simp [PyData.eqvAll]
  | x :: xs, [] => by simp [PyData.eqvAll]
  | x :: xs, y :: ys => by
    simp only [List.map_cons, PyData.eqvAll, Bool.and_eq_true, Pd.eqd, eqvAll_map xs ys, List.cons.injEq]
theorem depthAll_map {α : Type} [Rp α] [Pd α] : ∀ (xs : List α), PyData.depthAll (xs.map Pd.toD) ≤ Pd.dp α
  | [] => Nat.zero_le _
  | x :: xs => by
    simp only [List.map_cons, PyData.depthAll]
    exact Nat.max_le.mpr ⟨Pd.dep x, depthAll_map xs⟩
theorem dpAll_of {α : Type} [Rp α] [Pd α] {K : Fg} {H : Hp} : ∀ {vs : List V} {xs : List α}, Paired (rep K H) vs xs → DpAll K H vs (xs.map Pd.toD)
  | _, _, .nil => .nil
  | _, _, .cons r t => .cons (Pd.isD r) (dpAll_of t)
instance {α : Type} [Rp α] [Pd α] : Pd (List α) where
  toD xs := .list (xs.map Pd.toD)
  dp := Pd.dp α + 1
  isD h := by
    obtain ⟨p, vs, rfl, h1, h2⟩ := h
    exact .lst (sq_of h1) (dpAll_of h2)
  dep a := by
    simp only [PyData.depth]
    exact Nat.succ_le_succ (depthAll_map a)
  eqd a b := by
    simp only [PyData.eqv]
    exact eqvAll_map a b
instance {α : Type} [Rp α] [Pd α] : Pd (Tu α) where
  toD xs := .tuple (xs.l.map Pd.toD)
  dp := Pd.dp α + 1
  isD h := by
    obtain ⟨p, vs, rfl, h1, h2⟩ := h
    exact .tup (st_of h1) (dpAll_of h2)
  dep a := by
    simp only [PyData.depth]
    exact Nat.succ_le_succ (depthAll_map a.l)
  eqd a b := by
    simp only [PyData.eqv]
    rw [eqvAll_map]
    cases a
    cases b
    simp
instance : Pq Unit where
  toDs _ := []
  dp := 0
  isD h := by cases h; exact .nil
  dep _ := Nat.le_refl _
  eqd _ _ := by simp [PyData.eqvAll]
instance {α τ : Type} [Rp α] [Tp τ] [Pd α] [Pq τ] : Pq (α × τ) where
  toDs t := Pd.toD t.1 :: Pq.toDs t.2
  dp := max (Pd.dp α) (Pq.dp τ)
  isD h := by
    obtain ⟨v, r, rfl, h1, h2⟩ := h
    exact .cons (Pd.isD h1) (Pq.isD h2)
  dep a := by
    simp only [PyData.depthAll]
    exact Nat.max_le.mpr ⟨Nat.le_trans (Pd.dep _) (Nat.le_max_left _ _), Nat.le_trans (Pq.dep _) (Nat.le_max_right _ _)⟩
  eqd a b := by
    simp only [PyData.eqvAll, Bool.and_eq_true, Pd.eqd, Pq.eqd]
    constructor
    · rintro ⟨h1, h2⟩
      exact Prod.ext h1 h2
    · rintro rfl
      exact ⟨rfl, rfl⟩
instance {α τ : Type} [Rp α] [Tp τ] [Pd α] [Pq τ] : Pd (α × τ) where
  toD t := .tuple (Pq.toDs t)
  dp := Pq.dp (α × τ) + 1
  isD h := by
    obtain ⟨p, vs, rfl, h1, h2⟩ := h
    exact .tup (st_of h1) (Pq.isD h2)
  dep a := by
    simp only [PyData.depth]
    exact Nat.succ_le_succ (Pq.dep a)
  eqd a b := by
    simp only [PyData.eqv]
    exact Pq.eqd a b
/-- the same kind on both sides -/
def eqO {α : Type} [Rp α] [Pd α] [DecidableEq α] (a b : α) : Option Bool := if (okD a && okD b && decide (Pd.dp α ≤ 64)) = true then some (decide (a = b)) else none
def neO {α : Type} [Rp α] [Pd α] [DecidableEq α] (a b : α) : Option Bool := if (okD a && okD b && decide (Pd.dp α ≤ 64)) = true then some (!decide (a = b)) else none
section
variable {K : Fg} {α : Type} [Rp α] [Pd α] [DecidableEq α]
theorem shaped_of {a : α} (h : okD a = true) (h2 : Pd.dp α ≤ 64) : SeqAt.shaped (Pd.toD a) = true := by
  unfold SeqAt.shaped
  rw [Bool.and_eq_true]
  exact ⟨h, decide_eq_true (Nat.le_trans (Pd.dep a) h2)⟩
theorem eqv_dec (a b : α) : PyData.eqv (Pd.toD a) (Pd.toD b) = decide (a = b) := by
  by_cases h : a = b
  · rw [decide_eq_true h]
    exact (Pd.eqd a b).mpr h
  · rw [decide_eq_false h]
    cases e : PyData.eqv (Pd.toD a) (Pd.toD b) with
    | false => rfl
    | true => exact absurd ((Pd.eqd a b).mp e) h
theorem dp_mono {H H' : Hp} (e : Ex H H') : ∀ {v : V} {d : PyData}, Dp K H v d → Dp K H' v d := fun h =>
  Dp.rec (motive_1 := fun v d _ => Dp K H' v d) (motive_2 := fun vs ds _ => DpAll K H' vs ds) .non .bl .int .str (fun s _ ih => .lst (ex_l e s) ih) (fun s _ ih => .tup (ex_t e s) ih) .nil (fun _ _ h1 h2 => .cons h1 h2) h
theorem r2_eqO {a b : α} {c : Bool} (h : eqO a b = some c) : R2V K (rEqD K) a b c := fun Kn H v w ek h1 h2 Q q => by
  unfold eqO at h
  split at h
  · rename_i hb
    rw [Bool.and_eq_true, Bool.and_eq_true] at hb
    cases h
    refine ⟨Pd.toD a, Pd.toD b, dp_mono ek (Pd.isD h1), dp_mono ek (Pd.isD h2), shaped_of hb.1.1 (of_decide_eq_true hb.2), shaped_of hb.1.2 (of_decide_eq_true hb.2), ?_⟩
    rw [eqv_dec]
    exact q.fl ek
  · cases h
theorem r2_neO {a b : α} {c : Bool} (h : neO a b = some c) : R2V K (rNeD K) a b c := fun Kn H v w ek h1 h2 Q q => by
  unfold neO at h
  split at h
  · rename_i hb
    rw [Bool.and_eq_true, Bool.and_eq_true] at hb
    cases h
    refine ⟨Pd.toD a, Pd.toD b, dp_mono ek (Pd.isD h1), dp_mono ek (Pd.isD h2), shaped_of hb.1.1 (of_decide_eq_true hb.2), shaped_of hb.1.2 (of_decide_eq_true hb.2), ?_⟩
    rw [eqv_dec]
    exact q.fl ek
  · cases h
/-- data without texts: always -/
class Pt (α : Type) [Rp α] [Pd α] : Prop where
  ok : ∀ a : α, okD a = true
class Pu (τ : Type) [Tp τ] [Pq τ] : Prop where
  ok : ∀ a : τ, PyData.canLayAll0 (Pq.toDs a) = true
instance : Pt Int := ⟨fun _ => rfl⟩
instance : Pt Bool := ⟨fun _ => rfl⟩
theorem canLayAll_map {α : Type} [Rp α] [Pd α] : ∀ (xs : List α), (∀ x ∈ xs, okD x = true) → PyData.canLayAll0 (xs.map Pd.toD) = true
  | [], _ => by simp [PyData.canLayAll0]
  | x :: xs, h => by
    simp only [List.map_cons, PyData.canLayAll0, Bool.and_eq_true]
    exact ⟨h x List.mem_cons_self, canLayAll_map xs fun y hy => h y (List.mem_cons_of_mem _ hy)⟩
theorem okD_list {α : Type} [Rp α] [Pd α] {xs : List α} (h : ∀ x ∈ xs, okD x = true) : okD xs = true := by
  show PyData.canLay0 (.list _) = true
  simp only [PyData.canLay0]
  exact canLayAll_map xs h
theorem okD_tu {α : Type} [Rp α] [Pd α] {xs : Tu α} (h : ∀ x ∈ xs.l, okD x = true) : okD xs = true := by
  show PyData.canLay0 (.tuple _) = true
  simp only [PyData.canLay0]
  exact canLayAll_map xs.l h
theorem okD_pair {α τ : Type} [Rp α] [Tp τ] [Pd α] [Pq τ] {t : α × τ} (h : okD t.1 = true) (h2 : PyData.canLayAll0 (Pq.toDs t.2) = true) : okD t = true := by
  show PyData.canLay0 (.tuple (Pd.toD t.1 :: Pq.toDs t.2)) = true
  simp only [PyData.canLay0, PyData.canLayAll0, Bool.and_eq_true]
  exact ⟨h, h2⟩
theorem okDs_cons {α τ : Type} [Rp α] [Tp τ] [Pd α] [Pq τ] {t : α × τ} (h : okD t.1 = true) (h2 : PyData.canLayAll0 (Pq.toDs t.2) = true) : PyData.canLayAll0 (Pq.toDs t) = true := by
  show PyData.canLayAll0 (Pd.toD t.1 :: Pq.toDs t.2) = true
  simp only [PyData.canLayAll0, Bool.and_eq_true]
  exact ⟨h, h2⟩
instance {α : Type} [Rp α] [Pd α] [Pt α] : Pt (List α) := ⟨fun _ => okD_list fun x _ => Pt.ok x⟩
instance {α : Type} [Rp α] [Pd α] [Pt α] : Pt (Tu α) := ⟨fun _ => okD_tu fun x _ => Pt.ok x⟩
instance : Pu Unit := ⟨fun _ => rfl⟩
instance {α τ : Type} [Rp α] [Tp τ] [Pd α] [Pq τ] [Pt α] [Pu τ] : Pu (α × τ) := ⟨fun _ => okDs_cons (Pt.ok _) (Pu.ok _)⟩
instance {α τ : Type} [Rp α] [Tp τ] [Pd α] [Pq τ] [Pt α] [Pu τ] : Pt (α × τ) := ⟨fun _ => okD_pair (Pt.ok _) (Pu.ok _)⟩
theorem r2_eqT [Pt α] {a b : α} (hd : Pd.dp α ≤ 64 := by decide) : R2V K (rEqD K) a b (decide (a = b)) := r2_eqO (by
  unfold eqO
  rw [Pt.ok a, Pt.ok b, decide_eq_true hd]
  rfl)
theorem r2_neT [Pt α] {a b : α} (hd : Pd.dp α ≤ 64 := by decide) : R2V K (rNeD K) a b (!decide (a = b)) := r2_neO (by
  unfold neO
  rw [Pt.ok a, Pt.ok b, decide_eq_true hd]
  rfl)
theorem eqO_ok {a b : α} (h1 : okD a = true) (h2 : okD b = true) (hd : Pd.dp α ≤ 64 := by decide) : eqO a b = some (decide (a = b)) := by
  unfold eqO
  rw [h1, h2, decide_eq_true hd]
  rfl
theorem neO_ok {a b : α} (h1 : okD a = true) (h2 : okD b = true) (hd : Pd.dp α ≤ 64 := by decide) : neO a b = some (!decide (a = b)) := by
  unfold neO
  rw [h1, h2, decide_eq_true hd]
  rfl
end

/-! ### isinstance -/
structure TyN where
  n : String
instance rpTyN : Rp TyN := { rep := fun _ _ v a => v = .ty a.n, swap := fun _ h => h }
instance : Fl TyN := { toV := fun a => V.ty a.n, iff := Iff.rfl }
class Tn (α : Type) [Rp α] where
  nm : String
  is : ∀ {K : Fg} {H : Hp} {v : V} {a : α}, rep K H v a → TyX K H v (.type nm)
instance : Tn Int := ⟨"int", fun h => by cases h; exact .base (.int _)⟩
instance : Tn Bool := ⟨"bool", fun h => by cases h; exact .base (.bl _)⟩
instance : Tn Str := ⟨"str", fun h => by cases h; exact .base (.str _)⟩
instance : Tn Nn := ⟨"NoneType", fun h => by cases h; exact .base .non⟩
instance {α : Type} [Rp α] : Tn (List α) := ⟨"list", fun h => by
  obtain ⟨p, vs, rfl, h1, _⟩ := h
  exact .base (.lst h1)⟩
instance {α : Type} [Rp α] : Tn (Tu α) := ⟨"tuple", fun h => by
  obtain ⟨p, vs, rfl, h1, _⟩ := h
  exact .base (.tup h1)⟩
instance {α τ : Type} [Rp α] [Tp τ] : Tn (α × τ) := ⟨"tuple", fun h => by
  obtain ⟨p, vs, rfl, h1, _⟩ := h
  exact .base (.tup h1)⟩
theorem rc_isi {K : Fg} {α : Type} [Rp α] [Tn α] {x : α} {n : String} {b : Bool} (h : kitB (Tn.nm α) n = some b) : RCV K (rIsi K) (x, TyN.mk n, ()) b := fun Kn H vs ek hr Q q => by
  obtain ⟨v, w, rfl, h1, h2⟩ := two_args hr
  cases h2
  refine ⟨v, .ty n, .type (Tn.nm α), .type n, b, rfl, .ty n, ?_, kit_ty h, q.fl ek⟩
  exact Tn.is (Rp.mono ek h1)

/-! ### great divisors -/
theorem r2_divW {K : Fg} {i j : Int} {b : Nat} (h : 0 < j) (hb : j.natAbs < 2 ^ b) (h0 : 0 < b) (h9 : b ≤ 9000) : R2V K (rI CDivW fun i j => .int (i / j)) i j (i / j) := r2_I (wide_div h hb h0 h9)

/-! ### sorted of whole numbers -/
def srt (xs : List Int) : List Int := xs.mergeSort fun a b => decide (a ≤ b)
theorem srt_perm (xs : List Int) : (srt xs).Perm xs := List.mergeSort_perm xs _
theorem srt_pw (xs : List Int) : (srt xs).Pairwise (· ≤ ·) := by
  have h := List.pairwise_mergeSort (le := fun a b => decide (a ≤ b)) (fun a b c h1 h2 => by
    have h1 := of_decide_eq_true h1
    have h2 := of_decide_eq_true h2
    exact decide_eq_true (by omega)) (fun a b => by
    rcases Int.le_total a b with h | h
    · rw [decide_eq_true h]; rfl
    · rw [decide_eq_true h]; exact Bool.or_true _) xs
  exact h.imp fun h => of_decide_eq_true h
theorem srt_one {xs ys : List Int} (p : ys.Perm xs) (s : ys.Pairwise (· ≤ ·)) : ys = srt xs :=
  List.Perm.eq_of_pairwise (le := fun a b : Int => a ≤ b) (fun a b _ _ h1 h2 => Int.le_antisymm h1 h2) s (srt_pw xs) (p.trans (srt_perm xs).symm)
theorem rc_sorted {K : Fg} {xs : List Int} : RCL K (rSortedI K) (xs, ()) (srt xs) := fun Kn H vs ek h Q q => by
  obtain ⟨v, rfl, p, ws, rfl, h1, h2⟩ := one_arg h
  have e := paired_fl h2
  subst e
  refine ⟨p, xs, rfl, sq_of (ek _ _ h1), fun ns' l pm pw hl => ?_⟩
  rw [srt_one pm pw]
  exact q l _ Kn _ (Gr.newU ek hl) hl (fresh_back ek hl) upd_same (fl_paired (srt xs))
end Wk

namespace Wk
open PySem PySem.Spec L2 Evl
section
variable {K : Fg} {F Kn0 : Hp} {sl sl' : List Sl} {ow ow0 ow1 ow2 : List Ow} {α β γ τ : Type} [Rp α] [Rp β] [Rp γ] [Tp τ] {ta tb te : TE} {x : α} {D : Ends} {t u tz : TS} {tt : TT} {b : Bool} {i j : Nat} {p : Addr}
theorem ev_int (n : Int) : EV K F Kn0 sl ow (tC (.int n)) n := ev_c n
theorem ev_bool (n : Bool) : EV K F Kn0 sl ow (tC (.bl n)) n := ev_c n
theorem ev_str (n : Str) : EV K F Kn0 sl ow (tC (.str n)) n := ev_c n
theorem ev_nn : EV K F Kn0 sl ow (tC .non) Nn.nn := ev_c Nn.nn
theorem ev_ty (n : String) : EV K F Kn0 sl ow (tC (.ty n)) (TyN.mk n) := ev_c (TyN.mk n)
variable {m n : Int}
theorem r2_add : R2V K (rI0 fun i j => .int (i + j)) m n (m + n) := r2_I0
theorem r2_sub : R2V K (rI0 fun i j => .int (i - j)) m n (m - n) := r2_I0
theorem r2_lt : R2V K (rI0 fun i j => .bl (decide (i < j))) m n (decide (m < n)) := r2_I0
theorem r2_le : R2V K (rI0 fun i j => .bl (decide (i ≤ j))) m n (decide (m ≤ n)) := r2_I0
theorem r2_gt : R2V K (rI0 fun i j => .bl (decide (j < i))) m n (decide (n < m)) := r2_I0
theorem r2_ge : R2V K (rI0 fun i j => .bl (decide (j ≤ i))) m n (decide (n ≤ m)) := r2_I0
theorem r2_mod (h : 0 < n := by decide) : R2V K (rI (fun _ j => 0 < j) fun i j => .int (i % j)) m n (m % n) := r2_I h
theorem r2_div (h : 0 < n ∧ n < 1073741824 := by decide) : R2V K (rI CDiv fun i j => .int (i / j)) m n (m / n) := r2_I h
theorem r2_mulr (h : -18446744073709551616 < n ∧ n < 18446744073709551616 := by decide) : R2V K (rI CMul fun i j => .int (i * j)) m n (m * n) := r2_I (.inr ⟨by omega, by omega⟩)
theorem r2_mull (h : -18446744073709551616 < m ∧ m < 18446744073709551616 := by decide) : R2V K (rI CMul fun i j => .int (i * j)) m n (m * n) := r2_I (.inl ⟨by omega, by omega⟩)
theorem r2_divw (h : 0 < n ∧ n < 18446744073709551616 := by decide) : R2V K (rI CDivW fun i j => .int (i / j)) m n (m / n) := r2_divW h.1 (b := 64) (by omega) (by decide) (by decide)
theorem r2_pow {r : Int} (h : 0 ≤ n ∧ n ≤ 1000000 ∧ m.natAbs < 18446744073709551616 := by decide) (e : m ^ n.toNat = r := by decide) : R2V K (rI CPow fun i j => .int (i ^ j.toNat)) m n r := e ▸ r2_I ⟨h.1, h.2.1, by omega⟩
theorem EN.cast {xs ys : List α} (h : EN K F Kn0 sl ow te xs) (e : xs = ys) : EN K F Kn0 sl ow te ys := e ▸ h
theorem EM.cast {y : α} (h : EM K F Kn0 sl ow te ow1 x) (e : x = y) : EM K F Kn0 sl ow te ow1 y := e ▸ h
theorem ENM.cast {xs ys : List α} (h : ENM K F Kn0 sl ow te ow1 xs) (e : xs = ys) : ENM K F Kn0 sl ow te ow1 ys := e ▸ h
theorem SB.is (h1 : sl = sl') (h2 : ow = ow1) (h : SB K F Kn0 sl' ow1 D t) : SB K F Kn0 sl ow D t := by subst h1; subst h2; exact h
theorem EV.is (h1 : sl = sl') (h : EV K F Kn0 sl' ow te x) : EV K F Kn0 sl ow te x := by subst h1; exact h
theorem EM.is (h1 : sl = sl') (h2 : ow = ow2) (h3 : ow1 = ow0) (h : EM K F Kn0 sl' ow2 te ow0 x) : EM K F Kn0 sl ow te ow1 x := by subst h1; subst h2; subst h3; exact h
theorem ET.is (h1 : sl = sl') (h : ET K F Kn0 sl' ow tt b) : ET K F Kn0 sl ow tt b := by subst h1; exact h
theorem ite_t {γ : Type} {b : Bool} {A B : Option γ} {r : γ} (hb : b = true) (h : (if b = true then A else B) = some r) : A = some r := by rw [if_pos hb] at h; exact h
theorem ite_f {γ : Type} {b : Bool} {A B : Option γ} {r : γ} (hb : b = false) (h : (if b = true then A else B) = some r) : B = some r := by rw [if_neg (by rw [hb]; exact Bool.false_ne_true)] at h; exact h
def anyAt (sl : List Sl) (vs : List Nat) : Bool := vs.all fun j => match sl[j]? with
  | some .any => true
  | _ => false
theorem anyAt_of {sl : List Sl} {vs : List Nat} (h : anyAt sl vs = true) : ∀ j ∈ vs, sl[j]? = some .any := fun j hj => by
  have q := List.all_eq_true.mp h j hj
  cases e : sl[j]? with
  | none => rw [e] at q; cases q
  | some s =>
    rw [e] at q
    cases s with
    | any => rfl
    | val _ _ _ => cases q
    | «at» _ => cases q
theorem sub_of {js vs : List Nat} (h : (js.all fun j => vs.contains j) = true) : ∀ j ∈ js, j ∈ vs := fun j hj => by
  have q := List.all_eq_true.mp h j hj
  simpa using q
theorem sn_end {R : VK} (q : RT K F Kn0 ow0 R Nn.nn) (hd : ∀ σ H, R .non H → D.nx σ H) (l : ow0.Sublist ow) : SN K F Kn0 sl ow D := fun σ Kn H s => hd σ H (q _ Kn H (s.sub l).fin rfl)
def EOM (K : Fg) (F Kn0 : Hp) (sl : List Sl) (ow : List Ow) (to : TO) (ow' : List Ow) (o : Option Int) : Prop := ∀ σ Kn H, S K F Kn0 sl ow σ Kn H → ∀ Q : Option Int → Hp → Prop, (∀ Kn' H', Ex Kn Kn' → S K F Kn0 sl ow' σ Kn' H' → Q o H') → to σ H Q
theorem EO.eom {to : TO} {o : Option Int} (h : EO K F Kn0 sl ow to o) : EOM K F Kn0 sl ow to ow o := fun σ Kn H s Q q => h σ Kn H s Q fun Kn' H' g => q Kn' H' g.kk (s.grow g)
theorem eom_some {i : Int} (h : EM K F Kn0 sl ow te ow1 i) : EOM K F Kn0 sl ow (tPart te) ow1 (some i) := fun σ Kn H s Q q => h σ Kn H s _ fun v Kn1 H1 e1 s1 r1 => ⟨i, r1, q Kn1 H1 e1 s1⟩
theorem enm_sl {ow3 : List Ow} {xs : List α} {tl th : TO} {lo hi : Option Int} (h : EM K F Kn0 sl ow te ow1 xs) (hl : EOM K F Kn0 sl ow1 tl ow2 lo) (hh : EOM K F Kn0 sl ow2 th ow3 hi) : ENM K F Kn0 sl ow (tSl (rSlL K) te tl th) ow3 (cut xs lo hi) := fun σ Kn H s Q q =>
  h σ Kn H s _ fun v Kn1 H1 e1 s1 r1 => hl σ Kn1 H1 s1 _ fun Kn2 H2 e2 s2 => hh σ Kn2 H2 s2 _ fun Kn3 H3 e3 s3 => by
    obtain ⟨p, ws, rfl, h3, h4⟩ := r1
    have e13 : Ex Kn1 Kn3 := e2.trans e3
    exact ⟨p, ws, rfl, sq_of (s3.ek _ _ (e13 _ _ h3)), fun l hl => q l _ Kn3 _ (e1.trans e13) (s3.grow (Gr.newU s3.ek hl)) (fresh_back s3.ef hl) (fresh_back s3.ek hl) (owned_ne s3 hl) upd_same (paired_cut (paired_mono e13 h4) lo hi)⟩
/-- the entry of a def -/
theorem enter {σ : L2.St} {Kn H : Hp} {D : Ends} {t : TS} (ek : Ex Kn H) (hs : SlsOk K Kn sl σ) (h : SB K H Kn sl [] D t) : t D σ H := h σ Kn H ⟨Ex.refl _, ek, Ex.refl _, fun _ _ h => h, hs, ⟨(fun _ h => nomatch h), List.nodup_nil⟩⟩
theorem rt_of {H Kn : Hp} {r : α} {Q : VK} (q : RS K Kn H Q r) : RT K H Kn [] Q r := fun v Kn' H' s rv => q v Kn' H' ⟨s.e0, s.ef, s.ek, s.sep⟩ rv
theorem rn_of {H Kn : Hp} {r : List α} {Q : VK} (q : RL K Kn H Q r) : RN K H Kn [] Q r := fun p ws Kn' H' s fp kp hw rv => q p ws Kn' H' ⟨s.e0, s.ef, s.ek, s.sep⟩ fp kp hw rv
/-- all but p -/
def but (H : Hp) (p : Addr) : Hp := fun a => if a = p then none else H a
theorem enterM {σ : L2.St} {Kn H : Hp} {D : Ends} {t : TS} {p : Addr} {ws : List V} {xs : List α} (ek : Ex Kn H) (kp : Kn p = none) (hp : H p = some (.lst ws)) (r : Paired (rep K Kn) ws xs) (hs : SlsOk K Kn sl σ) (h : SB K (but H p) Kn sl [ol p xs] D t) : t D σ H :=
  h σ Kn H ⟨Ex.refl _, ek, fun a u e => by
    unfold but at e
    split at e
    · cases e
    · exact e, fun _ _ h => h, hs, ⟨fun o ho => by
      cases List.mem_singleton.mp ho
      exact ⟨if_pos rfl, kp, ws, hp, r⟩, List.nodup_cons.mpr ⟨(fun h => nomatch h), List.nodup_nil⟩⟩⟩
theorem rt_ofM {H Kn : Hp} {r : β} {p : Addr} {xs' : List α} {Q : VK} (kp : Kn p = none) (q : ∀ v Kn' H' ws', Ex Kn Kn' → Ex Kn' H' → (∀ q, q ≠ p → H q ≠ none → H' q = H q) → (∀ q, H q ≠ none → Kn q = none → Kn' q = none) → H' p = some (.lst ws') → Paired (rep K Kn') ws' xs' → rep K Kn' v r → Q v H') :
    RT K (but H p) Kn [ol p xs'] Q r := fun v Kn' H' s rv => by
  obtain ⟨_, k1, ws, h1, h2⟩ := s.ow.each (ol p xs') List.mem_cons_self
  refine q v Kn' H' ws s.e0 s.ek (fun a ha hn => ?_) (fun a hn hk => ?_) h1 h2 rv
  · have e : but H p a = H a := if_neg ha
    exact (Ex.at_eq s.ef (by rw [e]; exact hn)).trans e
  · by_cases ha : a = p
    · subst ha
      exact k1
    · exact s.sep a (by unfold but; rw [if_neg ha]; exact hn) hk
end
end Wk

/-! ### rules whose readings name K itself (within comprehensions) -/
namespace Wk
open PySem PySem.Spec L2 Evl
section
variable {X : Cx} {K : Fg}
theorem k_isi (h : X.K = K := by rfl) : CallR X (.builtin "isinstance") (rIsi K) := h ▸ call_isi
theorem k_len (h : X.K = K := by rfl) : CallR X (.builtin "len") (fun xs H Q => ∃ p ys, xs = [.ref p] ∧ (SqL K H p ys ∨ SqT K H p ys) ∧ Q (.int ys.length) H) := h ▸ call_len_seq
theorem k_list (h : X.K = K := by rfl) : CallR X (.type "list") (fun xs H Q => ∃ p ys, xs = [.ref p] ∧ (SqL K H p ys ∨ SqT K H p ys) ∧ ∀ l, H l = none → Q (.ref l) (upd H l (.lst ys))) := h ▸ call_list_of
theorem k_tuple (h : X.K = K := by rfl) : CallR X (.type "tuple") (fun xs H Q => ∃ p ys, xs = [.ref p] ∧ ((SqL K H p ys ∧ ∀ l, H l = none → Q (.ref l) (upd H l (.tup ys))) ∨ (SqT K H p ys ∧ Q (.ref p) H))) := h ▸ call_tuple_of
theorem k_sum (hc : X.calm = true := by rfl) (h : X.K = K := by rfl) : CallR X (.builtin "sum") (rSum K) := h ▸ cr_sum hc
theorem k_any (hc : X.calm = true := by rfl) (h : X.K = K := by rfl) : CallR X (.builtin "any") (rAny K) := h ▸ cr_any hc
theorem k_all (hc : X.calm = true := by rfl) (h : X.K = K := by rfl) : CallR X (.builtin "all") (rAll K) := h ▸ cr_all hc
theorem k_max2 (hc : X.calm = true := by rfl) : CallR X (.builtin "max") (fun xs H Q => ∃ i j, xs = [.int i, .int j] ∧ Q (.int (if j > i then j else i)) H) := call_max2 hc
theorem k_min2 (hc : X.calm = true := by rfl) : CallR X (.builtin "min") (fun xs H Q => ∃ i j, xs = [.int i, .int j] ∧ Q (.int (if j < i then j else i)) H) := call_min2 hc
theorem k_sorted (h : X.K = K := by rfl) : CallR X (.builtin "sorted") (rSortedI K) := h ▸ cr_sortedI
theorem k_ixl (h : X.K = K := by rfl) : IxR X (rIxL K) := h ▸ ix_list
theorem k_ixt (h : X.K = K := by rfl) : IxR X (rIxT K) := h ▸ ix_tup
theorem k_sll (h : X.K = K := by rfl) : SlR X (rSlL K) := h ▸ sl_list
theorem k_eqD (hu : X.A.units + 64 < cLine) (h : X.K = K := by rfl) : OpR X (compareOp .Eq) (rEqD K) := h ▸ op_eqD hu
theorem k_neD (hu : X.A.units + 64 < cLine) (h : X.K = K := by rfl) : OpR X (compareOp .NotEq) (rNeD K) := h ▸ op_neD hu
theorem k_in (h : X.K = K := by rfl) : OpR X (compareOp .In) (rIn K false) := h ▸ op_in_seq
theorem k_notIn (h : X.K = K := by rfl) : OpR X (compareOp .NotIn) (rIn K true) := h ▸ op_notIn_seq
theorem kpg_tup {es : List Expr} {k : Nat} {t : TGs} {n : Nat} {pos : Pos} (hs : PGs X es t) (hc : X.calm = true := by rfl) (h : X.K = K := by rfl)
    (hn : (assignEach es X.env).length = n := by rfl) (hst : (assignEach es X.env).findIdx? (·.1) = none := by rfl) : PG X (.Tuple es k pos) (gTup K n t) := h ▸ pg_tup hc hs hn hst
theorem kpi_list {tg e : Expr} {te : TE} (he : PE X e te) (h : X.K = K := by rfl) : PI X tg e (iList K te) := h ▸ pi_list he
theorem kpi_tup {tg e : Expr} {te : TE} (he : PE X e te) (h : X.K = K := by rfl) : PI X tg e (iTup K te) := h ▸ pi_tup he
theorem kpt_truth {a : Expr} {ta : TE} (ha : PE X a ta) (he : ∀ whole, isTrue a X.env whole = (do let v ← whole; standAt a.pos; holding [v] (truthy v)) := by intro _; rfl) (h : X.K = K := by rfl) : PT X a (fun σ H Q => ta σ H fun x H' => ∃ k, TruV K x H' k ∧ Q k H') := h ▸ pt_truth ha he
end
end Wk
/-! Wk5: in, lists made longer, texts, chains, tuples put together -/
namespace Wk
open PySem PySem.Spec L2 Evl
class Fe (α : Type) [Rp α] [Fl α] [DecidableEq α] : Prop where
  flat : ∀ a : α, flatV (Fl.toV a) = true
  eq : ∀ a b : α, eqV (Fl.toV a) (Fl.toV b) = decide (a = b)
instance : Fe Int := ⟨fun _ => rfl, fun a b => by show (a == b) = decide (a = b); by_cases h : a = b <;> simp [h]⟩
instance : Fe Str := ⟨fun _ => rfl, fun a b => by show (a == b) = decide (a = b); by_cases h : a = b <;> simp [h]⟩
def repO {α : Type} (xs : List α) (k : Int) : Option (List α) := if -1000000000 ≤ k ∧ k ≤ 1000000000 ∧ xs.length * k.toNat ≤ 1000000 then some (List.replicate k.toNat xs).flatten else none
def addS (x y : Str) : Option Str := if x.length + y.length ≤ 1000000 then some (x ++ y) else none
def lenS (x : Str) : Option Int := if x.length ≤ 1000000 then some (x.length : Int) else none
def joinO (a : Str) (ys : List Str) : Option Str := if (ys.map (·.length)).sum + ys.length * a.length ≤ 1000000 then some (Txt.join a ys) else none
def powO (i j : Int) : Option Int := if 0 ≤ j ∧ j ≤ 1000000 ∧ i.natAbs < 18446744073709551616 then some (i ^ j.toNat) else none
section
variable {K : Fg} {F Kn0 : Hp} {sl sl' : List Sl} {ow ow0 ow1 ow2 : List Ow} {α β γ τ : Type} [Rp α] [Rp β] [Rp γ] [Tp τ] {ta tb tc te : TE} {x : α} {y : β} {z : γ} {D : Ends} {t u tz : TS} {tt : TT} {a b : Bool} {i j : Nat} {p : Addr}
theorem any_mem {α : Type} [Rp α] [Fl α] [DecidableEq α] [Fe α] (x : α) : ∀ xs : List α, inV (Fl.toV x) (xs.map Fl.toV) = decide (x ∈ xs)
  | [] => by simp [inV]
  | y :: ys => by
    have ih := any_mem x ys
    unfold inV at ih ⊢
    rw [List.map_cons, List.any_cons, ih, Fe.eq]
    by_cases h : y = x
    · subst h
      simp
    · have h' : ¬ x = y := fun e => h e.symm
      simp [h, h']
theorem all_flat {α : Type} [Rp α] [Fl α] [DecidableEq α] [Fe α] : ∀ xs : List α, (xs.map Fl.toV).all flatV = true
  | [] => rfl
  | y :: ys => by
    rw [List.map_cons, List.all_cons, Fe.flat, all_flat ys]
    rfl
theorem r2_in {α : Type} [Rp α] [Fl α] [DecidableEq α] [Fe α] {x : α} {xs : List α} : R2V K (rIn K false) x xs (decide (x ∈ xs)) := fun Kn H v w ek h1 h2 Q q => by
  obtain ⟨p, ws, rfl, h3, h4⟩ := h2
  have e := paired_fl h4
  subst e
  rw [Fl.iff.mp h1]
  refine ⟨p, _, rfl, .inl (sq_of (ek _ _ h3)), Fe.flat x, all_flat xs, ?_⟩
  rw [any_mem]
  exact q.fl ek
theorem r2_notIn {α : Type} [Rp α] [Fl α] [DecidableEq α] [Fe α] {x : α} {xs : List α} : R2V K (rIn K true) x xs (!decide (x ∈ xs)) := fun Kn H v w ek h1 h2 Q q => by
  obtain ⟨p, ws, rfl, h3, h4⟩ := h2
  have e := paired_fl h4
  subst e
  rw [Fl.iff.mp h1]
  refine ⟨p, _, rfl, .inl (sq_of (ek _ _ h3)), Fe.flat x, all_flat xs, ?_⟩
  rw [any_mem]
  exact q.fl ek
theorem r2_inU {α : Type} [Rp α] [Fl α] [DecidableEq α] [Fe α] {x : α} {xs : Tu α} : R2V K (rIn K false) x xs (decide (x ∈ xs.l)) := fun Kn H v w ek h1 h2 Q q => by
  obtain ⟨p, ws, rfl, h3, h4⟩ := h2
  have e := paired_fl h4
  subst e
  rw [Fl.iff.mp h1]
  refine ⟨p, _, rfl, .inr (st_of (ek _ _ h3)), Fe.flat x, all_flat xs.l, ?_⟩
  rw [any_mem]
  exact q.fl ek
theorem r2_notInU {α : Type} [Rp α] [Fl α] [DecidableEq α] [Fe α] {x : α} {xs : Tu α} : R2V K (rIn K true) x xs (!decide (x ∈ xs.l)) := fun Kn H v w ek h1 h2 Q q => by
  obtain ⟨p, ws, rfl, h3, h4⟩ := h2
  have e := paired_fl h4
  subst e
  rw [Fl.iff.mp h1]
  refine ⟨p, _, rfl, .inr (st_of (ek _ _ h3)), Fe.flat x, all_flat xs.l, ?_⟩
  rw [any_mem]
  exact q.fl ek
theorem paired_rep {F : V → α → Prop} {vs : List V} {xs : List α} (h : Paired F vs xs) : ∀ n : Nat, Paired F (List.replicate n vs).flatten (List.replicate n xs).flatten
  | 0 => .nil
  | n + 1 => by
    rw [List.replicate_succ, List.replicate_succ, List.flatten_cons, List.flatten_cons]
    exact paired_append h (paired_rep h n)
theorem r2_repO {xs zs : List α} {k : Int} (h : repO xs k = some zs) : R2L K rRep xs k zs := fun Kn H v w ek h1 h2 Q q => by
  unfold repO at h
  split at h
  · rename_i hb
    cases h
    obtain ⟨p, ws, rfl, h3, h4⟩ := h1
    cases h2
    refine ⟨p, k, ws, rfl, rfl, ek _ _ h3, by omega, by omega, by rw [paired_len h4]; exact le_line hb.2.2, fun l hl => q l _ Kn _ (Gr.newU ek hl) hl (fresh_back ek hl) upd_same (paired_rep h4 _)⟩
  · cases h
theorem r2_addS {x y z : Str} (h : addS x y = some z) : R2V K (fun x y H Q => ∃ i j, x = .str i ∧ y = .str j ∧ i.length + j.length ≤ sizeLine ∧ Q (.str (i ++ j)) H) x y z := fun Kn H v w ek h1 h2 Q q => by
  unfold addS at h
  split at h
  · rename_i hb
    cases h
    exact ⟨x, y, h1, h2, le_line hb, q.fl ek⟩
  · cases h
theorem rc_lenS {x : Str} {z : Int} (h : lenS x = some z) : RCV K (fun xs H Q => ∃ z, xs = [.str z] ∧ z.length ≤ sizeLine ∧ Q (.int z.length) H) (x, ()) z := fun Kn H vs ek hr Q q => by
  obtain ⟨v, rfl, h1⟩ := one_arg hr
  cases h1
  unfold lenS at h
  split at h
  · rename_i hb
    cases h
    exact ⟨x, rfl, le_line hb, q.fl ek⟩
  · cases h
theorem ev_joinO {s : Str} {ys : List Str} {z : Str} (ha : EV K F Kn0 sl ow ta s) (hb : EV K F Kn0 sl ow tb ys) (h : joinO s ys = some z) :
    EV K F Kn0 sl ow (tM1 (fun x xs H Q => ∃ a p, ∃ ys : List Str, x = .str a ∧ xs = [.ref p] ∧ (SqL K H p (ys.map V.str) ∨ SqT K H p (ys.map V.str)) ∧ (ys.map (·.length)).sum + ys.length * a.length ≤ 16777216 ∧ Q (.str (Txt.join a ys)) H) ta tb) z := fun σ Kn H s' Q q =>
  ha σ Kn H s' _ fun v Kn1 H1 g1 r1 => by
    cases r1
    refine ⟨⟨s, rfl⟩, hb σ Kn1 H1 (s'.grow g1) _ fun w Kn2 H2 g2 r2 => ?_⟩
    obtain ⟨p, ws, rfl, h3, h4⟩ := r2
    have e := paired_fl h4
    subst e
    unfold joinO at h
    split at h
    · rename_i hz
      cases h
      exact ⟨s, p, ys, rfl, rfl, .inl (sq_of (g2.kh _ _ h3)), by omega, q _ Kn2 H2 (g1.trans g2) rfl⟩
    · cases h
theorem rc_intB {x : Bool} : RCV K (fun xs H Q => (∃ i, xs = [.int i] ∧ Q (.int i) H) ∨ ∃ k, xs = [.bl k] ∧ Q (.int (if k then 1 else 0)) H) (x, ()) (if x = true then (1 : Int) else 0) := fun Kn H vs ek hr Q q => by
  obtain ⟨v, rfl, h1⟩ := one_arg hr
  cases h1
  exact .inr ⟨x, rfl, q.fl ek⟩
theorem rc_intI {x : Int} : RCV K (fun xs H Q => (∃ i, xs = [.int i] ∧ Q (.int i) H) ∨ ∃ k, xs = [.bl k] ∧ Q (.int (if k then 1 else 0)) H) (x, ()) x := fun Kn H vs ek hr Q q => by
  obtain ⟨v, rfl, h1⟩ := one_arg hr
  cases h1
  exact .inl ⟨x, rfl, q.fl ek⟩
theorem r2_powO {i j z : Int} (h : powO i j = some z) : R2V K (rI CPow fun i j => .int (i ^ j.toNat)) i j z := by
  unfold powO at h
  split at h
  · rename_i hb
    cases h
    exact r2_I ⟨hb.1, hb.2.1, by omega⟩
  · cases h
/-- x < y < z -/
theorem ev_chain {r r' : R2} (ha : EV K F Kn0 sl ow ta x) (hb : EV K F Kn0 sl ow tb y) (hr : R2V K r x y a) (hc : EV K F Kn0 sl ow tc z) (hr' : R2V K r' y z b) : EV K F Kn0 sl ow (tChain r r' ta tb tc) (a && b) := fun σ Kn H s Q q =>
  ha σ Kn H s _ fun v Kn1 H1 g1 r1 => hb σ Kn1 H1 (s.grow g1) _ fun w Kn2 H2 g2 r2 => hr Kn2 H2 v w g2.kh (Rp.mono g2.kk r1) r2 _ fun u Kn3 H3 g3 r3 => by
    refine ⟨a, r3, ?_⟩
    cases a with
    | true => exact iteT (hc σ Kn3 H3 (((s.grow g1).grow g2).grow g3) _ fun v4 Kn4 H4 g4 r4 => hr' Kn4 H4 w v4 g4.kh (Rp.mono (g3.kk.trans g4.kk) r2) r4 Q fun u5 Kn5 H5 g5 r5 => q u5 Kn5 H5 ((((g1.trans g2).trans g3).trans g4).trans g5) r5)
    | false => exact iteF (q _ Kn3 H3 ((g1.trans g2).trans g3) rfl)
/-- t3 is t1 and t2 put together -/
inductive Ap : {τ1 τ2 τ3 : Type} → [Tp τ1] → [Tp τ2] → [Tp τ3] → τ1 → τ2 → τ3 → Prop
  | z {τ : Type} [Tp τ] (t : τ) : Ap () t t
  | s {α τ1 τ2 τ3 : Type} [Rp α] [Tp τ1] [Tp τ2] [Tp τ3] (x : α) {t1 : τ1} {t2 : τ2} {t3 : τ3} : Ap t1 t2 t3 → Ap (x, t1) t2 (x, t3)
theorem Ap.rept {K : Fg} {H : Hp} {τ1 τ2 τ3 : Type} [i1 : Tp τ1] [i2 : Tp τ2] [i3 : Tp τ3] {t1 : τ1} {t2 : τ2} {t3 : τ3} (h : Ap t1 t2 t3) : ∀ {vs ws : List V}, Wk.rept K H vs t1 → Wk.rept K H ws t2 → Wk.rept K H (vs ++ ws) t3 := by
  induction h with
  | z t =>
    intro vs ws h1 h2
    cases h1
    exact h2
  | s x _ ih =>
    intro vs ws h1 h2
    obtain ⟨v, r, rfl, h3, h4⟩ := h1
    exact ⟨v, r ++ ws, rfl, h3, ih h4 h2⟩
theorem r2_catA {α1 τ1 α2 τ2 α3 τ3 : Type} [Rp α1] [Tp τ1] [Rp α2] [Tp τ2] [Rp α3] [Tp τ3] {t1 : α1 × τ1} {t2 : α2 × τ2} {t3 : α3 × τ3} (h : Ap t1 t2 t3) (hn : Tp.n (α1 × τ1) + Tp.n (α2 × τ2) ≤ 1000 := by decide) : R2V K (rCatA K) t1 t2 t3 := fun Kn H v w ek h1 h2 Q q => by
  obtain ⟨p, vs, rfl, h3, h4⟩ := h1
  obtain ⟨p2, ws, rfl, h5, h6⟩ := h2
  have n1 : vs ≠ [] := by
    obtain ⟨_, _, rfl, _⟩ := h4
    simp
  have n2 : ws ≠ [] := by
    obtain ⟨_, _, rfl, _⟩ := h6
    simp
  refine ⟨p, p2, vs, ws, rfl, rfl, st_of (ek _ _ h3), st_of (ek _ _ h5), ?_, fun e => absurd e n1, fun _ e => absurd e n2, fun _ _ l hl => ?_⟩
  · rw [Tp.len h4, Tp.len h6]
    exact le_line (by omega)
  · exact q _ (upd Kn l (.tup (vs ++ ws))) _ (Gr.new ek hl) ⟨l, _, rfl, upd_same, h.rept (Tp.mono (Gr.new ek hl).kk h4) (Tp.mono (Gr.new ek hl).kk h6)⟩
/-- found.clear() -/
theorem sb_clr {xs : List α} (hi : sl[i]? = some (.at p)) (hj : ow[j]? = some (ol p xs)) (ho : ow.set j (ol p ([] : List α)) = ow1) (k : SN K F Kn0 sl ow1 D) : SB K F Kn0 sl ow D (tDrop (tBM0 K "list" rClear (tVar i))) := fun σ Kn H s => by
  obtain ⟨o, h1, h2⟩ := s.sl.get hi
  obtain ⟨f1, f2, ws, f3, f4⟩ := s.ow.each _ (List.mem_of_getElem? hj)
  subst ho
  refine ⟨.ref p, by rw [h1]; exact congrArg some h2, Or.inl ⟨rfl, ws, sq_of f3⟩, p, ws, rfl, rfl, f3, k _ Kn _ ?_⟩
  exact s.write hj (Ex.refl _) (upd_in s.ek f2) (fun q hq _ => upd_ne hq) (fun _ _ h => h) upd_same .nil
theorem en_listO {xs : List α} (hi : sl[i]? = some (.at p)) (hj : ow[j]? = some (ol p xs)) : EN K F Kn0 sl ow (tCB (fun xs H Q => ∃ p ys, xs = [.ref p] ∧ (SqL K H p ys ∨ SqT K H p ys) ∧ ∀ l, H l = none → Q (.ref l) (upd H l (.lst ys))) (tCons (tVar i) tNil)) xs := fun σ Kn H s Q q => by
  obtain ⟨o, h1, h2⟩ := s.sl.get hi
  obtain ⟨f1, f2, ws, f3, f4⟩ := s.ow.each _ (List.mem_of_getElem? hj)
  exact ⟨.ref p, by rw [h1]; exact congrArg some h2, p, ws, rfl, .inl (sq_of f3), fun l hl => q l ws Kn _ (Gr.newU s.ek hl) hl (fresh_back s.ek hl) upd_same f4⟩
/-- a test that changes something on its way -/
def ETM (K : Fg) (F Kn0 : Hp) (sl : List Sl) (ow : List Ow) (tt : TT) (ow' : List Ow) (b : Bool) : Prop := ∀ σ Kn H, S K F Kn0 sl ow σ Kn H → ∀ Q : Bool → Hp → Prop, (∀ Kn' H', Ex Kn Kn' → S K F Kn0 sl ow' σ Kn' H' → Q b H') → tt σ H Q
theorem ET.etm (h : ET K F Kn0 sl ow tt b) : ETM K F Kn0 sl ow tt ow b := fun σ Kn H s Q q => h σ Kn H s Q fun Kn' H' g => q Kn' H' g.kk (s.grow g)
theorem etm_test (h : EM K F Kn0 sl ow te ow1 b) : ETM K F Kn0 sl ow (tTest te) ow1 b := fun σ Kn H s Q q => h σ Kn H s _ fun v Kn' H' e s' r => ⟨b, r, q Kn' H' e s'⟩
theorem etm_and {t u : TT} (h1 : ETM K F Kn0 sl ow t ow1 a) (h2 : a = true → ET K F Kn0 sl ow1 u b) : ETM K F Kn0 sl ow (tAnd t u) ow1 (a && b) := fun σ Kn H s Q q => h1 σ Kn H s _ fun Kn1 H1 e1 s1 => by
  cases a with
  | true => exact iteT (h2 rfl σ Kn1 H1 s1 Q fun Kn2 H2 g2 => q Kn2 H2 (e1.trans g2.kk) (s1.grow g2))
  | false => exact iteF (q Kn1 H1 e1 s1)
theorem etm_or {t u : TT} (h1 : ETM K F Kn0 sl ow t ow1 a) (h2 : a = false → ET K F Kn0 sl ow1 u b) : ETM K F Kn0 sl ow (tOr t u) ow1 (a || b) := fun σ Kn H s Q q => h1 σ Kn H s _ fun Kn1 H1 e1 s1 => by
  cases a with
  | true => exact iteT (q Kn1 H1 e1 s1)
  | false => exact iteF (h2 rfl σ Kn1 H1 s1 Q fun Kn2 H2 g2 => q Kn2 H2 (e1.trans g2.kk) (s1.grow g2))
theorem sb_ifM {t u : TS} (h : ETM K F Kn0 sl ow tt ow1 b) (h1 : b = true → SB K F Kn0 sl ow1 D t) (h2 : b = false → SB K F Kn0 sl ow1 D u) : SB K F Kn0 sl ow D (tIfS tt t u) := fun σ Kn H s => h σ Kn H s _ fun Kn1 H1 e1 s1 => by
  cases b with
  | true => exact iteT (h1 rfl σ Kn1 H1 s1)
  | false => exact iteF (h2 rfl σ Kn1 H1 s1)
end
section
variable {X : Cx} {K : Fg}
theorem k_catA (h : X.K = K := by rfl) : OpR X (binaryOp .Add) (rCatA K) := h ▸ op_catA
theorem k_join {to te : TE} {o e : Expr} {apos pos : Pos} (ho : PE X o to) (he : PE X e te) (hs : starEach [e] X.env = [(false, eval e X.env)] := by rfl) (hbase : attributeBase o "join" X.env (eval o X.env) = eval o X.env := by rfl) (hline : (apos.endLine == pos.line) = true := by rfl) (h : X.K = K := by rfl) :
    PE X (.Call (.Attribute o "join" apos) [e] [] pos) (tM1 (fun x xs H Q => ∃ a p, ∃ ys : List Str, x = .str a ∧ xs = [.ref p] ∧ (SqL K H p (ys.map V.str) ∨ SqT K H p (ys.map V.str)) ∧ (ys.map (·.length)).sum + ys.length * a.length ≤ 16777216 ∧ Q (.str (Txt.join a ys)) H) to te) := h ▸ pe_join ho he hs hbase hline
end
end Wk
/-! Wk6: dicts. -/
namespace Wk
open PySem PySem.Spec L2 Evl
/-- what may be a key -/
class K1 (α : Type) [Rp α] where
  key : α → Key
  inj : ∀ {a b : α}, key a = key b → a = b
  iff : ∀ {K : Fg} {H : Hp} {v : V} {a : α}, rep K H v a → v = kV (key a)
instance : K1 Int := { key := Sum.inl, inj := fun h => Sum.inl.inj h, iff := fun h => h }
instance : K1 Str := { key := Sum.inr, inj := fun h => Sum.inr.inj h, iff := fun h => h }
class KT1 (τ : Type) [Tp τ] where
  keys : τ → List Key
  inj : ∀ {a b : τ}, keys a = keys b → a = b
  iff : ∀ {K : Fg} {H : Hp} {vs : List V} {a : τ}, rept K H vs a → vs = (keys a).map kV
instance : KT1 Unit := { keys := fun _ => [], inj := fun _ => rfl, iff := fun h => h }
instance {α τ : Type} [Rp α] [Tp τ] [K1 α] [KT1 τ] : KT1 (α × τ) where
  keys t := K1.key t.1 :: KT1.keys t.2
  inj h := Prod.ext (K1.inj (List.cons.inj h).1) (KT1.inj (List.cons.inj h).2)
  iff h := by
    obtain ⟨v, r, h1, h2, h3⟩ := h
    rw [h1, K1.iff h2, KT1.iff h3]
    rfl
class Ky (κ : Type) [Rp κ] where
  kt : Type
  dec : DecidableEq kt
  key : κ → kt
  inj : ∀ {a b : κ}, key a = key b → a = b
  ho : List (kt × V) → HO
  isd : ∀ ws, isDk (ho ws)
  get : ∀ {K : Fg} {Kh H : Hp} {p : Addr} {v : V} {a : κ} {ws : List (kt × V)}, rep K Kh v a → Ex Kh H → Rd H p (ho ws) → DGet H p v (valV ws (key a))
  put : ∀ {K : Fg} {Kh H : Hp} {p : Addr} {v y : V} {a : κ} {ws : List (kt × V)}, rep K Kh v a → Ex Kh H → H p = some (ho ws) → ws.length < sizeLine → DPut H p v y (upd H p (ho (putK ws (key a) y)))
instance {κ : Type} [Rp κ] [Ky κ] : DecidableEq (Ky.kt κ) := Ky.dec
instance {α : Type} [Rp α] [K1 α] : Ky α where
  kt := Key
  dec := inferInstance
  key := K1.key
  inj := K1.inj
  ho := .dK
  isd _ := trivial
  get h _ e := by
    rw [K1.iff h]
    exact .inl ⟨_, _, e, rfl, rfl⟩
  put h _ e l := by
    rw [K1.iff h]
    exact DPut.k e l
instance {α τ : Type} [Rp α] [Tp τ] [KT1 (α × τ)] : Ky (α × τ) where
  kt := List Key
  dec := inferInstance
  key := KT1.keys
  inj := KT1.inj
  ho := .dT
  isd _ := trivial
  get h x e := by
    obtain ⟨p, vs, h1, h2, h3⟩ := h
    rw [h1]
    have h4 := x _ _ h2
    rw [KT1.iff (τ := α × _) h3] at h4
    exact .inr ⟨_, _, _, e, rfl, h4, rfl⟩
  put h x e l := by
    obtain ⟨p, vs, h1, h2, h3⟩ := h
    rw [h1]
    have h4 := x _ _ h2
    rw [KT1.iff (τ := α × _) h3] at h4
    exact DPut.t e h4 l
/-- the table of a dict -/
structure Dc (κ β : Type) where
  l : List (κ × β)
section
variable {κ β : Type} [DecidableEq κ]
def getD (kvs : List (κ × β)) (k : κ) : Option β := (kvs.find? fun kv => decide (kv.1 = k)).map (·.2)
def putD (kvs : List (κ × β)) (k : κ) (y : β) : List (κ × β) := if (getD kvs k).isSome = true then kvs.map (fun kv => if kv.1 = k then (kv.1, y) else kv) else kvs ++ [(k, y)]
def putO (kvs : Dc κ β) (k : κ) (y : β) : Option (Dc κ β) := if kvs.l.length < 1000000 then some ⟨putD kvs.l k y⟩ else none
def mergeD (kvs more : List (κ × β)) : List (κ × β) := more.foldl (fun acc kv => putD acc kv.1 kv.2) kvs
end
section
variable {κ β : Type} [Rp κ] [Ky κ] [Rp β]
abbrev DK (K : Fg) (H : Hp) : List (Ky.kt κ × V) → List (κ × β) → Prop := Paired fun w kv => w.1 = Ky.key kv.1 ∧ rep K H w.2 kv.2
theorem DK.mono {K : Fg} {H H' : Hp} {ws : List (Ky.kt κ × V)} {kvs : List (κ × β)} (e : Ex H H') (h : DK K H ws kvs) : DK K H' ws kvs := Paired.mapP h fun _ _ q => ⟨q.1, Rp.mono e q.2⟩
theorem DK.swap {K : Fg} {H H' : Hp} {ws : List (Ky.kt κ × V)} {kvs : List (κ × β)} (e : Sw H H') (h : DK K H ws kvs) : DK K H' ws kvs := Paired.mapP h fun _ _ q => ⟨q.1, Rp.swap e q.2⟩
instance obDc : Ob (Dc κ β) where
  ob K H o x := ∃ ws, o = Ky.ho (κ := κ) ws ∧ DK K H ws x.l
  swap e h := by
    obtain ⟨ws, h1, h2⟩ := h
    exact ⟨ws, h1, DK.swap e h2⟩
instance rpDc : Rp (Dc κ β) where
  rep K H v x := ∃ p ws, v = .ref p ∧ Rd H p (Ky.ho (κ := κ) ws) ∧ DK K H ws x.l
  swap e h := by
    obtain ⟨p, ws, h1, h2, h3⟩ := h
    exact ⟨p, ws, h1, e.rd h2 (Ky.isd ws), DK.swap e h3⟩
theorem rd_ex {H H' : Hp} (e : Ex H H') {q : Addr} {u : HO} (h : Rd H q u) : Rd H' q u := by
  rcases h with h | ⟨o, h⟩
  · exact .inl (e _ _ h)
  · exact .inr ⟨o, e _ _ h⟩
variable [DecidableEq κ]
theorem DK.get {K : Fg} {H : Hp} {ws : List (Ky.kt κ × V)} {kvs : List (κ × β)} (k : κ) (h : DK K H ws kvs) : (getD kvs k = none ∧ valV ws (Ky.key k) = none) ∨ ∃ y v, getD kvs k = some y ∧ valV ws (Ky.key k) = some v ∧ rep K H v y := by
  unfold DK at h
  induction h with
  | nil => exact .inl ⟨rfl, rfl⟩
  | @cons w kv ws kvs h t ih =>
    unfold getD valV
    by_cases e : kv.1 = k
    · have e2 : w.1 = Ky.key k := h.1.trans (congrArg _ e)
      rw [List.find?_cons_of_pos (by simpa using e), List.find?_cons_of_pos (by simpa using e2)]
      exact .inr ⟨_, _, rfl, rfl, h.2⟩
    · have e2 : ¬ w.1 = Ky.key k := fun z => e (Ky.inj (h.1.symm.trans z))
      rw [List.find?_cons_of_neg (by simpa using e), List.find?_cons_of_neg (by simpa using e2)]
      exact ih
theorem DK.some {K : Fg} {H : Hp} {ws : List (Ky.kt κ × V)} {kvs : List (κ × β)} (k : κ) (h : DK K H ws kvs) : (valV ws (Ky.key k)).isSome = (getD kvs k).isSome := by
  rcases h.get k with ⟨h1, h2⟩ | ⟨y, v, h1, h2, _⟩
  · rw [h1, h2]
    rfl
  · rw [h1, h2]
    rfl
theorem DK.repl {K : Fg} {H : Hp} {ws : List (Ky.kt κ × V)} {kvs : List (κ × β)} (k : κ) {v : V} {y : β} (hv : rep K H v y) (h : DK K H ws kvs) : DK K H (ws.map fun kv => if kv.1 = Ky.key k then (kv.1, v) else kv) (kvs.map fun kv => if kv.1 = k then (kv.1, y) else kv) := by
  unfold DK at h ⊢
  induction h with
  | nil => exact .nil
  | @cons w kv ws kvs h t ih =>
    rw [List.map_cons, List.map_cons]
    refine .cons ?_ ih
    by_cases e : kv.1 = k
    · have e2 : w.1 = Ky.key k := h.1.trans (congrArg _ e)
      rw [if_pos e, if_pos e2]
      exact ⟨h.1, hv⟩
    · have e2 : ¬ w.1 = Ky.key k := fun z => e (Ky.inj (h.1.symm.trans z))
      rw [if_neg e, if_neg e2]
      exact h
theorem Paired.app2 {α β : Type} {R : α → β → Prop} : ∀ {xs xs' : List α} {ys ys' : List β}, Paired R xs ys → Paired R xs' ys' → Paired R (xs ++ xs') (ys ++ ys')
  | _, _, _, _, .nil, h => h
  | _, _, _, _, .cons q t, h => .cons q (Paired.app2 t h)
theorem DK.put {K : Fg} {H : Hp} {ws : List (Ky.kt κ × V)} {kvs : List (κ × β)} (k : κ) {v : V} {y : β} (hv : rep K H v y) (h : DK K H ws kvs) : DK K H (putK ws (Ky.key k) v) (putD kvs k y) := by
  unfold putK putD
  rw [valV_any, h.some k]
  split
  · exact DK.repl k hv h
  · exact Paired.app2 h (.cons ⟨rfl, hv⟩ .nil)
end
section
variable {K : Fg} {F Kn0 : Hp} {sl sl' : List Sl} {ow ow0 ow1 ow2 : List Ow} {κ β γ : Type} [Rp κ] [Ky κ] [DecidableEq κ] [Rp β] [Rp γ] {ta tb te td tk : TE} {k : κ} {x : γ} {D : Ends} {t u tz : TS} {b : Bool} {i j : Nat} {p : Addr}
/-- the object at place j is another one now, all else as it was -/
theorem S.writeG {σ : L2.St} {Kn H Kn' H' : Hp} {o1 o2 : Ow} (s : S K F Kn0 sl ow σ Kn H) (hj : ow[j]? = some o1) (ha : o1.ad = p) (hb : o2.ad = p) (kk : Ex Kn Kn') (kh : Ex Kn' H')
    (hq : ∀ q, q ≠ p → H q ≠ none → H' q = H q) (sp : ∀ q, H q ≠ none → Kn q = none → Kn' q = none) (hp : o2.ok K Kn' H') : S K F Kn0 sl (ow.set j o2) σ Kn' H' := by
  obtain ⟨f1, f2, f3⟩ := s.ow.each _ (List.mem_of_getElem? hj)
  have f4 := Ow.there f3
  rw [ha] at f1 f2 f4
  have jl : j < ow.length := (List.getElem?_eq_some_iff.mp hj).1
  refine ⟨s.e0.trans kk, kh, fun a u h => ?_, fun a h1 h2 => sp a (Ex.nn s.ef h1) (s.sep a h1 h2), s.sl.mono kk, ⟨fun o ho => ?_, ?_⟩⟩
  · have hne : a ≠ p := fun z => by rw [z, f1] at h; cases h
    rw [hq a hne (ne_none_of (s.ef _ _ h))]
    exact s.ef _ _ h
  · obtain ⟨i, hi⟩ := List.getElem?_of_mem ho
    by_cases e : i = j
    · subst e
      rw [List.getElem?_set_self jl] at hi
      cases hi
      rw [hb]
      exact ⟨f1, sp p f4 f2, hp⟩
    · rw [List.getElem?_set_ne (Ne.symm e)] at hi
      obtain ⟨h1, h2, h3⟩ := s.ow.each o (List.mem_of_getElem? hi)
      have h4 := Ow.there h3
      have hne : o.ad ≠ p := fun z => e (ow_at s.ow.nd hi hj (z.trans ha.symm))
      exact ⟨h1, sp _ h4 h2, Ow.ok_mono kk (hq _ hne h4) h3⟩
  · have e : (ow.set j o2).map Ow.ad = ow.map Ow.ad := by
      rw [List.map_set]
      refine List.ext_getElem? fun i => ?_
      by_cases e : j = i
      · subst e
        rw [List.getElem?_set_self (by rw [List.length_map]; exact jl), List.getElem?_map, hj, hb, ← ha]
        rfl
      · rw [List.getElem?_set_ne e]
    rw [e]
    exact s.ow.nd
theorem S.ownG {σ : L2.St} {Kn H : Hp} {o : Ow} (s : S K F Kn0 sl ow σ Kn H) (ha : o.ad = p) (fp : F p = none) (kp : Kn p = none) (no : ∀ o ∈ ow, o.ad ≠ p) (ok : o.ok K Kn H) : S K F Kn0 sl (o :: ow) σ Kn H :=
  ⟨s.e0, s.ek, s.ef, s.sep, s.sl, ⟨fun o ho => by
    rcases List.mem_cons.mp ho with rfl | ho
    · rw [ha]
      exact ⟨fp, kp, ok⟩
    · exact s.ow.each o ho, List.nodup_cons.mpr ⟨fun h => by
      obtain ⟨o, ho, e⟩ := List.mem_map.mp h
      exact no o ho (e.trans ha), s.ow.nd⟩⟩⟩
/-- x = {} -/
theorem sb_dnewK {sl' : Addr → List Sl} (hm : Ky.ho (κ := κ) [] = HO.dK []) (hs : ∀ p, sl.set i (.at p) = sl' p) (k : ∀ p, SN K F Kn0 (sl' p) (oo p (Dc.mk ([] : List (κ × β))) :: ow) D) : SB K F Kn0 sl ow D (tAsg tDNewK (gName i)) := fun σ Kn H s p hp =>
  k p _ Kn _ (hs p ▸ ((s.grow (Gr.newU s.ek hp)).ownG (p := p) (o := oo p (Dc.mk ([] : List (κ × β)))) rfl (fresh_back s.ef hp) (fresh_back s.ek hp) (owned_ne s hp) ⟨_, upd_same, [], hm.symm, .nil⟩).seta i)
theorem sb_dnewT {sl' : Addr → List Sl} (hm : Ky.ho (κ := κ) [] = HO.dT []) (hs : ∀ p, sl.set i (.at p) = sl' p) (k : ∀ p, SN K F Kn0 (sl' p) (oo p (Dc.mk ([] : List (κ × β))) :: ow) D) : SB K F Kn0 sl ow D (tAsg tDNewT (gName i)) := fun σ Kn H s p hp =>
  k p _ Kn _ (hs p ▸ ((s.grow (Gr.newU s.ek hp)).ownG (p := p) (o := oo p (Dc.mk ([] : List (κ × β)))) rfl (fresh_back s.ef hp) (fresh_back s.ek hp) (owned_ne s hp) ⟨_, upd_same, [], hm.symm, .nil⟩).seta i)
/-- d[k] = y -/
theorem sb_dput {y : β} {d d' : Dc κ β} (hi : sl[i]? = some (.at p)) (hj : ow[j]? = some (oo p d)) (h : EV K F Kn0 sl ow te y) (hk : EV K F Kn0 sl ow tk k) (hx : putO d k y = some d') (ho : ow.set j (oo p d') = ow1) (n : SN K F Kn0 sl ow1 D) :
    SB K F Kn0 sl ow D (sDPut (tVar i) tk te) := fun σ Kn H s => h σ Kn H s _ fun v Kn1 H1 g1 r1 => by
  obtain ⟨o, h1, h2⟩ := s.sl.get hi
  refine ⟨.ref p, by rw [h1]; exact congrArg some h2, hk σ Kn1 H1 (s.grow g1) _ fun w Kn2 H2 g2 r2 => ?_⟩
  have s2 := (s.grow g1).grow g2
  obtain ⟨f1, f2, o1, f3, ws, f4, f5⟩ := s2.ow.each _ (List.mem_of_getElem? hj)
  subst f4
  unfold putO at hx
  split at hx
  · case isTrue hl =>
    cases hx
    subst ho
    refine ⟨p, _, rfl, Ky.put r2 s2.ek f3 (by rw [f5.length]; exact lt_line hl), n _ Kn2 _ ?_⟩
    exact s2.writeG hj rfl rfl (Ex.refl _) (upd_in s2.ek f2) (fun q hq _ => upd_ne hq) (fun _ _ h => h) ⟨_, upd_same, _, rfl, DK.put k (Rp.mono g2.kk r1) f5⟩
  · cases hx
/-- k in d -/
theorem ev_dinO {d : Dc κ β} (hi : sl[i]? = some (.at p)) (hj : ow[j]? = some (oo p d)) (hk : EV K F Kn0 sl ow tk k) : EV K F Kn0 sl ow (tDIn tk (tVar i)) (getD d.l k).isSome := fun σ Kn H s Q q => hk σ Kn H s _ fun v Kn1 H1 g1 r1 => by
  have s1 := s.grow g1
  obtain ⟨o, h1, h2⟩ := s1.sl.get hi
  obtain ⟨f1, f2, o1, f3, ws, f4, f5⟩ := s1.ow.each _ (List.mem_of_getElem? hj)
  subst f4
  exact ⟨.ref p, by rw [h1]; exact congrArg some h2, p, _, rfl, Ky.get r1 s1.ek (Rd.of f3), q _ Kn1 H1 g1 (congrArg V.bl (f5.some k))⟩
theorem ev_din {d : Dc κ β} (hd : EV K F Kn0 sl ow td d) (hk : EV K F Kn0 sl ow tk k) : EV K F Kn0 sl ow (tDIn tk td) (getD d.l k).isSome := fun σ Kn H s Q q => hk σ Kn H s _ fun v Kn1 H1 g1 r1 => hd σ Kn1 H1 (s.grow g1) _ fun u Kn2 H2 g2 r2 => by
  obtain ⟨p, ws, e1, e2, f5⟩ := r2
  exact ⟨p, _, e1, Ky.get (Rp.mono g2.kk r1) g2.kh (rd_ex g2.kh e2), q _ Kn2 H2 (g1.trans g2) (congrArg V.bl (f5.some k))⟩
theorem ev_dnotinO {d : Dc κ β} (hi : sl[i]? = some (.at p)) (hj : ow[j]? = some (oo p d)) (hk : EV K F Kn0 sl ow tk k) : EV K F Kn0 sl ow (tDNotIn tk (tVar i)) (!(getD d.l k).isSome) := fun σ Kn H s Q q => hk σ Kn H s _ fun v Kn1 H1 g1 r1 => by
  have s1 := s.grow g1
  obtain ⟨o, h1, h2⟩ := s1.sl.get hi
  obtain ⟨f1, f2, o1, f3, ws, f4, f5⟩ := s1.ow.each _ (List.mem_of_getElem? hj)
  subst f4
  exact ⟨.ref p, by rw [h1]; exact congrArg some h2, p, _, rfl, Ky.get r1 s1.ek (Rd.of f3), q _ Kn1 H1 g1 (congrArg (fun b => V.bl (!b)) (f5.some k))⟩
theorem ev_dnotin {d : Dc κ β} (hd : EV K F Kn0 sl ow td d) (hk : EV K F Kn0 sl ow tk k) : EV K F Kn0 sl ow (tDNotIn tk td) (!(getD d.l k).isSome) := fun σ Kn H s Q q => hk σ Kn H s _ fun v Kn1 H1 g1 r1 => hd σ Kn1 H1 (s.grow g1) _ fun u Kn2 H2 g2 r2 => by
  obtain ⟨p, ws, e1, e2, f5⟩ := r2
  exact ⟨p, _, e1, Ky.get (Rp.mono g2.kk r1) g2.kh (rd_ex g2.kh e2), q _ Kn2 H2 (g1.trans g2) (congrArg (fun b => V.bl (!b)) (f5.some k))⟩
/-- d[k] -/
theorem ev_dgetO {d : Dc κ β} {y : β} (hi : sl[i]? = some (.at p)) (hj : ow[j]? = some (oo p d)) (hk : EV K F Kn0 sl ow tk k) (hy : getD d.l k = some y) : EV K F Kn0 sl ow (tDGet (tVar i) tk) y := fun σ Kn H s Q q => by
  obtain ⟨o, h1, h2⟩ := s.sl.get hi
  refine ⟨.ref p, by rw [h1]; exact congrArg some h2, hk σ Kn H s _ fun v Kn1 H1 g1 r1 => ?_⟩
  have s1 := s.grow g1
  obtain ⟨f1, f2, o1, f3, ws, f4, f5⟩ := s1.ow.each _ (List.mem_of_getElem? hj)
  subst f4
  rcases f5.get k with ⟨h1, h2⟩ | ⟨y2, w, h1, h2, h3⟩
  · rw [h1] at hy
    cases hy
  · rw [h1] at hy
    cases hy
    exact ⟨p, w, rfl, h2 ▸ Ky.get r1 s1.ek (Rd.of f3), q w Kn1 H1 g1 h3⟩
theorem ev_dget {d : Dc κ β} {y : β} (hd : EV K F Kn0 sl ow td d) (hk : EV K F Kn0 sl ow tk k) (hy : getD d.l k = some y) : EV K F Kn0 sl ow (tDGet td tk) y := fun σ Kn H s Q q => hd σ Kn H s _ fun u Kn1 H1 g1 r1 => hk σ Kn1 H1 (s.grow g1) _ fun v Kn2 H2 g2 r2 => by
  obtain ⟨p, ws, e1, e2, f5⟩ := Rp.mono g2.kk r1
  rcases f5.get k with ⟨h1, h2⟩ | ⟨y2, w, h1, h2, h3⟩
  · rw [h1] at hy
    cases hy
  · rw [h1] at hy
    cases hy
    exact ⟨p, w, e1, h2 ▸ Ky.get r2 g2.kh (rd_ex g2.kh e2), q w Kn2 H2 (g1.trans g2) h3⟩
/-- a dict of one's own, lent -/
theorem S.borrowG {σ : L2.St} {Kn H : Hp} {d : Dc κ β} (s : S K F Kn0 sl ow σ Kn H) (hi : sl[i]? = some (.at p)) (hj : ow[j]? = some (oo p d)) : ∃ o, Kn p = none ∧ H p = some o ∧ S K F Kn0 (sl.set i (sv d)) (ow.eraseIdx j) σ (upd Kn p o) H := by
  obtain ⟨o, h1, h2⟩ := s.sl.get hi
  have h2 : o = some (.ref p) := h2
  obtain ⟨f1, f2, ob, f3, f4⟩ := s.ow.each _ (List.mem_of_getElem? hj)
  have s1 := s.sub (List.eraseIdx_sublist ow j)
  have no : ∀ o ∈ ow.eraseIdx j, o.ad ≠ p := fun o hm z => by
    obtain ⟨m, hm'⟩ := List.getElem?_of_mem hm
    rw [List.getElem?_eraseIdx] at hm'
    split at hm'
    · have := ow_at s.ow.nd hm' hj z
      omega
    · have := ow_at s.ow.nd hm' hj z
      omega
  have s2 := s1.know (o := ob) f1 f2 no f3
  have hσ : σ.set i o = σ := by
    refine List.ext_getElem? fun m => ?_
    by_cases e : i = m
    · subst e
      rw [List.getElem?_set_self (List.getElem?_eq_some_iff.mp h1).1, h1]
    · rw [List.getElem?_set_ne e]
  have s3 := s2.set (x := sv d) (o := o) i ⟨.ref p, h2, by
    obtain ⟨ws, rfl, f5⟩ := f4
    exact ⟨p, ws, rfl, Rd.of upd_same, DK.mono (Ex.new f2) f5⟩⟩
  rw [hσ] at s3
  exact ⟨ob, f2, f3, s3⟩
theorem ev_borG [Fl γ] {z : γ} {d : Dc κ β} (hi : sl[i]? = some (.at p)) (hj : ow[j]? = some (oo p d)) (hs : sl.set i (sv d) = sl') (ho : ow.eraseIdx j = ow1) (h : EV K F Kn0 sl' ow1 te z) : EV K F Kn0 sl ow te z := fun σ Kn H s Q q => by
  obtain ⟨ws, kp, hp, s1⟩ := s.borrowG hi hj
  subst hs
  subst ho
  exact h σ _ H s1 Q fun v Kn' H' g r => q v Kn H' ⟨Ex.refl _, g.hh, s.ek.trans g.hh, fun _ _ h => h⟩ (Fl.iff.mpr (Fl.iff.mp r))
theorem et_borG {tt : TT} {d : Dc κ β} (hi : sl[i]? = some (.at p)) (hj : ow[j]? = some (oo p d)) (hs : sl.set i (sv d) = sl') (ho : ow.eraseIdx j = ow1) (h : ET K F Kn0 sl' ow1 tt b) : ET K F Kn0 sl ow tt b := fun σ Kn H s Q q => by
  obtain ⟨ws, kp, hp, s1⟩ := s.borrowG hi hj
  subst hs
  subst ho
  exact h σ _ H s1 Q fun Kn' H' g => q Kn H' ⟨Ex.refl _, g.hh, s.ek.trans g.hh, fun _ _ h => h⟩
end
section
variable {X : Cx} {o i e value : Expr} {pos pos' tpos : Pos} {td ty tv : TE}
theorem k_dget (hu : X.A.units + 64 < cLine) (ho : PE X o td) (hi : PE X i ty) (hs : NoSl i) : PE X (.Subscript o i pos) (tDGet td ty) := pe_dget (by omega) ho hi hs
theorem k_din (hu : X.A.units + 64 < cLine) (hi : PE X i ty) (ho : PE X o td) : PC X .In i o (tDIn ty td) := pc_din (by omega) hi ho
theorem k_dnotin (hu : X.A.units + 64 < cLine) (hi : PE X i ty) (ho : PE X o td) : PC X .NotIn i o (tDNotIn ty td) := pc_dnotin (by omega) hi ho
theorem k_dput (hu : X.A.units + 64 < cLine) (ho : PE X o td) (hi : PE X i ty) (hv : PE X value tv) (hs : swapsWith value (some (.Subscript o i pos')) pos.line X.env = pure false) : PS X (.Assign [.Subscript o i pos'] value pos) (sDPut td ty tv) := ps_dput (by omega) ho hi hv hs
end
/-! ### a new list out of an operation with effects -/
section
variable {K : Fg} {F Kn0 : Hp} {sl : List Sl} {ow ow1 ow2 : List Ow} {α β γ : Type} [Rp α] [Rp β] [Rp γ] {ta tb : TE} {x : α} {y : β}
theorem enm_op {r : R2} {zs : List γ} (ha : EM K F Kn0 sl ow ta ow1 x) (hb : EM K F Kn0 sl ow1 tb ow2 y) (hr : R2L K r x y zs) : ENM K F Kn0 sl ow (tOp r ta tb) ow2 zs := fun σ Kn H s Q q =>
  ha σ Kn H s _ fun v Kn1 H1 e1 s1 r1 => hb σ Kn1 H1 s1 _ fun w Kn2 H2 e2 s2 r2 => hr Kn2 H2 v w s2.ek (Rp.mono e2 r1) r2 Q fun p ws Kn' H' g' hp kp hw r' =>
    q p ws Kn' H' ((e1.trans e2).trans g'.kk) (s2.grow g') (fresh_back s2.ef hp) kp (owned_ne s2 hp) hw r'
end
/-! ### a display -/
section
variable {K : Fg} {F Kn0 : Hp} {sl : List Sl} {ow : List Ow} {κ β : Type} [Rp κ] [K1 κ] [DecidableEq κ] [Rp β] {tk tv : TE} {k : κ} {y : β} {trs : List (TE × TE)} {kvs : List (κ × β)}
def EPs (K : Fg) (F Kn0 : Hp) (sl : List Sl) (ow : List Ow) (trs : List (TE × TE)) (kvs : List (κ × β)) : Prop := ∀ σ Kn H, S K F Kn0 sl ow σ Kn H → ∀ Q : List (V × V) → Hp → Prop,
  (∀ ws Kn' H', Gr Kn H Kn' H' → DK K Kn' ws kvs → Q (ws.map fun w => (kV w.1, w.2)) H') → tPairs trs σ H Q
theorem eps_nil : EPs K F Kn0 sl ow [] ([] : List (κ × β)) := fun σ Kn H s Q q => q [] Kn H (Gr.refl s.ek) .nil
theorem eps_cons (hk : EV K F Kn0 sl ow tk k) (hv : EV K F Kn0 sl ow tv y) (hr : EPs K F Kn0 sl ow trs kvs) : EPs K F Kn0 sl ow ((tk, tv) :: trs) ((k, y) :: kvs) := fun σ Kn H s Q q =>
  hk σ Kn H s _ fun v Kn1 H1 g1 r1 => hv σ Kn1 H1 (s.grow g1) _ fun w Kn2 H2 g2 r2 => hr σ Kn2 H2 ((s.grow g1).grow g2) _ fun ws Kn3 H3 g3 r3 => by
    have e := K1.iff r1
    subst e
    exact q ((K1.key k, w) :: ws) Kn3 H3 ((g1.trans g2).trans g3) (.cons ⟨rfl, Rp.mono g3.kk r2⟩ r3)
theorem DK.merge {K : Fg} {H : Hp} : ∀ {ms : List (Key × V)} {more : List (κ × β)} {ws : List (Key × V)} {kvs : List (κ × β)}, DK K H ms more → DK K H ws kvs → DK K H (mergeK ws ms) (mergeD kvs more) := by
  intro ms more ws kvs h
  unfold DK at h
  induction h generalizing ws kvs with
  | nil => exact fun h => h
  | @cons w kv ms more h t ih =>
    intro q
    refine ih ?_
    show DK K H (putK ws w.1 w.2) (putD kvs kv.1 kv.2)
    rw [h.1]
    exact DK.put kv.1 h.2 q
/-- {..}[k] -/
theorem ev_pick (hp : EPs K F Kn0 sl ow trs kvs) (hk : EV K F Kn0 sl ow tk k) (hl : kvs.length ≤ 15) (hy : getD (mergeD [] kvs) k = some y) : EV K F Kn0 sl ow (tDGet (tDisp trs) tk) y := fun σ Kn H s Q q p hp0 => by
  have g0 : Gr Kn H Kn (upd H p (.dK [])) := Gr.newU s.ek hp0
  refine hp σ Kn _ (s.grow g0) _ fun ws Kn1 H1 g1 r1 => ?_
  have e1 : H1 p = some (.dK []) := g1.hh _ _ upd_same
  have kp : Kn1 p = none := g1.sp p (ne_none_of upd_same) (fresh_back s.ek hp0)
  have g : Gr Kn H Kn1 (upd H1 p (.dK (mergeK [] ws))) := ⟨g1.kk, fun a u h => by
    have hne : a ≠ p := fun z => by rw [z, hp0] at h; cases h
    rw [upd_ne hne]
    exact g1.hh _ _ (by rw [upd_ne hne]; exact h), upd_in g1.kh kp, fun a h1 h2 => g1.sp a (Ex.nn g0.hh h1) h2⟩
  refine ⟨e1, ws, rfl, by rw [r1.length]; exact hl, hk σ Kn1 _ (s.grow g) _ fun v Kn2 H2 g2 r2 => ?_⟩
  have r3 : DK K Kn1 (mergeK [] ws) (mergeD [] kvs) := DK.merge r1 .nil
  rcases r3.get k with ⟨h1, h2⟩ | ⟨y2, w, h1, h2, h3⟩
  · rw [h1] at hy
    cases hy
  · rw [h1] at hy
    cases hy
    exact ⟨p, w, rfl, h2 ▸ Ky.get r2 g2.kh (Rd.of (g2.hh _ _ upd_same)), q w Kn2 H2 (g.trans g2) (Rp.mono g2.kk h3)⟩
end
end Wk
/-! Wsort: sorted of a list of alike data (numbers, texts, tuples of these); sorted of a dict's keys; xs[::-1] -/
namespace L2
open PySem PySem.Spec PyProof.Rows
/-- sorted(xs), xs a list of alike data -/
def rSortedD (K : PySem.W.Frag) : List V → Hp → VK → Prop := fun vs H Q => ∃ (a : Addr) (bs : List (V × PyData)), vs = [V.ref a] ∧ SqL K H a (bs.map (·.1)) ∧ (∀ b ∈ bs, Dp K H b.1 b.2) ∧ PySem.W.AllAlike (bs.map (·.2)) ∧ PySem.W.Sortable (bs.map (·.2)) ∧ bs.length ≤ 1000000 ∧ (∀ b ∈ bs, b.2.depth ≤ 60) ∧
  ∀ p, H p = none → Q (.ref p) (upd H p (.lst ((bs.mergeSort (PySem.W.dataLe false (fun b : V × PyData => b.2))).map (·.1))))
theorem each_vals : ∀ {bs : List (V × PyData)} {us : List Value}, Vals (bs.map (·.1)) us → PySem.W.EachIs (fun v (b : V × PyData) => RelV b.1 v) us bs
  | [], _, h => by
    have h' : Vals [] _ := h
    cases h'
    exact .nil
  | b :: bs, _, h => by
    have h' : Vals (b.1 :: bs.map (·.1)) _ := h
    cases h' with
    | cons r t => exact .cons r (each_vals t)
theorem vals_each : ∀ {bs : List (V × PyData)} {us : List Value}, PySem.W.EachIs (fun v (b : V × PyData) => RelV b.1 v) us bs → Vals (bs.map (·.1)) us
  | _, _, .nil => .nil
  | _, _, .cons r t => .cons r (vals_each t)
theorem each_reads {X : Cx} {pins : List (Addr × Obj)} {σ : St} {H : Hp} {s : Shared} (I : Inv X pins σ H s) : ∀ {bs : List (V × PyData)} {us : List Value}, (∀ b ∈ bs, Dp X.K H b.1 b.2) → PySem.W.EachIs (fun v (b : V × PyData) => RelV b.1 v) us bs → PySem.W.EachIs (fun v (b : V × PyData) => ∃ as, Reads s.heap v b.2 as) us bs
  | _, _, _, .nil => .nil
  | _, _, h, .cons r t => .cons (Dp.reads I _ _ _ (h _ List.mem_cons_self) r) (each_reads I (fun b hb => h b (List.mem_cons_of_mem _ hb)) t)
theorem cr_sortedD {X : Cx} (hu : X.A.units + 64 < cLine) : CallR X (.builtin "sorted") (rSortedD X.K) := by
  intro pins s σ H vs us Q I r h
  obtain ⟨a, bs, rfl, hs, hd, hal, hk, hL, hdp, q⟩ := h
  obtain ⟨its, rv, hl, hz⟩ := I.list hs
  rw [Vals.ref1 r]
  have e := each_vals rv
  have hL' : bs.length ≤ sizeLine := Nat.le_trans hL (by decide)
  refine PySem.W.sorted_data (vs := its) (enc := fun b : V × PyData => b.2) hl.isList e (each_reads I hd e) hal hk hL' (fun b hb => by have := hdp b hb; omega) fun out ho eo => ?_
  obtain ⟨ep, he'⟩ := PyProof.Rows.sortedAll_at s.heap its out.toArray
  have hlen : ((bs.mergeSort (PySem.W.dataLe false (fun b : V × PyData => b.2))).map (·.1)).length ≤ sizeLine := by
    rw [List.length_map, List.length_mergeSort]
    exact hL'
  exact ⟨.ref _, upd H (s.heap.objs.size + 1) (.lst _), I.laid (t' := s.toks) (fun _ _ => PyProof.Rows.sortedAll_old) (Nat.le_succ _) ⟨hlen, out, ep, vals_each eo, he'⟩, rfl, q _ (I.hok.fresh (Nat.le_succ _))⟩
end L2
namespace Wk
open PySem PySem.Spec L2 Evl
/-- alike, one with the other -/
class Al (α : Type) [Rp α] [Pd α] : Prop where
  al : ∀ a b : α, PySem.W.alike (Pd.toD a) (Pd.toD b) = true
class Als (τ : Type) [Tp τ] [Pq τ] : Prop where
  al : ∀ a b : τ, PySem.W.alikeAll (Pq.toDs a) (Pq.toDs b) = true
class So (α : Type) [Rp α] [Pd α] : Prop where
  so : (∀ a : α, ∃ x r, Pd.toD a = .tuple (x :: r)) ∨ ∀ a : α, Pd.toD a ≠ .none ∧ ∀ xs, Pd.toD a ≠ .tuple xs
instance : Al Int := ⟨fun _ _ => rfl⟩
instance : Al Str := ⟨fun _ _ => rfl⟩
instance : Al Bool := ⟨fun _ _ => rfl⟩
instance : Als Unit := ⟨fun _ _ => rfl⟩
instance {α τ : Type} [Rp α] [Tp τ] [Pd α] [Pq τ] [Al α] [Als τ] : Als (α × τ) := ⟨fun a b => by
  show PySem.W.alikeAll (Pd.toD a.1 :: Pq.toDs a.2) (Pd.toD b.1 :: Pq.toDs b.2) = true
  rw [PySem.W.alikeAll, Al.al, Als.al]
  rfl⟩
instance {α τ : Type} [Rp α] [Tp τ] [Pd α] [Pq τ] [Al α] [Als τ] : Al (α × τ) := ⟨fun a b => by
  show PySem.W.alike (.tuple (Pq.toDs a)) (.tuple (Pq.toDs b)) = true
  rw [PySem.W.alike, Als.al]⟩
instance : So Int := ⟨.inr fun a => ⟨(fun h => nomatch h), (fun _ h => nomatch h)⟩⟩
instance : So Str := ⟨.inr fun a => ⟨(fun h => nomatch h), (fun _ h => nomatch h)⟩⟩
instance : So Bool := ⟨.inr fun a => ⟨(fun h => nomatch h), (fun _ h => nomatch h)⟩⟩
instance {α τ : Type} [Rp α] [Tp τ] [Pd α] [Pq τ] : So (α × τ) := ⟨.inl fun a => ⟨_, _, rfl⟩⟩
def leD {α : Type} [Rp α] [Pd α] (a b : α) : Bool := PySem.W.dataLe false (fun c : α => Pd.toD c) a b
def srtD {α : Type} [Rp α] [Pd α] (xs : List α) : List α := xs.mergeSort leD
def srtDO {α : Type} [Rp α] [Pd α] (xs : List α) : Option (List α) := if xs.length ≤ 1000000 ∧ Pd.dp α ≤ 60 then some (srtD xs) else none
theorem paired_zip {α β : Type} {R : α → β → Prop} : ∀ {vs : List α} {xs : List β}, Paired R vs xs → ∃ ps : List (α × β), ps.map (·.1) = vs ∧ ps.map (·.2) = xs ∧ ∀ c ∈ ps, R c.1 c.2
  | _, _, .nil => ⟨[], rfl, rfl, (fun _ h => nomatch h)⟩
  | _, _, .cons r t => by
    obtain ⟨ps, h1, h2, h3⟩ := paired_zip t
    refine ⟨(_, _) :: ps, by rw [List.map_cons, h1], by rw [List.map_cons, h2], fun c hc => ?_⟩
    rcases List.mem_cons.mp hc with rfl | hc
    · exact r
    · exact h3 c hc
theorem zip_paired {α β : Type} {R : α → β → Prop} : ∀ {ps : List (α × β)}, (∀ c ∈ ps, R c.1 c.2) → Paired R (ps.map (·.1)) (ps.map (·.2))
  | [], _ => .nil
  | c :: ps, h => .cons (h c List.mem_cons_self) (zip_paired fun d hd => h d (List.mem_cons_of_mem _ hd))
section
variable {K : Fg} {F Kn0 : Hp} {sl sl' : List Sl} {ow ow1 : List Ow} {α β γ : Type} [Rp α] [Rp β] [Rp γ] {te : TE} {i j : Nat} {p : Addr}
theorem rc_sortD {α : Type} [Rp α] [Pd α] [Al α] [So α] {xs zs : List α} (h : srtDO xs = some zs) : RCL K (rSortedD K) (xs, ()) zs := fun Kn H vs ek hv Q q => by
  unfold srtDO at h
  split at h
  case isFalse => cases h
  rename_i hl
  cases h
  obtain ⟨v, rfl, l, ws, rfl, h1, h2⟩ := one_arg hv
  obtain ⟨ps, e1, e2, e3⟩ := paired_zip h2
  have eb1 : (ps.map fun c => ((c.1, Pd.toD c.2) : V × PyData)).map (·.1) = ws := by
    rw [List.map_map, ← e1]
    rfl
  have lp : ps.length = xs.length := by rw [← e2, List.length_map]
  refine ⟨l, ps.map fun c => (c.1, Pd.toD c.2), rfl, by rw [eb1]; exact sq_of (ek _ _ h1), fun b hb => ?_, ?_, ?_, by rw [List.length_map, lp]; exact hl.1, fun b hb => ?_, fun p hp => ?_⟩
  · obtain ⟨c, hc, rfl⟩ := List.mem_map.mp hb
    exact Pd.isD (Rp.mono ek (e3 c hc))
  · rw [List.map_map]
    exact PySem.W.AllAlike.of fun a b => Al.al _ _
  · rw [List.map_map]
    rcases (So.so : _ ∨ ∀ a : α, _) with h | h
    · exact PySem.W.Sortable.tuples fun c => h _
    · exact PySem.W.Sortable.others fun c => h _
  · obtain ⟨c, hc, rfl⟩ := List.mem_map.mp hb
    exact Nat.le_trans (Pd.dep _) hl.2
  · have m1 : (ps.mergeSort fun a b => leD a.2 b.2).map (fun c => ((c.1, Pd.toD c.2) : V × PyData)) = (ps.map fun c => ((c.1, Pd.toD c.2) : V × PyData)).mergeSort (PySem.W.dataLe false (fun b : V × PyData => b.2)) := List.map_mergeSort fun a _ b _ => rfl
    have m2 : (ps.mergeSort fun a b => leD a.2 b.2).map (·.2) = srtD xs := by
      unfold srtD
      rw [← e2]
      exact List.map_mergeSort fun a _ b _ => rfl
    rw [← m1, List.map_map]
    refine q p _ Kn _ (Gr.newU ek hp) hp (fresh_back ek hp) upd_same ?_
    rw [← m2]
    exact zip_paired fun c hc => e3 c ((List.mergeSort_perm _ _).mem_iff.mp hc)
theorem en_rev {xs : List α} (h : EV K F Kn0 sl ow te xs) : EN K F Kn0 sl ow (tRevL K te) xs.reverse := fun σ Kn H s Q q => h σ Kn H s _ fun v Kn1 H1 g1 r1 => by
  obtain ⟨p, ws, rfl, h3, h4⟩ := r1
  refine ⟨p, ws, rfl, sq_of (g1.kh _ _ h3), fun l hl => q l _ Kn1 _ (g1.trans (Gr.newU g1.kh hl)) (fresh_back g1.hh hl) (fresh_back g1.kh hl) upd_same ?_⟩
  obtain ⟨ps, e1, e2, e3⟩ := paired_zip h4
  rw [← e1, ← e2, ← List.map_reverse, ← List.map_reverse]
  exact zip_paired fun c hc => e3 c (List.mem_reverse.mp hc)
theorem k_sortedD {X : Cx} (hu : X.A.units + 64 < cLine) (h : X.K = K := by rfl) : CallR X (.builtin "sorted") (rSortedD K) := h ▸ cr_sortedD hu
theorem k_revL {X : Cx} {e : Expr} {te : TE} {k : Nat} {p1 p2 p3 pos : Pos} (he : PE X e te) (h : X.K = K := by rfl) : PE X (.Subscript e (.Slice none none (some (.UnaryOp .USub (.Constant (.int 1) k p1) p2)) p3) pos) (tRevL K te) := h ▸ pe_revL he
/-- sorted(d), d a dict with text keys -/
def rSortedK : List V → Hp → VK → Prop := fun xs H Q => ∃ (a : Addr) (kvs : List (Key × V)) (ks : List Str), xs = [.ref a] ∧ Rd H a (.dK kvs) ∧ kvs.map (·.1) = ks.map Sum.inr ∧ ks.length < 64 ∧ ∀ ys p, ys.Perm ks → PyProof.Rows.sortedS ys = true → H p = none → Q (.ref p) (upd H p (.lst (ys.map V.str)))
theorem k_sortedK {X : Cx} (hc : X.calm = true := by rfl) : CallR X (.builtin "sorted") rSortedK := call_sortedD hc
end
end Wk
/-! Wdeal: sum(d.values()), divmod, d[k] += c, xs[i] += c, str(n), zfill, a dict of one's own told -/
namespace L2
open PySem PySem.Spec PyProof.Rows
section
variable {X : Cx}
theorem get_list : PGet X (rIxL X.K) := by
  intro pins s σ H x y v u Q I rx ry h
  obtain ⟨p, xs, i, z, rfl, rfl, hq, he, q⟩ := h
  cases rx
  obtain ⟨t, rfl⟩ := ry
  obtain ⟨its, r, pl, hz⟩ := I.list hq
  obtain ⟨j, h1, h2, h3, h4, h5⟩ := atI_get he
  obtain ⟨w, ew, rw'⟩ := r.get h2
  have hl := r.length
  have hn := line63
  have fin : EP X pins σ Q w s := ⟨z, H, I, rw', q⟩
  by_cases h0 : 0 ≤ i
  · have hj : i.toNat = j := by
      rw [seqIndex_of h0 h5] at h1
      exact Option.some.inj h1
    exact wpAny_getItem_list pl.isList h0 (by omega) (by rw [hj]; simpa using ew) fin
  · have hj : (i + (its.toArray.size : Int)).toNat = j := by
      rw [seqIndex_neg (by omega) h4] at h1
      rw [List.size_toArray, ← hl]
      exact Option.some.inj h1
    exact wpAny_getItem_list_neg pl.isList (by omega) (by rw [List.size_toArray] <;> omega) (by omega) (by rw [hj]; simpa using ew) fin
/-- sum(o.values()), a dict with int values -/
def tSumVals (td : TE) : TE := fun σ H Q => td σ H fun x H1 => ∃ (a : Addr) (kvs : List (Key × V)) (is : List Int), x = V.ref a ∧ Rd H1 a (.dK kvs) ∧ kvs.map (·.2) = is.map V.int ∧ Q (.int is.sum) H1
theorem pre_sum (is : List Int) : ∀ n : Nat, n ≤ is.length → preSum (fun i => is.getD i 0) n = (is.take n).sum
  | 0, _ => rfl
  | n + 1, h => by
    have ih := pre_sum is n (by omega)
    show preSum (fun i => is.getD i 0) n + is.getD n 0 = _
    rw [ih, List.take_succ, List.sum_append, List.getD_eq_getElem?_getD, List.getElem?_eq_getElem (show n < is.length by omega)]
    simp
variable {o : Expr} {p pos apos mpos : Pos} {td : TE}
theorem pe_sumVals (hc : X.calm = true) (hg : Gl X "sum") (hm : X.mg "sum" = none) (hd : PE X o td) (hbase : attributeBase o "values" X.env (eval o X.env) = eval o X.env := by rfl) (hline : (apos.endLine == mpos.line) = true := by rfl)
    (hse : starEach [Expr.Call (.Attribute o "values" apos) [] [] mpos] X.env = [(false, eval (Expr.Call (.Attribute o "values" apos) [] [] mpos) X.env)] := by rfl) :
    PE X (.Call (.Name "sum" p) [.Call (.Attribute o "values" apos) [] [] mpos] [] pos) (tSumVals td) := by
  refine ⟨fun pins s σ H Q I h => ?_⟩
  refine wpAny_Call_Name_kw (ld_blt I hg hm (u := .builtin "sum") (by first | rfl | decide +kernel) ?_ (by first | decide +kernel | decide) (by first | decide +kernel | decide))
  rw [hse]
  refine PySem.callWith_builtin1 (wpAny_Call_method0_late hbase hline (thn (hd.run pins s σ H _ I h) fun v s1 ⟨x, H1, I1, r1, a, kvs, is, ex, ha, hv, q⟩ => ?_))
  subst ex
  obtain rfl : v = Value.ref a := r1
  obtain ⟨_, hsys, vs, rel, dof⟩ := dk_rd I1.hok ha
  obtain ⟨ep, dat⟩ := dof.dictAt
  have dat' := dat
  obtain ⟨ob, es, ho, ex, hdat, hko, hpr, hnd⟩ := dat'
  refine ⟨"dict", "dict.values", F.plainAttrs_dict, F.slot_dict_values, F.type_dict_values, ⟨ob, ho, ex.1⟩, fun b e => ?_, Calls.callWith_builtin rfl (PySem.evalArgs_none ?_)⟩
  · cases e
    exact ⟨ob, ho, ex.2.1⟩
  refine call_meetsIn F.slot_dict_values ⟨ob, ho, ex.1⟩ F.entry_dict_values (F.args_dict_values_1 _) (meets_dict_values (mixKind X.prog X.w) a hsys) ⟨⟨vs, dof⟩, ?_⟩
  have k1 : ∀ b u, s1.heap.get? b = some u → (s1.heap.push { cls := .type "dict_values", data := .fields #[.ref a] }).get? b = some u := fun b u e => Heap.get?_push_of_some _ e
  have dat1 : (s1.heap.push { cls := .type "dict_values", data := .fields #[.ref a] }).DictAt (mixKind X.prog X.w) a vs ep := dat.keep k1
  have hlv : vs.length = is.length := by
    have e1 := congrArg List.length hv
    rw [List.length_map, List.length_map] at e1
    rw [← e1]
    exact (KV.length rel).symm
  have hval : ∀ (i : Nat) (v : Value), (∃ k, vs[i]? = some (k, v)) → ∃ t, v = Value.int (is.getD i 0) t := fun i v ⟨k, hk⟩ => by
    obtain ⟨x, h1, h2⟩ := KV.at' rel hk
    have e1 : (kvs.map (·.2))[i]? = some x := by rw [List.getElem?_map, h1] <;> rfl
    rw [hv, List.getElem?_map] at e1
    obtain ⟨j, hj, e2⟩ := Option.map_eq_some_iff.mp e1
    subst e2
    obtain ⟨t, e3⟩ := h2
    refine ⟨t, ?_⟩
    rw [e3, List.getD_eq_getElem?_getD, hj] <;> rfl
  refine PySem.call_sum_walkAnyS (wpAny_pyIter_values (v := s1.heap.objs.size) (d := a) ⟨_, Heap.get?_push_size _ rfl, rfl, rfl⟩ dat1 ?_)
  have hlt : a < s1.heap.objs.size := Heap.lt_size ho
  have hsz : (s1.heap.push { cls := .type "dict_values", data := .fields #[.ref a] }).objs.size = s1.heap.objs.size + 1 := Heap.size_push _ _
  refine ⟨_, _, _, _, _, _, _, _, rfl, (Walks.dictValues (knd := mixKind X.prog X.w) (A := X.A.in1) (I.ok.hd hc) (s1.heap.push { cls := .type "dict_values", data := .fields #[.ref a] }).objs.size a (by rw [hsz]; exact Nat.ne_of_lt (Nat.lt_succ_of_lt hlt)) vs ep).toS,
    ⟨⟨_, Heap.get?_push_size _ rfl, rfl, rfl⟩, dat1.keep fun b u e => Heap.get?_push_of_some _ e⟩, fun b hb => ?_, hval, fun s' t' hmv => ?_⟩
  · show b < ((s1.heap.push _).push _).objs.size
    rw [Heap.size_push, Heap.size_push]
    rw [hsz] at hb
    rcases List.mem_cons.mp hb with e | hb
    · rw [e]
      exact Nat.lt_succ_self _
    · have e : b = a := List.mem_singleton.mp hb
      rw [e]
      exact Nat.lt_succ_of_lt (Nat.lt_succ_of_lt hlt)
  · have hk : ∀ b u, s1.heap.get? b = some u → s'.heap.get? b = some u := fun b u e => hmv.heap b u (fun hmem => by
      have e1 : b = (s1.heap.push { cls := .type "dict_values", data := .fields #[.ref a] }).objs.size := List.mem_singleton.mp hmem
      have e2 := Heap.lt_size e
      rw [hsz] at e1
      rw [e1] at e2
      exact absurd e2 (Nat.not_lt.mpr (Nat.le_succ _))) (Heap.get?_push_of_some _ (k1 b u e))
    rw [Moved.eq_with hmv]
    have es : preSum (fun i => is.getD i 0) vs.length = is.sum := by
      rw [pre_sum is _ (by omega), hlv, List.take_length]
    refine ⟨.int is.sum, H1, I1.kept (t' := s'.toks) hk, ⟨t', ?_⟩, q⟩
    rw [es]
end
end L2
namespace Wk
open PySem PySem.Spec L2 Evl
theorem leD_total {α : Type} [Rp α] [Pd α] : PySem.W.TotalLe (leD (α := α)) := by
  have h : PySem.W.TotalLe (PySem.W.dataLe false (fun c : α => Pd.toD c)) := by
    unfold PySem.W.dataLe
    exact PySem.W.sortLe_total _ _ _
  exact ⟨fun a b c => h.trans a b c, fun a b => h.total a b⟩
/-- neither less than the other: the same -/
class Ti (α : Type) [Rp α] [Pd α] : Prop where
  ti : ∀ {a b : α}, PySem.W.dataLt (Pd.toD a) (Pd.toD b) = false → PySem.W.dataLt (Pd.toD b) (Pd.toD a) = false → a = b
class Tis (τ : Type) [Tp τ] [Pq τ] : Prop where
  ti : ∀ {a b : τ}, PySem.W.rowLt (Pq.toDs a) (Pq.toDs b) = false → PySem.W.rowLt (Pq.toDs b) (Pq.toDs a) = false → a = b
instance : Ti Int := ⟨fun {a b} h1 h2 => by
  have h1 : PySem.W.dataLt (.int a) (.int b) = false := h1
  have h2 : PySem.W.dataLt (.int b) (.int a) = false := h2
  rw [PySem.W.dataLt_int, decide_eq_false_iff_not] at h1 h2
  omega⟩
instance : Ti Str := ⟨fun {a b} h1 h2 => by
  have h1 : PySem.W.dataLt (.str a) (.str b) = false := h1
  have h2 : PySem.W.dataLt (.str b) (.str a) = false := h2
  rw [PySem.W.dataLt_str, decide_eq_false_iff_not] at h1 h2
  refine PySem.W.str_of_cps ?_
  exact List.le_antisymm (List.not_lt.mp h2) (List.not_lt.mp h1)⟩
instance : Tis Unit := ⟨fun _ _ => rfl⟩
instance {α τ : Type} [Rp α] [Tp τ] [Pd α] [Pq τ] [Al α] [Ti α] [Tis τ] : Tis (α × τ) := ⟨fun {a b} h1 h2 => by
  have h1 : PySem.W.rowLt (Pd.toD a.1 :: Pq.toDs a.2) (Pd.toD b.1 :: Pq.toDs b.2) = false := h1
  have h2 : PySem.W.rowLt (Pd.toD b.1 :: Pq.toDs b.2) (Pd.toD a.1 :: Pq.toDs a.2) = false := h2
  unfold PySem.W.rowLt at h1 h2
  rw [PySem.W.dataLt_cons (Al.al _ _)] at h1 h2
  by_cases e : a.1 = b.1
  · have e1 : PyData.eqv (Pd.toD a.1) (Pd.toD b.1) = true := (Pd.eqd _ _).mpr e
    have e2 : PyData.eqv (Pd.toD b.1) (Pd.toD a.1) = true := (Pd.eqd _ _).mpr e.symm
    rw [if_pos e1] at h1
    rw [if_pos e2] at h2
    exact Prod.ext e (Tis.ti h1 h2)
  · rw [if_neg (fun z => e ((Pd.eqd _ _).mp z))] at h1
    rw [if_neg (fun z => e ((Pd.eqd _ _).mp z).symm)] at h2
    exact absurd (Ti.ti h1 h2) e⟩
instance {α τ : Type} [Rp α] [Tp τ] [Pd α] [Pq τ] [Al α] [Ti α] [Tis τ] : Ti (α × τ) := ⟨fun {a b} h1 h2 => by
  have h1 : PySem.W.dataLt (.tuple (Pq.toDs a)) (.tuple (Pq.toDs b)) = false := h1
  have h2 : PySem.W.dataLt (.tuple (Pq.toDs b)) (.tuple (Pq.toDs a)) = false := h2
  rw [PySem.W.dataLt_tuple] at h1 h2
  exact Tis.ti (τ := α × τ) h1 h2⟩
theorem leD_anti {α : Type} [Rp α] [Pd α] [Ti α] {a b : α} (h1 : leD a b = true) (h2 : leD b a = true) : a = b := by
  have h1 : (!PySem.W.dataLt (Pd.toD b) (Pd.toD a)) = true := h1
  have h2 : (!PySem.W.dataLt (Pd.toD a) (Pd.toD b)) = true := h2
  rw [Bool.not_eq_true'] at h1 h2
  exact Ti.ti h2 h1
theorem srtD_perm {α : Type} [Rp α] [Pd α] (xs : List α) : (srtD xs).Perm xs := List.mergeSort_perm xs _
theorem srtD_pw {α : Type} [Rp α] [Pd α] (xs : List α) : (srtD xs).Pairwise (fun a b => leD a b = true) := List.pairwise_mergeSort (fun a b c => leD_total.trans a b c) (fun a b => by have := leD_total.total a b; simpa using this) xs
theorem srtD_one {α : Type} [Rp α] [Pd α] [Ti α] {xs ys : List α} (p : ys.Perm xs) (s : ys.Pairwise (fun a b => leD a b = true)) : ys = srtD xs :=
  List.Perm.eq_of_pairwise (le := fun a b : α => leD a b = true) (fun a b _ _ h1 h2 => leD_anti h1 h2) s (srtD_pw xs) (p.trans (srtD_perm xs).symm)
theorem leD_str (a b : Str) : leD a b = decide (a.cps.toList ≤ b.cps.toList) := by
  have := congrFun (congrFun (PySem.W.dataLe_str (fun c : Str => c)) a) b
  exact this
theorem sortedS_pw : ∀ (ys : List Str), PyProof.Rows.sortedS ys = true → ys.Pairwise (fun a b => leD a b = true) := by
  have key : ∀ (ys : List Str) (p : Str), PyProof.Rows.risingS p ys = true → (p :: ys).Pairwise (fun a b => leD a b = true) := by
    intro ys
    induction ys with
    | nil => exact fun p _ => List.pairwise_singleton _ _
    | cons y ys ih =>
      intro p h
      have h : (!ltCps y.cps.toList p.cps.toList && PyProof.Rows.risingS y ys) = true := h
      rw [Bool.and_eq_true] at h
      have h2 := ih y h.2
      have h1 : leD p y = true := by
        rw [leD_str, decide_eq_true_eq]
        have := h.1
        rw [PyProof.Rows.ltCps_eq, Bool.not_eq_true', decide_eq_false_iff_not] at this
        exact List.not_lt.mp this
      refine List.pairwise_cons.mpr ⟨fun z hz => ?_, h2⟩
      rcases List.mem_cons.mp hz with rfl | hz
      · exact h1
      · exact leD_total.trans _ _ _ h1 ((List.pairwise_cons.mp h2).1 z hz)
  intro ys h
  match ys, h with
  | [], _ => exact List.Pairwise.nil
  | y :: ys, h => exact key ys y h
/-! rules -/
def skO {β : Type} (d : Dc Str β) : Option (List Str) := if d.l.length < 64 then some (srtD (d.l.map (·.1))) else none
def dmO (a b : Int) : Option (Int × Int × Unit) := if 0 < b ∧ b < 1073741824 then some (a / b, a % b, ()) else none
def strIO (n : Int) : Option Str := if n.natAbs.log2 < 1920 then some ((toString n : String) : Str) else none
def zfO (s : Str) (n : Int) : Option Str := if PadOk n = true then some (Txt.zfill s n) else none
section
variable {K : Fg} {F Kn0 : Hp} {sl sl' : List Sl} {ow ow1 ow2 : List Ow} {α β γ τ : Type} [Rp α] [Rp β] [Rp γ] [Tp τ] {ta : TA} {ta1 tb te ti tk : TE} {D : Ends} {t : TS} {i j : Nat} {p : Addr}
theorem ev_sumVals {d : Dc Str Int} (h : EV K F Kn0 sl ow te d) : EV K F Kn0 sl ow (tSumVals te) (d.l.map (·.2)).sum := fun σ Kn H s Q q => h σ Kn H s _ fun v Kn1 H1 g1 r1 => by
  obtain ⟨p, ws, rfl, h3, h4⟩ := r1
  refine ⟨p, ws, d.l.map (·.2), rfl, rd_ex g1.kh h3, ?_, q _ Kn1 H1 g1 rfl⟩
  unfold DK at h4
  clear h3 q h
  generalize d.l = kvs at h4
  induction h4 with
  | nil => rfl
  | cons r _ ih =>
    rw [List.map_cons, List.map_cons, List.map_cons, ih]
    congr 1
    exact r.2
theorem dk_keys {H : Hp} {ws : List (Key × V)} {kvs : List (Str × β)} (h : DK K H ws kvs) : ws.map (·.1) = (kvs.map (·.1)).map Sum.inr := by
  unfold DK at h
  induction h with
  | nil => rfl
  | cons r _ ih =>
    rw [List.map_cons, List.map_cons, List.map_cons, ih]
    congr 1
    exact r.1
theorem sk_fin {d : Dc Str β} {zs : List Str} (hz : skO d = some zs) {Kn H : Hp} {p : Addr} {ws : List (Key × V)} (ek : Ex Kn H) (hp : Rd H p (.dK ws)) (h4 : DK K Kn ws d.l) {Q : VK} (q : RL K Kn H Q zs) : rSortedK [.ref p] H Q := by
  unfold skO at hz
  split at hz
  case isFalse => cases hz
  rename_i hl
  cases hz
  refine ⟨p, ws, d.l.map (·.1), rfl, hp, dk_keys h4, by rw [List.length_map]; exact hl, fun ys l pm so hl2 => ?_⟩
  have e := srtD_one pm (sortedS_pw ys so)
  subst e
  exact q l _ Kn _ (Gr.newU ek hl2) hl2 (fresh_back ek hl2) upd_same (fl_paired _)
theorem rc_sortK {d : Dc Str β} {zs : List Str} (hz : skO d = some zs) : RCL K rSortedK (d, ()) zs := fun Kn H vs ek hv Q q => by
  obtain ⟨v, rfl, l, ws, rfl, h1, h2⟩ := one_arg hv
  exact sk_fin hz ek (rd_ex ek h1) h2 q
theorem en_sortKO {d : Dc Str β} {zs : List Str} (hi : sl[i]? = some (.at p)) (hj : ow[j]? = some (oo p d)) (hz : skO d = some zs) : EN K F Kn0 sl ow (tCB rSortedK (tCons (tVar i) tNil)) zs := fun σ Kn H s Q q => by
  obtain ⟨o, h1, h2⟩ := s.sl.get hi
  obtain ⟨f1, f2, ob, f3, ws, f4, f5⟩ := s.ow.each _ (List.mem_of_getElem? hj)
  subst f4
  exact ⟨.ref p, by rw [h1]; exact congrArg some h2, sk_fin hz s.ek (Rd.of f3) f5 q⟩
theorem rc_divmod {a b : Int} {r : Int × Int × Unit} (h : dmO a b = some r) : RCV K (fun xs H Q => ∃ i j, xs = [.int i, .int j] ∧ CDiv i j ∧ ∀ p, H p = none → Q (.ref p) (upd H p (.tup [.int (i / j), .int (i % j)]))) (a, b, ()) r := fun Kn H vs ek hv Q q => by
  obtain ⟨v, w, rfl, h1, h2⟩ := two_args hv
  cases h1
  cases h2
  unfold dmO at h
  split at h
  case isFalse => cases h
  rename_i hb
  cases h
  exact ⟨a, b, rfl, hb, fun p hp => q _ _ _ (Gr.new ek hp) ⟨p, _, rfl, upd_same, .int (a / b), _, rfl, rfl, .int (a % b), _, rfl, rfl, rfl⟩⟩
theorem rc_strI {n : Int} {r : Str} (h : strIO n = some r) : RCV K (fun xs H Q => ∃ i, xs = [.int i] ∧ i.natAbs.log2 < 1920 ∧ Q (.str (toString i)) H) (n, ()) r := fun Kn H vs ek hv Q q => by
  obtain ⟨v, rfl, h1⟩ := one_arg hv
  cases h1
  unfold strIO at h
  split at h
  case isFalse => cases h
  rename_i hb
  cases h
  exact ⟨n, rfl, hb, q.fl ek⟩
theorem ev_zfill {x r : Str} {n : Int} (h : EV K F Kn0 sl ow te x) (hn : EV K F Kn0 sl ow tb n) (hz : zfO x n = some r) : EV K F Kn0 sl ow (tBM K "str" (fun x xs H Q => ∃ (a : Str) (i : Int), x = .str a ∧ xs = [.int i] ∧ PadOk i = true ∧ Q (.str (Txt.zfill a i)) H) te (tCons tb tNil)) r := fun σ Kn H s Q q =>
  h σ Kn H s _ fun v Kn1 H1 g1 r1 => by
    cases r1
    refine ⟨rfl, hn σ Kn1 H1 (s.grow g1) _ fun w Kn2 H2 g2 r2 => ?_⟩
    cases r2
    unfold zfO at hz
    split at hz
    case isFalse => cases hz
    rename_i hb
    cases hz
    exact ⟨x, n, rfl, rfl, hb, q _ Kn2 H2 (g1.trans g2) rfl⟩
/-- d[k] += c -/
theorem sb_daug {κ : Type} [Rp κ] [Ky κ] [DecidableEq κ] {d d' : Dc κ Int} {k : κ} {y c : Int} (hi : sl[i]? = some (.at p)) (hj : ow[j]? = some (oo p d)) (hk : EV K F Kn0 sl ow tk k) (hy : getD d.l k = some y) (h : EV K F Kn0 sl ow te c) (hx : putO d k (y + c) = some d') (ho : ow.set j (oo p d') = ow1) (n : SN K F Kn0 sl ow1 D) :
    SB K F Kn0 sl ow D (sDAug (tVar i) tk te L2.rAdd) := fun σ Kn H s => by
  obtain ⟨o, h1, h2⟩ := s.sl.get hi
  refine ⟨.ref p, by rw [h1]; exact congrArg some h2, hk σ Kn H s _ fun w Kn1 H1 g1 r1 => ?_⟩
  have s1 := s.grow g1
  obtain ⟨f1, f2, o1, f3, ws, f4, f5⟩ := s1.ow.each _ (List.mem_of_getElem? hj)
  subst f4
  rcases f5.get k with ⟨q1, q2⟩ | ⟨y2, w2, q1, q2, q3⟩
  · rw [q1] at hy
    cases hy
  · rw [q1] at hy
    cases hy
    refine ⟨p, w2, rfl, q2 ▸ Ky.get r1 s1.ek (Rd.of f3), h σ Kn1 H1 s1 _ fun u Kn2 H2 g2 r2 => ?_⟩
    cases r2
    cases q3
    refine ⟨y, c, rfl, rfl, ?_⟩
    have s2 := s1.grow g2
    have f3' : H2 p = some (Ky.ho ws) := g2.hh _ _ f3
    have f2' : Kn2 p = none := g2.sp p (ne_none_of f3) f2
    unfold putO at hx
    split at hx
    case isFalse => cases hx
    rename_i hl
    cases hx
    subst ho
    refine ⟨_, Ky.put (Rp.mono g2.kk r1) s2.ek f3' (by rw [f5.length]; exact lt_line hl), n _ Kn2 _ ?_⟩
    exact s2.writeG hj rfl rfl (Ex.refl _) (upd_in s2.ek f2') (fun q hq _ => upd_ne hq) (fun _ _ h => h) ⟨_, upd_same, _, rfl, DK.put k rfl (DK.mono g2.kk f5)⟩
/-- xs[n] += c -/
theorem sb_augI {xs xs' : List Int} {n a c : Int} {f : Int → Int → Int} (hi : sl[i]? = some (.at p)) (hj : ow[j]? = some (ol p xs)) (hn : EV K F Kn0 sl ow ti n) (ha : atI xs n = some a) (h : EV K F Kn0 sl ow te c) (hx : setI xs n (f a c) = some xs') (ho : ow.set j (ol p xs') = ow1) (k : SN K F Kn0 sl ow1 D) :
    SB K F Kn0 sl ow D (tAugS (tVar i) ti te (rIxL K) (ipI f) rSetL) := fun σ Kn H s => by
  obtain ⟨o, h1, h2⟩ := s.sl.get hi
  refine ⟨.ref p, by rw [h1]; exact congrArg some h2, hn σ Kn H s _ fun w Kn1 H1 g1 r1 => ?_⟩
  cases r1
  have s1 := s.grow g1
  obtain ⟨f1, f2, ws, f3, f4⟩ := s1.ow.each _ (List.mem_of_getElem? hj)
  obtain ⟨u, e, r⟩ := paired_atI f4 ha
  cases r
  refine ⟨p, ws, n, _, rfl, rfl, sq_of f3, e, h σ Kn1 H1 s1 _ fun v Kn2 H2 g2 r2 => ?_⟩
  cases r2
  refine ⟨a, c, rfl, rfl, ?_⟩
  have s2 := s1.grow g2
  have f3' : H2 p = some (.lst ws) := g2.hh _ _ f3
  have f2' : Kn2 p = none := g2.sp p (ne_none_of f3) f2
  unfold setI at hx
  cases em : ixN xs.length n with
  | none => rw [em] at hx; cases hx
  | some m =>
    rw [em] at hx
    cases hx
    subst ho
    refine ⟨p, ws, n, m, rfl, rfl, f3', by rw [paired_len f4]; exact em, k _ Kn2 _ ?_⟩
    exact s2.write hj (Ex.refl _) (upd_in s2.ek f2') (fun q hq _ => upd_ne hq) (fun _ _ h => h) upd_same (paired_set (show rep K Kn2 (V.int (f a c)) (f a c) from rfl) m (paired_mono g2.kk f4))
/-- a dict of one's own: from now on it is known and stays as it is -/
theorem sb_freezeG {κ : Type} [Rp κ] [Ky κ] [DecidableEq κ] {d : Dc κ β} (hi : sl[i]? = some (.at p)) (hj : ow[j]? = some (oo p d)) (hs : sl.set i (sv d) = sl') (ho : ow.eraseIdx j = ow1) (k : SB K F Kn0 sl' ow1 D t) : SB K F Kn0 sl ow D t := fun σ Kn H s => by
  obtain ⟨ob, kp, hp, s1⟩ := s.borrowG hi hj
  subst hs
  subst ho
  exact k σ _ H s1
theorem k_listGet {X : Cx} (h : X.K = K := by rfl) : PGet X (rIxL K) := h ▸ get_list
end
end Wk
namespace Wk
open PySem PySem.Spec L2 Evl
section
variable {X : Cx} {o i value : Expr} {tpos tpos' : Pos} {td ty tv : TE}
theorem k_daug (hu : X.A.units + 64 < cLine) (ho : PE X o td) (hi : PE X i ty) (hv : PE X value tv) (ha : ∀ ov iv new, augStore i ov iv new = (do holding [new, ov, iv] (setItem ov iv new); release [new, ov, iv] []; pure .next)) : PS X (.AugAssign (.Subscript o i tpos) .Add value tpos') (sDAug td ty tv L2.rAdd) := ps_daug (by omega) ho hi hv in_add ha
end
end Wk
/-! Wupd: dict(pairs) and d.update(d2) with tuple keys. -/
namespace L2
open PySem PySem.Spec PyProof.Rows
def mergeT (kvs more : List (List Key × V)) : List (List Key × V) := more.foldl (fun acc kv => putK acc kv.1 kv.2) kvs
theorem length_mergeT : ∀ (more kvs : List (List Key × V)), (mergeT kvs more).length ≤ kvs.length + more.length
  | [], kvs => Nat.le_refl _
  | p :: r, kvs => by
    have h1 := length_mergeT r (putK kvs p.1 p.2)
    have h2 := length_putK kvs p.1 p.2
    show (mergeT (putK kvs p.1 p.2) r).length ≤ _
    rw [List.length_cons]
    omega
theorem KT.merge {H : Hp} : ∀ {more : List (List Key × V)} {ms : List (List Key × Addr × Value)} {kvs : List (List Key × V)} {xs : List (List Key × Addr × Value)}, KT H more ms → KT H kvs xs → KT H (mergeT kvs more) (storedAllH xs ms) := by
  intro more ms kvs xs r
  unfold KT at r
  induction r generalizing kvs xs with
  | nil => intro q; exact q
  | @cons p q ps qs h t ih =>
    intro r0
    have e : KT H (putK kvs p.1 p.2) (storedH xs q.1 q.2.1 q.2.2) := by
      have := r0.put p.1 h.2.1 h.2.2
      rw [← h.1]
      exact this
    exact ih e
section
variable {X : Cx} {pins : List (Addr × Obj)} {σ : St} {H : Hp} {s : Shared}
theorem pairsT_of (I : Inv X pins σ H s) : ∀ {ps : List Addr} {kvs : List (List Key × V)}, Paired (fun p kv => ∃ b, SqT X.K H p [.ref b, kv.2] ∧ H b = some (.tup (kv.1.map kV))) ps kvs →
    ∃ ms : List (List Key × Addr × Value), KT H kvs ms ∧ ms.length = ps.length ∧ ∀ (j : Nat) (m : List Key × Addr × Value), ms[j]? = some m → ∃ p : Addr, ps[j]? = some p ∧ IsTup s.heap p #[.ref m.2.1, m.2.2]
  | _, _, .nil => ⟨[], .nil, rfl, fun j q e => by simp at e⟩
  | _, _, .cons (a := p) (b := kv) h t => by
    obtain ⟨ms, r, hl, hp⟩ := pairsT_of I t
    obtain ⟨b, h1, h2⟩ := h
    obtain ⟨its, rv, ht, _⟩ := I.tuple h1
    obtain ⟨u, y, ei, ru, ry⟩ := vals2 rv
    subst ei
    cases ru
    refine ⟨(kv.1, b, y) :: ms, .cons ⟨rfl, h2, ry⟩ r, by rw [List.length_cons, List.length_cons, hl], fun j m e => ?_⟩
    cases j with
    | zero =>
      have e' : (kv.1, b, y) = m := Option.some.inj e
      subst e'
      exact ⟨p, rfl, ht⟩
    | succ j =>
      obtain ⟨p', e1, e2⟩ := hp j m (by simpa using e)
      exact ⟨p', by simpa using e1, e2⟩
theorem KT.is_all (I : Inv X pins σ H s) : ∀ {kvs : List (List Key × V)} {ms : List (List Key × Addr × Value)}, KT H kvs ms → ∀ x ∈ ms, (tupleKind (mixKind X.prog X.w)).is s.heap x.1 x.2.1 := by
  intro kvs ms q
  unfold KT at q
  induction q with
  | nil => intro x hx; exact nomatch hx
  | @cons p q ps qs hq t ih =>
    intro x hx
    rcases List.mem_cons.mp hx with e | hx
    · subst e
      exact key_of I.hok (by rw [← hq.1]; exact hq.2.1)
    · exact ih x hx
theorem key_stays {P : Program} {w : World} {h h' : Heap} {k : List Key} {b : Addr} (x : (tupleKind (mixKind P w)).is h k b) (e : ∀ o, h.get? b = some o → h'.get? b = some o) : (tupleKind (mixKind P w)).is h' k b := by
  obtain ⟨o, its, n, h1, h2, h3, h4⟩ := x
  exact ⟨o, its, n, e _ h1, h2, h3, h4⟩
theorem key_there {P : Program} {w : World} {h : Heap} {k : List Key} {b : Addr} (x : (tupleKind (mixKind P w)).is h k b) : b < h.objs.size := by
  obtain ⟨o, its, n, h1, h2, h3, h4⟩ := x
  exact Heap.lt_size h1
end
section
variable {X : Cx}
/-- dict(xs), xs a list of pairs whose keys are tuples -/
def rDictT (K : PySem.W.Frag) : List V → Hp → VK → Prop := fun xs H Q => ∃ (a : Addr) (ps : List Addr) (kvs : List (List Key × V)), xs = [.ref a] ∧ SqL K H a (ps.map V.ref) ∧ Paired (fun p kv => ∃ b, SqT K H p [.ref b, kv.2] ∧ H b = some (.tup (kv.1.map kV))) ps kvs ∧
    ∀ p, H p = none → Q (.ref p) (upd H p (.dT (mergeT [] kvs)))
theorem cr_dictT (hcalm : X.calm = true) (hu : X.A.units + 64 < cLine) : CallR X (.type "dict") (rDictT X.K) := by
  intro pins s σ H xs us Q I r q
  obtain ⟨a, ps, kvs, ex, hq, hp, q⟩ := q
  subst ex
  rw [Vals.ref1 r]
  obtain ⟨its, rv, pl, hz⟩ := I.list hq
  have ei := refs_at rv
  subst ei
  rw [List.length_map] at hz
  obtain ⟨ms, rel, hl, hpr⟩ := pairsT_of I hp
  obtain ⟨o, n, ho, hc, hd, hdat⟩ := pl
  have hall := KT.is_all I rel
  have hprs : (ms.map fun m => ((Value.ref m.2.1, m.2.2) : Value × Value)).length = ms.length := List.length_map _
  refine call_dict_pairsH (knd := tupleKind (mixKind X.prog X.w)) (ps := ms) (PairArg.list a (ps.map Value.ref).toArray (fun j => ps.getD j 0) (ms.map fun m => ((Value.ref m.2.1, m.2.2) : Value × Value))) (I.ok.hd hcalm)
    (show X.A.units + 1 + 1 < cLine by omega) ⟨⟨o, n, ho, hc, hd, hdat⟩, by simp [hl], fun j k v e => ?_⟩ ⟨by rw [hprs], fun i key v e => ?_⟩ (fun h' hk x hx => ?_) (by rw [hprs, hl]; exact hz) fun h' tk dd' k => ?_
  · rw [List.getElem?_map] at e
    cases em : ms[j]? with
    | none => rw [em] at e; cases e
    | some m =>
      rw [em] at e
      cases e
      obtain ⟨p, e1, e2⟩ := hpr j m em
      have eg : ps.getD j 0 = p := by rw [List.getD_eq_getElem?_getD, e1]; rfl
      refine ⟨by simp [e1], ?_⟩
      show PairAt s.heap (ps.getD j 0) _ _
      rw [eg]
      exact .inl e2
  · have e : (ms.map fun m => ((Value.ref m.2.1, m.2.2) : Value × Value))[i]? = some (key, v) := e
    rw [List.getElem?_map] at e
    cases em : ms[i]? with
    | none => rw [em] at e; cases e
    | some m =>
      rw [em] at e
      cases e
      exact ⟨m.1, m.2.1, rfl, rfl⟩
  · exact key_stays (hall x hx) fun o e => hk _ o (Nat.ne_of_lt (key_there (hall x hx))) (by simp) e
  · have hm : (s.heap.objs.size == sysModules) = false := beq_eq_false_iff_ne.mpr (Nat.ne_of_gt I.big)
    have hlen : (mergeT [] kvs).length ≤ sizeLine := by
      refine Nat.le_trans (length_mergeT kvs []) ?_
      rw [List.length_nil, Nat.zero_add, Paired.length rel, hl]
      exact hz
    have hf : H s.heap.objs.size = none := I.hok.fresh (Nat.le_refl _)
    obtain ⟨ob, es, ep, hq2, h2, h3, h4, _, h5⟩ := dd'
    have rel2 : KT (upd H s.heap.objs.size (.dT (mergeT [] kvs))) (mergeT [] kvs) (storedAllH [] ms) := (KT.merge rel .nil).keeps fun b ys e => by
      rw [upd_ne (ne_of_none e hf)]
      exact e
    exact ⟨.ref s.heap.objs.size, upd H s.heap.objs.size (.dT (mergeT [] kvs)), I.laid (t' := tk) (fun b o e => k b o (by simp) e) (Nat.le_refl _) ⟨hlen, hm, _, rel2, ob, es, ep, hq2, h2, h3, h4, h5⟩, rfl, q _ hf⟩
/-- d.update(d2), both with tuple keys -/
def rUpdT (P : Program) (w : World) : V → List V → Hp → VK → Prop := fun x xs H Q => ∃ (a o : Addr) (kvs more : List (List Key × V)), x = .ref a ∧ xs = [.ref o] ∧ H a = some (.dT kvs) ∧ H o = some (.dT more) ∧ a ≠ o ∧ kvs.length + more.length ≤ sizeLine ∧
  (kvs ≠ [] ∨ (more.map fun kv => tupleKeyHash (mixKind P w) kv.1).Nodup) ∧ Q .non (upd H a (.dT (mergeT kvs more)))
theorem mt_updT (hu : X.A.units + 64 < cLine) : MtR X "dict.update" (rUpdT X.prog X.w) := by
  intro pins s σ H x xs v us Q I rx rxs h
  obtain ⟨a, o, kvs, more, rfl, rfl, ha, ho, hao, hsz, hap, q⟩ := h
  cases rx
  rw [Vals.ref1 rxs]
  obtain ⟨z1, hd1, xs1, rel1, dd1⟩ := dt_of I.hok ha
  obtain ⟨z2, hd2, xs2, rel2, dd2⟩ := dt_of I.hok ho
  have l1 := Paired.length rel1
  have l2 := Paired.length rel2
  have hall := KT.is_all I rel2
  refine call_update_dictH (knd := tupleKind (mixKind X.prog X.w)) (show X.A.units + 1 < cLine by omega) hao hd2 dd1 dd2 ?_ (by rw [← l1, ← l2]; exact hsz) fun h' dd' _ hs => ?_
  · rcases hap with h | h
    · refine .inl fun e => h ?_
      rw [e] at l1
      exact List.length_eq_zero_iff.mp l1
    · refine .inr ⟨fun x hx => IsTupleKey.typeIs (hall x hx), ?_⟩
      have e : xs2.map (fun x => (tupleKind (mixKind X.prog X.w)).hash x.1) = more.map fun kv => tupleKeyHash (mixKind X.prog X.w) kv.1 := by
        clear h hsz l1 l2 hall dd2 ho q z2
        unfold KT at rel2
        induction rel2 with
        | nil => rfl
        | cons h t ih =>
          rw [List.map_cons, List.map_cons, ih, h.1]
          rfl
      rw [e]
      exact h
  · have hlen : (mergeT kvs more).length ≤ sizeLine := Nat.le_trans (length_mergeT more kvs) hsz
    obtain ⟨ob, es, ep, hq2, h2, h3, h4, _, h5⟩ := dd'
    have rel3 : KT (upd H a (.dT (mergeT kvs more))) (mergeT kvs more) (storedAllH xs1 xs2) := (KT.merge rel2 rel1).keeps fun c ys ec => by
      rw [upd_ne (ne_of ec ha (fun z => nomatch z))]
      exact ec
    exact ⟨.non, upd H a (.dT (mergeT kvs more)), d_write (ob := .dT (mergeT kvs more)) (t' := s.toks) I (by rw [ha]; exact True.intro) hs ⟨ob, hq2⟩ ⟨hlen, hd1, _, rel3, ob, es, ep, hq2, h2, h3, h4, h5⟩, rfl, q⟩
end
end L2
namespace Wk
open PySem PySem.Spec L2 Evl
abbrev C2 := Int × Int × Unit
def hash2 (x : C2) : Int := reduceHash (Builtin.Tuple.tupleHashOf [hashInt x.1, hashInt x.2.1])
def prs {β : Type} (more : List (C2 × β × Unit)) : List (C2 × β) := more.map fun t => (t.1, t.2.1)
open Classical in
noncomputable def updO {β : Type} (d : Dc C2 β) (more : List (C2 × β × Unit)) : Option (Dc C2 β) :=
  if d.l.length + more.length ≤ 900000 ∧ (d.l ≠ [] ∨ ((mergeD [] (prs more)).map fun t => hash2 t.1).Nodup) then some ⟨mergeD d.l (mergeD [] (prs more))⟩ else none
section
variable {K : Fg} {F Kn0 : Hp} {sl : List Sl} {ow ow1 : List Ow} {β : Type} [Rp β] {te : TE} {D : Ends} {i j : Nat} {p : Addr} {P : Program} {w : World}
theorem prs_of {Kn H : Hp} (e : Ex Kn H) : ∀ {vs : List V} {more : List (C2 × β × Unit)}, Paired (rep K Kn) vs more → ∃ (ps : List Addr) (kvs : List (List Key × V)), vs = ps.map V.ref ∧
    Paired (fun p kv => ∃ b, SqT K H p [.ref b, kv.2] ∧ H b = some (.tup (kv.1.map kV))) ps kvs ∧ DK (κ := C2) K Kn kvs (prs more)
  | _, _, .nil => ⟨[], [], rfl, .nil, .nil⟩
  | _, _, .cons (a := v) (b := t) h r => by
    obtain ⟨ps, kvs, e1, e2, e3⟩ := prs_of e r
    obtain ⟨q, ws, rfl, hq, kv, rest, rfl, hk, yv, rest2, rfl, hy, hu⟩ := h
    cases hu
    obtain ⟨b, us, rfl, hb, h3⟩ := hk
    have hus : us = (KT1.keys t.1).map kV := KT1.iff (τ := C2) h3
    subst hus
    refine ⟨q :: ps, (KT1.keys t.1, yv) :: kvs, by rw [e1]; rfl, .cons ⟨b, st_of (e _ _ hq), e _ _ hb⟩ e2, .cons ⟨rfl, hy⟩ e3⟩
theorem DK.mergeT {Kn : Hp} : ∀ {ms : List (List Key × V)} {more : List (C2 × β)} {ws : List (List Key × V)} {kvs : List (C2 × β)}, DK (κ := C2) K Kn ms more → DK (κ := C2) K Kn ws kvs → DK (κ := C2) K Kn (L2.mergeT ws ms) (mergeD kvs more) := by
  intro ms more ws kvs h
  unfold DK at h
  induction h generalizing ws kvs with
  | nil => exact fun h => h
  | @cons w kv ms more h t ih =>
    intro q
    refine ih ?_
    show DK (κ := C2) K Kn (putK ws w.1 w.2) (putD kvs kv.1 kv.2)
    rw [h.1]
    exact DK.put kv.1 h.2 q
theorem DK.hash {Kn : Hp} : ∀ {ms : List (List Key × V)} {more : List (C2 × β)}, DK (κ := C2) K Kn ms more → (ms.map fun kv => tupleKeyHash (mixKind P w) kv.1) = more.map fun t => hash2 t.1 := by
  intro ms more h
  unfold DK at h
  induction h with
  | nil => rfl
  | cons h t ih =>
    rw [List.map_cons, List.map_cons, ih, h.1]
    rfl
theorem sb_upd {d d' : Dc C2 β} {more : List (C2 × β × Unit)} (hi : sl[i]? = some (.at p)) (hj : ow[j]? = some (oo p d)) (h : EV K F Kn0 sl ow te more) (hx : updO d more = some d') (ho : ow.set j (oo p d') = ow1) (n : SN K F Kn0 sl ow1 D) :
    SB K F Kn0 sl ow D (tDrop (tBM K "dict" (rUpdT P w) (tVar i) (tCons (tCB (rDictT K) (tCons te tNil)) tNil))) := fun σ Kn H s => by
  obtain ⟨o, h1, h2⟩ := s.sl.get hi
  obtain ⟨f1, f2, o1, f3, ws, f4, f5⟩ := s.ow.each _ (List.mem_of_getElem? hj)
  subst f4
  have f3 : H p = some (.dT ws) := f3
  unfold updO at hx
  split at hx
  · case isTrue hc =>
    cases hx
    subst ho
    refine ⟨.ref p, by rw [h1]; exact congrArg some h2, .inr (.inr (.inl ⟨rfl, .inr ⟨ws, f3⟩⟩)), h σ Kn H s _ fun v Kn1 H1 g1 r1 => ?_⟩
    obtain ⟨a, vs, rfl, ha, hv⟩ := r1
    obtain ⟨ps, kvs, rfl, e2, e3⟩ := prs_of g1.kh hv
    refine ⟨a, ps, kvs, rfl, sq_of (g1.kh _ _ ha), e2, fun p2 hp2 => ?_⟩
    have s1 := s.grow g1
    have g2 : Gr Kn1 H1 Kn1 (upd H1 p2 (.dT (L2.mergeT [] kvs))) := Gr.newU g1.kh hp2
    have s2 := s1.grow g2
    have hp1 : H1 p = some (.dT ws) := g1.hh _ _ f3
    have hne : p ≠ p2 := fun z => by
      rw [z, hp2] at hp1
      cases hp1
    have hH2 : (upd H1 p2 (.dT (L2.mergeT [] kvs))) p = some (.dT ws) := by
      rw [upd_ne hne]
      exact hp1
    have f6 : DK (κ := C2) K Kn1 ws d.l := DK.mono g1.kk f5
    have e4 : DK (κ := C2) K Kn1 (L2.mergeT [] kvs) (mergeD [] (prs more)) := DK.mergeT e3 .nil
    have l1 : ws.length = d.l.length := f6.length
    have l2 : kvs.length = more.length := by
      rw [e3.length]
      exact List.length_map _
    have l3 := length_mergeT kvs []
    rw [List.length_nil] at l3
    have kp : Kn1 p = none := g1.sp p (ne_none_of f3) f2
    refine ⟨p, p2, ws, L2.mergeT [] kvs, rfl, rfl, hH2, upd_same, hne, ?_, ?_, n _ Kn1 _ ?_⟩
    · have hs : sizeLine ≥ 1000000 := by rw [sizeLine_eq]; decide
      omega
    · rcases hc.2 with hc | hc
      · refine .inl fun z => hc ?_
        rw [z] at l1
        exact List.length_eq_zero_iff.mp l1.symm
      · refine .inr ?_
        rw [DK.hash e4]
        exact hc
    · exact s2.writeG hj rfl rfl (Ex.refl _) (upd_in s2.ek kp) (fun q hq _ => upd_ne hq) (fun _ _ h => h) ⟨_, upd_same, _, rfl, DK.mergeT e4 f6⟩
  · cases hx
end
section
variable {X : Cx} {K : Fg} {P : Program} {w : World}
theorem k_dictT (hu : X.A.units + 64 < cLine) (hc : X.calm = true := by rfl) (h : X.K = K := by rfl) : CallR X (.type "dict") (rDictT K) := by
  subst h
  exact cr_dictT hc hu
theorem k_updT (hu : X.A.units + 64 < cLine) (h : X.prog = P := by rfl) (hw : X.w = w := by rfl) : MtR X "dict.update" (rUpdT P w) := by
  subst h
  subst hw
  exact mt_updT hu
end
end Wk
namespace Wk
open PySem PySem.Spec L2 Evl
/-- a list with a None put behind -/
structure Nx (α : Type) where
  l : List α
section
variable {K : Fg} {F Kn0 : Hp} {sl : List Sl} {ow ow1 : List Ow} {α γ : Type} [Rp α] [Rp γ] {te : TE} {D : Ends} {i j : Nat} {p : Addr}
instance obNx : Ob (Nx α) where
  ob K H o x := ∃ ws, o = .lst (ws ++ [.non]) ∧ Paired (rep K H) ws x.l
  swap e h := by
    obtain ⟨ws, h1, h2⟩ := h
    exact ⟨ws, h1, paired_swap e h2⟩
theorem sb_appN {xs : List α} (hi : sl[i]? = some (.at p)) (hj : ow[j]? = some (ol p xs)) (h : EV K F Kn0 sl ow te Nn.nn) (hz : (if xs.length < 1000000 then some () else none) = some ()) (ho : ow.set j (oo p (Nx.mk xs)) = ow1) (k : SN K F Kn0 sl ow1 D) :
    SB K F Kn0 sl ow D (tDrop (tBM K "list" rAppend (tVar i) (tCons te tNil))) := fun σ Kn H s => by
  obtain ⟨o, h1, h2⟩ := s.sl.get hi
  obtain ⟨f1, f2, ws, f3, f4⟩ := s.ow.each _ (List.mem_of_getElem? hj)
  have hz : xs.length < 1000000 := by
    by_cases e : xs.length < 1000000
    · exact e
    · rw [if_neg e] at hz
      cases hz
  refine ⟨.ref p, by rw [h1]; exact congrArg some h2, Or.inl ⟨rfl, ws, sq_of f3⟩, h σ Kn H s _ fun v Kn1 H1 g1 r1 => ?_⟩
  cases r1
  refine ⟨p, ws, .non, rfl, rfl, g1.hh _ _ f3, by rw [paired_len f4]; exact lt_line hz, k _ Kn1 _ ?_⟩
  have kp1 : Kn1 p = none := g1.sp p (ne_none_of f3) f2
  subst ho
  exact (s.grow g1).writeG hj rfl rfl (Ex.refl _) (upd_in g1.kh kp1) (fun q hq _ => upd_ne hq) (fun _ _ h => h) ⟨_, upd_same, ws, rfl, paired_mono g1.kk f4⟩
theorem cut_snoc (ws : List V) (v : V) : cut (ws ++ [v]) none (some (-(1 : Int))) = ws := by
  unfold cut
  rw [HT.sIx_none, List.drop_zero, Nat.sub_zero]
  have e : HT.sIx (ws ++ [v]).length (ws ++ [v]).length (some (-(1 : Int))) = (-(1 : Int) + ((ws ++ [v]).length : Int)).toNat := rfl
  rw [e, List.length_append, List.length_singleton, show (-(1 : Int) + ((ws.length + 1 : Nat) : Int)).toNat = ws.length by omega]
  exact List.take_left
theorem en_slN {xs : List α} {tl th : TO} (hx : sl[i]? = some (.at p)) (hj : ow[j]? = some (oo p (Nx.mk xs))) (hl : EO K F Kn0 sl ow tl none) (hh : EO K F Kn0 sl ow th (some (-(1 : Int)))) : EN K F Kn0 sl ow (tSl (rSlL K) (tVar i) tl th) xs := fun σ Kn H s Q q => by
  obtain ⟨o, h1, h2⟩ := s.sl.get hx
  obtain ⟨f1, f2, o1, f3, ws, f4, f5⟩ := s.ow.each _ (List.mem_of_getElem? hj)
  subst f4
  have f3 : H p = some (.lst (ws ++ [.non])) := f3
  refine ⟨.ref p, by rw [h1]; exact congrArg some h2, hl σ Kn H s _ fun Kn2 H2 g2 => hh σ Kn2 H2 (s.grow g2) _ fun Kn3 H3 g3 => ?_⟩
  have g := g2.trans g3
  refine ⟨p, ws ++ [.non], rfl, sq_of (g.hh _ _ f3), fun l hl => ?_⟩
  have e : cutV (ws ++ [V.non]) none (some (-(1 : Int))) = ws := cut_snoc ws .non
  exact q l _ Kn3 _ (g.trans (Gr.newU g3.kh hl)) (fresh_back g.hh hl) (fresh_back g3.kh hl) upd_same (by rw [e]; exact paired_mono g.kk f5)
end
end Wk
namespace Wk
open PySem PySem.Spec L2 Evl
/-- more is untouched -/
def Fle (F F' : Hp) : Prop := Ex F F'
section
variable {K : Fg} {F F' Kn0 : Hp} {sl sl' : List Sl} {ow ow0 ow1 : List Ow} {α γ : Type} [Rp α] [Rp γ] {D : Ends} {i j : Nat} {p : Addr}
theorem S.back {σ : L2.St} {Kn H : Hp} (f : Fle F F') (s : S K F' Kn0 sl ow σ Kn H) : S K F Kn0 sl ow σ Kn H :=
  ⟨s.e0, s.ek, Ex.trans f s.ef, fun q h1 h2 => s.sep q (Ex.nn f h1) h2, s.sl, ⟨fun o ho => by
    obtain ⟨h1, h2, h3⟩ := s.ow.each o ho
    exact ⟨fresh_back f h1, h2, h3⟩, s.ow.nd⟩⟩
theorem RT.fr {R : VK} {x : γ} (f : Fle F F') (q : RT K F Kn0 ow0 R x) : RT K F' Kn0 ow0 R x := fun v Kn H s r => q v Kn H (s.back f) r
theorem RN.fr {R : VK} {xs : List γ} (f : Fle F F') (q : RN K F Kn0 ow0 R xs) : RN K F' Kn0 ow0 R xs := fun p ws Kn H s fp kp hp r => q p ws Kn H (s.back f) (fresh_back f fp) kp hp r
/-- for x in xs, xs one's own, not touched on the way and one's own behind it -/
theorem sb_forO {g : TG} {tb : TS} {Sx : Type} {xs : List α} (hi : sl[i]? = some (.at p)) (hj : ow[j]? = some (ol p xs)) (ho : ow.eraseIdx j = ow1)
    (slx : Sx → List Sl) (owx : Sx → List Ow) (gx : α → Sx → List Sl) (js : List Nat) (P : List α → Sx → Prop) (s0 : Sx) (h0 : P xs s0) (le : SlLe sl (slx s0)) (eo : (owx s0).Sublist ow1)
    (hg : ∀ x s, GT K g (slx s) (gx x s) js x)
    (step : ∀ F', Fle F F' → ∀ Kn1, Bs F' Kn0 Kn1 → ∀ x rest s, P (x :: rest) s → ∀ N : L2.St → Hp → Prop, (∀ s', P rest s' → ∀ σ Kn H, S K F' Kn1 (slx s') (owx s') σ Kn H → N σ H) → SB K F' Kn1 (gx x s) (owx s) { D with nx := N, ct := N, bk := D.nx } tb)
    (done : ∀ s, P [] s → SN K F Kn0 (slx s) (ol p xs :: owx s) D) : SB K F Kn0 sl ow D (tFor (iList K (tVar i)) g tb) := fun σ Kn H s => by
  obtain ⟨o, h1, h2⟩ := s.sl.get hi
  obtain ⟨f1, f2, ws, f3, f4⟩ := s.ow.each _ (List.mem_of_getElem? hj)
  have f1 : F p = none := f1
  have f2 : Kn p = none := f2
  have fl : Fle F (upd F p (.lst ws)) := Ex.new f1
  have s1 := s.sub (List.eraseIdx_sublist ow j)
  have no : ∀ o ∈ ow.eraseIdx j, o.ad ≠ p := fun o hm z => by
    obtain ⟨m, hm'⟩ := List.getElem?_of_mem hm
    rw [List.getElem?_eraseIdx] at hm'
    split at hm'
    · have := ow_at s.ow.nd hm' hj z
      omega
    · have := ow_at s.ow.nd hm' hj z
      omega
  have s2 : S K (upd F p (.lst ws)) Kn0 sl (ow.eraseIdx j) σ Kn H := ⟨s1.e0, s1.ek, fun a u h => by
    by_cases hq : a = p
    · subst hq
      rw [upd_same] at h
      rw [← h]
      exact f3
    · rw [upd_ne hq] at h
      exact s1.ef _ _ h, fun q h1 h2 => by
    by_cases hq : q = p
    · rw [hq]
      exact f2
    · rw [upd_ne hq] at h1
      exact s1.sep q h1 h2, s1.sl, ⟨fun o ho => by
        obtain ⟨a1, a2, a3⟩ := s1.ow.each o ho
        refine ⟨?_, a2, a3⟩
        rw [upd_ne (no o ho)]
        exact a1, s1.ow.nd⟩⟩
  have b : Bs (upd F p (.lst ws)) Kn0 Kn := s2.bs
  refine ⟨.ref p, by rw [h1]; exact congrArg some h2, p, rfl, ⟨ws, sq_of f3⟩, ?_⟩
  refine ⟨fun i m σ H => i + m = xs.length ∧ ∃ Kn2 s, P (xs.drop i) s ∧ S K (upd F p (.lst ws)) Kn (slx s) (owx s) σ Kn2 H, ⟨xs.length, by omega, Kn, s0, h0, (s2.rebase.le le).sub (ho ▸ eo)⟩, fun i m σ H hW => ?_⟩
  obtain ⟨em, Kn2, st, hP, hS⟩ := hW
  have hp2 : H p = some (.lst ws) := hS.ef _ _ upd_same
  have f5 : Paired (rep K Kn2) ws xs := paired_mono hS.e0 f4
  by_cases hlt : i < xs.length
  · have hx : xs[i]? = some xs[i] := List.getElem?_eq_getElem hlt
    have hd : xs.drop i = xs[i] :: xs.drop (i + 1) := List.drop_eq_getElem_cons hlt
    rw [hd] at hP
    obtain ⟨v, hv, rv⟩ := paired_at f5 hx
    refine .inr ⟨⟨ws, v, sq_of hp2, hv⟩, fun σ' H' => ∃ Kn2 s, P (xs.drop (i + 1)) s ∧ S K (upd F p (.lst ws)) Kn (slx s) (owx s) σ' Kn2 H', fun σ' H' ⟨Kn', s', h1, h2⟩ => ⟨m - 1, by omega, by omega, Kn', s', h1, h2⟩, fun u H' hy => ?_⟩
    obtain ⟨rfl, f⟩ := hy
    have : v = u := Option.some.inj (hv.symm.trans (f ws (sq_of hp2)))
    subst this
    refine hg _ st σ Kn2 H' v hS.sl hS.ek rv _ fun σ2 h2 _ => ?_
    exact step _ fl Kn b _ _ st hP _ (fun s' hs' σ Kn2 H hS' => ⟨Kn2, s', hs', hS'⟩) σ2 Kn2 H' ⟨hS.e0, hS.ek, hS.ef, hS.sep, h2, hS.ow⟩
  · have hd : xs.drop i = [] := List.drop_eq_nil_of_le (by omega)
    rw [hd] at hP
    refine .inl ⟨⟨ws, sq_of hp2, by rw [paired_len f5]; omega⟩, done st hP σ Kn2 H ?_⟩
    have s3 := (hS.unbase b).back fl
    refine s3.own f1 (hS.sep p (by rw [upd_same]; exact fun z => nomatch z) f2) (fun o ho z => ?_) hp2 f5
    have := (hS.ow.each o ho).1
    rw [z, upd_same] at this
    cases this
end
end Wk
/-! Wpair: a def that tells two new lists in a tuple; a comprehension over a list of one's own -/
namespace Wk
open PySem PySem.Spec L2 Evl
structure PairAt {α β : Type} [Rp α] [Rp β] (K : Fg) (Kn H : Hp) (pt p1 p2 : Addr) (xs : List α) (ys : List β) : Prop where
  kt : Kn pt = none
  k1 : Kn p1 = none
  k2 : Kn p2 = none
  ne : p1 ≠ p2
  ht : H pt = some (.tup [.ref p1, .ref p2])
  e1 : ∃ w, H p1 = some (.lst w) ∧ Paired (rep K Kn) w xs
  e2 : ∃ w, H p2 = some (.lst w) ∧ Paired (rep K Kn) w ys
section
variable {α β τ : Type} [Rp α] [Rp β] [Tp τ]
def RP (K : Fg) (Kn H : Hp) (Q : VK) (xs : List α) (ys : List β) : Prop := ∀ pt p1 p2 Kn' H', Gr Kn H Kn' H' → H pt = none → H p1 = none → H p2 = none → PairAt K Kn' H' pt p1 p2 xs ys → Q (.ref pt) H'
def EP (K : Fg) (F Kn0 : Hp) (sl : List Sl) (ow : List Ow) (te : TE) (xs : List α) (ys : List β) : Prop := ∀ σ Kn H, S K F Kn0 sl ow σ Kn H → ∀ Q : VK, RP K Kn H Q xs ys → te σ H Q
def PP (K : Fg) (f : τ → Option (List α × List β × Unit)) : Sp := fun vs H Q _ => ∃ Kn t r, Ex Kn H ∧ rept K Kn vs t ∧ f t = some r ∧ RP K Kn H Q r.1 r.2.1
def RNP (K : Fg) (F Kn0 : Hp) (ow : List Ow) (R : VK) (xs : List α) (ys : List β) : Prop := ∀ pt p1 p2 Kn H, S K F Kn0 [] ow [] Kn H → F pt = none → F p1 = none → F p2 = none → PairAt K Kn H pt p1 p2 xs ys → R (.ref pt) H
end
section
variable {K : Fg} {F F' Kn0 Kn1 : Hp} {sl sl' : List Sl} {ow ow0 ow1 : List Ow} {α β γ τ : Type} [Rp α] [Rp β] [Rp γ] [Tp τ] {ta : TA} {te : TE} {t : τ} {E : XK} {D : Ends} {i j k1 k2 : Nat} {p p1 p2 : Addr} {xs : List α} {ys : List β}
theorem RNP.base {R : VK} (q : RNP K F Kn0 ow R xs ys) (b : Bs F Kn0 Kn1) : RNP K F Kn1 ow R xs ys := fun pt p1 p2 Kn H s => q pt p1 p2 Kn H (s.unbase b)
theorem RNP.fr {R : VK} (f : Fle F F') (q : RNP K F Kn0 ow0 R xs ys) : RNP K F' Kn0 ow0 R xs ys := fun pt p1 p2 Kn H s h1 h2 h3 h4 => q pt p1 p2 Kn H (s.back f) (fresh_back f h1) (fresh_back f h2) (fresh_back f h3) h4
theorem rnp_of {H Kn : Hp} {Q : VK} (q : RP K Kn H Q xs ys) : RNP K H Kn [] Q xs ys := fun pt p1 p2 Kn' H' s h1 h2 h3 h4 => q pt p1 p2 Kn' H' ⟨s.e0, s.ef, s.ek, s.sep⟩ h1 h2 h3 h4
theorem ep_call {f : τ → Option (List α × List β × Unit)} {r : List α × List β × Unit} (h : EA K F Kn0 sl ow ta t) (hf : f t = some r) : EP K F Kn0 sl ow (tCall (PP K f) [] E ta) r.1 r.2.1 := fun σ Kn H s Q q =>
  h σ Kn H s _ fun vs Kn1 H1 g1 r1 => by
    show PP K f (vs ++ []) H1 Q E
    rw [List.append_nil]
    exact ⟨Kn1, t, r, g1.kh, r1, hf, fun pt p1 p2 Kn' H' g' h1 h2 h3 h4 => q pt p1 p2 Kn' H' (g1.trans g') (fresh_back g1.hh h1) (fresh_back g1.hh h2) (fresh_back g1.hh h3) h4⟩
theorem EP.ev (h : EP K F Kn0 sl ow te xs ys) : EV K F Kn0 sl ow te (xs, ys, ()) := fun σ Kn H s Q q => h σ Kn H s Q fun pt p1 p2 Kn' H' g f0 f1 f2 a => by
  obtain ⟨kt, k1, k2, ne, ht, ⟨w1, e1, r1⟩, ⟨w2, e2, r2⟩⟩ := a
  have n1 : pt ≠ p1 := fun z => by rw [z, e1] at ht; cases ht
  have n2 : pt ≠ p2 := fun z => by rw [z, e2] at ht; cases ht
  have ga := g.know f1 k1 e1
  have kb : upd Kn' p1 (.lst w1) p2 = none := by rw [upd_ne (Ne.symm ne)]; exact k2
  have gb := ga.know f2 kb e2
  have kc : upd (upd Kn' p1 (.lst w1)) p2 (.lst w2) pt = none := by rw [upd_ne n2, upd_ne n1]; exact kt
  have gc := gb.know f0 kc ht
  have x1 : Ex Kn' (upd Kn' p1 (.lst w1)) := Ex.new k1
  have x2 : Ex (upd Kn' p1 (.lst w1)) (upd (upd Kn' p1 (.lst w1)) p2 (.lst w2)) := Ex.new kb
  have x3 := Ex.new (o := .tup [.ref p1, .ref p2]) kc
  have x := (x1.trans x2).trans x3
  refine q _ _ H' gc ⟨pt, _, rfl, upd_same, .ref p1, _, rfl, ⟨p1, w1, rfl, ?_, paired_mono x r1⟩, .ref p2, _, rfl, ⟨p2, w2, rfl, ?_, paired_mono x r2⟩, rfl⟩
  · exact x3 _ _ (x2 _ _ upd_same)
  · exact x3 _ _ upd_same
theorem EP.cast {xs' : List α} {ys' : List β} (h : EP K F Kn0 sl ow te xs ys) (e1 : xs = xs') (e2 : ys = ys') : EP K F Kn0 sl ow te xs' ys' := e1 ▸ e2 ▸ h
/-- a, b = f(..), both one's own -/
theorem sb_unpP {sl' : Addr → Addr → List Sl} (hs : ∀ p1 p2, (sl.set i (.at p1)).set j (.at p2) = sl' p1 p2) (h : EP K F Kn0 sl ow te xs ys) (k : ∀ p1 p2, SN K F Kn0 (sl' p1 p2) (ol p1 xs :: ol p2 ys :: ow) D) :
    SB K F Kn0 sl ow D (tAsg te (gTup K 2 (gCons (gName i) (gCons (gName j) gNil)))) := fun σ Kn H s => h σ Kn H s _ fun pt p1 p2 Kn' H' g f0 f1 f2 a => by
  obtain ⟨kt, k1, k2, ne, ht, ⟨w1, e1, r1⟩, ⟨w2, e2, r2⟩⟩ := a
  have s1 := s.grow g
  have s2 := s1.own (fresh_back s.ef f2) k2 (owned_ne s f2) e2 r2
  have s3 := s2.own (p := p1) (fresh_back s.ef f1) k1 (fun o ho z => by
    rcases List.mem_cons.mp ho with rfl | ho
    · exact ne z.symm
    · exact owned_ne s f1 o ho z) e1 r1
  exact ⟨pt, _, rfl, st_of ht, rfl, .ref p1, _, rfl, .ref p2, _, rfl, rfl, k p1 p2 _ Kn' H' (hs p1 p2 ▸ (s3.seta (p := p1) i).seta (p := p2) j)⟩
/-- return (a, b), both one's own -/
theorem sb_retP {R : VK} (hi : sl[i]? = some (.at p1)) (hj : sl[j]? = some (.at p2)) (h1 : ow[k1]? = some (ol p1 xs)) (h2 : ow[k2]? = some (ol p2 ys)) (hk : k1 ≠ k2) (q : RNP K F Kn0 ow0 R xs ys) (l : ow0.Sublist ow) (hR : D.rt = R := by rfl) :
    SB K F Kn0 sl ow D (tRet (tTup (tCons (tVar i) (tCons (tVar j) tNil)))) := fun σ Kn H s => by
  subst hR
  obtain ⟨o1, a1, a2⟩ := s.sl.get hi
  obtain ⟨o2, b1, b2⟩ := s.sl.get hj
  obtain ⟨f1, f2, w1, f3, f4⟩ := s.ow.each _ (List.mem_of_getElem? h1)
  obtain ⟨g1, g2, w2, g3, g4⟩ := s.ow.each _ (List.mem_of_getElem? h2)
  have f1 : F p1 = none := f1
  have f2 : Kn p1 = none := f2
  have g1 : F p2 = none := g1
  have g2 : Kn p2 = none := g2
  have ne : p1 ≠ p2 := fun z => hk (ow_at s.ow.nd h1 h2 z)
  refine ⟨.ref p1, by rw [a1]; exact congrArg some a2, .ref p2, by rw [b1]; exact congrArg some b2, by show 2 ≤ sizeLine; exact le_line (by decide), fun pt hp => ?_⟩
  have g : Gr Kn H Kn (upd H pt (.tup [.ref p1, .ref p2])) := Gr.newU s.ek hp
  exact q pt p1 p2 Kn _ ((s.grow g).sub l).fin (fresh_back s.ef hp) f1 g1 ⟨fresh_back s.ek hp, f2, g2, ne, upd_same, ⟨w1, g.hh _ _ f3, f4⟩, ⟨w2, g.hh _ _ g3, g4⟩⟩
/-- [.. for x in xs], xs one's own -/
theorem en_lcO {xs : List β} {zs : List γ} {c : β → Option Bool} {f : β → Option γ} {g : TG} {js vs : List Nat} {tt : TT} (hi : sl[i]? = some (.at p)) (hjw : ow[j]? = some (ol p xs)) (gx : β → List Sl) (hm : lcM c f xs = some zs) (hv : ∀ j ∈ vs, sl[j]? = some .any) (hg : ∀ x, GT K g sl (gx x) js x) (hj : ∀ j ∈ js, j ∈ vs)
    (ht : ∀ p (acc : List γ) x b, c x = some b → ET K F Kn0 (gx x) (ol p acc :: ow) tt b) (he : ∀ p (acc : List γ) x z, c x = some true → f x = some z → EV K F Kn0 (gx x) (ol p acc :: ow) te z) :
    EN K F Kn0 sl ow (tLc (iList K (tVar i)) g tt te vs) zs := fun σ Kn H s Q q => by
  unfold lcM at hm
  split at hm
  case isFalse => cases hm
  rename_i hlen
  obtain ⟨o1, a1, a2⟩ := s.sl.get hi
  obtain ⟨b1, b2, w0, b3, b4⟩ := s.ow.each _ (List.mem_of_getElem? hjw)
  refine ⟨.ref p, by rw [a1]; exact congrArg some a2, p, rfl, ⟨w0, sq_of b3⟩, fun D hD => ?_⟩
  have kD : Kn D = none := fresh_back s.ek hD
  have fD : F D = none := fresh_back s.ef hD
  have W : ∀ i Kn' H', Gr Kn H Kn' H' → (∀ x, xs[i]? = some x → (Itl K p).go i H' ∧ ∀ v H2, (Itl K p).yld i H' v H2 → ∃ Kn2, Gr Kn' H' Kn2 H2 ∧ rep K Kn2 v x) ∧ (xs.length ≤ i → (Itl K p).stop i H') := fun i Kn' H' gr => by
    have hq : SqL K H' p w0 := sq_of (gr.hh _ _ b3)
    refine ⟨fun x hx => ?_, fun hl => ⟨w0, hq, by rw [paired_len b4]; exact hl⟩⟩
    obtain ⟨v, hv, rv⟩ := paired_at b4 hx
    refine ⟨⟨w0, v, hq, hv⟩, fun u H2 hy => ?_⟩
    obtain ⟨rfl, f⟩ := hy
    have : v = u := Option.some.inj (hv.symm.trans (f w0 hq))
    subst this
    exact ⟨Kn', Gr.refl gr.kh, Rp.mono gr.kk rv⟩
  refine ⟨fun i m H' => i + m = xs.length ∧ ∃ Kn' ws acc rest, Gr Kn H Kn' H' ∧ Kn' D = none ∧ H' D = some (.lst ws) ∧ Paired (rep K Kn') ws acc ∧ acc.length ≤ i ∧ lcGo c f (xs.drop i) = some rest ∧ acc ++ rest = zs,
    ⟨xs.length, by omega, Kn, [], [], zs, (Gr.newU s.ek hD), kD, upd_same, .nil, Nat.le_refl _, hm, rfl⟩, fun i m H' hW => ?_⟩
  obtain ⟨em, Kn', ws, acc, rest, gr, kD', hD', rp, hal, hrest, hz⟩ := hW
  have s' : S K F Kn0 sl (ol D acc :: ow) σ Kn' H' := (s.grow gr).own fD kD' (owned_ne s hD) hD' rp
  by_cases hlt : i < xs.length
  · have hx : xs[i]? = some xs[i] := List.getElem?_eq_getElem hlt
    have hd : xs.drop i = xs[i] :: xs.drop (i + 1) := List.drop_eq_getElem_cons hlt
    rw [hd] at hrest
    obtain ⟨b, hb, hrest⟩ := bind_some hrest
    obtain ⟨go, yl⟩ := (W i Kn' H' gr).1 _ hx
    refine .inr ⟨go, fun H'' => ∃ Kn' ws acc rest, Gr Kn H Kn' H'' ∧ Kn' D = none ∧ H'' D = some (.lst ws) ∧ Paired (rep K Kn') ws acc ∧ acc.length ≤ i + 1 ∧ lcGo c f (xs.drop (i + 1)) = some rest ∧ acc ++ rest = zs, fun H'' h => ⟨m - 1, by omega, by omega, h⟩, fun v H2 hy => ?_⟩
    obtain ⟨Kn2, g2, rv⟩ := yl v H2 hy
    have s2 := (s'.grow g2).wipe hv
    refine hg _ _ Kn2 H2 v s2.sl s2.ek rv _ fun σ3 h3 hw3 => ?_
    have s3 := s2.slots h3
    have hDn : H' D ≠ none := ne_none_of hD'
    refine ⟨(hw3 vs hj).trans ?_, ht D acc _ b hb σ3 Kn2 H2 s3 _ fun Kn3 H3 g3 => ?_⟩
    · have ww : ∀ (vs us : List Nat) (σ : L2.St), (∀ j ∈ vs, j ∈ us) → L2.wipe (L2.wipe σ vs) us = L2.wipe σ us := by
        intro vs
        induction vs with
        | nil => intro us σ _; rfl
        | cons a r ih =>
          intro us σ hh
          show L2.wipe ((L2.wipe σ r).set a none) us = L2.wipe σ us
          rw [wipe_set (hh a List.mem_cons_self)]
          exact ih us σ fun j hj => hh j (List.mem_cons_of_mem _ hj)
      exact ww vs vs σ fun _ h => h
    · have g123 : Gr Kn H Kn3 H3 := (gr.trans g2).trans g3
      have kD3 : Kn3 D = none := (g2.trans g3).sp D hDn kD'
      have hD3 : H3 D = some (.lst ws) := (g2.trans g3).hh _ _ hD'
      cases b with
      | true =>
        obtain ⟨z, hfz, hrest⟩ := bind_some (show (f xs[i]).bind _ = some rest from hrest)
        obtain ⟨zs', hzs, hrest⟩ := bind_some hrest
        cases hrest
        refine iteT (he D acc _ z hb hfz σ3 Kn3 H3 (s3.grow g3) _ fun y Kn4 H4 g4 ry => ?_)
        have g234 := (g2.trans g3).trans g4
        have kD4 : Kn4 D = none := g4.sp D (ne_none_of hD3) kD3
        refine ⟨ws, g4.hh _ _ hD3, by rw [paired_len rp]; exact lt_line (by omega), Kn4, ws ++ [y], acc ++ [z], zs', (gr.trans g234).mut hD kD4, kD4, upd_same, paired_append (paired_mono g234.kk rp) (.cons ry .nil), ?_, hzs, ?_⟩
        · rw [List.length_append, List.length_singleton]; omega
        · rw [List.append_assoc]; exact hz
      | false =>
        have hrest : lcGo c f (xs.drop (i + 1)) = some rest := hrest
        exact iteF ⟨Kn3, ws, acc, rest, g123, kD3, hD3, paired_mono (g2.trans g3).kk rp, by omega, hrest, hz⟩
  · have hd : xs.drop i = [] := List.drop_eq_nil_of_le (by omega)
    rw [hd] at hrest
    cases hrest
    rw [List.append_nil] at hz
    subst hz
    exact .inl ⟨(W i Kn' H' gr).2 (by omega), q D ws Kn' H' gr hD kD' hD' rp⟩
end
end Wk
/-! Wdict: a dict walked (it is locked on the way), its values and pairs; a def that tells a new dict; dict(d); dicts alike -/
namespace L2
open PySem PySem.Spec PyProof.Rows
/-- lock it, or it is locked already -/
def tLk (t : TS) : TS := fun D σ H => tLock t D σ H ∨ t D σ H
def tLkE (t : TE) : TE := fun σ H Q => tLockE t σ H Q ∨ t σ H Q
theorem ps_lk {X : Cx} {st : Stmt} {t : TS} (h : PS X st t) : PS X st (tLk t) := by
  refine ⟨fun pins s σ H D I hw => ?_⟩
  rcases hw with hw | hw
  · exact (ps_lock h).run pins s σ H D I hw
  · exact h.run pins s σ H D I hw
theorem pe_lk {X : Cx} {e : Expr} {t : TE} (h : PE X e t) : PE X e (tLkE t) := by
  refine ⟨fun pins s σ H Q I hw => ?_⟩
  rcases hw with hw | hw
  · exact (pe_lock h).run pins s σ H Q I hw
  · exact h.run pins s σ H Q I hw
section
variable {X : Cx}
def rEqDR (r : Bool) : R2 := fun x y H Q => ∃ a b ks ls, x = .ref a ∧ y = .ref b ∧ Rd H a (.dK ks) ∧ Rd H b (.dK ls) ∧ ks.length = ls.length ∧ (∀ p ∈ ks, valV ls p.1 = some p.2 ∧ flatB p.2 = true) ∧ Q (.bl r) H
theorem op_eq_dictR (hu : X.A.units + 64 < cLine) : OpR X (compareOp .Eq) (rEqDR true) := by
  intro pins s σ H x y v u Q I rx ry h
  obtain ⟨a, b, ks, ls, rfl, rfl, ea, eb, hlen, hp, q⟩ := h
  obtain rfl : v = Value.ref a := rx
  obtain rfl : u = Value.ref b := ry
  obtain ⟨_, ya, va, ra, da⟩ := dk_rd I.hok ea
  obtain ⟨_, yb, vb, rb, db⟩ := dk_rd I.hok eb
  have hl : va.length = vb.length := by rw [← ra.length, ← rb.length]; exact hlen
  exact PySem.W.keq_eq (knd := mixKind X.prog X.w) (r := true) ya yb da db (by omega) (fun _ => hits_all rb ra hp) (fin_bl I q (by simp [hl]))
theorem op_ne_dictR (hu : X.A.units + 64 < cLine) : OpR X (compareOp .NotEq) (rEqDR false) := by
  intro pins s σ H x y v u Q I rx ry h
  obtain ⟨a, b, ks, ls, rfl, rfl, ea, eb, hlen, hp, q⟩ := h
  obtain rfl : v = Value.ref a := rx
  obtain rfl : u = Value.ref b := ry
  obtain ⟨_, ya, va, ra, da⟩ := dk_rd I.hok ea
  obtain ⟨_, yb, vb, rb, db⟩ := dk_rd I.hok eb
  have hl : va.length = vb.length := by rw [← ra.length, ← rb.length]; exact hlen
  exact PySem.W.keq_ne (knd := mixKind X.prog X.w) (r := true) ya yb da db (by omega) (fun _ => hits_all rb ra hp) (fin_bl I q (by simp [hl]))
end
end L2
namespace Wk
open PySem PySem.Spec L2 Evl
/-- where it may be walked, and how its results go back -/
structure Mv (K : Fg) (F Kn0 : Hp) (R : VK) (F' Kn1 : Hp) (R' : VK) : Prop where
  fn : ∀ q, F' q = none → F q = none
  st : ∀ sl ow σ Kn H, S K F' Kn1 sl ow σ Kn H → ∃ Kn' H', S K F Kn0 sl ow σ Kn' H' ∧ (∀ v, R v H' → R' v H) ∧ Sw Kn Kn' ∧ ∀ q, Kn q = none → Kn' q = none ∧ H' q = H q
section
variable {K : Fg} {F Kn0 F' Kn1 : Hp} {R R' : VK} {ow0 : List Ow} {α β : Type} [Rp α] [Rp β]
theorem RT.mv {x : α} (q : RT K F Kn0 ow0 R x) (m : Mv K F Kn0 R F' Kn1 R') : RT K F' Kn1 ow0 R' x := fun v Kn H s r => by
  obtain ⟨Kn', H', s', h1, h2, h3⟩ := m.st _ _ _ _ _ s
  exact h1 v (q v Kn' H' s' (Rp.swap h2 r))
theorem RN.mv {xs : List α} (q : RN K F Kn0 ow0 R xs) (m : Mv K F Kn0 R F' Kn1 R') : RN K F' Kn1 ow0 R' xs := fun p ws Kn H s fp kp hp r => by
  obtain ⟨Kn', H', s', h1, h2, h3⟩ := m.st _ _ _ _ _ s
  exact h1 _ (q p ws Kn' H' s' (m.fn p fp) (h3 p kp).1 ((h3 p kp).2.trans hp) (paired_swap h2 r))
theorem RNP.mv {xs : List α} {ys : List β} (q : RNP K F Kn0 ow0 R xs ys) (m : Mv K F Kn0 R F' Kn1 R') : RNP K F' Kn1 ow0 R' xs ys := fun pt p1 p2 Kn H s f0 f1 f2 a => by
  obtain ⟨Kn', H', s', h1, h2, h3⟩ := m.st _ _ _ _ _ s
  obtain ⟨kt, k1, k2, ne, ht, ⟨w1, e1, r1⟩, ⟨w2, e2, r2⟩⟩ := a
  exact h1 _ (q pt p1 p2 Kn' H' s' (m.fn _ f0) (m.fn _ f1) (m.fn _ f2) ⟨(h3 _ kt).1, (h3 _ k1).1, (h3 _ k2).1, ne, (h3 _ kt).2.trans ht, ⟨w1, (h3 _ k1).2.trans e1, paired_swap h2 r1⟩, ⟨w2, (h3 _ k2).2.trans e2, paired_swap h2 r2⟩⟩)
end
def lk (F : Hp) (p : Addr) (o : HO) : Hp := fun q => if q = p then (if F p = none then none else some o) else F q
theorem lk_ne {F : Hp} {p q : Addr} {o : HO} (h : q ≠ p) : lk F p o q = F q := if_neg h
theorem lk_none {F : Hp} {p q : Addr} {o : HO} : lk F p o q = none ↔ F q = none := by
  by_cases h : q = p
  · subst h
    unfold lk
    rw [if_pos rfl]
    constructor
    · intro h
      split at h
      · assumption
      · cases h
    · intro h
      rw [if_pos h]
  · rw [lk_ne h]
section
variable {K : Fg} {F Kn0 : Hp} {sl sl' : List Sl} {ow ow1 : List Ow} {σ : L2.St} {Kn H Kn1 Kn2 H2 : Hp} {p : Addr} {u : HO} {od : Obj}
theorem sw_lock (hu : isDk u) (hk : Kn p = some u) : Sw Kn (upd Kn p (.frz od u)) := fun q w h => by
  by_cases e : q = p
  · subst e
    rw [hk] at h
    cases h
    exact .inr ⟨od, u, hu, .inl ⟨rfl, upd_same⟩⟩
  · exact .inl (by rw [upd_ne e]; exact h)
theorem sw_unlock (hu : isDk u) (hk : Kn p = some (.frz od u)) : Sw Kn (upd Kn p u) := fun q w h => by
  by_cases e : q = p
  · subst e
    rw [hk] at h
    cases h
    exact .inr ⟨od, u, hu, .inr ⟨rfl, upd_same⟩⟩
  · exact .inl (by rw [upd_ne e]; exact h)
theorem S.lock (s : S K F Kn0 sl ow σ Kn H) (hu : isDk u) (hk : Kn p = some u) : S K (lk F p (.frz od u)) (upd Kn p (.frz od u)) sl ow σ (upd Kn p (.frz od u)) (upd H p (.frz od u)) := by
  refine ⟨Ex.refl _, fun a w h => ?_, fun a w h => ?_, fun _ _ h => h, s.sl.swap (sw_lock hu hk), ⟨fun o ho => ?_, s.ow.nd⟩⟩
  · by_cases e : a = p
    · subst e
      rw [upd_same] at h ⊢
      exact h
    · rw [upd_ne e] at h ⊢
      exact s.ek _ _ h
  · by_cases e : a = p
    · subst e
      unfold lk at h
      rw [if_pos rfl] at h
      split at h
      · cases h
      · rw [upd_same]
        exact h
    · rw [lk_ne e] at h
      rw [upd_ne e]
      exact s.ef _ _ h
  · obtain ⟨h1, h2, h3⟩ := s.ow.each o ho
    have hne : o.ad ≠ p := fun z => by rw [z, hk] at h2; cases h2
    exact ⟨lk_none.mpr h1, by rw [upd_ne hne]; exact h2, Ow.ok_swap (sw_lock hu hk) (upd_ne hne) h3⟩
theorem S.unlock (hu : isDk u) (hk : Kn p = some u) (hF : ∀ o, F p = some o → o = u) (s : S K (lk F p (.frz od u)) (upd Kn p (.frz od u)) sl ow σ Kn2 H2) : S K F Kn sl ow σ (upd Kn2 p u) (upd H2 p u) := by
  have hp : Kn2 p = some (.frz od u) := s.e0 _ _ upd_same
  refine ⟨fun a w h => ?_, fun a w h => ?_, fun a w h => ?_, fun a h1 h2 => ?_, s.sl.swap (sw_unlock hu hp), ⟨fun o ho => ?_, s.ow.nd⟩⟩
  · by_cases e : a = p
    · subst e
      rw [upd_same, ← hk]
      exact h
    · rw [upd_ne e]
      exact s.e0 _ _ (by rw [upd_ne e]; exact h)
  · by_cases e : a = p
    · subst e
      rw [upd_same] at h ⊢
      exact h
    · rw [upd_ne e] at h ⊢
      exact s.ek _ _ h
  · by_cases e : a = p
    · subst e
      rw [hF _ h, upd_same]
    · rw [upd_ne e]
      exact s.ef _ _ (by rw [lk_ne e]; exact h)
  · have e : a ≠ p := fun z => by rw [z, hk] at h2; cases h2
    rw [upd_ne e]
    exact s.sep a (fun z => h1 (lk_none.mp z)) (by rw [upd_ne e]; exact h2)
  · obtain ⟨h1, h2, h3⟩ := s.ow.each o ho
    have hne : o.ad ≠ p := fun z => by rw [z, hp] at h2; cases h2
    exact ⟨lk_none.mp h1, by rw [upd_ne hne]; exact h2, Ow.ok_swap (sw_unlock hu hp) (upd_ne hne) h3⟩
theorem mv_lock {R : VK} (b : Bs F Kn0 Kn) (hu : isDk u) (hk : Kn p = some u) (hF : ∀ o, F p = some o → o = u) (b2 : Bs (lk F p (.frz od u)) (upd Kn p (.frz od u)) Kn1) : Mv K F Kn0 R (lk F p (.frz od u)) Kn1 (fun v H' => H' p = some (.frz od u) ∧ R v (upd H' p u)) := by
  refine ⟨fun q h => lk_none.mp h, fun sl ow σ Kn2 H2 s => ?_⟩
  have s2 := s.unbase b2
  have hp : Kn2 p = some (.frz od u) := s2.e0 _ _ upd_same
  refine ⟨_, _, (S.unlock hu hk hF s2).unbase b, fun v h => ⟨s.ek _ _ hp, h⟩, sw_unlock hu hp, fun q h => ?_⟩
  have e : q ≠ p := fun z => by rw [z, hp] at h; cases h
  rw [upd_ne e, upd_ne e]
  exact ⟨h, rfl⟩
theorem mv_base {R : VK} (b : Bs F Kn0 Kn1) : Mv K F Kn0 R F Kn1 R :=
  ⟨fun _ h => h, fun sl ow σ Kn H s => ⟨Kn, H, s.unbase b, fun _ h => h, fun q u h => .inl h, fun q h => ⟨h, rfl⟩⟩⟩
end
/-! ### what is walked of a dict -/
class KB (κ : Type) [Rp κ] [K1 κ] : Prop where
  back : ∀ {K : Fg} {H : Hp} (a : κ), rep K H (kV (K1.key a)) a
instance : KB Int := ⟨fun _ => rfl⟩
instance : KB Str := ⟨fun _ => rfl⟩
section
variable {κ β γ : Type} [Rp κ] [K1 κ] [KB κ] [Rp β] [Rp γ] {K : Fg} {F Kn0 : Hp} {sl sl' : List Sl} {ow ow1 : List Ow} {σ : L2.St} {Kn H Kn1 : Hp} {p : Addr} {i : Nat}
structure DIt (K : Fg) (i : Nat) (d : Dc κ β) {γ : Type} [Rp γ] (wi : TI) (J : Addr → Obj → List (Key × V) → It) (xs : List γ) : Prop where
  w : ∀ (σ : L2.St) (H : Hp) (R : It → Hp → Prop) (p : Addr) (od : Obj) (ws : List (Key × V)), σ[i]? = some (some (.ref p)) → H p = some (.frz od (.dK ws)) → R (J p od ws) H → wi σ H R
  k : ∀ {Kn : Hp} {p : Addr} {od : Obj} {ws : List (Key × V)}, Kn p = some (.frz od (.dK ws)) → DK K Kn ws d.l → WK K Kn (J p od ws) xs
theorem dk_at {ws : List (Key × V)} {kvs : List (κ × β)} (h : DK K Kn ws kvs) {n : Nat} {y : κ × β} (e : kvs[n]? = some y) : ∃ v, ws[n]? = some (K1.key y.1, v) ∧ rep K Kn v y.2 := by
  unfold DK at h
  induction h generalizing n with
  | nil => cases e
  | @cons w kv ws kvs q t ih =>
    cases n with
    | zero =>
      cases e
      exact ⟨w.2, by rw [List.getElem?_cons_zero]; exact congrArg some (Prod.ext q.1 rfl), q.2⟩
    | succ n =>
      obtain ⟨v, h1, h2⟩ := ih (n := n) e
      exact ⟨v, h1, h2⟩
theorem dit_keys {d : Dc κ β} : DIt K i d (iKeys (tVar i)) Itk (d.l.map (·.1)) := by
  refine ⟨fun σ H R p od ws h1 h2 h3 => ⟨.ref p, h1, p, od, rfl, .inl ⟨ws, h2, h3⟩⟩, fun {Kn p od ws} h1 h2 i Kn' H' e1 e2 => ⟨fun x hx => ?_, fun hl => ⟨e2 _ _ (e1 _ _ h1), ?_⟩⟩⟩
  · rw [List.getElem?_map] at hx
    obtain ⟨y, hy, rfl⟩ := Option.map_eq_some_iff.mp hx
    obtain ⟨v, hv, rv⟩ := dk_at h2 hy
    refine ⟨⟨e2 _ _ (e1 _ _ h1), (List.getElem?_eq_some_iff.mp hv).1⟩, fun u H2 hh => ?_⟩
    obtain ⟨rfl, k, v2, e, rfl⟩ := hh
    rw [hv] at e
    cases e
    exact ⟨Kn', Gr.refl e2, KB.back _⟩
  · have := h2.length
    rw [List.length_map] at hl
    omega
theorem dit_vals {d : Dc κ β} : DIt K i d (iVals (tVar i)) Itd (d.l.map (·.2)) := by
  refine ⟨fun σ H R p od ws h1 h2 h3 => ⟨.ref p, h1, p, od, ws, rfl, h2, h3⟩, fun {Kn p od ws} h1 h2 i Kn' H' e1 e2 => ⟨fun x hx => ?_, fun hl => ⟨e2 _ _ (e1 _ _ h1), ?_⟩⟩⟩
  · rw [List.getElem?_map] at hx
    obtain ⟨y, hy, rfl⟩ := Option.map_eq_some_iff.mp hx
    obtain ⟨v, hv, rv⟩ := dk_at h2 hy
    refine ⟨⟨e2 _ _ (e1 _ _ h1), (List.getElem?_eq_some_iff.mp hv).1⟩, fun u H2 hh => ?_⟩
    obtain ⟨rfl, k, e⟩ := hh
    rw [hv] at e
    cases e
    exact ⟨Kn', Gr.refl e2, Rp.mono e1 rv⟩
  · have := h2.length
    rw [List.length_map] at hl
    omega
def itemsD {κ β : Type} (d : Dc κ β) : List (κ × β × Unit) := d.l.map fun kv => (kv.1, kv.2, ())
theorem dit_items {d : Dc κ β} : DIt K i d (iItems (tVar i)) Iti (itemsD d) := by
  unfold itemsD
  refine ⟨fun σ H R p od ws h1 h2 h3 => ⟨.ref p, h1, p, od, ws, rfl, h2, h3⟩, fun {Kn p od ws} h1 h2 i Kn' H' e1 e2 => ⟨fun x hx => ?_, fun hl => ⟨e2 _ _ (e1 _ _ h1), ?_⟩⟩⟩
  · rw [List.getElem?_map] at hx
    obtain ⟨y, hy, rfl⟩ := Option.map_eq_some_iff.mp hx
    obtain ⟨v, hv, rv⟩ := dk_at h2 hy
    refine ⟨⟨e2 _ _ (e1 _ _ h1), (List.getElem?_eq_some_iff.mp hv).1⟩, fun u H2 hh => ?_⟩
    obtain ⟨T, k, v2, e, rfl, hT, rfl⟩ := hh
    rw [hv] at e
    cases e
    have g : Gr Kn' H' (upd Kn' T (.tup [kV (K1.key y.1), v])) (upd H' T (.tup [kV (K1.key y.1), v])) := Gr.new e2 hT
    exact ⟨_, g, T, _, rfl, upd_same, _, _, rfl, KB.back _, v, [], rfl, Rp.mono (e1.trans g.kk) rv, rfl⟩
  · have := h2.length
    rw [List.length_map] at hl
    omega
theorem DIt.it {d : Dc κ β} {wi : TI} {J : Addr → Obj → List (Key × V) → It} {xs : List γ} (h : DIt K i d wi J xs) {od : Obj} {ws : List (Key × V)} (hk : Kn1 p = some (.frz od (.dK ws))) (r : DK K Kn1 ws d.l) : IT K F Kn1 sl ow (fun σ H R => R (J p od ws) H) xs := fun σ Kn H s R q =>
  q _ Kn H (Gr.refl s.ek) (h.k (s.e0 _ _ hk) (DK.mono s.e0 r))
/-- for x in d, d.values(), d.items() -/
theorem sb_forD {g : TG} {tb : TS} {Sx : Type} {d : Dc κ β} {wi : TI} {J : Addr → Obj → List (Key × V) → It} {xs : List γ} {D : Ends} (hd : DIt K i d wi J xs) (hi : sl[i]? = some (sv d))
    (slx : Sx → List Sl) (owx : Sx → List Ow) (gx : γ → Sx → List Sl) (js : List Nat) (P : List γ → Sx → Prop) (s0 : Sx) (h0 : P xs s0) (le : SlLe sl (slx s0)) (eo : (owx s0).Sublist ow)
    (hg : ∀ x s, GT K g (slx s) (gx x s) js x)
    (step : ∀ F' Kn1 R', Mv K F Kn0 D.rt F' Kn1 R' → ∀ bk x rest s, P (x :: rest) s → ∀ N : L2.St → Hp → Prop, (∀ s', P rest s' → ∀ σ Kn H, S K F' Kn1 (slx s') (owx s') σ Kn H → N σ H) → SB K F' Kn1 (gx x s) (owx s) ⟨N, R', bk, N⟩ tb)
    (done : ∀ s, P [] s → SN K F Kn0 (slx s) (owx s) D) : SB K F Kn0 sl ow D (tLk (tFor wi g tb)) := fun σ Kn H s => by
  obtain ⟨o, h1, v, h2, hv⟩ := s.sl.get hi
  obtain ⟨p, ws, rfl, h3, h4⟩ := hv
  have h3 : Rd Kn p (.dK ws) := h3
  have hσ : σ[i]? = some (some (.ref p)) := by rw [h1, h2]
  rcases h3 with h3 | ⟨od, h3⟩
  · refine .inl ⟨p, .dK ws, s.ek _ _ h3, trivial, fun od => ?_⟩
    have hF : ∀ o, F p = some o → o = .dK ws := fun o e => by
      have e1 := s.ef _ _ e
      rw [s.ek _ _ h3] at e1
      exact (Option.some.inj e1).symm
    have s1 := s.lock (u := .dK ws) (od := od) trivial h3
    refine hd.w σ _ _ p od ws hσ upd_same ?_
    have sw : Sw Kn (upd Kn p (.frz od (.dK ws))) := sw_lock (u := .dK ws) trivial h3
    exact sb_for (wi := fun σ H R => R (J p od ws) H) slx owx gx js P s0 (IT.m (hd.it upd_same (DK.swap sw h4))) h0 le eo hg
      (fun Kn1 b x rest st hP N hN => step _ Kn1 _ (mv_lock (u := .dK ws) s.bs trivial h3 hF b) _ x rest st hP N hN)
      (fun st hP σ2 Kn2 H2 s2 => show _ ∧ _ from ⟨s2.ek _ _ (s2.e0 _ _ upd_same), done st hP σ2 _ _ ((S.unlock (u := .dK ws) trivial h3 hF s2).unbase s.bs)⟩) σ _ _ s1
  · refine .inr (hd.w σ _ _ p od ws hσ (s.ek _ _ h3) ?_)
    exact sb_for (wi := fun σ H R => R (J p od ws) H) slx owx gx js P s0 (IT.m (hd.it h3 h4)) h0 le eo hg
      (fun Kn1 b x rest st hP N hN => step F Kn1 D.rt (mv_base ⟨s.e0.trans b.e, fun q h1 h2 => b.sp q h1 (s.sep q h1 h2)⟩) _ x rest st hP N hN)
      (fun st hP => (done st hP).base s.bs) σ Kn H s.rebase
/-- [.. for x in d] -/
theorem en_lcD {d : Dc κ β} {wi : TI} {J : Addr → Obj → List (Key × V) → It} {xs : List γ} {α : Type} [Rp α] {zs : List α} {c : γ → Option Bool} {f : γ → Option α} {g : TG} {tt : TT} {te : TE} {js vs : List Nat} (hd : DIt K i d wi J xs) (hi : sl[i]? = some (sv d)) (gx : γ → List Sl) (hm : lcM c f xs = some zs) (hv : ∀ j ∈ vs, sl[j]? = some .any) (hg : ∀ x, GT K g sl (gx x) js x) (hj : ∀ j ∈ js, j ∈ vs)
    (ht : ∀ F' Kn1 p (acc : List α) x b, c x = some b → ET K F' Kn1 (gx x) (ol p acc :: ow) tt b) (he : ∀ F' Kn1 p (acc : List α) x z, c x = some true → f x = some z → EV K F' Kn1 (gx x) (ol p acc :: ow) te z) :
    EN K F Kn0 sl ow (tLkE (tLc wi g tt te vs)) zs := fun σ Kn H s Q q => by
  obtain ⟨o, h1, v, h2, hv2⟩ := s.sl.get hi
  obtain ⟨p, ws, rfl, h3, h4⟩ := hv2
  have h3 : Rd Kn p (.dK ws) := h3
  have hσ : σ[i]? = some (some (.ref p)) := by rw [h1, h2]
  rcases h3 with h3 | ⟨od, h3⟩
  · refine .inl ⟨p, .dK ws, s.ek _ _ h3, trivial, fun od => ?_⟩
    have s1 := s.lock (u := .dK ws) (od := od) trivial h3
    refine hd.w σ _ _ p od ws hσ upd_same ?_
    have sw : Sw Kn (upd Kn p (.frz od (.dK ws))) := sw_lock (u := .dK ws) trivial h3
    show tLc (fun σ H R => R (J p od ws) H) g tt te vs σ (upd H p (.frz od (.dK ws))) (fun v H' => H' p = some (.frz od (.dK ws)) ∧ Q v (upd H' p (.dK ws)))
    refine en_lc (wi := fun σ H R => R (J p od ws) H) gx hm (hd.it upd_same (DK.swap sw h4)) hv hg hj (ht _ _) (he _ _) σ _ _ s1 _ fun l ys Kn' H' g hl kl hw rr => ?_
    have e1 : Kn' p = some (.frz od (.dK ws)) := g.kk _ _ upd_same
    have e2 : H' p = some (.frz od (.dK ws)) := g.kh _ _ e1
    have np : l ≠ p := fun z => by rw [z, e1] at kl; cases kl
    refine ⟨e2, q l ys (upd Kn' p (.dK ws)) (upd H' p (.dK ws)) ⟨fun a u h => ?_, fun a u h => ?_, fun a u h => ?_, fun a u h => ?_⟩ ?_ ?_ ?_ (paired_swap (sw_unlock (u := .dK ws) trivial e1) rr)⟩
    · by_cases e : a = p
      · subst e
        rw [upd_same, ← h3]
        exact h
      · rw [upd_ne e]
        exact g.kk _ _ (by rw [upd_ne e]; exact h)
    · by_cases e : a = p
      · subst e
        rw [upd_same, ← s.ek _ _ h3]
        exact h
      · rw [upd_ne e]
        exact g.hh _ _ (by rw [upd_ne e]; exact h)
    · by_cases e : a = p
      · subst e
        rw [upd_same] at h ⊢
        exact h
      · rw [upd_ne e] at h ⊢
        exact g.kh _ _ h
    · have e : a ≠ p := fun z => by rw [z, h3] at h; cases h
      rw [upd_ne e]
      exact g.sp a (by rw [upd_ne e]; exact u) (by rw [upd_ne e]; exact h)
    · rw [upd_ne np] at hl
      exact hl
    · rw [upd_ne np]
      exact kl
    · rw [upd_ne np]
      exact hw
  · refine .inr (hd.w σ _ _ p od ws hσ (s.ek _ _ h3) ?_)
    show tLc (fun σ H R => R (J p od ws) H) g tt te vs σ H Q
    refine en_lc (wi := fun σ H R => R (J p od ws) H) gx hm (hd.it h3 h4) hv hg hj (ht _ _) (he _ _) σ Kn H s.rebase _ fun l ys Kn' H' g hl kl hw rr => ?_
    exact q l ys Kn' H' g hl kl hw rr
end
/-! ### a new object told -/
section
variable {α τ γ : Type} [Rp α] [Tp τ] [Ob γ]
def RG (K : Fg) (Kn H : Hp) (Q : VK) (x : γ) : Prop := ∀ p o Kn' H', Gr Kn H Kn' H' → H p = none → Kn' p = none → H' p = some o → Ob.ob K Kn' o x → Q (.ref p) H'
def EG (K : Fg) (F Kn0 : Hp) (sl : List Sl) (ow : List Ow) (te : TE) (x : γ) : Prop := ∀ σ Kn H, S K F Kn0 sl ow σ Kn H → ∀ Q : VK, RG K Kn H Q x → te σ H Q
def PG (K : Fg) (f : τ → Option γ) : Sp := fun vs H Q _ => ∃ Kn t r, Ex Kn H ∧ rept K Kn vs t ∧ f t = some r ∧ RG K Kn H Q r
def RNG (K : Fg) (F Kn0 : Hp) (ow : List Ow) (R : VK) (x : γ) : Prop := ∀ p o Kn H, S K F Kn0 [] ow [] Kn H → F p = none → Kn p = none → H p = some o → Ob.ob K Kn o x → R (.ref p) H
end
section
variable {K : Fg} {F F' Kn0 Kn1 : Hp} {sl sl' : List Sl} {ow ow0 ow1 : List Ow} {α κ β τ γ : Type} [Rp α] [Rp κ] [Ky κ] [DecidableEq κ] [Rp β] [Tp τ] [Ob γ] {ta : TA} {te : TE} {t : τ} {E : XK} {D : Ends} {i j : Nat} {p : Addr} {x : γ} {R R' : VK}
theorem RNG.base (q : RNG K F Kn0 ow R x) (b : Bs F Kn0 Kn1) : RNG K F Kn1 ow R x := fun p o Kn H s => q p o Kn H (s.unbase b)
theorem RNG.fr (f : Fle F F') (q : RNG K F Kn0 ow0 R x) : RNG K F' Kn0 ow0 R x := fun p o Kn H s h1 h2 h3 h4 => q p o Kn H (s.back f) (fresh_back f h1) h2 h3 h4
theorem RNG.mv (q : RNG K F Kn0 ow0 R x) (m : Mv K F Kn0 R F' Kn1 R') : RNG K F' Kn1 ow0 R' x := fun p o Kn H s fp kp hp r => by
  obtain ⟨Kn', H', s', h1, h2, h3⟩ := m.st _ _ _ _ _ s
  exact h1 _ (q p o Kn' H' s' (m.fn p fp) (h3 p kp).1 ((h3 p kp).2.trans hp) (Ob.swap h2 r))
theorem rng_of {H Kn : Hp} {Q : VK} (q : RG K Kn H Q x) : RNG K H Kn [] Q x := fun p o Kn' H' s h1 h2 h3 h4 => q p o Kn' H' ⟨s.e0, s.ef, s.ek, s.sep⟩ h1 h2 h3 h4
theorem eg_call {f : τ → Option γ} {r : γ} (h : EA K F Kn0 sl ow ta t) (hf : f t = some r) : EG K F Kn0 sl ow (tCall (PG K f) [] E ta) r := fun σ Kn H s Q q =>
  h σ Kn H s _ fun vs Kn1 H1 g1 r1 => by
    show PG K f (vs ++ []) H1 Q E
    rw [List.append_nil]
    exact ⟨Kn1, t, r, g1.kh, r1, hf, fun p o Kn' H' g' h1 h2 h3 h4 => q p o Kn' H' (g1.trans g') (fresh_back g1.hh h1) h2 h3 h4⟩
theorem EG.ev {d : Dc κ β} (h : EG K F Kn0 sl ow te d) : EV K F Kn0 sl ow te d := fun σ Kn H s Q q => h σ Kn H s Q fun p o Kn' H' g hp kp ho r => by
  obtain ⟨ws, rfl, r⟩ := r
  exact q _ (upd Kn' p (Ky.ho ws)) H' (g.know hp kp ho) ⟨p, ws, rfl, Rd.of upd_same, DK.mono (Ex.new kp) r⟩
theorem EG.cast {x y : γ} (h : EG K F Kn0 sl ow te x) (e : x = y) : EG K F Kn0 sl ow te y := e ▸ h
/-- x = e, one's own from now on -/
theorem sb_asgG {sl' : Addr → List Sl} (hs : ∀ p, sl.set i (.at p) = sl' p) (h : EG K F Kn0 sl ow te x) (k : ∀ p, SN K F Kn0 (sl' p) (oo p x :: ow) D) : SB K F Kn0 sl ow D (tAsg te (gName i)) := fun σ Kn H s =>
  h σ Kn H s _ fun p o Kn1 H1 g1 hp kp ho r1 => k p _ Kn1 H1 (hs p ▸ ((s.grow g1).ownG (p := p) (o := oo p x) rfl (fresh_back s.ef hp) kp (owned_ne s hp) ⟨o, ho, r1⟩).seta i)
theorem sb_retG (hi : sl[i]? = some (.at p)) (hj : ow[j]? = some (oo p x)) (q : RNG K F Kn0 ow0 R x) (l : ow0.Sublist ow) (hR : D.rt = R := by rfl) : SB K F Kn0 sl ow D (tRet (tVar i)) := fun σ Kn H s => by
  subst hR
  obtain ⟨o, h1, h2⟩ := s.sl.get hi
  obtain ⟨f1, f2, ob, f3, f4⟩ := s.ow.each _ (List.mem_of_getElem? hj)
  exact ⟨.ref p, by rw [h1]; exact congrArg some h2, q p ob Kn H (s.sub l).fin f1 f2 f3 f4⟩
theorem sb_retE (h : EG K F Kn0 sl ow te x) (q : RNG K F Kn0 ow0 R x) (l : ow0.Sublist ow) (hR : D.rt = R := by rfl) : SB K F Kn0 sl ow D (tRet te) := fun σ Kn H s => by
  subst hR
  exact h σ Kn H s _ fun p o Kn' H' g hp kp ho r => q p o Kn' H' ((s.grow g).sub l).fin (fresh_back s.ef hp) kp ho r
end
/-! ### dict(d), dicts alike, a text many times -/
section
variable {K : Fg} {F Kn0 : Hp} {sl sl' : List Sl} {ow ow1 : List Ow} {κ β : Type} [Rp κ] [K1 κ] [DecidableEq κ] [Rp β] {te : TE} {i j : Nat} {p : Addr}
abbrev rDictD : List V → Hp → VK → Prop := fun xs H Q => ∃ (a : Addr) (kvs : List (Key × V)), xs = [.ref a] ∧ Rd H a (.dK kvs) ∧ ∀ p, H p = none → Q (.ref p) (upd H p (.dK kvs))
theorem eg_dict {d : Dc κ β} (h : EV K F Kn0 sl ow te d) : EG K F Kn0 sl ow (tCB rDictD (tCons te tNil)) d := fun σ Kn H s Q q => h σ Kn H s _ fun v Kn1 H1 g1 r1 => by
  obtain ⟨l, ws, rfl, h1, h2⟩ := r1
  exact ⟨l, ws, rfl, rd_ex g1.kh h1, fun p hp => q p _ Kn1 _ (g1.trans (Gr.newU g1.kh hp)) (fresh_back g1.hh hp) (fresh_back g1.kh hp) upd_same ⟨ws, rfl, h2⟩⟩
theorem eg_dictO {d : Dc κ β} (hi : sl[i]? = some (.at p)) (hj : ow[j]? = some (oo p d)) : EG K F Kn0 sl ow (tCB rDictD (tCons (tVar i) tNil)) d := fun σ Kn H s Q q => by
  obtain ⟨o, h1, h2⟩ := s.sl.get hi
  obtain ⟨f1, f2, ob, f3, ws, rfl, f5⟩ := s.ow.each _ (List.mem_of_getElem? hj)
  exact ⟨.ref p, by rw [h1]; exact congrArg some h2, p, ws, rfl, Rd.of f3, fun l hl => q l _ Kn _ (Gr.newU s.ek hl) hl (fresh_back s.ek hl) upd_same ⟨ws, rfl, f5⟩⟩
/-- {k: v, ..} -/
theorem eg_disp {trs : List (TE × TE)} {kvs : List (κ × β)} (hp : EPs K F Kn0 sl ow trs kvs) (hl : kvs.length ≤ 15) : EG K F Kn0 sl ow (tDisp trs) (Dc.mk (mergeD [] kvs)) := fun σ Kn H s Q q p hp0 => by
  have g0 : Gr Kn H Kn (upd H p (.dK [])) := Gr.newU s.ek hp0
  refine hp σ Kn _ (s.grow g0) _ fun ws Kn1 H1 g1 r1 => ?_
  have e1 : H1 p = some (.dK []) := g1.hh _ _ upd_same
  have kp : Kn1 p = none := g1.sp p (ne_none_of upd_same) (fresh_back s.ek hp0)
  have g : Gr Kn H Kn1 (upd H1 p (.dK (mergeK [] ws))) := ⟨g1.kk, fun a u h => by
    have hne : a ≠ p := fun z => by rw [z, hp0] at h; cases h
    rw [upd_ne hne]
    exact g1.hh _ _ (by rw [upd_ne hne]; exact h), upd_in g1.kh kp, fun a h1 h2 => g1.sp a (Ex.nn g0.hh h1) h2⟩
  exact ⟨e1, ws, rfl, by rw [r1.length]; exact hl, q p _ Kn1 _ g hp0 kp upd_same ⟨_, rfl, DK.merge r1 .nil⟩⟩
instance {κ β : Type} [Rp κ] [K1 κ] [Rp β] : Tn (Dc κ β) := ⟨"dict", fun h => by
  obtain ⟨p, ws, rfl, h1, _⟩ := h
  rcases h1 with h1 | ⟨o, h1⟩
  · exact .base (.dK h1)
  · exact .fDict h1⟩
/-- are the dicts alike? told where they are -/
def eqDO {κ β : Type} [DecidableEq κ] [DecidableEq β] (a b : Dc κ β) : Option Bool := if a.l.length = b.l.length ∧ (a.l.all fun kv => decide (getD b.l kv.1 = some kv.2)) = true then some true else none
class FlB (β : Type) [Rp β] : Prop where
  fb : ∀ {K : Fg} {H : Hp} {v : V} {x : β}, rep K H v x → flatB v = true
  un : ∀ {K : Fg} {H : Hp} {v w : V} {x : β}, rep K H v x → rep K H w x → v = w
instance : FlB Int := ⟨fun h => by cases h; rfl, fun h1 h2 => by cases h1; cases h2; rfl⟩
instance : FlB Str := ⟨fun h => by cases h; rfl, fun h1 h2 => by cases h1; cases h2; rfl⟩
instance : FlB Bool := ⟨fun h => by cases h; rfl, fun h1 h2 => by cases h1; cases h2; rfl⟩
theorem dk_mem {Kn : Hp} {ws : List (Key × V)} {kvs : List (κ × β)} (h : DK K Kn ws kvs) {w : Key × V} (hw : w ∈ ws) : ∃ kv ∈ kvs, w.1 = K1.key kv.1 ∧ rep K Kn w.2 kv.2 := by
  unfold DK at h
  induction h with
  | nil => cases hw
  | cons q t ih =>
    rcases List.mem_cons.mp hw with rfl | hw
    · exact ⟨_, List.mem_cons_self, q⟩
    · obtain ⟨kv, h1, h2⟩ := ih hw
      exact ⟨kv, List.mem_cons_of_mem _ h1, h2⟩
theorem eqD_go [DecidableEq β] [FlB β] {a b : Dc κ β} {r r' : Bool} (h : eqDO a b = some r) {Kn H : Hp} {v w : V} (ek : Ex Kn H) (h1 : rep K Kn v a) (h2 : rep K Kn w b) {Q : VK} (q : Q (.bl r') H) : rEqDR r' v w H Q ∧ r = true := by
  obtain ⟨p1, w1, rfl, a1, a2⟩ := h1
  obtain ⟨p2, w2, rfl, b1, b2⟩ := h2
  unfold eqDO at h
  split at h
  case isFalse => cases h
  rename_i hl
  cases h
  refine ⟨⟨p1, p2, w1, w2, rfl, rfl, rd_ex ek a1, rd_ex ek b1, ?_, fun x hx => ?_, q⟩, rfl⟩
  · rw [a2.length, b2.length]
    exact hl.1
  · obtain ⟨kv, hm, e1, e2⟩ := dk_mem a2 hx
    have g := of_decide_eq_true (List.all_eq_true.mp hl.2 kv hm)
    rcases b2.get kv.1 with ⟨z, _⟩ | ⟨y, v, z1, z2, z3⟩
    · rw [z] at g
      cases g
    · rw [z1] at g
      cases g
      refine ⟨?_, FlB.fb e2⟩
      rw [e1]
      have : valV w2 (K1.key kv.1) = some v := z2
      rw [this, FlB.un e2 z3]
theorem r2_eqD [DecidableEq β] [FlB β] {a b : Dc κ β} {r : Bool} (h : eqDO a b = some r) : R2V K (rEqDR true) a b r := fun Kn H v w ek h1 h2 Q q => by
  obtain ⟨_, e⟩ := eqD_go h ek h1 h2 (r' := true) (Q := fun _ _ => True) trivial
  subst e
  exact (eqD_go h ek h1 h2 (r' := true) (q.fl (z := true) ek)).1
theorem r2_neD [DecidableEq β] [FlB β] {a b : Dc κ β} {r : Bool} (h : eqDO a b = some r) : R2V K (rEqDR false) a b (!r) := fun Kn H v w ek h1 h2 Q q => by
  obtain ⟨_, e⟩ := eqD_go h ek h1 h2 (r' := true) (Q := fun _ _ => True) trivial
  subst e
  exact (eqD_go h ek h1 h2 (r' := false) (q.fl (z := false) ek)).1
end
end Wk
/-! Wdy: values of any kind (None, truths, numbers, texts, tuples and lists of these), read as data; a dict of the module; a def that calls itself -/
namespace Wk
open PySem PySem.Spec L2 Evl
mutual
inductive Dq (H : Hp) : V → PyData → Prop
  | non : Dq H .non .none
  | bl (b : Bool) : Dq H (.bl b) (.bool b)
  | int (i : Int) : Dq H (.int i) (.int i)
  | str (x : Str) : Dq H (.str x) (.str x)
  | lst {a : Addr} {xs : List V} {ds : List PyData} : H a = some (.lst xs) → DqAll H xs ds → Dq H (.ref a) (.list ds)
  | tup {a : Addr} {xs : List V} {ds : List PyData} : H a = some (.tup xs) → DqAll H xs ds → Dq H (.ref a) (.tuple ds)
inductive DqAll (H : Hp) : List V → List PyData → Prop
  | nil : DqAll H [] []
  | cons {v : V} {vs : List V} {d : PyData} {ds : List PyData} : Dq H v d → DqAll H vs ds → DqAll H (v :: vs) (d :: ds)
end
theorem Dq.swap {H H' : Hp} (e : Sw H H') {v : V} {d : PyData} (h : Dq H v d) : Dq H' v d :=
  Dq.rec (motive_1 := fun v d _ => Dq H' v d) (motive_2 := fun vs ds _ => DqAll H' vs ds) .non .bl .int .str (fun s _ ih => .lst (e.lst s) ih) (fun s _ ih => .tup (e.tup s) ih) .nil (fun _ _ h1 h2 => .cons h1 h2) h
theorem DqAll.swap {H H' : Hp} (e : Sw H H') {v : List V} {d : List PyData} (h : DqAll H v d) : DqAll H' v d :=
  DqAll.rec (motive_1 := fun v d _ => Dq H' v d) (motive_2 := fun vs ds _ => DqAll H' vs ds) .non .bl .int .str (fun s _ ih => .lst (e.lst s) ih) (fun s _ ih => .tup (e.tup s) ih) .nil (fun _ _ h1 h2 => .cons h1 h2) h
theorem Dq.dp {K : Fg} {H : Hp} {v : V} {d : PyData} (h : Dq H v d) : Dp K H v d :=
  Dq.rec (motive_1 := fun v d _ => Dp K H v d) (motive_2 := fun vs ds _ => DpAll K H vs ds) .non .bl .int .str (fun s _ ih => .lst (sq_of s) ih) (fun s _ ih => .tup (st_of s) ih) .nil (fun _ _ h1 h2 => .cons h1 h2) h
structure Dy where
  d : PyData
instance : Rp Dy := { rep := fun _ H v x => Dq H v x.d, swap := fun e h => Dq.swap e h }
/-- to data -/
class Ud (α : Type) [Rp α] where
  toD : α → PyData
  is : ∀ {K : Fg} {H : Hp} {v : V} {a : α}, rep K H v a → Dq H v (toD a)
class Us (τ : Type) [Tp τ] where
  toDs : τ → List PyData
  is : ∀ {K : Fg} {H : Hp} {vs : List V} {a : τ}, rept K H vs a → DqAll H vs (toDs a)
instance : Ud Int := ⟨.int, fun h => by cases h; exact .int _⟩
instance : Ud Bool := ⟨.bool, fun h => by cases h; exact .bl _⟩
instance : Ud Str := ⟨.str, fun h => by cases h; exact .str _⟩
instance : Ud Nn := ⟨fun _ => .none, fun h => by cases h; exact .non⟩
instance : Ud Dy := ⟨Dy.d, fun h => h⟩
instance {α : Type} [Rp α] [Ud α] : Ud (Option α) where
  toD x := match x with | none => .none | some a => Ud.toD a
  is {K H v a} h := by
    cases a with
    | none => cases h; exact .non
    | some a => exact Ud.is h.2
theorem dqAll_of {α : Type} [Rp α] [Ud α] {K : Fg} {H : Hp} : ∀ {vs : List V} {xs : List α}, Paired (rep K H) vs xs → DqAll H vs (xs.map Ud.toD)
  | _, _, .nil => .nil
  | _, _, .cons r t => .cons (Ud.is r) (dqAll_of t)
instance {α : Type} [Rp α] [Ud α] : Ud (List α) where
  toD xs := .list (xs.map Ud.toD)
  is h := by
    obtain ⟨p, vs, rfl, h1, h2⟩ := h
    exact .lst h1 (dqAll_of h2)
instance {α : Type} [Rp α] [Ud α] : Ud (Tu α) where
  toD xs := .tuple (xs.l.map Ud.toD)
  is h := by
    obtain ⟨p, vs, rfl, h1, h2⟩ := h
    exact .tup h1 (dqAll_of h2)
instance : Us Unit := ⟨fun _ => [], fun h => by cases h; exact .nil⟩
instance {α τ : Type} [Rp α] [Tp τ] [Ud α] [Us τ] : Us (α × τ) where
  toDs t := Ud.toD t.1 :: Us.toDs t.2
  is h := by
    obtain ⟨v, r, rfl, h1, h2⟩ := h
    exact .cons (Ud.is h1) (Us.is h2)
instance {α τ : Type} [Rp α] [Tp τ] [Ud α] [Us τ] : Ud (α × τ) where
  toD t := .tuple (Us.toDs (τ := α × τ) t)
  is h := by
    obtain ⟨p, vs, rfl, h1, h2⟩ := h
    exact .tup h1 (Us.is h2)
/-- out of data, where it is of the kind -/
class Od (α : Type) [Rp α] where
  of : PyData → Option α
  un : ∀ {K : Fg} {H : Hp} {v : V} {d : PyData} {a : α}, Dq H v d → of d = some a → rep K H v a
class Os (τ : Type) [Tp τ] where
  ofs : List PyData → Option τ
  un : ∀ {K : Fg} {H : Hp} {vs : List V} {ds : List PyData} {a : τ}, DqAll H vs ds → ofs ds = some a → rept K H vs a
instance : Od Int := ⟨fun d => match d with | .int i => some i | _ => none, fun h e => by cases h <;> cases e; rfl⟩
instance : Od Bool := ⟨fun d => match d with | .bool i => some i | _ => none, fun h e => by cases h <;> cases e; rfl⟩
instance : Od Str := ⟨fun d => match d with | .str i => some i | _ => none, fun h e => by cases h <;> cases e; rfl⟩
instance : Od Dy := ⟨fun d => some ⟨d⟩, fun h e => by cases e; exact h⟩
def ofAll {α : Type} [Rp α] [Od α] : List PyData → Option (List α)
  | [] => some []
  | d :: ds => (Od.of d).bind fun x => (ofAll ds).bind fun xs => some (x :: xs)
theorem ofAll_un {α : Type} [Rp α] [Od α] {K : Fg} {H : Hp} : ∀ {ds : List PyData} {vs : List V} {xs : List α}, DqAll H vs ds → ofAll ds = some xs → Paired (rep K H) vs xs
  | [], _, _, h, e => by
    cases h
    cases e
    exact .nil
  | d :: ds, _, xs, h, e => by
    cases h with
    | cons h1 h2 =>
      obtain ⟨x, ex, e⟩ := bind_some e
      obtain ⟨ys, ey, e⟩ := bind_some e
      cases e
      exact .cons (Od.un h1 ex) (ofAll_un h2 ey)
instance {α : Type} [Rp α] [Od α] : Od (Tu α) where
  of d := match d with | .tuple ds => (ofAll ds).map Tu.mk | _ => none
  un h e := by
    cases h with
    | tup h1 h2 =>
      obtain ⟨xs, e1, rfl⟩ := Option.map_eq_some_iff.mp e
      exact ⟨_, _, rfl, h1, ofAll_un h2 e1⟩
    | _ => cases e
instance {α : Type} [Rp α] [Od α] : Od (List α) where
  of d := match d with | .list ds => ofAll ds | _ => none
  un h e := by
    cases h with
    | lst h1 h2 => exact ⟨_, _, rfl, h1, ofAll_un h2 e⟩
    | _ => cases e
instance : Os Unit := ⟨fun ds => match ds with | [] => some () | _ => none, fun h e => by cases h <;> cases e; rfl⟩
instance {α τ : Type} [Rp α] [Tp τ] [Od α] [Os τ] : Os (α × τ) where
  ofs ds := match ds with | [] => none | d :: ds => (Od.of d).bind fun x => (Os.ofs ds).bind fun t => some (x, t)
  un h e := by
    cases h with
    | nil => cases e
    | cons h1 h2 =>
      obtain ⟨x, ex, e⟩ := bind_some e
      obtain ⟨t, et, e⟩ := bind_some e
      cases e
      exact ⟨_, _, rfl, Od.un h1 ex, Os.un h2 et⟩
instance {α τ : Type} [Rp α] [Tp τ] [Od α] [Os τ] : Od (α × τ) where
  of d := match d with | .tuple ds => Os.ofs (τ := α × τ) ds | _ => none
  un h e := by
    cases h with
    | tup h1 h2 => exact ⟨_, _, rfl, h1, Os.un h2 e⟩
    | _ => cases e
def ofD {α : Type} [Rp α] [Od α] (x : Dy) : Option α := Od.of x.d
def upD {α : Type} [Rp α] [Ud α] (x : α) : Dy := ⟨Ud.toD x⟩
def eqYO (a b : Dy) : Option Bool := if SeqAt.shaped a.d = true ∧ SeqAt.shaped b.d = true then some (PyData.eqv a.d b.d) else none
section
variable {K : Fg} {F Kn0 : Hp} {sl sl' : List Sl} {ow ow1 : List Ow} {α β τ : Type} [Rp α] [Rp β] [Tp τ] {te tk : TE} {x : Dy}
theorem ev_of [Od α] {y : α} (h : EV K F Kn0 sl ow te x) (e : ofD x = some y) : EV K F Kn0 sl ow te y := fun σ Kn H s Q q => h σ Kn H s Q fun v Kn' H' g r => q v Kn' H' g (Od.un r e)
theorem ev_up [Ud α] {y : α} (h : EV K F Kn0 sl ow te y) : EV K F Kn0 sl ow te (upD y) := fun σ Kn H s Q q => h σ Kn H s Q fun v Kn' H' g r => q v Kn' H' g (Ud.is r)
theorem em_up [Ud α] {y : α} (h : EM K F Kn0 sl ow te ow1 y) : EM K F Kn0 sl ow te ow1 (upD y) := fun σ Kn H s Q q => h σ Kn H s Q fun v Kn' H' e s' r => q v Kn' H' e s' (Ud.is r)
/-- a list, where a list is read -/
theorem ev_fz {xs : List α} (h : EV K F Kn0 sl ow te xs) : EV K F Kn0 sl ow te (Fz.mk xs) := fun σ Kn H s Q q => h σ Kn H s Q fun v Kn' H' g r => by
  obtain ⟨p, vs, rfl, h1, h2⟩ := r
  exact q _ Kn' H' g ⟨p, vs, rfl, sq_of h1, h2⟩
theorem r2_eqY {a b : Dy} {c : Bool} (h : eqYO a b = some c) : R2V K (rEqD K) a b c := fun Kn H v w ek h1 h2 Q q => by
  unfold eqYO at h
  split at h
  case isFalse => cases h
  rename_i hb
  cases h
  exact ⟨a.d, b.d, dp_mono ek (Dq.dp h1), dp_mono ek (Dq.dp h2), hb.1, hb.2, q.fl ek⟩
theorem r2_neY {a b : Dy} {c : Bool} (h : eqYO a b = some c) : R2V K (rNeD K) a b (!c) := fun Kn H v w ek h1 h2 Q q => by
  unfold eqYO at h
  split at h
  case isFalse => cases h
  rename_i hb
  cases h
  exact ⟨a.d, b.d, dp_mono ek (Dq.dp h1), dp_mono ek (Dq.dp h2), hb.1, hb.2, q.fl ek⟩
/-- D[k], D a dict of the module -/
theorem ev_kd {w : World} {p : Addr} {tab : List (Str × Str)} {k z : Str} (ht : ∀ kv ∈ tab, KDct K w p kv.1 (.str kv.2)) (hk : EV K F Kn0 sl ow tk k) (hz : getD tab k = some z) : EV K F Kn0 sl ow (tOp (rIxD K w) (tC (.ref p)) tk) z := fun σ Kn H s Q q =>
  hk σ Kn H s _ fun v Kn1 H1 g1 r1 => by
    cases r1
    unfold getD at hz
    obtain ⟨kv, hf, rfl⟩ := Option.map_eq_some_iff.mp hz
    have hk2 := List.find?_some hf
    rw [decide_eq_true_eq] at hk2
    have := ht kv (List.mem_of_find?_eq_some hf)
    rw [hk2] at this
    exact ⟨p, _, _, rfl, rfl, this, q _ Kn1 H1 g1 rfl⟩
theorem k_ixkd {X : Cx} {w : World} (h : X.K = K := by rfl) (hw : X.w = w := by rfl) : IxR X (rIxD K w) := by
  subst h
  subst hw
  exact ix_kdict


end
theorem fnok_none {P : Program} {w : World} {K : Fg} {mg : Str → Option Value} {base : Heap} {CX : CXT} {k : Nat} {f : Addr} {fd : FuncData} {ps : List Str} {τ α : Type} [Tp τ] [Rp α] : FnOk P w K mg base CX k f fd ps (PF K (fun _ : τ => (none : Option α))) := by
  refine ⟨fun vs H Q E h => ?_, fun A outer s H args us vs Q E hr he hb hv h => ?_⟩
  · obtain ⟨_, _, _, _, _, h, _⟩ := h
    cases h
  · obtain ⟨_, _, _, _, _, h, _⟩ := h
    cases h
theorem fnok_noneL {P : Program} {w : World} {K : Fg} {mg : Str → Option Value} {base : Heap} {CX : CXT} {k : Nat} {f : Addr} {fd : FuncData} {ps : List Str} {τ α : Type} [Tp τ] [Rp α] : FnOk P w K mg base CX k f fd ps (PL K (fun _ : τ => (none : Option (List α)))) := by
  refine ⟨fun vs H Q E h => ?_, fun A outer s H args us vs Q E hr he hb hv h => ?_⟩
  · obtain ⟨_, _, _, _, _, h, _⟩ := h
    cases h
  · obtain ⟨_, _, _, _, _, h, _⟩ := h
    cases h
end Wk
/-! Wmix: slices of tuples and texts, extend, a list of unlike things -/
namespace Wk
open PySem PySem.Spec L2 Evl
/-- the places from a on, b of them -/
inductive Cu : {τ : Type} → [Tp τ] → Nat → Nat → {υ : Type} → [Tp υ] → τ → υ → Prop
  | nil {τ : Type} [Tp τ] (t : τ) : Cu 0 0 t ()
  | take {α τ υ : Type} [Rp α] [Tp τ] [Tp υ] {b : Nat} (x : α) {t : τ} {u : υ} : Cu 0 b t u → Cu 0 (b + 1) (x, t) (x, u)
  | drop {α τ υ : Type} [Rp α] [Tp τ] [Tp υ] {a b : Nat} (x : α) {t : τ} {u : υ} : Cu a b t u → Cu (a + 1) b (x, t) u
theorem Cu.get {K : Fg} {H : Hp} {τ : Type} [i : Tp τ] {a b : Nat} {υ : Type} [j : Tp υ] {t : τ} {u : υ} (h : Cu a b t u) : ∀ {vs : List V}, rept K H vs t → rept K H ((vs.drop a).take b) u := by
  induction h with
  | nil t => exact fun _ => rfl
  | take x _ ih =>
    intro vs r
    obtain ⟨v, r, rfl, h1, h2⟩ := r
    exact ⟨v, _, rfl, h1, ih h2⟩
  | drop x _ ih =>
    intro vs r
    obtain ⟨v, r, rfl, h1, h2⟩ := r
    exact ih h2
structure Hl (τ : Type) where
  t : τ
  deriving DecidableEq
instance {τ : Type} [Tp τ] : Rp (Hl τ) where
  rep K H v x := ∃ p vs, v = .ref p ∧ H p = some (.lst vs) ∧ rept K H vs x.t
  swap e h := by
    obtain ⟨p, vs, h1, h2, h3⟩ := h
    exact ⟨p, vs, h1, e.lst h2, Tp.swap e h3⟩
instance {τ : Type} [Tp τ] [Pq τ] : Pd (Hl τ) where
  toD x := .list (Pq.toDs x.t)
  dp := Pq.dp τ + 1
  isD h := by
    obtain ⟨p, vs, rfl, h1, h2⟩ := h
    exact .lst (sq_of h1) (Pq.isD h2)
  dep a := by
    simp only [PyData.depth]
    exact Nat.succ_le_succ (Pq.dep a.t)
  eqd a b := by
    simp only [PyData.eqv]
    rw [Pq.eqd]
    cases a
    cases b
    simp
def cutSO (z : Str) (lo hi : Option Int) : Option Str := if z.length ≤ 1000000 then some (cutS z lo hi) else none
section
variable {K : Fg} {F Kn0 : Hp} {sl sl' : List Sl} {ow ow1 ow2 : List Ow} {α β γ τ υ : Type} [Rp α] [Rp β] [Rp γ] [Tp τ] [Tp υ] {ta : TA} {tb te : TE} {D : Ends} {i j : Nat} {p : Addr}
theorem ev_tsl {t : α × τ} {u : β × υ} {tl th : TO} {lo hi : Option Int} {a b : Nat} (h : EV K F Kn0 sl ow te t) (hl : EO K F Kn0 sl ow tl lo) (hh : EO K F Kn0 sl ow th hi)
    (ha : HT.sIx (Tp.n (α × τ)) 0 lo = a) (hb : HT.sIx (Tp.n (α × τ)) (Tp.n (α × τ)) hi - a = b) (hw : ¬ (HT.sIx (Tp.n (α × τ)) 0 lo = 0 ∧ HT.sIx (Tp.n (α × τ)) (Tp.n (α × τ)) hi = Tp.n (α × τ))) (hc : Cu a b t u) :
    EV K F Kn0 sl ow (tSl (rSlT K) te tl th) u := fun σ Kn H s Q q =>
  h σ Kn H s _ fun v Kn1 H1 g1 r1 => hl σ Kn1 H1 (s.grow g1) _ fun Kn2 H2 g2 => hh σ Kn2 H2 ((s.grow g1).grow g2) _ fun Kn3 H3 g3 => by
    obtain ⟨p, ws, rfl, h3, h4⟩ := r1
    have g : Gr Kn H Kn3 H3 := (g1.trans g2).trans g3
    have e13 : Ex Kn1 Kn3 := g2.kk.trans g3.kk
    have el := Tp.len h4
    refine ⟨p, ws, rfl, st_of ((e13.trans g3.kh) _ _ h3), by rw [el]; exact hw, fun l hl => ?_⟩
    have gn := Gr.new (o := .tup (cutV ws lo hi)) g3.kh hl
    refine q _ _ _ (g.trans gn) ⟨l, _, rfl, upd_same, ?_⟩
    have := hc.get (Tp.mono (e13.trans gn.kk) h4)
    have e : cutV ws lo hi = (ws.drop a).take b := by
      unfold cutV
      rw [el, ha, hb]
    rw [e] at this ⊢
    exact this
theorem ev_slS {z r : Str} {tl th : TO} {lo hi : Option Int} (h : EV K F Kn0 sl ow te z) (hl : EO K F Kn0 sl ow tl lo) (hh : EO K F Kn0 sl ow th hi) (hz : cutSO z lo hi = some r) : EV K F Kn0 sl ow (tSl rSlS te tl th) r := fun σ Kn H s Q q =>
  h σ Kn H s _ fun v Kn1 H1 g1 r1 => hl σ Kn1 H1 (s.grow g1) _ fun Kn2 H2 g2 => hh σ Kn2 H2 ((s.grow g1).grow g2) _ fun Kn3 H3 g3 => by
    cases r1
    unfold cutSO at hz
    split at hz
    · rename_i hq
      cases hz
      exact ⟨z, rfl, le_line hq, q _ Kn3 H3 ((g1.trans g2).trans g3) rfl⟩
    · cases hz
theorem ev_hl {t : τ} (h : EA K F Kn0 sl ow ta t) (hz : Tp.n τ ≤ 1000000 := by decide) : EV K F Kn0 sl ow (tLst ta) (Hl.mk t) := fun σ Kn H s Q q =>
  h σ Kn H s _ fun vs Kn1 H1 g1 r1 => ⟨by rw [Tp.len r1]; exact le_line hz, fun p hp =>
    q _ (upd Kn1 p (.lst vs)) _ (g1.trans (Gr.new g1.kh hp)) ⟨p, vs, rfl, upd_same, Tp.mono (Gr.new g1.kh hp).kk r1⟩⟩
theorem r2_hix {t : Hl τ} {n : Nat} {z : γ} (h : At n t.t z) : R2V K (rIxL K) t (n : Int) z := fun Kn H v w ek h1 h2 Q q => by
  obtain ⟨p, ws, rfl, h3, h4⟩ := h1
  cases h2
  obtain ⟨u, e, r⟩ := h.get h4
  exact ⟨p, ws, n, u, rfl, rfl, sq_of (ek _ _ h3), atI_nat e, q.at ek r⟩
theorem k_slt {X : Cx} (h : X.K = K := by rfl) : SlR X (rSlT K) := h ▸ sl_tup
/-- xs.extend(ys), xs one's own -/
theorem sb_extO {xs ys zs : List α} (hi : sl[i]? = some (.at p)) (hj : ow[j]? = some (ol p xs)) (h : EV K F Kn0 sl ow te ys) (hz : catO xs ys = some zs) (ho : ow.set j (ol p zs) = ow1) (k : SN K F Kn0 sl ow1 D) :
    SB K F Kn0 sl ow D (tDrop (tBM K "list" rExtend (tVar i) (tCons te tNil))) := fun σ Kn H s => by
  obtain ⟨o, h1, h2⟩ := s.sl.get hi
  obtain ⟨f1, f2, ws, f3, f4⟩ := s.ow.each _ (List.mem_of_getElem? hj)
  unfold catO at hz
  split at hz
  case isFalse => cases hz
  rename_i hq
  cases hz
  refine ⟨.ref p, by rw [h1]; exact congrArg some h2, Or.inl ⟨rfl, ws, sq_of f3⟩, h σ Kn H s _ fun v Kn1 H1 g1 r1 => ?_⟩
  obtain ⟨b, vs, rfl, h3, h4⟩ := r1
  refine ⟨p, b, ws, vs, rfl, rfl, g1.hh _ _ f3, g1.kh _ _ h3, by rw [paired_len f4, paired_len h4]; exact le_line hq, k _ Kn1 _ ?_⟩
  have kp1 : Kn1 p = none := g1.sp p (ne_none_of f3) f2
  subst ho
  exact (s.grow g1).write hj (Ex.refl _) (upd_in g1.kh kp1) (fun q hq _ => upd_ne hq) (fun _ _ h => h) upd_same (paired_append (paired_mono g1.kk f4) h4)
end
end Wk
set_option synthInstance.maxHeartbeats 4000000
set_option synthInstance.maxSize 20000
/-! the mirrors of k85, printed by gen.py -/
namespace Wk85
open PySem L2 Wk
def kd_SIDES : List (Str × Str) := [("left", "right"), ("right", "left")]
def kd_ANCHORS : List (Str × Str) := [("start", "end"), ("end", "start"), ("mid", "mid2"), ("mid2", "mid")]
noncomputable def m_other_anchor (anchor_1 : (Str × Int × Unit)) : Option (Str × Int × Unit) :=
  (getD kd_ANCHORS anchor_1.1).bind fun i_2 =>
  some (i_2, ((0 : Int) - anchor_1.2.1), ())
noncomputable def m_mirrored_what (kind_3 : Str) (what_4 : Dy) : Option Dy :=
  (if (decide (kind_3 ∈ ([("row" : Str), ("column" : Str), ("wrap" : Str)] : List Str))) = true then (((ofD what_4 : Option (Tu Dy))).bind fun o_8 =>
  (atI o_8.l (0 : Int)).bind fun i_9 =>
  ((ofD what_4 : Option (Tu Dy))).bind fun o_10 =>
  (atI o_10.l (1 : Int)).bind fun i_11 =>
  ((ofD what_4 : Option (Tu Dy))).bind fun o_12 =>
  (atI o_12.l (2 : Int)).bind fun i_13 =>
  ((ofD i_13 : Option Str)).bind fun o_14 =>
  (getD kd_SIDES o_14).bind fun i_15 =>
  some (upD (i_9, i_11, i_15, ()))) else ((if (decide (kind_3 = ("table" : Str))) = true then (((ofD what_4 : Option (Tu Dy))).bind fun o_19 =>
  (atI o_19.l (0 : Int)).bind fun i_20 =>
  ((ofD what_4 : Option (Tu Dy))).bind fun o_21 =>
  (atI o_21.l (1 : Int)).bind fun i_22 =>
  ((ofD what_4 : Option (Tu Dy))).bind fun o_23 =>
  (atI o_23.l (2 : Int)).bind fun i_24 =>
  ((ofD i_24 : Option Str)).bind fun o_25 =>
  (getD kd_SIDES o_25).bind fun i_26 =>
  ((ofD what_4 : Option (Tu Dy))).bind fun o_27 =>
  (atI o_27.l (3 : Int)).bind fun i_28 =>
  some (upD (i_20, i_22, i_26, i_28, ()))) else ((if (decide (kind_3 = ("flow" : Str))) = true then (((ofD what_4 : Option (Tu Dy))).bind fun o_32 =>
  (atI o_32.l (0 : Int)).bind fun i_33 =>
  ((ofD i_33 : Option (Tu Dy))).bind fun o_34 =>
  (lcM (fun _ => some true) (fun side_35 => (((ofD side_35 : Option Str)).bind fun o_37 => (getD kd_SIDES o_37).bind fun i_38 => some i_38)) o_34.l).bind fun zs_36 =>
  ((ofD what_4 : Option (Tu Dy))).bind fun o_39 =>
  (atI o_39.l (1 : Int)).bind fun i_40 =>
  ((ofD what_4 : Option (Tu Dy))).bind fun o_41 =>
  (atI o_41.l (2 : Int)).bind fun i_42 =>
  some (upD ((Tu.mk zs_36), i_40, i_42, ()))) else ((if (decide (kind_3 = ("over" : Str))) = true then (((ofD what_4 : Option (Tu (Dy × Dy × Unit)))).bind fun o_46 =>
  (lcM (fun _ => some true) (fun (across_47, down_48, _) => (((ofD across_47 : Option (Str × Int × Unit))).bind fun o_50 => (m_other_anchor o_50).bind fun r_51 => some (r_51, down_48, ()))) o_46.l).bind fun zs_49 =>
  some (upD (Tu.mk zs_49))) else (some what_4))))))))
noncomputable def m_mirrored_step (rec_mirrored : (Dy → Option Dy)) (tree_52 : Dy) : Option Dy :=
  ((ofD tree_52 : Option (Dy × Dy × Dy × Dy × Dy × Unit))).bind fun o_53 =>
  (some o_53).bind fun (kind_54, name_55, own_56, what_57, parts_58, _) =>
  ((ofD kind_54 : Option Str)).bind fun o_59 =>
  (m_mirrored_what o_59 what_57).bind fun r_60 =>
  ((ofD parts_58 : Option (Tu Dy))).bind fun o_61 =>
  (lcM (fun _ => some true) (fun part_62 => ((rec_mirrored part_62).bind fun r_64 => some r_64)) o_61.l).bind fun zs_63 =>
  some (upD (kind_54, name_55, own_56, r_60, (Tu.mk zs_63), ()))
noncomputable def m_mirrored : Nat → Dy → Option Dy
  | 0 => fun _ => none
  | n_ + 1 => m_mirrored_step (m_mirrored n_)
noncomputable def m__law_cell_at (script_65 : (Fz Int)) (k_66 : Int) : Option Int :=
  (if (decide (k_66 < (script_65.l.length : Int))) = true then ((atI script_65.l k_66).bind fun i_70 =>
  some i_70) else (some (0 : Int)))
noncomputable def m__law_numbers_L1 : Int → (Int × (List Int)) → Option (Int × (List Int)) := fun k_81 (number_79, found_80) =>
  (appO found_80 (number_79 % (5040 : Int))).bind fun found_87 =>
  (some (number_79 / (5040 : Int))).bind fun number_88 =>
  some (number_88, found_87)
noncomputable def m__law_numbers_L2 : Int → (Int × (List Int)) → Option (Int × (List Int)) := fun k_96 (number_94, found_95) =>
  (some ((((number_94 + k_96) + (1 : Int)) * (48271 : Int)) % (2147483647 : Int))).bind fun number_102 =>
  (appO found_95 ((number_102 * (69621 : Int)) % (2147483629 : Int))).bind fun found_103 =>
  some (number_102, found_103)
noncomputable def m__law_numbers (cell_71 : Int) (many_72 : Int) : Option (List Int) :=
  (some ([] : List Int)).bind fun found_73 =>
  (some (cell_71 - (1000000000000000000 : Int))).bind fun number_74 =>
  (if (decide ((0 : Int) ≤ number_74)) = true then ((rngO 0 many_72).bind fun rg_78 =>
  (forS (m__law_numbers_L1) rg_78 (number_74, found_73)).bind fun (number_89, found_90) =>
  some found_90) else ((some (cell_71 % (2147483647 : Int))).bind fun number_92 =>
  (rngO 0 (many_72 + (1 : Int))).bind fun rg_93 =>
  (forS (m__law_numbers_L2) rg_93 (number_92, found_73)).bind fun (number_104, found_105) =>
  some (cut found_105 (some (1 : Int)) none)))
noncomputable def m__law_own (some_107 : (List Int)) (group_108 : Int) : Option ((Int × Int × Unit) × (Int × Int × Unit) × Int × Int × Int × Int × Unit) :=
  (atI some_107 (0 : Int)).bind fun i_109 =>
  (atI some_107 (1 : Int)).bind fun i_110 =>
  (atI ([(0 : Int), (i_109 % (12 : Int))] : List Int) (i_110 % (2 : Int))).bind fun i_111 =>
  (some i_111).bind fun least_112 =>
  (atI some_107 (2 : Int)).bind fun i_113 =>
  (atI some_107 (1 : Int)).bind fun i_114 =>
  (atI ([(least_112 + (i_113 % (40 : Int))), (1000000 : Int), least_112] : List Int) ((i_114 / (2 : Int)) % (3 : Int))).bind fun i_115 =>
  (some i_115).bind fun most_116 =>
  (atI some_107 (3 : Int)).bind fun i_117 =>
  (atI some_107 (1 : Int)).bind fun i_118 =>
  (atI ([(0 : Int), (i_117 % (5 : Int))] : List Int) ((i_118 / (6 : Int)) % (2 : Int))).bind fun i_119 =>
  (some i_119).bind fun low_120 =>
  (atI some_107 (4 : Int)).bind fun i_121 =>
  (atI some_107 (1 : Int)).bind fun i_122 =>
  (atI ([(low_120 + (i_121 % (20 : Int))), (1000000 : Int), low_120] : List Int) ((i_122 / (12 : Int)) % (3 : Int))).bind fun i_123 =>
  (some i_123).bind fun high_124 =>
  (atI some_107 (5 : Int)).bind fun i_125 =>
  (atI some_107 (6 : Int)).bind fun i_126 =>
  (atI some_107 (7 : Int)).bind fun i_127 =>
  some ((least_112, most_116, ()), (low_120, high_124, ()), (i_125 % (4 : Int)), (i_126 % (4 : Int)), (i_127 % (3 : Int)), group_108, ())
noncomputable def m__law_words (some_128 : (List Int)) : Option (Tu (Tu Str)) :=
  (some ([(Tu.mk [("ab" : Str)]), (Tu.mk [("cde" : Str), ("f" : Str)]), (Tu.mk [("ghij" : Str)]), (Tu.mk [("k" : Str), ("l" : Str), ("mnop" : Str)]), (Tu.mk [("qr" : Str)]), (Tu.mk [("s" : Str), ("tuv" : Str)])] : List (Tu Str))).bind fun words_here_129 =>
  (lcM (fun _ => some true) (fun number_130 => ((atI words_here_129 (number_130 % (6 : Int))).bind fun i_132 => some i_132)) some_128).bind fun zs_131 =>
  some (Tu.mk zs_131)
noncomputable def m__law_what_L1 (some_134 : (List Int)) (columns_154 : Int) : Int → ((List (Int × Int × Unit))) → Option ((List (Int × Int × Unit))) := fun k_158 spans_157 =>
  (atI some_134 ((4 : Int) + (k_158 % (4 : Int)))).bind fun i_164 =>
  (some i_164).bind fun number_165 =>
  (divO number_165 (k_158 + (1 : Int))).bind fun q_166 =>
  (modO q_166 columns_154).bind fun r_167 =>
  (appO spans_157 (((1 : Int) + r_167), ((1 : Int) + ((number_165 / (7 : Int)) % (2 : Int))), ())).bind fun spans_168 =>
  some spans_168
noncomputable def m__law_what_L2 (some_134 : (List Int)) (anchors_191 : (List Str)) : Int → ((List ((Str × Int × Unit) × (Str × Int × Unit) × Unit))) → Option ((List ((Str × Int × Unit) × (Str × Int × Unit) × Unit))) := fun k_195 told_194 =>
  (atI some_134 (k_195 % (4 : Int))).bind fun i_201 =>
  (atI anchors_191 (i_201 % (4 : Int))).bind fun i_202 =>
  (atI some_134 (k_195 % (4 : Int))).bind fun i_203 =>
  (some (i_202, (((i_203 / (4 : Int)) % (9 : Int)) - (4 : Int)), ())).bind fun across_204 =>
  (atI some_134 ((4 : Int) + (k_195 % (4 : Int)))).bind fun i_205 =>
  (some i_205).bind fun number_206 =>
  (atI anchors_191 (number_206 % (4 : Int))).bind fun i_207 =>
  (appO told_194 (across_204, (i_207, (((number_206 / (4 : Int)) % (9 : Int)) - (4 : Int)), ()), ())).bind fun told_208 =>
  some told_208
noncomputable def m__law_what (kind_133 : Str) (some_134 : (List Int)) (many_135 : Int) : Option Dy :=
  (some ([("left" : Str), ("right" : Str)] : List Str)).bind fun sides_136 =>
  (if (decide (kind_133 = ("leaf" : Str))) = true then ((atI some_134 (0 : Int)).bind fun i_140 =>
  (atI some_134 (1 : Int)).bind fun i_141 =>
  some (upD ((i_140 % (30 : Int)), (i_141 % (8 : Int)), ()))) else ((if (decide (kind_133 ∈ ([("row" : Str), ("column" : Str), ("wrap" : Str)] : List Str))) = true then ((atI some_134 (0 : Int)).bind fun i_145 =>
  (atI some_134 (1 : Int)).bind fun i_146 =>
  (atI ([("start" : Str), ("end" : Str), ("mid" : Str), ("mid2" : Str)] : List Str) (i_146 % (4 : Int))).bind fun i_147 =>
  (atI some_134 (2 : Int)).bind fun i_148 =>
  (atI sides_136 (i_148 % (2 : Int))).bind fun i_149 =>
  some (upD ((i_145 % (4 : Int)), i_147, i_149, ()))) else ((if (decide (kind_133 = ("table" : Str))) = true then ((atI some_134 (0 : Int)).bind fun i_153 =>
  (some ((1 : Int) + (i_153 % (3 : Int)))).bind fun columns_154 =>
  (some ([] : List (Int × Int × Unit))).bind fun spans_155 =>
  (rngO 0 many_135).bind fun rg_156 =>
  (forS (m__law_what_L1 some_134 columns_154) rg_156 spans_155).bind fun spans_169 =>
  (atI some_134 (1 : Int)).bind fun i_171 =>
  (atI some_134 (2 : Int)).bind fun i_172 =>
  (atI sides_136 (i_172 % (2 : Int))).bind fun i_173 =>
  some (upD (columns_154, (i_171 % (3 : Int)), i_173, (Tu.mk spans_169), ()))) else ((if (decide (kind_133 = ("words" : Str))) = true then ((atI some_134 (8 : Int)).bind fun i_177 =>
  (m__law_words (cut some_134 none (some (i_177 % (7 : Int))))).bind fun r_178 =>
  (atI some_134 (2 : Int)).bind fun i_179 =>
  some (upD (r_178, (i_179 % (60 : Int)), ()))) else ((if (decide (kind_133 = ("flow" : Str))) = true then ((rngO 0 many_135).bind fun rg_183 =>
  (lcM (fun _ => some true) (fun k_184 => ((atI some_134 (k_184 % (8 : Int))).bind fun i_186 => (atI sides_136 (i_186 % (2 : Int))).bind fun i_187 => some i_187)) rg_183).bind fun zs_185 =>
  (atI some_134 (8 : Int)).bind fun i_188 =>
  (m__law_words (cut some_134 none (some (i_188 % (5 : Int))))).bind fun r_189 =>
  (atI some_134 (2 : Int)).bind fun i_190 =>
  some (upD ((Tu.mk zs_185), r_189, (i_190 % (60 : Int)), ()))) else ((some ([("start" : Str), ("mid" : Str), ("mid2" : Str), ("end" : Str)] : List Str)).bind fun anchors_191 =>
  (some ([] : List ((Str × Int × Unit) × (Str × Int × Unit) × Unit))).bind fun told_192 =>
  (rngO 0 (many_135 - (1 : Int))).bind fun rg_193 =>
  (forS (m__law_what_L2 some_134 anchors_191) rg_193 told_192).bind fun told_209 =>
  some (upD (Tu.mk told_209))))))))))))
noncomputable def m__law_grown_L1 (rec__law_grown : ((List Int) → Int → Int → (List Str) → Int → Bool → Option (Dy × Int × Unit))) (cells_211 : (List Int)) (deep_213 : Int) (kinds_214 : (List Str)) (shift_215 : Int) (tabled_216 : Bool) (kind_236 : Str) : Int → (Int × (List Dy)) → Option (Int × (List Dy)) := fun k_250 (after_248, parts_249) =>
  (rec__law_grown cells_211 after_248 (deep_213 + (1 : Int)) kinds_214 shift_215 (tabled_216 || (decide (kind_236 = ("table" : Str))))).bind fun r_256 =>
  (some r_256).bind fun (part_257, after_258, _) =>
  (appO parts_249 part_257).bind fun parts_259 =>
  some (after_258, parts_259)
noncomputable def m__law_grown_step (rec__law_grown : ((List Int) → Int → Int → (List Str) → Int → Bool → Option (Dy × Int × Unit))) (cells_211 : (List Int)) (spot_212 : Int) (deep_213 : Int) (kinds_214 : (List Str)) (shift_215 : Int) (tabled_216 : Bool) : Option (Dy × Int × Unit) :=
  (m__law_cell_at (Fz.mk cells_211) spot_212).bind fun r_217 =>
  (m__law_numbers r_217 (16 : Int)).bind fun r_218 =>
  (some r_218).bind fun some_219 =>
  (some ("abcdefghijklmnopqrstuvwxyz" : Str)).bind fun letters_220 =>
  (ixS letters_220 ((((11 : Int) * spot_212) + shift_215) % (26 : Int))).bind fun i_221 =>
  (some i_221).bind fun name_222 =>
  (ixS letters_220 (((((3 : Int) * spot_212) + (spot_212 / (26 : Int))) + (shift_215 / (26 : Int))) % (26 : Int))).bind fun i_223 =>
  (addS name_222 i_223).bind fun t_224 =>
  (some t_224).bind fun name_225 =>
  (atI some_219 (10 : Int)).bind fun i_226 =>
  (modO i_226 (kinds_214.length : Int)).bind fun r_227 =>
  (atI kinds_214 r_227).bind fun i_228 =>
  (some i_228).bind fun kind_229 =>
  ((if ((decide (deep_213 = (4 : Int))) || (decide ((9 : Int) < spot_212))) = true then ((atI some_219 (11 : Int)).bind fun i_232 =>
  (mulO (i_232 % (2 : Int)) (if (decide (("words" : Str) ∈ kinds_214)) = true then (1 : Int) else 0)).bind fun m_233 =>
  (atI ([("leaf" : Str), ("words" : Str)] : List Str) m_233).bind fun i_234 =>
  (some i_234).bind fun kind_235 =>
  some kind_235) else (some kind_229))).bind fun kind_236 =>
  (some (0 : Int)).bind fun many_238 =>
  ((if (!(decide (kind_236 ∈ ([("leaf" : Str), ("words" : Str)] : List Str)))) = true then ((atI some_219 (12 : Int)).bind fun i_241 =>
  (some ((if (decide (kind_236 = ("over" : Str))) = true then (1 : Int) else 0) + (i_241 % (4 : Int)))).bind fun many_242 =>
  some many_242) else (some many_238))).bind fun many_243 =>
  (some ([] : List Dy)).bind fun parts_245 =>
  (some (spot_212 + (1 : Int))).bind fun after_246 =>
  (rngO 0 many_243).bind fun rg_247 =>
  (forS (m__law_grown_L1 rec__law_grown cells_211 deep_213 kinds_214 shift_215 tabled_216 kind_236) rg_247 (after_246, parts_245)).bind fun (after_260, parts_261) =>
  (some (0 : Int)).bind fun group_263 =>
  ((if ((decide (kind_236 ∈ ([("leaf" : Str), ("row" : Str), ("column" : Str), ("wrap" : Str)] : List Str))) && (!tabled_216)) = true then ((atI some_219 (13 : Int)).bind fun i_266 =>
  (some (i_266 % (3 : Int))).bind fun group_267 =>
  some group_267) else (some group_263))).bind fun group_268 =>
  (m__law_own some_219 group_268).bind fun r_270 =>
  (some r_270).bind fun own_here_271 =>
  (m__law_what kind_236 some_219 many_243).bind fun r_272 =>
  some ((upD (kind_236, name_225, own_here_271, r_272, (Tu.mk parts_261), ())), after_260, ())
noncomputable def m__law_grown : Nat → (List Int) → Int → Int → (List Str) → Int → Bool → Option (Dy × Int × Unit)
  | 0 => fun _ _ _ _ _ _ => none
  | n_ + 1 => m__law_grown_step (m__law_grown n_)
noncomputable def m__law_other (side_273 : Str) : Option Str :=
  (atI ([("right" : Str), ("left" : Str)] : List Str) (if (decide (side_273 = ("right" : Str))) = true then (1 : Int) else 0)).bind fun i_274 =>
  some i_274
noncomputable def m__law_due_step (rec__law_due : (Dy → Option Dy)) (tree_275 : Dy) : Option Dy :=
  ((ofD tree_275 : Option (Dy × Dy × Dy × Dy × Dy × Unit))).bind fun o_276 =>
  (some o_276).bind fun (kind_277, name_278, own_here_279, what_here_280, parts_281, _) =>
  ((ofD kind_277 : Option Str)).bind fun o_283 =>
  ((if (decide (o_283 ∈ ([("row" : Str), ("column" : Str), ("wrap" : Str)] : List Str))) = true then (((ofD what_here_280 : Option (Tu Dy))).bind fun o_285 =>
  (atI o_285.l (0 : Int)).bind fun i_286 =>
  ((ofD what_here_280 : Option (Tu Dy))).bind fun o_287 =>
  (atI o_287.l (1 : Int)).bind fun i_288 =>
  ((ofD what_here_280 : Option (Tu Dy))).bind fun o_289 =>
  (atI o_289.l (2 : Int)).bind fun i_290 =>
  ((ofD i_290 : Option Str)).bind fun o_291 =>
  (m__law_other o_291).bind fun r_292 =>
  (some (upD (i_286, i_288, r_292, ()))).bind fun what_here_293 =>
  some what_here_293) else (some what_here_280))).bind fun what_here_294 =>
  ((ofD kind_277 : Option Str)).bind fun o_297 =>
  ((if (decide (o_297 = ("table" : Str))) = true then (((ofD what_here_294 : Option (Dy × Dy × Dy × Dy × Unit))).bind fun o_299 =>
  ((ofD what_here_294 : Option (Tu Dy))).bind fun o_300 =>
  (atI o_300.l (2 : Int)).bind fun i_301 =>
  ((ofD i_301 : Option Str)).bind fun o_302 =>
  (m__law_other o_302).bind fun r_303 =>
  ((ofD what_here_294 : Option (Dy × Dy × Dy × Dy × Unit))).bind fun o_304 =>
  (some (upD (((o_299.1, o_299.2.1, ()).1, (o_299.1, o_299.2.1, ()).2.1, (r_303, ()).1, ()).1, ((o_299.1, o_299.2.1, ()).1, (o_299.1, o_299.2.1, ()).2.1, (r_303, ()).1, ()).2.1, ((o_299.1, o_299.2.1, ()).1, (o_299.1, o_299.2.1, ()).2.1, (r_303, ()).1, ()).2.2.1, (o_304.2.2.2.1, ()).1, ()))).bind fun what_here_305 =>
  some what_here_305) else (some what_here_294))).bind fun what_here_306 =>
  ((ofD kind_277 : Option Str)).bind fun o_309 =>
  ((if (decide (o_309 = ("flow" : Str))) = true then (((ofD what_here_306 : Option (Tu Dy))).bind fun o_311 =>
  (atI o_311.l (0 : Int)).bind fun i_312 =>
  ((ofD i_312 : Option (Tu Dy))).bind fun o_313 =>
  (lcM (fun _ => some true) (fun side_314 => (((ofD side_314 : Option Str)).bind fun o_316 => (m__law_other o_316).bind fun r_317 => some r_317)) o_313.l).bind fun zs_315 =>
  ((ofD what_here_306 : Option (Dy × Dy × Dy × Unit))).bind fun o_318 =>
  (some (upD (((Tu.mk zs_315), ()).1, (o_318.2.1, o_318.2.2.1, ()).1, (o_318.2.1, o_318.2.2.1, ()).2.1, ()))).bind fun what_here_319 =>
  some what_here_319) else (some what_here_306))).bind fun what_here_320 =>
  ((ofD kind_277 : Option Str)).bind fun o_323 =>
  ((if (decide (o_323 = ("over" : Str))) = true then ((some (Dc.mk (mergeD ([] : List (Str × Str)) [(("start" : Str), ("end" : Str)), (("end" : Str), ("start" : Str)), (("mid" : Str), ("mid2" : Str)), (("mid2" : Str), ("mid" : Str))]))).bind fun turns_325 =>
  ((ofD what_here_320 : Option (Tu (Dy × Dy × Unit)))).bind fun o_326 =>
  (lcM (fun _ => some true) (fun (across_327, down_328, _) => (((ofD across_327 : Option (Tu Dy))).bind fun o_330 => (atI o_330.l (0 : Int)).bind fun i_331 => ((ofD i_331 : Option Str)).bind fun o_332 => (getD turns_325.l o_332).bind fun i_333 => ((ofD across_327 : Option (Tu Dy))).bind fun o_334 => (atI o_334.l (1 : Int)).bind fun i_335 => ((ofD i_335 : Option Int)).bind fun o_336 => some ((i_333, (-o_336), ()), down_328, ()))) o_326.l).bind fun zs_329 =>
  (some (upD (Tu.mk zs_329))).bind fun what_here_337 =>
  some what_here_337) else (some what_here_320))).bind fun what_here_338 =>
  ((ofD parts_281 : Option (Tu Dy))).bind fun o_340 =>
  (lcM (fun _ => some true) (fun part_341 => ((rec__law_due part_341).bind fun r_343 => some r_343)) o_340.l).bind fun zs_342 =>
  some (upD (kind_277, name_278, own_here_279, what_here_338, (Tu.mk zs_342), ()))
noncomputable def m__law_due : Nat → Dy → Option Dy
  | 0 => fun _ => none
  | n_ + 1 => m__law_due_step (m__law_due n_)
noncomputable def m_law (script_344 : (Fz Int)) : Option Bool :=
  (some ([("row" : Str), ("column" : Str), ("leaf" : Str), ("wrap" : Str), ("table" : Str), ("words" : Str), ("flow" : Str), ("over" : Str), ("row" : Str), ("column" : Str)] : List Str)).bind fun kinds_345 =>
  (m__law_cell_at script_344 (0 : Int)).bind fun r_346 =>
  (m__law_grown 8 (cut script_344.l (some (1 : Int)) (some (60 : Int))) (0 : Int) (0 : Int) kinds_345 (r_346 % (676 : Int)) false).bind fun r_347 =>
  (some r_347.1).bind fun tree_348 =>
  (m_mirrored 8 tree_348).bind fun r_349 =>
  (some r_349).bind fun found_350 =>
  (m__law_due 8 tree_348).bind fun r_351 =>
  (eqYO found_350 r_351).bind fun e_352 =>
  ((if e_352 = true then ((m_mirrored 8 found_350).bind fun r_353 => (eqYO r_353 tree_348).bind fun e_354 => some e_354) else some false)).bind fun b_355 =>
  some b_355
end Wk85
set_option synthInstance.maxHeartbeats 4000000
set_option synthInstance.maxSize 20000
/-! the walks of k85, printed by gen.py -/
namespace Wk85
open PySem L2 Wk
def topS (i : Nat) : Stmt := PySem.Challenge.pw_boxgalley_k85_trees_mirrored.main.body.getD i (.Pass ⟨0, 0, 0, 0⟩)
abbrev s_other_anchor : Stmt := topS 3
abbrev s_mirrored_what : Stmt := topS 4
abbrev s_mirrored : Stmt := topS 5
abbrev s__law_cell_at : Stmt := topS 7
abbrev s__law_numbers : Stmt := topS 8
abbrev s__law_own : Stmt := topS 9
abbrev s__law_words : Stmt := topS 10
abbrev s__law_what : Stmt := topS 11
abbrev s__law_grown : Stmt := topS 12
abbrev s__law_other : Stmt := topS 13
abbrev s__law_due : Stmt := topS 14
abbrev s_law : Stmt := topS 15
structure TX (K : Fg) (mg : Str → Option Value) (w : World) where
  a_other_anchor : Addr
  d_other_anchor : FuncData
  F_other_anchor : Fun K "other_anchor" "other_anchor" s_other_anchor a_other_anchor d_other_anchor
  b_other_anchor : Binds K d_other_anchor ["anchor"] []
  g_other_anchor : mg "other_anchor" = some (.ref a_other_anchor)
  a_mirrored_what : Addr
  d_mirrored_what : FuncData
  F_mirrored_what : Fun K "mirrored_what" "mirrored_what" s_mirrored_what a_mirrored_what d_mirrored_what
  b_mirrored_what : Binds K d_mirrored_what ["kind", "what"] []
  g_mirrored_what : mg "mirrored_what" = some (.ref a_mirrored_what)
  a_mirrored : Addr
  d_mirrored : FuncData
  F_mirrored : Fun K "mirrored" "mirrored" s_mirrored a_mirrored d_mirrored
  b_mirrored : Binds K d_mirrored ["tree"] []
  g_mirrored : mg "mirrored" = some (.ref a_mirrored)
  a__law_cell_at : Addr
  d__law_cell_at : FuncData
  F__law_cell_at : Fun K "_law_cell_at" "_law_cell_at" s__law_cell_at a__law_cell_at d__law_cell_at
  b__law_cell_at : Binds K d__law_cell_at ["_law_script", "_law_k"] []
  g__law_cell_at : mg "_law_cell_at" = some (.ref a__law_cell_at)
  a__law_numbers : Addr
  d__law_numbers : FuncData
  F__law_numbers : Fun K "_law_numbers" "_law_numbers" s__law_numbers a__law_numbers d__law_numbers
  b__law_numbers : Binds K d__law_numbers ["_law_cell", "_law_many"] []
  g__law_numbers : mg "_law_numbers" = some (.ref a__law_numbers)
  a__law_own : Addr
  d__law_own : FuncData
  F__law_own : Fun K "_law_own" "_law_own" s__law_own a__law_own d__law_own
  b__law_own : Binds K d__law_own ["_law_some", "_law_group"] []
  g__law_own : mg "_law_own" = some (.ref a__law_own)
  a__law_words : Addr
  d__law_words : FuncData
  F__law_words : Fun K "_law_words" "_law_words" s__law_words a__law_words d__law_words
  b__law_words : Binds K d__law_words ["_law_some"] []
  g__law_words : mg "_law_words" = some (.ref a__law_words)
  a__law_what : Addr
  d__law_what : FuncData
  F__law_what : Fun K "_law_what" "_law_what" s__law_what a__law_what d__law_what
  b__law_what : Binds K d__law_what ["_law_kind", "_law_some", "_law_many"] []
  g__law_what : mg "_law_what" = some (.ref a__law_what)
  a__law_grown : Addr
  d__law_grown : FuncData
  F__law_grown : Fun K "_law_grown" "_law_grown" s__law_grown a__law_grown d__law_grown
  b__law_grown : Binds K d__law_grown ["_law_cells", "_law_spot", "_law_deep", "_law_kinds", "_law_shift", "_law_tabled"] []
  g__law_grown : mg "_law_grown" = some (.ref a__law_grown)
  a__law_other : Addr
  d__law_other : FuncData
  F__law_other : Fun K "_law_other" "_law_other" s__law_other a__law_other d__law_other
  b__law_other : Binds K d__law_other ["_law_side"] []
  g__law_other : mg "_law_other" = some (.ref a__law_other)
  a__law_due : Addr
  d__law_due : FuncData
  F__law_due : Fun K "_law_due" "_law_due" s__law_due a__law_due d__law_due
  b__law_due : Binds K d__law_due ["_law_tree"] []
  g__law_due : mg "_law_due" = some (.ref a__law_due)
  a_law : Addr
  d_law : FuncData
  F_law : Fun K "law" "law" s_law a_law d_law
  b_law : Binds K d_law ["_law_script"] []
  g_law : mg "law" = some (.ref a_law)
  z_int : mg "int" = none
  z_len : mg "len" = none
  z_range : mg "range" = none
  z_tuple : mg "tuple" = none
  da_ANCHORS : Addr
  gd_ANCHORS : mg "ANCHORS" = some (.ref da_ANCHORS)
  t_ANCHORS : ∀ kv ∈ kd_ANCHORS, KDct K w da_ANCHORS kv.1 (.str kv.2)
  da_SIDES : Addr
  gd_SIDES : mg "SIDES" = some (.ref da_SIDES)
  t_SIDES : ∀ kv ∈ kd_SIDES, KDct K w da_SIDES kv.1 (.str kv.2)
def spLaw (K : Fg) : Sp := fun vs H Q _ => ∃ (a : Addr) (ns : List Int), vs = [.ref a] ∧ SqL K H a (ns.map V.int) ∧ ns.length ≤ 63 ∧ ∀ H', Q (.bl true) H'
theorem fn_weak {P : Program} {w : World} {K : Fg} {mg : Str → Option Value} {base : Heap} {k : Nat} {f : Addr} {fd : FuncData} {m : Fz Int → Option Bool}
    (h : FnOk P w K mg base CX0 k f fd ["_law_script"] (PF (τ := Fz Int × Unit) K fun t => m t.1)) (main : ∀ ns : List Int, ns.length ≤ 63 → m (Fz.mk ns) = some true) : FnOk P w K mg base CX0 k f fd ["_law_script"] (spLaw K) :=
  h.imp fun vs H Q E hh => by
    obtain ⟨a, ns, rfl, hs, hl, q⟩ := hh
    exact ⟨H, (Fz.mk ns, ()), true, Evl.Ex.refl _, ⟨.ref a, [], rfl, ⟨a, ns.map V.int, rfl, hs, fl_paired ns⟩, rfl⟩, main ns hl, fun u Kn' H' g r => by cases r; exact q H'⟩
section
variable {P : Program} {w : World} {K : Fg} {mg : Str → Option Value} {base : Heap}
theorem sc_other_anchor : FnScope ["anchor"] ["anchor"] (defScope s_other_anchor) := ⟨rfl, rfl, rfl, by decide +kernel, rfl, by decide +kernel, by decide +kernel⟩
set_option maxHeartbeats 4000000 in
theorem ok_other_anchor (T : TX K mg w) : FnOk P w K mg base CX0 1 T.a_other_anchor T.d_other_anchor ["anchor"] (PF (τ := (Str × Int × Unit) × Unit) K (fun t => m_other_anchor t.1)) := by
  refine T.F_other_anchor.ok sc_other_anchor (fun vs H Q E h => ?_) (fun cdv A outer s H vs Q E hr h => ?_)
  · obtain ⟨Kn, t, r, ek, h, hf, q⟩ := h
    exact Tp.len h
  · obtain ⟨Kn, t, r_, ek, h, hf, q⟩ := h
    obtain ⟨anchor_1, u_⟩ := t
    obtain ⟨v_0, rr_, rfl, hv_0, h⟩ := h
    obtain rfl := h
    replace hf : m_other_anchor anchor_1 = some r_ := hf
    unfold m_other_anchor at hf
    refine ⟨_, (pss_one (ps_ret (pe_tup (pa_cons (pe_ix k_ixkd (pe_glob (v := .ref T.da_ANCHORS) (by rfl) T.gd_ANCHORS rfl) (pe_ix k_ixt (pv 0) pe_int (fun _ _ => rfl)) (fun _ _ => rfl)) (pa_cons (pe_op op_sub pe_int (pe_ix k_ixt (pv 0) pe_int (fun _ _ => rfl))) pa_nil))))), ?_⟩
    refine enter (Kn := Kn) (sl := [sv anchor_1]) ek ⟨⟨v_0, rfl, hv_0⟩, trivial⟩ ?_
    have q := rt_of q
    obtain ⟨i_2, h_i_2, hf⟩ := bind_some hf
    cases hf
    exact sb_ret (ev_tup (ea_cons (ev_kd T.t_ANCHORS (ev_op (ev_var (i := 0) rfl) (ev_int 0) (r2_tix (n := 0) (At.z _ _))) h_i_2) (ea_cons (ev_op (ev_int 0) (ev_op (ev_var (i := 0) rfl) (ev_int 1) (r2_tix (n := 1) (At.s _ (At.z _ _)))) r2_sub) ea_nil))) q (List.Sublist.refl _)
theorem sc_mirrored_what : FnScope ["kind", "what", "across", "down", "side"] ["kind", "what"] (defScope s_mirrored_what) := ⟨rfl, rfl, rfl, by decide +kernel, rfl, by decide +kernel, by decide +kernel⟩
set_option maxHeartbeats 4000000 in
theorem ok_mirrored_what (T : TX K mg w) : FnOk P w K mg base CX0 2 T.a_mirrored_what T.d_mirrored_what ["kind", "what"] (PF (τ := Str × Dy × Unit) K (fun t => m_mirrored_what t.1 t.2.1)) := by
  refine T.F_mirrored_what.ok sc_mirrored_what (fun vs H Q E h => ?_) (fun cdv A outer s H vs Q E hr h => ?_)
  · obtain ⟨Kn, t, r, ek, h, hf, q⟩ := h
    exact Tp.len h
  · obtain ⟨Kn, t, r_, ek, h, hf, q⟩ := h
    obtain ⟨kind_3, what_4, u_⟩ := t
    obtain ⟨v_0, rr_, rfl, hv_0, h⟩ := h
    obtain ⟨v_1, rr_, rfl, hv_1, h⟩ := h
    obtain rfl := h
    replace hf : m_mirrored_what kind_3 what_4 = some r_ := hf
    unfold m_mirrored_what at hf
    refine ⟨_, (pss_cons (ps_if (pt_cmpR k_in (pv 0) (pe_lst (pa_cons pe_str (pa_cons pe_str (pa_cons pe_str pa_nil)))) (by rfl)) (pss_one (ps_ret (pe_tup (pa_cons (pe_ix k_ixt (pv 1) pe_int (fun _ _ => rfl)) (pa_cons (pe_ix k_ixt (pv 1) pe_int (fun _ _ => rfl)) (pa_cons (pe_ix k_ixkd (pe_glob (v := .ref T.da_SIDES) (by rfl) T.gd_SIDES rfl) (pe_ix k_ixt (pv 1) pe_int (fun _ _ => rfl)) (fun _ _ => rfl)) pa_nil)))))) pss_nil)
      (pss_cons (ps_if (pt_cmpR op_eq (pv 0) pe_str (nomark _)) (pss_one (ps_ret (pe_tup (pa_cons (pe_ix k_ixt (pv 1) pe_int (fun _ _ => rfl)) (pa_cons (pe_ix k_ixt (pv 1) pe_int (fun _ _ => rfl)) (pa_cons (pe_ix k_ixkd (pe_glob (v := .ref T.da_SIDES) (by rfl) T.gd_SIDES rfl) (pe_ix k_ixt (pv 1) pe_int (fun _ _ => rfl)) (fun _ _ => rfl)) (pa_cons (pe_ix k_ixt (pv 1) pe_int (fun _ _ => rfl)) pa_nil))))))) pss_nil)
      (pss_cons (ps_if (pt_cmpR op_eq (pv 0) pe_str (nomark _)) (pss_one (ps_ret (pe_tup (pa_cons (pe_callTy k_tuple (by rfl) T.z_tuple (by decide +kernel) (pa_cons (pe_lc (own := [("side", 4)]) (g := gName 4) (tt := tYes) (by rfl) sc_mirrored_what.nd (kpi_tup (pe_ix k_ixt (pv 1) pe_int (fun _ _ => rfl))) (blkOk_by (own := [("side", 4)]) (N := ["kind", "what", "across", "down", "side"]) (sc := defScope s_mirrored_what) (by decide +kernel)) (fun _ _ _ _ _ => (pg_name (i := 4) sc_mirrored_what.nd rfl (Or.inl rfl))) (fun _ _ _ _ _ => pts_nil) (fun _ _ _ _ _ => (pe_ix k_ixkd (pe_glob (v := .ref T.da_SIDES) (by rfl) T.gd_SIDES rfl) (pv 4) (fun _ _ => rfl)))) pa_nil)) (pa_cons (pe_ix k_ixt (pv 1) pe_int (fun _ _ => rfl)) (pa_cons (pe_ix k_ixt (pv 1) pe_int (fun _ _ => rfl)) pa_nil)))))) pss_nil)
      (pss_cons (ps_if (pt_cmpR op_eq (pv 0) pe_str (nomark _)) (pss_one (ps_ret (pe_callTy k_tuple (by rfl) T.z_tuple (by decide +kernel) (pa_cons (pe_lc (own := [("across", 2), ("down", 3)]) (g := gTup K 2 (gCons (gName 2) (gCons (gName 3) gNil))) (tt := tYes) (by rfl) sc_mirrored_what.nd (kpi_tup (pv 1)) (blkOk_by (own := [("across", 2), ("down", 3)]) (N := ["kind", "what", "across", "down", "side"]) (sc := defScope s_mirrored_what) (by decide +kernel)) (fun _ _ _ _ _ => (kpg_tup (pgs_cons (pg_name (i := 2) sc_mirrored_what.nd rfl (Or.inl rfl)) (pgs_cons (pg_name (i := 3) sc_mirrored_what.nd rfl (Or.inl rfl)) pgs_nil)))) (fun _ _ _ _ _ => pts_nil) (fun _ _ _ _ _ => (pe_tup (pa_cons (pe_call (ok_other_anchor T) hr (by rfl) T.g_other_anchor T.F_other_anchor.kp T.b_other_anchor .nil pass0 (pa_cons (pv 2) pa_nil)) (pa_cons (pv 3) pa_nil))))) pa_nil)))) pss_nil)
      (pss_one (ps_ret (pv 1))))))), ?_⟩
    refine enter (Kn := Kn) (sl := [sv kind_3, sv what_4, .any, .any, .any]) ek ⟨⟨v_0, rfl, hv_0⟩, ⟨v_1, rfl, hv_1⟩, trivial, trivial, trivial, trivial⟩ ?_
    have q := rt_of q
    refine SB.seqB (fun kx_7 => sb_if (b := (decide (kind_3 ∈ ([("row" : Str), ("column" : Str), ("wrap" : Str)] : List Str)))) (et_test (ev_op (ev_var (i := 0) rfl) (EN.ev (en_lst (el_cons (ev_str ("row" : Str)) (el_cons (ev_str ("column" : Str)) (el_cons (ev_str ("wrap" : Str)) el_nil))))) r2_in)) (fun hb_6 => ?_) (fun hb_6 => ?_))
    · have hf := ite_t hb_6 hf
      obtain ⟨o_8, h_o_8, hf⟩ := bind_some hf
      obtain ⟨i_9, h_i_9, hf⟩ := bind_some hf
      obtain ⟨o_10, h_o_10, hf⟩ := bind_some hf
      obtain ⟨i_11, h_i_11, hf⟩ := bind_some hf
      obtain ⟨o_12, h_o_12, hf⟩ := bind_some hf
      obtain ⟨i_13, h_i_13, hf⟩ := bind_some hf
      obtain ⟨o_14, h_o_14, hf⟩ := bind_some hf
      obtain ⟨i_15, h_i_15, hf⟩ := bind_some hf
      cases hf
      exact sb_ret (ev_up (ev_tup (ea_cons (ev_op (ev_of (ev_var (i := 1) rfl) h_o_8) (ev_int 0) (r2_ixU h_i_9)) (ea_cons (ev_op (ev_of (ev_var (i := 1) rfl) h_o_10) (ev_int 1) (r2_ixU h_i_11)) (ea_cons (ev_kd T.t_SIDES (ev_of (ev_op (ev_of (ev_var (i := 1) rfl) h_o_12) (ev_int 2) (r2_ixU h_i_13)) h_o_14) h_i_15) ea_nil))))) q (List.Sublist.refl _)
    · have hf := ite_f hb_6 hf
      refine sb_nx ?_
      refine kx_7 _ _ ?_
      refine SB.seqB (fun kx_18 => sb_if (b := (decide (kind_3 = ("table" : Str)))) (et_test (ev_op (ev_var (i := 0) rfl) (ev_str ("table" : Str)) r2_eqS)) (fun hb_17 => ?_) (fun hb_17 => ?_))
      · have hf := ite_t hb_17 hf
        obtain ⟨o_19, h_o_19, hf⟩ := bind_some hf
        obtain ⟨i_20, h_i_20, hf⟩ := bind_some hf
        obtain ⟨o_21, h_o_21, hf⟩ := bind_some hf
        obtain ⟨i_22, h_i_22, hf⟩ := bind_some hf
        obtain ⟨o_23, h_o_23, hf⟩ := bind_some hf
        obtain ⟨i_24, h_i_24, hf⟩ := bind_some hf
        obtain ⟨o_25, h_o_25, hf⟩ := bind_some hf
        obtain ⟨i_26, h_i_26, hf⟩ := bind_some hf
        obtain ⟨o_27, h_o_27, hf⟩ := bind_some hf
        obtain ⟨i_28, h_i_28, hf⟩ := bind_some hf
        cases hf
        exact sb_ret (ev_up (ev_tup (ea_cons (ev_op (ev_of (ev_var (i := 1) rfl) h_o_19) (ev_int 0) (r2_ixU h_i_20)) (ea_cons (ev_op (ev_of (ev_var (i := 1) rfl) h_o_21) (ev_int 1) (r2_ixU h_i_22)) (ea_cons (ev_kd T.t_SIDES (ev_of (ev_op (ev_of (ev_var (i := 1) rfl) h_o_23) (ev_int 2) (r2_ixU h_i_24)) h_o_25) h_i_26) (ea_cons (ev_op (ev_of (ev_var (i := 1) rfl) h_o_27) (ev_int 3) (r2_ixU h_i_28)) ea_nil)))))) q (List.Sublist.refl _)
      · have hf := ite_f hb_17 hf
        refine sb_nx ?_
        refine kx_18 _ _ ?_
        refine SB.seqB (fun kx_31 => sb_if (b := (decide (kind_3 = ("flow" : Str)))) (et_test (ev_op (ev_var (i := 0) rfl) (ev_str ("flow" : Str)) r2_eqS)) (fun hb_30 => ?_) (fun hb_30 => ?_))
        · have hf := ite_t hb_30 hf
          obtain ⟨o_32, h_o_32, hf⟩ := bind_some hf
          obtain ⟨i_33, h_i_33, hf⟩ := bind_some hf
          obtain ⟨o_34, h_o_34, hf⟩ := bind_some hf
          obtain ⟨zs_36, h_zs_36, hf⟩ := bind_some hf
          obtain ⟨o_39, h_o_39, hf⟩ := bind_some hf
          obtain ⟨i_40, h_i_40, hf⟩ := bind_some hf
          obtain ⟨o_41, h_o_41, hf⟩ := bind_some hf
          obtain ⟨i_42, h_i_42, hf⟩ := bind_some hf
          cases hf
          exact sb_ret (ev_up (ev_tup (ea_cons (ev_cb (ea_cons (EN.ev (en_lc (js := [4]) (fun x => [sv kind_3, sv what_4, .any, .any, sv x]) h_zs_36 (it_tup (ev_of (ev_op (ev_of (ev_var (i := 1) rfl) h_o_32) (ev_int 0) (r2_ixU h_i_33)) h_o_34)) (anyAt_of (by rfl)) (fun x => (gt_name rfl)) (sub_of (by rfl)) (fun _ _ x b h => by cases h; exact et_yes) (fun _ _ x z _ h => by obtain ⟨side_35, hx_⟩ : ∃ y, y = x := ⟨x, rfl⟩; subst hx_; obtain ⟨o_37, h_o_37, h⟩ := bind_some h; obtain ⟨i_38, h_i_38, h⟩ := bind_some h; have hz_ := Option.some.inj h; subst hz_; exact EV.is (sl' := [sv kind_3, sv what_4, .any, .any, sv side_35]) rfl (ev_kd T.t_SIDES (ev_of (ev_var (i := 4) rfl) h_o_37) h_i_38)))) ea_nil) rc_tuple) (ea_cons (ev_op (ev_of (ev_var (i := 1) rfl) h_o_39) (ev_int 1) (r2_ixU h_i_40)) (ea_cons (ev_op (ev_of (ev_var (i := 1) rfl) h_o_41) (ev_int 2) (r2_ixU h_i_42)) ea_nil))))) q (List.Sublist.refl _)
        · have hf := ite_f hb_30 hf
          refine sb_nx ?_
          refine kx_31 _ _ ?_
          refine SB.seqB (fun kx_45 => sb_if (b := (decide (kind_3 = ("over" : Str)))) (et_test (ev_op (ev_var (i := 0) rfl) (ev_str ("over" : Str)) r2_eqS)) (fun hb_44 => ?_) (fun hb_44 => ?_))
          · have hf := ite_t hb_44 hf
            obtain ⟨o_46, h_o_46, hf⟩ := bind_some hf
            obtain ⟨zs_49, h_zs_49, hf⟩ := bind_some hf
            cases hf
            exact sb_ret (ev_up (ev_cb (ea_cons (EN.ev (en_lc (js := [2, 3]) (fun x => [sv kind_3, sv what_4, sv x.1, sv x.2.1, .any]) h_zs_49 (it_tup (ev_of (ev_var (i := 1) rfl) h_o_46)) (anyAt_of (by rfl)) (fun x => (gt_tup (gts_cons (gt_name rfl) (gts_cons (gt_name rfl) gts_nil)))) (sub_of (by rfl)) (fun _ _ x b h => by cases h; exact et_yes) (fun _ _ x z _ h => by obtain ⟨across_47, down_48, _⟩ := x; obtain ⟨o_50, h_o_50, h⟩ := bind_some h; obtain ⟨r_51, h_r_51, h⟩ := bind_some h; have hz_ := Option.some.inj h; subst hz_; exact EV.is (sl' := [sv kind_3, sv what_4, sv across_47, sv down_48, .any]) rfl (ev_tup (ea_cons (ev_call (ea_cons (ev_of (ev_var (i := 2) rfl) h_o_50) ea_nil) h_r_51) (ea_cons (ev_var (i := 3) rfl) ea_nil)))))) ea_nil) rc_tuple)) q (List.Sublist.refl _)
          · have hf := ite_f hb_44 hf
            refine sb_nx ?_
            refine kx_45 _ _ ?_
            cases hf
            exact sb_ret (ev_var (i := 1) rfl) q (List.Sublist.refl _)
theorem sc_mirrored : FnScope ["tree", "kind", "name", "own", "what", "parts", "part"] ["tree"] (defScope s_mirrored) := ⟨rfl, rfl, rfl, by decide +kernel, rfl, by decide +kernel, by decide +kernel⟩
set_option maxHeartbeats 4000000 in
theorem step_mirrored (T : TX K mg w) (rec_mirrored : (Dy → Option Dy)) {k_ : Nat} (hk_ : 2 ≤ k_) (hrec : FnOk P w K mg base CX0 k_ T.a_mirrored T.d_mirrored ["tree"] (PF (τ := Dy × Unit) K (fun t => rec_mirrored t.1))) : FnOk P w K mg base CX0 (k_ + 1) T.a_mirrored T.d_mirrored ["tree"] (PF (τ := Dy × Unit) K (fun t => m_mirrored_step rec_mirrored t.1)) := by
  refine T.F_mirrored.ok sc_mirrored (fun vs H Q E h => ?_) (fun cdv A outer s H vs Q E hr h => ?_)
  · obtain ⟨Kn, t, r, ek, h, hf, q⟩ := h
    exact Tp.len h
  · obtain ⟨Kn, t, r_, ek, h, hf, q⟩ := h
    obtain ⟨tree_52, u_⟩ := t
    obtain ⟨v_0, rr_, rfl, hv_0, h⟩ := h
    obtain rfl := h
    replace hf : m_mirrored_step rec_mirrored tree_52 = some r_ := hf
    unfold m_mirrored_step at hf
    refine ⟨_, (pss_cons (ps_asg (pv 0) (kpg_tup (pgs_cons (pg_name (i := 1) sc_mirrored.nd rfl (.inl rfl)) (pgs_cons (pg_name (i := 2) sc_mirrored.nd rfl (.inl rfl)) (pgs_cons (pg_name (i := 3) sc_mirrored.nd rfl (.inl rfl)) (pgs_cons (pg_name (i := 4) sc_mirrored.nd rfl (.inl rfl)) (pgs_cons (pg_name (i := 5) sc_mirrored.nd rfl (.inl rfl)) pgs_nil)))))))
      (pss_one (ps_ret (pe_tup (pa_cons (pv 1) (pa_cons (pv 2) (pa_cons (pv 3) (pa_cons (pe_call (ok_mirrored_what T) (hr.mono (by omega)) (by rfl) T.g_mirrored_what T.F_mirrored_what.kp T.b_mirrored_what .nil pass0 (pa_cons (pv 1) (pa_cons (pv 4) pa_nil))) (pa_cons (pe_callTy k_tuple (by rfl) T.z_tuple (by decide +kernel) (pa_cons (pe_lc (own := [("part", 6)]) (g := gName 6) (tt := tYes) (by rfl) sc_mirrored.nd (kpi_tup (pv 5)) (blkOk_by (own := [("part", 6)]) (N := ["tree", "kind", "name", "own", "what", "parts", "part"]) (sc := defScope s_mirrored) (by decide +kernel)) (fun _ _ _ _ _ => (pg_name (i := 6) sc_mirrored.nd rfl (Or.inl rfl))) (fun _ _ _ _ _ => pts_nil) (fun _ _ _ _ _ => (pe_call hrec hr (by rfl) T.g_mirrored T.F_mirrored.kp T.b_mirrored .nil pass0 (pa_cons (pv 6) pa_nil)))) pa_nil)) pa_nil))))))))), ?_⟩
    refine enter (Kn := Kn) (sl := [sv tree_52, .any, .any, .any, .any, .any, .any]) ek ⟨⟨v_0, rfl, hv_0⟩, trivial, trivial, trivial, trivial, trivial, trivial, trivial⟩ ?_
    have q := rt_of q
    obtain ⟨o_53, h_o_53, hf⟩ := bind_some hf
    obtain ⟨⟨kind_54, name_55, own_56, what_57, parts_58, _⟩, h_kind_54, hf⟩ := bind_some hf
    refine SB.seqB (fun kx_ => sb_unp (sl' := [sv tree_52, sv kind_54, sv name_55, sv own_56, sv what_57, sv parts_58, .any]) (EV.cast (ev_of (ev_var (i := 0) rfl) h_o_53) (Option.some.inj h_kind_54)) (gt_tup (gts_cons (gt_name rfl) (gts_cons (gt_name rfl) (gts_cons (gt_name rfl) (gts_cons (gt_name rfl) (gts_cons (gt_name rfl) gts_nil)))))) (kx_ _ _ ?_))
    obtain ⟨o_59, h_o_59, hf⟩ := bind_some hf
    obtain ⟨r_60, h_r_60, hf⟩ := bind_some hf
    obtain ⟨o_61, h_o_61, hf⟩ := bind_some hf
    obtain ⟨zs_63, h_zs_63, hf⟩ := bind_some hf
    cases hf
    exact sb_ret (ev_up (ev_tup (ea_cons (ev_var (i := 1) rfl) (ea_cons (ev_var (i := 2) rfl) (ea_cons (ev_var (i := 3) rfl) (ea_cons (ev_call (ea_cons (ev_of (ev_var (i := 1) rfl) h_o_59) (ea_cons (ev_var (i := 4) rfl) ea_nil)) h_r_60) (ea_cons (ev_cb (ea_cons (EN.ev (en_lc (js := [6]) (fun x => [sv tree_52, sv kind_54, sv name_55, sv own_56, sv what_57, sv parts_58, sv x]) h_zs_63 (it_tup (ev_of (ev_var (i := 5) rfl) h_o_61)) (anyAt_of (by rfl)) (fun x => (gt_name rfl)) (sub_of (by rfl)) (fun _ _ x b h => by cases h; exact et_yes) (fun _ _ x z _ h => by obtain ⟨part_62, hx_⟩ : ∃ y, y = x := ⟨x, rfl⟩; subst hx_; obtain ⟨r_64, h_r_64, h⟩ := bind_some h; have hz_ := Option.some.inj h; subst hz_; exact EV.is (sl' := [sv tree_52, sv kind_54, sv name_55, sv own_56, sv what_57, sv parts_58, sv part_62]) rfl (ev_call (ea_cons (ev_var (i := 6) rfl) ea_nil) h_r_64)))) ea_nil) rc_tuple) ea_nil))))))) q (List.Sublist.refl _)
theorem ok_mirrored (T : TX K mg w) : ∀ n : Nat, FnOk P w K mg base CX0 (2 + n) T.a_mirrored T.d_mirrored ["tree"] (PF (τ := Dy × Unit) K (fun t => m_mirrored n t.1))
  | 0 => fnok_none
  | n + 1 => step_mirrored T (m_mirrored n) (Nat.le_add_right _ _) (ok_mirrored T n)
theorem sc__law_cell_at : FnScope ["_law_script", "_law_k"] ["_law_script", "_law_k"] (defScope s__law_cell_at) := ⟨rfl, rfl, rfl, by decide +kernel, rfl, by decide +kernel, by decide +kernel⟩
set_option maxHeartbeats 4000000 in
theorem ok__law_cell_at (T : TX K mg w) : FnOk P w K mg base CX0 1 T.a__law_cell_at T.d__law_cell_at ["_law_script", "_law_k"] (PF (τ := (Fz Int) × Int × Unit) K (fun t => m__law_cell_at t.1 t.2.1)) := by
  refine T.F__law_cell_at.ok sc__law_cell_at (fun vs H Q E h => ?_) (fun cdv A outer s H vs Q E hr h => ?_)
  · obtain ⟨Kn, t, r, ek, h, hf, q⟩ := h
    exact Tp.len h
  · obtain ⟨Kn, t, r_, ek, h, hf, q⟩ := h
    obtain ⟨script_65, k_66, u_⟩ := t
    obtain ⟨v_0, rr_, rfl, hv_0, h⟩ := h
    obtain ⟨v_1, rr_, rfl, hv_1, h⟩ := h
    obtain rfl := h
    replace hf : m__law_cell_at script_65 k_66 = some r_ := hf
    unfold m__law_cell_at at hf
    refine ⟨_, (pss_cons (ps_if (pt_cmpR op_lt (pv 1) (pe_callB k_len (by rfl) T.z_len PySem.boot_len (pa_cons (pv 0) pa_nil)) (nomark _)) (pss_one (ps_ret (pe_ix k_ixl (pv 0) (pv 1) (fun _ _ => rfl)))) pss_nil)
      (pss_one (ps_ret pe_int))), ?_⟩
    refine enter (Kn := Kn) (sl := [sv script_65, sv k_66]) ek ⟨⟨v_0, rfl, hv_0⟩, ⟨v_1, rfl, hv_1⟩, trivial⟩ ?_
    have q := rt_of q
    refine SB.seqB (fun kx_69 => sb_if (b := (decide (k_66 < (script_65.l.length : Int)))) (et_test (ev_op (ev_var (i := 1) rfl) (ev_cb (ea_cons (ev_var (i := 0) rfl) ea_nil) rc_lenF) r2_lt)) (fun hb_68 => ?_) (fun hb_68 => ?_))
    · have hf := ite_t hb_68 hf
      obtain ⟨i_70, h_i_70, hf⟩ := bind_some hf
      cases hf
      exact sb_ret (ev_op (ev_var (i := 0) rfl) (ev_var (i := 1) rfl) (r2_ixF h_i_70)) q (List.Sublist.refl _)
    · have hf := ite_f hb_68 hf
      refine sb_nx ?_
      refine kx_69 _ _ ?_
      cases hf
      exact sb_ret (ev_int 0) q (List.Sublist.refl _)
theorem sc__law_numbers : FnScope ["_law_cell", "_law_many", "_law_found", "_law_number", "_law_k"] ["_law_cell", "_law_many"] (defScope s__law_numbers) := ⟨rfl, rfl, rfl, by decide +kernel, rfl, by decide +kernel, by decide +kernel⟩
set_option maxHeartbeats 4000000 in
theorem ok__law_numbers (T : TX K mg w) : FnOk P w K mg base CX0 1 T.a__law_numbers T.d__law_numbers ["_law_cell", "_law_many"] (PL (τ := Int × Int × Unit) K (fun t => m__law_numbers t.1 t.2.1)) := by
  refine T.F__law_numbers.ok sc__law_numbers (fun vs H Q E h => ?_) (fun cdv A outer s H vs Q E hr h => ?_)
  · obtain ⟨Kn, t, r, ek, h, hf, q⟩ := h
    exact Tp.len h
  · obtain ⟨Kn, t, r_, ek, h, hf, q⟩ := h
    obtain ⟨cell_71, many_72, u_⟩ := t
    obtain ⟨v_0, rr_, rfl, hv_0, h⟩ := h
    obtain ⟨v_1, rr_, rfl, hv_1, h⟩ := h
    obtain rfl := h
    replace hf : m__law_numbers cell_71 many_72 = some r_ := hf
    unfold m__law_numbers at hf
    refine ⟨_, (pss_cons (ps_set (i := 2) sc__law_numbers.nd rfl (.inl rfl) (pe_lst pa_nil))
      (pss_cons (ps_set (i := 3) sc__law_numbers.nd rfl (.inl rfl) (pe_op op_sub (pv 0) (pe_op op_pow pe_int pe_int)))
      (pss_cons (ps_if (pt_cmpR op_ge (pv 3) pe_int (nomark _)) (pss_cons (ps_for PassesOwn.never rfl (pi_range1 (by rfl) T.z_range (pa_cons (pv 1) pa_nil)) (pg_name (i := 4) sc__law_numbers.nd rfl (.inl rfl)) (pss_cons (ps_expr (pe_bm PySem.F.plainAttrs_list PySem.F.slot_list_append PySem.F.type_list_append mt_append (pv 2) (pa_cons (pe_op op_mod (pv 3) pe_int) pa_nil)))
      (pss_one (ps_set (i := 3) sc__law_numbers.nd rfl (.inl rfl) (pe_op op_fdiv (pv 3) pe_int)))))
      (pss_one (ps_ret (pv 2)))) pss_nil)
      (pss_cons (ps_set (i := 3) sc__law_numbers.nd rfl (.inl rfl) (pe_op op_mod (pv 0) pe_int))
      (pss_cons (ps_for PassesOwn.never rfl (pi_range1 (by rfl) T.z_range (pa_cons (pe_op op_add (pv 1) pe_int) pa_nil)) (pg_name (i := 4) sc__law_numbers.nd rfl (.inl rfl)) (pss_cons (ps_set (i := 3) sc__law_numbers.nd rfl (.inl rfl) (pe_op op_mod (pe_op op_mul (pe_op op_add (pe_op op_add (pv 3) (pv 4)) pe_int) pe_int) pe_int))
      (pss_one (ps_expr (pe_bm PySem.F.plainAttrs_list PySem.F.slot_list_append PySem.F.type_list_append mt_append (pv 2) (pa_cons (pe_op op_mod (pe_op op_mul (pv 3) pe_int) pe_int) pa_nil))))))
      (pss_one (ps_ret (pe_slice k_sll (pv 2) (po_some pe_int) po_none)))))))), ?_⟩
    refine enter (Kn := Kn) (sl := [sv cell_71, sv many_72, .any, .any, .any]) ek ⟨⟨v_0, rfl, hv_0⟩, ⟨v_1, rfl, hv_1⟩, trivial, trivial, trivial, trivial⟩ ?_
    have q := rn_of q
    obtain ⟨found_73, h_found_73, hf⟩ := bind_some hf
    refine SB.seqB (fun kx_ => sb_asgO (sl' := fun p_found_73 => [sv cell_71, sv many_72, .at p_found_73, .any, .any]) (fun _ => rfl) (EN.cast (en_lst el_nil) (Option.some.inj h_found_73)) (fun p_found_73 => (kx_ _ _ ?_)))
    obtain ⟨number_74, h_number_74, hf⟩ := bind_some hf
    refine SB.seqB (fun kx_ => sb_asg (sl' := [sv cell_71, sv many_72, .at p_found_73, sv number_74, .any]) rfl (EV.cast (ev_op (ev_var (i := 0) rfl) (ev_op (ev_int 10) (ev_int 18) (r2_pow (r := 1000000000000000000))) r2_sub) (Option.some.inj h_number_74)) (kx_ _ _ ?_))
    refine SB.seqB (fun kx_77 => sb_if (b := (decide ((0 : Int) ≤ number_74))) (et_test (ev_op (ev_var (i := 3) rfl) (ev_int 0) r2_ge)) (fun hb_76 => ?_) (fun hb_76 => ?_))
    · have hf := ite_t hb_76 hf
      obtain ⟨rg_78, h_rg_78, hf⟩ := bind_some hf
      obtain ⟨⟨number_89, found_90⟩, h_tot_86, hf⟩ := bind_some hf
      refine SB.seqB (fun kx_91 => sb_for (β := Int) (Sx := Int × (List Int)) (fun s => [sv cell_71, sv many_72, .at p_found_73, sv s.1, .any]) (fun s => [ol p_found_73 s.2]) (fun x s => [sv cell_71, sv many_72, .at p_found_73, sv s.1, sv x]) [4] (fun xs s => forS (m__law_numbers_L1) xs s = some (number_89, found_90)) (number_74, found_73) (IT.m (it_rng1 (ea_cons (ev_var (i := 1) rfl) ea_nil) h_rg_78)) h_tot_86 (.keep (.keep (.keep (.keep (.keep .nil))))) (List.Sublist.refl _) (fun x s => (gt_name rfl)) ?_ ?_)
      · intro Kn1 b1 k_81 rest_ s_ hP_83 N_ hN_82
        obtain ⟨number_79, found_80⟩ := s_
        obtain ⟨c_, hc_84, hP_83⟩ := bind_some hP_83
        have q_85 := q.base b1
        unfold m__law_numbers_L1 at hc_84
        refine SB.is (sl' := [sv cell_71, sv many_72, .at p_found_73, sv number_79, sv k_81]) (ow1 := [ol p_found_73 found_80]) rfl rfl ?_
        obtain ⟨found_87, h_found_87, hc_84⟩ := bind_some hc_84
        refine SB.seqB (fun kx_ => sb_appO (i := 2) (j := 0) rfl rfl (ev_op (ev_var (i := 3) rfl) (ev_int 5040) r2_mod) h_found_87 (ow1 := [ol p_found_73 found_87]) rfl (kx_ _ _ ?_))
        obtain ⟨number_88, h_number_88, hc_84⟩ := bind_some hc_84
        refine sb_asg (sl' := [sv cell_71, sv many_72, .at p_found_73, sv number_88, sv k_81]) rfl (EV.cast (ev_op (ev_var (i := 3) rfl) (ev_int 5040) r2_div) (Option.some.inj h_number_88)) ?_
        cases hc_84
        exact fun σ Kn H s => hN_82 _ hP_83 σ Kn H ((s.le (.keep (.keep (.keep (.keep (.drop .nil)))))).sub (List.Sublist.refl _))
      · intro s_ h0
        cases h0
        refine kx_91 _ _ ?_
        refine SB.is (sl' := [sv cell_71, sv many_72, .at p_found_73, sv number_89, .any]) (ow1 := [ol p_found_73 found_90]) rfl rfl ?_
        cases hf
        exact sb_retO (i := 2) (j := 0) rfl rfl q (List.Sublist.cons _ List.Sublist.slnil)
    · have hf := ite_f hb_76 hf
      refine sb_nx ?_
      refine kx_77 _ _ ?_
      obtain ⟨number_92, h_number_92, hf⟩ := bind_some hf
      refine SB.seqB (fun kx_ => sb_asg (sl' := [sv cell_71, sv many_72, .at p_found_73, sv number_92, .any]) rfl (EV.cast (ev_op (ev_var (i := 0) rfl) (ev_int 2147483647) r2_mod) (Option.some.inj h_number_92)) (kx_ _ _ ?_))
      obtain ⟨rg_93, h_rg_93, hf⟩ := bind_some hf
      obtain ⟨⟨number_104, found_105⟩, h_tot_101, hf⟩ := bind_some hf
      refine SB.seqB (fun kx_106 => sb_for (β := Int) (Sx := Int × (List Int)) (fun s => [sv cell_71, sv many_72, .at p_found_73, sv s.1, .any]) (fun s => [ol p_found_73 s.2]) (fun x s => [sv cell_71, sv many_72, .at p_found_73, sv s.1, sv x]) [4] (fun xs s => forS (m__law_numbers_L2) xs s = some (number_104, found_105)) (number_92, found_73) (IT.m (it_rng1 (ea_cons (ev_op (ev_var (i := 1) rfl) (ev_int 1) r2_add) ea_nil) h_rg_93)) h_tot_101 (.keep (.keep (.keep (.keep (.keep .nil))))) (List.Sublist.refl _) (fun x s => (gt_name rfl)) ?_ ?_)
      · intro Kn1 b1 k_96 rest_ s_ hP_98 N_ hN_97
        obtain ⟨number_94, found_95⟩ := s_
        obtain ⟨c_, hc_99, hP_98⟩ := bind_some hP_98
        have q_100 := q.base b1
        unfold m__law_numbers_L2 at hc_99
        refine SB.is (sl' := [sv cell_71, sv many_72, .at p_found_73, sv number_94, sv k_96]) (ow1 := [ol p_found_73 found_95]) rfl rfl ?_
        obtain ⟨number_102, h_number_102, hc_99⟩ := bind_some hc_99
        refine SB.seqB (fun kx_ => sb_asg (sl' := [sv cell_71, sv many_72, .at p_found_73, sv number_102, sv k_96]) rfl (EV.cast (ev_op (ev_op (ev_op (ev_op (ev_var (i := 3) rfl) (ev_var (i := 4) rfl) r2_add) (ev_int 1) r2_add) (ev_int 48271) r2_mulr) (ev_int 2147483647) r2_mod) (Option.some.inj h_number_102)) (kx_ _ _ ?_))
        obtain ⟨found_103, h_found_103, hc_99⟩ := bind_some hc_99
        refine sb_appO (i := 2) (j := 0) rfl rfl (ev_op (ev_op (ev_var (i := 3) rfl) (ev_int 69621) r2_mulr) (ev_int 2147483629) r2_mod) h_found_103 (ow1 := [ol p_found_73 found_103]) rfl ?_
        cases hc_99
        exact fun σ Kn H s => hN_97 _ hP_98 σ Kn H ((s.le (.keep (.keep (.keep (.keep (.drop .nil)))))).sub (List.Sublist.refl _))
      · intro s_ h0
        cases h0
        refine kx_106 _ _ ?_
        refine SB.is (sl' := [sv cell_71, sv many_72, .at p_found_73, sv number_104, .any]) (ow1 := [ol p_found_73 found_105]) rfl rfl ?_
        refine sb_freeze (i := 2) (j := 0) (sl' := [sv cell_71, sv many_72, sv found_105, sv number_104, .any]) (ow1 := []) rfl rfl rfl rfl ?_
        cases hf
        exact sb_retL (en_sl (ev_var (i := 2) rfl) (eo_some (ev_int 1)) eo_none) q (List.Sublist.refl _)
theorem sc__law_own : FnScope ["_law_some", "_law_group", "_law_least", "_law_most", "_law_low", "_law_high"] ["_law_some", "_law_group"] (defScope s__law_own) := ⟨rfl, rfl, rfl, by decide +kernel, rfl, by decide +kernel, by decide +kernel⟩
set_option maxHeartbeats 4000000 in
theorem ok__law_own (T : TX K mg w) : FnOk P w K mg base CX0 1 T.a__law_own T.d__law_own ["_law_some", "_law_group"] (PF (τ := (List Int) × Int × Unit) K (fun t => m__law_own t.1 t.2.1)) := by
  refine T.F__law_own.ok sc__law_own (fun vs H Q E h => ?_) (fun cdv A outer s H vs Q E hr h => ?_)
  · obtain ⟨Kn, t, r, ek, h, hf, q⟩ := h
    exact Tp.len h
  · obtain ⟨Kn, t, r_, ek, h, hf, q⟩ := h
    obtain ⟨some_107, group_108, u_⟩ := t
    obtain ⟨v_0, rr_, rfl, hv_0, h⟩ := h
    obtain ⟨v_1, rr_, rfl, hv_1, h⟩ := h
    obtain rfl := h
    replace hf : m__law_own some_107 group_108 = some r_ := hf
    unfold m__law_own at hf
    refine ⟨_, (pss_cons (ps_set (i := 2) sc__law_own.nd rfl (.inl rfl) (pe_ix k_ixl (pe_lst (pa_cons pe_int (pa_cons (pe_op op_mod (pe_ix k_ixl (pv 0) pe_int (fun _ _ => rfl)) pe_int) pa_nil))) (pe_op op_mod (pe_ix k_ixl (pv 0) pe_int (fun _ _ => rfl)) pe_int) (fun _ _ => rfl)))
      (pss_cons (ps_set (i := 3) sc__law_own.nd rfl (.inl rfl) (pe_ix k_ixl (pe_lst (pa_cons (pe_op op_add (pv 2) (pe_op op_mod (pe_ix k_ixl (pv 0) pe_int (fun _ _ => rfl)) pe_int)) (pa_cons (pe_op op_pow pe_int pe_int) (pa_cons (pv 2) pa_nil)))) (pe_op op_mod (pe_op op_fdiv (pe_ix k_ixl (pv 0) pe_int (fun _ _ => rfl)) pe_int) pe_int) (fun _ _ => rfl)))
      (pss_cons (ps_set (i := 4) sc__law_own.nd rfl (.inl rfl) (pe_ix k_ixl (pe_lst (pa_cons pe_int (pa_cons (pe_op op_mod (pe_ix k_ixl (pv 0) pe_int (fun _ _ => rfl)) pe_int) pa_nil))) (pe_op op_mod (pe_op op_fdiv (pe_ix k_ixl (pv 0) pe_int (fun _ _ => rfl)) pe_int) pe_int) (fun _ _ => rfl)))
      (pss_cons (ps_set (i := 5) sc__law_own.nd rfl (.inl rfl) (pe_ix k_ixl (pe_lst (pa_cons (pe_op op_add (pv 4) (pe_op op_mod (pe_ix k_ixl (pv 0) pe_int (fun _ _ => rfl)) pe_int)) (pa_cons (pe_op op_pow pe_int pe_int) (pa_cons (pv 4) pa_nil)))) (pe_op op_mod (pe_op op_fdiv (pe_ix k_ixl (pv 0) pe_int (fun _ _ => rfl)) pe_int) pe_int) (fun _ _ => rfl)))
      (pss_one (ps_ret (pe_tup (pa_cons (pe_tup (pa_cons (pv 2) (pa_cons (pv 3) pa_nil))) (pa_cons (pe_tup (pa_cons (pv 4) (pa_cons (pv 5) pa_nil))) (pa_cons (pe_op op_mod (pe_ix k_ixl (pv 0) pe_int (fun _ _ => rfl)) pe_int) (pa_cons (pe_op op_mod (pe_ix k_ixl (pv 0) pe_int (fun _ _ => rfl)) pe_int) (pa_cons (pe_op op_mod (pe_ix k_ixl (pv 0) pe_int (fun _ _ => rfl)) pe_int) (pa_cons (pv 1) pa_nil))))))))))))), ?_⟩
    refine enter (Kn := Kn) (sl := [sv some_107, sv group_108, .any, .any, .any, .any]) ek ⟨⟨v_0, rfl, hv_0⟩, ⟨v_1, rfl, hv_1⟩, trivial, trivial, trivial, trivial, trivial⟩ ?_
    have q := rt_of q
    obtain ⟨i_109, h_i_109, hf⟩ := bind_some hf
    obtain ⟨i_110, h_i_110, hf⟩ := bind_some hf
    obtain ⟨i_111, h_i_111, hf⟩ := bind_some hf
    obtain ⟨least_112, h_least_112, hf⟩ := bind_some hf
    refine SB.seqB (fun kx_ => sb_asg (sl' := [sv some_107, sv group_108, sv least_112, .any, .any, .any]) rfl (EV.cast (ev_op (EN.ev (en_lst (el_cons (ev_int 0) (el_cons (ev_op (ev_op (ev_var (i := 0) rfl) (ev_int 0) (r2_ixL h_i_109)) (ev_int 12) r2_mod) el_nil)))) (ev_op (ev_op (ev_var (i := 0) rfl) (ev_int 1) (r2_ixL h_i_110)) (ev_int 2) r2_mod) (r2_ixL h_i_111)) (Option.some.inj h_least_112)) (kx_ _ _ ?_))
    obtain ⟨i_113, h_i_113, hf⟩ := bind_some hf
    obtain ⟨i_114, h_i_114, hf⟩ := bind_some hf
    obtain ⟨i_115, h_i_115, hf⟩ := bind_some hf
    obtain ⟨most_116, h_most_116, hf⟩ := bind_some hf
    refine SB.seqB (fun kx_ => sb_asg (sl' := [sv some_107, sv group_108, sv least_112, sv most_116, .any, .any]) rfl (EV.cast (ev_op (EN.ev (en_lst (el_cons (ev_op (ev_var (i := 2) rfl) (ev_op (ev_op (ev_var (i := 0) rfl) (ev_int 2) (r2_ixL h_i_113)) (ev_int 40) r2_mod) r2_add) (el_cons (ev_op (ev_int 10) (ev_int 6) (r2_pow (r := 1000000))) (el_cons (ev_var (i := 2) rfl) el_nil))))) (ev_op (ev_op (ev_op (ev_var (i := 0) rfl) (ev_int 1) (r2_ixL h_i_114)) (ev_int 2) r2_div) (ev_int 3) r2_mod) (r2_ixL h_i_115)) (Option.some.inj h_most_116)) (kx_ _ _ ?_))
    obtain ⟨i_117, h_i_117, hf⟩ := bind_some hf
    obtain ⟨i_118, h_i_118, hf⟩ := bind_some hf
    obtain ⟨i_119, h_i_119, hf⟩ := bind_some hf
    obtain ⟨low_120, h_low_120, hf⟩ := bind_some hf
    refine SB.seqB (fun kx_ => sb_asg (sl' := [sv some_107, sv group_108, sv least_112, sv most_116, sv low_120, .any]) rfl (EV.cast (ev_op (EN.ev (en_lst (el_cons (ev_int 0) (el_cons (ev_op (ev_op (ev_var (i := 0) rfl) (ev_int 3) (r2_ixL h_i_117)) (ev_int 5) r2_mod) el_nil)))) (ev_op (ev_op (ev_op (ev_var (i := 0) rfl) (ev_int 1) (r2_ixL h_i_118)) (ev_int 6) r2_div) (ev_int 2) r2_mod) (r2_ixL h_i_119)) (Option.some.inj h_low_120)) (kx_ _ _ ?_))
    obtain ⟨i_121, h_i_121, hf⟩ := bind_some hf
    obtain ⟨i_122, h_i_122, hf⟩ := bind_some hf
    obtain ⟨i_123, h_i_123, hf⟩ := bind_some hf
    obtain ⟨high_124, h_high_124, hf⟩ := bind_some hf
    refine SB.seqB (fun kx_ => sb_asg (sl' := [sv some_107, sv group_108, sv least_112, sv most_116, sv low_120, sv high_124]) rfl (EV.cast (ev_op (EN.ev (en_lst (el_cons (ev_op (ev_var (i := 4) rfl) (ev_op (ev_op (ev_var (i := 0) rfl) (ev_int 4) (r2_ixL h_i_121)) (ev_int 20) r2_mod) r2_add) (el_cons (ev_op (ev_int 10) (ev_int 6) (r2_pow (r := 1000000))) (el_cons (ev_var (i := 4) rfl) el_nil))))) (ev_op (ev_op (ev_op (ev_var (i := 0) rfl) (ev_int 1) (r2_ixL h_i_122)) (ev_int 12) r2_div) (ev_int 3) r2_mod) (r2_ixL h_i_123)) (Option.some.inj h_high_124)) (kx_ _ _ ?_))
    obtain ⟨i_125, h_i_125, hf⟩ := bind_some hf
    obtain ⟨i_126, h_i_126, hf⟩ := bind_some hf
    obtain ⟨i_127, h_i_127, hf⟩ := bind_some hf
    cases hf
    exact sb_ret (ev_tup (ea_cons (ev_tup (ea_cons (ev_var (i := 2) rfl) (ea_cons (ev_var (i := 3) rfl) ea_nil))) (ea_cons (ev_tup (ea_cons (ev_var (i := 4) rfl) (ea_cons (ev_var (i := 5) rfl) ea_nil))) (ea_cons (ev_op (ev_op (ev_var (i := 0) rfl) (ev_int 5) (r2_ixL h_i_125)) (ev_int 4) r2_mod) (ea_cons (ev_op (ev_op (ev_var (i := 0) rfl) (ev_int 6) (r2_ixL h_i_126)) (ev_int 4) r2_mod) (ea_cons (ev_op (ev_op (ev_var (i := 0) rfl) (ev_int 7) (r2_ixL h_i_127)) (ev_int 3) r2_mod) (ea_cons (ev_var (i := 1) rfl) ea_nil))))))) q (List.Sublist.refl _)
theorem sc__law_words : FnScope ["_law_some", "_law_words_here", "_law_number"] ["_law_some"] (defScope s__law_words) := ⟨rfl, rfl, rfl, by decide +kernel, rfl, by decide +kernel, by decide +kernel⟩
set_option maxHeartbeats 4000000 in
theorem ok__law_words (T : TX K mg w) : FnOk P w K mg base CX0 1 T.a__law_words T.d__law_words ["_law_some"] (PF (τ := (List Int) × Unit) K (fun t => m__law_words t.1)) := by
  refine T.F__law_words.ok sc__law_words (fun vs H Q E h => ?_) (fun cdv A outer s H vs Q E hr h => ?_)
  · obtain ⟨Kn, t, r, ek, h, hf, q⟩ := h
    exact Tp.len h
  · obtain ⟨Kn, t, r_, ek, h, hf, q⟩ := h
    obtain ⟨some_128, u_⟩ := t
    obtain ⟨v_0, rr_, rfl, hv_0, h⟩ := h
    obtain rfl := h
    replace hf : m__law_words some_128 = some r_ := hf
    unfold m__law_words at hf
    refine ⟨_, (pss_cons (ps_set (i := 1) sc__law_words.nd rfl (.inr rfl) (pe_lst (pa_cons (pe_tup (pa_cons pe_str pa_nil)) (pa_cons (pe_tup (pa_cons pe_str (pa_cons pe_str pa_nil))) (pa_cons (pe_tup (pa_cons pe_str pa_nil)) (pa_cons (pe_tup (pa_cons pe_str (pa_cons pe_str (pa_cons pe_str pa_nil)))) (pa_cons (pe_tup (pa_cons pe_str pa_nil)) (pa_cons (pe_tup (pa_cons pe_str (pa_cons pe_str pa_nil))) pa_nil))))))))
      (pss_one (ps_ret (pe_callTy k_tuple (by rfl) T.z_tuple (by decide +kernel) (pa_cons (pe_lc (own := [("_law_number", 2)]) (g := gName 2) (tt := tYes) (by rfl) sc__law_words.nd (kpi_list (pv 0)) (blkOk_by (own := [("_law_number", 2)]) (N := ["_law_some", "_law_words_here", "_law_number"]) (sc := defScope s__law_words) (by decide +kernel)) (fun _ _ _ _ _ => (pg_name (i := 2) sc__law_words.nd rfl (Or.inl rfl))) (fun _ _ _ _ _ => pts_nil) (fun _ _ _ _ _ => (pe_ix k_ixl (pv 1) (pe_op op_mod (pv 2) pe_int) (fun _ _ => rfl)))) pa_nil))))), ?_⟩
    refine enter (Kn := Kn) (sl := [sv some_128, .any, .any]) ek ⟨⟨v_0, rfl, hv_0⟩, trivial, trivial, trivial⟩ ?_
    have q := rt_of q
    obtain ⟨words_here_129, h_words_here_129, hf⟩ := bind_some hf
    refine SB.seqB (fun kx_ => sb_asg (sl' := [sv some_128, sv words_here_129, .any]) rfl (EV.cast (EN.ev (en_lst (el_cons (ev_tuH (el_cons (ev_str ("ab" : Str)) el_nil)) (el_cons (ev_tuH (el_cons (ev_str ("cde" : Str)) (el_cons (ev_str ("f" : Str)) el_nil))) (el_cons (ev_tuH (el_cons (ev_str ("ghij" : Str)) el_nil)) (el_cons (ev_tuH (el_cons (ev_str ("k" : Str)) (el_cons (ev_str ("l" : Str)) (el_cons (ev_str ("mnop" : Str)) el_nil)))) (el_cons (ev_tuH (el_cons (ev_str ("qr" : Str)) el_nil)) (el_cons (ev_tuH (el_cons (ev_str ("s" : Str)) (el_cons (ev_str ("tuv" : Str)) el_nil))) el_nil)))))))) (Option.some.inj h_words_here_129)) (kx_ _ _ ?_))
    obtain ⟨zs_131, h_zs_131, hf⟩ := bind_some hf
    cases hf
    exact sb_ret (ev_cb (ea_cons (EN.ev (en_lc (js := [2]) (fun x => [sv some_128, sv words_here_129, sv x]) h_zs_131 (it_list (ev_var (i := 0) rfl)) (anyAt_of (by rfl)) (fun x => (gt_name rfl)) (sub_of (by rfl)) (fun _ _ x b h => by cases h; exact et_yes) (fun _ _ x z _ h => by obtain ⟨number_130, hx_⟩ : ∃ y, y = x := ⟨x, rfl⟩; subst hx_; obtain ⟨i_132, h_i_132, h⟩ := bind_some h; have hz_ := Option.some.inj h; subst hz_; exact EV.is (sl' := [sv some_128, sv words_here_129, sv number_130]) rfl (ev_op (ev_var (i := 1) rfl) (ev_op (ev_var (i := 2) rfl) (ev_int 6) r2_mod) (r2_ixL h_i_132))))) ea_nil) rc_tuple) q (List.Sublist.refl _)
theorem sc__law_what : FnScope ["_law_kind", "_law_some", "_law_many", "_law_sides", "_law_columns", "_law_spans", "_law_k", "_law_number", "_law_anchors", "_law_told", "_law_across"] ["_law_kind", "_law_some", "_law_many"] (defScope s__law_what) := ⟨rfl, rfl, rfl, by decide +kernel, rfl, by decide +kernel, by decide +kernel⟩
set_option maxHeartbeats 4000000 in
theorem ok__law_what (T : TX K mg w) : FnOk P w K mg base CX0 2 T.a__law_what T.d__law_what ["_law_kind", "_law_some", "_law_many"] (PF (τ := Str × (List Int) × Int × Unit) K (fun t => m__law_what t.1 t.2.1 t.2.2.1)) := by
  refine T.F__law_what.ok sc__law_what (fun vs H Q E h => ?_) (fun cdv A outer s H vs Q E hr h => ?_)
  · obtain ⟨Kn, t, r, ek, h, hf, q⟩ := h
    exact Tp.len h
  · obtain ⟨Kn, t, r_, ek, h, hf, q⟩ := h
    obtain ⟨kind_133, some_134, many_135, u_⟩ := t
    obtain ⟨v_0, rr_, rfl, hv_0, h⟩ := h
    obtain ⟨v_1, rr_, rfl, hv_1, h⟩ := h
    obtain ⟨v_2, rr_, rfl, hv_2, h⟩ := h
    obtain rfl := h
    replace hf : m__law_what kind_133 some_134 many_135 = some r_ := hf
    unfold m__law_what at hf
    refine ⟨_, (pss_cons (ps_set (i := 3) sc__law_what.nd rfl (.inr rfl) (pe_lst (pa_cons pe_str (pa_cons pe_str pa_nil))))
      (pss_cons (ps_if (pt_cmpR op_eq (pv 0) pe_str (nomark _)) (pss_one (ps_ret (pe_tup (pa_cons (pe_op op_mod (pe_ix k_ixl (pv 1) pe_int (fun _ _ => rfl)) pe_int) (pa_cons (pe_op op_mod (pe_ix k_ixl (pv 1) pe_int (fun _ _ => rfl)) pe_int) pa_nil))))) pss_nil)
      (pss_cons (ps_if (pt_cmpR k_in (pv 0) (pe_lst (pa_cons pe_str (pa_cons pe_str (pa_cons pe_str pa_nil)))) (by rfl)) (pss_one (ps_ret (pe_tup (pa_cons (pe_op op_mod (pe_ix k_ixl (pv 1) pe_int (fun _ _ => rfl)) pe_int) (pa_cons (pe_ix k_ixl (pe_lst (pa_cons pe_str (pa_cons pe_str (pa_cons pe_str (pa_cons pe_str pa_nil))))) (pe_op op_mod (pe_ix k_ixl (pv 1) pe_int (fun _ _ => rfl)) pe_int) (fun _ _ => rfl)) (pa_cons (pe_ix k_ixl (pv 3) (pe_op op_mod (pe_ix k_ixl (pv 1) pe_int (fun _ _ => rfl)) pe_int) (fun _ _ => rfl)) pa_nil)))))) pss_nil)
      (pss_cons (ps_if (pt_cmpR op_eq (pv 0) pe_str (nomark _)) (pss_cons (ps_set (i := 4) sc__law_what.nd rfl (.inl rfl) (pe_op op_add pe_int (pe_op op_mod (pe_ix k_ixl (pv 1) pe_int (fun _ _ => rfl)) pe_int)))
      (pss_cons (ps_set (i := 5) sc__law_what.nd rfl (.inl rfl) (pe_lst pa_nil))
      (pss_cons (ps_for PassesOwn.never rfl (pi_range1 (by rfl) T.z_range (pa_cons (pv 2) pa_nil)) (pg_name (i := 6) sc__law_what.nd rfl (.inl rfl)) (pss_cons (ps_set (i := 7) sc__law_what.nd rfl (.inl rfl) (pe_ix k_ixl (pv 1) (pe_op op_add pe_int (pe_op op_mod (pv 6) pe_int)) (fun _ _ => rfl)))
      (pss_one (ps_expr (pe_bm PySem.F.plainAttrs_list PySem.F.slot_list_append PySem.F.type_list_append mt_append (pv 5) (pa_cons (pe_tup (pa_cons (pe_op op_add pe_int (pe_op op_mod (pe_op op_fdivW (pv 7) (pe_op op_add (pv 6) pe_int)) (pv 4))) (pa_cons (pe_op op_add pe_int (pe_op op_mod (pe_op op_fdiv (pv 7) pe_int) pe_int)) pa_nil))) pa_nil))))))
      (pss_one (ps_ret (pe_tup (pa_cons (pv 4) (pa_cons (pe_op op_mod (pe_ix k_ixl (pv 1) pe_int (fun _ _ => rfl)) pe_int) (pa_cons (pe_ix k_ixl (pv 3) (pe_op op_mod (pe_ix k_ixl (pv 1) pe_int (fun _ _ => rfl)) pe_int) (fun _ _ => rfl)) (pa_cons (pe_callTy k_tuple (by rfl) T.z_tuple (by decide +kernel) (pa_cons (pv 5) pa_nil)) pa_nil)))))))))) pss_nil)
      (pss_cons (ps_if (pt_cmpR op_eq (pv 0) pe_str (nomark _)) (pss_one (ps_ret (pe_tup (pa_cons (pe_call (ok__law_words T) hr (by rfl) T.g__law_words T.F__law_words.kp T.b__law_words .nil pass0 (pa_cons (pe_slice k_sll (pv 1) po_none (po_some (pe_op op_mod (pe_ix k_ixl (pv 1) pe_int (fun _ _ => rfl)) pe_int))) pa_nil)) (pa_cons (pe_op op_mod (pe_ix k_ixl (pv 1) pe_int (fun _ _ => rfl)) pe_int) pa_nil))))) pss_nil)
      (pss_cons (ps_if (pt_cmpR op_eq (pv 0) pe_str (nomark _)) (pss_one (ps_ret (pe_tup (pa_cons (pe_callTy k_tuple (by rfl) T.z_tuple (by decide +kernel) (pa_cons (pe_lc (own := [("_law_k", 6)]) (g := gName 6) (tt := tYes) (by rfl) sc__law_what.nd (pi_range1 (by rfl) T.z_range (pa_cons (pv 2) pa_nil)) (blkOk_by (own := [("_law_k", 6)]) (N := ["_law_kind", "_law_some", "_law_many", "_law_sides", "_law_columns", "_law_spans", "_law_k", "_law_number", "_law_anchors", "_law_told", "_law_across"]) (sc := defScope s__law_what) (by decide +kernel)) (fun _ _ _ _ _ => (pg_name (i := 6) sc__law_what.nd rfl (Or.inl rfl))) (fun _ _ _ _ _ => pts_nil) (fun _ _ _ _ _ => (pe_ix k_ixl (pv 3) (pe_op op_mod (pe_ix k_ixl (pv 1) (pe_op op_mod (pv 6) pe_int) (fun _ _ => rfl)) pe_int) (fun _ _ => rfl)))) pa_nil)) (pa_cons (pe_call (ok__law_words T) hr (by rfl) T.g__law_words T.F__law_words.kp T.b__law_words .nil pass0 (pa_cons (pe_slice k_sll (pv 1) po_none (po_some (pe_op op_mod (pe_ix k_ixl (pv 1) pe_int (fun _ _ => rfl)) pe_int))) pa_nil)) (pa_cons (pe_op op_mod (pe_ix k_ixl (pv 1) pe_int (fun _ _ => rfl)) pe_int) pa_nil)))))) pss_nil)
      (pss_cons (ps_set (i := 8) sc__law_what.nd rfl (.inl rfl) (pe_lst (pa_cons pe_str (pa_cons pe_str (pa_cons pe_str (pa_cons pe_str pa_nil))))))
      (pss_cons (ps_set (i := 9) sc__law_what.nd rfl (.inl rfl) (pe_lst pa_nil))
      (pss_cons (ps_for PassesOwn.never rfl (pi_range1 (by rfl) T.z_range (pa_cons (pe_op op_sub (pv 2) pe_int) pa_nil)) (pg_name (i := 6) sc__law_what.nd rfl (.inl rfl)) (pss_cons (ps_set (i := 10) sc__law_what.nd rfl (.inl rfl) (pe_tup (pa_cons (pe_ix k_ixl (pv 8) (pe_op op_mod (pe_ix k_ixl (pv 1) (pe_op op_mod (pv 6) pe_int) (fun _ _ => rfl)) pe_int) (fun _ _ => rfl)) (pa_cons (pe_op op_sub (pe_op op_mod (pe_op op_fdiv (pe_ix k_ixl (pv 1) (pe_op op_mod (pv 6) pe_int) (fun _ _ => rfl)) pe_int) pe_int) pe_int) pa_nil))))
      (pss_cons (ps_set (i := 7) sc__law_what.nd rfl (.inl rfl) (pe_ix k_ixl (pv 1) (pe_op op_add pe_int (pe_op op_mod (pv 6) pe_int)) (fun _ _ => rfl)))
      (pss_one (ps_expr (pe_bm PySem.F.plainAttrs_list PySem.F.slot_list_append PySem.F.type_list_append mt_append (pv 9) (pa_cons (pe_tup (pa_cons (pv 10) (pa_cons (pe_tup (pa_cons (pe_ix k_ixl (pv 8) (pe_op op_mod (pv 7) pe_int) (fun _ _ => rfl)) (pa_cons (pe_op op_sub (pe_op op_mod (pe_op op_fdiv (pv 7) pe_int) pe_int) pe_int) pa_nil))) pa_nil))) pa_nil)))))))
      (pss_one (ps_ret (pe_callTy k_tuple (by rfl) T.z_tuple (by decide +kernel) (pa_cons (pv 9) pa_nil))))))))))))), ?_⟩
    refine enter (Kn := Kn) (sl := [sv kind_133, sv some_134, sv many_135, .any, .any, .any, .any, .any, .any, .any, .any]) ek ⟨⟨v_0, rfl, hv_0⟩, ⟨v_1, rfl, hv_1⟩, ⟨v_2, rfl, hv_2⟩, trivial, trivial, trivial, trivial, trivial, trivial, trivial, trivial, trivial⟩ ?_
    have q := rt_of q
    obtain ⟨sides_136, h_sides_136, hf⟩ := bind_some hf
    refine SB.seqB (fun kx_ => sb_asg (sl' := [sv kind_133, sv some_134, sv many_135, sv sides_136, .any, .any, .any, .any, .any, .any, .any]) rfl (EV.cast (EN.ev (en_lst (el_cons (ev_str ("left" : Str)) (el_cons (ev_str ("right" : Str)) el_nil)))) (Option.some.inj h_sides_136)) (kx_ _ _ ?_))
    refine SB.seqB (fun kx_139 => sb_if (b := (decide (kind_133 = ("leaf" : Str)))) (et_test (ev_op (ev_var (i := 0) rfl) (ev_str ("leaf" : Str)) r2_eqS)) (fun hb_138 => ?_) (fun hb_138 => ?_))
    · have hf := ite_t hb_138 hf
      obtain ⟨i_140, h_i_140, hf⟩ := bind_some hf
      obtain ⟨i_141, h_i_141, hf⟩ := bind_some hf
      cases hf
      exact sb_ret (ev_up (ev_tup (ea_cons (ev_op (ev_op (ev_var (i := 1) rfl) (ev_int 0) (r2_ixL h_i_140)) (ev_int 30) r2_mod) (ea_cons (ev_op (ev_op (ev_var (i := 1) rfl) (ev_int 1) (r2_ixL h_i_141)) (ev_int 8) r2_mod) ea_nil)))) q (List.Sublist.refl _)
    · have hf := ite_f hb_138 hf
      refine sb_nx ?_
      refine kx_139 _ _ ?_
      refine SB.seqB (fun kx_144 => sb_if (b := (decide (kind_133 ∈ ([("row" : Str), ("column" : Str), ("wrap" : Str)] : List Str)))) (et_test (ev_op (ev_var (i := 0) rfl) (EN.ev (en_lst (el_cons (ev_str ("row" : Str)) (el_cons (ev_str ("column" : Str)) (el_cons (ev_str ("wrap" : Str)) el_nil))))) r2_in)) (fun hb_143 => ?_) (fun hb_143 => ?_))
      · have hf := ite_t hb_143 hf
        obtain ⟨i_145, h_i_145, hf⟩ := bind_some hf
        obtain ⟨i_146, h_i_146, hf⟩ := bind_some hf
        obtain ⟨i_147, h_i_147, hf⟩ := bind_some hf
        obtain ⟨i_148, h_i_148, hf⟩ := bind_some hf
        obtain ⟨i_149, h_i_149, hf⟩ := bind_some hf
        cases hf
        exact sb_ret (ev_up (ev_tup (ea_cons (ev_op (ev_op (ev_var (i := 1) rfl) (ev_int 0) (r2_ixL h_i_145)) (ev_int 4) r2_mod) (ea_cons (ev_op (EN.ev (en_lst (el_cons (ev_str ("start" : Str)) (el_cons (ev_str ("end" : Str)) (el_cons (ev_str ("mid" : Str)) (el_cons (ev_str ("mid2" : Str)) el_nil)))))) (ev_op (ev_op (ev_var (i := 1) rfl) (ev_int 1) (r2_ixL h_i_146)) (ev_int 4) r2_mod) (r2_ixL h_i_147)) (ea_cons (ev_op (ev_var (i := 3) rfl) (ev_op (ev_op (ev_var (i := 1) rfl) (ev_int 2) (r2_ixL h_i_148)) (ev_int 2) r2_mod) (r2_ixL h_i_149)) ea_nil))))) q (List.Sublist.refl _)
      · have hf := ite_f hb_143 hf
        refine sb_nx ?_
        refine kx_144 _ _ ?_
        refine SB.seqB (fun kx_152 => sb_if (b := (decide (kind_133 = ("table" : Str)))) (et_test (ev_op (ev_var (i := 0) rfl) (ev_str ("table" : Str)) r2_eqS)) (fun hb_151 => ?_) (fun hb_151 => ?_))
        · have hf := ite_t hb_151 hf
          obtain ⟨i_153, h_i_153, hf⟩ := bind_some hf
          obtain ⟨columns_154, h_columns_154, hf⟩ := bind_some hf
          refine SB.seqB (fun kx_ => sb_asg (sl' := [sv kind_133, sv some_134, sv many_135, sv sides_136, sv columns_154, .any, .any, .any, .any, .any, .any]) rfl (EV.cast (ev_op (ev_int 1) (ev_op (ev_op (ev_var (i := 1) rfl) (ev_int 0) (r2_ixL h_i_153)) (ev_int 3) r2_mod) r2_add) (Option.some.inj h_columns_154)) (kx_ _ _ ?_))
          obtain ⟨spans_155, h_spans_155, hf⟩ := bind_some hf
          refine SB.seqB (fun kx_ => sb_asgO (sl' := fun p_spans_155 => [sv kind_133, sv some_134, sv many_135, sv sides_136, sv columns_154, .at p_spans_155, .any, .any, .any, .any, .any]) (fun _ => rfl) (EN.cast (en_lst el_nil) (Option.some.inj h_spans_155)) (fun p_spans_155 => (kx_ _ _ ?_)))
          obtain ⟨rg_156, h_rg_156, hf⟩ := bind_some hf
          obtain ⟨spans_169, h_tot_163, hf⟩ := bind_some hf
          refine SB.seqB (fun kx_170 => sb_for (β := Int) (Sx := (List (Int × Int × Unit))) (fun s => [sv kind_133, sv some_134, sv many_135, sv sides_136, sv columns_154, .at p_spans_155, .any, .any, .any, .any, .any]) (fun s => [ol p_spans_155 s]) (fun x s => [sv kind_133, sv some_134, sv many_135, sv sides_136, sv columns_154, .at p_spans_155, sv x, .any, .any, .any, .any]) [6] (fun xs s => forS (m__law_what_L1 some_134 columns_154) xs s = some spans_169) spans_155 (IT.m (it_rng1 (ea_cons (ev_var (i := 2) rfl) ea_nil) h_rg_156)) h_tot_163 (.keep (.keep (.keep (.keep (.keep (.keep (.keep (.keep (.keep (.keep (.keep .nil))))))))))) (List.Sublist.refl _) (fun x s => (gt_name rfl)) ?_ ?_)
          · intro Kn1 b1 k_158 rest_ spans_157 hP_160 N_ hN_159
            obtain ⟨c_, hc_161, hP_160⟩ := bind_some hP_160
            have q_162 := q.base b1
            unfold m__law_what_L1 at hc_161
            refine SB.is (sl' := [sv kind_133, sv some_134, sv many_135, sv sides_136, sv columns_154, .at p_spans_155, sv k_158, .any, .any, .any, .any]) (ow1 := [ol p_spans_155 spans_157]) rfl rfl ?_
            obtain ⟨i_164, h_i_164, hc_161⟩ := bind_some hc_161
            obtain ⟨number_165, h_number_165, hc_161⟩ := bind_some hc_161
            refine SB.seqB (fun kx_ => sb_asg (sl' := [sv kind_133, sv some_134, sv many_135, sv sides_136, sv columns_154, .at p_spans_155, sv k_158, sv number_165, .any, .any, .any]) rfl (EV.cast (ev_op (ev_var (i := 1) rfl) (ev_op (ev_int 4) (ev_op (ev_var (i := 6) rfl) (ev_int 4) r2_mod) r2_add) (r2_ixL h_i_164)) (Option.some.inj h_number_165)) (kx_ _ _ ?_))
            obtain ⟨q_166, h_q_166, hc_161⟩ := bind_some hc_161
            obtain ⟨r_167, h_r_167, hc_161⟩ := bind_some hc_161
            obtain ⟨spans_168, h_spans_168, hc_161⟩ := bind_some hc_161
            refine sb_appO (i := 5) (j := 0) rfl rfl (ev_tup (ea_cons (ev_op (ev_int 1) (ev_op (ev_op (ev_var (i := 7) rfl) (ev_op (ev_var (i := 6) rfl) (ev_int 1) r2_add) (r2_divO h_q_166)) (ev_var (i := 4) rfl) (r2_modO h_r_167)) r2_add) (ea_cons (ev_op (ev_int 1) (ev_op (ev_op (ev_var (i := 7) rfl) (ev_int 7) r2_div) (ev_int 2) r2_mod) r2_add) ea_nil))) h_spans_168 (ow1 := [ol p_spans_155 spans_168]) rfl ?_
            cases hc_161
            exact fun σ Kn H s => hN_159 _ hP_160 σ Kn H ((s.le (.keep (.keep (.keep (.keep (.keep (.keep (.drop (.drop (.keep (.keep (.keep .nil)))))))))))).sub (List.Sublist.refl _))
          · intro s_ h0
            cases h0
            refine kx_170 _ _ ?_
            refine SB.is (sl' := [sv kind_133, sv some_134, sv many_135, sv sides_136, sv columns_154, .at p_spans_155, .any, .any, .any, .any, .any]) (ow1 := [ol p_spans_155 spans_169]) rfl rfl ?_
            refine sb_freeze (i := 5) (j := 0) (sl' := [sv kind_133, sv some_134, sv many_135, sv sides_136, sv columns_154, sv spans_169, .any, .any, .any, .any, .any]) (ow1 := []) rfl rfl rfl rfl ?_
            obtain ⟨i_171, h_i_171, hf⟩ := bind_some hf
            obtain ⟨i_172, h_i_172, hf⟩ := bind_some hf
            obtain ⟨i_173, h_i_173, hf⟩ := bind_some hf
            cases hf
            exact sb_ret (ev_up (ev_tup (ea_cons (ev_var (i := 4) rfl) (ea_cons (ev_op (ev_op (ev_var (i := 1) rfl) (ev_int 1) (r2_ixL h_i_171)) (ev_int 3) r2_mod) (ea_cons (ev_op (ev_var (i := 3) rfl) (ev_op (ev_op (ev_var (i := 1) rfl) (ev_int 2) (r2_ixL h_i_172)) (ev_int 2) r2_mod) (r2_ixL h_i_173)) (ea_cons (ev_cb (ea_cons (ev_var (i := 5) rfl) ea_nil) rc_tuple) ea_nil)))))) q (List.Sublist.refl _)
        · have hf := ite_f hb_151 hf
          refine sb_nx ?_
          refine kx_152 _ _ ?_
          refine SB.seqB (fun kx_176 => sb_if (b := (decide (kind_133 = ("words" : Str)))) (et_test (ev_op (ev_var (i := 0) rfl) (ev_str ("words" : Str)) r2_eqS)) (fun hb_175 => ?_) (fun hb_175 => ?_))
          · have hf := ite_t hb_175 hf
            obtain ⟨i_177, h_i_177, hf⟩ := bind_some hf
            obtain ⟨r_178, h_r_178, hf⟩ := bind_some hf
            obtain ⟨i_179, h_i_179, hf⟩ := bind_some hf
            cases hf
            exact sb_ret (ev_up (ev_tup (ea_cons (ev_call (ea_cons (EN.ev (en_sl (ev_var (i := 1) rfl) eo_none (eo_some (ev_op (ev_op (ev_var (i := 1) rfl) (ev_int 8) (r2_ixL h_i_177)) (ev_int 7) r2_mod)))) ea_nil) h_r_178) (ea_cons (ev_op (ev_op (ev_var (i := 1) rfl) (ev_int 2) (r2_ixL h_i_179)) (ev_int 60) r2_mod) ea_nil)))) q (List.Sublist.refl _)
          · have hf := ite_f hb_175 hf
            refine sb_nx ?_
            refine kx_176 _ _ ?_
            refine SB.seqB (fun kx_182 => sb_if (b := (decide (kind_133 = ("flow" : Str)))) (et_test (ev_op (ev_var (i := 0) rfl) (ev_str ("flow" : Str)) r2_eqS)) (fun hb_181 => ?_) (fun hb_181 => ?_))
            · have hf := ite_t hb_181 hf
              obtain ⟨rg_183, h_rg_183, hf⟩ := bind_some hf
              obtain ⟨zs_185, h_zs_185, hf⟩ := bind_some hf
              obtain ⟨i_188, h_i_188, hf⟩ := bind_some hf
              obtain ⟨r_189, h_r_189, hf⟩ := bind_some hf
              obtain ⟨i_190, h_i_190, hf⟩ := bind_some hf
              cases hf
              exact sb_ret (ev_up (ev_tup (ea_cons (ev_cb (ea_cons (EN.ev (en_lc (js := [6]) (fun x => [sv kind_133, sv some_134, sv many_135, sv sides_136, .any, .any, sv x, .any, .any, .any, .any]) h_zs_185 (it_rng1 (ea_cons (ev_var (i := 2) rfl) ea_nil) h_rg_183) (anyAt_of (by rfl)) (fun x => (gt_name rfl)) (sub_of (by rfl)) (fun _ _ x b h => by cases h; exact et_yes) (fun _ _ x z _ h => by obtain ⟨k_184, hx_⟩ : ∃ y, y = x := ⟨x, rfl⟩; subst hx_; obtain ⟨i_186, h_i_186, h⟩ := bind_some h; obtain ⟨i_187, h_i_187, h⟩ := bind_some h; have hz_ := Option.some.inj h; subst hz_; exact EV.is (sl' := [sv kind_133, sv some_134, sv many_135, sv sides_136, .any, .any, sv k_184, .any, .any, .any, .any]) rfl (ev_op (ev_var (i := 3) rfl) (ev_op (ev_op (ev_var (i := 1) rfl) (ev_op (ev_var (i := 6) rfl) (ev_int 8) r2_mod) (r2_ixL h_i_186)) (ev_int 2) r2_mod) (r2_ixL h_i_187))))) ea_nil) rc_tuple) (ea_cons (ev_call (ea_cons (EN.ev (en_sl (ev_var (i := 1) rfl) eo_none (eo_some (ev_op (ev_op (ev_var (i := 1) rfl) (ev_int 8) (r2_ixL h_i_188)) (ev_int 5) r2_mod)))) ea_nil) h_r_189) (ea_cons (ev_op (ev_op (ev_var (i := 1) rfl) (ev_int 2) (r2_ixL h_i_190)) (ev_int 60) r2_mod) ea_nil))))) q (List.Sublist.refl _)
            · have hf := ite_f hb_181 hf
              refine sb_nx ?_
              refine kx_182 _ _ ?_
              obtain ⟨anchors_191, h_anchors_191, hf⟩ := bind_some hf
              refine SB.seqB (fun kx_ => sb_asg (sl' := [sv kind_133, sv some_134, sv many_135, sv sides_136, .any, .any, .any, .any, sv anchors_191, .any, .any]) rfl (EV.cast (EN.ev (en_lst (el_cons (ev_str ("start" : Str)) (el_cons (ev_str ("mid" : Str)) (el_cons (ev_str ("mid2" : Str)) (el_cons (ev_str ("end" : Str)) el_nil)))))) (Option.some.inj h_anchors_191)) (kx_ _ _ ?_))
              obtain ⟨told_192, h_told_192, hf⟩ := bind_some hf
              refine SB.seqB (fun kx_ => sb_asgO (sl' := fun p_told_192 => [sv kind_133, sv some_134, sv many_135, sv sides_136, .any, .any, .any, .any, sv anchors_191, .at p_told_192, .any]) (fun _ => rfl) (EN.cast (en_lst el_nil) (Option.some.inj h_told_192)) (fun p_told_192 => (kx_ _ _ ?_)))
              obtain ⟨rg_193, h_rg_193, hf⟩ := bind_some hf
              obtain ⟨told_209, h_tot_200, hf⟩ := bind_some hf
              refine SB.seqB (fun kx_210 => sb_for (β := Int) (Sx := (List ((Str × Int × Unit) × (Str × Int × Unit) × Unit))) (fun s => [sv kind_133, sv some_134, sv many_135, sv sides_136, .any, .any, .any, .any, sv anchors_191, .at p_told_192, .any]) (fun s => [ol p_told_192 s]) (fun x s => [sv kind_133, sv some_134, sv many_135, sv sides_136, .any, .any, sv x, .any, sv anchors_191, .at p_told_192, .any]) [6] (fun xs s => forS (m__law_what_L2 some_134 anchors_191) xs s = some told_209) told_192 (IT.m (it_rng1 (ea_cons (ev_op (ev_var (i := 2) rfl) (ev_int 1) r2_sub) ea_nil) h_rg_193)) h_tot_200 (.keep (.keep (.keep (.keep (.keep (.keep (.keep (.keep (.keep (.keep (.keep .nil))))))))))) (List.Sublist.refl _) (fun x s => (gt_name rfl)) ?_ ?_)
              · intro Kn1 b1 k_195 rest_ told_194 hP_197 N_ hN_196
                obtain ⟨c_, hc_198, hP_197⟩ := bind_some hP_197
                have q_199 := q.base b1
                unfold m__law_what_L2 at hc_198
                refine SB.is (sl' := [sv kind_133, sv some_134, sv many_135, sv sides_136, .any, .any, sv k_195, .any, sv anchors_191, .at p_told_192, .any]) (ow1 := [ol p_told_192 told_194]) rfl rfl ?_
                obtain ⟨i_201, h_i_201, hc_198⟩ := bind_some hc_198
                obtain ⟨i_202, h_i_202, hc_198⟩ := bind_some hc_198
                obtain ⟨i_203, h_i_203, hc_198⟩ := bind_some hc_198
                obtain ⟨across_204, h_across_204, hc_198⟩ := bind_some hc_198
                refine SB.seqB (fun kx_ => sb_asg (sl' := [sv kind_133, sv some_134, sv many_135, sv sides_136, .any, .any, sv k_195, .any, sv anchors_191, .at p_told_192, sv across_204]) rfl (EV.cast (ev_tup (ea_cons (ev_op (ev_var (i := 8) rfl) (ev_op (ev_op (ev_var (i := 1) rfl) (ev_op (ev_var (i := 6) rfl) (ev_int 4) r2_mod) (r2_ixL h_i_201)) (ev_int 4) r2_mod) (r2_ixL h_i_202)) (ea_cons (ev_op (ev_op (ev_op (ev_op (ev_var (i := 1) rfl) (ev_op (ev_var (i := 6) rfl) (ev_int 4) r2_mod) (r2_ixL h_i_203)) (ev_int 4) r2_div) (ev_int 9) r2_mod) (ev_int 4) r2_sub) ea_nil))) (Option.some.inj h_across_204)) (kx_ _ _ ?_))
                obtain ⟨i_205, h_i_205, hc_198⟩ := bind_some hc_198
                obtain ⟨number_206, h_number_206, hc_198⟩ := bind_some hc_198
                refine SB.seqB (fun kx_ => sb_asg (sl' := [sv kind_133, sv some_134, sv many_135, sv sides_136, .any, .any, sv k_195, sv number_206, sv anchors_191, .at p_told_192, sv across_204]) rfl (EV.cast (ev_op (ev_var (i := 1) rfl) (ev_op (ev_int 4) (ev_op (ev_var (i := 6) rfl) (ev_int 4) r2_mod) r2_add) (r2_ixL h_i_205)) (Option.some.inj h_number_206)) (kx_ _ _ ?_))
                obtain ⟨i_207, h_i_207, hc_198⟩ := bind_some hc_198
                obtain ⟨told_208, h_told_208, hc_198⟩ := bind_some hc_198
                refine sb_appO (i := 9) (j := 0) rfl rfl (ev_tup (ea_cons (ev_var (i := 10) rfl) (ea_cons (ev_tup (ea_cons (ev_op (ev_var (i := 8) rfl) (ev_op (ev_var (i := 7) rfl) (ev_int 4) r2_mod) (r2_ixL h_i_207)) (ea_cons (ev_op (ev_op (ev_op (ev_var (i := 7) rfl) (ev_int 4) r2_div) (ev_int 9) r2_mod) (ev_int 4) r2_sub) ea_nil))) ea_nil))) h_told_208 (ow1 := [ol p_told_192 told_208]) rfl ?_
                cases hc_198
                exact fun σ Kn H s => hN_196 _ hP_197 σ Kn H ((s.le (.keep (.keep (.keep (.keep (.keep (.keep (.drop (.drop (.keep (.keep (.drop .nil)))))))))))).sub (List.Sublist.refl _))
              · intro s_ h0
                cases h0
                refine kx_210 _ _ ?_
                refine SB.is (sl' := [sv kind_133, sv some_134, sv many_135, sv sides_136, .any, .any, .any, .any, sv anchors_191, .at p_told_192, .any]) (ow1 := [ol p_told_192 told_209]) rfl rfl ?_
                refine sb_freeze (i := 9) (j := 0) (sl' := [sv kind_133, sv some_134, sv many_135, sv sides_136, .any, .any, .any, .any, sv anchors_191, sv told_209, .any]) (ow1 := []) rfl rfl rfl rfl ?_
                cases hf
                exact sb_ret (ev_up (ev_cb (ea_cons (ev_var (i := 9) rfl) ea_nil) rc_tuple)) q (List.Sublist.refl _)
theorem sc__law_grown : FnScope ["_law_cells", "_law_spot", "_law_deep", "_law_kinds", "_law_shift", "_law_tabled", "_law_some", "_law_letters", "_law_name", "_law_kind", "_law_many", "_law_parts", "_law_after", "_law_k", "_law_part", "_law_group", "_law_own_here"] ["_law_cells", "_law_spot", "_law_deep", "_law_kinds", "_law_shift", "_law_tabled"] (defScope s__law_grown) := ⟨rfl, rfl, rfl, by decide +kernel, rfl, by decide +kernel, by decide +kernel⟩
set_option maxHeartbeats 4000000 in
theorem step__law_grown (T : TX K mg w) (rec__law_grown : ((List Int) → Int → Int → (List Str) → Int → Bool → Option (Dy × Int × Unit))) {k_ : Nat} (hk_ : 2 ≤ k_) (hrec : FnOk P w K mg base CX0 k_ T.a__law_grown T.d__law_grown ["_law_cells", "_law_spot", "_law_deep", "_law_kinds", "_law_shift", "_law_tabled"] (PF (τ := (List Int) × Int × Int × (List Str) × Int × Bool × Unit) K (fun t => rec__law_grown t.1 t.2.1 t.2.2.1 t.2.2.2.1 t.2.2.2.2.1 t.2.2.2.2.2.1))) : FnOk P w K mg base CX0 (k_ + 1) T.a__law_grown T.d__law_grown ["_law_cells", "_law_spot", "_law_deep", "_law_kinds", "_law_shift", "_law_tabled"] (PF (τ := (List Int) × Int × Int × (List Str) × Int × Bool × Unit) K (fun t => m__law_grown_step rec__law_grown t.1 t.2.1 t.2.2.1 t.2.2.2.1 t.2.2.2.2.1 t.2.2.2.2.2.1)) := by
  refine T.F__law_grown.ok sc__law_grown (fun vs H Q E h => ?_) (fun cdv A outer s H vs Q E hr h => ?_)
  · obtain ⟨Kn, t, r, ek, h, hf, q⟩ := h
    exact Tp.len h
  · obtain ⟨Kn, t, r_, ek, h, hf, q⟩ := h
    obtain ⟨cells_211, spot_212, deep_213, kinds_214, shift_215, tabled_216, u_⟩ := t
    obtain ⟨v_0, rr_, rfl, hv_0, h⟩ := h
    obtain ⟨v_1, rr_, rfl, hv_1, h⟩ := h
    obtain ⟨v_2, rr_, rfl, hv_2, h⟩ := h
    obtain ⟨v_3, rr_, rfl, hv_3, h⟩ := h
    obtain ⟨v_4, rr_, rfl, hv_4, h⟩ := h
    obtain ⟨v_5, rr_, rfl, hv_5, h⟩ := h
    obtain rfl := h
    replace hf : m__law_grown_step rec__law_grown cells_211 spot_212 deep_213 kinds_214 shift_215 tabled_216 = some r_ := hf
    unfold m__law_grown_step at hf
    refine ⟨_, (pss_cons (ps_set (i := 6) sc__law_grown.nd rfl (.inl rfl) (pe_call (ok__law_numbers T) (hr.mono (by omega)) (by rfl) T.g__law_numbers T.F__law_numbers.kp T.b__law_numbers .nil pass0 (pa_cons (pe_call (ok__law_cell_at T) (hr.mono (by omega)) (by rfl) T.g__law_cell_at T.F__law_cell_at.kp T.b__law_cell_at .nil pass0 (pa_cons (pv 0) (pa_cons (pv 1) pa_nil))) (pa_cons pe_int pa_nil))))
      (pss_cons (ps_set (i := 7) sc__law_grown.nd rfl (.inl rfl) pe_str)
      (pss_cons (ps_set (i := 8) sc__law_grown.nd rfl (.inl rfl) (pe_ix ix_str (pv 7) (pe_op op_mod (pe_op op_add (pe_op op_mul pe_int (pv 1)) (pv 4)) pe_int) (fun _ _ => rfl)))
      (pss_cons (ps_set (i := 8) sc__law_grown.nd rfl (.inl rfl) (pe_op op_add_str (pv 8) (pe_ix ix_str (pv 7) (pe_op op_mod (pe_op op_add (pe_op op_add (pe_op op_mul pe_int (pv 1)) (pe_op op_fdiv (pv 1) pe_int)) (pe_op op_fdiv (pv 4) pe_int)) pe_int) (fun _ _ => rfl))))
      (pss_cons (ps_set (i := 9) sc__law_grown.nd rfl (.inl rfl) (pe_ix k_ixl (pv 3) (pe_op op_mod (pe_ix k_ixl (pv 6) pe_int (fun _ _ => rfl)) (pe_callB k_len (by rfl) T.z_len PySem.boot_len (pa_cons (pv 3) pa_nil))) (fun _ _ => rfl)))
      (Evl.pss_cut (ps_if (PW.pt (pw_or (pt_cmpR op_eq (pv 2) pe_int (nomark _)) (pw_or1 (pt_cmpR op_gt (pv 1) pe_int (nomark _))))) (pss_one (ps_set (i := 9) sc__law_grown.nd rfl (.inl rfl) (pe_ix k_ixl (pe_lst (pa_cons pe_str (pa_cons pe_str pa_nil))) (pe_op op_mul (pe_op op_mod (pe_ix k_ixl (pv 6) pe_int (fun _ _ => rfl)) pe_int) (pe_callTy call_int1 (by rfl) T.z_int (by decide +kernel) (pa_cons (pe_cmpR k_in pe_str (pv 3) (by rfl)) pa_nil))) (fun _ _ => rfl)))) pss_nil)
      (pss_cons (ps_set (i := 10) sc__law_grown.nd rfl (.inl rfl) pe_int)
      (Evl.pss_cut (ps_if (pt_cmpR k_notIn (pv 9) (pe_lst (pa_cons pe_str (pa_cons pe_str pa_nil))) (by rfl)) (pss_one (ps_set (i := 10) sc__law_grown.nd rfl (.inl rfl) (pe_op op_add (pe_callTy call_int1 (by rfl) T.z_int (by decide +kernel) (pa_cons (pe_cmpR op_eq (pv 9) pe_str (nomark _)) pa_nil)) (pe_op op_mod (pe_ix k_ixl (pv 6) pe_int (fun _ _ => rfl)) pe_int)))) pss_nil)
      (pss_cons (ps_set (i := 11) sc__law_grown.nd rfl (.inl rfl) (pe_lst pa_nil))
      (pss_cons (ps_set (i := 12) sc__law_grown.nd rfl (.inl rfl) (pe_op op_add (pv 1) pe_int))
      (pss_cons (ps_for PassesOwn.never rfl (pi_range1 (by rfl) T.z_range (pa_cons (pv 10) pa_nil)) (pg_name (i := 13) sc__law_grown.nd rfl (.inl rfl)) (pss_cons (ps_asg (pe_call hrec hr (by rfl) T.g__law_grown T.F__law_grown.kp T.b__law_grown .nil pass0 (pa_cons (pv 0) (pa_cons (pv 12) (pa_cons (pe_op op_add (pv 2) pe_int) (pa_cons (pv 3) (pa_cons (pv 4) (pa_cons (pe_or (pv 5) (pe_one (pe_cmpR op_eq (pv 9) pe_str (nomark _)))) pa_nil))))))) (kpg_tup (pgs_cons (pg_name (i := 14) sc__law_grown.nd rfl (.inl rfl)) (pgs_cons (pg_name (i := 12) sc__law_grown.nd rfl (.inl rfl)) pgs_nil))))
      (pss_one (ps_expr (pe_bm PySem.F.plainAttrs_list PySem.F.slot_list_append PySem.F.type_list_append mt_append (pv 11) (pa_cons (pv 14) pa_nil))))))
      (pss_cons (ps_set (i := 15) sc__law_grown.nd rfl (.inl rfl) pe_int)
      (Evl.pss_cut (ps_if (PW.pt (pw_and (pt_cmpR k_in (pv 9) (pe_lst (pa_cons pe_str (pa_cons pe_str (pa_cons pe_str (pa_cons pe_str pa_nil))))) (by rfl)) (pw_and1 (pt_not (pt_val (pv 5)))))) (pss_one (ps_set (i := 15) sc__law_grown.nd rfl (.inl rfl) (pe_op op_mod (pe_ix k_ixl (pv 6) pe_int (fun _ _ => rfl)) pe_int))) pss_nil)
      (pss_cons (ps_set (i := 16) sc__law_grown.nd rfl (.inl rfl) (pe_call (ok__law_own T) (hr.mono (by omega)) (by rfl) T.g__law_own T.F__law_own.kp T.b__law_own .nil pass0 (pa_cons (pv 6) (pa_cons (pv 15) pa_nil))))
      (pss_one (ps_ret (pe_tup (pa_cons (pe_tup (pa_cons (pv 9) (pa_cons (pv 8) (pa_cons (pv 16) (pa_cons (pe_call (ok__law_what T) (hr.mono (by omega)) (by rfl) T.g__law_what T.F__law_what.kp T.b__law_what .nil pass0 (pa_cons (pv 9) (pa_cons (pv 6) (pa_cons (pv 10) pa_nil)))) (pa_cons (pe_callTy k_tuple (by rfl) T.z_tuple (by decide +kernel) (pa_cons (pv 11) pa_nil)) pa_nil)))))) (pa_cons (pv 12) pa_nil))))))))))))))))))), ?_⟩
    refine enter (Kn := Kn) (sl := [sv cells_211, sv spot_212, sv deep_213, sv kinds_214, sv shift_215, sv tabled_216, .any, .any, .any, .any, .any, .any, .any, .any, .any, .any, .any]) ek ⟨⟨v_0, rfl, hv_0⟩, ⟨v_1, rfl, hv_1⟩, ⟨v_2, rfl, hv_2⟩, ⟨v_3, rfl, hv_3⟩, ⟨v_4, rfl, hv_4⟩, ⟨v_5, rfl, hv_5⟩, trivial, trivial, trivial, trivial, trivial, trivial, trivial, trivial, trivial, trivial, trivial, trivial⟩ ?_
    have q := rt_of q
    obtain ⟨r_217, h_r_217, hf⟩ := bind_some hf
    obtain ⟨r_218, h_r_218, hf⟩ := bind_some hf
    obtain ⟨some_219, h_some_219, hf⟩ := bind_some hf
    refine SB.seqB (fun kx_ => sb_asg (sl' := [sv cells_211, sv spot_212, sv deep_213, sv kinds_214, sv shift_215, sv tabled_216, sv some_219, .any, .any, .any, .any, .any, .any, .any, .any, .any, .any]) rfl (EV.cast (EN.ev (en_call (ea_cons (ev_call (ea_cons (ev_fz (ev_var (i := 0) rfl)) (ea_cons (ev_var (i := 1) rfl) ea_nil)) h_r_217) (ea_cons (ev_int 16) ea_nil)) h_r_218)) (Option.some.inj h_some_219)) (kx_ _ _ ?_))
    obtain ⟨letters_220, h_letters_220, hf⟩ := bind_some hf
    refine SB.seqB (fun kx_ => sb_asg (sl' := [sv cells_211, sv spot_212, sv deep_213, sv kinds_214, sv shift_215, sv tabled_216, sv some_219, sv letters_220, .any, .any, .any, .any, .any, .any, .any, .any, .any]) rfl (EV.cast (ev_str ("abcdefghijklmnopqrstuvwxyz" : Str)) (Option.some.inj h_letters_220)) (kx_ _ _ ?_))
    obtain ⟨i_221, h_i_221, hf⟩ := bind_some hf
    obtain ⟨name_222, h_name_222, hf⟩ := bind_some hf
    refine SB.seqB (fun kx_ => sb_asg (sl' := [sv cells_211, sv spot_212, sv deep_213, sv kinds_214, sv shift_215, sv tabled_216, sv some_219, sv letters_220, sv name_222, .any, .any, .any, .any, .any, .any, .any, .any]) rfl (EV.cast (ev_op (ev_var (i := 7) rfl) (ev_op (ev_op (ev_op (ev_int 11) (ev_var (i := 1) rfl) r2_mull) (ev_var (i := 4) rfl) r2_add) (ev_int 26) r2_mod) (r2_ixS h_i_221)) (Option.some.inj h_name_222)) (kx_ _ _ ?_))
    obtain ⟨i_223, h_i_223, hf⟩ := bind_some hf
    obtain ⟨t_224, h_t_224, hf⟩ := bind_some hf
    obtain ⟨name_225, h_name_225, hf⟩ := bind_some hf
    refine SB.seqB (fun kx_ => sb_asg (sl' := [sv cells_211, sv spot_212, sv deep_213, sv kinds_214, sv shift_215, sv tabled_216, sv some_219, sv letters_220, sv name_225, .any, .any, .any, .any, .any, .any, .any, .any]) rfl (EV.cast (ev_op (ev_var (i := 8) rfl) (ev_op (ev_var (i := 7) rfl) (ev_op (ev_op (ev_op (ev_op (ev_int 3) (ev_var (i := 1) rfl) r2_mull) (ev_op (ev_var (i := 1) rfl) (ev_int 26) r2_div) r2_add) (ev_op (ev_var (i := 4) rfl) (ev_int 26) r2_div) r2_add) (ev_int 26) r2_mod) (r2_ixS h_i_223)) (r2_addS h_t_224)) (Option.some.inj h_name_225)) (kx_ _ _ ?_))
    obtain ⟨i_226, h_i_226, hf⟩ := bind_some hf
    obtain ⟨r_227, h_r_227, hf⟩ := bind_some hf
    obtain ⟨i_228, h_i_228, hf⟩ := bind_some hf
    obtain ⟨kind_229, h_kind_229, hf⟩ := bind_some hf
    refine SB.seqB (fun kx_ => sb_asg (sl' := [sv cells_211, sv spot_212, sv deep_213, sv kinds_214, sv shift_215, sv tabled_216, sv some_219, sv letters_220, sv name_225, sv kind_229, .any, .any, .any, .any, .any, .any, .any]) rfl (EV.cast (ev_op (ev_var (i := 3) rfl) (ev_op (ev_op (ev_var (i := 6) rfl) (ev_int 10) (r2_ixL h_i_226)) (ev_cb (ea_cons (ev_var (i := 3) rfl) ea_nil) rc_len) (r2_modO h_r_227)) (r2_ixL h_i_228)) (Option.some.inj h_kind_229)) (kx_ _ _ ?_))
    obtain ⟨kind_236, hj_230, hf⟩ := bind_some hf
    refine SB.cutB (sl' := [sv cells_211, sv spot_212, sv deep_213, sv kinds_214, sv shift_215, sv tabled_216, sv some_219, sv letters_220, sv name_225, sv kind_236, .any, .any, .any, .any, .any, .any, .any]) (ow1 := []) (fun km_237 => sb_if (b := ((decide (deep_213 = (4 : Int))) || (decide ((9 : Int) < spot_212)))) (et_or (et_test (ev_op (ev_var (i := 2) rfl) (ev_int 4) r2_eqI)) (fun _ => (et_test (ev_op (ev_var (i := 1) rfl) (ev_int 9) r2_gt)))) (fun hb_231 => ?_) (fun hb_231 => ?_)) ?_
    · have hj_230 := ite_t hb_231 hj_230
      obtain ⟨i_232, h_i_232, hj_230⟩ := bind_some hj_230
      obtain ⟨m_233, h_m_233, hj_230⟩ := bind_some hj_230
      obtain ⟨i_234, h_i_234, hj_230⟩ := bind_some hj_230
      obtain ⟨kind_235, h_kind_235, hj_230⟩ := bind_some hj_230
      refine sb_asg (sl' := [sv cells_211, sv spot_212, sv deep_213, sv kinds_214, sv shift_215, sv tabled_216, sv some_219, sv letters_220, sv name_225, sv kind_235, .any, .any, .any, .any, .any, .any, .any]) rfl (EV.cast (ev_op (EN.ev (en_lst (el_cons (ev_str ("leaf" : Str)) (el_cons (ev_str ("words" : Str)) el_nil)))) (ev_op (ev_op (ev_op (ev_var (i := 6) rfl) (ev_int 11) (r2_ixL h_i_232)) (ev_int 2) r2_mod) (ev_cb (ea_cons (ev_op (ev_str ("words" : Str)) (ev_var (i := 3) rfl) r2_in) ea_nil) rc_intB) (r2_mulO h_m_233)) (r2_ixL h_i_234)) (Option.some.inj h_kind_235)) ?_
      cases hj_230
      exact km_237 _ _ (.keep (.keep (.keep (.keep (.keep (.keep (.keep (.keep (.keep (.keep (.keep (.keep (.keep (.keep (.keep (.keep (.keep .nil))))))))))))))))) (List.Sublist.refl _)
    · have hj_230 := ite_f hb_231 hj_230
      refine sb_nx ?_
      cases hj_230
      exact km_237 _ _ (.keep (.keep (.keep (.keep (.keep (.keep (.keep (.keep (.keep (.keep (.keep (.keep (.keep (.keep (.keep (.keep (.keep .nil))))))))))))))))) (List.Sublist.refl _)
    obtain ⟨many_238, h_many_238, hf⟩ := bind_some hf
    refine SB.seqB (fun kx_ => sb_asg (sl' := [sv cells_211, sv spot_212, sv deep_213, sv kinds_214, sv shift_215, sv tabled_216, sv some_219, sv letters_220, sv name_225, sv kind_236, sv many_238, .any, .any, .any, .any, .any, .any]) rfl (EV.cast (ev_int 0) (Option.some.inj h_many_238)) (kx_ _ _ ?_))
    obtain ⟨many_243, hj_239, hf⟩ := bind_some hf
    refine SB.cutB (sl' := [sv cells_211, sv spot_212, sv deep_213, sv kinds_214, sv shift_215, sv tabled_216, sv some_219, sv letters_220, sv name_225, sv kind_236, sv many_243, .any, .any, .any, .any, .any, .any]) (ow1 := []) (fun km_244 => sb_if (b := (!(decide (kind_236 ∈ ([("leaf" : Str), ("words" : Str)] : List Str))))) (et_test (ev_op (ev_var (i := 9) rfl) (EN.ev (en_lst (el_cons (ev_str ("leaf" : Str)) (el_cons (ev_str ("words" : Str)) el_nil)))) r2_notIn)) (fun hb_240 => ?_) (fun hb_240 => ?_)) ?_
    · have hj_239 := ite_t hb_240 hj_239
      obtain ⟨i_241, h_i_241, hj_239⟩ := bind_some hj_239
      obtain ⟨many_242, h_many_242, hj_239⟩ := bind_some hj_239
      refine sb_asg (sl' := [sv cells_211, sv spot_212, sv deep_213, sv kinds_214, sv shift_215, sv tabled_216, sv some_219, sv letters_220, sv name_225, sv kind_236, sv many_242, .any, .any, .any, .any, .any, .any]) rfl (EV.cast (ev_op (ev_cb (ea_cons (ev_op (ev_var (i := 9) rfl) (ev_str ("over" : Str)) r2_eqS) ea_nil) rc_intB) (ev_op (ev_op (ev_var (i := 6) rfl) (ev_int 12) (r2_ixL h_i_241)) (ev_int 4) r2_mod) r2_add) (Option.some.inj h_many_242)) ?_
      cases hj_239
      exact km_244 _ _ (.keep (.keep (.keep (.keep (.keep (.keep (.keep (.keep (.keep (.keep (.keep (.keep (.keep (.keep (.keep (.keep (.keep .nil))))))))))))))))) (List.Sublist.refl _)
    · have hj_239 := ite_f hb_240 hj_239
      refine sb_nx ?_
      cases hj_239
      exact km_244 _ _ (.keep (.keep (.keep (.keep (.keep (.keep (.keep (.keep (.keep (.keep (.keep (.keep (.keep (.keep (.keep (.keep (.keep .nil))))))))))))))))) (List.Sublist.refl _)
    obtain ⟨parts_245, h_parts_245, hf⟩ := bind_some hf
    refine SB.seqB (fun kx_ => sb_asgO (sl' := fun p_parts_245 => [sv cells_211, sv spot_212, sv deep_213, sv kinds_214, sv shift_215, sv tabled_216, sv some_219, sv letters_220, sv name_225, sv kind_236, sv many_243, .at p_parts_245, .any, .any, .any, .any, .any]) (fun _ => rfl) (EN.cast (en_lst el_nil) (Option.some.inj h_parts_245)) (fun p_parts_245 => (kx_ _ _ ?_)))
    obtain ⟨after_246, h_after_246, hf⟩ := bind_some hf
    refine SB.seqB (fun kx_ => sb_asg (sl' := [sv cells_211, sv spot_212, sv deep_213, sv kinds_214, sv shift_215, sv tabled_216, sv some_219, sv letters_220, sv name_225, sv kind_236, sv many_243, .at p_parts_245, sv after_246, .any, .any, .any, .any]) rfl (EV.cast (ev_op (ev_var (i := 1) rfl) (ev_int 1) r2_add) (Option.some.inj h_after_246)) (kx_ _ _ ?_))
    obtain ⟨rg_247, h_rg_247, hf⟩ := bind_some hf
    obtain ⟨⟨after_260, parts_261⟩, h_tot_255, hf⟩ := bind_some hf
    refine SB.seqB (fun kx_262 => sb_for (β := Int) (Sx := Int × (List Dy)) (fun s => [sv cells_211, sv spot_212, sv deep_213, sv kinds_214, sv shift_215, sv tabled_216, sv some_219, sv letters_220, sv name_225, sv kind_236, sv many_243, .at p_parts_245, sv s.1, .any, .any, .any, .any]) (fun s => [ol p_parts_245 s.2]) (fun x s => [sv cells_211, sv spot_212, sv deep_213, sv kinds_214, sv shift_215, sv tabled_216, sv some_219, sv letters_220, sv name_225, sv kind_236, sv many_243, .at p_parts_245, sv s.1, sv x, .any, .any, .any]) [13] (fun xs s => forS (m__law_grown_L1 rec__law_grown cells_211 deep_213 kinds_214 shift_215 tabled_216 kind_236) xs s = some (after_260, parts_261)) (after_246, parts_245) (IT.m (it_rng1 (ea_cons (ev_var (i := 10) rfl) ea_nil) h_rg_247)) h_tot_255 (.keep (.keep (.keep (.keep (.keep (.keep (.keep (.keep (.keep (.keep (.keep (.keep (.keep (.keep (.keep (.keep (.keep .nil))))))))))))))))) (List.Sublist.refl _) (fun x s => (gt_name rfl)) ?_ ?_)
    · intro Kn1 b1 k_250 rest_ s_ hP_252 N_ hN_251
      obtain ⟨after_248, parts_249⟩ := s_
      obtain ⟨c_, hc_253, hP_252⟩ := bind_some hP_252
      have q_254 := q.base b1
      unfold m__law_grown_L1 at hc_253
      refine SB.is (sl' := [sv cells_211, sv spot_212, sv deep_213, sv kinds_214, sv shift_215, sv tabled_216, sv some_219, sv letters_220, sv name_225, sv kind_236, sv many_243, .at p_parts_245, sv after_248, sv k_250, .any, .any, .any]) (ow1 := [ol p_parts_245 parts_249]) rfl rfl ?_
      obtain ⟨r_256, h_r_256, hc_253⟩ := bind_some hc_253
      obtain ⟨⟨part_257, after_258, _⟩, h_part_257, hc_253⟩ := bind_some hc_253
      refine SB.seqB (fun kx_ => sb_unp (sl' := [sv cells_211, sv spot_212, sv deep_213, sv kinds_214, sv shift_215, sv tabled_216, sv some_219, sv letters_220, sv name_225, sv kind_236, sv many_243, .at p_parts_245, sv after_258, sv k_250, sv part_257, .any, .any]) (EV.cast (ev_call (ea_cons (ev_var (i := 0) rfl) (ea_cons (ev_var (i := 12) rfl) (ea_cons (ev_op (ev_var (i := 2) rfl) (ev_int 1) r2_add) (ea_cons (ev_var (i := 3) rfl) (ea_cons (ev_var (i := 4) rfl) (ea_cons (ev_orV (ev_var (i := 5) rfl) (fun _ => (ev_op (ev_var (i := 9) rfl) (ev_str ("table" : Str)) r2_eqS))) ea_nil)))))) h_r_256) (Option.some.inj h_part_257)) (gt_tup (gts_cons (gt_name rfl) (gts_cons (gt_name rfl) gts_nil))) (kx_ _ _ ?_))
      obtain ⟨parts_259, h_parts_259, hc_253⟩ := bind_some hc_253
      refine sb_appO (i := 11) (j := 0) rfl rfl (ev_var (i := 14) rfl) h_parts_259 (ow1 := [ol p_parts_245 parts_259]) rfl ?_
      cases hc_253
      exact fun σ Kn H s => hN_251 _ hP_252 σ Kn H ((s.le (.keep (.keep (.keep (.keep (.keep (.keep (.keep (.keep (.keep (.keep (.keep (.keep (.keep (.drop (.drop (.keep (.keep .nil)))))))))))))))))).sub (List.Sublist.refl _))
    · intro s_ h0
      cases h0
      refine kx_262 _ _ ?_
      refine SB.is (sl' := [sv cells_211, sv spot_212, sv deep_213, sv kinds_214, sv shift_215, sv tabled_216, sv some_219, sv letters_220, sv name_225, sv kind_236, sv many_243, .at p_parts_245, sv after_260, .any, .any, .any, .any]) (ow1 := [ol p_parts_245 parts_261]) rfl rfl ?_
      obtain ⟨group_263, h_group_263, hf⟩ := bind_some hf
      refine SB.seqB (fun kx_ => sb_asg (sl' := [sv cells_211, sv spot_212, sv deep_213, sv kinds_214, sv shift_215, sv tabled_216, sv some_219, sv letters_220, sv name_225, sv kind_236, sv many_243, .at p_parts_245, sv after_260, .any, .any, sv group_263, .any]) rfl (EV.cast (ev_int 0) (Option.some.inj h_group_263)) (kx_ _ _ ?_))
      obtain ⟨group_268, hj_264, hf⟩ := bind_some hf
      refine SB.cutB (sl' := [sv cells_211, sv spot_212, sv deep_213, sv kinds_214, sv shift_215, sv tabled_216, sv some_219, sv letters_220, sv name_225, sv kind_236, sv many_243, .at p_parts_245, sv after_260, .any, .any, sv group_268, .any]) (ow1 := [ol p_parts_245 parts_261]) (fun km_269 => sb_if (b := ((decide (kind_236 ∈ ([("leaf" : Str), ("row" : Str), ("column" : Str), ("wrap" : Str)] : List Str))) && (!tabled_216))) (et_and (et_test (ev_op (ev_var (i := 9) rfl) (EN.ev (en_lst (el_cons (ev_str ("leaf" : Str)) (el_cons (ev_str ("row" : Str)) (el_cons (ev_str ("column" : Str)) (el_cons (ev_str ("wrap" : Str)) el_nil)))))) r2_in)) (fun _ => (et_not (et_B (ev_var (i := 5) rfl))))) (fun hb_265 => ?_) (fun hb_265 => ?_)) ?_
      · have hj_264 := ite_t hb_265 hj_264
        obtain ⟨i_266, h_i_266, hj_264⟩ := bind_some hj_264
        obtain ⟨group_267, h_group_267, hj_264⟩ := bind_some hj_264
        refine sb_asg (sl' := [sv cells_211, sv spot_212, sv deep_213, sv kinds_214, sv shift_215, sv tabled_216, sv some_219, sv letters_220, sv name_225, sv kind_236, sv many_243, .at p_parts_245, sv after_260, .any, .any, sv group_267, .any]) rfl (EV.cast (ev_op (ev_op (ev_var (i := 6) rfl) (ev_int 13) (r2_ixL h_i_266)) (ev_int 3) r2_mod) (Option.some.inj h_group_267)) ?_
        cases hj_264
        exact km_269 _ _ (.keep (.keep (.keep (.keep (.keep (.keep (.keep (.keep (.keep (.keep (.keep (.keep (.keep (.keep (.keep (.keep (.keep .nil))))))))))))))))) (List.Sublist.refl _)
      · have hj_264 := ite_f hb_265 hj_264
        refine sb_nx ?_
        cases hj_264
        exact km_269 _ _ (.keep (.keep (.keep (.keep (.keep (.keep (.keep (.keep (.keep (.keep (.keep (.keep (.keep (.keep (.keep (.keep (.keep .nil))))))))))))))))) (List.Sublist.refl _)
      obtain ⟨r_270, h_r_270, hf⟩ := bind_some hf
      obtain ⟨own_here_271, h_own_here_271, hf⟩ := bind_some hf
      refine SB.seqB (fun kx_ => sb_asg (sl' := [sv cells_211, sv spot_212, sv deep_213, sv kinds_214, sv shift_215, sv tabled_216, sv some_219, sv letters_220, sv name_225, sv kind_236, sv many_243, .at p_parts_245, sv after_260, .any, .any, sv group_268, sv own_here_271]) rfl (EV.cast (ev_call (ea_cons (ev_var (i := 6) rfl) (ea_cons (ev_var (i := 15) rfl) ea_nil)) h_r_270) (Option.some.inj h_own_here_271)) (kx_ _ _ ?_))
      refine sb_freeze (i := 11) (j := 0) (sl' := [sv cells_211, sv spot_212, sv deep_213, sv kinds_214, sv shift_215, sv tabled_216, sv some_219, sv letters_220, sv name_225, sv kind_236, sv many_243, sv parts_261, sv after_260, .any, .any, sv group_268, sv own_here_271]) (ow1 := []) rfl rfl rfl rfl ?_
      obtain ⟨r_272, h_r_272, hf⟩ := bind_some hf
      cases hf
      exact sb_ret (ev_tup (ea_cons (ev_up (ev_tup (ea_cons (ev_var (i := 9) rfl) (ea_cons (ev_var (i := 8) rfl) (ea_cons (ev_var (i := 16) rfl) (ea_cons (ev_call (ea_cons (ev_var (i := 9) rfl) (ea_cons (ev_var (i := 6) rfl) (ea_cons (ev_var (i := 10) rfl) ea_nil))) h_r_272) (ea_cons (ev_cb (ea_cons (ev_var (i := 11) rfl) ea_nil) rc_tuple) ea_nil))))))) (ea_cons (ev_var (i := 12) rfl) ea_nil))) q (List.Sublist.refl _)
theorem ok__law_grown (T : TX K mg w) : ∀ n : Nat, FnOk P w K mg base CX0 (2 + n) T.a__law_grown T.d__law_grown ["_law_cells", "_law_spot", "_law_deep", "_law_kinds", "_law_shift", "_law_tabled"] (PF (τ := (List Int) × Int × Int × (List Str) × Int × Bool × Unit) K (fun t => m__law_grown n t.1 t.2.1 t.2.2.1 t.2.2.2.1 t.2.2.2.2.1 t.2.2.2.2.2.1))
  | 0 => fnok_none
  | n + 1 => step__law_grown T (m__law_grown n) (Nat.le_add_right _ _) (ok__law_grown T n)
theorem sc__law_other : FnScope ["_law_side"] ["_law_side"] (defScope s__law_other) := ⟨rfl, rfl, rfl, by decide +kernel, rfl, by decide +kernel, by decide +kernel⟩
set_option maxHeartbeats 4000000 in
theorem ok__law_other (T : TX K mg w) : FnOk P w K mg base CX0 1 T.a__law_other T.d__law_other ["_law_side"] (PF (τ := Str × Unit) K (fun t => m__law_other t.1)) := by
  refine T.F__law_other.ok sc__law_other (fun vs H Q E h => ?_) (fun cdv A outer s H vs Q E hr h => ?_)
  · obtain ⟨Kn, t, r, ek, h, hf, q⟩ := h
    exact Tp.len h
  · obtain ⟨Kn, t, r_, ek, h, hf, q⟩ := h
    obtain ⟨side_273, u_⟩ := t
    obtain ⟨v_0, rr_, rfl, hv_0, h⟩ := h
    obtain rfl := h
    replace hf : m__law_other side_273 = some r_ := hf
    unfold m__law_other at hf
    refine ⟨_, (pss_one (ps_ret (pe_ix k_ixl (pe_lst (pa_cons pe_str (pa_cons pe_str pa_nil))) (pe_callTy call_int1 (by rfl) T.z_int (by decide +kernel) (pa_cons (pe_cmpR op_eq (pv 0) pe_str (nomark _)) pa_nil)) (fun _ _ => rfl)))), ?_⟩
    refine enter (Kn := Kn) (sl := [sv side_273]) ek ⟨⟨v_0, rfl, hv_0⟩, trivial⟩ ?_
    have q := rt_of q
    obtain ⟨i_274, h_i_274, hf⟩ := bind_some hf
    cases hf
    exact sb_ret (ev_op (EN.ev (en_lst (el_cons (ev_str ("right" : Str)) (el_cons (ev_str ("left" : Str)) el_nil)))) (ev_cb (ea_cons (ev_op (ev_var (i := 0) rfl) (ev_str ("right" : Str)) r2_eqS) ea_nil) rc_intB) (r2_ixL h_i_274)) q (List.Sublist.refl _)
theorem sc__law_due : FnScope ["_law_tree", "_law_kind", "_law_name", "_law_own_here", "_law_what_here", "_law_parts", "_law_turns", "_law_across", "_law_down", "_law_part", "_law_side"] ["_law_tree"] (defScope s__law_due) := ⟨rfl, rfl, rfl, by decide +kernel, rfl, by decide +kernel, by decide +kernel⟩
set_option maxHeartbeats 4000000 in
theorem step__law_due (T : TX K mg w) (rec__law_due : (Dy → Option Dy)) {k_ : Nat} (hk_ : 1 ≤ k_) (hrec : FnOk P w K mg base CX0 k_ T.a__law_due T.d__law_due ["_law_tree"] (PF (τ := Dy × Unit) K (fun t => rec__law_due t.1))) : FnOk P w K mg base CX0 (k_ + 1) T.a__law_due T.d__law_due ["_law_tree"] (PF (τ := Dy × Unit) K (fun t => m__law_due_step rec__law_due t.1)) := by
  refine T.F__law_due.ok sc__law_due (fun vs H Q E h => ?_) (fun cdv A outer s H vs Q E hr h => ?_)
  · obtain ⟨Kn, t, r, ek, h, hf, q⟩ := h
    exact Tp.len h
  · obtain ⟨Kn, t, r_, ek, h, hf, q⟩ := h
    obtain ⟨tree_275, u_⟩ := t
    obtain ⟨v_0, rr_, rfl, hv_0, h⟩ := h
    obtain rfl := h
    replace hf : m__law_due_step rec__law_due tree_275 = some r_ := hf
    unfold m__law_due_step at hf
    refine ⟨_, (pss_cons (ps_asg (pv 0) (kpg_tup (pgs_cons (pg_name (i := 1) sc__law_due.nd rfl (.inl rfl)) (pgs_cons (pg_name (i := 2) sc__law_due.nd rfl (.inl rfl)) (pgs_cons (pg_name (i := 3) sc__law_due.nd rfl (.inl rfl)) (pgs_cons (pg_name (i := 4) sc__law_due.nd rfl (.inl rfl)) (pgs_cons (pg_name (i := 5) sc__law_due.nd rfl (.inl rfl)) pgs_nil)))))))
      (Evl.pss_cut (ps_if (pt_cmpR k_in (pv 1) (pe_lst (pa_cons pe_str (pa_cons pe_str (pa_cons pe_str pa_nil)))) (by rfl)) (pss_one (ps_set (i := 4) sc__law_due.nd rfl (.inl rfl) (pe_tup (pa_cons (pe_ix k_ixt (pv 4) pe_int (fun _ _ => rfl)) (pa_cons (pe_ix k_ixt (pv 4) pe_int (fun _ _ => rfl)) (pa_cons (pe_call (ok__law_other T) (hr.mono (by omega)) (by rfl) T.g__law_other T.F__law_other.kp T.b__law_other .nil pass0 (pa_cons (pe_ix k_ixt (pv 4) pe_int (fun _ _ => rfl)) pa_nil)) pa_nil)))))) pss_nil)
      (Evl.pss_cut (ps_if (pt_cmpR op_eq (pv 1) pe_str (nomark _)) (pss_one (ps_set (i := 4) sc__law_due.nd rfl (.inl rfl) (pe_op k_catA (pe_op k_catA (pe_slice k_slt (pv 4) po_none (po_some pe_int)) (pe_tup (pa_cons (pe_call (ok__law_other T) (hr.mono (by omega)) (by rfl) T.g__law_other T.F__law_other.kp T.b__law_other .nil pass0 (pa_cons (pe_ix k_ixt (pv 4) pe_int (fun _ _ => rfl)) pa_nil)) pa_nil))) (pe_slice k_slt (pv 4) (po_some pe_int) po_none)))) pss_nil)
      (Evl.pss_cut (ps_if (pt_cmpR op_eq (pv 1) pe_str (nomark _)) (pss_one (ps_set (i := 4) sc__law_due.nd rfl (.inl rfl) (pe_op k_catA (pe_tup (pa_cons (pe_callTy k_tuple (by rfl) T.z_tuple (by decide +kernel) (pa_cons (pe_lc (own := [("_law_side", 10)]) (g := gName 10) (tt := tYes) (by rfl) sc__law_due.nd (kpi_tup (pe_ix k_ixt (pv 4) pe_int (fun _ _ => rfl))) (blkOk_by (own := [("_law_side", 10)]) (N := ["_law_tree", "_law_kind", "_law_name", "_law_own_here", "_law_what_here", "_law_parts", "_law_turns", "_law_across", "_law_down", "_law_part", "_law_side"]) (sc := defScope s__law_due) (by decide +kernel)) (fun _ _ _ _ _ => (pg_name (i := 10) sc__law_due.nd rfl (Or.inl rfl))) (fun _ _ _ _ _ => pts_nil) (fun _ _ _ _ _ => (pe_call (ok__law_other T) (hr.mono (by omega)) (by rfl) T.g__law_other T.F__law_other.kp T.b__law_other .nil pass0 (pa_cons (pv 10) pa_nil)))) pa_nil)) pa_nil)) (pe_slice k_slt (pv 4) (po_some pe_int) po_none)))) pss_nil)
      (Evl.pss_cut (ps_if (pt_cmpR op_eq (pv 1) pe_str (nomark _)) (pss_cons (ps_set (i := 6) sc__law_due.nd rfl (.inr rfl) (pe_disp (pps_cons pe_str pe_str (pps_cons pe_str pe_str (pps_cons pe_str pe_str (pps_cons pe_str pe_str pps_nil)))) (by rfl) (by rfl) (fun z => by cases z) (by decide)))
      (pss_one (ps_set (i := 4) sc__law_due.nd rfl (.inl rfl) (pe_callTy k_tuple (by rfl) T.z_tuple (by decide +kernel) (pa_cons (pe_lc (own := [("_law_across", 7), ("_law_down", 8)]) (g := gTup K 2 (gCons (gName 7) (gCons (gName 8) gNil))) (tt := tYes) (by rfl) sc__law_due.nd (kpi_tup (pv 4)) (blkOk_by (own := [("_law_across", 7), ("_law_down", 8)]) (N := ["_law_tree", "_law_kind", "_law_name", "_law_own_here", "_law_what_here", "_law_parts", "_law_turns", "_law_across", "_law_down", "_law_part", "_law_side"]) (sc := defScope s__law_due) (by decide +kernel)) (fun _ _ _ _ _ => (kpg_tup (pgs_cons (pg_name (i := 7) sc__law_due.nd rfl (Or.inl rfl)) (pgs_cons (pg_name (i := 8) sc__law_due.nd rfl (Or.inl rfl)) pgs_nil)))) (fun _ _ _ _ _ => pts_nil) (fun _ _ _ _ _ => (pe_tup (pa_cons (pe_tup (pa_cons (k_dget hr.units (pv 6) (pe_ix k_ixt (pv 7) pe_int (fun _ _ => rfl)) (fun _ _ => rfl)) (pa_cons (pe_un un_neg (pe_ix k_ixt (pv 7) pe_int (fun _ _ => rfl))) pa_nil))) (pa_cons (pv 8) pa_nil))))) pa_nil))))) pss_nil)
      (pss_one (ps_ret (pe_tup (pa_cons (pv 1) (pa_cons (pv 2) (pa_cons (pv 3) (pa_cons (pv 4) (pa_cons (pe_callTy k_tuple (by rfl) T.z_tuple (by decide +kernel) (pa_cons (pe_lc (own := [("_law_part", 9)]) (g := gName 9) (tt := tYes) (by rfl) sc__law_due.nd (kpi_tup (pv 5)) (blkOk_by (own := [("_law_part", 9)]) (N := ["_law_tree", "_law_kind", "_law_name", "_law_own_here", "_law_what_here", "_law_parts", "_law_turns", "_law_across", "_law_down", "_law_part", "_law_side"]) (sc := defScope s__law_due) (by decide +kernel)) (fun _ _ _ _ _ => (pg_name (i := 9) sc__law_due.nd rfl (Or.inl rfl))) (fun _ _ _ _ _ => pts_nil) (fun _ _ _ _ _ => (pe_call hrec hr (by rfl) T.g__law_due T.F__law_due.kp T.b__law_due .nil pass0 (pa_cons (pv 9) pa_nil)))) pa_nil)) pa_nil))))))))))))), ?_⟩
    refine enter (Kn := Kn) (sl := [sv tree_275, .any, .any, .any, .any, .any, .any, .any, .any, .any, .any]) ek ⟨⟨v_0, rfl, hv_0⟩, trivial, trivial, trivial, trivial, trivial, trivial, trivial, trivial, trivial, trivial, trivial⟩ ?_
    have q := rt_of q
    obtain ⟨o_276, h_o_276, hf⟩ := bind_some hf
    obtain ⟨⟨kind_277, name_278, own_here_279, what_here_280, parts_281, _⟩, h_kind_277, hf⟩ := bind_some hf
    refine SB.seqB (fun kx_ => sb_unp (sl' := [sv tree_275, sv kind_277, sv name_278, sv own_here_279, sv what_here_280, sv parts_281, .any, .any, .any, .any, .any]) (EV.cast (ev_of (ev_var (i := 0) rfl) h_o_276) (Option.some.inj h_kind_277)) (gt_tup (gts_cons (gt_name rfl) (gts_cons (gt_name rfl) (gts_cons (gt_name rfl) (gts_cons (gt_name rfl) (gts_cons (gt_name rfl) gts_nil)))))) (kx_ _ _ ?_))
    obtain ⟨o_283, h_o_283, hf⟩ := bind_some hf
    obtain ⟨what_here_294, hj_282, hf⟩ := bind_some hf
    refine SB.cutB (sl' := [sv tree_275, sv kind_277, sv name_278, sv own_here_279, sv what_here_294, sv parts_281, .any, .any, .any, .any, .any]) (ow1 := []) (fun km_295 => sb_if (b := (decide (o_283 ∈ ([("row" : Str), ("column" : Str), ("wrap" : Str)] : List Str)))) (et_test (ev_op (ev_of (ev_var (i := 1) rfl) h_o_283) (EN.ev (en_lst (el_cons (ev_str ("row" : Str)) (el_cons (ev_str ("column" : Str)) (el_cons (ev_str ("wrap" : Str)) el_nil))))) r2_in)) (fun hb_284 => ?_) (fun hb_284 => ?_)) ?_
    · have hj_282 := ite_t hb_284 hj_282
      obtain ⟨o_285, h_o_285, hj_282⟩ := bind_some hj_282
      obtain ⟨i_286, h_i_286, hj_282⟩ := bind_some hj_282
      obtain ⟨o_287, h_o_287, hj_282⟩ := bind_some hj_282
      obtain ⟨i_288, h_i_288, hj_282⟩ := bind_some hj_282
      obtain ⟨o_289, h_o_289, hj_282⟩ := bind_some hj_282
      obtain ⟨i_290, h_i_290, hj_282⟩ := bind_some hj_282
      obtain ⟨o_291, h_o_291, hj_282⟩ := bind_some hj_282
      obtain ⟨r_292, h_r_292, hj_282⟩ := bind_some hj_282
      obtain ⟨what_here_293, h_what_here_293, hj_282⟩ := bind_some hj_282
      refine sb_asg (sl' := [sv tree_275, sv kind_277, sv name_278, sv own_here_279, sv what_here_293, sv parts_281, .any, .any, .any, .any, .any]) rfl (EV.cast (ev_up (ev_tup (ea_cons (ev_op (ev_of (ev_var (i := 4) rfl) h_o_285) (ev_int 0) (r2_ixU h_i_286)) (ea_cons (ev_op (ev_of (ev_var (i := 4) rfl) h_o_287) (ev_int 1) (r2_ixU h_i_288)) (ea_cons (ev_call (ea_cons (ev_of (ev_op (ev_of (ev_var (i := 4) rfl) h_o_289) (ev_int 2) (r2_ixU h_i_290)) h_o_291) ea_nil) h_r_292) ea_nil))))) (Option.some.inj h_what_here_293)) ?_
      cases hj_282
      exact km_295 _ _ (.keep (.keep (.keep (.keep (.keep (.keep (.keep (.keep (.keep (.keep (.keep .nil))))))))))) (List.Sublist.refl _)
    · have hj_282 := ite_f hb_284 hj_282
      refine sb_nx ?_
      cases hj_282
      exact km_295 _ _ (.keep (.keep (.keep (.keep (.keep (.keep (.keep (.keep (.keep (.keep (.keep .nil))))))))))) (List.Sublist.refl _)
    obtain ⟨o_297, h_o_297, hf⟩ := bind_some hf
    obtain ⟨what_here_306, hj_296, hf⟩ := bind_some hf
    refine SB.cutB (sl' := [sv tree_275, sv kind_277, sv name_278, sv own_here_279, sv what_here_306, sv parts_281, .any, .any, .any, .any, .any]) (ow1 := []) (fun km_307 => sb_if (b := (decide (o_297 = ("table" : Str)))) (et_test (ev_op (ev_of (ev_var (i := 1) rfl) h_o_297) (ev_str ("table" : Str)) r2_eqS)) (fun hb_298 => ?_) (fun hb_298 => ?_)) ?_
    · have hj_296 := ite_t hb_298 hj_296
      obtain ⟨o_299, h_o_299, hj_296⟩ := bind_some hj_296
      obtain ⟨o_300, h_o_300, hj_296⟩ := bind_some hj_296
      obtain ⟨i_301, h_i_301, hj_296⟩ := bind_some hj_296
      obtain ⟨o_302, h_o_302, hj_296⟩ := bind_some hj_296
      obtain ⟨r_303, h_r_303, hj_296⟩ := bind_some hj_296
      obtain ⟨o_304, h_o_304, hj_296⟩ := bind_some hj_296
      obtain ⟨what_here_305, h_what_here_305, hj_296⟩ := bind_some hj_296
      refine sb_asg (sl' := [sv tree_275, sv kind_277, sv name_278, sv own_here_279, sv what_here_305, sv parts_281, .any, .any, .any, .any, .any]) rfl (EV.cast (ev_up (ev_op (ev_op (ev_tsl (a := 0) (b := 2) (ev_of (ev_var (i := 4) rfl) h_o_299) eo_none (eo_some (ev_int 2)) rfl rfl (by decide) (Cu.take _ (Cu.take _ (Cu.nil _)))) (ev_tup (ea_cons (ev_call (ea_cons (ev_of (ev_op (ev_of (ev_var (i := 4) rfl) h_o_300) (ev_int 2) (r2_ixU h_i_301)) h_o_302) ea_nil) h_r_303) ea_nil)) (r2_catA (Ap.s _ (Ap.s _ (Ap.z _))))) (ev_tsl (a := 3) (b := 1) (ev_of (ev_var (i := 4) rfl) h_o_304) (eo_some (ev_int 3)) eo_none rfl rfl (by decide) (Cu.drop _ (Cu.drop _ (Cu.drop _ (Cu.take _ (Cu.nil _)))))) (r2_catA (Ap.s _ (Ap.s _ (Ap.s _ (Ap.z _))))))) (Option.some.inj h_what_here_305)) ?_
      cases hj_296
      exact km_307 _ _ (.keep (.keep (.keep (.keep (.keep (.keep (.keep (.keep (.keep (.keep (.keep .nil))))))))))) (List.Sublist.refl _)
    · have hj_296 := ite_f hb_298 hj_296
      refine sb_nx ?_
      cases hj_296
      exact km_307 _ _ (.keep (.keep (.keep (.keep (.keep (.keep (.keep (.keep (.keep (.keep (.keep .nil))))))))))) (List.Sublist.refl _)
    obtain ⟨o_309, h_o_309, hf⟩ := bind_some hf
    obtain ⟨what_here_320, hj_308, hf⟩ := bind_some hf
    refine SB.cutB (sl' := [sv tree_275, sv kind_277, sv name_278, sv own_here_279, sv what_here_320, sv parts_281, .any, .any, .any, .any, .any]) (ow1 := []) (fun km_321 => sb_if (b := (decide (o_309 = ("flow" : Str)))) (et_test (ev_op (ev_of (ev_var (i := 1) rfl) h_o_309) (ev_str ("flow" : Str)) r2_eqS)) (fun hb_310 => ?_) (fun hb_310 => ?_)) ?_
    · have hj_308 := ite_t hb_310 hj_308
      obtain ⟨o_311, h_o_311, hj_308⟩ := bind_some hj_308
      obtain ⟨i_312, h_i_312, hj_308⟩ := bind_some hj_308
      obtain ⟨o_313, h_o_313, hj_308⟩ := bind_some hj_308
      obtain ⟨zs_315, h_zs_315, hj_308⟩ := bind_some hj_308
      obtain ⟨o_318, h_o_318, hj_308⟩ := bind_some hj_308
      obtain ⟨what_here_319, h_what_here_319, hj_308⟩ := bind_some hj_308
      refine sb_asg (sl' := [sv tree_275, sv kind_277, sv name_278, sv own_here_279, sv what_here_319, sv parts_281, .any, .any, .any, .any, .any]) rfl (EV.cast (ev_up (ev_op (ev_tup (ea_cons (ev_cb (ea_cons (EN.ev (en_lc (js := [10]) (fun x => [sv tree_275, sv kind_277, sv name_278, sv own_here_279, sv what_here_306, sv parts_281, .any, .any, .any, .any, sv x]) h_zs_315 (it_tup (ev_of (ev_op (ev_of (ev_var (i := 4) rfl) h_o_311) (ev_int 0) (r2_ixU h_i_312)) h_o_313)) (anyAt_of (by rfl)) (fun x => (gt_name rfl)) (sub_of (by rfl)) (fun _ _ x b h => by cases h; exact et_yes) (fun _ _ x z _ h => by obtain ⟨side_314, hx_⟩ : ∃ y, y = x := ⟨x, rfl⟩; subst hx_; obtain ⟨o_316, h_o_316, h⟩ := bind_some h; obtain ⟨r_317, h_r_317, h⟩ := bind_some h; have hz_ := Option.some.inj h; subst hz_; exact EV.is (sl' := [sv tree_275, sv kind_277, sv name_278, sv own_here_279, sv what_here_306, sv parts_281, .any, .any, .any, .any, sv side_314]) rfl (ev_call (ea_cons (ev_of (ev_var (i := 10) rfl) h_o_316) ea_nil) h_r_317)))) ea_nil) rc_tuple) ea_nil)) (ev_tsl (a := 1) (b := 2) (ev_of (ev_var (i := 4) rfl) h_o_318) (eo_some (ev_int 1)) eo_none rfl rfl (by decide) (Cu.drop _ (Cu.take _ (Cu.take _ (Cu.nil _))))) (r2_catA (Ap.s _ (Ap.z _))))) (Option.some.inj h_what_here_319)) ?_
      cases hj_308
      exact km_321 _ _ (.keep (.keep (.keep (.keep (.keep (.keep (.keep (.keep (.keep (.keep (.keep .nil))))))))))) (List.Sublist.refl _)
    · have hj_308 := ite_f hb_310 hj_308
      refine sb_nx ?_
      cases hj_308
      exact km_321 _ _ (.keep (.keep (.keep (.keep (.keep (.keep (.keep (.keep (.keep (.keep (.keep .nil))))))))))) (List.Sublist.refl _)
    obtain ⟨o_323, h_o_323, hf⟩ := bind_some hf
    obtain ⟨what_here_338, hj_322, hf⟩ := bind_some hf
    refine SB.cutB (sl' := [sv tree_275, sv kind_277, sv name_278, sv own_here_279, sv what_here_338, sv parts_281, .any, .any, .any, .any, .any]) (ow1 := []) (fun km_339 => sb_if (b := (decide (o_323 = ("over" : Str)))) (et_test (ev_op (ev_of (ev_var (i := 1) rfl) h_o_323) (ev_str ("over" : Str)) r2_eqS)) (fun hb_324 => ?_) (fun hb_324 => ?_)) ?_
    · have hj_322 := ite_t hb_324 hj_322
      obtain ⟨turns_325, h_turns_325, hj_322⟩ := bind_some hj_322
      refine SB.seqB (fun kx_ => sb_asg (sl' := [sv tree_275, sv kind_277, sv name_278, sv own_here_279, sv what_here_320, sv parts_281, sv turns_325, .any, .any, .any, .any]) rfl (EV.cast (EG.ev (eg_disp (eps_cons (ev_str ("start" : Str)) (ev_str ("end" : Str)) (eps_cons (ev_str ("end" : Str)) (ev_str ("start" : Str)) (eps_cons (ev_str ("mid" : Str)) (ev_str ("mid2" : Str)) (eps_cons (ev_str ("mid2" : Str)) (ev_str ("mid" : Str)) eps_nil)))) (Nat.le_of_ble_eq_true rfl))) (Option.some.inj h_turns_325)) (kx_ _ _ ?_))
      obtain ⟨o_326, h_o_326, hj_322⟩ := bind_some hj_322
      obtain ⟨zs_329, h_zs_329, hj_322⟩ := bind_some hj_322
      obtain ⟨what_here_337, h_what_here_337, hj_322⟩ := bind_some hj_322
      refine sb_asg (sl' := [sv tree_275, sv kind_277, sv name_278, sv own_here_279, sv what_here_337, sv parts_281, sv turns_325, .any, .any, .any, .any]) rfl (EV.cast (ev_up (ev_cb (ea_cons (EN.ev (en_lc (js := [7, 8]) (fun x => [sv tree_275, sv kind_277, sv name_278, sv own_here_279, sv what_here_320, sv parts_281, sv turns_325, sv x.1, sv x.2.1, .any, .any]) h_zs_329 (it_tup (ev_of (ev_var (i := 4) rfl) h_o_326)) (anyAt_of (by rfl)) (fun x => (gt_tup (gts_cons (gt_name rfl) (gts_cons (gt_name rfl) gts_nil)))) (sub_of (by rfl)) (fun _ _ x b h => by cases h; exact et_yes) (fun _ _ x z _ h => by obtain ⟨across_327, down_328, _⟩ := x; obtain ⟨o_330, h_o_330, h⟩ := bind_some h; obtain ⟨i_331, h_i_331, h⟩ := bind_some h; obtain ⟨o_332, h_o_332, h⟩ := bind_some h; obtain ⟨i_333, h_i_333, h⟩ := bind_some h; obtain ⟨o_334, h_o_334, h⟩ := bind_some h; obtain ⟨i_335, h_i_335, h⟩ := bind_some h; obtain ⟨o_336, h_o_336, h⟩ := bind_some h; have hz_ := Option.some.inj h; subst hz_; exact EV.is (sl' := [sv tree_275, sv kind_277, sv name_278, sv own_here_279, sv what_here_320, sv parts_281, sv turns_325, sv across_327, sv down_328, .any, .any]) rfl (ev_tup (ea_cons (ev_tup (ea_cons (ev_dget (ev_var (i := 6) rfl) (ev_of (ev_op (ev_of (ev_var (i := 7) rfl) h_o_330) (ev_int 0) (r2_ixU h_i_331)) h_o_332) h_i_333) (ea_cons (ev_un (ev_of (ev_op (ev_of (ev_var (i := 7) rfl) h_o_334) (ev_int 1) (r2_ixU h_i_335)) h_o_336) r1_neg) ea_nil))) (ea_cons (ev_var (i := 8) rfl) ea_nil)))))) ea_nil) rc_tuple)) (Option.some.inj h_what_here_337)) ?_
      cases hj_322
      exact km_339 _ _ (.keep (.keep (.keep (.keep (.keep (.keep (.drop (.keep (.keep (.keep (.keep .nil))))))))))) (List.Sublist.refl _)
    · have hj_322 := ite_f hb_324 hj_322
      refine sb_nx ?_
      cases hj_322
      exact km_339 _ _ (.keep (.keep (.keep (.keep (.keep (.keep (.keep (.keep (.keep (.keep (.keep .nil))))))))))) (List.Sublist.refl _)
    obtain ⟨o_340, h_o_340, hf⟩ := bind_some hf
    obtain ⟨zs_342, h_zs_342, hf⟩ := bind_some hf
    cases hf
    exact sb_ret (ev_up (ev_tup (ea_cons (ev_var (i := 1) rfl) (ea_cons (ev_var (i := 2) rfl) (ea_cons (ev_var (i := 3) rfl) (ea_cons (ev_var (i := 4) rfl) (ea_cons (ev_cb (ea_cons (EN.ev (en_lc (js := [9]) (fun x => [sv tree_275, sv kind_277, sv name_278, sv own_here_279, sv what_here_338, sv parts_281, .any, .any, .any, sv x, .any]) h_zs_342 (it_tup (ev_of (ev_var (i := 5) rfl) h_o_340)) (anyAt_of (by rfl)) (fun x => (gt_name rfl)) (sub_of (by rfl)) (fun _ _ x b h => by cases h; exact et_yes) (fun _ _ x z _ h => by obtain ⟨part_341, hx_⟩ : ∃ y, y = x := ⟨x, rfl⟩; subst hx_; obtain ⟨r_343, h_r_343, h⟩ := bind_some h; have hz_ := Option.some.inj h; subst hz_; exact EV.is (sl' := [sv tree_275, sv kind_277, sv name_278, sv own_here_279, sv what_here_338, sv parts_281, .any, .any, .any, sv part_341, .any]) rfl (ev_call (ea_cons (ev_var (i := 9) rfl) ea_nil) h_r_343)))) ea_nil) rc_tuple) ea_nil))))))) q (List.Sublist.refl _)
theorem ok__law_due (T : TX K mg w) : ∀ n : Nat, FnOk P w K mg base CX0 (1 + n) T.a__law_due T.d__law_due ["_law_tree"] (PF (τ := Dy × Unit) K (fun t => m__law_due n t.1))
  | 0 => fnok_none
  | n + 1 => step__law_due T (m__law_due n) (Nat.le_add_right _ _) (ok__law_due T n)
theorem sc_law : FnScope ["_law_script", "_law_kinds", "_law_tree", "_law_found"] ["_law_script"] (defScope s_law) := ⟨rfl, rfl, rfl, by decide +kernel, rfl, by decide +kernel, by decide +kernel⟩
set_option maxHeartbeats 4000000 in
theorem ok_law (T : TX K mg w) : FnOk P w K mg base CX0 11 T.a_law T.d_law ["_law_script"] (PF (τ := (Fz Int) × Unit) K (fun t => m_law t.1)) := by
  refine T.F_law.ok sc_law (fun vs H Q E h => ?_) (fun cdv A outer s H vs Q E hr h => ?_)
  · obtain ⟨Kn, t, r, ek, h, hf, q⟩ := h
    exact Tp.len h
  · obtain ⟨Kn, t, r_, ek, h, hf, q⟩ := h
    obtain ⟨script_344, u_⟩ := t
    obtain ⟨v_0, rr_, rfl, hv_0, h⟩ := h
    obtain rfl := h
    replace hf : m_law script_344 = some r_ := hf
    unfold m_law at hf
    refine ⟨_, (pss_cons (ps_set (i := 1) sc_law.nd rfl (.inl rfl) (pe_lst (pa_cons pe_str (pa_cons pe_str (pa_cons pe_str (pa_cons pe_str (pa_cons pe_str (pa_cons pe_str (pa_cons pe_str (pa_cons pe_str (pa_cons pe_str (pa_cons pe_str pa_nil))))))))))))
      (pss_cons (ps_set (i := 2) sc_law.nd rfl (.inl rfl) (pe_ix k_ixt (pe_call (ok__law_grown T 8) hr (by rfl) T.g__law_grown T.F__law_grown.kp T.b__law_grown .nil pass0 (pa_cons (pe_slice k_sll (pv 0) (po_some pe_int) (po_some pe_int)) (pa_cons pe_int (pa_cons pe_int (pa_cons (pv 1) (pa_cons (pe_op op_mod (pe_call (ok__law_cell_at T) (hr.mono (by decide)) (by rfl) T.g__law_cell_at T.F__law_cell_at.kp T.b__law_cell_at .nil pass0 (pa_cons (pv 0) (pa_cons pe_int pa_nil))) pe_int) (pa_cons pe_bl pa_nil))))))) pe_int (fun _ _ => rfl)))
      (pss_cons (ps_set (i := 3) sc_law.nd rfl (.inl rfl) (pe_call (ok_mirrored T 8) hr (by rfl) T.g_mirrored T.F_mirrored.kp T.b_mirrored .nil pass0 (pa_cons (pv 2) pa_nil)))
      (pss_one (ps_ret (pe_and (pe_cmpR (k_eqD hr.units) (pv 3) (pe_call (ok__law_due T 8) (hr.mono (by decide)) (by rfl) T.g__law_due T.F__law_due.kp T.b__law_due .nil pass0 (pa_cons (pv 2) pa_nil)) (nomark _)) (pe_one (pe_cmpR (k_eqD hr.units) (pe_call (ok_mirrored T 8) hr (by rfl) T.g_mirrored T.F_mirrored.kp T.b_mirrored .nil pass0 (pa_cons (pv 3) pa_nil)) (pv 2) (nomark _))))))))), ?_⟩
    refine enter (Kn := Kn) (sl := [sv script_344, .any, .any, .any]) ek ⟨⟨v_0, rfl, hv_0⟩, trivial, trivial, trivial, trivial⟩ ?_
    have q := rt_of q
    obtain ⟨kinds_345, h_kinds_345, hf⟩ := bind_some hf
    refine SB.seqB (fun kx_ => sb_asg (sl' := [sv script_344, sv kinds_345, .any, .any]) rfl (EV.cast (EN.ev (en_lst (el_cons (ev_str ("row" : Str)) (el_cons (ev_str ("column" : Str)) (el_cons (ev_str ("leaf" : Str)) (el_cons (ev_str ("wrap" : Str)) (el_cons (ev_str ("table" : Str)) (el_cons (ev_str ("words" : Str)) (el_cons (ev_str ("flow" : Str)) (el_cons (ev_str ("over" : Str)) (el_cons (ev_str ("row" : Str)) (el_cons (ev_str ("column" : Str)) el_nil)))))))))))) (Option.some.inj h_kinds_345)) (kx_ _ _ ?_))
    obtain ⟨r_346, h_r_346, hf⟩ := bind_some hf
    obtain ⟨r_347, h_r_347, hf⟩ := bind_some hf
    obtain ⟨tree_348, h_tree_348, hf⟩ := bind_some hf
    refine SB.seqB (fun kx_ => sb_asg (sl' := [sv script_344, sv kinds_345, sv tree_348, .any]) rfl (EV.cast (ev_op (ev_call (ea_cons (EN.ev (en_slF (ev_var (i := 0) rfl) (eo_some (ev_int 1)) (eo_some (ev_int 60)))) (ea_cons (ev_int 0) (ea_cons (ev_int 0) (ea_cons (ev_var (i := 1) rfl) (ea_cons (ev_op (ev_call (ea_cons (ev_var (i := 0) rfl) (ea_cons (ev_int 0) ea_nil)) h_r_346) (ev_int 676) r2_mod) (ea_cons (ev_bool false) ea_nil)))))) h_r_347) (ev_int 0) (r2_tix (n := 0) (At.z _ _))) (Option.some.inj h_tree_348)) (kx_ _ _ ?_))
    obtain ⟨r_349, h_r_349, hf⟩ := bind_some hf
    obtain ⟨found_350, h_found_350, hf⟩ := bind_some hf
    refine SB.seqB (fun kx_ => sb_asg (sl' := [sv script_344, sv kinds_345, sv tree_348, sv found_350]) rfl (EV.cast (ev_call (ea_cons (ev_var (i := 2) rfl) ea_nil) h_r_349) (Option.some.inj h_found_350)) (kx_ _ _ ?_))
    obtain ⟨r_351, h_r_351, hf⟩ := bind_some hf
    obtain ⟨e_352, h_e_352, hf⟩ := bind_some hf
    obtain ⟨b_355, h_b_355, hf⟩ := bind_some hf
    cases hf
    exact sb_ret (ev_andO h_b_355 (ev_op (ev_var (i := 3) rfl) (ev_call (ea_cons (ev_var (i := 2) rfl) ea_nil) h_r_351) (r2_eqY h_e_352)) (fun _ _ h => by obtain ⟨r_353, h_r_353, h⟩ := bind_some h; obtain ⟨e_354, h_e_354, h⟩ := bind_some h; have hz_ := Option.some.inj h; subst hz_; exact (ev_op (ev_call (ea_cons (ev_var (i := 3) rfl) ea_nil) h_r_353) (ev_var (i := 2) rfl) (r2_eqY h_e_354)))) q (List.Sublist.refl _)
end
theorem all_mk (main : ∀ ns : List Int, ns.length ≤ 63 → m_law (Fz.mk ns) = some true) {l : PySem.W.OpenLaw} {w : World} {K : Fg} {h : Heap} {mg : Str → Option Value} {fa f_other_anchor f_mirrored_what f_mirrored f__law_cell_at f__law_numbers f__law_own f__law_words f__law_what f__law_grown f__law_other f__law_due f_law : Addr} (X : K.In h) (G : h.Ns mainGlobals mg) (hfa : mg "law" = some (.ref fa))
     {od_other_anchor an_other_anchor : Option Addr} {sl_other_anchor : Array (Option Value)} {oc_other_anchor kV_other_anchor dc_other_anchor pm_other_anchor cd_other_anchor ct_other_anchor : Value} {od_mirrored_what an_mirrored_what : Option Addr} {sl_mirrored_what : Array (Option Value)} {oc_mirrored_what kV_mirrored_what dc_mirrored_what pm_mirrored_what cd_mirrored_what ct_mirrored_what : Value} {od_mirrored an_mirrored : Option Addr} {sl_mirrored : Array (Option Value)} {oc_mirrored kV_mirrored dc_mirrored pm_mirrored cd_mirrored ct_mirrored : Value} {od__law_cell_at an__law_cell_at : Option Addr} {sl__law_cell_at : Array (Option Value)} {oc__law_cell_at kV__law_cell_at dc__law_cell_at pm__law_cell_at cd__law_cell_at ct__law_cell_at : Value} {od__law_numbers an__law_numbers : Option Addr} {sl__law_numbers : Array (Option Value)} {oc__law_numbers kV__law_numbers dc__law_numbers pm__law_numbers cd__law_numbers ct__law_numbers : Value} {od__law_own an__law_own : Option Addr} {sl__law_own : Array (Option Value)} {oc__law_own kV__law_own dc__law_own pm__law_own cd__law_own ct__law_own : Value} {od__law_words an__law_words : Option Addr} {sl__law_words : Array (Option Value)} {oc__law_words kV__law_words dc__law_words pm__law_words cd__law_words ct__law_words : Value} {od__law_what an__law_what : Option Addr} {sl__law_what : Array (Option Value)} {oc__law_what kV__law_what dc__law_what pm__law_what cd__law_what ct__law_what : Value} {od__law_grown an__law_grown : Option Addr} {sl__law_grown : Array (Option Value)} {oc__law_grown kV__law_grown dc__law_grown pm__law_grown cd__law_grown ct__law_grown : Value} {od__law_other an__law_other : Option Addr} {sl__law_other : Array (Option Value)} {oc__law_other kV__law_other dc__law_other pm__law_other cd__law_other ct__law_other : Value} {od__law_due an__law_due : Option Addr} {sl__law_due : Array (Option Value)} {oc__law_due kV__law_due dc__law_due pm__law_due cd__law_due ct__law_due : Value} {od_law an_law : Option Addr} {sl_law : Array (Option Value)} {oc_law kV_law dc_law pm_law cd_law ct_law : Value} {dd_ANCHORS : Addr} {es_ANCHORS : Array DictEntry} {nn_ANCHORS : Nat} {tk_ANCHORS_0 : Tok} {tk_ANCHORS_1 : Tok} {tk_ANCHORS_2 : Tok} {tk_ANCHORS_3 : Tok} {dd_SIDES : Addr} {es_SIDES : Array DictEntry} {nn_SIDES : Nat} {tk_SIDES_0 : Tok} {tk_SIDES_1 : Tok}
    (a_other_anchor : PySem.W.nsIn K mainGlobals "other_anchor" = some (some (.ref f_other_anchor))) (l_other_anchor : K.lookup f_other_anchor = some ⟨oc_other_anchor, od_other_anchor, .func (PySem.W.fnOf "other_anchor" "other_anchor" (defArgs s_other_anchor) (defBody s_other_anchor) (defScope s_other_anchor) .none kV_other_anchor dc_other_anchor pm_other_anchor an_other_anchor cd_other_anchor ct_other_anchor), sl_other_anchor⟩) (c_other_anchor : PySem.W.codeIn K cd_other_anchor "other_anchor" = true) (k_other_anchor : PySem.W.keepIn K (.ref f_other_anchor) = true)
    (a_mirrored_what : PySem.W.nsIn K mainGlobals "mirrored_what" = some (some (.ref f_mirrored_what))) (l_mirrored_what : K.lookup f_mirrored_what = some ⟨oc_mirrored_what, od_mirrored_what, .func (PySem.W.fnOf "mirrored_what" "mirrored_what" (defArgs s_mirrored_what) (defBody s_mirrored_what) (defScope s_mirrored_what) .none kV_mirrored_what dc_mirrored_what pm_mirrored_what an_mirrored_what cd_mirrored_what ct_mirrored_what), sl_mirrored_what⟩) (c_mirrored_what : PySem.W.codeIn K cd_mirrored_what "mirrored_what" = true) (k_mirrored_what : PySem.W.keepIn K (.ref f_mirrored_what) = true)
    (a_mirrored : PySem.W.nsIn K mainGlobals "mirrored" = some (some (.ref f_mirrored))) (l_mirrored : K.lookup f_mirrored = some ⟨oc_mirrored, od_mirrored, .func (PySem.W.fnOf "mirrored" "mirrored" (defArgs s_mirrored) (defBody s_mirrored) (defScope s_mirrored) .none kV_mirrored dc_mirrored pm_mirrored an_mirrored cd_mirrored ct_mirrored), sl_mirrored⟩) (c_mirrored : PySem.W.codeIn K cd_mirrored "mirrored" = true) (k_mirrored : PySem.W.keepIn K (.ref f_mirrored) = true)
    (a__law_cell_at : PySem.W.nsIn K mainGlobals "_law_cell_at" = some (some (.ref f__law_cell_at))) (l__law_cell_at : K.lookup f__law_cell_at = some ⟨oc__law_cell_at, od__law_cell_at, .func (PySem.W.fnOf "_law_cell_at" "_law_cell_at" (defArgs s__law_cell_at) (defBody s__law_cell_at) (defScope s__law_cell_at) .none kV__law_cell_at dc__law_cell_at pm__law_cell_at an__law_cell_at cd__law_cell_at ct__law_cell_at), sl__law_cell_at⟩) (c__law_cell_at : PySem.W.codeIn K cd__law_cell_at "_law_cell_at" = true) (k__law_cell_at : PySem.W.keepIn K (.ref f__law_cell_at) = true)
    (a__law_numbers : PySem.W.nsIn K mainGlobals "_law_numbers" = some (some (.ref f__law_numbers))) (l__law_numbers : K.lookup f__law_numbers = some ⟨oc__law_numbers, od__law_numbers, .func (PySem.W.fnOf "_law_numbers" "_law_numbers" (defArgs s__law_numbers) (defBody s__law_numbers) (defScope s__law_numbers) .none kV__law_numbers dc__law_numbers pm__law_numbers an__law_numbers cd__law_numbers ct__law_numbers), sl__law_numbers⟩) (c__law_numbers : PySem.W.codeIn K cd__law_numbers "_law_numbers" = true) (k__law_numbers : PySem.W.keepIn K (.ref f__law_numbers) = true)
    (a__law_own : PySem.W.nsIn K mainGlobals "_law_own" = some (some (.ref f__law_own))) (l__law_own : K.lookup f__law_own = some ⟨oc__law_own, od__law_own, .func (PySem.W.fnOf "_law_own" "_law_own" (defArgs s__law_own) (defBody s__law_own) (defScope s__law_own) .none kV__law_own dc__law_own pm__law_own an__law_own cd__law_own ct__law_own), sl__law_own⟩) (c__law_own : PySem.W.codeIn K cd__law_own "_law_own" = true) (k__law_own : PySem.W.keepIn K (.ref f__law_own) = true)
    (a__law_words : PySem.W.nsIn K mainGlobals "_law_words" = some (some (.ref f__law_words))) (l__law_words : K.lookup f__law_words = some ⟨oc__law_words, od__law_words, .func (PySem.W.fnOf "_law_words" "_law_words" (defArgs s__law_words) (defBody s__law_words) (defScope s__law_words) .none kV__law_words dc__law_words pm__law_words an__law_words cd__law_words ct__law_words), sl__law_words⟩) (c__law_words : PySem.W.codeIn K cd__law_words "_law_words" = true) (k__law_words : PySem.W.keepIn K (.ref f__law_words) = true)
    (a__law_what : PySem.W.nsIn K mainGlobals "_law_what" = some (some (.ref f__law_what))) (l__law_what : K.lookup f__law_what = some ⟨oc__law_what, od__law_what, .func (PySem.W.fnOf "_law_what" "_law_what" (defArgs s__law_what) (defBody s__law_what) (defScope s__law_what) .none kV__law_what dc__law_what pm__law_what an__law_what cd__law_what ct__law_what), sl__law_what⟩) (c__law_what : PySem.W.codeIn K cd__law_what "_law_what" = true) (k__law_what : PySem.W.keepIn K (.ref f__law_what) = true)
    (a__law_grown : PySem.W.nsIn K mainGlobals "_law_grown" = some (some (.ref f__law_grown))) (l__law_grown : K.lookup f__law_grown = some ⟨oc__law_grown, od__law_grown, .func (PySem.W.fnOf "_law_grown" "_law_grown" (defArgs s__law_grown) (defBody s__law_grown) (defScope s__law_grown) .none kV__law_grown dc__law_grown pm__law_grown an__law_grown cd__law_grown ct__law_grown), sl__law_grown⟩) (c__law_grown : PySem.W.codeIn K cd__law_grown "_law_grown" = true) (k__law_grown : PySem.W.keepIn K (.ref f__law_grown) = true)
    (a__law_other : PySem.W.nsIn K mainGlobals "_law_other" = some (some (.ref f__law_other))) (l__law_other : K.lookup f__law_other = some ⟨oc__law_other, od__law_other, .func (PySem.W.fnOf "_law_other" "_law_other" (defArgs s__law_other) (defBody s__law_other) (defScope s__law_other) .none kV__law_other dc__law_other pm__law_other an__law_other cd__law_other ct__law_other), sl__law_other⟩) (c__law_other : PySem.W.codeIn K cd__law_other "_law_other" = true) (k__law_other : PySem.W.keepIn K (.ref f__law_other) = true)
    (a__law_due : PySem.W.nsIn K mainGlobals "_law_due" = some (some (.ref f__law_due))) (l__law_due : K.lookup f__law_due = some ⟨oc__law_due, od__law_due, .func (PySem.W.fnOf "_law_due" "_law_due" (defArgs s__law_due) (defBody s__law_due) (defScope s__law_due) .none kV__law_due dc__law_due pm__law_due an__law_due cd__law_due ct__law_due), sl__law_due⟩) (c__law_due : PySem.W.codeIn K cd__law_due "_law_due" = true) (k__law_due : PySem.W.keepIn K (.ref f__law_due) = true)
    (a_law : PySem.W.nsIn K mainGlobals "law" = some (some (.ref f_law))) (l_law : K.lookup f_law = some ⟨oc_law, od_law, .func (PySem.W.fnOf "law" "law" (defArgs s_law) (defBody s_law) (defScope s_law) .none kV_law dc_law pm_law an_law cd_law ct_law), sl_law⟩) (c_law : PySem.W.codeIn K cd_law "law" = true) (k_law : PySem.W.keepIn K (.ref f_law) = true)
    (z_int : PySem.W.nsIn K mainGlobals "int" = some none)
    (z_len : PySem.W.nsIn K mainGlobals "len" = some none)
    (z_range : PySem.W.nsIn K mainGlobals "range" = some none)
    (z_tuple : PySem.W.nsIn K mainGlobals "tuple" = some none)
    (dn_ANCHORS : PySem.W.nsIn K mainGlobals "ANCHORS" = some (some (.ref dd_ANCHORS))) (dl_ANCHORS : K.lookup dd_ANCHORS = some ⟨.type "dict", none, .dict es_ANCHORS nn_ANCHORS, #[]⟩) (dk_ANCHORS : PySem.W.KeysLit w.params es_ANCHORS.toList) (dv_ANCHORS_0 : PySem.W.nsIn K dd_ANCHORS "start" = some (some (.str "end" tk_ANCHORS_0))) (dv_ANCHORS_1 : PySem.W.nsIn K dd_ANCHORS "end" = some (some (.str "start" tk_ANCHORS_1))) (dv_ANCHORS_2 : PySem.W.nsIn K dd_ANCHORS "mid" = some (some (.str "mid2" tk_ANCHORS_2))) (dv_ANCHORS_3 : PySem.W.nsIn K dd_ANCHORS "mid2" = some (some (.str "mid" tk_ANCHORS_3)))
    (dn_SIDES : PySem.W.nsIn K mainGlobals "SIDES" = some (some (.ref dd_SIDES))) (dl_SIDES : K.lookup dd_SIDES = some ⟨.type "dict", none, .dict es_SIDES nn_SIDES, #[]⟩) (dk_SIDES : PySem.W.KeysLit w.params es_SIDES.toList) (dv_SIDES_0 : PySem.W.nsIn K dd_SIDES "left" = some (some (.str "right" tk_SIDES_0))) (dv_SIDES_1 : PySem.W.nsIn K dd_SIDES "right" = some (some (.str "left" tk_SIDES_1))) :
    ∃ fd : FuncData, (∀ (s : Shared) (v : Value), BindsTo s fd ⟨[v], []⟩ [("_law_script", v)]) ∧ ∀ base : Heap, K.In base → base.Ns mainGlobals mg → FnOk l.prog w K mg base CX0 11 fa fd ["_law_script"] (spLaw K) := by
  have e := hfa.symm.trans (PySem.W.mg_of X G a_law)
  cases e
  have F_other_anchor := fun_mk (st := s_other_anchor) l_other_anchor c_other_anchor k_other_anchor
  have F_mirrored_what := fun_mk (st := s_mirrored_what) l_mirrored_what c_mirrored_what k_mirrored_what
  have F_mirrored := fun_mk (st := s_mirrored) l_mirrored c_mirrored k_mirrored
  have F__law_cell_at := fun_mk (st := s__law_cell_at) l__law_cell_at c__law_cell_at k__law_cell_at
  have F__law_numbers := fun_mk (st := s__law_numbers) l__law_numbers c__law_numbers k__law_numbers
  have F__law_own := fun_mk (st := s__law_own) l__law_own c__law_own k__law_own
  have F__law_words := fun_mk (st := s__law_words) l__law_words c__law_words k__law_words
  have F__law_what := fun_mk (st := s__law_what) l__law_what c__law_what k__law_what
  have F__law_grown := fun_mk (st := s__law_grown) l__law_grown c__law_grown k__law_grown
  have F__law_other := fun_mk (st := s__law_other) l__law_other c__law_other k__law_other
  have F__law_due := fun_mk (st := s__law_due) l__law_due c__law_due k__law_due
  have F_law := fun_mk (st := s_law) l_law c_law k_law
  have b_other_anchor := F_other_anchor.binds (ps := ["anchor"]) fun _ _ _ _ _ _ us hl => match us, hl with | [_], _ => rfl
  have b_mirrored_what := F_mirrored_what.binds (ps := ["kind", "what"]) fun _ _ _ _ _ _ us hl => match us, hl with | [_, _], _ => rfl
  have b_mirrored := F_mirrored.binds (ps := ["tree"]) fun _ _ _ _ _ _ us hl => match us, hl with | [_], _ => rfl
  have b__law_cell_at := F__law_cell_at.binds (ps := ["_law_script", "_law_k"]) fun _ _ _ _ _ _ us hl => match us, hl with | [_, _], _ => rfl
  have b__law_numbers := F__law_numbers.binds (ps := ["_law_cell", "_law_many"]) fun _ _ _ _ _ _ us hl => match us, hl with | [_, _], _ => rfl
  have b__law_own := F__law_own.binds (ps := ["_law_some", "_law_group"]) fun _ _ _ _ _ _ us hl => match us, hl with | [_, _], _ => rfl
  have b__law_words := F__law_words.binds (ps := ["_law_some"]) fun _ _ _ _ _ _ us hl => match us, hl with | [_], _ => rfl
  have b__law_what := F__law_what.binds (ps := ["_law_kind", "_law_some", "_law_many"]) fun _ _ _ _ _ _ us hl => match us, hl with | [_, _, _], _ => rfl
  have b__law_grown := F__law_grown.binds (ps := ["_law_cells", "_law_spot", "_law_deep", "_law_kinds", "_law_shift", "_law_tabled"]) fun _ _ _ _ _ _ us hl => match us, hl with | [_, _, _, _, _, _], _ => rfl
  have b__law_other := F__law_other.binds (ps := ["_law_side"]) fun _ _ _ _ _ _ us hl => match us, hl with | [_], _ => rfl
  have b__law_due := F__law_due.binds (ps := ["_law_tree"]) fun _ _ _ _ _ _ us hl => match us, hl with | [_], _ => rfl
  have b_law := F_law.binds (ps := ["_law_script"]) fun _ _ _ _ _ _ us hl => match us, hl with | [_], _ => rfl
  have t_ANCHORS : ∀ kv ∈ kd_ANCHORS, KDct K w dd_ANCHORS kv.1 (.str kv.2) := by
    intro kv hkv
    rcases List.mem_cons.mp hkv with rfl | hkv
    · exact ⟨_, _, _, dl_ANCHORS, dk_ANCHORS, dv_ANCHORS_0, ⟨_, rfl⟩⟩
    rcases List.mem_cons.mp hkv with rfl | hkv
    · exact ⟨_, _, _, dl_ANCHORS, dk_ANCHORS, dv_ANCHORS_1, ⟨_, rfl⟩⟩
    rcases List.mem_cons.mp hkv with rfl | hkv
    · exact ⟨_, _, _, dl_ANCHORS, dk_ANCHORS, dv_ANCHORS_2, ⟨_, rfl⟩⟩
    rcases List.mem_cons.mp hkv with rfl | hkv
    · exact ⟨_, _, _, dl_ANCHORS, dk_ANCHORS, dv_ANCHORS_3, ⟨_, rfl⟩⟩
    cases hkv
  have t_SIDES : ∀ kv ∈ kd_SIDES, KDct K w dd_SIDES kv.1 (.str kv.2) := by
    intro kv hkv
    rcases List.mem_cons.mp hkv with rfl | hkv
    · exact ⟨_, _, _, dl_SIDES, dk_SIDES, dv_SIDES_0, ⟨_, rfl⟩⟩
    rcases List.mem_cons.mp hkv with rfl | hkv
    · exact ⟨_, _, _, dl_SIDES, dk_SIDES, dv_SIDES_1, ⟨_, rfl⟩⟩
    cases hkv
  let T : TX K mg w := ⟨_, _, F_other_anchor, b_other_anchor, PySem.W.mg_of X G a_other_anchor, _, _, F_mirrored_what, b_mirrored_what, PySem.W.mg_of X G a_mirrored_what, _, _, F_mirrored, b_mirrored, PySem.W.mg_of X G a_mirrored, _, _, F__law_cell_at, b__law_cell_at, PySem.W.mg_of X G a__law_cell_at, _, _, F__law_numbers, b__law_numbers, PySem.W.mg_of X G a__law_numbers, _, _, F__law_own, b__law_own, PySem.W.mg_of X G a__law_own, _, _, F__law_words, b__law_words, PySem.W.mg_of X G a__law_words, _, _, F__law_what, b__law_what, PySem.W.mg_of X G a__law_what, _, _, F__law_grown, b__law_grown, PySem.W.mg_of X G a__law_grown, _, _, F__law_other, b__law_other, PySem.W.mg_of X G a__law_other, _, _, F__law_due, b__law_due, PySem.W.mg_of X G a__law_due, _, _, F_law, b_law, PySem.W.mg_of X G a_law, PySem.W.mg_none_of X G z_int, PySem.W.mg_none_of X G z_len, PySem.W.mg_none_of X G z_range, PySem.W.mg_none_of X G z_tuple, _, PySem.W.mg_of X G dn_ANCHORS, t_ANCHORS, _, PySem.W.mg_of X G dn_SIDES, t_SIDES⟩
  refine ⟨PySem.W.fnOf "law" "law" (defArgs s_law) (defBody s_law) (defScope s_law) .none kV_law dc_law pm_law an_law cd_law ct_law, fun s v => .of_eq rfl, fun base _ _ => ?_⟩
  exact fn_weak (ok_law T) main
end Wk85
/-! Wp: plain facts about the mirrors' words -/
namespace Wk
open PySem L2

theorem bs {α β : Type} (a : α) (f : α → Option β) : (some a).bind f = f a := by rw [Option.bind_some]
theorem bind_ok {α β : Type} {m : Option α} {f : α → Option β} {a : α} (h : m = some a) : m.bind f = f a := by rw [h]; rfl
theorem atI_ok {α : Type} {xs : List α} {i : Int} (h0 : 0 ≤ i) (h : i < xs.length) : atI xs i = xs[i.toNat]? := by
  obtain ⟨k, rfl⟩ := Int.eq_ofNat_of_zero_le h0
  have hk : k < xs.length := by omega
  have e : xs[k]? = some xs[k] := List.getElem?_eq_getElem hk
  rw [show ((k : Int)).toNat = k from rfl, e]
  exact atI_nat e
theorem atI_some {α : Type} {xs : List α} {i : Int} (h0 : 0 ≤ i) (h : i < xs.length) : ∃ x, atI xs i = some x ∧ xs[i.toNat]? = some x := by
  have hk : i.toNat < xs.length := by omega
  exact ⟨xs[i.toNat], by rw [atI_ok h0 h]; exact List.getElem?_eq_getElem hk, List.getElem?_eq_getElem hk⟩
theorem pick2 {α : Type} (x y : α) {k : Int} (h0 : 0 ≤ k) (h : k < 2) : atI [x, y] k = some (if k = 0 then x else y) := by
  rcases (show k = 0 ∨ k = 1 by omega) with rfl | rfl <;> rfl
theorem pick3 {α : Type} (x y z : α) {k : Int} (h0 : 0 ≤ k) (h : k < 3) : atI [x, y, z] k = some (if k = 0 then x else if k = 1 then y else z) := by
  rcases (show k = 0 ∨ k = 1 ∨ k = 2 by omega) with rfl | rfl | rfl <;> rfl
theorem pick4 {α : Type} (x y z u : α) {k : Int} (h0 : 0 ≤ k) (h : k < 4) : atI [x, y, z, u] k = some (if k = 0 then x else if k = 1 then y else if k = 2 then z else u) := by
  rcases (show k = 0 ∨ k = 1 ∨ k = 2 ∨ k = 3 by omega) with rfl | rfl | rfl | rfl <;> rfl
theorem forC_all {β R : Type} {f : β → Unit → Option (Ctl Unit R)} : ∀ {xs : List β}, (∀ x ∈ xs, f x () = some (.nx ())) → forC f xs () = some (.nx ())
  | [], _ => rfl
  | x :: xs, h => by
    unfold forC
    rw [h x List.mem_cons_self]
    exact forC_all fun y hy => h y (List.mem_cons_of_mem _ hy)
/-- a loop that always goes on, by an invariant -/
theorem forC_inv {β Sx R : Type} {f : β → Sx → Option (Ctl Sx R)} (I : List β → Sx → Prop) : ∀ {xs : List β} {s : Sx}, I xs s → (∀ x rest s, I (x :: rest) s → ∃ s', f x s = some (.nx s') ∧ I rest s') → ∃ s', forC f xs s = some (.nx s') ∧ I [] s'
  | [], s, h, _ => ⟨s, rfl, h⟩
  | x :: xs, s, h, hs => by
    obtain ⟨s', e, h'⟩ := hs x xs s h
    obtain ⟨s2, e2, h2⟩ := forC_inv I h' hs
    refine ⟨s2, ?_, h2⟩
    unfold forC
    rw [e]
    exact e2
theorem forS_inv {β Sx : Type} {f : β → Sx → Option Sx} (I : List β → Sx → Prop) : ∀ {xs : List β} {s : Sx}, I xs s → (∀ x rest s, I (x :: rest) s → ∃ s', f x s = some s' ∧ I rest s') → ∃ s', forS f xs s = some s' ∧ I [] s'
  | [], s, h, _ => ⟨s, rfl, h⟩
  | x :: xs, s, h, hs => by
    obtain ⟨s', e, h'⟩ := hs x xs s h
    obtain ⟨s2, e2, h2⟩ := forS_inv I h' hs
    refine ⟨s2, ?_, h2⟩
    unfold forS
    rw [e]
    exact e2
/-- a loop as a fold -/
theorem forS_fold {β Sx : Type} {f : β → Sx → Option Sx} (g : Sx → β → Sx) (I : List β → Sx → Prop) : ∀ {xs : List β} {s : Sx}, I xs s → (∀ x rest s, I (x :: rest) s → f x s = some (g s x) ∧ I rest (g s x)) → forS f xs s = some (xs.foldl g s)
  | [], s, h, _ => rfl
  | x :: xs, s, h, hs => by
    obtain ⟨e, h'⟩ := hs x xs s h
    unfold forS
    rw [e]
    exact forS_fold g I h' hs
theorem forS_cons {β Sx : Type} {f : β → Sx → Option Sx} {x : β} {xs : List β} {s s' : Sx} (h : f x s = some s') : forS f (x :: xs) s = forS f xs s' := by
  show ((f x s).bind _) = _
  rw [h]
  rfl
theorem forC_cons {β Sx R : Type} {f : β → Sx → Option (Ctl Sx R)} {x : β} {xs : List β} {s s' : Sx} (h : f x s = some (.nx s')) : forC f (x :: xs) s = forC f xs s' := by
  show ((f x s).bind _) = _
  rw [h]
  rfl
/-- by places -/
theorem forS_ix {β Sx : Type} {f : β → Sx → Option Sx} {xs : List β} (P : Nat → Sx → Prop) {s : Sx} (h0 : P 0 s) (step : ∀ (i : Nat) (hi : i < xs.length) s, P i s → ∃ s', f xs[i] s = some s' ∧ P (i + 1) s') : ∃ s', forS f xs s = some s' ∧ P xs.length s' := by
  have key : ∀ (m i : Nat) (s : Sx), i + m = xs.length → P i s → ∃ s', forS f (xs.drop i) s = some s' ∧ P xs.length s' := by
    intro m
    induction m with
    | zero =>
      intro i s hi hp
      have e : i = xs.length := by omega
      subst e
      rw [List.drop_length]
      exact ⟨s, rfl, hp⟩
    | succ m ih =>
      intro i s hi hp
      have hl : i < xs.length := by omega
      obtain ⟨s', e, hp'⟩ := step i hl s hp
      obtain ⟨r, e2, h2⟩ := ih (i + 1) s' (by omega) hp'
      refine ⟨r, ?_, h2⟩
      rw [List.drop_eq_getElem_cons hl, forS_cons e]
      exact e2
  have := key xs.length 0 s (by omega) h0
  rwa [List.drop_zero] at this
theorem forC_ix {β Sx R : Type} {f : β → Sx → Option (Ctl Sx R)} {xs : List β} (P : Nat → Sx → Prop) {s : Sx} (h0 : P 0 s) (step : ∀ (i : Nat) (hi : i < xs.length) s, P i s → ∃ s', f xs[i] s = some (.nx s') ∧ P (i + 1) s') : ∃ s', forC f xs s = some (.nx s') ∧ P xs.length s' := by
  have key : ∀ (m i : Nat) (s : Sx), i + m = xs.length → P i s → ∃ s', forC f (xs.drop i) s = some (.nx s') ∧ P xs.length s' := by
    intro m
    induction m with
    | zero =>
      intro i s hi hp
      have e : i = xs.length := by omega
      subst e
      rw [List.drop_length]
      exact ⟨s, rfl, hp⟩
    | succ m ih =>
      intro i s hi hp
      have hl : i < xs.length := by omega
      obtain ⟨s', e, hp'⟩ := step i hl s hp
      obtain ⟨r, e2, h2⟩ := ih (i + 1) s' (by omega) hp'
      refine ⟨r, ?_, h2⟩
      rw [List.drop_eq_getElem_cons hl, forC_cons e]
      exact e2
  have := key xs.length 0 s (by omega) h0
  rwa [List.drop_zero] at this
/-- two loops over one list, turn by turn -/
theorem forS2_ix {β S1 S2 : Type} {f1 : β → S1 → Option S1} {f2 : β → S2 → Option S2} {xs : List β} (P : Nat → S1 → S2 → Prop) {s1 : S1} {s2 : S2} (h0 : P 0 s1 s2)
    (step : ∀ (i : Nat) (hi : i < xs.length) s1 s2, P i s1 s2 → ∃ s1' s2', f1 xs[i] s1 = some s1' ∧ f2 xs[i] s2 = some s2' ∧ P (i + 1) s1' s2') : ∃ r1 r2, forS f1 xs s1 = some r1 ∧ forS f2 xs s2 = some r2 ∧ P xs.length r1 r2 := by
  have key : ∀ (m i : Nat) (s1 : S1) (s2 : S2), i + m = xs.length → P i s1 s2 → ∃ r1 r2, forS f1 (xs.drop i) s1 = some r1 ∧ forS f2 (xs.drop i) s2 = some r2 ∧ P xs.length r1 r2 := by
    intro m
    induction m with
    | zero =>
      intro i s1 s2 hi hp
      have e : i = xs.length := by omega
      subst e
      rw [List.drop_length]
      exact ⟨s1, s2, rfl, rfl, hp⟩
    | succ m ih =>
      intro i s1 s2 hi hp
      have hl : i < xs.length := by omega
      obtain ⟨a, b, e1, e2, hp'⟩ := step i hl s1 s2 hp
      obtain ⟨r1, r2, h1, h2, h3⟩ := ih (i + 1) a b (by omega) hp'
      refine ⟨r1, r2, ?_, ?_, h3⟩
      · rw [List.drop_eq_getElem_cons hl, forS_cons e1]
        exact h1
      · rw [List.drop_eq_getElem_cons hl, forS_cons e2]
        exact h2
  have := key xs.length 0 s1 s2 (by omega) h0
  rwa [List.drop_zero] at this
theorem enumI_at {α : Type} (xs : List α) (i : Nat) (hi : i < (enumI xs).length) : (enumI xs)[i] = ((i : Int), xs[i]'(by simpa [enumI] using hi), ()) := by simp [enumI]
theorem whileS_inv {Sx : Type} {c : Sx → Option Bool} {f : Sx → Option Sx} (I : Sx → Prop) (μ : Sx → Nat) (step : ∀ s, I s → ∃ b, c s = some b ∧ (b = true → ∃ s', f s = some s' ∧ I s' ∧ μ s' < μ s)) :
    ∀ (n : Nat) {s : Sx}, I s → μ s < n → ∃ s', whileS c f n s = some s' ∧ I s' ∧ c s' = some false
  | 0, _, _, h => absurd h (Nat.not_lt_zero _)
  | n + 1, s, hI, hn => by
    obtain ⟨b, hb, hs⟩ := step s hI
    unfold whileS
    rw [hb]
    cases b with
    | false => exact ⟨s, rfl, hI, hb⟩
    | true =>
      obtain ⟨s', e, hI', hm⟩ := hs rfl
      obtain ⟨s2, e2, h2⟩ := whileS_inv I μ step n hI' (by omega)
      refine ⟨s2, ?_, h2⟩
      show ((f s).bind _) = _
      rw [e]
      exact e2
theorem whileF_inv {Sx : Type} {c : Sx → Option Bool} {f : Sx → Option Sx} (I : Sx → Prop) (μ : Sx → Nat) (step : ∀ s, I s → ∃ b, c s = some b ∧ (b = true → ∃ s', f s = some s' ∧ I s' ∧ μ s' < μ s)) {s : Sx} (h : I s) :
    ∃ s', whileF c f s = some s' ∧ I s' ∧ c s' = some false := by
  obtain ⟨s', e, h1, h2⟩ := whileS_inv I μ step (μ s + 1) h (Nat.lt_succ_self _)
  exact ⟨s', whileF_of e, h1, h2⟩
theorem cut_len {α : Type} (xs : List α) (lo hi : Option Int) : (cut xs lo hi).length ≤ xs.length := by
  unfold cut
  rw [List.length_take, List.length_drop]
  omega
theorem cut_mem {α : Type} {xs : List α} {lo hi : Option Int} {x : α} (h : x ∈ cut xs lo hi) : x ∈ xs := List.mem_of_mem_drop (List.mem_of_mem_take h)
theorem cut_from {α : Type} (xs : List α) (k : Nat) : cut xs (some (k : Int)) none = xs.drop k := by
  unfold cut
  rw [HT.sIx_nat, HT.sIx_none]
  by_cases h : k ≤ xs.length
  · rw [Nat.min_eq_left h, List.take_of_length_le (by rw [List.length_drop]; omega)]
  · rw [Nat.min_eq_right (by omega), List.drop_eq_nil_of_le (Nat.le_refl _), List.drop_eq_nil_of_le (show xs.length ≤ k by omega)]
    exact List.take_nil
theorem cut_to {α : Type} (xs : List α) (k : Nat) : cut xs none (some (k : Int)) = xs.take k := by
  unfold cut
  rw [HT.sIx_nat, HT.sIx_none, List.drop_zero, Nat.sub_zero]
  by_cases h : k ≤ xs.length
  · rw [Nat.min_eq_left h]
  · rw [Nat.min_eq_right (by omega), List.take_of_length_le (Nat.le_refl _), List.take_of_length_le (by omega)]
theorem rngO_ok {lo hi : Int} (h1 : -1000000000000 ≤ lo) (h2 : lo ≤ 1000000000000) (h3 : -1000000000000 ≤ hi) (h4 : hi ≤ 1000000000000) : rngO lo hi = some (irange lo hi) := if_pos ⟨h1, h2, h3, h4⟩
theorem irange_len (lo hi : Int) : (irange lo hi).length = (hi - lo).toNat := by simp [irange]
theorem enumI_len {α : Type} (xs : List α) : (enumI xs).length = xs.length := by simp [enumI]
theorem lcM_len {β γ : Type} {c : β → Option Bool} {f : β → Option γ} {xs : List β} (h : xs.length < 1000000) : lcM c f xs = lcGo c f xs := if_pos h
theorem lcGo_all {β γ : Type} {f : β → Option γ} (g : β → γ) : ∀ {xs : List β}, (∀ x ∈ xs, f x = some (g x)) → lcGo (fun _ => some true) f xs = some (xs.map g)
  | [], _ => rfl
  | x :: xs, h => by
    unfold lcGo
    show ((f x).bind _) = _
    rw [h x List.mem_cons_self, lcGo_all g fun y hy => h y (List.mem_cons_of_mem _ hy)]
    rfl
theorem lcGo_if {β γ : Type} {c : β → Option Bool} {f : β → Option γ} (p : β → Bool) (g : β → γ) : ∀ {xs : List β}, (∀ x ∈ xs, c x = some (p x)) → (∀ x ∈ xs, p x = true → f x = some (g x)) → lcGo c f xs = some ((xs.filter p).map g)
  | [], _, _ => rfl
  | x :: xs, hc, h => by
    unfold lcGo
    rw [hc x List.mem_cons_self]
    have ih := lcGo_if p g (xs := xs) (fun y hy => hc y (List.mem_cons_of_mem _ hy)) (fun y hy => h y (List.mem_cons_of_mem _ hy))
    cases e : p x with
    | true =>
      show ((f x).bind _) = _
      rw [h x List.mem_cons_self e, ih, List.filter_cons_of_pos e]
      rfl
    | false =>
      show lcGo c f xs = _
      rw [ih, List.filter_cons_of_neg (by rw [e]; exact Bool.false_ne_true)]
theorem lcM_all {β γ : Type} {f : β → Option γ} (g : β → γ) {xs : List β} (hl : xs.length < 1000000) (h : ∀ x ∈ xs, f x = some (g x)) : lcM (fun _ => some true) f xs = some (xs.map g) := by
  rw [lcM_len hl, lcGo_all g h]
/-- draws, one an item -/
theorem lcSGo_inv {β γ Sx : Type} {f : β → Sx → Option (γ × Sx)} (I : Sx → Prop) (P : γ → Prop) (step : ∀ x s, I s → ∃ z s', f x s = some (z, s') ∧ I s' ∧ P z) :
    ∀ {xs : List β} {s : Sx}, I s → ∃ zs s', lcSGo f xs s = some (zs, s') ∧ I s' ∧ zs.length = xs.length ∧ ∀ z ∈ zs, P z
  | [], s, h => ⟨[], s, rfl, h, rfl, fun _ hz => nomatch hz⟩
  | x :: xs, s, h => by
    obtain ⟨z, s', e, h', hp⟩ := step x s h
    obtain ⟨zs, s2, e2, h2, hl, hz⟩ := lcSGo_inv I P step (xs := xs) h'
    refine ⟨z :: zs, s2, ?_, h2, by rw [List.length_cons, List.length_cons, hl], fun y hy => ?_⟩
    · unfold lcSGo
      rw [e]
      show ((lcSGo f xs s').bind _) = _
      rw [e2]
      rfl
    · rcases List.mem_cons.mp hy with rfl | hy
      · exact hp
      · exact hz y hy
theorem lcS_inv {β γ Sx : Type} {f : β → Sx → Option (γ × Sx)} (I : Sx → Prop) (P : γ → Prop) (step : ∀ x s, I s → ∃ z s', f x s = some (z, s') ∧ I s' ∧ P z) {xs : List β} {s : Sx} (hl : xs.length < 1000000) (h : I s) :
    ∃ zs s', lcS f xs s = some (zs, s') ∧ I s' ∧ zs.length = xs.length ∧ ∀ z ∈ zs, P z := by
  unfold lcS
  rw [if_pos hl]
  exact lcSGo_inv I P step h
theorem forS_app {β γ : Type} {f : β → List γ → Option (List γ)} (g : β → γ) : ∀ {xs : List β} {s : List γ}, s.length + xs.length ≤ 1000000 → (∀ x ∈ xs, ∀ s : List γ, s.length < 1000000 → f x s = some (s ++ [g x])) → forS f xs s = some (s ++ xs.map g)
  | [], s, _, _ => by rw [List.map_nil, List.append_nil]; rfl
  | x :: xs, s, hl, h => by
    rw [List.length_cons] at hl
    rw [forS_cons (h x List.mem_cons_self s (by omega)), forS_app g (by rw [List.length_append, List.length_singleton]; omega) fun y hy => h y (List.mem_cons_of_mem _ hy), List.map_cons, List.append_assoc]
    rfl
theorem enumI_mem {α : Type} [Rp α] {xs : List α} {y : Int × α × Unit} (h : y ∈ enumI xs) : ∃ (i : Nat) (x : α), xs[i]? = some x ∧ y = ((i : Int), x, ()) := by
  obtain ⟨i, hi⟩ := List.getElem?_of_mem h
  obtain ⟨x, hx, e⟩ := enum_get hi
  exact ⟨i, x, hx, e⟩
theorem zipI_mem {α β : Type} [Rp α] [Rp β] {xs : List α} {ys : List β} {z : α × β × Unit} (h : z ∈ zipI xs ys) : ∃ (i : Nat) (x : α) (y : β), xs[i]? = some x ∧ ys[i]? = some y ∧ z = (x, y, ()) := by
  obtain ⟨i, hi⟩ := List.getElem?_of_mem h
  obtain ⟨x, y, hx, hy, e⟩ := zip_get hi
  exact ⟨i, x, y, hx, hy, e⟩
/-! texts -/
theorem len_app (x y : Str) : (x ++ y).length = x.length + y.length := by
  show (x.cps ++ y.cps).size = _
  rw [Array.size_append]
  rfl
theorem ok_app {x y : Str} (hx : PyData.strOk x = true) (hy : PyData.strOk y = true) : PyData.strOk (x ++ y) = true := by
  show (x.cps ++ y.cps).all _ = true
  rw [Array.all_append]
  exact Bool.and_eq_true_iff.mpr ⟨hx, hy⟩
theorem ok_join {s : Str} (hs : PyData.strOk s = true) : ∀ {ys : List Str}, (∀ y ∈ ys, PyData.strOk y = true) → PyData.strOk (Str.join s ys) = true
  | [], _ => by
    unfold Str.join
    decide +kernel
  | [x], h => h x List.mem_cons_self
  | x :: y :: r, h => ok_app (ok_app (h x List.mem_cons_self) hs) (ok_join hs fun z hz => h z (List.mem_cons_of_mem _ hz))
theorem joinO_ok {s : Str} {ys : List Str} (h : (ys.map (·.length)).sum + ys.length * s.length ≤ 1000000) : joinO s ys = some (Str.join s ys) := by
  unfold joinO
  rw [if_pos h, TL.join_eq]
/-- a sign of a written text -/
theorem ixS_ok {s : Str} {i : Int} (hl : s.length ≤ 100000) (h0 : 0 ≤ i) (h : i < (s.length : Int)) (hs : PyData.strOk s = true) : ∃ c, ixS s i = some ⟨#[c]⟩ ∧ PyData.strOk ⟨#[c]⟩ = true ∧ (⟨#[c]⟩ : Str).length = 1 := by
  have hl2 : s.cps.toList.length = s.length := Array.length_toList
  obtain ⟨c, e, e2⟩ := atI_some (xs := s.cps.toList) h0 (by rw [hl2]; exact h)
  refine ⟨c, ?_, ?_, rfl⟩
  · unfold ixS
    rw [if_pos hl, e]
    rfl
  · have hm : c ∈ s.cps := Array.mem_toList_iff.mp (List.mem_of_getElem? e2)
    have := Array.all_eq_true'.mp hs c hm
    show (#[c] : Array Nat).all _ = true
    simpa using this
/-! dicts, and more -/
theorem cut_init {α : Type} (xs : List α) : cut xs none (some (-(1 : Int))) = xs.dropLast := by
  unfold cut
  rw [HT.sIx_none, List.drop_zero, Nat.sub_zero, List.dropLast_eq_take]
  have e : HT.sIx xs.length xs.length (some (-(1 : Int))) = (-(1 : Int) + (xs.length : Int)).toNat := rfl
  rw [e]
  congr 1
  omega
theorem mem_irange {x a b : Int} : x ∈ irange a b ↔ a ≤ x ∧ x < b := by
  unfold irange
  rw [List.mem_map]
  constructor
  · rintro ⟨k, hk, rfl⟩
    rw [List.mem_range] at hk
    omega
  · intro h
    exact ⟨(x - a).toNat, List.mem_range.mpr (by omega), by omega⟩
section
variable {κ β : Type} [DecidableEq κ]
theorem getD_pos {p : κ × β} {r : List (κ × β)} {k : κ} (e : p.1 = k) : getD (p :: r) k = some p.2 := by simp [getD, List.find?_cons, e]
theorem getD_neg {p : κ × β} {r : List (κ × β)} {k : κ} (e : ¬ p.1 = k) : getD (p :: r) k = getD r k := by simp [getD, List.find?_cons, e]
theorem getD_map (k j : κ) (y : β) : ∀ kvs : List (κ × β), getD (kvs.map fun kv => if kv.1 = k then (kv.1, y) else kv) j = (getD kvs j).map fun x => if j = k then y else x
  | [] => rfl
  | p :: r => by
    rw [List.map_cons]
    have ih := getD_map k j y r
    by_cases a : p.1 = k
    · rw [if_pos a]
      by_cases b : p.1 = j
      · rw [getD_pos (p := (p.1, y)) b, getD_pos b, Option.map_some, if_pos (b.symm.trans a)]
      · rw [getD_neg (p := (p.1, y)) b, getD_neg b, ih]
    · rw [if_neg a]
      by_cases b : p.1 = j
      · rw [getD_pos b, getD_pos b, Option.map_some, if_neg (fun z => a (b.trans z))]
      · rw [getD_neg b, getD_neg b, ih]
theorem getD_snoc (k j : κ) (y : β) : ∀ kvs : List (κ × β), getD kvs k = none → getD (kvs ++ [(k, y)]) j = if j = k then some y else getD kvs j
  | [], _ => by
    by_cases e : k = j
    · rw [List.nil_append, getD_pos (p := (k, y)) e, if_pos e.symm]
    · rw [List.nil_append, getD_neg (p := (k, y)) e, if_neg (Ne.symm e)]
  | p :: r, h => by
    have hk : ¬ p.1 = k := fun e => by rw [getD_pos e] at h; cases h
    rw [getD_neg hk] at h
    have ih := getD_snoc k j y r h
    rw [List.cons_append]
    by_cases e : p.1 = j
    · rw [getD_pos e, getD_pos e, if_neg (fun z => hk (e.trans z))]
    · rw [getD_neg e, getD_neg e, ih]
theorem getD_put (kvs : List (κ × β)) (k j : κ) (y : β) : getD (putD kvs k y) j = if j = k then some y else getD kvs j := by
  unfold putD
  by_cases a : (getD kvs k).isSome = true
  · rw [if_pos a, getD_map]
    by_cases e : j = k
    · obtain ⟨x, hx⟩ := Option.isSome_iff_exists.mp a
      rw [if_pos e, e, hx, Option.map_some, if_pos rfl]
    · rw [if_neg e]
      cases getD kvs j with
      | none => rfl
      | some x => rw [Option.map_some, if_neg e]
  · rw [if_neg a]
    refine getD_snoc k j y kvs ?_
    cases q : getD kvs k with
    | none => rfl
    | some x => rw [q] at a; exact (a rfl).elim
theorem len_put (kvs : List (κ × β)) (k : κ) (y : β) : (putD kvs k y).length ≤ kvs.length + 1 := by
  unfold putD
  split
  · rw [List.length_map]; omega
  · rw [List.length_append, List.length_cons, List.length_nil]; omega
theorem putO_ok {d : Dc κ β} {k : κ} {y : β} (h : d.l.length < 1000000) : putO d k y = some ⟨putD d.l k y⟩ := if_pos h
end
theorem forC_any {β R : Type} {f : β → Unit → Option (Ctl Unit R)} {r : R} (p : β → Bool) : ∀ {xs : List β}, (∀ x ∈ xs, f x () = some (if p x = true then .rt r else .nx ())) → forC f xs () = some (if xs.any p = true then .rt r else .nx ())
  | [], _ => rfl
  | x :: xs, h => by
    have hx := h x List.mem_cons_self
    cases e : p x with
    | true =>
      rw [e] at hx
      show ((f x ()).bind _) = _
      rw [hx, List.any_cons, e]
      rfl
    | false =>
      rw [e] at hx
      rw [forC_cons (s' := ()) hx, forC_any p fun y hy => h y (List.mem_cons_of_mem _ hy), List.any_cons, e]
      rfl
end Wk
/-! k85: the plain law -/
namespace Wk85
open PySem L2 Wk
theorem cell_at {ns : List Int} (k : Int) (h0 : 0 ≤ k) : ∃ c, m__law_cell_at (Fz.mk ns) k = some c := by
  unfold m__law_cell_at
  by_cases h : k < (ns.length : Int)
  · obtain ⟨x, e, _⟩ := atI_some (xs := ns) h0 h
    exact ⟨x, by rw [if_pos (decide_eq_true h), e]; rfl⟩
  · exact ⟨0, by rw [if_neg (by simpa using h)]⟩
theorem numbers_ok (cell many : Int) (h0 : 0 ≤ many) (hm : many ≤ 1000) : ∃ f, m__law_numbers cell many = some f ∧ f.length = many.toNat := by
  unfold m__law_numbers
  simp only [bs]
  by_cases hc : 0 ≤ cell - 1000000000000000000
  · rw [decide_eq_true hc]
    simp only [if_true]
    rw [rngO_ok (by omega) (by omega) (by omega) (by omega)]
    simp only [bs]
    obtain ⟨⟨n, f⟩, e, h⟩ := forS_inv (f := m__law_numbers_L1) (fun rest s => s.2.length + rest.length = many.toNat) (xs := irange 0 many) (s := (cell - 1000000000000000000, [])) (by rw [irange_len]; simp) (fun x rest s hs => by
      obtain ⟨n, f⟩ := s
      have hs : f.length + (rest.length + 1) = many.toNat := hs
      refine ⟨(n / 5040, f ++ [n % 5040]), ?_, ?_⟩
      · unfold m__law_numbers_L1
        simp only [appO_ok (show f.length < 1000000 by omega), bs]
      · show (f ++ [n % 5040]).length + rest.length = _
        rw [List.length_append, List.length_singleton]
        omega)
    rw [e]
    exact ⟨f, rfl, h⟩
  · rw [decide_eq_false hc]
    simp only [Bool.false_eq_true, if_false, bs]
    rw [rngO_ok (by omega) (by omega) (by omega) (by omega)]
    simp only [bs]
    obtain ⟨⟨n, f⟩, e, h⟩ := forS_inv (f := m__law_numbers_L2) (fun rest s => s.2.length + rest.length = many.toNat + 1) (xs := irange 0 (many + 1)) (s := (cell % 2147483647, [])) (by rw [irange_len]; show 0 + _ = _; omega) (fun x rest s hs => by
      obtain ⟨n, f⟩ := s
      have hs : f.length + (rest.length + 1) = many.toNat + 1 := hs
      refine ⟨((n + x + 1) * 48271 % 2147483647, f ++ [((n + x + 1) * 48271 % 2147483647) * 69621 % 2147483629]), ?_, ?_⟩
      · unfold m__law_numbers_L2
        simp only [appO_ok (show f.length < 1000000 by omega), bs]
      · show (f ++ [((n + x + 1) * 48271 % 2147483647) * 69621 % 2147483629]).length + rest.length = _
        rw [List.length_append, List.length_singleton]
        omega)
    rw [e]
    simp only [bs]
    rw [show cut f (some (1 : Int)) none = f.drop 1 from cut_from f 1]
    have h : f.length + 0 = many.toNat + 1 := h
    exact ⟨_, rfl, by rw [List.length_drop]; omega⟩
/-! data of any kind -/
def okn (d : PyData) (n : Nat) : Prop := d.canLay0 = true ∧ d.depth ≤ n
theorem okn.mono {d : PyData} {n m : Nat} (h : okn d n) (l : n ≤ m) : okn d m := ⟨h.1, Nat.le_trans h.2 l⟩
theorem okn_int (i : Int) (n : Nat) : okn (.int i) n := ⟨by simp only [PyData.canLay0], by simp only [PyData.depth]; exact Nat.zero_le _⟩
theorem okn_str {s : Str} (h : PyData.strOk s = true) (n : Nat) : okn (.str s) n := ⟨by simp only [PyData.canLay0, h], by simp only [PyData.depth]; exact Nat.zero_le _⟩
theorem okn_tup {ds : List PyData} {n : Nat} (h : ∀ d ∈ ds, okn d n) : okn (.tuple ds) (n + 1) := by
  have h1 : PyData.canLayAll0 ds = true := by
    induction ds with
    | nil => rfl
    | cons d ds ih =>
      simp only [PyData.canLayAll0, (h d List.mem_cons_self).1, ih fun e he => h e (List.mem_cons_of_mem _ he), Bool.and_self]
  have h2 : PyData.depthAll ds ≤ n := by
    induction ds with
    | nil => exact Nat.zero_le _
    | cons d ds ih =>
      simp only [PyData.depthAll]
      refine Nat.max_le.mpr ⟨(h d List.mem_cons_self).2, ih (fun e he => h e (List.mem_cons_of_mem _ he)) ?_⟩
      simp only [PyData.canLayAll0, Bool.and_eq_true] at h1
      exact h1.2
  exact ⟨by simp only [PyData.canLay0, h1], by simp only [PyData.depth]; omega⟩
theorem okn_cons {d : PyData} {ds : List PyData} {n : Nat} (h : okn d n) (hs : ∀ e ∈ ds, okn e n) : ∀ e ∈ d :: ds, okn e n := fun e he => by
  rcases List.mem_cons.mp he with rfl | he
  · exact h
  · exact hs e he
theorem okn_nil {n : Nat} : ∀ e ∈ ([] : List PyData), okn e n := fun _ h => nomatch h
theorem okn_shaped {d : PyData} {n : Nat} (h : okn d n) (l : n ≤ 64) : SeqAt.shaped d = true := by
  unfold SeqAt.shaped
  rw [h.1, decide_eq_true (Nat.le_trans h.2 l)]
  rfl
theorem eqY_self {d : PyData} {n : Nat} (h : okn d n) (l : n ≤ 64) : eqYO ⟨d⟩ ⟨d⟩ = some true := by
  unfold eqYO
  rw [if_pos ⟨okn_shaped h l, okn_shaped h l⟩]
  exact congrArg some (SeqAt.eqv_refl d h.1)
theorem ofTu (ds : List PyData) : (ofD ⟨.tuple ds⟩ : Option (Tu Dy)) = some ⟨ds.map Dy.mk⟩ := by
  have : ofAll (α := Dy) ds = some (ds.map Dy.mk) := by
    induction ds with
    | nil => rfl
    | cons d ds ih =>
      show (some (Dy.mk d)).bind (fun x => (ofAll ds).bind fun xs => some (x :: xs)) = _
      rw [ih]
      rfl
  show (ofAll (α := Dy) ds).map Tu.mk = _
  rw [this]
  rfl
theorem ofTu2 (ds : List (PyData × PyData)) : (ofD ⟨.tuple (ds.map fun p => .tuple [p.1, p.2])⟩ : Option (Tu (Dy × Dy × Unit))) = some ⟨ds.map fun p => (⟨p.1⟩, ⟨p.2⟩, ())⟩ := by
  have : ofAll (α := Dy × Dy × Unit) (ds.map fun p => .tuple [p.1, p.2]) = some (ds.map fun p => (⟨p.1⟩, ⟨p.2⟩, ())) := by
    induction ds with
    | nil => rfl
    | cons d ds ih =>
      rw [List.map_cons]
      show (some ((⟨d.1⟩, ⟨d.2⟩, ()) : Dy × Dy × Unit)).bind (fun x => (ofAll _).bind fun xs => some (x :: xs)) = _
      rw [ih]
      rfl
  show (ofAll (α := Dy × Dy × Unit) _).map Tu.mk = _
  rw [this]
  rfl
theorem of2 (a b : PyData) : (ofD ⟨.tuple [a, b]⟩ : Option (Dy × Dy × Unit)) = some (⟨a⟩, ⟨b⟩, ()) := rfl
theorem of3 (a b c : PyData) : (ofD ⟨.tuple [a, b, c]⟩ : Option (Dy × Dy × Dy × Unit)) = some (⟨a⟩, ⟨b⟩, ⟨c⟩, ()) := rfl
theorem of4 (a b c d : PyData) : (ofD ⟨.tuple [a, b, c, d]⟩ : Option (Dy × Dy × Dy × Dy × Unit)) = some (⟨a⟩, ⟨b⟩, ⟨c⟩, ⟨d⟩, ()) := rfl
theorem of5 (a b c d e : PyData) : (ofD ⟨.tuple [a, b, c, d, e]⟩ : Option (Dy × Dy × Dy × Dy × Dy × Unit)) = some (⟨a⟩, ⟨b⟩, ⟨c⟩, ⟨d⟩, ⟨e⟩, ()) := rfl
theorem ofS (s : Str) : (ofD ⟨.str s⟩ : Option Str) = some s := rfl
theorem ofI (i : Int) : (ofD ⟨.int i⟩ : Option Int) = some i := rfl
theorem at2_0 {α : Type} (a b : α) : atI [a, b] (0 : Int) = some a := rfl
theorem at2_1 {α : Type} (a b : α) : atI [a, b] (1 : Int) = some b := rfl
theorem at3_0 {α : Type} (a b c : α) : atI [a, b, c] (0 : Int) = some a := rfl
theorem at3_1 {α : Type} (a b c : α) : atI [a, b, c] (1 : Int) = some b := rfl
theorem at3_2 {α : Type} (a b c : α) : atI [a, b, c] (2 : Int) = some c := rfl
theorem at4_0 {α : Type} (a b c d : α) : atI [a, b, c, d] (0 : Int) = some a := rfl
theorem at4_1 {α : Type} (a b c d : α) : atI [a, b, c, d] (1 : Int) = some b := rfl
theorem at4_2 {α : Type} (a b c d : α) : atI [a, b, c, d] (2 : Int) = some c := rfl
theorem at4_3 {α : Type} (a b c d : α) : atI [a, b, c, d] (3 : Int) = some d := rfl
theorem at5_4 {α : Type} (a b c d e : α) : atI [a, b, c, d, e] (4 : Int) = some e := rfl
theorem mapD (ds : List PyData) : (ds.map Dy.mk).map Ud.toD = ds := by
  rw [List.map_map]
  exact List.map_id _
theorem lcGo_pair {β γ : Type} {f : β → Option γ} {xs : List β} {ys : List γ} (h : Paired (fun x y => f x = some y) xs ys) : lcGo (fun _ => some true) f xs = some ys := by
  induction h with
  | nil => rfl
  | @cons x y xs ys h _ ih =>
    show (f x).bind (fun z => (lcGo _ f xs).bind fun zs => some (z :: zs)) = _
    rw [h, bs, ih]
    rfl
theorem lcM_pair {β γ : Type} {f : β → Option γ} {xs : List β} {ys : List γ} (hl : xs.length < 1000000) (h : Paired (fun x y => f x = some y) xs ys) : lcM (fun _ => some true) f xs = some ys := by
  unfold lcM
  rw [if_pos hl, lcGo_pair h]
theorem Paired.map2 {α β γ δ : Type} {R : α → β → Prop} {S : γ → δ → Prop} {f : α → γ} {g : β → δ} (hf : ∀ a b, R a b → S (f a) (g b)) : ∀ {xs : List α} {ys : List β}, Paired R xs ys → Paired S (xs.map f) (ys.map g)
  | _, _, .nil => .nil
  | _, _, .cons h t => .cons (hf _ _ h) (Paired.map2 hf t)
theorem Paired.flip {α β : Type} {R : α → β → Prop} {S : β → α → Prop} (hf : ∀ a b, R a b → S b a) : ∀ {xs : List α} {ys : List β}, Paired R xs ys → Paired S ys xs
  | _, _, .nil => .nil
  | _, _, .cons h t => .cons (hf _ _ h) (Paired.flip hf t)
theorem Paired.memL {α β : Type} {R : α → β → Prop} : ∀ {xs : List α} {ys : List β}, Paired R xs ys → ∀ x ∈ xs, ∃ y ∈ ys, R x y
  | _, _, .cons h t, x, hx => by
    rcases List.mem_cons.mp hx with rfl | hx
    · exact ⟨_, List.mem_cons_self, h⟩
    · obtain ⟨y, h1, h2⟩ := Paired.memL t x hx
      exact ⟨y, List.mem_cons_of_mem _ h1, h2⟩
/-! what a box is told, and the same mirrored -/
structure Kd (k : Str) (l t f o : Bool) : Prop where
  l : decide (k ∈ ([("row" : Str), ("column" : Str), ("wrap" : Str)] : List Str)) = l
  t : decide (k = ("table" : Str)) = t
  f : decide (k = ("flow" : Str)) = f
  o : decide (k = ("over" : Str)) = o
inductive Lr : Str → Str → Prop
  | lr : Lr "left" "right"
  | rl : Lr "right" "left"
inductive An : Str → Str → Prop
  | a : An "start" "end"
  | b : An "end" "start"
  | c : An "mid" "mid2"
  | d : An "mid2" "mid"
theorem Lr.symm {a b : Str} (h : Lr a b) : Lr b a := by cases h <;> constructor
theorem An.symm {a b : Str} (h : An a b) : An b a := by cases h <;> constructor
theorem Lr.ok {a b : Str} (h : Lr a b) : PyData.strOk a = true := by cases h <;> decide +kernel
theorem An.ok {a b : Str} (h : An a b) : PyData.strOk a = true := by cases h <;> decide +kernel
structure Ov (p q : PyData × PyData) : Prop where
  x : ∃ a a' i, An a a' ∧ p.1 = .tuple [.str a, .int i] ∧ q.1 = .tuple [.str a', .int (-i)]
  y : p.2 = q.2 ∧ okn p.2 1
theorem Ov.symm {p q : PyData × PyData} (h : Ov p q) : Ov q p := by
  obtain ⟨⟨a, a', i, h1, h2, h3⟩, h4, h5⟩ := h
  exact ⟨⟨a', a, -i, h1.symm, h3, by rw [h2, Int.neg_neg]⟩, h4.symm, h4 ▸ h5⟩
def pairD (p : PyData × PyData) : PyData := .tuple [p.1, p.2]
inductive Wh : Str → PyData → PyData → Prop
  | same {k : Str} {d : PyData} (h : Kd k false false false false) (hd : okn d 4) : Wh k d d
  | line {k : Str} {g : Int} {a s s' : Str} (h : Kd k true false false false) (hs : Lr s s') (ha : PyData.strOk a = true) : Wh k (.tuple [.int g, .str a, .str s]) (.tuple [.int g, .str a, .str s'])
  | table {k : Str} {c g : Int} {s s' : Str} {sp : PyData} (h : Kd k false true false false) (hs : Lr s s') (hp : okn sp 2) : Wh k (.tuple [.int c, .int g, .str s, sp]) (.tuple [.int c, .int g, .str s', sp])
  | flow {k : Str} {ss ss' : List Str} {w : PyData} {n : Int} (h : Kd k false false true false) (hs : Paired Lr ss ss') (hl : ss.length < 1000) (hw : okn w 2) : Wh k (.tuple [.tuple (ss.map .str), w, .int n]) (.tuple [.tuple (ss'.map .str), w, .int n])
  | over {k : Str} {xs xs' : List (PyData × PyData)} (h : Kd k false false false true) (hs : Paired Ov xs xs') (hl : xs.length < 1000) : Wh k (.tuple (xs.map pairD)) (.tuple (xs'.map pairD))
theorem Wh.symm {k : Str} {d e : PyData} (h : Wh k d e) : Wh k e d := by
  cases h with
  | same h hd => exact .same h hd
  | line h hs ha => exact .line h hs.symm ha
  | table h hs hp => exact .table h hs.symm hp
  | flow h hs hl hw => exact .flow h (Paired.flip (fun _ _ h => h.symm) hs) (by rw [← Paired.length hs]; exact hl) hw
  | over h hs hl => exact .over h (Paired.flip (fun _ _ h => h.symm) hs) (by rw [← Paired.length hs]; exact hl)
theorem Ov.okn {p q : PyData × PyData} (h : Ov p q) : okn (pairD p) 2 := by
  obtain ⟨⟨a, a', i, h1, h2, h3⟩, h4, h5⟩ := h
  unfold pairD
  rw [h2]
  exact okn_tup (okn_cons (okn_tup (okn_cons (okn_str h1.ok 0) (okn_cons (okn_int i 0) okn_nil))) (okn_cons h5 okn_nil))
theorem Wh.ok {k : Str} {d e : PyData} (h : Wh k d e) : okn d 4 := by
  cases h with
  | same h hd => exact hd
  | line h hs ha => exact (okn_tup (n := 0) (okn_cons (okn_int _ _) (okn_cons (okn_str ha _) (okn_cons (okn_str hs.ok _) okn_nil)))).mono (by omega)
  | table h hs hp => exact (okn_tup (n := 2) (okn_cons (okn_int _ _) (okn_cons (okn_int _ _) (okn_cons (okn_str hs.ok _) (okn_cons hp okn_nil))))).mono (by omega)
  | flow h hs hl hw => 
    refine (okn_tup (n := 2) (okn_cons ((okn_tup (n := 0) fun e he => ?_).mono (by omega)) (okn_cons hw (okn_cons (okn_int _ _) okn_nil)))).mono (by omega)
    obtain ⟨s, hs1, rfl⟩ := List.mem_map.mp he
    obtain ⟨y, _, hy⟩ := Paired.memL hs s hs1
    exact okn_str hy.ok 0
  | over h hs hl =>
    refine (okn_tup (n := 2) fun e he => ?_).mono (by omega)
    obtain ⟨s, hs1, rfl⟩ := List.mem_map.mp he
    obtain ⟨y, _, hy⟩ := Paired.memL hs s hs1
    exact hy.okn
theorem side_kd {s s' : Str} (h : Lr s s') : getD kd_SIDES s = some s' := by cases h <;> decide +kernel
theorem anch_kd {s s' : Str} (h : An s s') : getD kd_ANCHORS s = some s' := by cases h <;> decide +kernel
theorem anch_kd2 {s s' : Str} (h : An s s') : getD (mergeD ([] : List (Str × Str)) [(("start" : Str), ("end" : Str)), (("end" : Str), ("start" : Str)), (("mid" : Str), ("mid2" : Str)), (("mid2" : Str), ("mid" : Str))]) s = some s' := by cases h <;> decide +kernel
theorem side_other {s s' : Str} (h : Lr s s') : m__law_other s = some s' := by
  unfold m__law_other
  cases h with
  | lr =>
    rw [show decide (("left" : Str) = "right") = false from by decide +kernel]
    rfl
  | rl =>
    rw [show decide (("right" : Str) = "right") = true from by decide +kernel]
    rfl
theorem other_ok {p q : PyData × PyData} (h : Ov p q) : ∃ a i a' i', p.1 = .tuple [.str a, .int i] ∧ q.1 = .tuple [.str a', .int i'] ∧ p.2 = q.2 ∧ An a a' ∧ i' = -i := by
  obtain ⟨⟨a, a', i, h1, h2, h3⟩, h4, h5⟩ := h
  exact ⟨a, i, a', -i, h2, h3, h4, h1, rfl⟩
theorem what_mir {k : Str} {w w' : PyData} (h : Wh k w w') : m_mirrored_what k ⟨w⟩ = some ⟨w'⟩ := by
  unfold m_mirrored_what
  cases h with
  | same h hd =>
    rw [h.l, h.t, h.f, h.o]
    rfl
  | line h hs ha =>
    rw [h.l]
    simp only [if_true, ofTu, List.map_cons, List.map_nil, bs, at3_0, at3_1, at3_2, ofS, side_kd hs]
    rfl
  | table h hs hp =>
    rw [h.l, h.t]
    simp only [Bool.false_eq_true, if_false, if_true, ofTu, List.map_cons, List.map_nil, bs, at4_0, at4_1, at4_2, at4_3, ofS, side_kd hs]
    rfl
  | @flow ss ss' w n h hs hl hw =>
    rw [h.l, h.t, h.f]
    simp only [Bool.false_eq_true, if_false, if_true, ofTu, List.map_cons, List.map_nil, bs, at3_0, at3_1, at3_2]
    rw [lcM_pair (ys := ss') (by rw [List.length_map, List.length_map]; omega) (by
      rw [List.map_map]
      have := Paired.map2 (f := fun s : Str => Dy.mk (.str s)) (g := fun s : Str => s) (S := fun x y => ((ofD x : Option Str).bind fun o_37 => (getD kd_SIDES o_37).bind fun i_38 => some i_38) = some y) (fun a b h => by
        rw [ofS, bs, side_kd h]
        rfl) hs
      rw [List.map_id'] at this
      exact this)]
    simp only [bs]
    rfl
  | @over xs xs' h hs hl =>
    rw [h.l, h.t, h.f, h.o]
    simp only [Bool.false_eq_true, if_false, if_true]
    rw [show (xs.map pairD) = xs.map (fun p => PyData.tuple [p.1, p.2]) from rfl, ofTu2]
    simp only [bs]
    obtain ⟨zs, ez, hz⟩ : ∃ zs : List ((Str × Int × Unit) × Dy × Unit), lcM (fun _ => some true) (fun ((across_47, down_48, _) : Dy × Dy × Unit) => (((ofD across_47 : Option (Str × Int × Unit))).bind fun o_50 => (m_other_anchor o_50).bind fun r_51 => some (r_51, down_48, ()))) (xs.map fun p => ((⟨p.1⟩, ⟨p.2⟩, ()) : Dy × Dy × Unit)) = some zs ∧ zs.map Ud.toD = xs'.map pairD := by
      have key : ∀ {xs xs' : List (PyData × PyData)}, Paired Ov xs xs' → ∃ zs : List ((Str × Int × Unit) × Dy × Unit), Paired (fun x y => (fun ((across_47, down_48, _) : Dy × Dy × Unit) => (((ofD across_47 : Option (Str × Int × Unit))).bind fun o_50 => (m_other_anchor o_50).bind fun r_51 => some (r_51, down_48, ()))) x = some y) (xs.map fun p => ((⟨p.1⟩, ⟨p.2⟩, ()) : Dy × Dy × Unit)) zs ∧ zs.map Ud.toD = xs'.map pairD := by
        intro xs xs' hp
        induction hp with
        | nil => exact ⟨[], .nil, rfl⟩
        | @cons p q xs xs' h _ ih =>
          obtain ⟨zs, h1, h2⟩ := ih
          obtain ⟨a, i, a', i', e1, e2, e3, ha, rfl⟩ := other_ok h
          refine ⟨((a', 0 - i, ()), ⟨p.2⟩, ()) :: zs, .cons ?_ h1, ?_⟩
          · show ((ofD (⟨p.1⟩ : Dy) : Option (Str × Int × Unit))).bind _ = _
            rw [e1]
            show (m_other_anchor (a, i, ())).bind _ = _
            unfold m_other_anchor
            rw [anch_kd ha]
            rfl
          · rw [List.map_cons, List.map_cons, h2]
            congr 1
            unfold pairD
            rw [e2, ← e3]
            show PyData.tuple [.tuple [.str a', .int (0 - i)], p.2] = _
            rw [Int.zero_sub]
      obtain ⟨zs, h1, h2⟩ := key hs
      exact ⟨zs, lcM_pair (by rw [List.length_map]; omega) h1, h2⟩
    rw [ez]
    show some (Dy.mk (.tuple (zs.map Ud.toD))) = _
    rw [hz]
/-! trees and their mirrors -/
def Tr : Nat → PyData → PyData → Prop
  | 0, _, _ => False
  | n + 1, d, e => ∃ k nm own w w' ps ps', d = .tuple [.str k, .str nm, own, w, .tuple ps] ∧ e = .tuple [.str k, .str nm, own, w', .tuple ps'] ∧ PyData.strOk k = true ∧ PyData.strOk nm = true ∧ okn own 2 ∧ Wh k w w' ∧ ps.length < 1000 ∧ Paired (Tr n) ps ps'
theorem Tr.symm : ∀ {n : Nat} {d e : PyData}, Tr n d e → Tr n e d
  | n + 1, _, _, ⟨k, nm, own, w, w', ps, ps', h1, h2, h3, h4, h5, h6, h7, h8⟩ => ⟨k, nm, own, w', w, ps', ps, h2, h1, h3, h4, h5, h6.symm, by rw [← Paired.length h8]; exact h7, Paired.flip (fun _ _ h => Tr.symm h) h8⟩
theorem Tr.ok : ∀ {n : Nat} {d e : PyData}, Tr n d e → okn d (5 + 2 * n)
  | n + 1, _, _, ⟨k, nm, own, w, w', ps, ps', h1, h2, h3, h4, h5, h6, h7, h8⟩ => by
    subst h1
    have hp : okn (.tuple ps) (5 + 2 * n + 1) := okn_tup fun d hd => by
      obtain ⟨y, _, hy⟩ := Paired.memL h8 d hd
      exact Tr.ok hy
    exact (okn_tup (n := 5 + 2 * n + 1) (okn_cons (okn_str h3 _) (okn_cons (okn_str h4 _) (okn_cons (h5.mono (by omega)) (okn_cons (h6.ok.mono (by omega)) (okn_cons hp okn_nil)))))).mono (by omega)
theorem parts_ok {n : Nat} {f : Dy → Option Dy} (hf : ∀ d e, Tr n d e → f ⟨d⟩ = some ⟨e⟩) {ps ps' : List PyData} (hl : ps.length < 1000) (hp : Paired (Tr n) ps ps') : lcM (fun _ => some true) (fun part_62 => ((f part_62).bind fun r_64 => some r_64)) (ps.map Dy.mk) = some (ps'.map Dy.mk) :=
  lcM_pair (by rw [List.length_map]; omega) (Paired.map2 (fun a b h => by rw [hf a b h]; rfl) hp)
theorem mir_ok : ∀ {n : Nat} {d e : PyData}, Tr n d e → m_mirrored n ⟨d⟩ = some ⟨e⟩
  | n + 1, _, _, ⟨k, nm, own, w, w', ps, ps', h1, h2, h3, h4, h5, h6, h7, h8⟩ => by
    subst h1 h2
    show m_mirrored_step (m_mirrored n) _ = _
    unfold m_mirrored_step
    simp only [of5, bs, ofS, what_mir h6, ofTu]
    rw [parts_ok (fun d e h => mir_ok h) h7 h8]
    show some (Dy.mk (.tuple [.str k, .str nm, own, w', .tuple ((ps'.map Dy.mk).map Ud.toD)])) = _
    rw [mapD]
theorem due_ok : ∀ {n : Nat} {d e : PyData}, Tr n d e → m__law_due n ⟨d⟩ = some ⟨e⟩
  | n + 1, _, _, ⟨k, nm, own, w, w', ps, ps', h1, h2, h3, h4, h5, h6, h7, h8⟩ => by
    subst h1 h2
    have fin : ((lcM (fun _ => some true) (fun part_62 => ((m__law_due n part_62).bind fun r_64 => some r_64)) (ps.map Dy.mk)).bind fun zs_342 => some (upD ((Dy.mk (.str k), Dy.mk (.str nm), Dy.mk own, Dy.mk w', (Tu.mk zs_342), ()) : Dy × Dy × Dy × Dy × Tu Dy × Unit))) = some ⟨.tuple [.str k, .str nm, own, w', .tuple ps']⟩ := by
      rw [parts_ok (fun d e h => due_ok h) h7 h8]
      show some (Dy.mk (.tuple [.str k, .str nm, own, w', .tuple ((ps'.map Dy.mk).map Ud.toD)])) = _
      rw [mapD]
    show m__law_due_step (m__law_due n) _ = _
    unfold m__law_due_step
    simp only [of5, bs, ofS, ofTu (ds := ps)]
    clear h7 h8
    cases h6 with
    | same h hd =>
      rw [h.l, h.t, h.f, h.o]
      simp only [Bool.false_eq_true, if_false, bs]
      exact fin
    | line h hs ha =>
      rw [h.l, h.t, h.f, h.o]
      simp only [Bool.false_eq_true, if_false, if_true, bs, ofTu, List.map_cons, List.map_nil, at3_0, at3_1, at3_2, ofS, side_other hs]
      exact fin
    | table h hs hp =>
      rw [h.l, h.t, h.f, h.o]
      simp only [Bool.false_eq_true, if_false, if_true, bs, of4, ofTu, List.map_cons, List.map_nil, at4_0, at4_1, at4_2, at4_3, ofS, side_other hs]
      exact fin
    | @flow ss ss' w n h hs hl hw =>
      rw [h.l, h.t, h.f, h.o]
      simp only [Bool.false_eq_true, if_false, if_true, bs, of3, ofTu, List.map_cons, List.map_nil, at3_0, at3_1, at3_2]
      rw [lcM_pair (ys := ss') (by rw [List.length_map, List.length_map]; omega) (by
        rw [List.map_map]
        have := Paired.map2 (f := fun s : Str => Dy.mk (.str s)) (g := fun s : Str => s) (S := fun x y => ((ofD x : Option Str).bind fun o_37 => (m__law_other o_37).bind fun i_38 => some i_38) = some y) (fun a b h => by
          rw [ofS, bs, side_other h]
          rfl) hs
        rw [List.map_id'] at this
        exact this)]
      simp only [bs]
      exact fin
    | @over xs xs' h hs hl =>
      rw [h.l, h.t, h.f, h.o]
      simp only [Bool.false_eq_true, if_false, if_true, bs]
      rw [show (xs.map pairD) = xs.map (fun p => PyData.tuple [p.1, p.2]) from rfl, ofTu2]
      simp only [bs]
      have key : ∀ {xs xs' : List (PyData × PyData)}, Paired Ov xs xs' → ∃ zs : List ((Str × Int × Unit) × Dy × Unit), Paired (fun x y => (fun ((across_327, down_328, _) : Dy × Dy × Unit) => (((ofD across_327 : Option (Tu Dy))).bind fun o_330 => (atI o_330.l (0 : Int)).bind fun i_331 => ((ofD i_331 : Option Str)).bind fun o_332 => (getD (mergeD ([] : List (Str × Str)) [(("start" : Str), ("end" : Str)), (("end" : Str), ("start" : Str)), (("mid" : Str), ("mid2" : Str)), (("mid2" : Str), ("mid" : Str))]) o_332).bind fun i_333 => ((ofD across_327 : Option (Tu Dy))).bind fun o_334 => (atI o_334.l (1 : Int)).bind fun i_335 => ((ofD i_335 : Option Int)).bind fun o_336 => some (((i_333, (-o_336), ()), down_328, ()) : (Str × Int × Unit) × Dy × Unit))) x = some y) (xs.map fun p => ((⟨p.1⟩, ⟨p.2⟩, ()) : Dy × Dy × Unit)) zs ∧ zs.map Ud.toD = xs'.map pairD := by
        intro xs xs' hp
        induction hp with
        | nil => exact ⟨[], .nil, rfl⟩
        | @cons p q xs xs' h _ ih =>
          obtain ⟨zs, h1, h2⟩ := ih
          obtain ⟨a, i, a', i', e1, e2, e3, ha, rfl⟩ := other_ok h
          refine ⟨((a', -i, ()), ⟨p.2⟩, ()) :: zs, .cons ?_ h1, ?_⟩
          · show ((ofD (⟨p.1⟩ : Dy) : Option (Tu Dy))).bind _ = _
            rw [e1]
            simp only [ofTu, List.map_cons, List.map_nil, bs, at2_0, at2_1, ofS, ofI, anch_kd2 ha]
          · rw [List.map_cons, List.map_cons, h2]
            congr 1
            unfold pairD
            rw [e2, ← e3]
            rfl
      obtain ⟨zs, g1, g2⟩ := key hs
      rw [lcM_pair (by rw [List.length_map]; omega) g1]
      simp only [bs]
      have e : (upD (Tu.mk zs) : Dy) = ⟨.tuple (xs'.map pairD)⟩ := by
        show Dy.mk (.tuple (zs.map Ud.toD)) = _
        rw [g2]
      rw [e]
      exact fin
/-! the tree drawn -/
def alpha : Str := "abcdefghijklmnopqrstuvwxyz"
theorem letter_ok (i : Int) : ∃ c, ixS alpha (i % 26) = some ⟨#[c]⟩ ∧ PyData.strOk ⟨#[c]⟩ = true := by
  have hl : alpha.length = 26 := by decide +kernel
  obtain ⟨c, h1, h2, _⟩ := ixS_ok (s := alpha) (i := i % 26) (by rw [hl]; omega) (by omega) (by rw [hl]; omega) (by decide +kernel)
  exact ⟨c, h1, h2⟩
theorem own_ok {some_ : List Int} (hl : some_.length = 16) (g : Int) : ∃ o, m__law_own some_ g = some o ∧ okn (Ud.toD o) 2 := by
  have at_ : ∀ i : Int, 0 ≤ i → i < 16 → ∃ x, atI some_ i = some x := fun i h0 h1 => by
    obtain ⟨x, e, _⟩ := atI_some (xs := some_) h0 (by omega)
    exact ⟨x, e⟩
  obtain ⟨a0, e0⟩ := at_ 0 (by omega) (by omega)
  obtain ⟨a1, e1⟩ := at_ 1 (by omega) (by omega)
  obtain ⟨a2, e2⟩ := at_ 2 (by omega) (by omega)
  obtain ⟨a3, e3⟩ := at_ 3 (by omega) (by omega)
  obtain ⟨a4, e4⟩ := at_ 4 (by omega) (by omega)
  obtain ⟨a5, e5⟩ := at_ 5 (by omega) (by omega)
  obtain ⟨a6, e6⟩ := at_ 6 (by omega) (by omega)
  obtain ⟨a7, e7⟩ := at_ 7 (by omega) (by omega)
  unfold m__law_own
  simp only [e0, e1, e2, e3, e4, e5, e6, e7, bs]
  rw [pick2 _ _ (by omega) (by omega)]
  simp only [bs]
  rw [pick3 _ _ _ (by omega) (by omega)]
  simp only [bs]
  rw [pick2 _ _ (by omega) (by omega)]
  simp only [bs]
  rw [pick3 _ _ _ (by omega) (by omega)]
  simp only [bs]
  exact ⟨_, rfl, okn_tup (okn_cons (okn_tup (okn_cons (okn_int _ _) (okn_cons (okn_int _ _) okn_nil))) (okn_cons (okn_tup (okn_cons (okn_int _ _) (okn_cons (okn_int _ _) okn_nil))) (okn_cons (okn_int _ _) (okn_cons (okn_int _ _) (okn_cons (okn_int _ _) (okn_cons (okn_int _ _) okn_nil))))))⟩
def wlist : List (Tu Str) := [(Tu.mk [("ab" : Str)]), (Tu.mk [("cde" : Str), ("f" : Str)]), (Tu.mk [("ghij" : Str)]), (Tu.mk [("k" : Str), ("l" : Str), ("mnop" : Str)]), (Tu.mk [("qr" : Str)]), (Tu.mk [("s" : Str), ("tuv" : Str)])]
theorem wlist_ok : ∀ w ∈ wlist, ∀ s ∈ w.l, PyData.strOk s = true := by
  unfold wlist
  simp only [List.mem_cons, List.not_mem_nil, or_false, forall_eq_or_imp, forall_eq]
  decide +kernel
theorem words_ok {some_ : List Int} (hl : some_.length ≤ 16) : ∃ o, m__law_words some_ = some o ∧ okn (Ud.toD o) 2 := by
  unfold m__law_words
  simp only [bs]
  obtain ⟨zs, ez, hz⟩ : ∃ zs, lcM (fun _ => some true) (fun number_130 : Int => ((atI wlist (number_130 % (6 : Int))).bind fun i_132 => some i_132)) some_ = some zs ∧ ∀ z ∈ zs, z ∈ wlist := by
    have key : ∀ xs : List Int, ∃ zs, Paired (fun (x : Int) y => ((atI wlist (x % (6 : Int))).bind fun i_132 => some i_132) = some y) xs zs ∧ ∀ z ∈ zs, z ∈ wlist := by
      intro xs
      induction xs with
      | nil => exact ⟨[], .nil, fun z h => nomatch h⟩
      | cons x xs ih =>
        obtain ⟨zs, h1, h2⟩ := ih
        obtain ⟨w, ew, hw⟩ := atI_some (xs := wlist) (i := x % 6) (by omega) (by show x % 6 < 6; omega)
        refine ⟨w :: zs, .cons (by rw [ew]; rfl) h1, fun z hz => ?_⟩
        rcases List.mem_cons.mp hz with rfl | hz
        · exact List.mem_of_getElem? hw
        · exact h2 z hz
    obtain ⟨zs, h1, h2⟩ := key some_
    exact ⟨zs, lcM_pair (by omega) h1, h2⟩
  have ez : lcM (fun _ => some true) (fun number_130 : Int => ((atI ([(Tu.mk [("ab" : Str)]), (Tu.mk [("cde" : Str), ("f" : Str)]), (Tu.mk [("ghij" : Str)]), (Tu.mk [("k" : Str), ("l" : Str), ("mnop" : Str)]), (Tu.mk [("qr" : Str)]), (Tu.mk [("s" : Str), ("tuv" : Str)])] : List (Tu Str)) (number_130 % (6 : Int))).bind fun i_132 => some i_132)) some_ = some zs := ez
  rw [ez, bs]
  refine ⟨_, rfl, okn_tup fun d hd => ?_⟩
  obtain ⟨w, hw, rfl⟩ := List.mem_map.mp hd
  refine okn_tup fun e he => ?_
  obtain ⟨t, ht, rfl⟩ := List.mem_map.mp he
  exact okn_str (wlist_ok w (hz w hw) t ht) 0
theorem kd_leaf : Kd "leaf" false false false false := ⟨by decide +kernel, by decide +kernel, by decide +kernel, by decide +kernel⟩
theorem kd_words : Kd "words" false false false false := ⟨by decide +kernel, by decide +kernel, by decide +kernel, by decide +kernel⟩
theorem kd_row : Kd "row" true false false false := ⟨by decide +kernel, by decide +kernel, by decide +kernel, by decide +kernel⟩
theorem kd_column : Kd "column" true false false false := ⟨by decide +kernel, by decide +kernel, by decide +kernel, by decide +kernel⟩
theorem kd_wrap : Kd "wrap" true false false false := ⟨by decide +kernel, by decide +kernel, by decide +kernel, by decide +kernel⟩
theorem kd_table : Kd "table" false true false false := ⟨by decide +kernel, by decide +kernel, by decide +kernel, by decide +kernel⟩
theorem kd_flow : Kd "flow" false false true false := ⟨by decide +kernel, by decide +kernel, by decide +kernel, by decide +kernel⟩
theorem kd_over : Kd "over" false false false true := ⟨by decide +kernel, by decide +kernel, by decide +kernel, by decide +kernel⟩
theorem side_pick {i : Int} : ∃ s s', atI ([("left" : Str), ("right" : Str)] : List Str) (i % 2) = some s ∧ Lr s s' := by
  rw [pick2 _ _ (by omega) (by omega)]
  split
  · exact ⟨_, _, rfl, .lr⟩
  · exact ⟨_, _, rfl, .rl⟩
theorem anch_pick {i : Int} : ∃ s s', atI ([("start" : Str), ("mid" : Str), ("mid2" : Str), ("end" : Str)] : List Str) (i % 4) = some s ∧ An s s' := by
  rw [pick4 _ _ _ _ (by omega) (by omega)]
  split
  · exact ⟨_, _, rfl, .a⟩
  · split
    · exact ⟨_, _, rfl, .c⟩
    · split
      · exact ⟨_, _, rfl, .d⟩
      · exact ⟨_, _, rfl, .b⟩
theorem align_pick {i : Int} : ∃ s, atI ([("start" : Str), ("end" : Str), ("mid" : Str), ("mid2" : Str)] : List Str) (i % 4) = some s ∧ PyData.strOk s = true := by
  rw [pick4 _ _ _ _ (by omega) (by omega)]
  refine ⟨_, rfl, ?_⟩
  split
  · decide +kernel
  · split
    · decide +kernel
    · split <;> decide +kernel
theorem irange_at {lo hi : Int} {i : Nat} (h : i < (irange lo hi).length) : (irange lo hi)[i] = lo + (i : Int) := by simp [irange]
section
variable {some_ : List Int} (hl : some_.length = 16)
include hl
theorem at16 (i : Int) (h0 : 0 ≤ i) (h1 : i < 16) : ∃ x, atI some_ i = some x := by
  obtain ⟨x, e, _⟩ := atI_some (xs := some_) h0 (by omega)
  exact ⟨x, e⟩
theorem what_line {k : Str} (hk : Kd k true false false false) (h0 : decide (k = ("leaf" : Str)) = false) (many : Int) : ∃ w w', m__law_what k some_ many = some ⟨w⟩ ∧ Wh k w w' := by
  obtain ⟨a0, e0⟩ := at16 hl 0 (by omega) (by omega)
  obtain ⟨a1, e1⟩ := at16 hl 1 (by omega) (by omega)
  obtain ⟨a2, e2⟩ := at16 hl 2 (by omega) (by omega)
  obtain ⟨s, s', es, hs⟩ := side_pick (i := a2)
  obtain ⟨a, ea, ha⟩ := align_pick (i := a1)
  unfold m__law_what
  rw [h0, hk.l]
  simp only [Bool.false_eq_true, if_false, if_true, e0, e1, e2, bs, es, ea]
  exact ⟨_, _, rfl, .line hk hs ha⟩
theorem what_leaf (many : Int) : ∃ w w', m__law_what "leaf" some_ many = some ⟨w⟩ ∧ Wh "leaf" w w' := by
  obtain ⟨a0, e0⟩ := at16 hl 0 (by omega) (by omega)
  obtain ⟨a1, e1⟩ := at16 hl 1 (by omega) (by omega)
  unfold m__law_what
  rw [show decide (("leaf" : Str) = "leaf") = true from by decide +kernel]
  simp only [if_true, e0, e1, bs]
  exact ⟨_, _, rfl, .same kd_leaf ((okn_tup (n := 0) (okn_cons (okn_int _ _) (okn_cons (okn_int _ _) okn_nil))).mono (by omega))⟩
theorem what_words (many : Int) : ∃ w w', m__law_what "words" some_ many = some ⟨w⟩ ∧ Wh "words" w w' := by
  obtain ⟨a8, e8⟩ := at16 hl 8 (by omega) (by omega)
  obtain ⟨a2, e2⟩ := at16 hl 2 (by omega) (by omega)
  obtain ⟨o, eo, ho⟩ := words_ok (some_ := cut some_ none (some (a8 % 7))) (by have := cut_len some_ none (some (a8 % 7)); omega)
  unfold m__law_what
  rw [show decide (("words" : Str) = "leaf") = false from by decide +kernel, kd_words.l, kd_words.t, show decide (("words" : Str) = "words") = true from by decide +kernel]
  simp only [Bool.false_eq_true, if_false, if_true, e8, e2, eo, bs]
  exact ⟨_, _, rfl, .same kd_words ((okn_tup (n := 2) (okn_cons ho (okn_cons (okn_int _ _) okn_nil))).mono (by omega))⟩
theorem what_table (many : Int) (m0 : 0 ≤ many) (m1 : many ≤ 10) : ∃ w w', m__law_what "table" some_ many = some ⟨w⟩ ∧ Wh "table" w w' := by
  obtain ⟨a0, e0⟩ := at16 hl 0 (by omega) (by omega)
  obtain ⟨a1, e1⟩ := at16 hl 1 (by omega) (by omega)
  obtain ⟨a2, e2⟩ := at16 hl 2 (by omega) (by omega)
  obtain ⟨s, s', es, hs⟩ := side_pick (i := a2)
  unfold m__law_what
  rw [show decide (("table" : Str) = "leaf") = false from by decide +kernel, kd_table.l, kd_table.t]
  simp only [Bool.false_eq_true, if_false, if_true, e0, e1, e2, bs, es]
  rw [rngO_ok (by omega) (by omega) (by omega) (by omega)]
  simp only [bs]
  obtain ⟨sp, ep, hp⟩ := forS_ix (f := m__law_what_L1 some_ (1 + a0 % 3)) (xs := irange 0 many) (fun i (sp : List (Int × Int × Unit)) => sp.length = i) (s := []) rfl (fun i hi sp hsp => by
    rw [irange_at hi, Int.zero_add]
    rw [irange_len] at hi
    obtain ⟨x, ex⟩ := at16 hl (4 + (i : Int) % 4) (by omega) (by omega)
    refine ⟨sp ++ [(1 + x / ((i : Int) + 1) % (1 + a0 % 3), 1 + x / 7 % 2, ())], ?_, by rw [List.length_append, hsp]; rfl⟩
    unfold m__law_what_L1
    simp only [ex, bs]
    rw [divO_ok (by omega) (by omega)]
    simp only [bs]
    rw [modO_ok (by omega)]
    simp only [bs]
    rw [appO_ok (by omega)]
    rfl)
  rw [ep]
  simp only [bs]
  refine ⟨_, _, rfl, .table kd_table hs (okn_tup fun d hd => ?_)⟩
  obtain ⟨t, ht, rfl⟩ := List.mem_map.mp hd
  exact okn_tup (okn_cons (okn_int _ _) (okn_cons (okn_int _ _) okn_nil))
theorem what_flow (many : Int) (m0 : 0 ≤ many) (m1 : many ≤ 10) : ∃ w w', m__law_what "flow" some_ many = some ⟨w⟩ ∧ Wh "flow" w w' := by
  obtain ⟨a8, e8⟩ := at16 hl 8 (by omega) (by omega)
  obtain ⟨a2, e2⟩ := at16 hl 2 (by omega) (by omega)
  obtain ⟨o, eo, ho⟩ := words_ok (some_ := cut some_ none (some (a8 % 5))) (by have := cut_len some_ none (some (a8 % 5)); omega)
  unfold m__law_what
  rw [show decide (("flow" : Str) = "leaf") = false from by decide +kernel, kd_flow.l, kd_flow.t, show decide (("flow" : Str) = "words") = false from by decide +kernel, kd_flow.f]
  simp only [Bool.false_eq_true, if_false, if_true, e8, e2, eo, bs]
  rw [rngO_ok (by omega) (by omega) (by omega) (by omega)]
  simp only [bs]
  have key : ∀ xs : List Int, (∀ x ∈ xs, 0 ≤ x) → ∃ zs zs', Paired (fun (k : Int) y => ((atI some_ (k % (8 : Int))).bind fun i_186 => (atI ([("left" : Str), ("right" : Str)] : List Str) (i_186 % (2 : Int))).bind fun i_187 => some i_187) = some y) xs zs ∧ Paired Lr zs zs' := by
    intro xs
    induction xs with
    | nil => exact fun _ => ⟨[], [], .nil, .nil⟩
    | cons x xs ih =>
      intro hx
      obtain ⟨zs, zs', h1, h2⟩ := ih fun y hy => hx y (List.mem_cons_of_mem _ hy)
      have x0 := hx x List.mem_cons_self
      obtain ⟨a, ea⟩ := at16 hl (x % 8) (by omega) (by omega)
      obtain ⟨s, s', es, hs⟩ := side_pick (i := a)
      exact ⟨s :: zs, s' :: zs', .cons (by rw [ea, bs, es]; rfl) h1, .cons hs h2⟩
  obtain ⟨zs, zs', h1, h2⟩ := key (irange 0 many) (fun x hx => (mem_irange.mp hx).1)
  rw [lcM_pair (by rw [irange_len]; omega) h1]
  simp only [bs]
  refine ⟨_, _, rfl, .flow kd_flow h2 ?_ ho⟩
  rw [← Paired.length h1, irange_len]
  omega
theorem what_over (many : Int) (m0 : 0 ≤ many) (m1 : many ≤ 10) : ∃ w w', m__law_what "over" some_ many = some ⟨w⟩ ∧ Wh "over" w w' := by
  unfold m__law_what
  rw [show decide (("over" : Str) = "leaf") = false from by decide +kernel, kd_over.l, kd_over.t, show decide (("over" : Str) = "words") = false from by decide +kernel, kd_over.f]
  simp only [Bool.false_eq_true, if_false, bs]
  rw [rngO_ok (by omega) (by omega) (by omega) (by omega)]
  simp only [bs]
  obtain ⟨told, et, xs', h1, h2⟩ := forS_ix (f := m__law_what_L2 some_ ["start", "mid", "mid2", "end"]) (xs := irange 0 (many - 1)) (fun i (told : List ((Str × Int × Unit) × (Str × Int × Unit) × Unit)) => ∃ xs', told.length = i ∧ Paired Ov (told.map fun t => (Ud.toD t.1, Ud.toD t.2.1)) xs') (s := []) ⟨[], rfl, .nil⟩ (fun i hi told ht => by
    obtain ⟨xs', h1, h2⟩ := ht
    rw [irange_at hi, Int.zero_add]
    rw [irange_len] at hi
    obtain ⟨x, ex⟩ := at16 hl ((i : Int) % 4) (by omega) (by omega)
    obtain ⟨y, ey⟩ := at16 hl (4 + (i : Int) % 4) (by omega) (by omega)
    obtain ⟨s, s', es, hs⟩ := anch_pick (i := x)
    obtain ⟨t, t', et, ht⟩ := anch_pick (i := y)
    refine ⟨told ++ [((s, x / 4 % 9 - 4, ()), (t, y / 4 % 9 - 4, ()), ())], ?_, xs' ++ [(.tuple [.str s', .int (-(x / 4 % 9 - 4))], .tuple [.str t, .int (y / 4 % 9 - 4)])], by rw [List.length_append, h1]; rfl, ?_⟩
    · unfold m__law_what_L2
      simp only [ex, ey, es, et, bs]
      rw [appO_ok (by omega)]
      rfl
    · rw [List.map_append]
      exact Paired.app2 h2 (.cons ⟨⟨s, s', _, hs, rfl, rfl⟩, rfl, okn_tup (okn_cons (okn_str ht.ok _) (okn_cons (okn_int _ _) okn_nil))⟩ .nil))
  rw [et]
  simp only [bs]
  have e : (upD (Tu.mk told) : Dy) = ⟨.tuple ((told.map fun t => (Ud.toD t.1, Ud.toD t.2.1)).map pairD)⟩ := by
    rw [List.map_map]
    rfl
  refine ⟨_, _, congrArg some e, .over kd_over h2 ?_⟩
  rw [List.length_map, h1, irange_len]
  omega
end
def kinds : List Str := [("row" : Str), ("column" : Str), ("leaf" : Str), ("wrap" : Str), ("table" : Str), ("words" : Str), ("flow" : Str), ("over" : Str), ("row" : Str), ("column" : Str)]
theorem what_ok {some_ : List Int} (hl : some_.length = 16) {k : Str} (hk : k ∈ kinds) (many : Int) (m0 : 0 ≤ many) (m1 : many ≤ 10) : ∃ w w', m__law_what k some_ many = some ⟨w⟩ ∧ Wh k w w' := by
  unfold kinds at hk
  simp only [List.mem_cons, List.not_mem_nil, or_false] at hk
  rcases hk with rfl | rfl | rfl | rfl | rfl | rfl | rfl | rfl | rfl | rfl
  · exact what_line hl kd_row (by decide +kernel) many
  · exact what_line hl kd_column (by decide +kernel) many
  · exact what_leaf hl many
  · exact what_line hl kd_wrap (by decide +kernel) many
  · exact what_table hl many m0 m1
  · exact what_words hl many
  · exact what_flow hl many m0 m1
  · exact what_over hl many m0 m1
  · exact what_line hl kd_row (by decide +kernel) many
  · exact what_line hl kd_column (by decide +kernel) many
theorem kinds_str : ∀ k ∈ kinds, PyData.strOk k = true := by
  unfold kinds
  simp only [List.mem_cons, List.not_mem_nil, or_false, forall_eq_or_imp, forall_eq]
  decide +kernel
theorem grown_ok (cells : List Int) (shift : Int) : ∀ (n : Nat) (spot deep : Int) (tabled : Bool), 0 ≤ spot → 0 ≤ deep → deep ≤ 4 → 5 - deep ≤ n → ∃ d e after, m__law_grown n cells spot deep kinds shift tabled = some (⟨d⟩, after, ()) ∧ Tr n d e ∧ spot ≤ after
  | 0, spot, deep, tabled, h0, h1, h2, h3 => by omega
  | n + 1, spot, deep, tabled, h0, h1, h2, h3 => by
    show ∃ d e after, m__law_grown_step (m__law_grown n) cells spot deep kinds shift tabled = _ ∧ _
    obtain ⟨c, ec⟩ := cell_at (ns := cells) spot h0
    obtain ⟨some_, es, hl⟩ := numbers_ok c 16 (by omega) (by omega)
    have hl : some_.length = 16 := hl
    obtain ⟨x, ex, ox⟩ := letter_ok (11 * spot + shift)
    obtain ⟨y, ey, oy⟩ := letter_ok (3 * spot + spot / 26 + shift / 26)
    have ex : ixS ("abcdefghijklmnopqrstuvwxyz" : Str) ((11 * spot + shift) % 26) = _ := ex
    have ey : ixS ("abcdefghijklmnopqrstuvwxyz" : Str) ((3 * spot + spot / 26 + shift / 26) % 26) = _ := ey
    have exy : addS (⟨#[x]⟩ : Str) ⟨#[y]⟩ = some (⟨#[x]⟩ ++ ⟨#[y]⟩) := if_pos (by show 1 + 1 ≤ 1000000; omega)
    obtain ⟨a10, e10⟩ := at16 hl 10 (by omega) (by omega)
    obtain ⟨a11, e11⟩ := at16 hl 11 (by omega) (by omega)
    obtain ⟨a12, e12⟩ := at16 hl 12 (by omega) (by omega)
    obtain ⟨a13, e13⟩ := at16 hl 13 (by omega) (by omega)
    obtain ⟨k0, ek0, hk0⟩ := atI_some (xs := kinds) (i := a10 % 10) (by omega) (by show a10 % 10 < 10; omega)
    have hk0 := List.mem_of_getElem? hk0
    have kl : (kinds.length : Int) = 10 := rfl
    unfold m__law_grown_step
    simp only [ec, es, ex, ey, exy, e10, bs, kl]
    rw [modO_ok (by omega)]
    simp only [bs, ek0, e11]
    rw [show decide (("words" : Str) ∈ kinds) = true from by decide +kernel]
    simp only [if_true, Int.mul_one]
    rw [mulO_ok (by omega) (by omega)]
    simp only [bs, Int.mul_one]
    -- the kind
    obtain ⟨k, ek, hk, hd⟩ : ∃ k, (if (decide (deep = 4) || decide (9 < spot)) = true then (atI ([("leaf" : Str), ("words" : Str)] : List Str) (a11 % 2)).bind fun i_234 => some i_234 else some k0) = some k ∧ k ∈ kinds ∧ (deep = 4 → decide (k ∈ ([("leaf" : Str), ("words" : Str)] : List Str)) = true) := by
      by_cases hc : (decide (deep = 4) || decide (9 < spot)) = true
      · rw [if_pos hc, pick2 _ _ (by omega) (by omega)]
        refine ⟨_, rfl, ?_, fun _ => ?_⟩
        · split <;> decide +kernel
        · split <;> decide +kernel
      · rw [if_neg hc]
        refine ⟨k0, rfl, hk0, fun h => ?_⟩
        rw [decide_eq_true h] at hc
        exact (hc rfl).elim
    rw [ek]
    simp only [bs]
    -- how many
    obtain ⟨many, em, m0, m1, md⟩ : ∃ many : Int, (if (!decide (k ∈ ([("leaf" : Str), ("words" : Str)] : List Str))) = true then (atI some_ 12).bind fun i_241 => some ((if decide (k = ("over" : Str)) = true then (1 : Int) else 0) + i_241 % 4) else some 0) = some many ∧ 0 ≤ many ∧ many ≤ 10 ∧ (deep = 4 → many = 0) := by
      by_cases hc : decide (k ∈ ([("leaf" : Str), ("words" : Str)] : List Str)) = true
      · rw [hc]
        exact ⟨0, rfl, by omega, by omega, fun _ => rfl⟩
      · have hc2 : decide (k ∈ ([("leaf" : Str), ("words" : Str)] : List Str)) = false := by simpa using hc
        rw [hc2, e12]
        refine ⟨(if decide (k = ("over" : Str)) = true then (1 : Int) else 0) + a12 % 4, rfl, ?_, ?_, fun h => absurd (hd h) hc⟩
        · split <;> omega
        · split <;> omega
    rw [em]
    simp only [bs]
    rw [rngO_ok (by omega) (by omega) (by omega) (by omega)]
    simp only [bs]
    obtain ⟨⟨after, parts⟩, ep, h4, ps, ps', h5, h6, h7⟩ := forS_ix (f := m__law_grown_L1 (m__law_grown n) cells deep kinds shift tabled k) (xs := irange 0 many) (fun i (s : Int × List Dy) => spot ≤ s.1 ∧ ∃ ps ps', s.2 = ps.map Dy.mk ∧ ps.length = i ∧ Paired (Tr n) ps ps') (s := (spot + 1, [])) ⟨by show spot ≤ spot + 1; omega, [], [], rfl, rfl, .nil⟩ (fun i hi s hs => by
      obtain ⟨after, parts⟩ := s
      obtain ⟨h4, ps, ps', h5, h6, h7⟩ := hs
      have h4 : spot ≤ after := h4
      have h5 : parts = ps.map Dy.mk := h5
      rw [irange_len] at hi
      have hdeep : deep ≠ 4 := fun h => by
        have := md h
        omega
      obtain ⟨d, e, after', eg, ht, ha⟩ := grown_ok cells shift n after (deep + 1) (tabled || decide (k = ("table" : Str))) (by omega) (by omega) (by omega) (by omega)
      refine ⟨(after', parts ++ [⟨d⟩]), ?_, by show spot ≤ after'; omega, ps ++ [d], ps' ++ [e], ?_, by rw [List.length_append, h6]; rfl, Paired.app2 h7 (.cons ht .nil)⟩
      · unfold m__law_grown_L1
        simp only [eg, bs]
        rw [appO_ok (by rw [h5, List.length_map]; omega)]
        rfl
      · show parts ++ [⟨d⟩] = _
        rw [h5, List.map_append]
        rfl)
    rw [ep]
    simp only [bs]
    have h4 : spot ≤ after := h4
    have h5 : parts = ps.map Dy.mk := h5
    obtain ⟨grp, eg⟩ : ∃ grp : Int, (if (decide (k ∈ ([("leaf" : Str), ("row" : Str), ("column" : Str), ("wrap" : Str)] : List Str)) && !tabled) = true then (atI some_ 13).bind fun i_266 => some (i_266 % 3) else some 0) = some grp := by
      split
      · rw [e13]
        exact ⟨_, rfl⟩
      · exact ⟨_, rfl⟩
    rw [eg]
    simp only [bs]
    obtain ⟨own, eo, ho⟩ := own_ok hl grp
    obtain ⟨w, w', ew, hw⟩ := what_ok hl hk many m0 m1
    rw [eo]
    simp only [bs]
    rw [ew]
    simp only [bs]
    refine ⟨.tuple [.str k, .str (⟨#[x]⟩ ++ ⟨#[y]⟩), Ud.toD own, w, .tuple ps], .tuple [.str k, .str (⟨#[x]⟩ ++ ⟨#[y]⟩), Ud.toD own, w', .tuple ps'], after, ?_, ⟨k, _, Ud.toD own, w, w', ps, ps', rfl, rfl, kinds_str k hk, ok_app ox oy, ho, hw, ?_, h7⟩, h4⟩
    · rw [h5]
      show some ((Dy.mk (.tuple [.str k, .str (⟨#[x]⟩ ++ ⟨#[y]⟩), Ud.toD own, w, .tuple ((ps.map Dy.mk).map Ud.toD)])), after, ()) = _
      rw [mapD]
    · rw [irange_len] at h6
      omega
theorem law_main (ns : List Int) (h : ns.length ≤ 63) : m_law (Fz.mk ns) = some true := by
  obtain ⟨c, ec⟩ := cell_at (ns := ns) 0 (by omega)
  obtain ⟨d, e, after, eg, ht, _⟩ := grown_ok (cut ns (some (1 : Int)) (some (60 : Int))) (c % 676) 8 0 0 false (by omega) (by omega) (by omega) (by omega)
  have eg : m__law_grown 8 (cut ns (some (1 : Int)) (some (60 : Int))) 0 0 [("row" : Str), ("column" : Str), ("leaf" : Str), ("wrap" : Str), ("table" : Str), ("words" : Str), ("flow" : Str), ("over" : Str), ("row" : Str), ("column" : Str)] (c % 676) false = _ := eg
  unfold m_law
  simp only [ec, bs]
  rw [eg]
  simp only [bs, mir_ok ht, due_ok ht, mir_ok ht.symm]
  rw [eqY_self ht.symm.ok (by omega)]
  simp only [bs, if_true]
  rw [eqY_self ht.ok (by omega)]
  rfl
end Wk85
set_option synthInstance.maxHeartbeats 4000000
set_option synthInstance.maxSize 20000
open PySem PySem.W PyProof.Rows in
set_option maxRecDepth 100000 in
set_option maxHeartbeats 0 in
theorem PySem.Challenge.cw_boxgalley_k85_trees_mirrored_holds : PySem.Challenge.rw_boxgalley_k85_trees_mirrored.Holds := by
  w_on; o_law; k_head; (case hw => w_witness2)
  k_fill
  refine L2.walk_of (l := PySem.Challenge.rw_boxgalley_k85_trees_mirrored) (n := 63) (k := 11) (x := "_law_script") (CX := fun _ => L2.CX0) (sp := fun w => Wk85.spLaw _) rfl (by decide) rfl ⟨rfl, by decide, by decide⟩ (fun w h Y => PySem.W.kIn_of Y) ?F (fun _ _ a ns hl _ hS => ⟨a, ns, rfl, hS, hl, fun _ => rfl⟩) (fun _ _ _ _ _ h => h)
  case F =>
    intro w mg fa h KX G hmg
    refine' Wk85.all_mk Wk85.law_main KX G hmg ?a_other_anchor ?l_other_anchor ?c_other_anchor ?k_other_anchor ?a_mirrored_what ?l_mirrored_what ?c_mirrored_what ?k_mirrored_what ?a_mirrored ?l_mirrored ?c_mirrored ?k_mirrored ?a__law_cell_at ?l__law_cell_at ?c__law_cell_at ?k__law_cell_at ?a__law_numbers ?l__law_numbers ?c__law_numbers ?k__law_numbers ?a__law_own ?l__law_own ?c__law_own ?k__law_own ?a__law_words ?l__law_words ?c__law_words ?k__law_words ?a__law_what ?l__law_what ?c__law_what ?k__law_what ?a__law_grown ?l__law_grown ?c__law_grown ?k__law_grown ?a__law_other ?l__law_other ?c__law_other ?k__law_other ?a__law_due ?l__law_due ?c__law_due ?k__law_due ?a_law ?l_law ?c_law ?k_law ?z_int ?z_len ?z_range ?z_tuple ?dn_ANCHORS ?dl_ANCHORS ?dk_ANCHORS ?dv_ANCHORS_0 ?dv_ANCHORS_1 ?dv_ANCHORS_2 ?dv_ANCHORS_3 ?dn_SIDES ?dl_SIDES ?dk_SIDES ?dv_SIDES_0 ?dv_SIDES_1
    (case a_other_anchor => k_is)
    (case l_other_anchor => k_is)
    (case c_other_anchor => k_is)
    (case k_other_anchor => k_is)
    (case a_mirrored_what => k_is)
    (case l_mirrored_what => k_is)
    (case c_mirrored_what => k_is)
    (case k_mirrored_what => k_is)
    (case a_mirrored => k_is)
    (case l_mirrored => k_is)
    (case c_mirrored => k_is)
    (case k_mirrored => k_is)
    (case a__law_cell_at => k_is)
    (case l__law_cell_at => k_is)
    (case c__law_cell_at => k_is)
    (case k__law_cell_at => k_is)
    (case a__law_numbers => k_is)
    (case l__law_numbers => k_is)
    (case c__law_numbers => k_is)
    (case k__law_numbers => k_is)
    (case a__law_own => k_is)
    (case l__law_own => k_is)
    (case c__law_own => k_is)
    (case k__law_own => k_is)
    (case a__law_words => k_is)
    (case l__law_words => k_is)
    (case c__law_words => k_is)
    (case k__law_words => k_is)
    (case a__law_what => k_is)
    (case l__law_what => k_is)
    (case c__law_what => k_is)
    (case k__law_what => k_is)
    (case a__law_grown => k_is)
    (case l__law_grown => k_is)
    (case c__law_grown => k_is)
    (case k__law_grown => k_is)
    (case a__law_other => k_is)
    (case l__law_other => k_is)
    (case c__law_other => k_is)
    (case k__law_other => k_is)
    (case a__law_due => k_is)
    (case l__law_due => k_is)
    (case c__law_due => k_is)
    (case k__law_due => k_is)
    (case a_law => k_is)
    (case l_law => k_is)
    (case c_law => k_is)
    (case k_law => k_is)
    (case z_int => k_is)
    (case z_len => k_is)
    (case z_range => k_is)
    (case z_tuple => k_is)
    (case dn_ANCHORS => k_is)
    (case dl_ANCHORS => k_is)
    (case dk_ANCHORS => k_keys)
    (case dv_ANCHORS_0 => k_is)
    (case dv_ANCHORS_1 => k_is)
    (case dv_ANCHORS_2 => k_is)
    (case dv_ANCHORS_3 => k_is)
    (case dn_SIDES => k_is)
    (case dl_SIDES => k_is)
    (case dk_SIDES => k_keys)
    (case dv_SIDES_0 => k_is)
    (case dv_SIDES_1 => k_is)
