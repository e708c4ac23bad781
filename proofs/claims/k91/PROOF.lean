import PyProof.Rows.All
import Wide.All
import OpenK.AllK
import Wide.FinOn
import HandS.ForMost
import HandS.Evl
import HandS.Wide
import HandS.IsInst
import HandS.SortInts
import HandS.TupAny
import HandS.Dict
import HandS.More
import KE.KDictPairs
import KE.KDictCopyH
import HandS.ForExc
import HandS.ExcInit
import HandS.ExcField
import HandS.Iter
import KE.KExcIs
import HandS.Style
import KE.SortData
import HandS.Sort
import HandS.StrMore
import PyProof.SumAny
import HandS.DictComp
import KE.DataCmp
import KE.DataMinMax
import PyProof.StrBlock2
import HandS.Text
import HandS.RaiseMore
import HandS.OwnEq
import HandS.DeepEq
import PyProof.NeKinds
import PyProof.DictUpdate
import KE.KEqNest
import KE.GoesEnum
import HandS.Deep
import HandS.Conv
import HandS.CallSlots
import HandS.Replace
import HandS.SetKeys
import PySem.Challenge.RW_boxgalley_k91_what_is_no_floor
set_option Elab.async false
set_option linter.all false
set_option maxRecDepth 100000
set_option maxHeartbeats 2000000
/-! Wk: typed mirrors over the hand layer: what a value stands for, a state by slots and owned objects, one rule a construct. -/
namespace Wk
open PySem PySem.Spec L2 Evl

abbrev Fg := PySem.W.Frag
def isDk : HO → Prop
  | .dK _ => True
  | .dT _ => True
  | _ => False
/-- all that stood stands; a dict may be locked, or set free again -/
def Sw (H H' : Hp) : Prop := ∀ q u, H q = some u → H' q = some u ∨ ∃ o w, isDk w ∧ ((u = w ∧ H' q = some (.frz o w)) ∨ (u = .frz o w ∧ H' q = some w))
theorem Sw.of {H H' : Hp} (e : Ex H H') : Sw H H' := fun q u h => .inl (e q u h)
theorem Sw.keep {H H' : Hp} (e : Sw H H') {q : Addr} {u : HO} (h : H q = some u) (n1 : ¬ isDk u) (n2 : ∀ o w, u ≠ .frz o w) : H' q = some u := by
  rcases e q u h with h | ⟨o, w, hw, ⟨rfl, _⟩ | ⟨h, _⟩⟩
  · exact h
  · exact absurd hw n1
  · exact absurd h (n2 o w)
theorem Sw.lst {H H' : Hp} (e : Sw H H') {q : Addr} {vs : List V} (h : H q = some (.lst vs)) : H' q = some (.lst vs) := e.keep h (fun z => z) (fun _ _ z => nomatch z)
theorem Sw.tup {H H' : Hp} (e : Sw H H') {q : Addr} {vs : List V} (h : H q = some (.tup vs)) : H' q = some (.tup vs) := e.keep h (fun z => z) (fun _ _ z => nomatch z)
theorem Sw.rdl {H H' : Hp} (e : Sw H H') {q : Addr} {u : HO} (h : Rd H q u) (n1 : ¬ isDk u) (n2 : ∀ o w, u ≠ .frz o w) : Rd H' q u := by
  rcases h with h | ⟨o, h⟩
  · exact .inl (e.keep h n1 n2)
  · rcases e q _ h with h | ⟨o2, w, hw, ⟨z, _⟩ | ⟨h, h2⟩⟩
    · exact .inr ⟨o, h⟩
    · subst z
      exact False.elim hw
    · cases h
      exact absurd hw n1
theorem Sw.rd {H H' : Hp} (e : Sw H H') {q : Addr} {u : HO} (h : Rd H q u) (n1 : isDk u) : Rd H' q u := by
  have n2 : ∀ o w, u ≠ .frz o w := fun o w z => by
    subst z
    exact n1
  rcases h with h | ⟨o, h⟩
  · rcases e q _ h with h | ⟨o2, w, hw, ⟨rfl, h⟩ | ⟨h, _⟩⟩
    · exact .inl h
    · exact .inr ⟨o2, h⟩
    · exact absurd h (n2 _ _)
  · rcases e q _ h with h | ⟨o2, w, hw, ⟨z, _⟩ | ⟨h, h2⟩⟩
    · exact .inr ⟨o, h⟩
    · subst z
      exact False.elim hw
    · cases h
      exact .inl h2
theorem Sw.l {K : Fg} {H H' : Hp} (e : Sw H H') {a : Addr} {xs : List V} (h : SqL K H a xs) : SqL K H' a xs := by
  rcases h with h | h
  · exact .inl (e.rdl h (fun z => z) (fun _ _ z => nomatch z))
  · exact .inr h
theorem Sw.t {K : Fg} {H H' : Hp} (e : Sw H H') {a : Addr} {xs : List V} (h : SqT K H a xs) : SqT K H' a xs := by
  rcases h with h | h
  · exact .inl (e.rdl h (fun z => z) (fun _ _ z => nomatch z))
  · exact .inr h
/-- v stands for a, by what is known in H -/
class Rp (α : Type) where
  rep : Fg → Hp → V → α → Prop
  swap : ∀ {K : Fg} {H H' : Hp} {v : V} {a : α}, Sw H H' → rep K H v a → rep K H' v a
theorem Rp.mono {α : Type} [i : Rp α] {K : Fg} {H H' : Hp} {v : V} {a : α} (e : Ex H H') (h : Rp.rep K H v a) : Rp.rep K H' v a := i.swap (.of e) h
/-- the places of a tuple | the arguments of a call -/
class Tp (τ : Type) where
  n : Nat
  rept : Fg → Hp → List V → τ → Prop
  len : ∀ {K : Fg} {H : Hp} {vs : List V} {t : τ}, rept K H vs t → vs.length = n
  swap : ∀ {K : Fg} {H H' : Hp} {vs : List V} {t : τ}, Sw H H' → rept K H vs t → rept K H' vs t
theorem Tp.mono {τ : Type} [i : Tp τ] {K : Fg} {H H' : Hp} {vs : List V} {t : τ} (e : Ex H H') (h : Tp.rept K H vs t) : Tp.rept K H' vs t := i.swap (.of e) h
abbrev rep {α : Type} [Rp α] (K : Fg) (H : Hp) (v : V) (a : α) : Prop := Rp.rep K H v a
abbrev rept {τ : Type} [Tp τ] (K : Fg) (H : Hp) (vs : List V) (t : τ) : Prop := Tp.rept K H vs t
/-- what needs no heap -/
class Fl (α : Type) [Rp α] where
  toV : α → V
  iff : ∀ {K : Fg} {H : Hp} {v : V} {a : α}, Rp.rep K H v a ↔ v = toV a

inductive Nn where | nn
  deriving DecidableEq
instance rpInt : Rp Int := { rep := fun _ _ v a => v = .int a, swap := fun _ h => h }
instance : Fl Int := { toV := V.int, iff := Iff.rfl }
instance rpBool : Rp Bool := { rep := fun _ _ v a => v = .bl a, swap := fun _ h => h }
instance : Fl Bool := { toV := V.bl, iff := Iff.rfl }
instance rpStr : Rp Str := { rep := fun _ _ v a => v = .str a, swap := fun _ h => h }
instance : Fl Str := { toV := V.str, iff := Iff.rfl }
instance rpNn : Rp Nn := { rep := fun _ _ v _ => v = .non, swap := fun _ h => h }
instance : Fl Nn := { toV := fun _ => V.non, iff := Iff.rfl }
/-- None, or something -/
instance {α : Type} [Rp α] : Rp (Option α) where
  rep K H v a := match a with | none => v = .non | some x => v ≠ .non ∧ rep K H v x
  swap {K H H' v a} e h := match a, h with
    | none, h => h
    | some _, h => ⟨h.1, Rp.swap e h.2⟩

theorem paired_mono {α : Type} [Rp α] {K : Fg} {H H' : Hp} (e : Ex H H') {vs : List V} {xs : List α} (h : Paired (rep K H) vs xs) : Paired (rep K H') vs xs :=
  Paired.mapP h fun _ _ q => Rp.mono e q
theorem paired_swap {α : Type} [Rp α] {K : Fg} {H H' : Hp} (e : Sw H H') {vs : List V} {xs : List α} (h : Paired (rep K H) vs xs) : Paired (rep K H') vs xs :=
  Paired.mapP h fun _ _ q => Rp.swap e q
/-- a list that stands exactly so -/
instance {α : Type} [Rp α] : Rp (List α) where
  rep K H v xs := ∃ p vs, v = .ref p ∧ H p = some (.lst vs) ∧ Paired (rep K H) vs xs
  swap e h := by
    obtain ⟨p, vs, h1, h2, h3⟩ := h
    exact ⟨p, vs, h1, e.lst h2, paired_swap e h3⟩
/-- a list that is read (the script, a list of the top) -/
structure Fz (α : Type) where
  l : List α
instance {α : Type} [Rp α] : Rp (Fz α) where
  rep K H v xs := ∃ p vs, v = .ref p ∧ SqL K H p vs ∧ Paired (rep K H) vs xs.l
  swap e h := by
    obtain ⟨p, vs, h1, h2, h3⟩ := h
    exact ⟨p, vs, h1, e.l h2, paired_swap e h3⟩
/-- a tuple of the top -/
structure Kt (α : Type) where
  l : List α
instance {α : Type} [Rp α] : Rp (Kt α) where
  rep K H v xs := ∃ p vs, v = .ref p ∧ SqT K H p vs ∧ Paired (rep K H) vs xs.l
  swap e h := by
    obtain ⟨p, vs, h1, h2, h3⟩ := h
    exact ⟨p, vs, h1, e.t h2, paired_swap e h3⟩
/-- a tuple of alike things, of any length -/
structure Tu (α : Type) where
  l : List α
  deriving DecidableEq
instance {α : Type} [Rp α] : Rp (Tu α) where
  rep K H v xs := ∃ p vs, v = .ref p ∧ H p = some (.tup vs) ∧ Paired (rep K H) vs xs.l
  swap e h := by
    obtain ⟨p, vs, h1, h2, h3⟩ := h
    exact ⟨p, vs, h1, e.tup h2, paired_swap e h3⟩
instance : Tp Unit where
  n := 0
  rept _ _ vs _ := vs = []
  len h := by rw [h]; rfl
  swap _ h := h
instance {α τ : Type} [Rp α] [Tp τ] : Tp (α × τ) where
  n := Tp.n τ + 1
  rept K H vs t := ∃ v r, vs = v :: r ∧ rep K H v t.1 ∧ rept K H r t.2
  len h := by
    obtain ⟨v, r, h1, h2, h3⟩ := h
    rw [h1, List.length_cons, Tp.len h3]
  swap e h := by
    obtain ⟨v, r, h1, h2, h3⟩ := h
    exact ⟨v, r, h1, Rp.swap e h2, Tp.swap e h3⟩
/-- a tuple: (a, (b, (c, ()))) -/
instance {α τ : Type} [Rp α] [Tp τ] : Rp (α × τ) where
  rep K H v t := ∃ p vs, v = .ref p ∧ H p = some (.tup vs) ∧ rept K H vs t
  swap e h := by
    obtain ⟨p, vs, h1, h2, h3⟩ := h
    exact ⟨p, vs, h1, e.tup h2, Tp.swap e h3⟩

/-! ### the state -/
inductive Sl : Type 1 where
  | any
  | val (α : Type) (i : Rp α) (x : α)
  | at (p : Addr)
def sv {α : Type} [i : Rp α] (x : α) : Sl := .val α i x
def Sl.ok (K : Fg) (Kn : Hp) : Sl → Option V → Prop
  | .any, _ => True
  | .val _ i x, o => ∃ v, o = some v ∧ i.rep K Kn v x
  | .at p, o => o = some (.ref p)
def SlsOk (K : Fg) (Kn : Hp) : List Sl → St → Prop
  | [], [] => True
  | s :: ss, o :: os => s.ok K Kn o ∧ SlsOk K Kn ss os
  | _, _ => False
theorem Sl.ok_mono {K : Fg} {H H' : Hp} (e : Ex H H') : ∀ {s : Sl} {o : Option V}, s.ok K H o → s.ok K H' o
  | .any, _, _ => trivial
  | .val _ i _, _, ⟨v, h1, h2⟩ => ⟨v, h1, i.swap (.of e) h2⟩
  | .at _, _, h => h
theorem SlsOk.mono {K : Fg} {H H' : Hp} (e : Ex H H') : ∀ {ss : List Sl} {σ : St}, SlsOk K H ss σ → SlsOk K H' ss σ
  | [], [], _ => trivial
  | _ :: _, _ :: _, h => ⟨Sl.ok_mono e h.1, SlsOk.mono e h.2⟩
theorem Sl.ok_swap {K : Fg} {H H' : Hp} (e : Sw H H') : ∀ {s : Sl} {o : Option V}, s.ok K H o → s.ok K H' o
  | .any, _, _ => trivial
  | .val _ i _, _, ⟨v, h1, h2⟩ => ⟨v, h1, i.swap e h2⟩
  | .at _, _, h => h
theorem SlsOk.swap {K : Fg} {H H' : Hp} (e : Sw H H') : ∀ {ss : List Sl} {σ : St}, SlsOk K H ss σ → SlsOk K H' ss σ
  | [], [], _ => trivial
  | _ :: _, _ :: _, h => ⟨Sl.ok_swap e h.1, SlsOk.swap e h.2⟩
theorem SlsOk.get {K : Fg} {H : Hp} : ∀ {ss : List Sl} {σ : St} {i : Nat} {s : Sl}, SlsOk K H ss σ → ss[i]? = some s → ∃ o, σ[i]? = some o ∧ s.ok K H o
  | _ :: _, o :: _, 0, _, h, e => by
    cases Option.some.inj e
    exact ⟨o, rfl, h.1⟩
  | _ :: ss, _ :: os, i + 1, s, h, e => SlsOk.get (ss := ss) (σ := os) (i := i) h.2 e
theorem SlsOk.set {K : Fg} {H : Hp} {s : Sl} {o : Option V} (hs : s.ok K H o) : ∀ {ss : List Sl} {σ : St} (i : Nat), SlsOk K H ss σ → SlsOk K H (ss.set i s) (σ.set i o)
  | [], [], _, _ => trivial
  | _ :: _, _ :: _, 0, h => ⟨hs, h.2⟩
  | _ :: _, _ :: _, i + 1, h => ⟨h.1, SlsOk.set hs i h.2⟩
/-- less is known -/
inductive SlLe : List Sl → List Sl → Prop
  | nil : SlLe [] []
  | keep {s : Sl} {a b : List Sl} : SlLe a b → SlLe (s :: a) (s :: b)
  | drop {s : Sl} {a b : List Sl} : SlLe a b → SlLe (s :: a) (.any :: b)
theorem SlLe.refl : ∀ (a : List Sl), SlLe a a
  | [] => .nil
  | _ :: r => .keep (SlLe.refl r)
theorem SlsOk.le {K : Fg} {H : Hp} : ∀ {a b : List Sl} {σ : St}, SlLe a b → SlsOk K H a σ → SlsOk K H b σ
  | _, _, [], .nil, _ => trivial
  | _, _, _ :: _, .keep l, h => ⟨h.1, SlsOk.le l h.2⟩
  | _, _, _ :: _, .drop l, h => ⟨trivial, SlsOk.le l h.2⟩

/-- what an object stands for, by what is known in H -/
class Ob (γ : Type) where
  ob : Fg → Hp → HO → γ → Prop
  swap : ∀ {K : Fg} {H H' : Hp} {o : HO} {x : γ}, Sw H H' → ob K H o x → ob K H' o x
theorem Ob.mono {γ : Type} [i : Ob γ] {K : Fg} {H H' : Hp} {o : HO} {x : γ} (e : Ex H H') (h : Ob.ob K H o x) : Ob.ob K H' o x := i.swap (.of e) h
/-- an object of one's own, that may change -/
inductive Ow : Type 1 where
  | lst (p : Addr) (α : Type) (i : Rp α) (xs : List α)
  | obj (p : Addr) (γ : Type) (i : Ob γ) (x : γ)
def oo {γ : Type} [i : Ob γ] (p : Addr) (x : γ) : Ow := .obj p γ i x
def ol {α : Type} [i : Rp α] (p : Addr) (xs : List α) : Ow := .lst p α i xs
def Ow.ad : Ow → Addr
  | .lst p _ _ _ => p
  | .obj p _ _ _ => p
def Ow.ok (K : Fg) (Kn H : Hp) : Ow → Prop
  | .lst p _ i xs => ∃ vs, H p = some (.lst vs) ∧ Paired (i.rep K Kn) vs xs
  | .obj p _ i x => ∃ o, H p = some o ∧ i.ob K Kn o x
theorem Ow.ok_swap {K : Fg} {Kn Kn' H H' : Hp} (e : Sw Kn Kn') : ∀ {o : Ow}, H' o.ad = H o.ad → o.ok K Kn H → o.ok K Kn' H'
  | .lst _ _ i _, eh, ⟨vs, h1, h2⟩ => ⟨vs, eh.trans h1, Paired.mapP h2 fun _ _ q => i.swap e q⟩
  | .obj _ _ i _, eh, ⟨o, h1, h2⟩ => ⟨o, eh.trans h1, i.swap e h2⟩
theorem Ow.ok_mono {K : Fg} {Kn Kn' H H' : Hp} (e : Ex Kn Kn') {o : Ow} (eh : H' o.ad = H o.ad) (h : o.ok K Kn H) : o.ok K Kn' H' := Ow.ok_swap (.of e) eh h
theorem ne_none_of {H : Hp} {p : Addr} {o : HO} (h : H p = some o) : H p ≠ none := fun z => by
  rw [h] at z
  cases z
theorem Ow.there {K : Fg} {Kn H : Hp} : ∀ {o : Ow}, o.ok K Kn H → H o.ad ≠ none
  | .lst p _ _ _, h => by
    obtain ⟨vs, h, _⟩ := h
    exact ne_none_of (show H p = some (.lst vs) from h)
  | .obj p _ _ _, h => by
    obtain ⟨o, h, _⟩ := h
    exact ne_none_of (show H p = some o from h)
structure OwsOk (K : Fg) (F Kn H : Hp) (ow : List Ow) : Prop where
  each : ∀ o ∈ ow, F o.ad = none ∧ Kn o.ad = none ∧ o.ok K Kn H
  nd : (ow.map Ow.ad).Nodup

/-- the state: F stands untouched, Kn is known (by and by more), the slots, the objects of one's own -/
structure S (K : Fg) (F Kn0 : Hp) (sl : List Sl) (ow : List Ow) (σ : St) (Kn H : Hp) : Prop where
  e0 : Ex Kn0 Kn
  ek : Ex Kn H
  ef : Ex F H
  sep : ∀ p, F p ≠ none → Kn0 p = none → Kn p = none
  sl : SlsOk K Kn sl σ
  ow : OwsOk K F Kn H ow

/-- growth: nothing that stood is touched, nothing that stood unknown is known -/
structure Gr (Kn H Kn' H' : Hp) : Prop where
  kk : Ex Kn Kn'
  hh : Ex H H'
  kh : Ex Kn' H'
  sp : ∀ p, H p ≠ none → Kn p = none → Kn' p = none
theorem Gr.refl {Kn H : Hp} (e : Ex Kn H) : Gr Kn H Kn H := ⟨Ex.refl _, Ex.refl _, e, fun _ _ h => h⟩
theorem Ex.nn {H H' : Hp} (e : Ex H H') {p : Addr} (h : H p ≠ none) : H' p ≠ none := by
  cases q : H p with
  | none => exact absurd q h
  | some o => exact ne_none_of (e _ _ q)
theorem Ex.at_eq {H H' : Hp} (e : Ex H H') {p : Addr} (h : H p ≠ none) : H' p = H p := by
  cases q : H p with
  | none => exact absurd q h
  | some o => exact e _ _ q
theorem Gr.trans {Kn H Kn1 H1 Kn2 H2 : Hp} (a : Gr Kn H Kn1 H1) (b : Gr Kn1 H1 Kn2 H2) : Gr Kn H Kn2 H2 :=
  ⟨a.kk.trans b.kk, a.hh.trans b.hh, b.kh, fun p h1 h2 => b.sp p (Ex.nn a.hh h1) (a.sp p h1 h2)⟩
/-- a new object, known -/
theorem Gr.new {Kn H : Hp} {p : Addr} {o : HO} (e : Ex Kn H) (hp : H p = none) : Gr Kn H (upd Kn p o) (upd H p o) := by
  have kp : Kn p = none := fresh_back e hp
  refine ⟨Ex.new kp, Ex.new hp, fun a u h => ?_, fun q h1 h2 => ?_⟩
  · by_cases hq : a = p
    · subst hq
      rw [upd_same] at h ⊢
      exact h
    · rw [upd_ne hq] at h ⊢
      exact e _ _ h
  · have hq : q ≠ p := fun z => by
      subst z
      exact h1 hp
    rw [upd_ne hq]
    exact h2
/-- a new object, not known yet -/
theorem Gr.newU {Kn H : Hp} {p : Addr} {o : HO} (e : Ex Kn H) (hp : H p = none) : Gr Kn H Kn (upd H p o) :=
  ⟨Ex.refl _, Ex.new hp, e.trans (Ex.new hp), fun _ _ h2 => h2⟩
/-- what was new is known from now on -/
theorem Gr.know {Kn H Kn' H' : Hp} {p : Addr} {o : HO} (g : Gr Kn H Kn' H') (hp : H p = none) (kp : Kn' p = none) (hp' : H' p = some o) : Gr Kn H (upd Kn' p o) H' :=
  ⟨g.kk.trans (Ex.new kp), g.hh, fun a u h => by
    by_cases hq : a = p
    · subst hq
      rw [upd_same] at h
      rw [← h]
      exact hp'
    · rw [upd_ne hq] at h
      exact g.kh _ _ h, fun q h1 h2 => by
    have hq : q ≠ p := fun z => by
      subst z
      exact h1 hp
    rw [upd_ne hq]
    exact g.sp q h1 h2⟩

section
variable {K : Fg} {F Kn0 : Hp} {sl sl' : List Sl} {ow ow' : List Ow} {σ : St} {Kn H Kn' H' : Hp}
theorem S.grow (s : S K F Kn0 sl ow σ Kn H) (g : Gr Kn H Kn' H') : S K F Kn0 sl ow σ Kn' H' :=
  ⟨s.e0.trans g.kk, g.kh, s.ef.trans g.hh, fun p h1 h2 => g.sp p (Ex.nn s.ef h1) (s.sep p h1 h2), s.sl.mono g.kk,
    ⟨fun o ho => by
      obtain ⟨h1, h2, h3⟩ := s.ow.each o ho
      have h4 := Ow.there h3
      exact ⟨h1, g.sp _ h4 h2, Ow.ok_mono g.kk (Ex.at_eq g.hh h4) h3⟩, s.ow.nd⟩⟩
theorem S.le (s : S K F Kn0 sl ow σ Kn H) (l : SlLe sl sl') : S K F Kn0 sl' ow σ Kn H := ⟨s.e0, s.ek, s.ef, s.sep, s.sl.le l, s.ow⟩
theorem S.set (s : S K F Kn0 sl ow σ Kn H) {x : Sl} {o : Option V} (i : Nat) (h : x.ok K Kn o) : S K F Kn0 (sl.set i x) ow (σ.set i o) Kn H :=
  ⟨s.e0, s.ek, s.ef, s.sep, SlsOk.set h i s.sl, s.ow⟩
theorem S.setv (s : S K F Kn0 sl ow σ Kn H) {α : Type} [Rp α] {x : α} {v : V} (i : Nat) (h : rep K Kn v x) : S K F Kn0 (sl.set i (sv x)) ow (σ.set i (some v)) Kn H :=
  s.set i ⟨v, rfl, h⟩
/-- some objects are not named any more -/
theorem S.sub (s : S K F Kn0 sl ow σ Kn H) (l : ow'.Sublist ow) : S K F Kn0 sl ow' σ Kn H :=
  ⟨s.e0, s.ek, s.ef, s.sep, s.sl, ⟨fun o ho => s.ow.each o (l.subset ho), s.ow.nd.sublist (l.map _)⟩⟩
theorem S.fin (s : S K F Kn0 sl ow σ Kn H) : S K F Kn0 [] ow [] Kn H := ⟨s.e0, s.ek, s.ef, s.sep, trivial, s.ow⟩
end

/-! ### the judgements -/
section
variable (K : Fg) (F Kn0 : Hp) (sl : List Sl) (ow : List Ow)
def EV {α : Type} [Rp α] (te : TE) (x : α) : Prop := ∀ σ Kn H, S K F Kn0 sl ow σ Kn H → ∀ Q : VK, (∀ v Kn' H', Gr Kn H Kn' H' → rep K Kn' v x → Q v H') → te σ H Q
/-- a new list -/
def EN {α : Type} [Rp α] (te : TE) (xs : List α) : Prop := ∀ σ Kn H, S K F Kn0 sl ow σ Kn H → ∀ Q : VK,
  (∀ p ws Kn' H', Gr Kn H Kn' H' → H p = none → Kn' p = none → H' p = some (.lst ws) → Paired (rep K Kn') ws xs → Q (.ref p) H') → te σ H Q
/-- what is changed on the way is told: ow, then ow' -/
def EM {α : Type} [Rp α] (te : TE) (ow' : List Ow) (x : α) : Prop := ∀ σ Kn H, S K F Kn0 sl ow σ Kn H → ∀ Q : VK,
  (∀ v Kn' H', Ex Kn Kn' → S K F Kn0 sl ow' σ Kn' H' → rep K Kn' v x → Q v H') → te σ H Q
def ENM {α : Type} [Rp α] (te : TE) (ow' : List Ow) (xs : List α) : Prop := ∀ σ Kn H, S K F Kn0 sl ow σ Kn H → ∀ Q : VK,
  (∀ p ws Kn' H', Ex Kn Kn' → S K F Kn0 sl ow' σ Kn' H' → F p = none → Kn' p = none → (∀ o ∈ ow', o.ad ≠ p) → H' p = some (.lst ws) → Paired (rep K Kn') ws xs → Q (.ref p) H') → te σ H Q
def ET (tt : TT) (b : Bool) : Prop := ∀ σ Kn H, S K F Kn0 sl ow σ Kn H → ∀ Q : Bool → Hp → Prop, (∀ Kn' H', Gr Kn H Kn' H' → Q b H') → tt σ H Q
def EA {τ : Type} [Tp τ] (ta : TA) (t : τ) : Prop := ∀ σ Kn H, S K F Kn0 sl ow σ Kn H → ∀ Q : List V → Hp → Prop, (∀ vs Kn' H', Gr Kn H Kn' H' → rept K Kn' vs t → Q vs H') → ta σ H Q
def EAM {τ : Type} [Tp τ] (ta : TA) (ow' : List Ow) (t : τ) : Prop := ∀ σ Kn H, S K F Kn0 sl ow σ Kn H → ∀ Q : List V → Hp → Prop,
  (∀ vs Kn' H', Ex Kn Kn' → S K F Kn0 sl ow' σ Kn' H' → rept K Kn' vs t → Q vs H') → ta σ H Q
def SB (D : Ends) (ts : TS) : Prop := ∀ σ Kn H, S K F Kn0 sl ow σ Kn H → ts D σ H
/-- what is wanted of a return -/
def RT (R : VK) {α : Type} [Rp α] (x : α) : Prop := ∀ v Kn H, S K F Kn0 [] ow [] Kn H → rep K Kn v x → R v H
def RN (R : VK) {α : Type} [Rp α] (xs : List α) : Prop := ∀ p ws Kn H, S K F Kn0 [] ow [] Kn H → F p = none → Kn p = none → H p = some (.lst ws) → Paired (rep K Kn) ws xs → R (.ref p) H
end

section
variable {K : Fg} {F Kn0 : Hp} {sl sl' : List Sl} {ow ow1 ow2 : List Ow} {α β γ : Type} [Rp α] [Rp β] [Rp γ] {ta tb te : TE} {x : α} {y : β} {z : γ}
theorem EN.ev {xs : List α} (h : EN K F Kn0 sl ow te xs) : EV K F Kn0 sl ow te xs := fun σ Kn H s Q q => h σ Kn H s Q fun p ws Kn' H' g hp kp hw r =>
  q _ (upd Kn' p (.lst ws)) H' (g.know hp kp hw) ⟨p, ws, rfl, upd_same, paired_mono (Ex.new kp) r⟩
theorem EV.em (h : EV K F Kn0 sl ow te x) : EM K F Kn0 sl ow te ow x := fun σ Kn H s Q q => h σ Kn H s Q fun v Kn' H' g r => q v Kn' H' g.kk (s.grow g) r
theorem owned_ne {σ : St} {Kn H : Hp} (s : S K F Kn0 sl ow σ Kn H) {p : Addr} (hp : H p = none) : ∀ o ∈ ow, o.ad ≠ p := fun o ho z => by
  have := Ow.there (s.ow.each o ho).2.2
  rw [z] at this
  exact this hp
theorem EN.em {xs : List α} (h : EN K F Kn0 sl ow te xs) : ENM K F Kn0 sl ow te ow xs := fun σ Kn H s Q q => h σ Kn H s Q fun p ws Kn' H' g hp kp hw r =>
  q p ws Kn' H' g.kk (s.grow g) (fresh_back s.ef hp) kp (owned_ne s hp) hw r
theorem S.know {σ : St} {Kn H : Hp} (s : S K F Kn0 sl ow σ Kn H) {p : Addr} {o : HO} (fp : F p = none) (kp : Kn p = none) (no : ∀ o ∈ ow, o.ad ≠ p) (hp : H p = some o) : S K F Kn0 sl ow σ (upd Kn p o) H :=
  ⟨s.e0.trans (Ex.new kp), fun a u h => by
    by_cases hq : a = p
    · subst hq
      rw [upd_same] at h
      rw [← h]
      exact hp
    · rw [upd_ne hq] at h
      exact s.ek _ _ h, s.ef, fun q h1 h2 => by
    have hq : q ≠ p := fun z => by
      subst z
      exact h1 fp
    rw [upd_ne hq]
    exact s.sep q h1 h2, s.sl.mono (Ex.new kp), ⟨fun o ho => by
      obtain ⟨h1, h2, h3⟩ := s.ow.each o ho
      exact ⟨h1, by rw [upd_ne (no o ho)]; exact h2, Ow.ok_mono (Ex.new kp) rfl h3⟩, s.ow.nd⟩⟩
theorem ENM.em {xs : List α} (h : ENM K F Kn0 sl ow te ow1 xs) : EM K F Kn0 sl ow te ow1 xs := fun σ Kn H s Q q => h σ Kn H s Q fun p ws Kn' H' e s' fp kp no hw r =>
  q _ (upd Kn' p (.lst ws)) H' (e.trans (Ex.new kp)) (s'.know fp kp no hw) ⟨p, ws, rfl, upd_same, paired_mono (Ex.new kp) r⟩
theorem EV.cast {x' : α} (h : EV K F Kn0 sl ow te x) (e : x = x') : EV K F Kn0 sl ow te x' := e ▸ h
theorem ET.cast {tt : TT} {b b' : Bool} (h : ET K F Kn0 sl ow tt b) (e : b = b') : ET K F Kn0 sl ow tt b' := e ▸ h
end
end Wk
/-! Wk2: rules for expressions -/
namespace Wk
open PySem PySem.Spec L2 Evl
section
variable {K : Fg} {F Kn0 : Hp} {sl sl' : List Sl} {ow ow1 ow2 : List Ow} {α β γ τ : Type} [Rp α] [Rp β] [Rp γ] [Tp τ] {ta tb te : TE} {x : α} {y : β} {z : γ}

theorem paired_fl {α : Type} [Rp α] [Fl α] {H : Hp} : ∀ {vs : List V} {xs : List α}, Paired (rep K H) vs xs → vs = xs.map Fl.toV
  | _, _, .nil => rfl
  | _, _, .cons h t => by rw [List.map_cons, ← paired_fl t, Fl.iff.mp h]
theorem fl_paired {α : Type} [Rp α] [Fl α] {H : Hp} : ∀ (xs : List α), Paired (rep K H) (xs.map Fl.toV) xs
  | [] => .nil
  | _ :: t => .cons (Fl.iff.mpr rfl) (fl_paired t)
theorem paired_len {H : Hp} {vs : List V} {xs : List α} (h : Paired (rep K H) vs xs) : vs.length = xs.length := Paired.length h
theorem paired_at {F : V → α → Prop} : ∀ {vs : List V} {xs : List α}, Paired F vs xs → ∀ {j : Nat} {a : α}, xs[j]? = some a → ∃ v, vs[j]? = some v ∧ F v a
  | _, _, .nil, _, _, e => by simp at e
  | _, _, .cons r _, 0, _, e => by
    simp at e
    subst e
    exact ⟨_, rfl, r⟩
  | _, _, .cons _ t, j + 1, a, e => by
    obtain ⟨v, h1, h2⟩ := paired_at t (j := j) (a := a) (by simpa using e)
    exact ⟨v, by simpa using h1, h2⟩
theorem paired_append {F : V → α → Prop} : ∀ {vs ws : List V} {xs ys : List α}, Paired F vs xs → Paired F ws ys → Paired F (vs ++ ws) (xs ++ ys)
  | _, _, _, _, .nil, h => h
  | _, _, _, _, .cons r t, h => .cons r (paired_append t h)
theorem paired_drop {F : V → α → Prop} : ∀ {vs : List V} {xs : List α} (n : Nat), Paired F vs xs → Paired F (vs.drop n) (xs.drop n)
  | _, _, 0, h => h
  | _, _, _ + 1, .nil => .nil
  | _, _, n + 1, .cons _ t => paired_drop n t
theorem paired_take {F : V → α → Prop} : ∀ {vs : List V} {xs : List α} (n : Nat), Paired F vs xs → Paired F (vs.take n) (xs.take n)
  | _, _, 0, _ => .nil
  | _, _, _ + 1, .nil => .nil
  | _, _, n + 1, .cons r t => .cons r (paired_take n t)
theorem paired_set {F : V → α → Prop} {v : V} {a : α} (h : F v a) : ∀ {vs : List V} {xs : List α} (n : Nat), Paired F vs xs → Paired F (vs.set n v) (xs.set n a)
  | _, _, _, .nil => .nil
  | _, _, 0, .cons _ t => .cons h t
  | _, _, n + 1, .cons r t => .cons r (paired_set h n t)
theorem paired_atI {H : Hp} {vs : List V} {xs : List α} (h : Paired (rep K H) vs xs) {i : Int} {a : α} (e : atI xs i = some a) : ∃ v, atI vs i = some v ∧ rep K H v a := by
  unfold atI at e ⊢
  rw [paired_len h]
  cases q : ixN xs.length i with
  | none => rw [q] at e; cases e
  | some j =>
    rw [q] at e
    exact paired_at h e

/-! ### results of rules by values -/
def RS (K : Fg) (Kn H : Hp) (Q : VK) (z : γ) : Prop := ∀ u Kn' H', Gr Kn H Kn' H' → rep K Kn' u z → Q u H'
def RL (K : Fg) (Kn H : Hp) (Q : VK) (zs : List γ) : Prop := ∀ p ws Kn' H', Gr Kn H Kn' H' → H p = none → Kn' p = none → H' p = some (.lst ws) → Paired (rep K Kn') ws zs → Q (.ref p) H'
theorem RS.rl {Kn H : Hp} {Q : VK} {zs : List γ} (h : RS K Kn H Q zs) : RL K Kn H Q zs := fun p ws Kn' H' g hp kp hw r =>
  h _ (upd Kn' p (.lst ws)) H' (g.know hp kp hw) ⟨p, ws, rfl, upd_same, paired_mono (Ex.new kp) r⟩
theorem RS.fl {γ : Type} [Rp γ] [Fl γ] {z : γ} {Kn H : Hp} {Q : VK} (h : RS K Kn H Q z) (e : Ex Kn H) : Q (Fl.toV z) H := h _ Kn H (Gr.refl e) (Fl.iff.mpr rfl)
theorem RS.at {Kn H : Hp} {Q : VK} {z : γ} (h : RS K Kn H Q z) (e : Ex Kn H) {v : V} (r : rep K Kn v z) : Q v H := h _ Kn H (Gr.refl e) r

def R1V (r : V → Hp → VK → Prop) (x : α) (z : γ) : Prop := ∀ (K : Fg) Kn H v, Ex Kn H → rep K Kn v x → ∀ Q, RS K Kn H Q z → r v H Q
def R2V (K : Fg) (r : R2) (x : α) (y : β) (z : γ) : Prop := ∀ Kn H v w, Ex Kn H → rep K Kn v x → rep K Kn w y → ∀ Q, RS K Kn H Q z → r v w H Q
def R2L (K : Fg) (r : R2) (x : α) (y : β) (zs : List γ) : Prop := ∀ Kn H v w, Ex Kn H → rep K Kn v x → rep K Kn w y → ∀ Q, RL K Kn H Q zs → r v w H Q
def RCV (K : Fg) (r : List V → Hp → VK → Prop) (t : τ) (z : γ) : Prop := ∀ Kn H vs, Ex Kn H → rept K Kn vs t → ∀ Q, RS K Kn H Q z → r vs H Q
def RCL (K : Fg) (r : List V → Hp → VK → Prop) (t : τ) (zs : List γ) : Prop := ∀ Kn H vs, Ex Kn H → rept K Kn vs t → ∀ Q, RL K Kn H Q zs → r vs H Q

/-! ### names, constants, operators -/
theorem ev_var {i : Nat} (h : sl[i]? = some (sv x)) : EV K F Kn0 sl ow (tVar i) x := fun σ Kn H s Q q => by
  obtain ⟨o, h1, v, h2, h3⟩ := s.sl.get h
  exact ⟨v, by rw [h1, h2], q v Kn H (Gr.refl s.ek) h3⟩
theorem ev_c {γ : Type} [Rp γ] [Fl γ] (z : γ) {v : V} (e : v = Fl.toV z := by rfl) : EV K F Kn0 sl ow (tC v) z := fun σ Kn H s Q q => q v Kn H (Gr.refl s.ek) (Fl.iff.mpr e)
theorem ev_none : EV K F Kn0 sl ow (tC .non) (none : Option α) := fun σ Kn H s Q q => q .non Kn H (Gr.refl s.ek) rfl
theorem ev_un {r : V → Hp → VK → Prop} (ha : EV K F Kn0 sl ow ta x) (hr : R1V r x z) : EV K F Kn0 sl ow (tUn r ta) z := fun σ Kn H s Q q =>
  ha σ Kn H s _ fun v Kn1 H1 g1 r1 => hr K Kn1 H1 v g1.kh r1 Q fun u Kn' H' g' r' => q u Kn' H' (g1.trans g') r'
theorem ev_op {r : R2} (ha : EV K F Kn0 sl ow ta x) (hb : EV K F Kn0 sl ow tb y) (hr : R2V K r x y z) : EV K F Kn0 sl ow (tOp r ta tb) z := fun σ Kn H s Q q =>
  ha σ Kn H s _ fun v Kn1 H1 g1 r1 => hb σ Kn1 H1 (s.grow g1) _ fun w Kn2 H2 g2 r2 => hr Kn2 H2 v w g2.kh (Rp.mono g2.kk r1) r2 Q fun u Kn' H' g' r' => q u Kn' H' ((g1.trans g2).trans g') r'
theorem en_op {r : R2} {zs : List γ} (ha : EV K F Kn0 sl ow ta x) (hb : EV K F Kn0 sl ow tb y) (hr : R2L K r x y zs) : EN K F Kn0 sl ow (tOp r ta tb) zs := fun σ Kn H s Q q =>
  ha σ Kn H s _ fun v Kn1 H1 g1 r1 => hb σ Kn1 H1 (s.grow g1) _ fun w Kn2 H2 g2 r2 => hr Kn2 H2 v w g2.kh (Rp.mono g2.kk r1) r2 Q fun p ws Kn' H' g' hp kp hw r' =>
    q p ws Kn' H' ((g1.trans g2).trans g') (fresh_back (g1.trans g2).hh hp) kp hw r'
theorem em_op {r : R2} (ha : EM K F Kn0 sl ow ta ow1 x) (hb : EM K F Kn0 sl ow1 tb ow2 y) (hr : R2V K r x y z) : EM K F Kn0 sl ow (tOp r ta tb) ow2 z := fun σ Kn H s Q q =>
  ha σ Kn H s _ fun v Kn1 H1 e1 s1 r1 => hb σ Kn1 H1 s1 _ fun w Kn2 H2 e2 s2 r2 => hr Kn2 H2 v w s2.ek (Rp.mono e2 r1) r2 Q fun u Kn' H' g' r' => q u Kn' H' ((e1.trans e2).trans g'.kk) (s2.grow g') r'
theorem r2_I0 {γ : Type} [Rp γ] [Fl γ] {z : γ} {g : Int → Int → V} {i j : Int} (e : g i j = Fl.toV z := by rfl) : R2V K (rI0 g) i j z := fun Kn H v w ek h1 h2 Q q => ⟨i, j, h1, h2, e ▸ q.fl ek⟩
theorem r2_I {γ : Type} [Rp γ] [Fl γ] {z : γ} {C : Int → Int → Prop} {g : Int → Int → V} {i j : Int} (c : C i j) (e : g i j = Fl.toV z := by rfl) : R2V K (rI C g) i j z := fun Kn H v w ek h1 h2 Q q => ⟨i, j, h1, h2, c, e ▸ q.fl ek⟩
theorem r1_neg {i : Int} : R1V (rU fun i => .int (-i)) i (-i) := fun K Kn H v ek h1 Q q => ⟨i, h1, q.fl ek⟩
theorem r2_eqI {i j : Int} : R2V K rEq i j (decide (i = j)) := fun Kn H v w ek h1 h2 Q q => by
  cases h1
  cases h2
  refine ⟨rfl, ?_⟩
  have e : decide (V.int i = V.int j) = decide (i = j) := by simp
  rw [e]
  exact q.fl ek
theorem r2_neI {i j : Int} : R2V K rNe i j (!decide (i = j)) := fun Kn H v w ek h1 h2 Q q => by
  cases h1
  cases h2
  refine ⟨rfl, ?_⟩
  have e : decide (V.int i = V.int j) = decide (i = j) := by simp
  rw [e]
  exact q.fl ek
theorem r2_eqS {i j : Str} : R2V K rEq i j (decide (i = j)) := fun Kn H v w ek h1 h2 Q q => by
  cases h1
  cases h2
  refine ⟨rfl, ?_⟩
  have e : decide (V.str i = V.str j) = decide (i = j) := by simp
  rw [e]
  exact q.fl ek
theorem r2_neS {i j : Str} : R2V K rNe i j (!decide (i = j)) := fun Kn H v w ek h1 h2 Q q => by
  cases h1
  cases h2
  refine ⟨rfl, ?_⟩
  have e : decide (V.str i = V.str j) = decide (i = j) := by simp
  rw [e]
  exact q.fl ek
theorem r2_eqB {i j : Bool} : R2V K rEq i j (decide (i = j)) := fun Kn H v w ek h1 h2 Q q => by
  cases h1
  cases h2
  refine ⟨rfl, ?_⟩
  have e : decide (V.bl i = V.bl j) = decide (i = j) := by simp
  rw [e]
  exact q.fl ek

/-! ### arguments, tuples, lists -/
theorem ea_nil : EA K F Kn0 sl ow tNil () := fun σ Kn H s Q q => q [] Kn H (Gr.refl s.ek) rfl
theorem ea_cons {tr : TA} {t : τ} (h : EV K F Kn0 sl ow ta x) (hr : EA K F Kn0 sl ow tr t) : EA K F Kn0 sl ow (tCons ta tr) (x, t) := fun σ Kn H s Q q =>
  h σ Kn H s _ fun v Kn1 H1 g1 r1 => hr σ Kn1 H1 (s.grow g1) _ fun vs Kn2 H2 g2 r2 => q _ Kn2 H2 (g1.trans g2) ⟨v, vs, rfl, Rp.mono g2.kk r1, r2⟩
theorem eam_nil : EAM K F Kn0 sl ow tNil ow () := fun σ Kn H s Q q => q [] Kn H (Ex.refl _) s rfl
theorem eam_cons {tr : TA} {t : τ} (h : EM K F Kn0 sl ow ta ow1 x) (hr : EAM K F Kn0 sl ow1 tr ow2 t) : EAM K F Kn0 sl ow (tCons ta tr) ow2 (x, t) := fun σ Kn H s Q q =>
  h σ Kn H s _ fun v Kn1 H1 e1 s1 r1 => hr σ Kn1 H1 s1 _ fun vs Kn2 H2 e2 s2 r2 => q _ Kn2 H2 (e1.trans e2) s2 ⟨v, vs, rfl, Rp.mono e2 r1, r2⟩
theorem EA.eam {ta : TA} {t : τ} (h : EA K F Kn0 sl ow ta t) : EAM K F Kn0 sl ow ta ow t := fun σ Kn H s Q q => h σ Kn H s Q fun vs Kn' H' g r => q vs Kn' H' g.kk (s.grow g) r
/-- alike things -/
def EL {α : Type} [Rp α] (K : Fg) (F Kn0 : Hp) (sl : List Sl) (ow : List Ow) (ta : TA) (xs : List α) : Prop := ∀ σ Kn H, S K F Kn0 sl ow σ Kn H → ∀ Q : List V → Hp → Prop, (∀ vs Kn' H', Gr Kn H Kn' H' → Paired (rep K Kn') vs xs → Q vs H') → ta σ H Q
def ELM {α : Type} [Rp α] (K : Fg) (F Kn0 : Hp) (sl : List Sl) (ow : List Ow) (ta : TA) (ow' : List Ow) (xs : List α) : Prop := ∀ σ Kn H, S K F Kn0 sl ow σ Kn H → ∀ Q : List V → Hp → Prop, (∀ vs Kn' H', Ex Kn Kn' → S K F Kn0 sl ow' σ Kn' H' → Paired (rep K Kn') vs xs → Q vs H') → ta σ H Q
theorem el_nil : EL K F Kn0 sl ow tNil ([] : List α) := fun σ Kn H s Q q => q [] Kn H (Gr.refl s.ek) .nil
theorem el_cons {tr : TA} {xs : List α} (h : EV K F Kn0 sl ow ta x) (hr : EL K F Kn0 sl ow tr xs) : EL K F Kn0 sl ow (tCons ta tr) (x :: xs) := fun σ Kn H s Q q =>
  h σ Kn H s _ fun v Kn1 H1 g1 r1 => hr σ Kn1 H1 (s.grow g1) _ fun vs Kn2 H2 g2 r2 => q _ Kn2 H2 (g1.trans g2) (.cons (Rp.mono g2.kk r1) r2)
theorem elm_nil : ELM K F Kn0 sl ow tNil ow ([] : List α) := fun σ Kn H s Q q => q [] Kn H (Ex.refl _) s .nil
theorem elm_cons {tr : TA} {xs : List α} (h : EM K F Kn0 sl ow ta ow1 x) (hr : ELM K F Kn0 sl ow1 tr ow2 xs) : ELM K F Kn0 sl ow (tCons ta tr) ow2 (x :: xs) := fun σ Kn H s Q q =>
  h σ Kn H s _ fun v Kn1 H1 e1 s1 r1 => hr σ Kn1 H1 s1 _ fun vs Kn2 H2 e2 s2 r2 => q _ Kn2 H2 (e1.trans e2) s2 (.cons (Rp.mono e2 r1) r2)
theorem le_line {n : Nat} (h : n ≤ 1000000) : n ≤ sizeLine := Nat.le_trans h (by decide)
theorem lt_line {n : Nat} (h : n < 1000000) : n < sizeLine := Nat.lt_of_lt_of_le h (by decide)
theorem en_lst {ta : TA} {xs : List α} (h : EL K F Kn0 sl ow ta xs) (hz : xs.length ≤ 1000000 := by exact Nat.le_of_ble_eq_true rfl) : EN K F Kn0 sl ow (tLst ta) xs := fun σ Kn H s Q q =>
  h σ Kn H s _ fun vs Kn1 H1 g1 r1 => ⟨by rw [paired_len r1]; exact le_line hz, fun p hp => q p vs Kn1 _ (g1.trans (Gr.newU g1.kh hp)) (fresh_back g1.hh hp) (fresh_back g1.kh hp) upd_same r1⟩
theorem enm_lst {ta : TA} {xs : List α} (h : ELM K F Kn0 sl ow ta ow1 xs) (hz : xs.length ≤ 1000000 := by exact Nat.le_of_ble_eq_true rfl) : ENM K F Kn0 sl ow (tLst ta) ow1 xs := fun σ Kn H s Q q =>
  h σ Kn H s _ fun vs Kn1 H1 e1 s1 r1 => ⟨by rw [paired_len r1]; exact le_line hz, fun p hp =>
    q p vs Kn1 _ e1 (s1.grow (Gr.newU s1.ek hp)) (fresh_back s1.ef hp) (fresh_back s1.ek hp) (owned_ne s1 hp) upd_same r1⟩
theorem ev_tup {ta : TA} {t : α × τ} (h : EA K F Kn0 sl ow ta t) (hz : Tp.n (α × τ) ≤ 1000000 := by decide) : EV K F Kn0 sl ow (tTup ta) t := fun σ Kn H s Q q =>
  h σ Kn H s _ fun vs Kn1 H1 g1 r1 => ⟨by rw [Tp.len r1]; exact le_line hz, fun p hp =>
    q _ (upd Kn1 p (.tup vs)) _ (g1.trans (Gr.new g1.kh hp)) ⟨p, vs, rfl, upd_same, Tp.mono (Gr.new g1.kh hp).kk r1⟩⟩
theorem em_tup {ta : TA} {t : α × τ} (h : EAM K F Kn0 sl ow ta ow1 t) (hz : Tp.n (α × τ) ≤ 1000000 := by decide) : EM K F Kn0 sl ow (tTup ta) ow1 t := fun σ Kn H s Q q =>
  h σ Kn H s _ fun vs Kn1 H1 e1 s1 r1 => ⟨by rw [Tp.len r1]; exact le_line hz, fun p hp =>
    q _ (upd Kn1 p (.tup vs)) _ (e1.trans (Gr.new s1.ek hp).kk) (s1.grow (Gr.new s1.ek hp)) ⟨p, vs, rfl, upd_same, Tp.mono (Gr.new s1.ek hp).kk r1⟩⟩
theorem ev_tuH {ta : TA} {xs : List α} (h : EL K F Kn0 sl ow ta xs) (hz : xs.length ≤ 1000000 := by exact Nat.le_of_ble_eq_true rfl) : EV K F Kn0 sl ow (tTup ta) (Tu.mk xs) := fun σ Kn H s Q q =>
  h σ Kn H s _ fun vs Kn1 H1 g1 r1 => ⟨by rw [paired_len r1]; exact le_line hz, fun p hp =>
    q _ (upd Kn1 p (.tup vs)) _ (g1.trans (Gr.new g1.kh hp)) ⟨p, vs, rfl, upd_same, paired_mono (Gr.new g1.kh hp).kk r1⟩⟩

/-! ### built-ins, defs -/
theorem ev_cb {r : List V → Hp → VK → Prop} {ta : TA} {t : τ} (h : EA K F Kn0 sl ow ta t) (hr : RCV K r t z) : EV K F Kn0 sl ow (tCB r ta) z := fun σ Kn H s Q q =>
  h σ Kn H s _ fun vs Kn1 H1 g1 r1 => hr Kn1 H1 vs g1.kh r1 Q fun u Kn' H' g' r' => q u Kn' H' (g1.trans g') r'
theorem en_cb {r : List V → Hp → VK → Prop} {ta : TA} {t : τ} {zs : List γ} (h : EA K F Kn0 sl ow ta t) (hr : RCL K r t zs) : EN K F Kn0 sl ow (tCB r ta) zs := fun σ Kn H s Q q =>
  h σ Kn H s _ fun vs Kn1 H1 g1 r1 => hr Kn1 H1 vs g1.kh r1 Q fun p ws Kn' H' g' hp kp hw r' => q p ws Kn' H' (g1.trans g') (fresh_back g1.hh hp) kp hw r'
theorem em_cb {r : List V → Hp → VK → Prop} {ta : TA} {t : τ} (h : EAM K F Kn0 sl ow ta ow1 t) (hr : RCV K r t z) : EM K F Kn0 sl ow (tCB r ta) ow1 z := fun σ Kn H s Q q =>
  h σ Kn H s _ fun vs Kn1 H1 e1 s1 r1 => hr Kn1 H1 vs s1.ek r1 Q fun u Kn' H' g' r' => q u Kn' H' (e1.trans g'.kk) (s1.grow g') r'
theorem one_arg {Kn : Hp} {vs : List V} {x : α} (h : rept K Kn vs (x, ())) : ∃ v, vs = [v] ∧ rep K Kn v x := by
  obtain ⟨v, r, rfl, h1, h2⟩ := h
  cases h2
  exact ⟨v, rfl, h1⟩
theorem two_args {Kn : Hp} {vs : List V} {x : α} {y : β} (h : rept K Kn vs (x, y, ())) : ∃ v w, vs = [v, w] ∧ rep K Kn v x ∧ rep K Kn w y := by
  obtain ⟨v, r, rfl, h1, h2⟩ := h
  obtain ⟨w, rfl, h3⟩ := one_arg h2
  exact ⟨v, w, rfl, h1, h3⟩
theorem rc_max {i j : Int} : RCV K (fun xs H Q => ∃ i j, xs = [.int i, .int j] ∧ Q (.int (if j > i then j else i)) H) (i, j, ()) (max i j) := fun Kn H vs ek h Q q => by
  obtain ⟨v, w, rfl, h1, h2⟩ := two_args h
  cases h1
  cases h2
  refine ⟨i, j, rfl, ?_⟩
  have e : (if j > i then j else i) = max i j := by split <;> omega
  rw [e]
  exact q.fl ek
theorem rc_min {i j : Int} : RCV K (fun xs H Q => ∃ i j, xs = [.int i, .int j] ∧ Q (.int (if j < i then j else i)) H) (i, j, ()) (min i j) := fun Kn H vs ek h Q q => by
  obtain ⟨v, w, rfl, h1, h2⟩ := two_args h
  cases h1
  cases h2
  refine ⟨i, j, rfl, ?_⟩
  have e : (if j < i then j else i) = min i j := by split <;> omega
  rw [e]
  exact q.fl ek
theorem rc_abs {i : Int} : RCV K (fun xs H Q => ∃ i, xs = [.int i] ∧ Q (.int (if i < 0 then -i else i)) H) (i, ()) ((i.natAbs : Int)) := fun Kn H vs ek h Q q => by
  obtain ⟨v, rfl, h1⟩ := one_arg h
  cases h1
  refine ⟨i, rfl, ?_⟩
  have e : (if i < 0 then -i else i) = (i.natAbs : Int) := by split <;> omega
  rw [e]
  exact q.fl ek
theorem rc_len {xs : List α} : RCV K (fun xs H Q => ∃ p ys, xs = [.ref p] ∧ (SqL K H p ys ∨ SqT K H p ys) ∧ Q (.int ys.length) H) (xs, ()) (xs.length : Int) := fun Kn H vs ek h Q q => by
  obtain ⟨v, rfl, p, ws, rfl, h1, h2⟩ := one_arg h
  refine ⟨p, ws, rfl, .inl (sq_of (ek _ _ h1)), ?_⟩
  rw [paired_len h2]
  exact q.fl ek
theorem rc_lenF {xs : Fz α} : RCV K (fun xs H Q => ∃ p ys, xs = [.ref p] ∧ (SqL K H p ys ∨ SqT K H p ys) ∧ Q (.int ys.length) H) (xs, ()) (xs.l.length : Int) := fun Kn H vs ek h Q q => by
  obtain ⟨v, rfl, p, ws, rfl, h1, h2⟩ := one_arg h
  refine ⟨p, ws, rfl, .inl (ex_l ek h1), ?_⟩
  rw [paired_len h2]
  exact q.fl ek
theorem rc_lenT {xs : Tu α} : RCV K (fun xs H Q => ∃ p ys, xs = [.ref p] ∧ (SqL K H p ys ∨ SqT K H p ys) ∧ Q (.int ys.length) H) (xs, ()) (xs.l.length : Int) := fun Kn H vs ek h Q q => by
  obtain ⟨v, rfl, p, ws, rfl, h1, h2⟩ := one_arg h
  refine ⟨p, ws, rfl, .inr (st_of (ek _ _ h1)), ?_⟩
  rw [paired_len h2]
  exact q.fl ek
theorem rc_lenP {t : α × τ} : RCV K (fun xs H Q => ∃ p ys, xs = [.ref p] ∧ (SqL K H p ys ∨ SqT K H p ys) ∧ Q (.int ys.length) H) (t, ()) ((Tp.n (α × τ) : Nat) : Int) := fun Kn H vs ek h Q q => by
  obtain ⟨v, rfl, p, ws, rfl, h1, h2⟩ := one_arg h
  refine ⟨p, ws, rfl, .inr (st_of (ek _ _ h1)), ?_⟩
  rw [Tp.len h2]
  exact q.fl ek
theorem rc_sum {xs : List Int} : RCV K (rSum K) (xs, ()) xs.sum := fun Kn H vs ek h Q q => by
  obtain ⟨v, rfl, p, ws, rfl, h1, h2⟩ := one_arg h
  have e := paired_fl h2
  subst e
  exact ⟨p, xs, rfl, sq_of (ek _ _ h1), q.fl ek⟩
theorem rc_all {xs : List Bool} : RCV K (rAll K) (xs, ()) (xs.all id) := fun Kn H vs ek h Q q => by
  obtain ⟨v, rfl, p, ws, rfl, h1, h2⟩ := one_arg h
  have e := paired_fl h2
  subst e
  exact ⟨p, xs, rfl, sq_of (ek _ _ h1), q.fl ek⟩
theorem rc_any {xs : List Bool} : RCV K (rAny K) (xs, ()) (xs.any id) := fun Kn H vs ek h Q q => by
  obtain ⟨v, rfl, p, ws, rfl, h1, h2⟩ := one_arg h
  have e := paired_fl h2
  subst e
  exact ⟨p, xs, rfl, sq_of (ek _ _ h1), q.fl ek⟩
theorem rc_list {xs : List α} : RCL K (fun xs H Q => ∃ p ys, xs = [.ref p] ∧ (SqL K H p ys ∨ SqT K H p ys) ∧ ∀ l, H l = none → Q (.ref l) (upd H l (.lst ys))) (xs, ()) xs := fun Kn H vs ek h Q q => by
  obtain ⟨v, rfl, p, ws, rfl, h1, h2⟩ := one_arg h
  exact ⟨p, ws, rfl, .inl (sq_of (ek _ _ h1)), fun l hl => q l ws Kn _ (Gr.newU ek hl) hl (fresh_back ek hl) upd_same h2⟩
theorem rc_listF {xs : Fz α} : RCL K (fun xs H Q => ∃ p ys, xs = [.ref p] ∧ (SqL K H p ys ∨ SqT K H p ys) ∧ ∀ l, H l = none → Q (.ref l) (upd H l (.lst ys))) (xs, ()) xs.l := fun Kn H vs ek h Q q => by
  obtain ⟨v, rfl, p, ws, rfl, h1, h2⟩ := one_arg h
  exact ⟨p, ws, rfl, .inl (ex_l ek h1), fun l hl => q l ws Kn _ (Gr.newU ek hl) hl (fresh_back ek hl) upd_same h2⟩
theorem rc_listT {xs : Tu α} : RCL K (fun xs H Q => ∃ p ys, xs = [.ref p] ∧ (SqL K H p ys ∨ SqT K H p ys) ∧ ∀ l, H l = none → Q (.ref l) (upd H l (.lst ys))) (xs, ()) xs.l := fun Kn H vs ek h Q q => by
  obtain ⟨v, rfl, p, ws, rfl, h1, h2⟩ := one_arg h
  exact ⟨p, ws, rfl, .inr (st_of (ek _ _ h1)), fun l hl => q l ws Kn _ (Gr.newU ek hl) hl (fresh_back ek hl) upd_same h2⟩
theorem rc_tuple {xs : List α} : RCV K (fun xs H Q => ∃ p ys, xs = [.ref p] ∧ ((SqL K H p ys ∧ ∀ l, H l = none → Q (.ref l) (upd H l (.tup ys))) ∨ (SqT K H p ys ∧ Q (.ref p) H))) (xs, ()) (Tu.mk xs) := fun Kn H vs ek h Q q => by
  obtain ⟨v, rfl, p, ws, rfl, h1, h2⟩ := one_arg h
  exact ⟨p, ws, rfl, .inl ⟨sq_of (ek _ _ h1), fun l hl => q _ (upd Kn l (.tup ws)) _ (Gr.new ek hl) ⟨l, ws, rfl, upd_same, paired_mono (Gr.new ek hl).kk h2⟩⟩⟩
end

/-! ### items, slices -/
section
variable {K : Fg} {F Kn0 : Hp} {sl sl' : List Sl} {ow ow1 ow2 : List Ow} {α β γ τ : Type} [Rp α] [Rp β] [Rp γ] [Tp τ] {ta tb te : TE}
theorem r2_ixL {xs : List α} {i : Int} {z : α} (h : atI xs i = some z) : R2V K (rIxL K) xs i z := fun Kn H v w ek h1 h2 Q q => by
  obtain ⟨p, ws, rfl, h3, h4⟩ := h1
  cases h2
  obtain ⟨u, e, r⟩ := paired_atI h4 h
  exact ⟨p, ws, i, u, rfl, rfl, sq_of (ek _ _ h3), e, q.at ek r⟩
theorem r2_ixF {xs : Fz α} {i : Int} {z : α} (h : atI xs.l i = some z) : R2V K (rIxL K) xs i z := fun Kn H v w ek h1 h2 Q q => by
  obtain ⟨p, ws, rfl, h3, h4⟩ := h1
  cases h2
  obtain ⟨u, e, r⟩ := paired_atI h4 h
  exact ⟨p, ws, i, u, rfl, rfl, ex_l ek h3, e, q.at ek r⟩
theorem r2_ixU {xs : Tu α} {i : Int} {z : α} (h : atI xs.l i = some z) : R2V K (rIxT K) xs i z := fun Kn H v w ek h1 h2 Q q => by
  obtain ⟨p, ws, rfl, h3, h4⟩ := h1
  cases h2
  obtain ⟨u, e, r⟩ := paired_atI h4 h
  exact ⟨p, ws, i, u, rfl, rfl, st_of (ek _ _ h3), e, q.at ek r⟩
theorem r2_ixK {xs : Kt α} {i : Int} {z : α} (h : atI xs.l i = some z) : R2V K (rIxT K) xs i z := fun Kn H v w ek h1 h2 Q q => by
  obtain ⟨p, ws, rfl, h3, h4⟩ := h1
  cases h2
  obtain ⟨u, e, r⟩ := paired_atI h4 h
  exact ⟨p, ws, i, u, rfl, rfl, ex_t ek h3, e, q.at ek r⟩
/-- the n-th place of a tuple -/
inductive At : {τ : Type} → [Tp τ] → Nat → {α : Type} → [Rp α] → τ → α → Prop
  | z {α τ : Type} [Rp α] [Tp τ] (x : α) (t : τ) : At 0 (x, t) x
  | s {α β τ : Type} [Rp α] [Rp β] [Tp τ] {n : Nat} (x : α) {t : τ} {y : β} : At n t y → At (n + 1) (x, t) y
theorem At.get {K : Fg} {H : Hp} {τ : Type} [i : Tp τ] {n : Nat} {α : Type} [j : Rp α] {t : τ} {a : α} (h : At n t a) : ∀ {vs : List V}, rept K H vs t → ∃ v, vs[n]? = some v ∧ rep K H v a := by
  induction h with
  | z x t =>
    intro vs r
    obtain ⟨v, r, rfl, h1, h2⟩ := r
    exact ⟨v, rfl, h1⟩
  | s x _ ih =>
    intro vs r
    obtain ⟨v, r, rfl, h1, h2⟩ := r
    obtain ⟨w, e, h3⟩ := ih h2
    exact ⟨w, e, h3⟩
theorem r2_tix {t : α × τ} {n : Nat} {z : γ} (h : At n t z) : R2V K (rIxT K) t (n : Int) z := fun Kn H v w ek h1 h2 Q q => by
  obtain ⟨p, ws, rfl, h3, h4⟩ := h1
  cases h2
  obtain ⟨u, e, r⟩ := h.get h4
  exact ⟨p, ws, n, u, rfl, rfl, st_of (ek _ _ h3), atI_nat e, q.at ek r⟩
/-- one sign of a text -/
def ixS (z : Str) (i : Int) : Option Str := if z.length ≤ 100000 then (atI z.cps.toList i).map (fun c => ⟨#[c]⟩) else none
theorem r2_ixS {x : Str} {i : Int} {z : Str} (h : ixS x i = some z) : R2V K rIxS x i z := fun Kn H v w ek h1 h2 Q q => by
  cases h1
  cases h2
  unfold ixS at h
  split at h
  · rename_i hl
    cases e : atI x.cps.toList i with
    | none => rw [e] at h; cases h
    | some c =>
      rw [e] at h
      cases h
      exact ⟨x, i, c, rfl, rfl, le_line (by omega), e, q.fl ek⟩
  · cases h
def cut {α : Type} (xs : List α) (lo hi : Option Int) : List α := (xs.drop (HT.sIx xs.length 0 lo)).take (HT.sIx xs.length xs.length hi - HT.sIx xs.length 0 lo)
theorem paired_cut {F : V → α → Prop} {vs : List V} {xs : List α} (h : Paired F vs xs) (lo hi : Option Int) : Paired F (cutV vs lo hi) (cut xs lo hi) := by
  unfold cutV cut
  rw [Paired.length h]
  exact paired_take _ (paired_drop _ h)
def EO (K : Fg) (F Kn0 : Hp) (sl : List Sl) (ow : List Ow) (to : TO) (o : Option Int) : Prop := ∀ σ Kn H, S K F Kn0 sl ow σ Kn H → ∀ Q : Option Int → Hp → Prop, (∀ Kn' H', Gr Kn H Kn' H' → Q o H') → to σ H Q
theorem eo_none : EO K F Kn0 sl ow tNoPart none := fun σ Kn H s Q q => q Kn H (Gr.refl s.ek)
theorem eo_some {i : Int} (h : EV K F Kn0 sl ow te i) : EO K F Kn0 sl ow (tPart te) (some i) := fun σ Kn H s Q q => h σ Kn H s _ fun v Kn1 H1 g1 r1 => ⟨i, r1, q Kn1 H1 g1⟩
theorem en_sl {xs : List α} {tl th : TO} {lo hi : Option Int} (h : EV K F Kn0 sl ow te xs) (hl : EO K F Kn0 sl ow tl lo) (hh : EO K F Kn0 sl ow th hi) : EN K F Kn0 sl ow (tSl (rSlL K) te tl th) (cut xs lo hi) := fun σ Kn H s Q q =>
  h σ Kn H s _ fun v Kn1 H1 g1 r1 => hl σ Kn1 H1 (s.grow g1) _ fun Kn2 H2 g2 => hh σ Kn2 H2 ((s.grow g1).grow g2) _ fun Kn3 H3 g3 => by
    obtain ⟨p, ws, rfl, h3, h4⟩ := r1
    have g : Gr Kn H Kn3 H3 := (g1.trans g2).trans g3
    have e13 : Ex Kn1 Kn3 := g2.kk.trans g3.kk
    exact ⟨p, ws, rfl, sq_of (g3.kh _ _ (e13 _ _ h3)), fun l hl => q l _ Kn3 _ (g.trans (Gr.newU g3.kh hl)) (fresh_back g.hh hl) (fresh_back g3.kh hl) upd_same (paired_cut (paired_mono e13 h4) lo hi)⟩
theorem en_slF {xs : Fz α} {tl th : TO} {lo hi : Option Int} (h : EV K F Kn0 sl ow te xs) (hl : EO K F Kn0 sl ow tl lo) (hh : EO K F Kn0 sl ow th hi) : EN K F Kn0 sl ow (tSl (rSlL K) te tl th) (cut xs.l lo hi) := fun σ Kn H s Q q =>
  h σ Kn H s _ fun v Kn1 H1 g1 r1 => hl σ Kn1 H1 (s.grow g1) _ fun Kn2 H2 g2 => hh σ Kn2 H2 ((s.grow g1).grow g2) _ fun Kn3 H3 g3 => by
    obtain ⟨p, ws, rfl, h3, h4⟩ := r1
    have g : Gr Kn H Kn3 H3 := (g1.trans g2).trans g3
    have e13 : Ex Kn1 Kn3 := g2.kk.trans g3.kk
    exact ⟨p, ws, rfl, ex_l (e13.trans g3.kh) h3, fun l hl => q l _ Kn3 _ (g.trans (Gr.newU g3.kh hl)) (fresh_back g.hh hl) (fresh_back g3.kh hl) upd_same (paired_cut (paired_mono e13 h4) lo hi)⟩
theorem r2_cat {xs ys : List α} (hz : xs.length + ys.length ≤ 1000000) : R2L K rCat xs ys (xs ++ ys) := fun Kn H v w ek h1 h2 Q q => by
  obtain ⟨p, ws, rfl, h3, h4⟩ := h1
  obtain ⟨p2, ws2, rfl, h5, h6⟩ := h2
  exact ⟨p, p2, ws, ws2, rfl, rfl, ek _ _ h3, ek _ _ h5, by rw [paired_len h4, paired_len h6]; exact le_line hz, fun l hl =>
    q l _ Kn _ (Gr.newU ek hl) hl (fresh_back ek hl) upd_same (paired_append h4 h6)⟩

/-! ### tests -/
variable {t u : TT} {a b c : Bool}
theorem et_test (h : EV K F Kn0 sl ow te b) : ET K F Kn0 sl ow (tTest te) b := fun σ Kn H s Q q => h σ Kn H s _ fun v Kn' H' g r => ⟨b, r, q Kn' H' g⟩
theorem et_B (h : EV K F Kn0 sl ow te b) : ET K F Kn0 sl ow (tB te) b := fun σ Kn H s Q q => h σ Kn H s _ fun v Kn' H' g r => ⟨b, r, q Kn' H' g⟩
theorem et_not (h : ET K F Kn0 sl ow t b) : ET K F Kn0 sl ow (tNot t) (!b) := fun σ Kn H s Q q => h σ Kn H s _ fun Kn' H' g => q Kn' H' g
theorem et_and (h1 : ET K F Kn0 sl ow t a) (h2 : a = true → ET K F Kn0 sl ow u b) : ET K F Kn0 sl ow (tAnd t u) (a && b) := fun σ Kn H s Q q => h1 σ Kn H s _ fun Kn1 H1 g1 => by
  cases a with
  | true => exact iteT (h2 rfl σ Kn1 H1 (s.grow g1) Q fun Kn2 H2 g2 => q Kn2 H2 (g1.trans g2))
  | false => exact iteF (q Kn1 H1 g1)
theorem et_or (h1 : ET K F Kn0 sl ow t a) (h2 : a = false → ET K F Kn0 sl ow u b) : ET K F Kn0 sl ow (tOr t u) (a || b) := fun σ Kn H s Q q => h1 σ Kn H s _ fun Kn1 H1 g1 => by
  cases a with
  | true => exact iteT (q Kn1 H1 g1)
  | false => exact iteF (h2 rfl σ Kn1 H1 (s.grow g1) Q fun Kn2 H2 g2 => q Kn2 H2 (g1.trans g2))
theorem et_andO {m : Option Bool} (h : (if a = true then m else some false) = some c) (h1 : ET K F Kn0 sl ow t a) (h2 : ∀ b, a = true → m = some b → ET K F Kn0 sl ow u b) : ET K F Kn0 sl ow (tAnd t u) c := fun σ Kn H s Q q => h1 σ Kn H s _ fun Kn1 H1 g1 => by
  cases a with
  | true => exact iteT (h2 c rfl h σ Kn1 H1 (s.grow g1) Q fun Kn2 H2 g2 => q Kn2 H2 (g1.trans g2))
  | false =>
    cases h
    exact iteF (q Kn1 H1 g1)
theorem et_orO {m : Option Bool} (h : (if a = true then some true else m) = some c) (h1 : ET K F Kn0 sl ow t a) (h2 : ∀ b, a = false → m = some b → ET K F Kn0 sl ow u b) : ET K F Kn0 sl ow (tOr t u) c := fun σ Kn H s Q q => h1 σ Kn H s _ fun Kn1 H1 g1 => by
  cases a with
  | false => exact iteF (h2 c rfl h σ Kn1 H1 (s.grow g1) Q fun Kn2 H2 g2 => q Kn2 H2 (g1.trans g2))
  | true =>
    cases h
    exact iteT (q Kn1 H1 g1)
theorem ev_andO {m : Option Bool} (h : (if a = true then m else some false) = some c) (h1 : EV K F Kn0 sl ow ta a) (h2 : ∀ b, a = true → m = some b → EV K F Kn0 sl ow tb b) : EV K F Kn0 sl ow (tAndV ta tb) c := fun σ Kn H s Q q => h1 σ Kn H s _ fun v Kn1 H1 g1 r1 => ⟨a, r1, by
  cases a with
  | true => exact iteT (h2 c rfl h σ Kn1 H1 (s.grow g1) Q fun v Kn2 H2 g2 r2 => q v Kn2 H2 (g1.trans g2) r2)
  | false =>
    cases h
    exact iteF (q _ Kn1 H1 g1 rfl)⟩
theorem ev_orO {m : Option Bool} (h : (if a = true then some true else m) = some c) (h1 : EV K F Kn0 sl ow ta a) (h2 : ∀ b, a = false → m = some b → EV K F Kn0 sl ow tb b) : EV K F Kn0 sl ow (tOrV ta tb) c := fun σ Kn H s Q q => h1 σ Kn H s _ fun v Kn1 H1 g1 r1 => ⟨a, r1, by
  cases a with
  | false => exact iteF (h2 c rfl h σ Kn1 H1 (s.grow g1) Q fun v Kn2 H2 g2 r2 => q v Kn2 H2 (g1.trans g2) r2)
  | true =>
    cases h
    exact iteT (q _ Kn1 H1 g1 rfl)⟩
theorem ev_andV (h1 : EV K F Kn0 sl ow ta a) (h2 : a = true → EV K F Kn0 sl ow tb b) : EV K F Kn0 sl ow (tAndV ta tb) (a && b) := fun σ Kn H s Q q => h1 σ Kn H s _ fun v Kn1 H1 g1 r1 => ⟨a, r1, by
  cases a with
  | true => exact iteT (h2 rfl σ Kn1 H1 (s.grow g1) Q fun v Kn2 H2 g2 r2 => q v Kn2 H2 (g1.trans g2) r2)
  | false => exact iteF (q _ Kn1 H1 g1 rfl)⟩
theorem ev_orV (h1 : EV K F Kn0 sl ow ta a) (h2 : a = false → EV K F Kn0 sl ow tb b) : EV K F Kn0 sl ow (tOrV ta tb) (a || b) := fun σ Kn H s Q q => h1 σ Kn H s _ fun v Kn1 H1 g1 r1 => ⟨a, r1, by
  cases a with
  | false => exact iteF (h2 rfl σ Kn1 H1 (s.grow g1) Q fun v Kn2 H2 g2 r2 => q v Kn2 H2 (g1.trans g2) r2)
  | true => exact iteT (q _ Kn1 H1 g1 rfl)⟩
theorem ev_notV (h1 : EV K F Kn0 sl ow ta a) : EV K F Kn0 sl ow (tNotV ta) (!a) := fun σ Kn H s Q q => h1 σ Kn H s _ fun v Kn1 H1 g1 r1 => ⟨a, r1, q _ Kn1 H1 g1 rfl⟩
theorem ev_if {x y : α} (h : ET K F Kn0 sl ow t b) (h1 : b = true → EV K F Kn0 sl ow ta x) (h2 : b = false → EV K F Kn0 sl ow tb y) : EV K F Kn0 sl ow (tIf t ta tb) (if b = true then x else y) := fun σ Kn H s Q q => h σ Kn H s _ fun Kn1 H1 g1 => by
  cases b with
  | true => exact iteT (h1 rfl σ Kn1 H1 (s.grow g1) Q fun v Kn2 H2 g2 r2 => q v Kn2 H2 (g1.trans g2) r2)
  | false => exact iteF (h2 rfl σ Kn1 H1 (s.grow g1) Q fun v Kn2 H2 g2 r2 => q v Kn2 H2 (g1.trans g2) r2)
theorem ev_ifO {m n : Option α} {z : α} (hz : (if b = true then m else n) = some z) (h : ET K F Kn0 sl ow t b) (h1 : ∀ x, b = true → m = some x → EV K F Kn0 sl ow ta x) (h2 : ∀ y, b = false → n = some y → EV K F Kn0 sl ow tb y) : EV K F Kn0 sl ow (tIf t ta tb) z := fun σ Kn H s Q q => h σ Kn H s _ fun Kn1 H1 g1 => by
  cases b with
  | true => exact iteT (h1 z rfl hz σ Kn1 H1 (s.grow g1) Q fun v Kn2 H2 g2 r2 => q v Kn2 H2 (g1.trans g2) r2)
  | false => exact iteF (h2 z rfl hz σ Kn1 H1 (s.grow g1) Q fun v Kn2 H2 g2 r2 => q v Kn2 H2 (g1.trans g2) r2)
/-- truth of a list -/
theorem et_truL {xs : List α} (h : EV K F Kn0 sl ow ta xs) : ET K F Kn0 sl ow (fun σ H Q => ta σ H fun x H' => ∃ k, TruV K x H' k ∧ Q k H') (!xs.isEmpty) := fun σ Kn H s Q q => h σ Kn H s _ fun v Kn1 H1 g1 r1 => by
  obtain ⟨p, ws, rfl, h3, h4⟩ := r1
  refine ⟨_, .inl ⟨ws, sq_of (g1.kh _ _ h3), rfl⟩, ?_⟩
  have e : (!ws.isEmpty) = !xs.isEmpty := by
    cases h4 <;> rfl
  rw [e]
  exact q Kn1 H1 g1
end
end Wk
/-! Wk3: calls, statements, loops, comprehensions -/
namespace Wk
open PySem PySem.Spec L2 Evl

/-! ### promises -/
section
variable {α τ : Type} [Rp α] [Tp τ]
/-- a def that changes nothing: it tells f of its arguments -/
def PF (K : Fg) (f : τ → Option α) : Sp := fun vs H Q _ => ∃ Kn t r, Ex Kn H ∧ rept K Kn vs t ∧ f t = some r ∧ RS K Kn H Q r
/-- .. a new list -/
def PL (K : Fg) (f : τ → Option (List α)) : Sp := fun vs H Q _ => ∃ Kn t r, Ex Kn H ∧ rept K Kn vs t ∧ f t = some r ∧ RL K Kn H Q r
/-- its first argument is a list that it changes -/
def PM {β : Type} [Rp β] (K : Fg) (f : List β → τ → Option (α × List β)) : Sp := fun vs H Q _ => ∃ Kn p ws rest t xs r xs', vs = .ref p :: rest ∧ Ex Kn H ∧ Kn p = none ∧ H p = some (.lst ws) ∧ Paired (rep K Kn) ws xs ∧ rept K Kn rest t ∧ f xs t = some (r, xs') ∧
  ∀ v Kn' H' ws', Ex Kn Kn' → Ex Kn' H' → (∀ q, q ≠ p → H q ≠ none → H' q = H q) → (∀ q, H q ≠ none → Kn q = none → Kn' q = none) → H' p = some (.lst ws') → Paired (rep K Kn') ws' xs' → rep K Kn' v r → Q v H'
end
section
variable {K : Fg} {F Kn0 : Hp} {sl sl' : List Sl} {ow ow1 ow2 : List Ow} {α β γ τ : Type} [Rp α] [Rp β] [Rp γ] [Tp τ] {ta : TA} {te : TE} {t : τ} {E : XK}
theorem ev_call {f : τ → Option α} {r : α} (h : EA K F Kn0 sl ow ta t) (hf : f t = some r) : EV K F Kn0 sl ow (tCall (PF K f) [] E ta) r := fun σ Kn H s Q q =>
  h σ Kn H s _ fun vs Kn1 H1 g1 r1 => by
    show PF K f (vs ++ []) H1 Q E
    rw [List.append_nil]
    exact ⟨Kn1, t, r, g1.kh, r1, hf, fun u Kn' H' g' r' => q u Kn' H' (g1.trans g') r'⟩
theorem en_call {f : τ → Option (List α)} {r : List α} (h : EA K F Kn0 sl ow ta t) (hf : f t = some r) : EN K F Kn0 sl ow (tCall (PL K f) [] E ta) r := fun σ Kn H s Q q =>
  h σ Kn H s _ fun vs Kn1 H1 g1 r1 => by
    show PL K f (vs ++ []) H1 Q E
    rw [List.append_nil]
    exact ⟨Kn1, t, r, g1.kh, r1, hf, fun p ws Kn' H' g' hp kp hw r' => q p ws Kn' H' (g1.trans g') (fresh_back g1.hh hp) kp hw r'⟩
theorem em_call {f : τ → Option α} {r : α} (h : EAM K F Kn0 sl ow ta ow1 t) (hf : f t = some r) : EM K F Kn0 sl ow (tCall (PF K f) [] E ta) ow1 r := fun σ Kn H s Q q =>
  h σ Kn H s _ fun vs Kn1 H1 e1 s1 r1 => by
    show PF K f (vs ++ []) H1 Q E
    rw [List.append_nil]
    exact ⟨Kn1, t, r, s1.ek, r1, hf, fun u Kn' H' g' r' => q u Kn' H' (e1.trans g'.kk) (s1.grow g') r'⟩
theorem enm_call {f : τ → Option (List α)} {r : List α} (h : EAM K F Kn0 sl ow ta ow1 t) (hf : f t = some r) : ENM K F Kn0 sl ow (tCall (PL K f) [] E ta) ow1 r := fun σ Kn H s Q q =>
  h σ Kn H s _ fun vs Kn1 H1 e1 s1 r1 => by
    show PL K f (vs ++ []) H1 Q E
    rw [List.append_nil]
    exact ⟨Kn1, t, r, s1.ek, r1, hf, fun p ws Kn' H' g' hp kp hw r' => q p ws Kn' H' (e1.trans g'.kk) (s1.grow g') (fresh_back s1.ef hp) kp (owned_ne s1 hp) hw r'⟩
theorem ow_at {ow : List Ow} (h : (ow.map Ow.ad).Nodup) {i j : Nat} {o u : Ow} (hi : ow[i]? = some o) (hj : ow[j]? = some u) (e : o.ad = u.ad) : i = j := by
  have a1 : (ow.map Ow.ad)[i]? = some o.ad := by rw [List.getElem?_map, hi]; rfl
  have a2 : (ow.map Ow.ad)[j]? = some o.ad := by rw [List.getElem?_map, hj, e]; rfl
  exact nd_ix h a1 a2
/-- the object at place j is another one now, all else as it was -/
theorem S.write {σ : L2.St} {Kn H Kn' H' : Hp} {p : Addr} {xs xs' : List β} {ws : List V} {j : Nat} (s : S K F Kn0 sl ow σ Kn H) (hj : ow[j]? = some (ol p xs)) (kk : Ex Kn Kn') (kh : Ex Kn' H')
    (hq : ∀ q, q ≠ p → H q ≠ none → H' q = H q) (sp : ∀ q, H q ≠ none → Kn q = none → Kn' q = none) (hp : H' p = some (.lst ws)) (r : Paired (rep K Kn') ws xs') : S K F Kn0 sl (ow.set j (ol p xs')) σ Kn' H' := by
  obtain ⟨f1, f2, f3⟩ := s.ow.each _ (List.mem_of_getElem? hj)
  have f1 : F p = none := f1
  have f2 : Kn p = none := f2
  have f4 : H p ≠ none := Ow.there f3
  have jl : j < ow.length := (List.getElem?_eq_some_iff.mp hj).1
  refine ⟨s.e0.trans kk, kh, fun a u h => ?_, fun a h1 h2 => sp a (Ex.nn s.ef h1) (s.sep a h1 h2), s.sl.mono kk, ⟨fun o ho => ?_, ?_⟩⟩
  · have hne : a ≠ p := fun z => by rw [z, f1] at h; cases h
    rw [hq a hne (ne_none_of (s.ef _ _ h))]
    exact s.ef _ _ h
  · obtain ⟨i, hi⟩ := List.getElem?_of_mem ho
    by_cases e : i = j
    · subst e
      rw [List.getElem?_set_self jl] at hi
      cases hi
      exact ⟨f1, sp p f4 f2, ws, hp, r⟩
    · rw [List.getElem?_set_ne (Ne.symm e)] at hi
      obtain ⟨h1, h2, h3⟩ := s.ow.each o (List.mem_of_getElem? hi)
      have h4 := Ow.there h3
      have hne : o.ad ≠ p := fun z => e (ow_at s.ow.nd hi hj z)
      exact ⟨h1, sp _ h4 h2, Ow.ok_mono kk (hq _ hne h4) h3⟩
  · have e : (ow.set j (ol p xs')).map Ow.ad = ow.map Ow.ad := by
      rw [List.map_set]
      refine List.ext_getElem? fun i => ?_
      by_cases e : j = i
      · subst e
        rw [List.getElem?_set_self (by rw [List.length_map]; exact jl), List.getElem?_map, hj]
        rfl
      · rw [List.getElem?_set_ne e]
    rw [e]
    exact s.ow.nd
theorem em_callM {f : List β → τ → Option (α × List β)} {r : α} {i j : Nat} {p : Addr} {xs xs' : List β} (hi : sl[i]? = some (.at p)) (h : EAM K F Kn0 sl ow ta ow1 t) (hj : ow1[j]? = some (ol p xs)) (hf : f xs t = some (r, xs')) :
    EM K F Kn0 sl ow (tCall (PM K f) [] E (tCons (tVar i) ta)) (ow1.set j (ol p xs')) r := fun σ Kn H s Q q => by
  obtain ⟨o, h1, h2⟩ := s.sl.get hi
  refine ⟨.ref p, by rw [h1]; exact congrArg some h2, h σ Kn H s _ fun vs Kn1 H1 e1 s1 r1 => ?_⟩
  show PM K f ((.ref p :: vs) ++ []) H1 Q E
  rw [List.append_nil]
  obtain ⟨f1, f2, ws, f3, f4⟩ := s1.ow.each _ (List.mem_of_getElem? hj)
  exact ⟨Kn1, p, ws, vs, t, xs, r, xs', rfl, s1.ek, f2, f3, f4, r1, hf, fun v Kn' H' ws' kk kh hq sp hp rr rv => q v Kn' H' (e1.trans kk) (s1.write hj kk kh hq sp hp rr) rv⟩
end

/-! ### statements -/
section
variable (K : Fg) (F Kn0 : Hp) (sl : List Sl) (ow : List Ow)
def SN (D : Ends) : Prop := ∀ σ Kn H, S K F Kn0 sl ow σ Kn H → D.nx σ H
def SC (D : Ends) : Prop := ∀ σ Kn H, S K F Kn0 sl ow σ Kn H → D.ct σ H
def SK (D : Ends) : Prop := ∀ σ Kn H, S K F Kn0 sl ow σ Kn H → D.bk σ H
end
section
variable {K : Fg} {F Kn0 : Hp} {sl sl' : List Sl} {ow ow0 ow1 ow2 : List Ow} {α β γ τ : Type} [Rp α] [Rp β] [Rp γ] [Tp τ] {ta tb te : TE} {x : α} {D : Ends} {t u tz : TS} {tt : TT} {b : Bool} {i j : Nat} {p : Addr}
theorem SB.seq (h : SB K F Kn0 sl ow { D with nx := tz D } t) : SB K F Kn0 sl ow D (tSeq t tz) := h
theorem SB.le (h : SB K F Kn0 sl' ow D t) (l : SlLe sl sl') : SB K F Kn0 sl ow D t := fun σ Kn H s => h σ Kn H (s.le l)
theorem SB.sub (h : SB K F Kn0 sl ow1 D t) (l : ow1.Sublist ow) : SB K F Kn0 sl ow D t := fun σ Kn H s => h σ Kn H (s.sub l)
theorem SN.le (h : SN K F Kn0 sl' ow D) (l : SlLe sl sl') : SN K F Kn0 sl ow D := fun σ Kn H s => h σ Kn H (s.le l)
theorem SN.sub (h : SN K F Kn0 sl ow1 D) (l : ow1.Sublist ow) : SN K F Kn0 sl ow D := fun σ Kn H s => h σ Kn H (s.sub l)
theorem EN.le {xs : List α} (h : EN K F Kn0 sl' ow te xs) (l : SlLe sl sl') : EN K F Kn0 sl ow te xs := fun σ Kn H s => h σ Kn H (s.le l)
theorem EV.le (h : EV K F Kn0 sl' ow te x) (l : SlLe sl sl') : EV K F Kn0 sl ow te x := fun σ Kn H s => h σ Kn H (s.le l)
theorem sb_nx (k : SN K F Kn0 sl ow D) : SB K F Kn0 sl ow D tNext := k
theorem sb_ct (k : SC K F Kn0 sl ow D) : SB K F Kn0 sl ow D tCont := k
theorem sb_bk (k : SK K F Kn0 sl ow D) : SB K F Kn0 sl ow D tBreak := k
theorem sb_asg (hs : sl.set i (sv x) = sl') (h : EV K F Kn0 sl ow te x) (k : SN K F Kn0 sl' ow D) : SB K F Kn0 sl ow D (tAsg te (gName i)) := fun σ Kn H s =>
  h σ Kn H s _ fun v Kn1 H1 g1 r1 => k _ Kn1 H1 (hs ▸ (s.grow g1).setv i r1)
theorem sb_asgM (hs : sl.set i (sv x) = sl') (h : EM K F Kn0 sl ow te ow1 x) (k : SN K F Kn0 sl' ow1 D) : SB K F Kn0 sl ow D (tAsg te (gName i)) := fun σ Kn H s =>
  h σ Kn H s _ fun v Kn1 H1 e1 s1 r1 => k _ Kn1 H1 (hs ▸ s1.setv i r1)
/-- a new object is one's own -/
theorem S.own {σ : L2.St} {Kn H : Hp} {xs : List α} {ws : List V} (s : S K F Kn0 sl ow σ Kn H) (fp : F p = none) (kp : Kn p = none) (no : ∀ o ∈ ow, o.ad ≠ p) (hp : H p = some (.lst ws)) (r : Paired (rep K Kn) ws xs) : S K F Kn0 sl (ol p xs :: ow) σ Kn H :=
  ⟨s.e0, s.ek, s.ef, s.sep, s.sl, ⟨fun o ho => by
    rcases List.mem_cons.mp ho with rfl | ho
    · exact ⟨fp, kp, ws, hp, r⟩
    · exact s.ow.each o ho, List.nodup_cons.mpr ⟨fun h => by
      obtain ⟨o, ho, e⟩ := List.mem_map.mp h
      exact no o ho e, s.ow.nd⟩⟩⟩
theorem S.seta {σ : L2.St} {Kn H : Hp} (s : S K F Kn0 sl ow σ Kn H) (i : Nat) : S K F Kn0 (sl.set i (.at p)) ow (σ.set i (some (.ref p))) Kn H := s.set i rfl
theorem sb_asgO {xs : List α} {sl' : Addr → List Sl} (hs : ∀ p, sl.set i (.at p) = sl' p) (h : EN K F Kn0 sl ow te xs) (k : ∀ p, SN K F Kn0 (sl' p) (ol p xs :: ow) D) : SB K F Kn0 sl ow D (tAsg te (gName i)) := fun σ Kn H s =>
  h σ Kn H s _ fun p ws Kn1 H1 g1 hp kp hw r1 => k p _ Kn1 H1 (hs p ▸ ((s.grow g1).own (fresh_back s.ef hp) kp (owned_ne s hp) hw r1).seta i)
theorem sb_asgOM {xs : List α} {sl' : Addr → List Sl} (hs : ∀ p, sl.set i (.at p) = sl' p) (h : ENM K F Kn0 sl ow te ow1 xs) (k : ∀ p, SN K F Kn0 (sl' p) (ol p xs :: ow1) D) : SB K F Kn0 sl ow D (tAsg te (gName i)) := fun σ Kn H s =>
  h σ Kn H s _ fun p ws Kn1 H1 e1 s1 fp kp no hw r1 => k p _ Kn1 H1 (hs p ▸ (s1.own fp kp no hw r1).seta i)
theorem sb_aug {a c : Int} {f : Int → Int → Int} (hi : sl[i]? = some (sv a)) (hs : sl.set i (sv (f a c)) = sl') (h : EV K F Kn0 sl ow te c) (k : SN K F Kn0 sl' ow D) : SB K F Kn0 sl ow D (tAug i te (ipI f)) := fun σ Kn H s => by
  obtain ⟨o, h1, v, h2, h3⟩ := s.sl.get hi
  cases h3
  exact ⟨.int a, by rw [h1, h2], h σ Kn H s _ fun v Kn1 H1 g1 r1 => ⟨a, c, rfl, r1, k _ Kn1 H1 (hs ▸ (s.grow g1).setv (x := f a c) i rfl)⟩⟩
theorem sb_drop (h : EV K F Kn0 sl ow te x) (k : SN K F Kn0 sl ow D) : SB K F Kn0 sl ow D (tDrop te) := fun σ Kn H s => h σ Kn H s _ fun v Kn1 H1 g1 r1 => k _ Kn1 H1 (s.grow g1)
theorem sb_dropM (h : EM K F Kn0 sl ow te ow1 x) (k : SN K F Kn0 sl ow1 D) : SB K F Kn0 sl ow D (tDrop te) := fun σ Kn H s => h σ Kn H s _ fun v Kn1 H1 e1 s1 r1 => k _ Kn1 H1 s1
theorem upd_in {Kn H : Hp} {o : HO} (ek : Ex Kn H) (kp : Kn p = none) : Ex Kn (upd H p o) := fun a u h => by
  have hq : a ≠ p := fun z => by rw [z, kp] at h; cases h
  rw [upd_ne hq]
  exact ek _ _ h
/-- found.append(e) -/
theorem sb_app {xs : List α} (hi : sl[i]? = some (.at p)) (hj : ow[j]? = some (ol p xs)) (h : EV K F Kn0 sl ow te x) (hz : xs.length < 1000000) (k : SN K F Kn0 sl (ow.set j (ol p (xs ++ [x]))) D) :
    SB K F Kn0 sl ow D (tDrop (tBM K "list" rAppend (tVar i) (tCons te tNil))) := fun σ Kn H s => by
  obtain ⟨o, h1, h2⟩ := s.sl.get hi
  obtain ⟨f1, f2, ws, f3, f4⟩ := s.ow.each _ (List.mem_of_getElem? hj)
  refine ⟨.ref p, by rw [h1]; exact congrArg some h2, Or.inl ⟨rfl, ws, sq_of f3⟩, h σ Kn H s _ fun v Kn1 H1 g1 r1 => ?_⟩
  refine ⟨p, ws, v, rfl, rfl, g1.hh _ _ f3, by rw [paired_len f4]; exact lt_line hz, k _ Kn1 _ ?_⟩
  have kp1 : Kn1 p = none := g1.sp p (ne_none_of f3) f2
  exact (s.grow g1).write hj (Ex.refl _) (upd_in g1.kh kp1) (fun q hq _ => upd_ne hq) (fun _ _ h => h) upd_same (paired_append (paired_mono g1.kk f4) (.cons r1 .nil))
theorem sb_appM {xs : List α} (hi : sl[i]? = some (.at p)) (hi0 : ow[j]? = some (ol p xs)) (h : EM K F Kn0 sl ow te ow1 x) (hj : ow1[j]? = some (ol p xs)) (hz : xs.length < 1000000) (k : SN K F Kn0 sl (ow1.set j (ol p (xs ++ [x]))) D) :
    SB K F Kn0 sl ow D (tDrop (tBM K "list" rAppend (tVar i) (tCons te tNil))) := fun σ Kn H s => by
  obtain ⟨o, h1, h2⟩ := s.sl.get hi
  obtain ⟨_, _, ws0, f0, _⟩ := s.ow.each _ (List.mem_of_getElem? hi0)
  refine ⟨.ref p, by rw [h1]; exact congrArg some h2, Or.inl ⟨rfl, ws0, sq_of f0⟩, h σ Kn H s _ fun v Kn1 H1 e1 s1 r1 => ?_⟩
  obtain ⟨f1, f2, ws, f3, f4⟩ := s1.ow.each _ (List.mem_of_getElem? hj)
  refine ⟨p, ws, v, rfl, rfl, f3, by rw [paired_len f4]; exact lt_line hz, k _ Kn1 _ ?_⟩
  exact s1.write hj (Ex.refl _) (upd_in s1.ek f2) (fun q hq _ => upd_ne hq) (fun _ _ h => h) upd_same (paired_append f4 (.cons r1 .nil))
/-- the place of a written index -/
def setI {α : Type} (xs : List α) (i : Int) (x : α) : Option (List α) := (ixN xs.length i).map fun j => xs.set j x
/-- found[e] = x -/
theorem sb_setI {xs xs' : List α} {n : Int} (hi : sl[i]? = some (.at p)) (hj : ow[j]? = some (ol p xs)) (h : EV K F Kn0 sl ow te x) (hn : EV K F Kn0 sl ow tb n) (hx : setI xs n x = some xs') (k : SN K F Kn0 sl (ow.set j (ol p xs')) D) :
    SB K F Kn0 sl ow D (tAsg te (gSub (tVar i) tb rSetL)) := fun σ Kn H s => h σ Kn H s _ fun v Kn1 H1 g1 r1 => by
  obtain ⟨o, h1, h2⟩ := s.sl.get hi
  refine ⟨.ref p, by rw [h1]; exact congrArg some h2, hn σ Kn1 H1 (s.grow g1) _ fun w Kn2 H2 g2 r2 => ?_⟩
  have s2 := (s.grow g1).grow g2
  obtain ⟨f1, f2, ws, f3, f4⟩ := s2.ow.each _ (List.mem_of_getElem? hj)
  unfold setI at hx
  cases e : ixN xs.length n with
  | none => rw [e] at hx; cases hx
  | some m =>
    rw [e] at hx
    cases hx
    cases r2
    refine ⟨p, ws, n, m, rfl, rfl, f3, by rw [paired_len f4]; exact e, k _ Kn2 _ ?_⟩
    exact s2.write hj (Ex.refl _) (upd_in g2.kh f2) (fun q hq _ => upd_ne hq) (fun _ _ h => h) upd_same (paired_set (Rp.mono g2.kk r1) m f4)
/-- from now on it is known and stays as it is -/
theorem sb_freeze {xs : List α} (hi : sl[i]? = some (.at p)) (hj : ow[j]? = some (ol p xs)) (hs : sl.set i (sv xs) = sl') (ho : ow.eraseIdx j = ow1) (k : SB K F Kn0 sl' ow1 D t) : SB K F Kn0 sl ow D t := fun σ Kn H s => by
  obtain ⟨o, h1, h2⟩ := s.sl.get hi
  have h2 : o = some (.ref p) := h2
  obtain ⟨f1, f2, ws, f3, f4⟩ := s.ow.each _ (List.mem_of_getElem? hj)
  have hsub : ow1.Sublist ow := ho ▸ List.eraseIdx_sublist ow j
  have s1 := s.sub hsub
  have no : ∀ o ∈ ow1, o.ad ≠ p := fun o hm z => by
    have hnd := s.ow.nd
    subst ho
    obtain ⟨m, hm'⟩ := List.getElem?_of_mem hm
    rw [List.getElem?_eraseIdx] at hm'
    split at hm'
    · rename_i hlt
      have := ow_at hnd hm' hj z
      omega
    · rename_i hge
      have := ow_at hnd hm' hj z
      omega
  have s2 := s1.know (o := .lst ws) f1 f2 no f3
  have hσ : σ.set i o = σ := by
    refine List.ext_getElem? fun m => ?_
    by_cases e : i = m
    · subst e
      rw [List.getElem?_set_self (List.getElem?_eq_some_iff.mp h1).1, h1]
    · rw [List.getElem?_set_ne e]
  have s3 := s2.set (x := sv xs) (o := o) i ⟨.ref p, h2, p, ws, rfl, upd_same, paired_mono (Ex.new f2) f4⟩
  rw [hs, hσ] at s3
  exact k σ _ H s3
theorem sb_if (h : ET K F Kn0 sl ow tt b) (h1 : b = true → SB K F Kn0 sl ow D t) (h2 : b = false → SB K F Kn0 sl ow D u) : SB K F Kn0 sl ow D (tIfS tt t u) := fun σ Kn H s => h σ Kn H s _ fun Kn1 H1 g1 => by
  cases b with
  | true => exact iteT (h1 rfl σ Kn1 H1 (s.grow g1))
  | false => exact iteF (h2 rfl σ Kn1 H1 (s.grow g1))
theorem sb_cut (h : SB K F Kn0 sl ow { D with nx := fun σ H => ∃ Kn, S K F Kn0 sl' ow1 σ Kn H } t) (k : SB K F Kn0 sl' ow1 D tz) : SB K F Kn0 sl ow D (tCut t tz) := fun σ Kn H s => ⟨_, h σ Kn H s, fun σ' H' ⟨Kn', s'⟩ => k σ' Kn' H' s'⟩
theorem sn_mid (l : SlLe sl sl') (l2 : ow1.Sublist ow) : SN K F Kn0 sl ow { D with nx := fun σ H => ∃ Kn, S K F Kn0 sl' ow1 σ Kn H } := fun σ Kn H s => ⟨Kn, (s.le l).sub l2⟩
/-- returns -/
theorem sb_ret {R : VK} (h : EV K F Kn0 sl ow te x) (q : RT K F Kn0 ow0 R x) (l : ow0.Sublist ow) (hR : D.rt = R := by rfl) : SB K F Kn0 sl ow D (tRet te) := fun σ Kn H s => by
  subst hR
  exact h σ Kn H s _ fun v Kn1 H1 g1 r1 => q v Kn1 H1 ((s.grow g1).sub l).fin r1
theorem sb_retM {R : VK} (h : EM K F Kn0 sl ow te ow1 x) (q : RT K F Kn0 ow0 R x) (l : ow0.Sublist ow1) (hR : D.rt = R := by rfl) : SB K F Kn0 sl ow D (tRet te) := fun σ Kn H s => by
  subst hR
  exact h σ Kn H s _ fun v Kn1 H1 e1 s1 r1 => q v Kn1 H1 (s1.sub l).fin r1
theorem sb_retL {R : VK} {xs : List α} (h : EN K F Kn0 sl ow te xs) (q : RN K F Kn0 ow0 R xs) (l : ow0.Sublist ow) (hR : D.rt = R := by rfl) : SB K F Kn0 sl ow D (tRet te) := fun σ Kn H s => by
  subst hR
  exact h σ Kn H s _ fun p ws Kn1 H1 g1 hp kp hw r1 => q p ws Kn1 H1 ((s.grow g1).sub l).fin (fresh_back s.ef hp) kp hw r1
/-- a list of one's own is told -/
theorem sb_retO {R : VK} {xs : List α} (hi : sl[i]? = some (.at p)) (hj : ow[j]? = some (ol p xs)) (q : RN K F Kn0 ow0 R xs) (l : ow0.Sublist ow) (hR : D.rt = R := by rfl) : SB K F Kn0 sl ow D (tRet (tVar i)) := fun σ Kn H s => by
  subst hR
  obtain ⟨o, h1, h2⟩ := s.sl.get hi
  obtain ⟨f1, f2, ws, f3, f4⟩ := s.ow.each _ (List.mem_of_getElem? hj)
  exact ⟨.ref p, by rw [h1]; exact congrArg some h2, q p ws Kn H (s.sub l).fin f1 f2 f3 f4⟩
theorem SB.seqB (h : (∀ sl' ow', SB K F Kn0 sl' ow' D tz → SN K F Kn0 sl' ow' { D with nx := tz D }) → SB K F Kn0 sl ow { D with nx := tz D } t) : SB K F Kn0 sl ow D (tSeq t tz) := h fun _ _ k => k
theorem SB.cutB (h : (∀ sl2 ow2, SlLe sl2 sl' → ow1.Sublist ow2 → SN K F Kn0 sl2 ow2 { D with nx := fun σ H => ∃ Kn, S K F Kn0 sl' ow1 σ Kn H }) → SB K F Kn0 sl ow { D with nx := fun σ H => ∃ Kn, S K F Kn0 sl' ow1 σ Kn H } t) (k : SB K F Kn0 sl' ow1 D tz) : SB K F Kn0 sl ow D (tCut t tz) :=
  sb_cut (h fun _ _ l l2 => sn_mid l l2) k
end

/-! ### targets -/
section
variable {α β τ : Type} [Rp α] [Rp β] [Tp τ] {sl sl' sl2 : List Sl} {K : Fg}
theorem wipe_set : ∀ {vs : List Nat} {i : Nat} {o : Option V} {σ : L2.St}, i ∈ vs → wipe (σ.set i o) vs = wipe σ vs
  | v :: vs, i, o, σ, h => by
    by_cases e : i ∈ vs
    · unfold wipe
      rw [wipe_set e]
    · have hv : i = v := (List.mem_cons.mp h).resolve_right e
      subst hv
      have w : ∀ (vs : List Nat) (σ : L2.St), i ∉ vs → wipe (σ.set i o) vs = (wipe σ vs).set i o := by
        intro vs
        induction vs with
        | nil => intro σ _; rfl
        | cons a r ih =>
          intro σ hn
          show (wipe (σ.set i o) r).set a none = ((wipe σ r).set a none).set i o
          rw [ih σ (fun z => hn (List.mem_cons_of_mem _ z)), List.set_comm]
          exact fun z => hn (by rw [z]; exact List.mem_cons_self)
      show (wipe (σ.set i o) vs).set i none = (wipe σ vs).set i none
      rw [w vs σ e, List.set_set]
def GT (K : Fg) (g : TG) (sl sl' : List Sl) (js : List Nat) (x : α) : Prop := ∀ σ Kn H v, SlsOk K Kn sl σ → Ex Kn H → rep K Kn v x → ∀ Q : L2.St → Hp → Prop, (∀ σ', SlsOk K Kn sl' σ' → (∀ vs, (∀ j ∈ js, j ∈ vs) → wipe σ' vs = wipe σ vs) → Q σ' H) → g v σ H Q
def GTs (K : Fg) (g : TGs) (sl sl' : List Sl) (js : List Nat) (t : τ) : Prop := ∀ σ Kn H vs, SlsOk K Kn sl σ → Ex Kn H → rept K Kn vs t → ∀ Q : L2.St → Hp → Prop, (∀ σ', SlsOk K Kn sl' σ' → (∀ vs, (∀ j ∈ js, j ∈ vs) → wipe σ' vs = wipe σ vs) → Q σ' H) → g vs σ H Q
theorem gt_name {i : Nat} {x : α} (hs : sl.set i (sv x) = sl') : GT K (gName i) sl sl' [i] x := fun σ Kn H v s ek r Q q => q _ (hs ▸ SlsOk.set (s := sv x) ⟨v, rfl, r⟩ i s) fun vs h => wipe_set (h i (by simp))
theorem gts_nil : GTs K gNil sl sl [] () := fun σ Kn H vs s ek r Q q => ⟨r, q σ s fun _ _ => rfl⟩
theorem gts_cons {g : TG} {gs : TGs} {js ks : List Nat} {x : α} {t : τ} (h1 : GT K g sl sl' js x) (h2 : GTs K gs sl' sl2 ks t) : GTs K (gCons g gs) sl sl2 (js ++ ks) (x, t) := fun σ Kn H vs s ek r Q q => by
  obtain ⟨v, rest, rfl, r1, r2⟩ := r
  exact ⟨v, rest, rfl, h1 σ Kn H v s ek r1 _ fun σ1 s1 w1 => h2 σ1 Kn H rest s1 ek r2 _ fun σ2 s2 w2 => q σ2 s2 fun vs h => (w2 vs fun j hj => h j (List.mem_append_right _ hj)).trans (w1 vs fun j hj => h j (List.mem_append_left _ hj))⟩
theorem gt_tup {gs : TGs} {js : List Nat} {n : Nat} {t : α × τ} (h : GTs K gs sl sl' js t) (hn : Tp.n (α × τ) = n := by rfl) : GT K (gTup K n gs) sl sl' js t := fun σ Kn H v s ek r Q q => by
  obtain ⟨p, ws, rfl, h1, h2⟩ := r
  exact ⟨p, ws, rfl, st_of (ek _ _ h1), (Tp.len h2).trans hn, h σ Kn H ws s ek h2 Q q⟩
end
section
variable {K : Fg} {F Kn0 : Hp} {sl sl' : List Sl} {ow ow1 : List Ow} {α : Type} [Rp α] {te : TE} {x : α} {D : Ends} {g : TG} {js : List Nat}
/-- a, b = e -/
theorem sb_unp (h : EV K F Kn0 sl ow te x) (hg : GT K g sl sl' js x) (k : SN K F Kn0 sl' ow D) : SB K F Kn0 sl ow D (tAsg te g) := fun σ Kn H s =>
  h σ Kn H s _ fun v Kn1 H1 g1 r1 => by
    have s1 := s.grow g1
    exact hg σ Kn1 H1 v s1.sl s1.ek r1 _ fun σ' h' _ => k σ' Kn1 H1 ⟨s1.e0, s1.ek, s1.ef, s1.sep, h', s1.ow⟩
theorem sb_unpM (h : EM K F Kn0 sl ow te ow1 x) (hg : GT K g sl sl' js x) (k : SN K F Kn0 sl' ow1 D) : SB K F Kn0 sl ow D (tAsg te g) := fun σ Kn H s =>
  h σ Kn H s _ fun v Kn1 H1 e1 s1 r1 => hg σ Kn1 H1 v s1.sl s1.ek r1 _ fun σ' h' _ => k σ' Kn1 H1 ⟨s1.e0, s1.ek, s1.ef, s1.sep, h', s1.ow⟩
/-- a, b = e1, e2 -/
theorem sb_par {α β : Type} [Rp α] [Rp β] {ta : TA} {i j : Nat} {x : α} {y : β} (hs : (sl.set i (sv x)).set j (sv y) = sl') (h : EA K F Kn0 sl ow ta (x, y, ())) (k : SN K F Kn0 sl' ow D) : SB K F Kn0 sl ow D (tPar i j ta) := fun σ Kn H s =>
  h σ Kn H s _ fun vs Kn1 H1 g1 r1 => by
    obtain ⟨v, w, rfl, h1, h2⟩ := two_args r1
    exact ⟨v, w, rfl, k _ Kn1 H1 (hs ▸ ((s.grow g1).setv i h1).setv j h2)⟩
end

/-! ### what is walked -/
def WK {β : Type} [Rp β] (K : Fg) (Kn1 : Hp) (J : It) (xs : List β) : Prop := ∀ i Kn' H', Ex Kn1 Kn' → Ex Kn' H' →
  (∀ x, xs[i]? = some x → J.go i H' ∧ ∀ v H2, J.yld i H' v H2 → ∃ Kn2, Gr Kn' H' Kn2 H2 ∧ rep K Kn2 v x) ∧ (xs.length ≤ i → J.stop i H')
section
variable (K : Fg) (F Kn0 : Hp) (sl : List Sl) (ow : List Ow)
def IT {β : Type} [Rp β] (wi : TI) (xs : List β) : Prop := ∀ σ Kn H, S K F Kn0 sl ow σ Kn H → ∀ R : It → Hp → Prop, (∀ J Kn1 H1, Gr Kn H Kn1 H1 → WK K Kn1 J xs → R J H1) → wi σ H R
def ITM {β : Type} [Rp β] (wi : TI) (ow' : List Ow) (xs : List β) : Prop := ∀ σ Kn H, S K F Kn0 sl ow σ Kn H → ∀ R : It → Hp → Prop, (∀ J Kn1 H1, Ex Kn Kn1 → S K F Kn0 sl ow' σ Kn1 H1 → WK K Kn1 J xs → R J H1) → wi σ H R
end
/-- lo, lo + 1 .. below hi -/
def irange (lo hi : Int) : List Int := (List.range (hi - lo).toNat).map fun (k : Nat) => lo + (k : Int)
def rngO (lo hi : Int) : Option (List Int) := if -1000000000000 ≤ lo ∧ lo ≤ 1000000000000 ∧ -1000000000000 ≤ hi ∧ hi ≤ 1000000000000 then some (irange lo hi) else none
def enumI {α : Type} (xs : List α) : List (Int × α × Unit) := xs.mapIdx fun i x => ((i : Int), x, ())
def zipI {α β : Type} (xs : List α) (ys : List β) : List (α × β × Unit) := List.zipWith (fun a b => (a, b, ())) xs ys
section
variable {K : Fg} {F Kn0 : Hp} {sl sl' : List Sl} {ow ow1 : List Ow} {α β : Type} [Rp α] [Rp β] {te : TE} {ta : TA}
theorem IT.m {wi : TI} {xs : List β} (h : IT K F Kn0 sl ow wi xs) : ITM K F Kn0 sl ow wi ow xs := fun σ Kn H s R q => h σ Kn H s R fun J Kn1 H1 g w => q J Kn1 H1 g.kk (s.grow g) w
theorem wk_list {Kn1 : Hp} {p : Addr} {ws : List V} {xs : List α} (h : SqL K Kn1 p ws) (r : Paired (rep K Kn1) ws xs) : WK K Kn1 (Itl K p) xs := fun i Kn' H' e1 e2 => by
  have hq : SqL K H' p ws := ex_l (e1.trans e2) h
  refine ⟨fun x hx => ?_, fun hl => ⟨ws, hq, by rw [paired_len r]; exact hl⟩⟩
  obtain ⟨v, hv, rv⟩ := paired_at r hx
  refine ⟨⟨ws, v, hq, hv⟩, fun u H2 hy => ?_⟩
  obtain ⟨rfl, f⟩ := hy
  have : v = u := Option.some.inj (hv.symm.trans (f ws hq))
  subst this
  exact ⟨Kn', Gr.refl e2, Rp.mono e1 rv⟩
theorem it_list {xs : List α} (h : EV K F Kn0 sl ow te xs) : IT K F Kn0 sl ow (iList K te) xs := fun σ Kn H s R q => h σ Kn H s _ fun v Kn1 H1 g1 r1 => by
  obtain ⟨p, ws, rfl, h3, h4⟩ := r1
  exact ⟨p, rfl, ⟨ws, sq_of (g1.kh _ _ h3)⟩, q _ Kn1 H1 g1 (wk_list (sq_of h3) h4)⟩
theorem it_listF {xs : Fz α} (h : EV K F Kn0 sl ow te xs) : IT K F Kn0 sl ow (iList K te) xs.l := fun σ Kn H s R q => h σ Kn H s _ fun v Kn1 H1 g1 r1 => by
  obtain ⟨p, ws, rfl, h3, h4⟩ := r1
  exact ⟨p, rfl, ⟨ws, ex_l g1.kh h3⟩, q _ Kn1 H1 g1 (wk_list h3 h4)⟩
theorem itm_list {xs : List α} (h : ENM K F Kn0 sl ow te ow1 xs) : ITM K F Kn0 sl ow (iList K te) ow1 xs := fun σ Kn H s R q => h σ Kn H s _ fun p ws Kn1 H1 e1 s1 fp kp no hw r1 => by
  have s2 := s1.know (o := .lst ws) fp kp no hw
  exact ⟨p, rfl, ⟨ws, sq_of hw⟩, q _ _ H1 (e1.trans (Ex.new kp)) s2 (wk_list (sq_of upd_same) (paired_mono (Ex.new kp) r1))⟩
theorem it_tup {xs : Tu α} (h : EV K F Kn0 sl ow te xs) : IT K F Kn0 sl ow (iTup K te) xs.l := fun σ Kn H s R q => h σ Kn H s _ fun v Kn1 H1 g1 r1 => by
  obtain ⟨p, ws, rfl, h3, h4⟩ := r1
  refine ⟨p, rfl, ⟨ws, st_of (g1.kh _ _ h3)⟩, q _ Kn1 H1 g1 fun i Kn' H' e1 e2 => ?_⟩
  have hq : SqT K H' p ws := st_of ((e1.trans e2) _ _ h3)
  refine ⟨fun x hx => ?_, fun hl => ⟨ws, hq, by rw [paired_len h4]; exact hl⟩⟩
  obtain ⟨v, hv, rv⟩ := paired_at h4 hx
  refine ⟨⟨ws, v, hq, hv⟩, fun u H2 hy => ?_⟩
  obtain ⟨rfl, f⟩ := hy
  have : v = u := Option.some.inj (hv.symm.trans (f ws hq))
  subst this
  exact ⟨Kn', Gr.refl e2, Rp.mono e1 rv⟩
theorem wk_range {Kn1 : Hp} (lo hi : Int) : WK K Kn1 (Itr lo (hi - lo).toNat) (irange lo hi) := fun i Kn' H' e1 e2 => by
  refine ⟨fun x hx => ?_, fun hl => ?_⟩
  · unfold irange at hx
    rw [List.getElem?_map] at hx
    cases q : (List.range (hi - lo).toNat)[i]? with
    | none => rw [q] at hx; cases hx
    | some m =>
      rw [q] at hx
      obtain ⟨hlt, he⟩ := List.getElem?_eq_some_iff.mp q
      rw [List.getElem_range] at he
      rw [List.length_range] at hlt
      subst he
      cases hx
      refine ⟨hlt, fun v H2 hy => ?_⟩
      obtain ⟨rfl, rfl⟩ := hy
      exact ⟨Kn', Gr.refl e2, rfl⟩
  · unfold irange at hl
    rw [List.length_map, List.length_range] at hl
    exact hl
theorem it_rng1 {n : Int} {xs : List Int} (h : EA K F Kn0 sl ow ta (n, ())) (hx : rngO 0 n = some xs) : IT K F Kn0 sl ow (iRng1 ta) xs := fun σ Kn H s R q => h σ Kn H s _ fun vs Kn1 H1 g1 r1 => by
  obtain ⟨v, rfl, h1⟩ := one_arg r1
  cases h1
  unfold rngO at hx
  split at hx
  · rename_i hb
    cases hx
    refine ⟨n, rfl, by omega, by omega, q _ Kn1 H1 g1 ?_⟩
    have w := wk_range (K := K) (Kn1 := Kn1) 0 n
    rw [Int.sub_zero] at w
    exact w
  · cases hx
theorem itm_rng1 {n : Int} {xs : List Int} (h : EAM K F Kn0 sl ow ta ow1 (n, ())) (hx : rngO 0 n = some xs) : ITM K F Kn0 sl ow (iRng1 ta) ow1 xs := fun σ Kn H s R q => h σ Kn H s _ fun vs Kn1 H1 e1 s1 r1 => by
  obtain ⟨v, rfl, h1⟩ := one_arg r1
  cases h1
  unfold rngO at hx
  split at hx
  · rename_i hb
    cases hx
    refine ⟨n, rfl, by omega, by omega, q _ Kn1 H1 e1 s1 ?_⟩
    have w := wk_range (K := K) (Kn1 := Kn1) 0 n
    rw [Int.sub_zero] at w
    exact w
  · cases hx
theorem it_rng2 {lo n : Int} {xs : List Int} (h : EA K F Kn0 sl ow ta (lo, n, ())) (hx : rngO lo n = some xs) : IT K F Kn0 sl ow (iRng2 ta) xs := fun σ Kn H s R q => h σ Kn H s _ fun vs Kn1 H1 g1 r1 => by
  obtain ⟨v, w, rfl, h1, h2⟩ := two_args r1
  cases h1
  cases h2
  unfold rngO at hx
  split at hx
  · rename_i hb
    cases hx
    exact ⟨lo, n, rfl, ⟨by omega, by omega, by omega, by omega⟩, q _ Kn1 H1 g1 (wk_range lo n)⟩
  · cases hx
theorem enum_get {xs : List α} {i : Nat} {y : Int × α × Unit} (h : (enumI xs)[i]? = some y) : ∃ x, xs[i]? = some x ∧ y = ((i : Int), x, ()) := by
  unfold enumI at h
  rw [List.getElem?_mapIdx] at h
  cases q : xs[i]? with
  | none => rw [q] at h; cases h
  | some x => rw [q] at h; cases h; exact ⟨x, rfl, rfl⟩
theorem wk_enum {Kn1 : Hp} {p : Addr} {ws : List V} {xs : List α} (h : SqL K Kn1 p ws) (r : Paired (rep K Kn1) ws xs) : WK K Kn1 (Ite K p) (enumI xs) := fun i Kn' H' e1 e2 => by
  have hq : SqL K H' p ws := ex_l (e1.trans e2) h
  refine ⟨fun y hy => ?_, fun hl => ⟨ws, hq, by rw [paired_len r]; simpa [enumI] using hl⟩⟩
  obtain ⟨x, hx, rfl⟩ := enum_get hy
  obtain ⟨v, hv, rv⟩ := paired_at r hx
  refine ⟨⟨ws, v, hq, hv⟩, fun u H2 hy => ?_⟩
  obtain ⟨T, z, rfl, hT, rfl, f⟩ := hy
  have : v = z := Option.some.inj (hv.symm.trans (f ws hq))
  subst this
  have g : Gr Kn' H' (upd Kn' T (.tup [.int (i : Nat), v])) (upd H' T (.tup [.int (i : Nat), v])) := Gr.new e2 hT
  exact ⟨_, g, T, _, rfl, upd_same, .int (i : Nat), [v], rfl, rfl, v, [], rfl, Rp.mono (e1.trans g.kk) rv, rfl⟩
theorem it_enum {xs : List α} (h : EA K F Kn0 sl ow ta (xs, ())) : IT K F Kn0 sl ow (iEnum K ta) (enumI xs) := fun σ Kn H s R q => h σ Kn H s _ fun vs Kn1 H1 g1 r1 => by
  obtain ⟨v, rfl, p, ws, rfl, h3, h4⟩ := one_arg r1
  exact ⟨p, ws, rfl, sq_of (g1.kh _ _ h3), q _ Kn1 H1 g1 (wk_enum (sq_of h3) h4)⟩
theorem zip_get {xs : List α} {ys : List β} {i : Nat} {z : α × β × Unit} (h : (zipI xs ys)[i]? = some z) : ∃ x y, xs[i]? = some x ∧ ys[i]? = some y ∧ z = (x, y, ()) := by
  unfold zipI at h
  rw [List.getElem?_zipWith] at h
  cases q : xs[i]? with
  | none => rw [q] at h; simp at h
  | some x =>
    cases q2 : ys[i]? with
    | none => rw [q, q2] at h; simp at h
    | some y =>
      rw [q, q2] at h
      simp at h
      exact ⟨x, y, rfl, rfl, h.symm⟩
theorem it_zip {xs : List α} {ys : List β} (h : EA K F Kn0 sl ow ta (xs, ys, ())) : IT K F Kn0 sl ow (iZip K ta) (zipI xs ys) := fun σ Kn H s R q => h σ Kn H s _ fun vs Kn1 H1 g1 r1 => by
  obtain ⟨v, w, rfl, ⟨p, ws, rfl, h3, h4⟩, ⟨p2, ws2, rfl, h5, h6⟩⟩ := two_args r1
  refine ⟨p, p2, ws, ws2, rfl, sq_of (g1.kh _ _ h3), sq_of (g1.kh _ _ h5), q _ Kn1 H1 g1 fun i Kn' H' e1 e2 => ?_⟩
  have hq : SqL K H' p ws := sq_of ((e1.trans e2) _ _ h3)
  have hq2 : SqL K H' p2 ws2 := sq_of ((e1.trans e2) _ _ h5)
  refine ⟨fun y hy => ?_, fun hl => ⟨ws, ws2, hq, hq2, ?_⟩⟩
  · obtain ⟨x, y, hx, hy2, rfl⟩ := zip_get hy
    obtain ⟨v, hv, rv⟩ := paired_at h4 hx
    obtain ⟨v2, hv2, rv2⟩ := paired_at h6 hy2
    refine ⟨⟨ws, ws2, v, v2, hq, hq2, hv, hv2⟩, fun u H2 hy => ?_⟩
    obtain ⟨T, z, z2, rfl, hT, rfl, f, f2⟩ := hy
    have e3 : v = z := Option.some.inj (hv.symm.trans (f ws hq))
    have e4 : v2 = z2 := Option.some.inj (hv2.symm.trans (f2 ws2 hq2))
    subst e3
    subst e4
    have g : Gr Kn' H' (upd Kn' T (.tup [v, v2])) (upd H' T (.tup [v, v2])) := Gr.new e2 hT
    exact ⟨_, g, T, _, rfl, upd_same, v, [v2], rfl, Rp.mono (e1.trans g.kk) rv, v2, [], rfl, Rp.mono (e1.trans g.kk) rv2, rfl⟩
  · rw [paired_len h4, paired_len h6]
    simp [zipI] at hl
    omega
end

/-! ### loops -/
structure Bs (F Kn0 Kn1 : Hp) : Prop where
  e : Ex Kn0 Kn1
  sp : ∀ p, F p ≠ none → Kn0 p = none → Kn1 p = none
section
variable {K : Fg} {F Kn0 Kn1 : Hp} {sl sl' : List Sl} {ow ow0 ow1 : List Ow} {α β γ : Type} [Rp α] [Rp β] [Rp γ] {D : Ends} {σ : L2.St} {Kn H : Hp}
theorem Bs.refl : Bs F Kn0 Kn0 := ⟨Ex.refl _, fun _ _ h => h⟩
theorem S.bs (s : S K F Kn0 sl ow σ Kn H) : Bs F Kn0 Kn := ⟨s.e0, s.sep⟩
theorem S.rebase (s : S K F Kn0 sl ow σ Kn H) : S K F Kn sl ow σ Kn H := ⟨Ex.refl _, s.ek, s.ef, fun _ _ h => h, s.sl, s.ow⟩
theorem S.unbase (b : Bs F Kn0 Kn1) (s : S K F Kn1 sl ow σ Kn H) : S K F Kn0 sl ow σ Kn H := ⟨b.e.trans s.e0, s.ek, s.ef, fun p h1 h2 => s.sep p h1 (b.sp p h1 h2), s.sl, s.ow⟩
theorem RT.base {R : VK} {x : α} (q : RT K F Kn0 ow R x) (b : Bs F Kn0 Kn1) : RT K F Kn1 ow R x := fun v Kn H s => q v Kn H (s.unbase b)
theorem RN.base {R : VK} {xs : List α} (q : RN K F Kn0 ow R xs) (b : Bs F Kn0 Kn1) : RN K F Kn1 ow R xs := fun p ws Kn H s => q p ws Kn H (s.unbase b)
theorem SN.base (q : SN K F Kn0 sl ow D) (b : Bs F Kn0 Kn1) : SN K F Kn1 sl ow D := fun σ Kn H s => q σ Kn H (s.unbase b)
theorem sb_for {wi : TI} {g : TG} {tb : TS} {Sx : Type} {xs : List β} (slx : Sx → List Sl) (owx : Sx → List Ow) (gx : β → Sx → List Sl) (js : List Nat) (P : List β → Sx → Prop) (s0 : Sx) (hi : ITM K F Kn0 sl ow wi ow1 xs) (h0 : P xs s0) (le : SlLe sl (slx s0)) (eo : (owx s0).Sublist ow1)
    (hg : ∀ x s, GT K g (slx s) (gx x s) js x)
    (step : ∀ Kn1, Bs F Kn0 Kn1 → ∀ x rest s, P (x :: rest) s → ∀ N : L2.St → Hp → Prop, (∀ s', P rest s' → ∀ σ Kn H, S K F Kn1 (slx s') (owx s') σ Kn H → N σ H) → SB K F Kn1 (gx x s) (owx s) { D with nx := N, ct := N, bk := D.nx } tb)
    (done : ∀ s, P [] s → SN K F Kn0 (slx s) (owx s) D) : SB K F Kn0 sl ow D (tFor wi g tb) := fun σ Kn H s =>
  hi σ Kn H s _ fun J Kn1 H1 e1 s1 w => by
    have b : Bs F Kn0 Kn1 := s1.bs
    refine ⟨fun i m σ H => i + m = xs.length ∧ ∃ Kn s, P (xs.drop i) s ∧ S K F Kn1 (slx s) (owx s) σ Kn H, ⟨xs.length, by omega, Kn1, s0, h0, (s1.rebase.le le).sub eo⟩, fun i m σ H hW => ?_⟩
    obtain ⟨em, Kn, s, hP, hS⟩ := hW
    by_cases hlt : i < xs.length
    · have hx : xs[i]? = some xs[i] := List.getElem?_eq_getElem hlt
      have hd : xs.drop i = xs[i] :: xs.drop (i + 1) := List.drop_eq_getElem_cons hlt
      rw [hd] at hP
      obtain ⟨go, yl⟩ := (w i Kn H hS.e0 hS.ek).1 _ hx
      refine .inr ⟨go, fun σ' H' => ∃ Kn s, P (xs.drop (i + 1)) s ∧ S K F Kn1 (slx s) (owx s) σ' Kn H', fun σ' H' ⟨Kn', s', h1, h2⟩ => ⟨m - 1, by omega, by omega, Kn', s', h1, h2⟩, fun v H' hy => ?_⟩
      obtain ⟨Kn2, g2, rv⟩ := yl v H' hy
      have hS2 := hS.grow g2
      refine hg _ s σ Kn2 H' v hS2.sl hS2.ek rv _ fun σ2 h2 _ => ?_
      exact step Kn1 b _ _ s hP _ (fun s' hs' σ Kn H hS' => ⟨Kn, s', hs', hS'⟩) σ2 Kn2 H' ⟨hS2.e0, hS2.ek, hS2.ef, hS2.sep, h2, hS2.ow⟩
    · have hd : xs.drop i = [] := List.drop_eq_nil_of_le (by omega)
      rw [hd] at hP
      exact .inl ⟨(w i Kn H hS.e0 hS.ek).2 (by omega), done s hP σ Kn H (hS.unbase b)⟩
theorem sb_while {tt : TT} {tb : TS} {Sx : Type} (slx : Sx → List Sl) (owx : Sx → List Ow) (P : Nat → Sx → Prop) (n0 : Nat) (s0 : Sx) (h0 : P n0 s0) (le : SlLe sl (slx s0)) (eo : (owx s0).Sublist ow)
    (step : ∀ n s, P n s → ∃ b, ET K F Kn0 (slx s) (owx s) tt b ∧
      (b = true → ∀ N : L2.St → Hp → Prop, (∀ m s', m < n → P m s' → ∀ σ Kn H, S K F Kn0 (slx s') (owx s') σ Kn H → N σ H) → SB K F Kn0 (slx s) (owx s) { D with nx := N, ct := N, bk := D.nx } tb) ∧ (b = false → SN K F Kn0 (slx s) (owx s) D)) :
    SB K F Kn0 sl ow D (tWhile tt tb) := fun σ Kn H s => by
  refine ⟨fun n σ H => ∃ Kn s, P n s ∧ S K F Kn0 (slx s) (owx s) σ Kn H, ⟨n0, Kn, s0, h0, (s.le le).sub eo⟩, fun n σ H hW => ?_⟩
  obtain ⟨Kn, s, hP, hS⟩ := hW
  obtain ⟨b, h1, h2, h3⟩ := step n s hP
  refine h1 σ Kn H hS _ fun Kn1 H1 g1 => ?_
  cases b with
  | true => exact iteT ⟨fun σ H => ∃ m Kn s, m < n ∧ P m s ∧ S K F Kn0 (slx s) (owx s) σ Kn H, fun σ' H' ⟨m, Kn', s', hm, hp, hs⟩ => ⟨m, hm, Kn', s', hp, hs⟩, h2 rfl _ (fun m s' hm hp σ Kn H hs => ⟨m, Kn, s', hm, hp, hs⟩) σ Kn1 H1 (hS.grow g1)⟩
  | false => exact iteF (h3 rfl σ Kn1 H1 (hS.grow g1))
end

/-! ### comprehensions -/
def lcGo {β γ : Type} (c : β → Option Bool) (f : β → Option γ) : List β → Option (List γ)
  | [] => some []
  | x :: xs => (c x).bind fun b => if b = true then (f x).bind fun z => (lcGo c f xs).bind fun zs => some (z :: zs) else lcGo c f xs
def lcM {β γ : Type} (c : β → Option Bool) (f : β → Option γ) (xs : List β) : Option (List γ) := if xs.length < 1000000 then lcGo c f xs else none
def lcSGo {β γ Sx : Type} (f : β → Sx → Option (γ × Sx)) : List β → Sx → Option (List γ × Sx)
  | [], s => some ([], s)
  | x :: xs, s => (f x s).bind fun r => (lcSGo f xs r.2).bind fun q => some (r.1 :: q.1, q.2)
def lcS {β γ Sx : Type} (f : β → Sx → Option (γ × Sx)) (xs : List β) (s : Sx) : Option (List γ × Sx) := if xs.length < 1000000 then lcSGo f xs s else none
section
variable {K : Fg} {F Kn0 : Hp} {sl sl' : List Sl} {ow ow0 ow1 : List Ow} {α β γ : Type} [Rp α] [Rp β] [Rp γ] {σ : L2.St} {Kn H : Hp} {tt : TT} {te : TE} {wi : TI} {g : TG} {vs js : List Nat}
theorem bind_some {α β : Type} {m : Option α} {f : α → Option β} {r : β} (h : m.bind f = some r) : ∃ a, m = some a ∧ f a = some r := by
  cases m with
  | none => cases h
  | some a => exact ⟨a, rfl, h⟩
theorem SlsOk.wipe : ∀ {vs : List Nat} {Kn : Hp} {sl : List Sl} {σ : L2.St}, (∀ j ∈ vs, sl[j]? = some .any) → SlsOk K Kn sl σ → SlsOk K Kn sl (wipe σ vs)
  | [], _, _, _, _, h => h
  | v :: vs, Kn, sl, σ, hv, h => by
    have h1 := SlsOk.wipe (vs := vs) (fun j hj => hv j (List.mem_cons_of_mem _ hj)) h
    have h2 := SlsOk.set (K := K) (H := Kn) (s := .any) (o := none) trivial v h1
    have e : sl.set v .any = sl := by
      refine List.ext_getElem? fun m => ?_
      have hm := hv v List.mem_cons_self
      by_cases q : v = m
      · subst q
        rw [List.getElem?_set_self (List.getElem?_eq_some_iff.mp hm).1, hm]
      · rw [List.getElem?_set_ne q]
    rw [e] at h2
    exact h2
theorem S.wipe (s : S K F Kn0 sl ow σ Kn H) (hv : ∀ j ∈ vs, sl[j]? = some .any) : S K F Kn0 sl ow (wipe σ vs) Kn H := ⟨s.e0, s.ek, s.ef, s.sep, s.sl.wipe hv, s.ow⟩
theorem Gr.mut {Kn' H' : Hp} {p : Addr} {o : HO} (g : Gr Kn H Kn' H') (hp : H p = none) (kp : Kn' p = none) : Gr Kn H Kn' (upd H' p o) :=
  ⟨g.kk, Ex.mut g.hh hp, upd_in g.kh kp, g.sp⟩
theorem S.slots {σ2 : L2.St} (s : S K F Kn0 sl ow σ Kn H) (h : SlsOk K Kn sl' σ2) : S K F Kn0 sl' ow σ2 Kn H := ⟨s.e0, s.ek, s.ef, s.sep, h, s.ow⟩
theorem en_lc {xs : List β} {zs : List γ} {c : β → Option Bool} {f : β → Option γ} (gx : β → List Sl) (hm : lcM c f xs = some zs) (hi : IT K F Kn0 sl ow wi xs) (hv : ∀ j ∈ vs, sl[j]? = some .any) (hg : ∀ x, GT K g sl (gx x) js x) (hj : ∀ j ∈ js, j ∈ vs)
    (ht : ∀ p (acc : List γ) x b, c x = some b → ET K F Kn0 (gx x) (ol p acc :: ow) tt b) (he : ∀ p (acc : List γ) x z, c x = some true → f x = some z → EV K F Kn0 (gx x) (ol p acc :: ow) te z) :
    EN K F Kn0 sl ow (tLc wi g tt te vs) zs := fun σ Kn H s Q q => by
  unfold lcM at hm
  split at hm
  case isFalse => cases hm
  rename_i hlen
  refine hi σ Kn H s _ fun J Kn1 H1 g1 w D hD => ?_
  have s1 := s.grow g1
  have kD : Kn1 D = none := fresh_back s1.ek hD
  have fD : F D = none := fresh_back s1.ef hD
  refine ⟨fun i m H' => i + m = xs.length ∧ ∃ Kn' ws acc rest, Gr Kn1 H1 Kn' H' ∧ Kn' D = none ∧ H' D = some (.lst ws) ∧ Paired (rep K Kn') ws acc ∧ acc.length ≤ i ∧ lcGo c f (xs.drop i) = some rest ∧ acc ++ rest = zs,
    ⟨xs.length, by omega, Kn1, [], [], zs, (Gr.newU g1.kh hD), kD, upd_same, .nil, Nat.le_refl _, hm, rfl⟩, fun i m H' hW => ?_⟩
  obtain ⟨em, Kn', ws, acc, rest, gr, kD', hD', rp, hal, hrest, hz⟩ := hW
  have s' : S K F Kn0 sl (ol D acc :: ow) σ Kn' H' := (s1.grow gr).own fD kD' (owned_ne s1 hD) hD' rp
  by_cases hlt : i < xs.length
  · have hx : xs[i]? = some xs[i] := List.getElem?_eq_getElem hlt
    have hd : xs.drop i = xs[i] :: xs.drop (i + 1) := List.drop_eq_getElem_cons hlt
    rw [hd] at hrest
    obtain ⟨b, hb, hrest⟩ := bind_some hrest
    obtain ⟨go, yl⟩ := (w i Kn' H' gr.kk gr.kh).1 _ hx
    refine .inr ⟨go, fun H'' => ∃ Kn' ws acc rest, Gr Kn1 H1 Kn' H'' ∧ Kn' D = none ∧ H'' D = some (.lst ws) ∧ Paired (rep K Kn') ws acc ∧ acc.length ≤ i + 1 ∧ lcGo c f (xs.drop (i + 1)) = some rest ∧ acc ++ rest = zs, fun H'' h => ⟨m - 1, by omega, by omega, h⟩, fun v H2 hy => ?_⟩
    obtain ⟨Kn2, g2, rv⟩ := yl v H2 hy
    have s2 := (s'.grow g2).wipe hv
    refine hg _ _ Kn2 H2 v s2.sl s2.ek rv _ fun σ3 h3 hw3 => ?_
    have s3 := s2.slots h3
    have hDn : H' D ≠ none := ne_none_of hD'
    refine ⟨(hw3 vs hj).trans ?_, ht D acc _ b hb σ3 Kn2 H2 s3 _ fun Kn3 H3 g3 => ?_⟩
    · have ww : ∀ (vs us : List Nat) (σ : L2.St), (∀ j ∈ vs, j ∈ us) → L2.wipe (L2.wipe σ vs) us = L2.wipe σ us := by
        intro vs
        induction vs with
        | nil => intro us σ _; rfl
        | cons a r ih =>
          intro us σ hh
          show L2.wipe ((L2.wipe σ r).set a none) us = L2.wipe σ us
          rw [wipe_set (hh a List.mem_cons_self)]
          exact ih us σ fun j hj => hh j (List.mem_cons_of_mem _ hj)
      exact ww vs vs σ fun _ h => h
    · have g123 : Gr Kn1 H1 Kn3 H3 := (gr.trans g2).trans g3
      have kD3 : Kn3 D = none := (g2.trans g3).sp D hDn kD'
      have hD3 : H3 D = some (.lst ws) := (g2.trans g3).hh _ _ hD'
      cases b with
      | true =>
        obtain ⟨z, hfz, hrest⟩ := bind_some (show (f xs[i]).bind _ = some rest from hrest)
        obtain ⟨zs', hzs, hrest⟩ := bind_some hrest
        cases hrest
        refine iteT (he D acc _ z hb hfz σ3 Kn3 H3 (s3.grow g3) _ fun y Kn4 H4 g4 ry => ?_)
        have g234 := (g2.trans g3).trans g4
        have kD4 : Kn4 D = none := g4.sp D (ne_none_of hD3) kD3
        refine ⟨ws, g4.hh _ _ hD3, by rw [paired_len rp]; exact lt_line (by omega), Kn4, ws ++ [y], acc ++ [z], zs', (gr.trans g234).mut hD kD4, kD4, upd_same, paired_append (paired_mono g234.kk rp) (.cons ry .nil), ?_, hzs, ?_⟩
        · rw [List.length_append, List.length_singleton]; omega
        · rw [List.append_assoc]; exact hz
      | false =>
        have hrest : lcGo c f (xs.drop (i + 1)) = some rest := hrest
        exact iteF ⟨Kn3, ws, acc, rest, g123, kD3, hD3, paired_mono (g2.trans g3).kk rp, by omega, hrest, hz⟩
  · have hd : xs.drop i = [] := List.drop_eq_nil_of_le (by omega)
    rw [hd] at hrest
    cases hrest
    rw [List.append_nil] at hz
    subst hz
    exact .inl ⟨(w i Kn' H' gr.kk gr.kh).2 (by omega), q D ws Kn' H' (g1.trans gr) (fresh_back g1.hh hD) kD' hD' rp⟩
theorem et_yes : ET K F Kn0 sl ow tYes true := fun σ Kn H s Q q => q Kn H (Gr.refl s.ek)
/-- what changes on the way: owx -/
theorem enm_lc {Sx : Type} {xs : List β} {zs : List γ} {f : β → Sx → Option (γ × Sx)} (owx : Sx → List Ow) (gx : β → List Sl) (s0 s9 : Sx) (hm : lcS f xs s0 = some (zs, s9)) (hi : ITM K F Kn0 sl ow wi (owx s0) xs) (hv : ∀ j ∈ vs, sl[j]? = some .any) (hg : ∀ x, GT K g sl (gx x) js x) (hj : ∀ j ∈ js, j ∈ vs)
    (he : ∀ Kn1, Bs F Kn0 Kn1 → ∀ p (acc : List γ) x s z s', f x s = some (z, s') → EM K F Kn1 (gx x) (ol p acc :: owx s) te (ol p acc :: owx s') z) :
    ENM K F Kn0 sl ow (tLc wi g tYes te vs) (owx s9) zs := fun σ Kn H s Q q => by
  unfold lcS at hm
  split at hm
  case isFalse => cases hm
  rename_i hlen
  refine hi σ Kn H s _ fun J Kn1 H1 e1 s1 w D hD => ?_
  have kD : Kn1 D = none := fresh_back s1.ek hD
  have fD : F D = none := fresh_back s1.ef hD
  have b1 : Bs F Kn0 Kn1 := s1.bs
  refine ⟨fun i m H' => i + m = xs.length ∧ ∃ Kn' st acc rest, S K F Kn1 sl (ol D acc :: owx st) σ Kn' H' ∧ acc.length ≤ i ∧ lcSGo f (xs.drop i) st = some (rest, s9) ∧ acc ++ rest = zs,
    ⟨xs.length, by omega, Kn1, s0, [], zs, ?_, Nat.le_refl _, hm, rfl⟩, fun i m H' hW => ?_⟩
  · have s2 := s1.rebase.grow (Gr.newU (o := .lst []) s1.ek hD)
    exact s2.own fD kD (owned_ne s1 hD) upd_same .nil
  obtain ⟨em, Kn', st, acc, rest, s', hal, hrest, hz⟩ := hW
  obtain ⟨_, kD', ws, hD', rp⟩ := s'.ow.each (ol D acc) List.mem_cons_self
  have hD' : H' D = some (.lst ws) := hD'
  by_cases hlt : i < xs.length
  · have hx : xs[i]? = some xs[i] := List.getElem?_eq_getElem hlt
    have hd : xs.drop i = xs[i] :: xs.drop (i + 1) := List.drop_eq_getElem_cons hlt
    rw [hd] at hrest
    obtain ⟨⟨z, st'⟩, hf, hrest⟩ := bind_some hrest
    obtain ⟨⟨zs', s9'⟩, hzs, hrest⟩ := bind_some hrest
    have h9 := Option.some.inj hrest
    have h91 : z :: zs' = rest := congrArg Prod.fst h9
    have h92 : s9' = s9 := congrArg Prod.snd h9
    rw [h92] at hzs
    subst h91
    obtain ⟨go, yl⟩ := (w i Kn' H' s'.e0 s'.ek).1 _ hx
    refine .inr ⟨go, fun H'' => ∃ Kn' st acc rest, S K F Kn1 sl (ol D acc :: owx st) σ Kn' H'' ∧ acc.length ≤ i + 1 ∧ lcSGo f (xs.drop (i + 1)) st = some (rest, s9) ∧ acc ++ rest = zs, fun H'' h => ⟨m - 1, by omega, by omega, h⟩, fun v H2 hy => ?_⟩
    obtain ⟨Kn2, g2, rv⟩ := yl v H2 hy
    have s2 := (s'.grow g2).wipe hv
    refine hg _ _ Kn2 H2 v s2.sl s2.ek rv _ fun σ3 h3 hw3 => ?_
    have s3 := s2.slots h3
    refine ⟨(hw3 vs hj).trans ?_, ?_⟩
    · have ww : ∀ (vs us : List Nat) (σ : L2.St), (∀ j ∈ vs, j ∈ us) → L2.wipe (L2.wipe σ vs) us = L2.wipe σ us := by
        intro vs
        induction vs with
        | nil => intro us σ _; rfl
        | cons a r ih =>
          intro us σ hh
          show L2.wipe ((L2.wipe σ r).set a none) us = L2.wipe σ us
          rw [wipe_set (hh a List.mem_cons_self)]
          exact ih us σ fun j hj => hh j (List.mem_cons_of_mem _ hj)
      exact ww vs vs σ fun _ h => h
    · unfold tYes
      refine iteT ?_
      refine he Kn1 b1 D acc _ st z st' hf σ3 Kn2 H2 s3 _ fun y Kn4 H4 e4 s4 ry => ?_
      obtain ⟨_, kD4, ws4, hD4, rp4⟩ := s4.ow.each (ol D acc) List.mem_cons_self
      have kD4 : Kn4 D = none := kD4
      have s5 : S K F Kn1 (gx xs[i]) (ol D (acc ++ [z]) :: owx st') σ3 Kn4 (upd H4 D (.lst (ws4 ++ [y]))) := s4.write (j := 0) (xs' := acc ++ [z]) rfl (Ex.refl _) (upd_in s4.ek kD4) (fun q hq _ => upd_ne hq) (fun _ _ h => h) upd_same (paired_append rp4 (.cons ry .nil))
      have hsl : SlsOk K Kn4 sl σ := s'.sl.mono (g2.kk.trans e4)
      refine ⟨ws4, hD4, by rw [paired_len rp4]; exact lt_line (by omega), Kn4, st', acc ++ [z], zs', s5.slots hsl, ?_, hzs, ?_⟩
      · rw [List.length_append, List.length_singleton]; omega
      · rw [List.append_assoc]; exact hz
  · have hd : xs.drop i = [] := List.drop_eq_nil_of_le (by omega)
    rw [hd] at hrest
    have h9 := Option.some.inj hrest
    have h91 : [] = rest := congrArg Prod.fst h9
    have h92 : st = s9 := congrArg Prod.snd h9
    subst h91
    subst h92
    rw [List.append_nil] at hz
    subst hz
    have no : ∀ o ∈ owx st, o.ad ≠ D := fun o ho z => (List.nodup_cons.mp s'.ow.nd).1 (List.mem_map.mpr ⟨o, ho, z⟩)
    exact .inl ⟨(w i Kn' H' s'.e0 s'.ek).2 (by omega), q D ws Kn' H' (e1.trans s'.e0) ((s'.unbase b1).sub (List.sublist_cons_self _ _)) fD kD' no hD' rp⟩
end
end Wk
/-! Wk4: loops as functions, == of data, kinds, lists of one's own that are read -/
namespace Wk
open PySem PySem.Spec L2 Evl

/-! ### the mirrors' words -/
inductive Ctl (Sx R : Type) where
  | nx (s : Sx)
  | bk (s : Sx)
  | rt (r : R)
def forS {β Sx : Type} (f : β → Sx → Option Sx) : List β → Sx → Option Sx
  | [], s => some s
  | x :: xs, s => (f x s).bind (forS f xs)
def forC {β Sx R : Type} (f : β → Sx → Option (Ctl Sx R)) : List β → Sx → Option (Ctl Sx R)
  | [], s => some (.nx s)
  | x :: xs, s => (f x s).bind fun c => match c with
    | .nx s' => forC f xs s'
    | .bk s' => some (.nx s')
    | .rt r => some (.rt r)
def whileS {Sx : Type} (c : Sx → Option Bool) (f : Sx → Option Sx) : Nat → Sx → Option Sx
  | 0, _ => none
  | n + 1, s => (c s).bind fun b => if b = true then (f s).bind (whileS c f n) else some s
def whileC {Sx R : Type} (c : Sx → Option Bool) (f : Sx → Option (Ctl Sx R)) : Nat → Sx → Option (Ctl Sx R)
  | 0, _ => none
  | n + 1, s => (c s).bind fun b => if b = true then (f s).bind fun c' => match c' with
    | .nx s' => whileC c f n s'
    | .bk s' => some (.nx s')
    | .rt r => some (.rt r) else some (.nx s)
theorem whileS_more {Sx : Type} {c : Sx → Option Bool} {f : Sx → Option Sx} : ∀ {n m : Nat} {s r : Sx}, whileS c f n s = some r → n ≤ m → whileS c f m s = some r
  | 0, _, _, _, h, _ => by cases h
  | n + 1, 0, _, _, _, h => absurd h (Nat.not_succ_le_zero _)
  | n + 1, m + 1, s, r, h, hm => by
    unfold whileS at h ⊢
    cases e : c s with
    | none => rw [e] at h; cases h
    | some b =>
      rw [e] at h
      cases b with
      | false => exact h
      | true =>
        have h : ((f s).bind (whileS c f n)) = some r := h
        show ((f s).bind (whileS c f m)) = some r
        cases e2 : f s with
        | none => rw [e2] at h; cases h
        | some s' =>
          rw [e2] at h
          exact whileS_more (show whileS c f n s' = some r from h) (Nat.le_of_succ_le_succ hm)
theorem whileC_more {Sx R : Type} {c : Sx → Option Bool} {f : Sx → Option (Ctl Sx R)} : ∀ {n m : Nat} {s : Sx} {r : Ctl Sx R}, whileC c f n s = some r → n ≤ m → whileC c f m s = some r
  | 0, _, _, _, h, _ => by cases h
  | n + 1, 0, _, _, _, h => absurd h (Nat.not_succ_le_zero _)
  | n + 1, m + 1, s, r, h, hm => by
    unfold whileC at h ⊢
    cases e : c s with
    | none => rw [e] at h; cases h
    | some b =>
      rw [e] at h
      cases b with
      | false => exact h
      | true =>
        have h : ((f s).bind _) = some r := h
        show ((f s).bind _) = some r
        cases e2 : f s with
        | none => rw [e2] at h; cases h
        | some k =>
          rw [e2] at h
          cases k with
          | nx s' => exact whileC_more (show whileC c f n s' = some r from h) (Nat.le_of_succ_le_succ hm)
          | bk _ => exact h
          | rt _ => exact h
/-- a while, for as many turns as it takes -/
noncomputable def whileF {Sx : Type} (c : Sx → Option Bool) (f : Sx → Option Sx) (s : Sx) : Option Sx := by
  classical exact if h : ∃ n r, whileS c f n s = some r then some h.choose_spec.choose else none
theorem whileF_some {Sx : Type} {c : Sx → Option Bool} {f : Sx → Option Sx} {s r : Sx} (h : whileF c f s = some r) : ∃ n, whileS c f n s = some r := by
  unfold whileF at h
  split at h
  · rename_i he
    refine ⟨he.choose, ?_⟩
    rw [← Option.some.inj h]
    exact he.choose_spec.choose_spec
  · cases h
theorem whileF_of {Sx : Type} {c : Sx → Option Bool} {f : Sx → Option Sx} {n : Nat} {s r : Sx} (h : whileS c f n s = some r) : whileF c f s = some r := by
  have he : ∃ n r, whileS c f n s = some r := ⟨n, r, h⟩
  unfold whileF
  rw [dif_pos he]
  have h2 := he.choose_spec.choose_spec
  have a := whileS_more h (Nat.le_max_left n he.choose)
  have b := whileS_more h2 (Nat.le_max_right n he.choose)
  exact b.symm.trans a
noncomputable def whileCF {Sx R : Type} (c : Sx → Option Bool) (f : Sx → Option (Ctl Sx R)) (s : Sx) : Option (Ctl Sx R) := by
  classical exact if h : ∃ n r, whileC c f n s = some r then some h.choose_spec.choose else none
theorem whileCF_some {Sx R : Type} {c : Sx → Option Bool} {f : Sx → Option (Ctl Sx R)} {s : Sx} {r : Ctl Sx R} (h : whileCF c f s = some r) : ∃ n, whileC c f n s = some r := by
  unfold whileCF at h
  split at h
  · rename_i he
    refine ⟨he.choose, ?_⟩
    rw [← Option.some.inj h]
    exact he.choose_spec.choose_spec
  · cases h
theorem whileCF_of {Sx R : Type} {c : Sx → Option Bool} {f : Sx → Option (Ctl Sx R)} {n : Nat} {s : Sx} {r : Ctl Sx R} (h : whileC c f n s = some r) : whileCF c f s = some r := by
  have he : ∃ n r, whileC c f n s = some r := ⟨n, r, h⟩
  unfold whileCF
  rw [dif_pos he]
  have h2 := he.choose_spec.choose_spec
  have a := whileC_more h (Nat.le_max_left n he.choose)
  have b := whileC_more h2 (Nat.le_max_right n he.choose)
  exact b.symm.trans a
def appO {α : Type} (xs : List α) (x : α) : Option (List α) := if xs.length < 1000000 then some (xs ++ [x]) else none
def modO (i j : Int) : Option Int := if 0 < j then some (i % j) else none
def divO (i j : Int) : Option Int := if 0 < j ∧ j < 18446744073709551616 then some (i / j) else none
def mulO (i j : Int) : Option Int := if -18446744073709551616 < i ∧ i < 18446744073709551616 then some (i * j) else none
def catO {α : Type} (xs ys : List α) : Option (List α) := if xs.length + ys.length ≤ 1000000 then some (xs ++ ys) else none
theorem appO_some {α : Type} {xs ys : List α} {x : α} (h : appO xs x = some ys) : xs.length < 1000000 ∧ ys = xs ++ [x] := by
  unfold appO at h
  split at h
  · exact ⟨by assumption, (Option.some.inj h).symm⟩
  · cases h
theorem appO_ok {α : Type} {xs : List α} {x : α} (h : xs.length < 1000000) : appO xs x = some (xs ++ [x]) := if_pos h
theorem modO_ok {i j : Int} (h : 0 < j) : modO i j = some (i % j) := if_pos h
theorem divO_ok {i j : Int} (h : 0 < j) (h2 : j < 18446744073709551616) : divO i j = some (i / j) := if_pos ⟨h, h2⟩
theorem mulO_ok {i j : Int} (h : -18446744073709551616 < i) (h2 : i < 18446744073709551616) : mulO i j = some (i * j) := if_pos ⟨h, h2⟩
theorem catO_ok {α : Type} {xs ys : List α} (h : xs.length + ys.length ≤ 1000000) : catO xs ys = some (xs ++ ys) := if_pos h

section
variable {K : Fg} {F Kn0 : Hp} {sl sl' : List Sl} {ow ow0 ow1 ow2 : List Ow} {α β γ τ : Type} [Rp α] [Rp β] [Rp γ] [Tp τ] {ta tb te : TE} {x : α} {D : Ends} {t u tz : TS} {tt : TT} {b : Bool} {i j : Nat} {p : Addr}
theorem SB.sn (h : SB K F Kn0 sl ow D tz) : SN K F Kn0 sl ow { D with nx := tz D } := h
theorem r2_modO {i j z : Int} (h : modO i j = some z) : R2V K (rI (fun _ j => 0 < j) fun i j => .int (i % j)) i j z := by
  unfold modO at h
  split at h
  · cases h
    exact r2_I (by assumption)
  · cases h
theorem r2_divO {i j z : Int} (h : divO i j = some z) : R2V K (rI CDivW fun i j => .int (i / j)) i j z := by
  unfold divO at h
  split at h
  · rename_i hb
    cases h
    exact r2_I (wide_div (b := 64) hb.1 (by omega) (by decide) (by decide))
  · cases h
theorem r2_mulO {i j z : Int} (h : mulO i j = some z) : R2V K (rI CMul fun i j => .int (i * j)) i j z := by
  unfold mulO at h
  split at h
  · rename_i hb
    cases h
    exact r2_I (.inl ⟨by omega, by omega⟩)
  · cases h
theorem r2_catO {xs ys zs : List α} (h : catO xs ys = some zs) : R2L K rCat xs ys zs := by
  unfold catO at h
  split at h
  · cases h
    exact r2_cat (by assumption)
  · cases h
theorem sb_appO {xs xs' : List α} (hi : sl[i]? = some (.at p)) (hj : ow[j]? = some (ol p xs)) (h : EV K F Kn0 sl ow te x) (hx : appO xs x = some xs') (ho : ow.set j (ol p xs') = ow1) (k : SN K F Kn0 sl ow1 D) :
    SB K F Kn0 sl ow D (tDrop (tBM K "list" rAppend (tVar i) (tCons te tNil))) := by
  obtain ⟨h1, rfl⟩ := appO_some hx
  subst ho
  exact sb_app hi hj h h1 k
theorem sb_appOM {xs xs' : List α} (hi : sl[i]? = some (.at p)) (hi0 : ow[j]? = some (ol p xs)) (h : EM K F Kn0 sl ow te ow1 x) (hj : ow1[j]? = some (ol p xs)) (hx : appO xs x = some xs') (ho : ow1.set j (ol p xs') = ow2) (k : SN K F Kn0 sl ow2 D) :
    SB K F Kn0 sl ow D (tDrop (tBM K "list" rAppend (tVar i) (tCons te tNil))) := by
  obtain ⟨h1, rfl⟩ := appO_some hx
  subst ho
  exact sb_appM hi hi0 h hj h1 k
theorem sb_setO {xs xs' : List α} {n : Int} (hi : sl[i]? = some (.at p)) (hj : ow[j]? = some (ol p xs)) (h : EV K F Kn0 sl ow te x) (hn : EV K F Kn0 sl ow tb n) (hx : setI xs n x = some xs') (ho : ow.set j (ol p xs') = ow1) (k : SN K F Kn0 sl ow1 D) :
    SB K F Kn0 sl ow D (tAsg te (gSub (tVar i) tb rSetL)) := by
  subst ho
  exact sb_setI hi hj h hn hx k

/-! ### lists of one's own, read -/
theorem S.borrow {σ : L2.St} {Kn H : Hp} {xs : List α} (s : S K F Kn0 sl ow σ Kn H) (hi : sl[i]? = some (.at p)) (hj : ow[j]? = some (ol p xs)) : ∃ ws, Kn p = none ∧ H p = some (.lst ws) ∧ S K F Kn0 (sl.set i (sv xs)) (ow.eraseIdx j) σ (upd Kn p (.lst ws)) H := by
  obtain ⟨o, h1, h2⟩ := s.sl.get hi
  have h2 : o = some (.ref p) := h2
  obtain ⟨f1, f2, ws, f3, f4⟩ := s.ow.each _ (List.mem_of_getElem? hj)
  have s1 := s.sub (List.eraseIdx_sublist ow j)
  have no : ∀ o ∈ ow.eraseIdx j, o.ad ≠ p := fun o hm z => by
    obtain ⟨m, hm'⟩ := List.getElem?_of_mem hm
    rw [List.getElem?_eraseIdx] at hm'
    split at hm'
    · have := ow_at s.ow.nd hm' hj z
      omega
    · have := ow_at s.ow.nd hm' hj z
      omega
  have s2 := s1.know (o := .lst ws) f1 f2 no f3
  have hσ : σ.set i o = σ := by
    refine List.ext_getElem? fun m => ?_
    by_cases e : i = m
    · subst e
      rw [List.getElem?_set_self (List.getElem?_eq_some_iff.mp h1).1, h1]
    · rw [List.getElem?_set_ne e]
  have s3 := s2.set (x := sv xs) (o := o) i ⟨.ref p, h2, p, ws, rfl, upd_same, paired_mono (Ex.new f2) f4⟩
  rw [hσ] at s3
  exact ⟨ws, f2, f3, s3⟩
theorem ev_bor {γ : Type} [Rp γ] [Fl γ] {z : γ} {xs : List α} (hi : sl[i]? = some (.at p)) (hj : ow[j]? = some (ol p xs)) (hs : sl.set i (sv xs) = sl') (ho : ow.eraseIdx j = ow1) (h : EV K F Kn0 sl' ow1 te z) : EV K F Kn0 sl ow te z := fun σ Kn H s Q q => by
  obtain ⟨ws, kp, hp, s1⟩ := s.borrow hi hj
  subst hs
  subst ho
  exact h σ _ H s1 Q fun v Kn' H' g r => q v Kn H' ⟨Ex.refl _, g.hh, s.ek.trans g.hh, fun _ _ h => h⟩ (Fl.iff.mpr (Fl.iff.mp r))
theorem et_bor {xs : List α} (hi : sl[i]? = some (.at p)) (hj : ow[j]? = some (ol p xs)) (hs : sl.set i (sv xs) = sl') (ho : ow.eraseIdx j = ow1) (h : ET K F Kn0 sl' ow1 tt b) : ET K F Kn0 sl ow tt b := fun σ Kn H s Q q => by
  obtain ⟨ws, kp, hp, s1⟩ := s.borrow hi hj
  subst hs
  subst ho
  exact h σ _ H s1 Q fun Kn' H' g => q Kn H' ⟨Ex.refl _, g.hh, s.ek.trans g.hh, fun _ _ h => h⟩
theorem ev_ixO {xs : List α} {n : Int} {z : α} (hi : sl[i]? = some (.at p)) (hj : ow[j]? = some (ol p xs)) (hn : EV K F Kn0 sl ow tb n) (hz : atI xs n = some z) : EV K F Kn0 sl ow (tOp (rIxL K) (tVar i) tb) z := fun σ Kn H s Q q => by
  obtain ⟨o, h1, h2⟩ := s.sl.get hi
  obtain ⟨f1, f2, ws, f3, f4⟩ := s.ow.each _ (List.mem_of_getElem? hj)
  refine ⟨.ref p, by rw [h1]; exact congrArg some h2, hn σ Kn H s _ fun v Kn1 H1 g1 r1 => ?_⟩
  cases r1
  obtain ⟨u, e, r⟩ := paired_atI f4 hz
  exact ⟨p, ws, n, u, rfl, rfl, sq_of (g1.hh _ _ f3), e, q u Kn1 H1 g1 (Rp.mono g1.kk r)⟩
theorem en_slO {xs : List α} {tl th : TO} {lo hi : Option Int} (hx : sl[i]? = some (.at p)) (hj : ow[j]? = some (ol p xs)) (hl : EO K F Kn0 sl ow tl lo) (hh : EO K F Kn0 sl ow th hi) : EN K F Kn0 sl ow (tSl (rSlL K) (tVar i) tl th) (cut xs lo hi) := fun σ Kn H s Q q => by
  obtain ⟨o, h1, h2⟩ := s.sl.get hx
  obtain ⟨f1, f2, ws, f3, f4⟩ := s.ow.each _ (List.mem_of_getElem? hj)
  refine ⟨.ref p, by rw [h1]; exact congrArg some h2, hl σ Kn H s _ fun Kn2 H2 g2 => hh σ Kn2 H2 (s.grow g2) _ fun Kn3 H3 g3 => ?_⟩
  have g := g2.trans g3
  exact ⟨p, ws, rfl, sq_of (g.hh _ _ f3), fun l hl => q l _ Kn3 _ (g.trans (Gr.newU g3.kh hl)) (fresh_back g.hh hl) (fresh_back g3.kh hl) upd_same (paired_cut (paired_mono g.kk f4) lo hi)⟩
end

/-! ### == -/
class Pd (α : Type) [Rp α] where
  toD : α → PyData
  dp : Nat
  isD : ∀ {K : Fg} {H : Hp} {v : V} {a : α}, rep K H v a → Dp K H v (toD a)
  dep : ∀ a, (toD a).depth ≤ dp
  eqd : ∀ a b : α, PyData.eqv (toD a) (toD b) = true ↔ a = b
class Pq (τ : Type) [Tp τ] where
  toDs : τ → List PyData
  dp : Nat
  isD : ∀ {K : Fg} {H : Hp} {vs : List V} {a : τ}, rept K H vs a → DpAll K H vs (toDs a)
  dep : ∀ a, PyData.depthAll (toDs a) ≤ dp
  eqd : ∀ a b : τ, PyData.eqvAll (toDs a) (toDs b) = true ↔ a = b
def okD {α : Type} [Rp α] [Pd α] (a : α) : Bool := (Pd.toD a).canLay0
instance : Pd Int := { toD := .int, dp := 0, isD := fun h => by cases h; exact .int _, dep := fun a => Nat.le_refl _, eqd := fun a b => by simp [PyData.eqv] }
instance : Pd Bool := { toD := .bool, dp := 0, isD := fun h => by cases h; exact .bl _, dep := fun a => Nat.le_refl _, eqd := fun a b => by simp [PyData.eqv] }
instance : Pd Str := { toD := .str, dp := 0, isD := fun h => by cases h; exact .str _, dep := fun a => Nat.le_refl _, eqd := fun a b => by simp [PyData.eqv] }
theorem eqvAll_map {α : Type} [Rp α] [Pd α] : ∀ (xs ys : List α), PyData.eqvAll (xs.map Pd.toD) (ys.map Pd.toD) = true ↔ xs = ys
  | [], [] => by simp [PyData.eqvAll]
  | [], y :: ys => by simp [PyData.eqvAll]
  | x :: xs, [] => by simp [PyData.eqvAll]
  | x :: xs, y :: ys => by
    simp only [List.map_cons, PyData.eqvAll, Bool.and_eq_true, Pd.eqd, eqvAll_map xs ys, List.cons.injEq]
theorem depthAll_map {α : Type} [Rp α] [Pd α] : ∀ (xs : List α), PyData.depthAll (xs.map Pd.toD) ≤ Pd.dp α
  | [] => Nat.zero_le _
  | x :: xs => by
    simp only [List.map_cons, PyData.depthAll]
    exact Nat.max_le.mpr ⟨Pd.dep x, depthAll_map xs⟩
theorem dpAll_of {α : Type} [Rp α] [Pd α] {K : Fg} {H : Hp} : ∀ {vs : List V} {xs : List α}, Paired (rep K H) vs xs → DpAll K H vs (xs.map Pd.toD)
  | _, _, .nil => .nil
  | _, _, .cons r t => .cons (Pd.isD r) (dpAll_of t)
instance {α : Type} [Rp α] [Pd α] : Pd (List α) where
  toD xs := .list (xs.map Pd.toD)
  dp := Pd.dp α + 1
  isD h := by
    obtain ⟨p, vs, rfl, h1, h2⟩ := h
    exact .lst (sq_of h1) (dpAll_of h2)
  dep a := by
    simp only [PyData.depth]
    exact Nat.succ_le_succ (depthAll_map a)
  eqd a b := by
    simp only [PyData.eqv]
    exact eqvAll_map a b
instance {α : Type} [Rp α] [Pd α] : Pd (Tu α) where
  toD xs := .tuple (xs.l.map Pd.toD)
  dp := Pd.dp α + 1
  isD h := by
    obtain ⟨p, vs, rfl, h1, h2⟩ := h
    exact .tup (st_of h1) (dpAll_of h2)
  dep a := by
    simp only [PyData.depth]
    exact Nat.succ_le_succ (depthAll_map a.l)
  eqd a b := by
    simp only [PyData.eqv]
    rw [eqvAll_map]
    cases a
    cases b
    simp
instance : Pq Unit where
  toDs _ := []
  dp := 0
  isD h := by cases h; exact .nil
  dep _ := Nat.le_refl _
  eqd _ _ := by simp [PyData.eqvAll]
instance {α τ : Type} [Rp α] [Tp τ] [Pd α] [Pq τ] : Pq (α × τ) where
  toDs t := Pd.toD t.1 :: Pq.toDs t.2
  dp := max (Pd.dp α) (Pq.dp τ)
  isD h := by
    obtain ⟨v, r, rfl, h1, h2⟩ := h
    exact .cons (Pd.isD h1) (Pq.isD h2)
  dep a := by
    simp only [PyData.depthAll]
    exact Nat.max_le.mpr ⟨Nat.le_trans (Pd.dep _) (Nat.le_max_left _ _), Nat.le_trans (Pq.dep _) (Nat.le_max_right _ _)⟩
  eqd a b := by
    simp only [PyData.eqvAll, Bool.and_eq_true, Pd.eqd, Pq.eqd]
    constructor
    · rintro ⟨h1, h2⟩
      exact Prod.ext h1 h2
    · rintro rfl
      exact ⟨rfl, rfl⟩
instance {α τ : Type} [Rp α] [Tp τ] [Pd α] [Pq τ] : Pd (α × τ) where
  toD t := .tuple (Pq.toDs t)
  dp := Pq.dp (α × τ) + 1
  isD h := by
    obtain ⟨p, vs, rfl, h1, h2⟩ := h
    exact .tup (st_of h1) (Pq.isD h2)
  dep a := by
    simp only [PyData.depth]
    exact Nat.succ_le_succ (Pq.dep a)
  eqd a b := by
    simp only [PyData.eqv]
    exact Pq.eqd a b
/-- the same kind on both sides -/
def eqO {α : Type} [Rp α] [Pd α] [DecidableEq α] (a b : α) : Option Bool := if (okD a && okD b && decide (Pd.dp α ≤ 64)) = true then some (decide (a = b)) else none
def neO {α : Type} [Rp α] [Pd α] [DecidableEq α] (a b : α) : Option Bool := if (okD a && okD b && decide (Pd.dp α ≤ 64)) = true then some (!decide (a = b)) else none
section
variable {K : Fg} {α : Type} [Rp α] [Pd α] [DecidableEq α]
theorem shaped_of {a : α} (h : okD a = true) (h2 : Pd.dp α ≤ 64) : SeqAt.shaped (Pd.toD a) = true := by
  unfold SeqAt.shaped
  rw [Bool.and_eq_true]
  exact ⟨h, decide_eq_true (Nat.le_trans (Pd.dep a) h2)⟩
theorem eqv_dec (a b : α) : PyData.eqv (Pd.toD a) (Pd.toD b) = decide (a = b) := by
  by_cases h : a = b
  · rw [decide_eq_true h]
    exact (Pd.eqd a b).mpr h
  · rw [decide_eq_false h]
    cases e : PyData.eqv (Pd.toD a) (Pd.toD b) with
    | false => rfl
    | true => exact absurd ((Pd.eqd a b).mp e) h
theorem dp_mono {H H' : Hp} (e : Ex H H') : ∀ {v : V} {d : PyData}, Dp K H v d → Dp K H' v d := fun h =>
  Dp.rec (motive_1 := fun v d _ => Dp K H' v d) (motive_2 := fun vs ds _ => DpAll K H' vs ds) .non .bl .int .str (fun s _ ih => .lst (ex_l e s) ih) (fun s _ ih => .tup (ex_t e s) ih) .nil (fun _ _ h1 h2 => .cons h1 h2) h
theorem r2_eqO {a b : α} {c : Bool} (h : eqO a b = some c) : R2V K (rEqD K) a b c := fun Kn H v w ek h1 h2 Q q => by
  unfold eqO at h
  split at h
  · rename_i hb
    rw [Bool.and_eq_true, Bool.and_eq_true] at hb
    cases h
    refine ⟨Pd.toD a, Pd.toD b, dp_mono ek (Pd.isD h1), dp_mono ek (Pd.isD h2), shaped_of hb.1.1 (of_decide_eq_true hb.2), shaped_of hb.1.2 (of_decide_eq_true hb.2), ?_⟩
    rw [eqv_dec]
    exact q.fl ek
  · cases h
theorem r2_neO {a b : α} {c : Bool} (h : neO a b = some c) : R2V K (rNeD K) a b c := fun Kn H v w ek h1 h2 Q q => by
  unfold neO at h
  split at h
  · rename_i hb
    rw [Bool.and_eq_true, Bool.and_eq_true] at hb
    cases h
    refine ⟨Pd.toD a, Pd.toD b, dp_mono ek (Pd.isD h1), dp_mono ek (Pd.isD h2), shaped_of hb.1.1 (of_decide_eq_true hb.2), shaped_of hb.1.2 (of_decide_eq_true hb.2), ?_⟩
    rw [eqv_dec]
    exact q.fl ek
  · cases h
/-- data without texts: always -/
class Pt (α : Type) [Rp α] [Pd α] : Prop where
  ok : ∀ a : α, okD a = true
class Pu (τ : Type) [Tp τ] [Pq τ] : Prop where
  ok : ∀ a : τ, PyData.canLayAll0 (Pq.toDs a) = true
instance : Pt Int := ⟨fun _ => rfl⟩
instance : Pt Bool := ⟨fun _ => rfl⟩
theorem canLayAll_map {α : Type} [Rp α] [Pd α] : ∀ (xs : List α), (∀ x ∈ xs, okD x = true) → PyData.canLayAll0 (xs.map Pd.toD) = true
  | [], _ => by simp [PyData.canLayAll0]
  | x :: xs, h => by
    simp only [List.map_cons, PyData.canLayAll0, Bool.and_eq_true]
    exact ⟨h x List.mem_cons_self, canLayAll_map xs fun y hy => h y (List.mem_cons_of_mem _ hy)⟩
theorem okD_list {α : Type} [Rp α] [Pd α] {xs : List α} (h : ∀ x ∈ xs, okD x = true) : okD xs = true := by
  show PyData.canLay0 (.list _) = true
  simp only [PyData.canLay0]
  exact canLayAll_map xs h
theorem okD_tu {α : Type} [Rp α] [Pd α] {xs : Tu α} (h : ∀ x ∈ xs.l, okD x = true) : okD xs = true := by
  show PyData.canLay0 (.tuple _) = true
  simp only [PyData.canLay0]
  exact canLayAll_map xs.l h
theorem okD_pair {α τ : Type} [Rp α] [Tp τ] [Pd α] [Pq τ] {t : α × τ} (h : okD t.1 = true) (h2 : PyData.canLayAll0 (Pq.toDs t.2) = true) : okD t = true := by
  show PyData.canLay0 (.tuple (Pd.toD t.1 :: Pq.toDs t.2)) = true
  simp only [PyData.canLay0, PyData.canLayAll0, Bool.and_eq_true]
  exact ⟨h, h2⟩
theorem okDs_cons {α τ : Type} [Rp α] [Tp τ] [Pd α] [Pq τ] {t : α × τ} (h : okD t.1 = true) (h2 : PyData.canLayAll0 (Pq.toDs t.2) = true) : PyData.canLayAll0 (Pq.toDs t) = true := by
  show PyData.canLayAll0 (Pd.toD t.1 :: Pq.toDs t.2) = true
  simp only [PyData.canLayAll0, Bool.and_eq_true]
  exact ⟨h, h2⟩
instance {α : Type} [Rp α] [Pd α] [Pt α] : Pt (List α) := ⟨fun _ => okD_list fun x _ => Pt.ok x⟩
instance {α : Type} [Rp α] [Pd α] [Pt α] : Pt (Tu α) := ⟨fun _ => okD_tu fun x _ => Pt.ok x⟩
instance : Pu Unit := ⟨fun _ => rfl⟩
instance {α τ : Type} [Rp α] [Tp τ] [Pd α] [Pq τ] [Pt α] [Pu τ] : Pu (α × τ) := ⟨fun _ => okDs_cons (Pt.ok _) (Pu.ok _)⟩
instance {α τ : Type} [Rp α] [Tp τ] [Pd α] [Pq τ] [Pt α] [Pu τ] : Pt (α × τ) := ⟨fun _ => okD_pair (Pt.ok _) (Pu.ok _)⟩
theorem r2_eqT [Pt α] {a b : α} (hd : Pd.dp α ≤ 64 := by decide) : R2V K (rEqD K) a b (decide (a = b)) := r2_eqO (by
  unfold eqO
  rw [Pt.ok a, Pt.ok b, decide_eq_true hd]
  rfl)
theorem r2_neT [Pt α] {a b : α} (hd : Pd.dp α ≤ 64 := by decide) : R2V K (rNeD K) a b (!decide (a = b)) := r2_neO (by
  unfold neO
  rw [Pt.ok a, Pt.ok b, decide_eq_true hd]
  rfl)
theorem eqO_ok {a b : α} (h1 : okD a = true) (h2 : okD b = true) (hd : Pd.dp α ≤ 64 := by decide) : eqO a b = some (decide (a = b)) := by
  unfold eqO
  rw [h1, h2, decide_eq_true hd]
  rfl
theorem neO_ok {a b : α} (h1 : okD a = true) (h2 : okD b = true) (hd : Pd.dp α ≤ 64 := by decide) : neO a b = some (!decide (a = b)) := by
  unfold neO
  rw [h1, h2, decide_eq_true hd]
  rfl
end

/-! ### isinstance -/
structure TyN where
  n : String
instance rpTyN : Rp TyN := { rep := fun _ _ v a => v = .ty a.n, swap := fun _ h => h }
instance : Fl TyN := { toV := fun a => V.ty a.n, iff := Iff.rfl }
class Tn (α : Type) [Rp α] where
  nm : String
  is : ∀ {K : Fg} {H : Hp} {v : V} {a : α}, rep K H v a → TyX K H v (.type nm)
instance : Tn Int := ⟨"int", fun h => by cases h; exact .base (.int _)⟩
instance : Tn Bool := ⟨"bool", fun h => by cases h; exact .base (.bl _)⟩
instance : Tn Str := ⟨"str", fun h => by cases h; exact .base (.str _)⟩
instance : Tn Nn := ⟨"NoneType", fun h => by cases h; exact .base .non⟩
instance {α : Type} [Rp α] : Tn (List α) := ⟨"list", fun h => by
  obtain ⟨p, vs, rfl, h1, _⟩ := h
  exact .base (.lst h1)⟩
instance {α : Type} [Rp α] : Tn (Tu α) := ⟨"tuple", fun h => by
  obtain ⟨p, vs, rfl, h1, _⟩ := h
  exact .base (.tup h1)⟩
instance {α τ : Type} [Rp α] [Tp τ] : Tn (α × τ) := ⟨"tuple", fun h => by
  obtain ⟨p, vs, rfl, h1, _⟩ := h
  exact .base (.tup h1)⟩
theorem rc_isi {K : Fg} {α : Type} [Rp α] [Tn α] {x : α} {n : String} {b : Bool} (h : kitB (Tn.nm α) n = some b) : RCV K (rIsi K) (x, TyN.mk n, ()) b := fun Kn H vs ek hr Q q => by
  obtain ⟨v, w, rfl, h1, h2⟩ := two_args hr
  cases h2
  refine ⟨v, .ty n, .type (Tn.nm α), .type n, b, rfl, .ty n, ?_, kit_ty h, q.fl ek⟩
  exact Tn.is (Rp.mono ek h1)

/-! ### great divisors -/
theorem r2_divW {K : Fg} {i j : Int} {b : Nat} (h : 0 < j) (hb : j.natAbs < 2 ^ b) (h0 : 0 < b) (h9 : b ≤ 9000) : R2V K (rI CDivW fun i j => .int (i / j)) i j (i / j) := r2_I (wide_div h hb h0 h9)

/-! ### sorted of whole numbers -/
def srt (xs : List Int) : List Int := xs.mergeSort fun a b => decide (a ≤ b)
theorem srt_perm (xs : List Int) : (srt xs).Perm xs := List.mergeSort_perm xs _
theorem srt_pw (xs : List Int) : (srt xs).Pairwise (· ≤ ·) := by
  have h := List.pairwise_mergeSort (le := fun a b => decide (a ≤ b)) (fun a b c h1 h2 => by
    have h1 := of_decide_eq_true h1
    have h2 := of_decide_eq_true h2
    exact decide_eq_true (by omega)) (fun a b => by
    rcases Int.le_total a b with h | h
    · rw [decide_eq_true h]; rfl
    · rw [decide_eq_true h]; exact Bool.or_true _) xs
  exact h.imp fun h => of_decide_eq_true h
theorem srt_one {xs ys : List Int} (p : ys.Perm xs) (s : ys.Pairwise (· ≤ ·)) : ys = srt xs :=
  List.Perm.eq_of_pairwise (le := fun a b : Int => a ≤ b) (fun a b _ _ h1 h2 => Int.le_antisymm h1 h2) s (srt_pw xs) (p.trans (srt_perm xs).symm)
theorem rc_sorted {K : Fg} {xs : List Int} : RCL K (rSortedI K) (xs, ()) (srt xs) := fun Kn H vs ek h Q q => by
  obtain ⟨v, rfl, p, ws, rfl, h1, h2⟩ := one_arg h
  have e := paired_fl h2
  subst e
  refine ⟨p, xs, rfl, sq_of (ek _ _ h1), fun ns' l pm pw hl => ?_⟩
  rw [srt_one pm pw]
  exact q l _ Kn _ (Gr.newU ek hl) hl (fresh_back ek hl) upd_same (fl_paired (srt xs))
end Wk

namespace Wk
open PySem PySem.Spec L2 Evl
section
variable {K : Fg} {F Kn0 : Hp} {sl sl' : List Sl} {ow ow0 ow1 ow2 : List Ow} {α β γ τ : Type} [Rp α] [Rp β] [Rp γ] [Tp τ] {ta tb te : TE} {x : α} {D : Ends} {t u tz : TS} {tt : TT} {b : Bool} {i j : Nat} {p : Addr}
theorem ev_int (n : Int) : EV K F Kn0 sl ow (tC (.int n)) n := ev_c n
theorem ev_bool (n : Bool) : EV K F Kn0 sl ow (tC (.bl n)) n := ev_c n
theorem ev_str (n : Str) : EV K F Kn0 sl ow (tC (.str n)) n := ev_c n
theorem ev_nn : EV K F Kn0 sl ow (tC .non) Nn.nn := ev_c Nn.nn
theorem ev_ty (n : String) : EV K F Kn0 sl ow (tC (.ty n)) (TyN.mk n) := ev_c (TyN.mk n)
variable {m n : Int}
theorem r2_add : R2V K (rI0 fun i j => .int (i + j)) m n (m + n) := r2_I0
theorem r2_sub : R2V K (rI0 fun i j => .int (i - j)) m n (m - n) := r2_I0
theorem r2_lt : R2V K (rI0 fun i j => .bl (decide (i < j))) m n (decide (m < n)) := r2_I0
theorem r2_le : R2V K (rI0 fun i j => .bl (decide (i ≤ j))) m n (decide (m ≤ n)) := r2_I0
theorem r2_gt : R2V K (rI0 fun i j => .bl (decide (j < i))) m n (decide (n < m)) := r2_I0
theorem r2_ge : R2V K (rI0 fun i j => .bl (decide (j ≤ i))) m n (decide (n ≤ m)) := r2_I0
theorem r2_mod (h : 0 < n := by decide) : R2V K (rI (fun _ j => 0 < j) fun i j => .int (i % j)) m n (m % n) := r2_I h
theorem r2_div (h : 0 < n ∧ n < 1073741824 := by decide) : R2V K (rI CDiv fun i j => .int (i / j)) m n (m / n) := r2_I h
theorem r2_mulr (h : -18446744073709551616 < n ∧ n < 18446744073709551616 := by decide) : R2V K (rI CMul fun i j => .int (i * j)) m n (m * n) := r2_I (.inr ⟨by omega, by omega⟩)
theorem r2_mull (h : -18446744073709551616 < m ∧ m < 18446744073709551616 := by decide) : R2V K (rI CMul fun i j => .int (i * j)) m n (m * n) := r2_I (.inl ⟨by omega, by omega⟩)
theorem r2_divw (h : 0 < n ∧ n < 18446744073709551616 := by decide) : R2V K (rI CDivW fun i j => .int (i / j)) m n (m / n) := r2_divW h.1 (b := 64) (by omega) (by decide) (by decide)
theorem r2_pow {r : Int} (h : 0 ≤ n ∧ n ≤ 1000000 ∧ m.natAbs < 18446744073709551616 := by decide) (e : m ^ n.toNat = r := by decide) : R2V K (rI CPow fun i j => .int (i ^ j.toNat)) m n r := e ▸ r2_I ⟨h.1, h.2.1, by omega⟩
theorem EN.cast {xs ys : List α} (h : EN K F Kn0 sl ow te xs) (e : xs = ys) : EN K F Kn0 sl ow te ys := e ▸ h
theorem EM.cast {y : α} (h : EM K F Kn0 sl ow te ow1 x) (e : x = y) : EM K F Kn0 sl ow te ow1 y := e ▸ h
theorem ENM.cast {xs ys : List α} (h : ENM K F Kn0 sl ow te ow1 xs) (e : xs = ys) : ENM K F Kn0 sl ow te ow1 ys := e ▸ h
theorem SB.is (h1 : sl = sl') (h2 : ow = ow1) (h : SB K F Kn0 sl' ow1 D t) : SB K F Kn0 sl ow D t := by subst h1; subst h2; exact h
theorem EV.is (h1 : sl = sl') (h : EV K F Kn0 sl' ow te x) : EV K F Kn0 sl ow te x := by subst h1; exact h
theorem EM.is (h1 : sl = sl') (h2 : ow = ow2) (h3 : ow1 = ow0) (h : EM K F Kn0 sl' ow2 te ow0 x) : EM K F Kn0 sl ow te ow1 x := by subst h1; subst h2; subst h3; exact h
theorem ET.is (h1 : sl = sl') (h : ET K F Kn0 sl' ow tt b) : ET K F Kn0 sl ow tt b := by subst h1; exact h
theorem ite_t {γ : Type} {b : Bool} {A B : Option γ} {r : γ} (hb : b = true) (h : (if b = true then A else B) = some r) : A = some r := by rw [if_pos hb] at h; exact h
theorem ite_f {γ : Type} {b : Bool} {A B : Option γ} {r : γ} (hb : b = false) (h : (if b = true then A else B) = some r) : B = some r := by rw [if_neg (by rw [hb]; exact Bool.false_ne_true)] at h; exact h
def anyAt (sl : List Sl) (vs : List Nat) : Bool := vs.all fun j => match sl[j]? with
  | some .any => true
  | _ => false
theorem anyAt_of {sl : List Sl} {vs : List Nat} (h : anyAt sl vs = true) : ∀ j ∈ vs, sl[j]? = some .any := fun j hj => by
  have q := List.all_eq_true.mp h j hj
  cases e : sl[j]? with
  | none => rw [e] at q; cases q
  | some s =>
    rw [e] at q
    cases s with
    | any => rfl
    | val _ _ _ => cases q
    | «at» _ => cases q
theorem sub_of {js vs : List Nat} (h : (js.all fun j => vs.contains j) = true) : ∀ j ∈ js, j ∈ vs := fun j hj => by
  have q := List.all_eq_true.mp h j hj
  simpa using q
theorem sn_end {R : VK} (q : RT K F Kn0 ow0 R Nn.nn) (hd : ∀ σ H, R .non H → D.nx σ H) (l : ow0.Sublist ow) : SN K F Kn0 sl ow D := fun σ Kn H s => hd σ H (q _ Kn H (s.sub l).fin rfl)
def EOM (K : Fg) (F Kn0 : Hp) (sl : List Sl) (ow : List Ow) (to : TO) (ow' : List Ow) (o : Option Int) : Prop := ∀ σ Kn H, S K F Kn0 sl ow σ Kn H → ∀ Q : Option Int → Hp → Prop, (∀ Kn' H', Ex Kn Kn' → S K F Kn0 sl ow' σ Kn' H' → Q o H') → to σ H Q
theorem EO.eom {to : TO} {o : Option Int} (h : EO K F Kn0 sl ow to o) : EOM K F Kn0 sl ow to ow o := fun σ Kn H s Q q => h σ Kn H s Q fun Kn' H' g => q Kn' H' g.kk (s.grow g)
theorem eom_some {i : Int} (h : EM K F Kn0 sl ow te ow1 i) : EOM K F Kn0 sl ow (tPart te) ow1 (some i) := fun σ Kn H s Q q => h σ Kn H s _ fun v Kn1 H1 e1 s1 r1 => ⟨i, r1, q Kn1 H1 e1 s1⟩
theorem enm_sl {ow3 : List Ow} {xs : List α} {tl th : TO} {lo hi : Option Int} (h : EM K F Kn0 sl ow te ow1 xs) (hl : EOM K F Kn0 sl ow1 tl ow2 lo) (hh : EOM K F Kn0 sl ow2 th ow3 hi) : ENM K F Kn0 sl ow (tSl (rSlL K) te tl th) ow3 (cut xs lo hi) := fun σ Kn H s Q q =>
  h σ Kn H s _ fun v Kn1 H1 e1 s1 r1 => hl σ Kn1 H1 s1 _ fun Kn2 H2 e2 s2 => hh σ Kn2 H2 s2 _ fun Kn3 H3 e3 s3 => by
    obtain ⟨p, ws, rfl, h3, h4⟩ := r1
    have e13 : Ex Kn1 Kn3 := e2.trans e3
    exact ⟨p, ws, rfl, sq_of (s3.ek _ _ (e13 _ _ h3)), fun l hl => q l _ Kn3 _ (e1.trans e13) (s3.grow (Gr.newU s3.ek hl)) (fresh_back s3.ef hl) (fresh_back s3.ek hl) (owned_ne s3 hl) upd_same (paired_cut (paired_mono e13 h4) lo hi)⟩
/-- the entry of a def -/
theorem enter {σ : L2.St} {Kn H : Hp} {D : Ends} {t : TS} (ek : Ex Kn H) (hs : SlsOk K Kn sl σ) (h : SB K H Kn sl [] D t) : t D σ H := h σ Kn H ⟨Ex.refl _, ek, Ex.refl _, fun _ _ h => h, hs, ⟨(fun _ h => nomatch h), List.nodup_nil⟩⟩
theorem rt_of {H Kn : Hp} {r : α} {Q : VK} (q : RS K Kn H Q r) : RT K H Kn [] Q r := fun v Kn' H' s rv => q v Kn' H' ⟨s.e0, s.ef, s.ek, s.sep⟩ rv
theorem rn_of {H Kn : Hp} {r : List α} {Q : VK} (q : RL K Kn H Q r) : RN K H Kn [] Q r := fun p ws Kn' H' s fp kp hw rv => q p ws Kn' H' ⟨s.e0, s.ef, s.ek, s.sep⟩ fp kp hw rv
/-- all but p -/
def but (H : Hp) (p : Addr) : Hp := fun a => if a = p then none else H a
theorem enterM {σ : L2.St} {Kn H : Hp} {D : Ends} {t : TS} {p : Addr} {ws : List V} {xs : List α} (ek : Ex Kn H) (kp : Kn p = none) (hp : H p = some (.lst ws)) (r : Paired (rep K Kn) ws xs) (hs : SlsOk K Kn sl σ) (h : SB K (but H p) Kn sl [ol p xs] D t) : t D σ H :=
  h σ Kn H ⟨Ex.refl _, ek, fun a u e => by
    unfold but at e
    split at e
    · cases e
    · exact e, fun _ _ h => h, hs, ⟨fun o ho => by
      cases List.mem_singleton.mp ho
      exact ⟨if_pos rfl, kp, ws, hp, r⟩, List.nodup_cons.mpr ⟨(fun h => nomatch h), List.nodup_nil⟩⟩⟩
theorem rt_ofM {H Kn : Hp} {r : β} {p : Addr} {xs' : List α} {Q : VK} (kp : Kn p = none) (q : ∀ v Kn' H' ws', Ex Kn Kn' → Ex Kn' H' → (∀ q, q ≠ p → H q ≠ none → H' q = H q) → (∀ q, H q ≠ none → Kn q = none → Kn' q = none) → H' p = some (.lst ws') → Paired (rep K Kn') ws' xs' → rep K Kn' v r → Q v H') :
    RT K (but H p) Kn [ol p xs'] Q r := fun v Kn' H' s rv => by
  obtain ⟨_, k1, ws, h1, h2⟩ := s.ow.each (ol p xs') List.mem_cons_self
  refine q v Kn' H' ws s.e0 s.ek (fun a ha hn => ?_) (fun a hn hk => ?_) h1 h2 rv
  · have e : but H p a = H a := if_neg ha
    exact (Ex.at_eq s.ef (by rw [e]; exact hn)).trans e
  · by_cases ha : a = p
    · subst ha
      exact k1
    · exact s.sep a (by unfold but; rw [if_neg ha]; exact hn) hk
end
end Wk

/-! ### rules whose readings name K itself (within comprehensions) -/
namespace Wk
open PySem PySem.Spec L2 Evl
section
variable {X : Cx} {K : Fg}
theorem k_isi (h : X.K = K := by rfl) : CallR X (.builtin "isinstance") (rIsi K) := h ▸ call_isi
theorem k_len (h : X.K = K := by rfl) : CallR X (.builtin "len") (fun xs H Q => ∃ p ys, xs = [.ref p] ∧ (SqL K H p ys ∨ SqT K H p ys) ∧ Q (.int ys.length) H) := h ▸ call_len_seq
theorem k_list (h : X.K = K := by rfl) : CallR X (.type "list") (fun xs H Q => ∃ p ys, xs = [.ref p] ∧ (SqL K H p ys ∨ SqT K H p ys) ∧ ∀ l, H l = none → Q (.ref l) (upd H l (.lst ys))) := h ▸ call_list_of
theorem k_tuple (h : X.K = K := by rfl) : CallR X (.type "tuple") (fun xs H Q => ∃ p ys, xs = [.ref p] ∧ ((SqL K H p ys ∧ ∀ l, H l = none → Q (.ref l) (upd H l (.tup ys))) ∨ (SqT K H p ys ∧ Q (.ref p) H))) := h ▸ call_tuple_of
theorem k_sum (hc : X.calm = true := by rfl) (h : X.K = K := by rfl) : CallR X (.builtin "sum") (rSum K) := h ▸ cr_sum hc
theorem k_any (hc : X.calm = true := by rfl) (h : X.K = K := by rfl) : CallR X (.builtin "any") (rAny K) := h ▸ cr_any hc
theorem k_all (hc : X.calm = true := by rfl) (h : X.K = K := by rfl) : CallR X (.builtin "all") (rAll K) := h ▸ cr_all hc
theorem k_max2 (hc : X.calm = true := by rfl) : CallR X (.builtin "max") (fun xs H Q => ∃ i j, xs = [.int i, .int j] ∧ Q (.int (if j > i then j else i)) H) := call_max2 hc
theorem k_min2 (hc : X.calm = true := by rfl) : CallR X (.builtin "min") (fun xs H Q => ∃ i j, xs = [.int i, .int j] ∧ Q (.int (if j < i then j else i)) H) := call_min2 hc
theorem k_sorted (h : X.K = K := by rfl) : CallR X (.builtin "sorted") (rSortedI K) := h ▸ cr_sortedI
theorem k_ixl (h : X.K = K := by rfl) : IxR X (rIxL K) := h ▸ ix_list
theorem k_ixt (h : X.K = K := by rfl) : IxR X (rIxT K) := h ▸ ix_tup
theorem k_sll (h : X.K = K := by rfl) : SlR X (rSlL K) := h ▸ sl_list
theorem k_eqD (hu : X.A.units + 64 < cLine) (h : X.K = K := by rfl) : OpR X (compareOp .Eq) (rEqD K) := h ▸ op_eqD hu
theorem k_neD (hu : X.A.units + 64 < cLine) (h : X.K = K := by rfl) : OpR X (compareOp .NotEq) (rNeD K) := h ▸ op_neD hu
theorem k_in (h : X.K = K := by rfl) : OpR X (compareOp .In) (rIn K false) := h ▸ op_in_seq
theorem k_notIn (h : X.K = K := by rfl) : OpR X (compareOp .NotIn) (rIn K true) := h ▸ op_notIn_seq
theorem kpg_tup {es : List Expr} {k : Nat} {t : TGs} {n : Nat} {pos : Pos} (hs : PGs X es t) (hc : X.calm = true := by rfl) (h : X.K = K := by rfl)
    (hn : (assignEach es X.env).length = n := by rfl) (hst : (assignEach es X.env).findIdx? (·.1) = none := by rfl) : PG X (.Tuple es k pos) (gTup K n t) := h ▸ pg_tup hc hs hn hst
theorem kpi_list {tg e : Expr} {te : TE} (he : PE X e te) (h : X.K = K := by rfl) : PI X tg e (iList K te) := h ▸ pi_list he
theorem kpi_tup {tg e : Expr} {te : TE} (he : PE X e te) (h : X.K = K := by rfl) : PI X tg e (iTup K te) := h ▸ pi_tup he
theorem kpt_truth {a : Expr} {ta : TE} (ha : PE X a ta) (he : ∀ whole, isTrue a X.env whole = (do let v ← whole; standAt a.pos; holding [v] (truthy v)) := by intro _; rfl) (h : X.K = K := by rfl) : PT X a (fun σ H Q => ta σ H fun x H' => ∃ k, TruV K x H' k ∧ Q k H') := h ▸ pt_truth ha he
end
end Wk
/-! Wk5: in, lists made longer, texts, chains, tuples put together -/
namespace Wk
open PySem PySem.Spec L2 Evl
class Fe (α : Type) [Rp α] [Fl α] [DecidableEq α] : Prop where
  flat : ∀ a : α, flatV (Fl.toV a) = true
  eq : ∀ a b : α, eqV (Fl.toV a) (Fl.toV b) = decide (a = b)
instance : Fe Int := ⟨fun _ => rfl, fun a b => by show (a == b) = decide (a = b); by_cases h : a = b <;> simp [h]⟩
instance : Fe Str := ⟨fun _ => rfl, fun a b => by show (a == b) = decide (a = b); by_cases h : a = b <;> simp [h]⟩
def repO {α : Type} (xs : List α) (k : Int) : Option (List α) := if -1000000000 ≤ k ∧ k ≤ 1000000000 ∧ xs.length * k.toNat ≤ 1000000 then some (List.replicate k.toNat xs).flatten else none
def addS (x y : Str) : Option Str := if x.length + y.length ≤ 1000000 then some (x ++ y) else none
def lenS (x : Str) : Option Int := if x.length ≤ 1000000 then some (x.length : Int) else none
def joinO (a : Str) (ys : List Str) : Option Str := if (ys.map (·.length)).sum + ys.length * a.length ≤ 1000000 then some (Txt.join a ys) else none
def powO (i j : Int) : Option Int := if 0 ≤ j ∧ j ≤ 1000000 ∧ i.natAbs < 18446744073709551616 then some (i ^ j.toNat) else none
section
variable {K : Fg} {F Kn0 : Hp} {sl sl' : List Sl} {ow ow0 ow1 ow2 : List Ow} {α β γ τ : Type} [Rp α] [Rp β] [Rp γ] [Tp τ] {ta tb tc te : TE} {x : α} {y : β} {z : γ} {D : Ends} {t u tz : TS} {tt : TT} {a b : Bool} {i j : Nat} {p : Addr}
theorem any_mem {α : Type} [Rp α] [Fl α] [DecidableEq α] [Fe α] (x : α) : ∀ xs : List α, inV (Fl.toV x) (xs.map Fl.toV) = decide (x ∈ xs)
  | [] => by simp [inV]
  | y :: ys => by
    have ih := any_mem x ys
    unfold inV at ih ⊢
    rw [List.map_cons, List.any_cons, ih, Fe.eq]
    by_cases h : y = x
    · subst h
      simp
    · have h' : ¬ x = y := fun e => h e.symm
      simp [h, h']
theorem all_flat {α : Type} [Rp α] [Fl α] [DecidableEq α] [Fe α] : ∀ xs : List α, (xs.map Fl.toV).all flatV = true
  | [] => rfl
  | y :: ys => by
    rw [List.map_cons, List.all_cons, Fe.flat, all_flat ys]
    rfl
theorem r2_in {α : Type} [Rp α] [Fl α] [DecidableEq α] [Fe α] {x : α} {xs : List α} : R2V K (rIn K false) x xs (decide (x ∈ xs)) := fun Kn H v w ek h1 h2 Q q => by
  obtain ⟨p, ws, rfl, h3, h4⟩ := h2
  have e := paired_fl h4
  subst e
  rw [Fl.iff.mp h1]
  refine ⟨p, _, rfl, .inl (sq_of (ek _ _ h3)), Fe.flat x, all_flat xs, ?_⟩
  rw [any_mem]
  exact q.fl ek
theorem r2_notIn {α : Type} [Rp α] [Fl α] [DecidableEq α] [Fe α] {x : α} {xs : List α} : R2V K (rIn K true) x xs (!decide (x ∈ xs)) := fun Kn H v w ek h1 h2 Q q => by
  obtain ⟨p, ws, rfl, h3, h4⟩ := h2
  have e := paired_fl h4
  subst e
  rw [Fl.iff.mp h1]
  refine ⟨p, _, rfl, .inl (sq_of (ek _ _ h3)), Fe.flat x, all_flat xs, ?_⟩
  rw [any_mem]
  exact q.fl ek
theorem r2_inU {α : Type} [Rp α] [Fl α] [DecidableEq α] [Fe α] {x : α} {xs : Tu α} : R2V K (rIn K false) x xs (decide (x ∈ xs.l)) := fun Kn H v w ek h1 h2 Q q => by
  obtain ⟨p, ws, rfl, h3, h4⟩ := h2
  have e := paired_fl h4
  subst e
  rw [Fl.iff.mp h1]
  refine ⟨p, _, rfl, .inr (st_of (ek _ _ h3)), Fe.flat x, all_flat xs.l, ?_⟩
  rw [any_mem]
  exact q.fl ek
theorem r2_notInU {α : Type} [Rp α] [Fl α] [DecidableEq α] [Fe α] {x : α} {xs : Tu α} : R2V K (rIn K true) x xs (!decide (x ∈ xs.l)) := fun Kn H v w ek h1 h2 Q q => by
  obtain ⟨p, ws, rfl, h3, h4⟩ := h2
  have e := paired_fl h4
  subst e
  rw [Fl.iff.mp h1]
  refine ⟨p, _, rfl, .inr (st_of (ek _ _ h3)), Fe.flat x, all_flat xs.l, ?_⟩
  rw [any_mem]
  exact q.fl ek
theorem paired_rep {F : V → α → Prop} {vs : List V} {xs : List α} (h : Paired F vs xs) : ∀ n : Nat, Paired F (List.replicate n vs).flatten (List.replicate n xs).flatten
  | 0 => .nil
  | n + 1 => by
    rw [List.replicate_succ, List.replicate_succ, List.flatten_cons, List.flatten_cons]
    exact paired_append h (paired_rep h n)
theorem r2_repO {xs zs : List α} {k : Int} (h : repO xs k = some zs) : R2L K rRep xs k zs := fun Kn H v w ek h1 h2 Q q => by
  unfold repO at h
  split at h
  · rename_i hb
    cases h
    obtain ⟨p, ws, rfl, h3, h4⟩ := h1
    cases h2
    refine ⟨p, k, ws, rfl, rfl, ek _ _ h3, by omega, by omega, by rw [paired_len h4]; exact le_line hb.2.2, fun l hl => q l _ Kn _ (Gr.newU ek hl) hl (fresh_back ek hl) upd_same (paired_rep h4 _)⟩
  · cases h
theorem r2_addS {x y z : Str} (h : addS x y = some z) : R2V K (fun x y H Q => ∃ i j, x = .str i ∧ y = .str j ∧ i.length + j.length ≤ sizeLine ∧ Q (.str (i ++ j)) H) x y z := fun Kn H v w ek h1 h2 Q q => by
  unfold addS at h
  split at h
  · rename_i hb
    cases h
    exact ⟨x, y, h1, h2, le_line hb, q.fl ek⟩
  · cases h
theorem rc_lenS {x : Str} {z : Int} (h : lenS x = some z) : RCV K (fun xs H Q => ∃ z, xs = [.str z] ∧ z.length ≤ sizeLine ∧ Q (.int z.length) H) (x, ()) z := fun Kn H vs ek hr Q q => by
  obtain ⟨v, rfl, h1⟩ := one_arg hr
  cases h1
  unfold lenS at h
  split at h
  · rename_i hb
    cases h
    exact ⟨x, rfl, le_line hb, q.fl ek⟩
  · cases h
theorem ev_joinO {s : Str} {ys : List Str} {z : Str} (ha : EV K F Kn0 sl ow ta s) (hb : EV K F Kn0 sl ow tb ys) (h : joinO s ys = some z) :
    EV K F Kn0 sl ow (tM1 (fun x xs H Q => ∃ a p, ∃ ys : List Str, x = .str a ∧ xs = [.ref p] ∧ (SqL K H p (ys.map V.str) ∨ SqT K H p (ys.map V.str)) ∧ (ys.map (·.length)).sum + ys.length * a.length ≤ 16777216 ∧ Q (.str (Txt.join a ys)) H) ta tb) z := fun σ Kn H s' Q q =>
  ha σ Kn H s' _ fun v Kn1 H1 g1 r1 => by
    cases r1
    refine ⟨⟨s, rfl⟩, hb σ Kn1 H1 (s'.grow g1) _ fun w Kn2 H2 g2 r2 => ?_⟩
    obtain ⟨p, ws, rfl, h3, h4⟩ := r2
    have e := paired_fl h4
    subst e
    unfold joinO at h
    split at h
    · rename_i hz
      cases h
      exact ⟨s, p, ys, rfl, rfl, .inl (sq_of (g2.kh _ _ h3)), by omega, q _ Kn2 H2 (g1.trans g2) rfl⟩
    · cases h
theorem rc_intB {x : Bool} : RCV K (fun xs H Q => (∃ i, xs = [.int i] ∧ Q (.int i) H) ∨ ∃ k, xs = [.bl k] ∧ Q (.int (if k then 1 else 0)) H) (x, ()) (if x = true then (1 : Int) else 0) := fun Kn H vs ek hr Q q => by
  obtain ⟨v, rfl, h1⟩ := one_arg hr
  cases h1
  exact .inr ⟨x, rfl, q.fl ek⟩
theorem rc_intI {x : Int} : RCV K (fun xs H Q => (∃ i, xs = [.int i] ∧ Q (.int i) H) ∨ ∃ k, xs = [.bl k] ∧ Q (.int (if k then 1 else 0)) H) (x, ()) x := fun Kn H vs ek hr Q q => by
  obtain ⟨v, rfl, h1⟩ := one_arg hr
  cases h1
  exact .inl ⟨x, rfl, q.fl ek⟩
theorem r2_powO {i j z : Int} (h : powO i j = some z) : R2V K (rI CPow fun i j => .int (i ^ j.toNat)) i j z := by
  unfold powO at h
  split at h
  · rename_i hb
    cases h
    exact r2_I ⟨hb.1, hb.2.1, by omega⟩
  · cases h
/-- x < y < z -/
theorem ev_chain {r r' : R2} (ha : EV K F Kn0 sl ow ta x) (hb : EV K F Kn0 sl ow tb y) (hr : R2V K r x y a) (hc : EV K F Kn0 sl ow tc z) (hr' : R2V K r' y z b) : EV K F Kn0 sl ow (tChain r r' ta tb tc) (a && b) := fun σ Kn H s Q q =>
  ha σ Kn H s _ fun v Kn1 H1 g1 r1 => hb σ Kn1 H1 (s.grow g1) _ fun w Kn2 H2 g2 r2 => hr Kn2 H2 v w g2.kh (Rp.mono g2.kk r1) r2 _ fun u Kn3 H3 g3 r3 => by
    refine ⟨a, r3, ?_⟩
    cases a with
    | true => exact iteT (hc σ Kn3 H3 (((s.grow g1).grow g2).grow g3) _ fun v4 Kn4 H4 g4 r4 => hr' Kn4 H4 w v4 g4.kh (Rp.mono (g3.kk.trans g4.kk) r2) r4 Q fun u5 Kn5 H5 g5 r5 => q u5 Kn5 H5 ((((g1.trans g2).trans g3).trans g4).trans g5) r5)
    | false => exact iteF (q _ Kn3 H3 ((g1.trans g2).trans g3) rfl)
/-- t3 is t1 and t2 put together -/
inductive Ap : {τ1 τ2 τ3 : Type} → [Tp τ1] → [Tp τ2] → [Tp τ3] → τ1 → τ2 → τ3 → Prop
  | z {τ : Type} [Tp τ] (t : τ) : Ap () t t
  | s {α τ1 τ2 τ3 : Type} [Rp α] [Tp τ1] [Tp τ2] [Tp τ3] (x : α) {t1 : τ1} {t2 : τ2} {t3 : τ3} : Ap t1 t2 t3 → Ap (x, t1) t2 (x, t3)
theorem Ap.rept {K : Fg} {H : Hp} {τ1 τ2 τ3 : Type} [i1 : Tp τ1] [i2 : Tp τ2] [i3 : Tp τ3] {t1 : τ1} {t2 : τ2} {t3 : τ3} (h : Ap t1 t2 t3) : ∀ {vs ws : List V}, Wk.rept K H vs t1 → Wk.rept K H ws t2 → Wk.rept K H (vs ++ ws) t3 := by
  induction h with
  | z t =>
    intro vs ws h1 h2
    cases h1
    exact h2
  | s x _ ih =>
    intro vs ws h1 h2
    obtain ⟨v, r, rfl, h3, h4⟩ := h1
    exact ⟨v, r ++ ws, rfl, h3, ih h4 h2⟩
theorem r2_catA {α1 τ1 α2 τ2 α3 τ3 : Type} [Rp α1] [Tp τ1] [Rp α2] [Tp τ2] [Rp α3] [Tp τ3] {t1 : α1 × τ1} {t2 : α2 × τ2} {t3 : α3 × τ3} (h : Ap t1 t2 t3) (hn : Tp.n (α1 × τ1) + Tp.n (α2 × τ2) ≤ 1000 := by decide) : R2V K (rCatA K) t1 t2 t3 := fun Kn H v w ek h1 h2 Q q => by
  obtain ⟨p, vs, rfl, h3, h4⟩ := h1
  obtain ⟨p2, ws, rfl, h5, h6⟩ := h2
  have n1 : vs ≠ [] := by
    obtain ⟨_, _, rfl, _⟩ := h4
    simp
  have n2 : ws ≠ [] := by
    obtain ⟨_, _, rfl, _⟩ := h6
    simp
  refine ⟨p, p2, vs, ws, rfl, rfl, st_of (ek _ _ h3), st_of (ek _ _ h5), ?_, fun e => absurd e n1, fun _ e => absurd e n2, fun _ _ l hl => ?_⟩
  · rw [Tp.len h4, Tp.len h6]
    exact le_line (by omega)
  · exact q _ (upd Kn l (.tup (vs ++ ws))) _ (Gr.new ek hl) ⟨l, _, rfl, upd_same, h.rept (Tp.mono (Gr.new ek hl).kk h4) (Tp.mono (Gr.new ek hl).kk h6)⟩
/-- found.clear() -/
theorem sb_clr {xs : List α} (hi : sl[i]? = some (.at p)) (hj : ow[j]? = some (ol p xs)) (ho : ow.set j (ol p ([] : List α)) = ow1) (k : SN K F Kn0 sl ow1 D) : SB K F Kn0 sl ow D (tDrop (tBM0 K "list" rClear (tVar i))) := fun σ Kn H s => by
  obtain ⟨o, h1, h2⟩ := s.sl.get hi
  obtain ⟨f1, f2, ws, f3, f4⟩ := s.ow.each _ (List.mem_of_getElem? hj)
  subst ho
  refine ⟨.ref p, by rw [h1]; exact congrArg some h2, Or.inl ⟨rfl, ws, sq_of f3⟩, p, ws, rfl, rfl, f3, k _ Kn _ ?_⟩
  exact s.write hj (Ex.refl _) (upd_in s.ek f2) (fun q hq _ => upd_ne hq) (fun _ _ h => h) upd_same .nil
theorem en_listO {xs : List α} (hi : sl[i]? = some (.at p)) (hj : ow[j]? = some (ol p xs)) : EN K F Kn0 sl ow (tCB (fun xs H Q => ∃ p ys, xs = [.ref p] ∧ (SqL K H p ys ∨ SqT K H p ys) ∧ ∀ l, H l = none → Q (.ref l) (upd H l (.lst ys))) (tCons (tVar i) tNil)) xs := fun σ Kn H s Q q => by
  obtain ⟨o, h1, h2⟩ := s.sl.get hi
  obtain ⟨f1, f2, ws, f3, f4⟩ := s.ow.each _ (List.mem_of_getElem? hj)
  exact ⟨.ref p, by rw [h1]; exact congrArg some h2, p, ws, rfl, .inl (sq_of f3), fun l hl => q l ws Kn _ (Gr.newU s.ek hl) hl (fresh_back s.ek hl) upd_same f4⟩
/-- a test that changes something on its way -/
def ETM (K : Fg) (F Kn0 : Hp) (sl : List Sl) (ow : List Ow) (tt : TT) (ow' : List Ow) (b : Bool) : Prop := ∀ σ Kn H, S K F Kn0 sl ow σ Kn H → ∀ Q : Bool → Hp → Prop, (∀ Kn' H', Ex Kn Kn' → S K F Kn0 sl ow' σ Kn' H' → Q b H') → tt σ H Q
theorem ET.etm (h : ET K F Kn0 sl ow tt b) : ETM K F Kn0 sl ow tt ow b := fun σ Kn H s Q q => h σ Kn H s Q fun Kn' H' g => q Kn' H' g.kk (s.grow g)
theorem etm_test (h : EM K F Kn0 sl ow te ow1 b) : ETM K F Kn0 sl ow (tTest te) ow1 b := fun σ Kn H s Q q => h σ Kn H s _ fun v Kn' H' e s' r => ⟨b, r, q Kn' H' e s'⟩
theorem etm_and {t u : TT} (h1 : ETM K F Kn0 sl ow t ow1 a) (h2 : a = true → ET K F Kn0 sl ow1 u b) : ETM K F Kn0 sl ow (tAnd t u) ow1 (a && b) := fun σ Kn H s Q q => h1 σ Kn H s _ fun Kn1 H1 e1 s1 => by
  cases a with
  | true => exact iteT (h2 rfl σ Kn1 H1 s1 Q fun Kn2 H2 g2 => q Kn2 H2 (e1.trans g2.kk) (s1.grow g2))
  | false => exact iteF (q Kn1 H1 e1 s1)
theorem etm_or {t u : TT} (h1 : ETM K F Kn0 sl ow t ow1 a) (h2 : a = false → ET K F Kn0 sl ow1 u b) : ETM K F Kn0 sl ow (tOr t u) ow1 (a || b) := fun σ Kn H s Q q => h1 σ Kn H s _ fun Kn1 H1 e1 s1 => by
  cases a with
  | true => exact iteT (q Kn1 H1 e1 s1)
  | false => exact iteF (h2 rfl σ Kn1 H1 s1 Q fun Kn2 H2 g2 => q Kn2 H2 (e1.trans g2.kk) (s1.grow g2))
theorem sb_ifM {t u : TS} (h : ETM K F Kn0 sl ow tt ow1 b) (h1 : b = true → SB K F Kn0 sl ow1 D t) (h2 : b = false → SB K F Kn0 sl ow1 D u) : SB K F Kn0 sl ow D (tIfS tt t u) := fun σ Kn H s => h σ Kn H s _ fun Kn1 H1 e1 s1 => by
  cases b with
  | true => exact iteT (h1 rfl σ Kn1 H1 s1)
  | false => exact iteF (h2 rfl σ Kn1 H1 s1)
end
section
variable {X : Cx} {K : Fg}
theorem k_catA (h : X.K = K := by rfl) : OpR X (binaryOp .Add) (rCatA K) := h ▸ op_catA
theorem k_join {to te : TE} {o e : Expr} {apos pos : Pos} (ho : PE X o to) (he : PE X e te) (hs : starEach [e] X.env = [(false, eval e X.env)] := by rfl) (hbase : attributeBase o "join" X.env (eval o X.env) = eval o X.env := by rfl) (hline : (apos.endLine == pos.line) = true := by rfl) (h : X.K = K := by rfl) :
    PE X (.Call (.Attribute o "join" apos) [e] [] pos) (tM1 (fun x xs H Q => ∃ a p, ∃ ys : List Str, x = .str a ∧ xs = [.ref p] ∧ (SqL K H p (ys.map V.str) ∨ SqT K H p (ys.map V.str)) ∧ (ys.map (·.length)).sum + ys.length * a.length ≤ 16777216 ∧ Q (.str (Txt.join a ys)) H) to te) := h ▸ pe_join ho he hs hbase hline
end
end Wk
/-! Wk6: dicts. -/
namespace Wk
open PySem PySem.Spec L2 Evl
/-- what may be a key -/
class K1 (α : Type) [Rp α] where
  key : α → Key
  inj : ∀ {a b : α}, key a = key b → a = b
  iff : ∀ {K : Fg} {H : Hp} {v : V} {a : α}, rep K H v a → v = kV (key a)
instance : K1 Int := { key := Sum.inl, inj := fun h => Sum.inl.inj h, iff := fun h => h }
instance : K1 Str := { key := Sum.inr, inj := fun h => Sum.inr.inj h, iff := fun h => h }
class KT1 (τ : Type) [Tp τ] where
  keys : τ → List Key
  inj : ∀ {a b : τ}, keys a = keys b → a = b
  iff : ∀ {K : Fg} {H : Hp} {vs : List V} {a : τ}, rept K H vs a → vs = (keys a).map kV
instance : KT1 Unit := { keys := fun _ => [], inj := fun _ => rfl, iff := fun h => h }
instance {α τ : Type} [Rp α] [Tp τ] [K1 α] [KT1 τ] : KT1 (α × τ) where
  keys t := K1.key t.1 :: KT1.keys t.2
  inj h := Prod.ext (K1.inj (List.cons.inj h).1) (KT1.inj (List.cons.inj h).2)
  iff h := by
    obtain ⟨v, r, h1, h2, h3⟩ := h
    rw [h1, K1.iff h2, KT1.iff h3]
    rfl
class Ky (κ : Type) [Rp κ] where
  kt : Type
  dec : DecidableEq kt
  key : κ → kt
  inj : ∀ {a b : κ}, key a = key b → a = b
  ho : List (kt × V) → HO
  isd : ∀ ws, isDk (ho ws)
  get : ∀ {K : Fg} {Kh H : Hp} {p : Addr} {v : V} {a : κ} {ws : List (kt × V)}, rep K Kh v a → Ex Kh H → Rd H p (ho ws) → DGet H p v (valV ws (key a))
  put : ∀ {K : Fg} {Kh H : Hp} {p : Addr} {v y : V} {a : κ} {ws : List (kt × V)}, rep K Kh v a → Ex Kh H → H p = some (ho ws) → ws.length < sizeLine → DPut H p v y (upd H p (ho (putK ws (key a) y)))
instance {κ : Type} [Rp κ] [Ky κ] : DecidableEq (Ky.kt κ) := Ky.dec
instance {α : Type} [Rp α] [K1 α] : Ky α where
  kt := Key
  dec := inferInstance
  key := K1.key
  inj := K1.inj
  ho := .dK
  isd _ := trivial
  get h _ e := by
    rw [K1.iff h]
    exact .inl ⟨_, _, e, rfl, rfl⟩
  put h _ e l := by
    rw [K1.iff h]
    exact DPut.k e l
instance {α τ : Type} [Rp α] [Tp τ] [KT1 (α × τ)] : Ky (α × τ) where
  kt := List Key
  dec := inferInstance
  key := KT1.keys
  inj := KT1.inj
  ho := .dT
  isd _ := trivial
  get h x e := by
    obtain ⟨p, vs, h1, h2, h3⟩ := h
    rw [h1]
    have h4 := x _ _ h2
    rw [KT1.iff (τ := α × _) h3] at h4
    exact .inr ⟨_, _, _, e, rfl, h4, rfl⟩
  put h x e l := by
    obtain ⟨p, vs, h1, h2, h3⟩ := h
    rw [h1]
    have h4 := x _ _ h2
    rw [KT1.iff (τ := α × _) h3] at h4
    exact DPut.t e h4 l
/-- the table of a dict -/
structure Dc (κ β : Type) where
  l : List (κ × β)
section
variable {κ β : Type} [DecidableEq κ]
def getD (kvs : List (κ × β)) (k : κ) : Option β := (kvs.find? fun kv => decide (kv.1 = k)).map (·.2)
def putD (kvs : List (κ × β)) (k : κ) (y : β) : List (κ × β) := if (getD kvs k).isSome = true then kvs.map (fun kv => if kv.1 = k then (kv.1, y) else kv) else kvs ++ [(k, y)]
def putO (kvs : Dc κ β) (k : κ) (y : β) : Option (Dc κ β) := if kvs.l.length < 1000000 then some ⟨putD kvs.l k y⟩ else none
def mergeD (kvs more : List (κ × β)) : List (κ × β) := more.foldl (fun acc kv => putD acc kv.1 kv.2) kvs
end
section
variable {κ β : Type} [Rp κ] [Ky κ] [Rp β]
abbrev DK (K : Fg) (H : Hp) : List (Ky.kt κ × V) → List (κ × β) → Prop := Paired fun w kv => w.1 = Ky.key kv.1 ∧ rep K H w.2 kv.2
theorem DK.mono {K : Fg} {H H' : Hp} {ws : List (Ky.kt κ × V)} {kvs : List (κ × β)} (e : Ex H H') (h : DK K H ws kvs) : DK K H' ws kvs := Paired.mapP h fun _ _ q => ⟨q.1, Rp.mono e q.2⟩
theorem DK.swap {K : Fg} {H H' : Hp} {ws : List (Ky.kt κ × V)} {kvs : List (κ × β)} (e : Sw H H') (h : DK K H ws kvs) : DK K H' ws kvs := Paired.mapP h fun _ _ q => ⟨q.1, Rp.swap e q.2⟩
instance obDc : Ob (Dc κ β) where
  ob K H o x := ∃ ws, o = Ky.ho (κ := κ) ws ∧ DK K H ws x.l
  swap e h := by
    obtain ⟨ws, h1, h2⟩ := h
    exact ⟨ws, h1, DK.swap e h2⟩
instance rpDc : Rp (Dc κ β) where
  rep K H v x := ∃ p ws, v = .ref p ∧ Rd H p (Ky.ho (κ := κ) ws) ∧ DK K H ws x.l
  swap e h := by
    obtain ⟨p, ws, h1, h2, h3⟩ := h
    exact ⟨p, ws, h1, e.rd h2 (Ky.isd ws), DK.swap e h3⟩
theorem rd_ex {H H' : Hp} (e : Ex H H') {q : Addr} {u : HO} (h : Rd H q u) : Rd H' q u := by
  rcases h with h | ⟨o, h⟩
  · exact .inl (e _ _ h)
  · exact .inr ⟨o, e _ _ h⟩
variable [DecidableEq κ]
theorem DK.get {K : Fg} {H : Hp} {ws : List (Ky.kt κ × V)} {kvs : List (κ × β)} (k : κ) (h : DK K H ws kvs) : (getD kvs k = none ∧ valV ws (Ky.key k) = none) ∨ ∃ y v, getD kvs k = some y ∧ valV ws (Ky.key k) = some v ∧ rep K H v y := by
  unfold DK at h
  induction h with
  | nil => exact .inl ⟨rfl, rfl⟩
  | @cons w kv ws kvs h t ih =>
    unfold getD valV
    by_cases e : kv.1 = k
    · have e2 : w.1 = Ky.key k := h.1.trans (congrArg _ e)
      rw [List.find?_cons_of_pos (by simpa using e), List.find?_cons_of_pos (by simpa using e2)]
      exact .inr ⟨_, _, rfl, rfl, h.2⟩
    · have e2 : ¬ w.1 = Ky.key k := fun z => e (Ky.inj (h.1.symm.trans z))
      rw [List.find?_cons_of_neg (by simpa using e), List.find?_cons_of_neg (by simpa using e2)]
      exact ih
theorem DK.some {K : Fg} {H : Hp} {ws : List (Ky.kt κ × V)} {kvs : List (κ × β)} (k : κ) (h : DK K H ws kvs) : (valV ws (Ky.key k)).isSome = (getD kvs k).isSome := by
  rcases h.get k with ⟨h1, h2⟩ | ⟨y, v, h1, h2, _⟩
  · rw [h1, h2]
    rfl
  · rw [h1, h2]
    rfl
theorem DK.repl {K : Fg} {H : Hp} {ws : List (Ky.kt κ × V)} {kvs : List (κ × β)} (k : κ) {v : V} {y : β} (hv : rep K H v y) (h : DK K H ws kvs) : DK K H (ws.map fun kv => if kv.1 = Ky.key k then (kv.1, v) else kv) (kvs.map fun kv => if kv.1 = k then (kv.1, y) else kv) := by
  unfold DK at h ⊢
  induction h with
  | nil => exact .nil
  | @cons w kv ws kvs h t ih =>
    rw [List.map_cons, List.map_cons]
    refine .cons ?_ ih
    by_cases e : kv.1 = k
    · have e2 : w.1 = Ky.key k := h.1.trans (congrArg _ e)
      rw [if_pos e, if_pos e2]
      exact ⟨h.1, hv⟩
    · have e2 : ¬ w.1 = Ky.key k := fun z => e (Ky.inj (h.1.symm.trans z))
      rw [if_neg e, if_neg e2]
      exact h
theorem Paired.app2 {α β : Type} {R : α → β → Prop} : ∀ {xs xs' : List α} {ys ys' : List β}, Paired R xs ys → Paired R xs' ys' → Paired R (xs ++ xs') (ys ++ ys')
  | _, _, _, _, .nil, h => h
  | _, _, _, _, .cons q t, h => .cons q (Paired.app2 t h)
theorem DK.put {K : Fg} {H : Hp} {ws : List (Ky.kt κ × V)} {kvs : List (κ × β)} (k : κ) {v : V} {y : β} (hv : rep K H v y) (h : DK K H ws kvs) : DK K H (putK ws (Ky.key k) v) (putD kvs k y) := by
  unfold putK putD
  rw [valV_any, h.some k]
  split
  · exact DK.repl k hv h
  · exact Paired.app2 h (.cons ⟨rfl, hv⟩ .nil)
end
section
variable {K : Fg} {F Kn0 : Hp} {sl sl' : List Sl} {ow ow0 ow1 ow2 : List Ow} {κ β γ : Type} [Rp κ] [Ky κ] [DecidableEq κ] [Rp β] [Rp γ] {ta tb te td tk : TE} {k : κ} {x : γ} {D : Ends} {t u tz : TS} {b : Bool} {i j : Nat} {p : Addr}
/-- the object at place j is another one now, all else as it was -/
theorem S.writeG {σ : L2.St} {Kn H Kn' H' : Hp} {o1 o2 : Ow} (s : S K F Kn0 sl ow σ Kn H) (hj : ow[j]? = some o1) (ha : o1.ad = p) (hb : o2.ad = p) (kk : Ex Kn Kn') (kh : Ex Kn' H')
    (hq : ∀ q, q ≠ p → H q ≠ none → H' q = H q) (sp : ∀ q, H q ≠ none → Kn q = none → Kn' q = none) (hp : o2.ok K Kn' H') : S K F Kn0 sl (ow.set j o2) σ Kn' H' := by
  obtain ⟨f1, f2, f3⟩ := s.ow.each _ (List.mem_of_getElem? hj)
  have f4 := Ow.there f3
  rw [ha] at f1 f2 f4
  have jl : j < ow.length := (List.getElem?_eq_some_iff.mp hj).1
  refine ⟨s.e0.trans kk, kh, fun a u h => ?_, fun a h1 h2 => sp a (Ex.nn s.ef h1) (s.sep a h1 h2), s.sl.mono kk, ⟨fun o ho => ?_, ?_⟩⟩
  · have hne : a ≠ p := fun z => by rw [z, f1] at h; cases h
    rw [hq a hne (ne_none_of (s.ef _ _ h))]
    exact s.ef _ _ h
  · obtain ⟨i, hi⟩ := List.getElem?_of_mem ho
    by_cases e : i = j
    · subst e
      rw [List.getElem?_set_self jl] at hi
      cases hi
      rw [hb]
      exact ⟨f1, sp p f4 f2, hp⟩
    · rw [List.getElem?_set_ne (Ne.symm e)] at hi
      obtain ⟨h1, h2, h3⟩ := s.ow.each o (List.mem_of_getElem? hi)
      have h4 := Ow.there h3
      have hne : o.ad ≠ p := fun z => e (ow_at s.ow.nd hi hj (z.trans ha.symm))
      exact ⟨h1, sp _ h4 h2, Ow.ok_mono kk (hq _ hne h4) h3⟩
  · have e : (ow.set j o2).map Ow.ad = ow.map Ow.ad := by
      rw [List.map_set]
      refine List.ext_getElem? fun i => ?_
      by_cases e : j = i
      · subst e
        rw [List.getElem?_set_self (by rw [List.length_map]; exact jl), List.getElem?_map, hj, hb, ← ha]
        rfl
      · rw [List.getElem?_set_ne e]
    rw [e]
    exact s.ow.nd
theorem S.ownG {σ : L2.St} {Kn H : Hp} {o : Ow} (s : S K F Kn0 sl ow σ Kn H) (ha : o.ad = p) (fp : F p = none) (kp : Kn p = none) (no : ∀ o ∈ ow, o.ad ≠ p) (ok : o.ok K Kn H) : S K F Kn0 sl (o :: ow) σ Kn H :=
  ⟨s.e0, s.ek, s.ef, s.sep, s.sl, ⟨fun o ho => by
    rcases List.mem_cons.mp ho with rfl | ho
    · rw [ha]
      exact ⟨fp, kp, ok⟩
    · exact s.ow.each o ho, List.nodup_cons.mpr ⟨fun h => by
      obtain ⟨o, ho, e⟩ := List.mem_map.mp h
      exact no o ho (e.trans ha), s.ow.nd⟩⟩⟩
/-- x = {} -/
theorem sb_dnewK {sl' : Addr → List Sl} (hm : Ky.ho (κ := κ) [] = HO.dK []) (hs : ∀ p, sl.set i (.at p) = sl' p) (k : ∀ p, SN K F Kn0 (sl' p) (oo p (Dc.mk ([] : List (κ × β))) :: ow) D) : SB K F Kn0 sl ow D (tAsg tDNewK (gName i)) := fun σ Kn H s p hp =>
  k p _ Kn _ (hs p ▸ ((s.grow (Gr.newU s.ek hp)).ownG (p := p) (o := oo p (Dc.mk ([] : List (κ × β)))) rfl (fresh_back s.ef hp) (fresh_back s.ek hp) (owned_ne s hp) ⟨_, upd_same, [], hm.symm, .nil⟩).seta i)
theorem sb_dnewT {sl' : Addr → List Sl} (hm : Ky.ho (κ := κ) [] = HO.dT []) (hs : ∀ p, sl.set i (.at p) = sl' p) (k : ∀ p, SN K F Kn0 (sl' p) (oo p (Dc.mk ([] : List (κ × β))) :: ow) D) : SB K F Kn0 sl ow D (tAsg tDNewT (gName i)) := fun σ Kn H s p hp =>
  k p _ Kn _ (hs p ▸ ((s.grow (Gr.newU s.ek hp)).ownG (p := p) (o := oo p (Dc.mk ([] : List (κ × β)))) rfl (fresh_back s.ef hp) (fresh_back s.ek hp) (owned_ne s hp) ⟨_, upd_same, [], hm.symm, .nil⟩).seta i)
/-- d[k] = y -/
theorem sb_dput {y : β} {d d' : Dc κ β} (hi : sl[i]? = some (.at p)) (hj : ow[j]? = some (oo p d)) (h : EV K F Kn0 sl ow te y) (hk : EV K F Kn0 sl ow tk k) (hx : putO d k y = some d') (ho : ow.set j (oo p d') = ow1) (n : SN K F Kn0 sl ow1 D) :
    SB K F Kn0 sl ow D (sDPut (tVar i) tk te) := fun σ Kn H s => h σ Kn H s _ fun v Kn1 H1 g1 r1 => by
  obtain ⟨o, h1, h2⟩ := s.sl.get hi
  refine ⟨.ref p, by rw [h1]; exact congrArg some h2, hk σ Kn1 H1 (s.grow g1) _ fun w Kn2 H2 g2 r2 => ?_⟩
  have s2 := (s.grow g1).grow g2
  obtain ⟨f1, f2, o1, f3, ws, f4, f5⟩ := s2.ow.each _ (List.mem_of_getElem? hj)
  subst f4
  unfold putO at hx
  split at hx
  · case isTrue hl =>
    cases hx
    subst ho
    refine ⟨p, _, rfl, Ky.put r2 s2.ek f3 (by rw [f5.length]; exact lt_line hl), n _ Kn2 _ ?_⟩
    exact s2.writeG hj rfl rfl (Ex.refl _) (upd_in s2.ek f2) (fun q hq _ => upd_ne hq) (fun _ _ h => h) ⟨_, upd_same, _, rfl, DK.put k (Rp.mono g2.kk r1) f5⟩
  · cases hx
/-- k in d -/
theorem ev_dinO {d : Dc κ β} (hi : sl[i]? = some (.at p)) (hj : ow[j]? = some (oo p d)) (hk : EV K F Kn0 sl ow tk k) : EV K F Kn0 sl ow (tDIn tk (tVar i)) (getD d.l k).isSome := fun σ Kn H s Q q => hk σ Kn H s _ fun v Kn1 H1 g1 r1 => by
  have s1 := s.grow g1
  obtain ⟨o, h1, h2⟩ := s1.sl.get hi
  obtain ⟨f1, f2, o1, f3, ws, f4, f5⟩ := s1.ow.each _ (List.mem_of_getElem? hj)
  subst f4
  exact ⟨.ref p, by rw [h1]; exact congrArg some h2, p, _, rfl, Ky.get r1 s1.ek (Rd.of f3), q _ Kn1 H1 g1 (congrArg V.bl (f5.some k))⟩
theorem ev_din {d : Dc κ β} (hd : EV K F Kn0 sl ow td d) (hk : EV K F Kn0 sl ow tk k) : EV K F Kn0 sl ow (tDIn tk td) (getD d.l k).isSome := fun σ Kn H s Q q => hk σ Kn H s _ fun v Kn1 H1 g1 r1 => hd σ Kn1 H1 (s.grow g1) _ fun u Kn2 H2 g2 r2 => by
  obtain ⟨p, ws, e1, e2, f5⟩ := r2
  exact ⟨p, _, e1, Ky.get (Rp.mono g2.kk r1) g2.kh (rd_ex g2.kh e2), q _ Kn2 H2 (g1.trans g2) (congrArg V.bl (f5.some k))⟩
theorem ev_dnotinO {d : Dc κ β} (hi : sl[i]? = some (.at p)) (hj : ow[j]? = some (oo p d)) (hk : EV K F Kn0 sl ow tk k) : EV K F Kn0 sl ow (tDNotIn tk (tVar i)) (!(getD d.l k).isSome) := fun σ Kn H s Q q => hk σ Kn H s _ fun v Kn1 H1 g1 r1 => by
  have s1 := s.grow g1
  obtain ⟨o, h1, h2⟩ := s1.sl.get hi
  obtain ⟨f1, f2, o1, f3, ws, f4, f5⟩ := s1.ow.each _ (List.mem_of_getElem? hj)
  subst f4
  exact ⟨.ref p, by rw [h1]; exact congrArg some h2, p, _, rfl, Ky.get r1 s1.ek (Rd.of f3), q _ Kn1 H1 g1 (congrArg (fun b => V.bl (!b)) (f5.some k))⟩
theorem ev_dnotin {d : Dc κ β} (hd : EV K F Kn0 sl ow td d) (hk : EV K F Kn0 sl ow tk k) : EV K F Kn0 sl ow (tDNotIn tk td) (!(getD d.l k).isSome) := fun σ Kn H s Q q => hk σ Kn H s _ fun v Kn1 H1 g1 r1 => hd σ Kn1 H1 (s.grow g1) _ fun u Kn2 H2 g2 r2 => by
  obtain ⟨p, ws, e1, e2, f5⟩ := r2
  exact ⟨p, _, e1, Ky.get (Rp.mono g2.kk r1) g2.kh (rd_ex g2.kh e2), q _ Kn2 H2 (g1.trans g2) (congrArg (fun b => V.bl (!b)) (f5.some k))⟩
/-- d[k] -/
theorem ev_dgetO {d : Dc κ β} {y : β} (hi : sl[i]? = some (.at p)) (hj : ow[j]? = some (oo p d)) (hk : EV K F Kn0 sl ow tk k) (hy : getD d.l k = some y) : EV K F Kn0 sl ow (tDGet (tVar i) tk) y := fun σ Kn H s Q q => by
  obtain ⟨o, h1, h2⟩ := s.sl.get hi
  refine ⟨.ref p, by rw [h1]; exact congrArg some h2, hk σ Kn H s _ fun v Kn1 H1 g1 r1 => ?_⟩
  have s1 := s.grow g1
  obtain ⟨f1, f2, o1, f3, ws, f4, f5⟩ := s1.ow.each _ (List.mem_of_getElem? hj)
  subst f4
  rcases f5.get k with ⟨h1, h2⟩ | ⟨y2, w, h1, h2, h3⟩
  · rw [h1] at hy
    cases hy
  · rw [h1] at hy
    cases hy
    exact ⟨p, w, rfl, h2 ▸ Ky.get r1 s1.ek (Rd.of f3), q w Kn1 H1 g1 h3⟩
theorem ev_dget {d : Dc κ β} {y : β} (hd : EV K F Kn0 sl ow td d) (hk : EV K F Kn0 sl ow tk k) (hy : getD d.l k = some y) : EV K F Kn0 sl ow (tDGet td tk) y := fun σ Kn H s Q q => hd σ Kn H s _ fun u Kn1 H1 g1 r1 => hk σ Kn1 H1 (s.grow g1) _ fun v Kn2 H2 g2 r2 => by
  obtain ⟨p, ws, e1, e2, f5⟩ := Rp.mono g2.kk r1
  rcases f5.get k with ⟨h1, h2⟩ | ⟨y2, w, h1, h2, h3⟩
  · rw [h1] at hy
    cases hy
  · rw [h1] at hy
    cases hy
    exact ⟨p, w, e1, h2 ▸ Ky.get r2 g2.kh (rd_ex g2.kh e2), q w Kn2 H2 (g1.trans g2) h3⟩
/-- a dict of one's own, lent -/
theorem S.borrowG {σ : L2.St} {Kn H : Hp} {d : Dc κ β} (s : S K F Kn0 sl ow σ Kn H) (hi : sl[i]? = some (.at p)) (hj : ow[j]? = some (oo p d)) : ∃ o, Kn p = none ∧ H p = some o ∧ S K F Kn0 (sl.set i (sv d)) (ow.eraseIdx j) σ (upd Kn p o) H := by
  obtain ⟨o, h1, h2⟩ := s.sl.get hi
  have h2 : o = some (.ref p) := h2
  obtain ⟨f1, f2, ob, f3, f4⟩ := s.ow.each _ (List.mem_of_getElem? hj)
  have s1 := s.sub (List.eraseIdx_sublist ow j)
  have no : ∀ o ∈ ow.eraseIdx j, o.ad ≠ p := fun o hm z => by
    obtain ⟨m, hm'⟩ := List.getElem?_of_mem hm
    rw [List.getElem?_eraseIdx] at hm'
    split at hm'
    · have := ow_at s.ow.nd hm' hj z
      omega
    · have := ow_at s.ow.nd hm' hj z
      omega
  have s2 := s1.know (o := ob) f1 f2 no f3
  have hσ : σ.set i o = σ := by
    refine List.ext_getElem? fun m => ?_
    by_cases e : i = m
    · subst e
      rw [List.getElem?_set_self (List.getElem?_eq_some_iff.mp h1).1, h1]
    · rw [List.getElem?_set_ne e]
  have s3 := s2.set (x := sv d) (o := o) i ⟨.ref p, h2, by
    obtain ⟨ws, rfl, f5⟩ := f4
    exact ⟨p, ws, rfl, Rd.of upd_same, DK.mono (Ex.new f2) f5⟩⟩
  rw [hσ] at s3
  exact ⟨ob, f2, f3, s3⟩
theorem ev_borG [Fl γ] {z : γ} {d : Dc κ β} (hi : sl[i]? = some (.at p)) (hj : ow[j]? = some (oo p d)) (hs : sl.set i (sv d) = sl') (ho : ow.eraseIdx j = ow1) (h : EV K F Kn0 sl' ow1 te z) : EV K F Kn0 sl ow te z := fun σ Kn H s Q q => by
  obtain ⟨ws, kp, hp, s1⟩ := s.borrowG hi hj
  subst hs
  subst ho
  exact h σ _ H s1 Q fun v Kn' H' g r => q v Kn H' ⟨Ex.refl _, g.hh, s.ek.trans g.hh, fun _ _ h => h⟩ (Fl.iff.mpr (Fl.iff.mp r))
theorem et_borG {tt : TT} {d : Dc κ β} (hi : sl[i]? = some (.at p)) (hj : ow[j]? = some (oo p d)) (hs : sl.set i (sv d) = sl') (ho : ow.eraseIdx j = ow1) (h : ET K F Kn0 sl' ow1 tt b) : ET K F Kn0 sl ow tt b := fun σ Kn H s Q q => by
  obtain ⟨ws, kp, hp, s1⟩ := s.borrowG hi hj
  subst hs
  subst ho
  exact h σ _ H s1 Q fun Kn' H' g => q Kn H' ⟨Ex.refl _, g.hh, s.ek.trans g.hh, fun _ _ h => h⟩
end
section
variable {X : Cx} {o i e value : Expr} {pos pos' tpos : Pos} {td ty tv : TE}
theorem k_dget (hu : X.A.units + 64 < cLine) (ho : PE X o td) (hi : PE X i ty) (hs : NoSl i) : PE X (.Subscript o i pos) (tDGet td ty) := pe_dget (by omega) ho hi hs
theorem k_din (hu : X.A.units + 64 < cLine) (hi : PE X i ty) (ho : PE X o td) : PC X .In i o (tDIn ty td) := pc_din (by omega) hi ho
theorem k_dnotin (hu : X.A.units + 64 < cLine) (hi : PE X i ty) (ho : PE X o td) : PC X .NotIn i o (tDNotIn ty td) := pc_dnotin (by omega) hi ho
theorem k_dput (hu : X.A.units + 64 < cLine) (ho : PE X o td) (hi : PE X i ty) (hv : PE X value tv) (hs : swapsWith value (some (.Subscript o i pos')) pos.line X.env = pure false) : PS X (.Assign [.Subscript o i pos'] value pos) (sDPut td ty tv) := ps_dput (by omega) ho hi hv hs
end
/-! ### a new list out of an operation with effects -/
section
variable {K : Fg} {F Kn0 : Hp} {sl : List Sl} {ow ow1 ow2 : List Ow} {α β γ : Type} [Rp α] [Rp β] [Rp γ] {ta tb : TE} {x : α} {y : β}
theorem enm_op {r : R2} {zs : List γ} (ha : EM K F Kn0 sl ow ta ow1 x) (hb : EM K F Kn0 sl ow1 tb ow2 y) (hr : R2L K r x y zs) : ENM K F Kn0 sl ow (tOp r ta tb) ow2 zs := fun σ Kn H s Q q =>
  ha σ Kn H s _ fun v Kn1 H1 e1 s1 r1 => hb σ Kn1 H1 s1 _ fun w Kn2 H2 e2 s2 r2 => hr Kn2 H2 v w s2.ek (Rp.mono e2 r1) r2 Q fun p ws Kn' H' g' hp kp hw r' =>
    q p ws Kn' H' ((e1.trans e2).trans g'.kk) (s2.grow g') (fresh_back s2.ef hp) kp (owned_ne s2 hp) hw r'
end
/-! ### a display -/
section
variable {K : Fg} {F Kn0 : Hp} {sl : List Sl} {ow : List Ow} {κ β : Type} [Rp κ] [K1 κ] [DecidableEq κ] [Rp β] {tk tv : TE} {k : κ} {y : β} {trs : List (TE × TE)} {kvs : List (κ × β)}
def EPs (K : Fg) (F Kn0 : Hp) (sl : List Sl) (ow : List Ow) (trs : List (TE × TE)) (kvs : List (κ × β)) : Prop := ∀ σ Kn H, S K F Kn0 sl ow σ Kn H → ∀ Q : List (V × V) → Hp → Prop,
  (∀ ws Kn' H', Gr Kn H Kn' H' → DK K Kn' ws kvs → Q (ws.map fun w => (kV w.1, w.2)) H') → tPairs trs σ H Q
theorem eps_nil : EPs K F Kn0 sl ow [] ([] : List (κ × β)) := fun σ Kn H s Q q => q [] Kn H (Gr.refl s.ek) .nil
theorem eps_cons (hk : EV K F Kn0 sl ow tk k) (hv : EV K F Kn0 sl ow tv y) (hr : EPs K F Kn0 sl ow trs kvs) : EPs K F Kn0 sl ow ((tk, tv) :: trs) ((k, y) :: kvs) := fun σ Kn H s Q q =>
  hk σ Kn H s _ fun v Kn1 H1 g1 r1 => hv σ Kn1 H1 (s.grow g1) _ fun w Kn2 H2 g2 r2 => hr σ Kn2 H2 ((s.grow g1).grow g2) _ fun ws Kn3 H3 g3 r3 => by
    have e := K1.iff r1
    subst e
    exact q ((K1.key k, w) :: ws) Kn3 H3 ((g1.trans g2).trans g3) (.cons ⟨rfl, Rp.mono g3.kk r2⟩ r3)
theorem DK.merge {K : Fg} {H : Hp} : ∀ {ms : List (Key × V)} {more : List (κ × β)} {ws : List (Key × V)} {kvs : List (κ × β)}, DK K H ms more → DK K H ws kvs → DK K H (mergeK ws ms) (mergeD kvs more) := by
  intro ms more ws kvs h
  unfold DK at h
  induction h generalizing ws kvs with
  | nil => exact fun h => h
  | @cons w kv ms more h t ih =>
    intro q
    refine ih ?_
    show DK K H (putK ws w.1 w.2) (putD kvs kv.1 kv.2)
    rw [h.1]
    exact DK.put kv.1 h.2 q
/-- {..}[k] -/
theorem ev_pick (hp : EPs K F Kn0 sl ow trs kvs) (hk : EV K F Kn0 sl ow tk k) (hl : kvs.length ≤ 15) (hy : getD (mergeD [] kvs) k = some y) : EV K F Kn0 sl ow (tDGet (tDisp trs) tk) y := fun σ Kn H s Q q p hp0 => by
  have g0 : Gr Kn H Kn (upd H p (.dK [])) := Gr.newU s.ek hp0
  refine hp σ Kn _ (s.grow g0) _ fun ws Kn1 H1 g1 r1 => ?_
  have e1 : H1 p = some (.dK []) := g1.hh _ _ upd_same
  have kp : Kn1 p = none := g1.sp p (ne_none_of upd_same) (fresh_back s.ek hp0)
  have g : Gr Kn H Kn1 (upd H1 p (.dK (mergeK [] ws))) := ⟨g1.kk, fun a u h => by
    have hne : a ≠ p := fun z => by rw [z, hp0] at h; cases h
    rw [upd_ne hne]
    exact g1.hh _ _ (by rw [upd_ne hne]; exact h), upd_in g1.kh kp, fun a h1 h2 => g1.sp a (Ex.nn g0.hh h1) h2⟩
  refine ⟨e1, ws, rfl, by rw [r1.length]; exact hl, hk σ Kn1 _ (s.grow g) _ fun v Kn2 H2 g2 r2 => ?_⟩
  have r3 : DK K Kn1 (mergeK [] ws) (mergeD [] kvs) := DK.merge r1 .nil
  rcases r3.get k with ⟨h1, h2⟩ | ⟨y2, w, h1, h2, h3⟩
  · rw [h1] at hy
    cases hy
  · rw [h1] at hy
    cases hy
    exact ⟨p, w, rfl, h2 ▸ Ky.get r2 g2.kh (Rd.of (g2.hh _ _ upd_same)), q w Kn2 H2 (g.trans g2) (Rp.mono g2.kk h3)⟩
end
end Wk
/-! Wdy: values of any kind (None, truths, numbers, texts, tuples and lists of these), read as data; a dict of the module; a def that calls itself -/
namespace Wk
open PySem PySem.Spec L2 Evl
mutual
inductive Dq (H : Hp) : V → PyData → Prop
  | non : Dq H .non .none
  | bl (b : Bool) : Dq H (.bl b) (.bool b)
  | int (i : Int) : Dq H (.int i) (.int i)
  | str (x : Str) : Dq H (.str x) (.str x)
  | lst {a : Addr} {xs : List V} {ds : List PyData} : H a = some (.lst xs) → DqAll H xs ds → Dq H (.ref a) (.list ds)
  | tup {a : Addr} {xs : List V} {ds : List PyData} : H a = some (.tup xs) → DqAll H xs ds → Dq H (.ref a) (.tuple ds)
inductive DqAll (H : Hp) : List V → List PyData → Prop
  | nil : DqAll H [] []
  | cons {v : V} {vs : List V} {d : PyData} {ds : List PyData} : Dq H v d → DqAll H vs ds → DqAll H (v :: vs) (d :: ds)
end
theorem Dq.swap {H H' : Hp} (e : Sw H H') {v : V} {d : PyData} (h : Dq H v d) : Dq H' v d :=
  Dq.rec (motive_1 := fun v d _ => Dq H' v d) (motive_2 := fun vs ds _ => DqAll H' vs ds) .non .bl .int .str (fun s _ ih => .lst (e.lst s) ih) (fun s _ ih => .tup (e.tup s) ih) .nil (fun _ _ h1 h2 => .cons h1 h2) h
theorem DqAll.swap {H H' : Hp} (e : Sw H H') {v : List V} {d : List PyData} (h : DqAll H v d) : DqAll H' v d :=
  DqAll.rec (motive_1 := fun v d _ => Dq H' v d) (motive_2 := fun vs ds _ => DqAll H' vs ds) .non .bl .int .str (fun s _ ih => .lst (e.lst s) ih) (fun s _ ih => .tup (e.tup s) ih) .nil (fun _ _ h1 h2 => .cons h1 h2) h
theorem Dq.dp {K : Fg} {H : Hp} {v : V} {d : PyData} (h : Dq H v d) : Dp K H v d :=
  Dq.rec (motive_1 := fun v d _ => Dp K H v d) (motive_2 := fun vs ds _ => DpAll K H vs ds) .non .bl .int .str (fun s _ ih => .lst (sq_of s) ih) (fun s _ ih => .tup (st_of s) ih) .nil (fun _ _ h1 h2 => .cons h1 h2) h
structure Dy where
  d : PyData
instance : Rp Dy := { rep := fun _ H v x => Dq H v x.d, swap := fun e h => Dq.swap e h }
/-- to data -/
class Ud (α : Type) [Rp α] where
  toD : α → PyData
  is : ∀ {K : Fg} {H : Hp} {v : V} {a : α}, rep K H v a → Dq H v (toD a)
class Us (τ : Type) [Tp τ] where
  toDs : τ → List PyData
  is : ∀ {K : Fg} {H : Hp} {vs : List V} {a : τ}, rept K H vs a → DqAll H vs (toDs a)
instance : Ud Int := ⟨.int, fun h => by cases h; exact .int _⟩
instance : Ud Bool := ⟨.bool, fun h => by cases h; exact .bl _⟩
instance : Ud Str := ⟨.str, fun h => by cases h; exact .str _⟩
instance : Ud Nn := ⟨fun _ => .none, fun h => by cases h; exact .non⟩
instance : Ud Dy := ⟨Dy.d, fun h => h⟩
instance {α : Type} [Rp α] [Ud α] : Ud (Option α) where
  toD x := match x with | none => .none | some a => Ud.toD a
  is {K H v a} h := by
    cases a with
    | none => cases h; exact .non
    | some a => exact Ud.is h.2
theorem dqAll_of {α : Type} [Rp α] [Ud α] {K : Fg} {H : Hp} : ∀ {vs : List V} {xs : List α}, Paired (rep K H) vs xs → DqAll H vs (xs.map Ud.toD)
  | _, _, .nil => .nil
  | _, _, .cons r t => .cons (Ud.is r) (dqAll_of t)
instance {α : Type} [Rp α] [Ud α] : Ud (List α) where
  toD xs := .list (xs.map Ud.toD)
  is h := by
    obtain ⟨p, vs, rfl, h1, h2⟩ := h
    exact .lst h1 (dqAll_of h2)
instance {α : Type} [Rp α] [Ud α] : Ud (Tu α) where
  toD xs := .tuple (xs.l.map Ud.toD)
  is h := by
    obtain ⟨p, vs, rfl, h1, h2⟩ := h
    exact .tup h1 (dqAll_of h2)
instance : Us Unit := ⟨fun _ => [], fun h => by cases h; exact .nil⟩
instance {α τ : Type} [Rp α] [Tp τ] [Ud α] [Us τ] : Us (α × τ) where
  toDs t := Ud.toD t.1 :: Us.toDs t.2
  is h := by
    obtain ⟨v, r, rfl, h1, h2⟩ := h
    exact .cons (Ud.is h1) (Us.is h2)
instance {α τ : Type} [Rp α] [Tp τ] [Ud α] [Us τ] : Ud (α × τ) where
  toD t := .tuple (Us.toDs (τ := α × τ) t)
  is h := by
    obtain ⟨p, vs, rfl, h1, h2⟩ := h
    exact .tup h1 (Us.is h2)
/-- out of data, where it is of the kind -/
class Od (α : Type) [Rp α] where
  of : PyData → Option α
  un : ∀ {K : Fg} {H : Hp} {v : V} {d : PyData} {a : α}, Dq H v d → of d = some a → rep K H v a
class Os (τ : Type) [Tp τ] where
  ofs : List PyData → Option τ
  un : ∀ {K : Fg} {H : Hp} {vs : List V} {ds : List PyData} {a : τ}, DqAll H vs ds → ofs ds = some a → rept K H vs a
instance : Od Int := ⟨fun d => match d with | .int i => some i | _ => none, fun h e => by cases h <;> cases e; rfl⟩
instance : Od Bool := ⟨fun d => match d with | .bool i => some i | _ => none, fun h e => by cases h <;> cases e; rfl⟩
instance : Od Str := ⟨fun d => match d with | .str i => some i | _ => none, fun h e => by cases h <;> cases e; rfl⟩
instance : Od Dy := ⟨fun d => some ⟨d⟩, fun h e => by cases e; exact h⟩
def ofAll {α : Type} [Rp α] [Od α] : List PyData → Option (List α)
  | [] => some []
  | d :: ds => (Od.of d).bind fun x => (ofAll ds).bind fun xs => some (x :: xs)
theorem ofAll_un {α : Type} [Rp α] [Od α] {K : Fg} {H : Hp} : ∀ {ds : List PyData} {vs : List V} {xs : List α}, DqAll H vs ds → ofAll ds = some xs → Paired (rep K H) vs xs
  | [], _, _, h, e => by
    cases h
    cases e
    exact .nil
  | d :: ds, _, xs, h, e => by
    cases h with
    | cons h1 h2 =>
      obtain ⟨x, ex, e⟩ := bind_some e
      obtain ⟨ys, ey, e⟩ := bind_some e
      cases e
      exact .cons (Od.un h1 ex) (ofAll_un h2 ey)
instance {α : Type} [Rp α] [Od α] : Od (Tu α) where
  of d := match d with | .tuple ds => (ofAll ds).map Tu.mk | _ => none
  un h e := by
    cases h with
    | tup h1 h2 =>
      obtain ⟨xs, e1, rfl⟩ := Option.map_eq_some_iff.mp e
      exact ⟨_, _, rfl, h1, ofAll_un h2 e1⟩
    | _ => cases e
instance {α : Type} [Rp α] [Od α] : Od (List α) where
  of d := match d with | .list ds => ofAll ds | _ => none
  un h e := by
    cases h with
    | lst h1 h2 => exact ⟨_, _, rfl, h1, ofAll_un h2 e⟩
    | _ => cases e
instance : Os Unit := ⟨fun ds => match ds with | [] => some () | _ => none, fun h e => by cases h <;> cases e; rfl⟩
instance {α τ : Type} [Rp α] [Tp τ] [Od α] [Os τ] : Os (α × τ) where
  ofs ds := match ds with | [] => none | d :: ds => (Od.of d).bind fun x => (Os.ofs ds).bind fun t => some (x, t)
  un h e := by
    cases h with
    | nil => cases e
    | cons h1 h2 =>
      obtain ⟨x, ex, e⟩ := bind_some e
      obtain ⟨t, et, e⟩ := bind_some e
      cases e
      exact ⟨_, _, rfl, Od.un h1 ex, Os.un h2 et⟩
instance {α τ : Type} [Rp α] [Tp τ] [Od α] [Os τ] : Od (α × τ) where
  of d := match d with | .tuple ds => Os.ofs (τ := α × τ) ds | _ => none
  un h e := by
    cases h with
    | tup h1 h2 => exact ⟨_, _, rfl, h1, Os.un h2 e⟩
    | _ => cases e
def ofD {α : Type} [Rp α] [Od α] (x : Dy) : Option α := Od.of x.d
def upD {α : Type} [Rp α] [Ud α] (x : α) : Dy := ⟨Ud.toD x⟩
def eqYO (a b : Dy) : Option Bool := if SeqAt.shaped a.d = true ∧ SeqAt.shaped b.d = true then some (PyData.eqv a.d b.d) else none
section
variable {K : Fg} {F Kn0 : Hp} {sl sl' : List Sl} {ow ow1 : List Ow} {α β τ : Type} [Rp α] [Rp β] [Tp τ] {te tk : TE} {x : Dy}
theorem ev_of [Od α] {y : α} (h : EV K F Kn0 sl ow te x) (e : ofD x = some y) : EV K F Kn0 sl ow te y := fun σ Kn H s Q q => h σ Kn H s Q fun v Kn' H' g r => q v Kn' H' g (Od.un r e)
theorem ev_up [Ud α] {y : α} (h : EV K F Kn0 sl ow te y) : EV K F Kn0 sl ow te (upD y) := fun σ Kn H s Q q => h σ Kn H s Q fun v Kn' H' g r => q v Kn' H' g (Ud.is r)
theorem em_up [Ud α] {y : α} (h : EM K F Kn0 sl ow te ow1 y) : EM K F Kn0 sl ow te ow1 (upD y) := fun σ Kn H s Q q => h σ Kn H s Q fun v Kn' H' e s' r => q v Kn' H' e s' (Ud.is r)
/-- a list, where a list is read -/
theorem ev_fz {xs : List α} (h : EV K F Kn0 sl ow te xs) : EV K F Kn0 sl ow te (Fz.mk xs) := fun σ Kn H s Q q => h σ Kn H s Q fun v Kn' H' g r => by
  obtain ⟨p, vs, rfl, h1, h2⟩ := r
  exact q _ Kn' H' g ⟨p, vs, rfl, sq_of h1, h2⟩
theorem r2_eqY {a b : Dy} {c : Bool} (h : eqYO a b = some c) : R2V K (rEqD K) a b c := fun Kn H v w ek h1 h2 Q q => by
  unfold eqYO at h
  split at h
  case isFalse => cases h
  rename_i hb
  cases h
  exact ⟨a.d, b.d, dp_mono ek (Dq.dp h1), dp_mono ek (Dq.dp h2), hb.1, hb.2, q.fl ek⟩
theorem r2_neY {a b : Dy} {c : Bool} (h : eqYO a b = some c) : R2V K (rNeD K) a b (!c) := fun Kn H v w ek h1 h2 Q q => by
  unfold eqYO at h
  split at h
  case isFalse => cases h
  rename_i hb
  cases h
  exact ⟨a.d, b.d, dp_mono ek (Dq.dp h1), dp_mono ek (Dq.dp h2), hb.1, hb.2, q.fl ek⟩
/-- D[k], D a dict of the module -/
theorem ev_kd {w : World} {p : Addr} {tab : List (Str × Str)} {k z : Str} (ht : ∀ kv ∈ tab, KDct K w p kv.1 (.str kv.2)) (hk : EV K F Kn0 sl ow tk k) (hz : getD tab k = some z) : EV K F Kn0 sl ow (tOp (rIxD K w) (tC (.ref p)) tk) z := fun σ Kn H s Q q =>
  hk σ Kn H s _ fun v Kn1 H1 g1 r1 => by
    cases r1
    unfold getD at hz
    obtain ⟨kv, hf, rfl⟩ := Option.map_eq_some_iff.mp hz
    have hk2 := List.find?_some hf
    rw [decide_eq_true_eq] at hk2
    have := ht kv (List.mem_of_find?_eq_some hf)
    rw [hk2] at this
    exact ⟨p, _, _, rfl, rfl, this, q _ Kn1 H1 g1 rfl⟩
theorem k_ixkd {X : Cx} {w : World} (h : X.K = K := by rfl) (hw : X.w = w := by rfl) : IxR X (rIxD K w) := by
  subst h
  subst hw
  exact ix_kdict


end
theorem fnok_none {P : Program} {w : World} {K : Fg} {mg : Str → Option Value} {base : Heap} {CX : CXT} {k : Nat} {f : Addr} {fd : FuncData} {ps : List Str} {τ α : Type} [Tp τ] [Rp α] : FnOk P w K mg base CX k f fd ps (PF K (fun _ : τ => (none : Option α))) := by
  refine ⟨fun vs H Q E h => ?_, fun A outer s H args us vs Q E hr he hb hv h => ?_⟩
  · obtain ⟨_, _, _, _, _, h, _⟩ := h
    cases h
  · obtain ⟨_, _, _, _, _, h, _⟩ := h
    cases h
theorem fnok_noneL {P : Program} {w : World} {K : Fg} {mg : Str → Option Value} {base : Heap} {CX : CXT} {k : Nat} {f : Addr} {fd : FuncData} {ps : List Str} {τ α : Type} [Tp τ] [Rp α] : FnOk P w K mg base CX k f fd ps (PL K (fun _ : τ => (none : Option (List α)))) := by
  refine ⟨fun vs H Q E h => ?_, fun A outer s H args us vs Q E hr he hb hv h => ?_⟩
  · obtain ⟨_, _, _, _, _, h, _⟩ := h
    cases h
  · obtain ⟨_, _, _, _, _, h, _⟩ := h
    cases h
end Wk
/-! Wupd: dict(pairs) and d.update(d2) with tuple keys. -/
namespace L2
open PySem PySem.Spec PyProof.Rows
def mergeT (kvs more : List (List Key × V)) : List (List Key × V) := more.foldl (fun acc kv => putK acc kv.1 kv.2) kvs
theorem length_mergeT : ∀ (more kvs : List (List Key × V)), (mergeT kvs more).length ≤ kvs.length + more.length
  | [], kvs => Nat.le_refl _
  | p :: r, kvs => by
    have h1 := length_mergeT r (putK kvs p.1 p.2)
    have h2 := length_putK kvs p.1 p.2
    show (mergeT (putK kvs p.1 p.2) r).length ≤ _
    rw [List.length_cons]
    omega
theorem KT.merge {H : Hp} : ∀ {more : List (List Key × V)} {ms : List (List Key × Addr × Value)} {kvs : List (List Key × V)} {xs : List (List Key × Addr × Value)}, KT H more ms → KT H kvs xs → KT H (mergeT kvs more) (storedAllH xs ms) := by
  intro more ms kvs xs r
  unfold KT at r
  induction r generalizing kvs xs with
  | nil => intro q; exact q
  | @cons p q ps qs h t ih =>
    intro r0
    have e : KT H (putK kvs p.1 p.2) (storedH xs q.1 q.2.1 q.2.2) := by
      have := r0.put p.1 h.2.1 h.2.2
      rw [← h.1]
      exact this
    exact ih e
section
variable {X : Cx} {pins : List (Addr × Obj)} {σ : St} {H : Hp} {s : Shared}
theorem pairsT_of (I : Inv X pins σ H s) : ∀ {ps : List Addr} {kvs : List (List Key × V)}, Paired (fun p kv => ∃ b, SqT X.K H p [.ref b, kv.2] ∧ H b = some (.tup (kv.1.map kV))) ps kvs →
    ∃ ms : List (List Key × Addr × Value), KT H kvs ms ∧ ms.length = ps.length ∧ ∀ (j : Nat) (m : List Key × Addr × Value), ms[j]? = some m → ∃ p : Addr, ps[j]? = some p ∧ IsTup s.heap p #[.ref m.2.1, m.2.2]
  | _, _, .nil => ⟨[], .nil, rfl, fun j q e => by simp at e⟩
  | _, _, .cons (a := p) (b := kv) h t => by
    obtain ⟨ms, r, hl, hp⟩ := pairsT_of I t
    obtain ⟨b, h1, h2⟩ := h
    obtain ⟨its, rv, ht, _⟩ := I.tuple h1
    obtain ⟨u, y, ei, ru, ry⟩ := vals2 rv
    subst ei
    cases ru
    refine ⟨(kv.1, b, y) :: ms, .cons ⟨rfl, h2, ry⟩ r, by rw [List.length_cons, List.length_cons, hl], fun j m e => ?_⟩
    cases j with
    | zero =>
      have e' : (kv.1, b, y) = m := Option.some.inj e
      subst e'
      exact ⟨p, rfl, ht⟩
    | succ j =>
      obtain ⟨p', e1, e2⟩ := hp j m (by simpa using e)
      exact ⟨p', by simpa using e1, e2⟩
theorem KT.is_all (I : Inv X pins σ H s) : ∀ {kvs : List (List Key × V)} {ms : List (List Key × Addr × Value)}, KT H kvs ms → ∀ x ∈ ms, (tupleKind (mixKind X.prog X.w)).is s.heap x.1 x.2.1 := by
  intro kvs ms q
  unfold KT at q
  induction q with
  | nil => intro x hx; exact nomatch hx
  | @cons p q ps qs hq t ih =>
    intro x hx
    rcases List.mem_cons.mp hx with e | hx
    · subst e
      exact key_of I.hok (by rw [← hq.1]; exact hq.2.1)
    · exact ih x hx
theorem key_stays {P : Program} {w : World} {h h' : Heap} {k : List Key} {b : Addr} (x : (tupleKind (mixKind P w)).is h k b) (e : ∀ o, h.get? b = some o → h'.get? b = some o) : (tupleKind (mixKind P w)).is h' k b := by
  obtain ⟨o, its, n, h1, h2, h3, h4⟩ := x
  exact ⟨o, its, n, e _ h1, h2, h3, h4⟩
theorem key_there {P : Program} {w : World} {h : Heap} {k : List Key} {b : Addr} (x : (tupleKind (mixKind P w)).is h k b) : b < h.objs.size := by
  obtain ⟨o, its, n, h1, h2, h3, h4⟩ := x
  exact Heap.lt_size h1
end
section
variable {X : Cx}
/-- dict(xs), xs a list of pairs whose keys are tuples -/
def rDictT (K : PySem.W.Frag) : List V → Hp → VK → Prop := fun xs H Q => ∃ (a : Addr) (ps : List Addr) (kvs : List (List Key × V)), xs = [.ref a] ∧ SqL K H a (ps.map V.ref) ∧ Paired (fun p kv => ∃ b, SqT K H p [.ref b, kv.2] ∧ H b = some (.tup (kv.1.map kV))) ps kvs ∧
    ∀ p, H p = none → Q (.ref p) (upd H p (.dT (mergeT [] kvs)))
theorem cr_dictT (hcalm : X.calm = true) (hu : X.A.units + 64 < cLine) : CallR X (.type "dict") (rDictT X.K) := by
  intro pins s σ H xs us Q I r q
  obtain ⟨a, ps, kvs, ex, hq, hp, q⟩ := q
  subst ex
  rw [Vals.ref1 r]
  obtain ⟨its, rv, pl, hz⟩ := I.list hq
  have ei := refs_at rv
  subst ei
  rw [List.length_map] at hz
  obtain ⟨ms, rel, hl, hpr⟩ := pairsT_of I hp
  obtain ⟨o, n, ho, hc, hd, hdat⟩ := pl
  have hall := KT.is_all I rel
  have hprs : (ms.map fun m => ((Value.ref m.2.1, m.2.2) : Value × Value)).length = ms.length := List.length_map _
  refine call_dict_pairsH (knd := tupleKind (mixKind X.prog X.w)) (ps := ms) (PairArg.list a (ps.map Value.ref).toArray (fun j => ps.getD j 0) (ms.map fun m => ((Value.ref m.2.1, m.2.2) : Value × Value))) (I.ok.hd hcalm)
    (show X.A.units + 1 + 1 < cLine by omega) ⟨⟨o, n, ho, hc, hd, hdat⟩, by simp [hl], fun j k v e => ?_⟩ ⟨by rw [hprs], fun i key v e => ?_⟩ (fun h' hk x hx => ?_) (by rw [hprs, hl]; exact hz) fun h' tk dd' k => ?_
  · rw [List.getElem?_map] at e
    cases em : ms[j]? with
    | none => rw [em] at e; cases e
    | some m =>
      rw [em] at e
      cases e
      obtain ⟨p, e1, e2⟩ := hpr j m em
      have eg : ps.getD j 0 = p := by rw [List.getD_eq_getElem?_getD, e1]; rfl
      refine ⟨by simp [e1], ?_⟩
      show PairAt s.heap (ps.getD j 0) _ _
      rw [eg]
      exact .inl e2
  · have e : (ms.map fun m => ((Value.ref m.2.1, m.2.2) : Value × Value))[i]? = some (key, v) := e
    rw [List.getElem?_map] at e
    cases em : ms[i]? with
    | none => rw [em] at e; cases e
    | some m =>
      rw [em] at e
      cases e
      exact ⟨m.1, m.2.1, rfl, rfl⟩
  · exact key_stays (hall x hx) fun o e => hk _ o (Nat.ne_of_lt (key_there (hall x hx))) (by simp) e
  · have hm : (s.heap.objs.size == sysModules) = false := beq_eq_false_iff_ne.mpr (Nat.ne_of_gt I.big)
    have hlen : (mergeT [] kvs).length ≤ sizeLine := by
      refine Nat.le_trans (length_mergeT kvs []) ?_
      rw [List.length_nil, Nat.zero_add, Paired.length rel, hl]
      exact hz
    have hf : H s.heap.objs.size = none := I.hok.fresh (Nat.le_refl _)
    obtain ⟨ob, es, ep, hq2, h2, h3, h4, _, h5⟩ := dd'
    have rel2 : KT (upd H s.heap.objs.size (.dT (mergeT [] kvs))) (mergeT [] kvs) (storedAllH [] ms) := (KT.merge rel .nil).keeps fun b ys e => by
      rw [upd_ne (ne_of_none e hf)]
      exact e
    exact ⟨.ref s.heap.objs.size, upd H s.heap.objs.size (.dT (mergeT [] kvs)), I.laid (t' := tk) (fun b o e => k b o (by simp) e) (Nat.le_refl _) ⟨hlen, hm, _, rel2, ob, es, ep, hq2, h2, h3, h4, h5⟩, rfl, q _ hf⟩
/-- d.update(d2), both with tuple keys -/
def rUpdT (P : Program) (w : World) : V → List V → Hp → VK → Prop := fun x xs H Q => ∃ (a o : Addr) (kvs more : List (List Key × V)), x = .ref a ∧ xs = [.ref o] ∧ H a = some (.dT kvs) ∧ H o = some (.dT more) ∧ a ≠ o ∧ kvs.length + more.length ≤ sizeLine ∧
  (kvs ≠ [] ∨ (more.map fun kv => tupleKeyHash (mixKind P w) kv.1).Nodup) ∧ Q .non (upd H a (.dT (mergeT kvs more)))
theorem mt_updT (hu : X.A.units + 64 < cLine) : MtR X "dict.update" (rUpdT X.prog X.w) := by
  intro pins s σ H x xs v us Q I rx rxs h
  obtain ⟨a, o, kvs, more, rfl, rfl, ha, ho, hao, hsz, hap, q⟩ := h
  cases rx
  rw [Vals.ref1 rxs]
  obtain ⟨z1, hd1, xs1, rel1, dd1⟩ := dt_of I.hok ha
  obtain ⟨z2, hd2, xs2, rel2, dd2⟩ := dt_of I.hok ho
  have l1 := Paired.length rel1
  have l2 := Paired.length rel2
  have hall := KT.is_all I rel2
  refine call_update_dictH (knd := tupleKind (mixKind X.prog X.w)) (show X.A.units + 1 < cLine by omega) hao hd2 dd1 dd2 ?_ (by rw [← l1, ← l2]; exact hsz) fun h' dd' _ hs => ?_
  · rcases hap with h | h
    · refine .inl fun e => h ?_
      rw [e] at l1
      exact List.length_eq_zero_iff.mp l1
    · refine .inr ⟨fun x hx => IsTupleKey.typeIs (hall x hx), ?_⟩
      have e : xs2.map (fun x => (tupleKind (mixKind X.prog X.w)).hash x.1) = more.map fun kv => tupleKeyHash (mixKind X.prog X.w) kv.1 := by
        clear h hsz l1 l2 hall dd2 ho q z2
        unfold KT at rel2
        induction rel2 with
        | nil => rfl
        | cons h t ih =>
          rw [List.map_cons, List.map_cons, ih, h.1]
          rfl
      rw [e]
      exact h
  · have hlen : (mergeT kvs more).length ≤ sizeLine := Nat.le_trans (length_mergeT more kvs) hsz
    obtain ⟨ob, es, ep, hq2, h2, h3, h4, _, h5⟩ := dd'
    have rel3 : KT (upd H a (.dT (mergeT kvs more))) (mergeT kvs more) (storedAllH xs1 xs2) := (KT.merge rel2 rel1).keeps fun c ys ec => by
      rw [upd_ne (ne_of ec ha (fun z => nomatch z))]
      exact ec
    exact ⟨.non, upd H a (.dT (mergeT kvs more)), d_write (ob := .dT (mergeT kvs more)) (t' := s.toks) I (by rw [ha]; exact True.intro) hs ⟨ob, hq2⟩ ⟨hlen, hd1, _, rel3, ob, es, ep, hq2, h2, h3, h4, h5⟩, rfl, q⟩
end
end L2
namespace Wk
open PySem PySem.Spec L2 Evl
abbrev C2 := Int × Int × Unit
def hash2 (x : C2) : Int := reduceHash (Builtin.Tuple.tupleHashOf [hashInt x.1, hashInt x.2.1])
def prs {β : Type} (more : List (C2 × β × Unit)) : List (C2 × β) := more.map fun t => (t.1, t.2.1)
open Classical in
noncomputable def updO {β : Type} (d : Dc C2 β) (more : List (C2 × β × Unit)) : Option (Dc C2 β) :=
  if d.l.length + more.length ≤ 900000 ∧ (d.l ≠ [] ∨ ((mergeD [] (prs more)).map fun t => hash2 t.1).Nodup) then some ⟨mergeD d.l (mergeD [] (prs more))⟩ else none
section
variable {K : Fg} {F Kn0 : Hp} {sl : List Sl} {ow ow1 : List Ow} {β : Type} [Rp β] {te : TE} {D : Ends} {i j : Nat} {p : Addr} {P : Program} {w : World}
theorem prs_of {Kn H : Hp} (e : Ex Kn H) : ∀ {vs : List V} {more : List (C2 × β × Unit)}, Paired (rep K Kn) vs more → ∃ (ps : List Addr) (kvs : List (List Key × V)), vs = ps.map V.ref ∧
    Paired (fun p kv => ∃ b, SqT K H p [.ref b, kv.2] ∧ H b = some (.tup (kv.1.map kV))) ps kvs ∧ DK (κ := C2) K Kn kvs (prs more)
  | _, _, .nil => ⟨[], [], rfl, .nil, .nil⟩
  | _, _, .cons (a := v) (b := t) h r => by
    obtain ⟨ps, kvs, e1, e2, e3⟩ := prs_of e r
    obtain ⟨q, ws, rfl, hq, kv, rest, rfl, hk, yv, rest2, rfl, hy, hu⟩ := h
    cases hu
    obtain ⟨b, us, rfl, hb, h3⟩ := hk
    have hus : us = (KT1.keys t.1).map kV := KT1.iff (τ := C2) h3
    subst hus
    refine ⟨q :: ps, (KT1.keys t.1, yv) :: kvs, by rw [e1]; rfl, .cons ⟨b, st_of (e _ _ hq), e _ _ hb⟩ e2, .cons ⟨rfl, hy⟩ e3⟩
theorem DK.mergeT {Kn : Hp} : ∀ {ms : List (List Key × V)} {more : List (C2 × β)} {ws : List (List Key × V)} {kvs : List (C2 × β)}, DK (κ := C2) K Kn ms more → DK (κ := C2) K Kn ws kvs → DK (κ := C2) K Kn (L2.mergeT ws ms) (mergeD kvs more) := by
  intro ms more ws kvs h
  unfold DK at h
  induction h generalizing ws kvs with
  | nil => exact fun h => h
  | @cons w kv ms more h t ih =>
    intro q
    refine ih ?_
    show DK (κ := C2) K Kn (putK ws w.1 w.2) (putD kvs kv.1 kv.2)
    rw [h.1]
    exact DK.put kv.1 h.2 q
theorem DK.hash {Kn : Hp} : ∀ {ms : List (List Key × V)} {more : List (C2 × β)}, DK (κ := C2) K Kn ms more → (ms.map fun kv => tupleKeyHash (mixKind P w) kv.1) = more.map fun t => hash2 t.1 := by
  intro ms more h
  unfold DK at h
  induction h with
  | nil => rfl
  | cons h t ih =>
    rw [List.map_cons, List.map_cons, ih, h.1]
    rfl
theorem sb_upd {d d' : Dc C2 β} {more : List (C2 × β × Unit)} (hi : sl[i]? = some (.at p)) (hj : ow[j]? = some (oo p d)) (h : EV K F Kn0 sl ow te more) (hx : updO d more = some d') (ho : ow.set j (oo p d') = ow1) (n : SN K F Kn0 sl ow1 D) :
    SB K F Kn0 sl ow D (tDrop (tBM K "dict" (rUpdT P w) (tVar i) (tCons (tCB (rDictT K) (tCons te tNil)) tNil))) := fun σ Kn H s => by
  obtain ⟨o, h1, h2⟩ := s.sl.get hi
  obtain ⟨f1, f2, o1, f3, ws, f4, f5⟩ := s.ow.each _ (List.mem_of_getElem? hj)
  subst f4
  have f3 : H p = some (.dT ws) := f3
  unfold updO at hx
  split at hx
  · case isTrue hc =>
    cases hx
    subst ho
    refine ⟨.ref p, by rw [h1]; exact congrArg some h2, .inr (.inr (.inl ⟨rfl, .inr ⟨ws, f3⟩⟩)), h σ Kn H s _ fun v Kn1 H1 g1 r1 => ?_⟩
    obtain ⟨a, vs, rfl, ha, hv⟩ := r1
    obtain ⟨ps, kvs, rfl, e2, e3⟩ := prs_of g1.kh hv
    refine ⟨a, ps, kvs, rfl, sq_of (g1.kh _ _ ha), e2, fun p2 hp2 => ?_⟩
    have s1 := s.grow g1
    have g2 : Gr Kn1 H1 Kn1 (upd H1 p2 (.dT (L2.mergeT [] kvs))) := Gr.newU g1.kh hp2
    have s2 := s1.grow g2
    have hp1 : H1 p = some (.dT ws) := g1.hh _ _ f3
    have hne : p ≠ p2 := fun z => by
      rw [z, hp2] at hp1
      cases hp1
    have hH2 : (upd H1 p2 (.dT (L2.mergeT [] kvs))) p = some (.dT ws) := by
      rw [upd_ne hne]
      exact hp1
    have f6 : DK (κ := C2) K Kn1 ws d.l := DK.mono g1.kk f5
    have e4 : DK (κ := C2) K Kn1 (L2.mergeT [] kvs) (mergeD [] (prs more)) := DK.mergeT e3 .nil
    have l1 : ws.length = d.l.length := f6.length
    have l2 : kvs.length = more.length := by
      rw [e3.length]
      exact List.length_map _
    have l3 := length_mergeT kvs []
    rw [List.length_nil] at l3
    have kp : Kn1 p = none := g1.sp p (ne_none_of f3) f2
    refine ⟨p, p2, ws, L2.mergeT [] kvs, rfl, rfl, hH2, upd_same, hne, ?_, ?_, n _ Kn1 _ ?_⟩
    · have hs : sizeLine ≥ 1000000 := by rw [sizeLine_eq]; decide
      omega
    · rcases hc.2 with hc | hc
      · refine .inl fun z => hc ?_
        rw [z] at l1
        exact List.length_eq_zero_iff.mp l1.symm
      · refine .inr ?_
        rw [DK.hash e4]
        exact hc
    · exact s2.writeG hj rfl rfl (Ex.refl _) (upd_in s2.ek kp) (fun q hq _ => upd_ne hq) (fun _ _ h => h) ⟨_, upd_same, _, rfl, DK.mergeT e4 f6⟩
  · cases hx
end
section
variable {X : Cx} {K : Fg} {P : Program} {w : World}
theorem k_dictT (hu : X.A.units + 64 < cLine) (hc : X.calm = true := by rfl) (h : X.K = K := by rfl) : CallR X (.type "dict") (rDictT K) := by
  subst h
  exact cr_dictT hc hu
theorem k_updT (hu : X.A.units + 64 < cLine) (h : X.prog = P := by rfl) (hw : X.w = w := by rfl) : MtR X "dict.update" (rUpdT P w) := by
  subst h
  subst hw
  exact mt_updT hu
end
end Wk
namespace Wk
open PySem PySem.Spec L2 Evl
/-- a list with a None put behind -/
structure Nx (α : Type) where
  l : List α
section
variable {K : Fg} {F Kn0 : Hp} {sl : List Sl} {ow ow1 : List Ow} {α γ : Type} [Rp α] [Rp γ] {te : TE} {D : Ends} {i j : Nat} {p : Addr}
instance obNx : Ob (Nx α) where
  ob K H o x := ∃ ws, o = .lst (ws ++ [.non]) ∧ Paired (rep K H) ws x.l
  swap e h := by
    obtain ⟨ws, h1, h2⟩ := h
    exact ⟨ws, h1, paired_swap e h2⟩
theorem sb_appN {xs : List α} (hi : sl[i]? = some (.at p)) (hj : ow[j]? = some (ol p xs)) (h : EV K F Kn0 sl ow te Nn.nn) (hz : (if xs.length < 1000000 then some () else none) = some ()) (ho : ow.set j (oo p (Nx.mk xs)) = ow1) (k : SN K F Kn0 sl ow1 D) :
    SB K F Kn0 sl ow D (tDrop (tBM K "list" rAppend (tVar i) (tCons te tNil))) := fun σ Kn H s => by
  obtain ⟨o, h1, h2⟩ := s.sl.get hi
  obtain ⟨f1, f2, ws, f3, f4⟩ := s.ow.each _ (List.mem_of_getElem? hj)
  have hz : xs.length < 1000000 := by
    by_cases e : xs.length < 1000000
    · exact e
    · rw [if_neg e] at hz
      cases hz
  refine ⟨.ref p, by rw [h1]; exact congrArg some h2, Or.inl ⟨rfl, ws, sq_of f3⟩, h σ Kn H s _ fun v Kn1 H1 g1 r1 => ?_⟩
  cases r1
  refine ⟨p, ws, .non, rfl, rfl, g1.hh _ _ f3, by rw [paired_len f4]; exact lt_line hz, k _ Kn1 _ ?_⟩
  have kp1 : Kn1 p = none := g1.sp p (ne_none_of f3) f2
  subst ho
  exact (s.grow g1).writeG hj rfl rfl (Ex.refl _) (upd_in g1.kh kp1) (fun q hq _ => upd_ne hq) (fun _ _ h => h) ⟨_, upd_same, ws, rfl, paired_mono g1.kk f4⟩
theorem cut_snoc (ws : List V) (v : V) : cut (ws ++ [v]) none (some (-(1 : Int))) = ws := by
  unfold cut
  rw [HT.sIx_none, List.drop_zero, Nat.sub_zero]
  have e : HT.sIx (ws ++ [v]).length (ws ++ [v]).length (some (-(1 : Int))) = (-(1 : Int) + ((ws ++ [v]).length : Int)).toNat := rfl
  rw [e, List.length_append, List.length_singleton, show (-(1 : Int) + ((ws.length + 1 : Nat) : Int)).toNat = ws.length by omega]
  exact List.take_left
theorem en_slN {xs : List α} {tl th : TO} (hx : sl[i]? = some (.at p)) (hj : ow[j]? = some (oo p (Nx.mk xs))) (hl : EO K F Kn0 sl ow tl none) (hh : EO K F Kn0 sl ow th (some (-(1 : Int)))) : EN K F Kn0 sl ow (tSl (rSlL K) (tVar i) tl th) xs := fun σ Kn H s Q q => by
  obtain ⟨o, h1, h2⟩ := s.sl.get hx
  obtain ⟨f1, f2, o1, f3, ws, f4, f5⟩ := s.ow.each _ (List.mem_of_getElem? hj)
  subst f4
  have f3 : H p = some (.lst (ws ++ [.non])) := f3
  refine ⟨.ref p, by rw [h1]; exact congrArg some h2, hl σ Kn H s _ fun Kn2 H2 g2 => hh σ Kn2 H2 (s.grow g2) _ fun Kn3 H3 g3 => ?_⟩
  have g := g2.trans g3
  refine ⟨p, ws ++ [.non], rfl, sq_of (g.hh _ _ f3), fun l hl => ?_⟩
  have e : cutV (ws ++ [V.non]) none (some (-(1 : Int))) = ws := cut_snoc ws .non
  exact q l _ Kn3 _ (g.trans (Gr.newU g3.kh hl)) (fresh_back g.hh hl) (fresh_back g3.kh hl) upd_same (by rw [e]; exact paired_mono g.kk f5)
end
end Wk
namespace Wk
open PySem PySem.Spec L2 Evl
/-- more is untouched -/
def Fle (F F' : Hp) : Prop := Ex F F'
section
variable {K : Fg} {F F' Kn0 : Hp} {sl sl' : List Sl} {ow ow0 ow1 : List Ow} {α γ : Type} [Rp α] [Rp γ] {D : Ends} {i j : Nat} {p : Addr}
theorem S.back {σ : L2.St} {Kn H : Hp} (f : Fle F F') (s : S K F' Kn0 sl ow σ Kn H) : S K F Kn0 sl ow σ Kn H :=
  ⟨s.e0, s.ek, Ex.trans f s.ef, fun q h1 h2 => s.sep q (Ex.nn f h1) h2, s.sl, ⟨fun o ho => by
    obtain ⟨h1, h2, h3⟩ := s.ow.each o ho
    exact ⟨fresh_back f h1, h2, h3⟩, s.ow.nd⟩⟩
theorem RT.fr {R : VK} {x : γ} (f : Fle F F') (q : RT K F Kn0 ow0 R x) : RT K F' Kn0 ow0 R x := fun v Kn H s r => q v Kn H (s.back f) r
theorem RN.fr {R : VK} {xs : List γ} (f : Fle F F') (q : RN K F Kn0 ow0 R xs) : RN K F' Kn0 ow0 R xs := fun p ws Kn H s fp kp hp r => q p ws Kn H (s.back f) (fresh_back f fp) kp hp r
/-- for x in xs, xs one's own, not touched on the way and one's own behind it -/
theorem sb_forO {g : TG} {tb : TS} {Sx : Type} {xs : List α} (hi : sl[i]? = some (.at p)) (hj : ow[j]? = some (ol p xs)) (ho : ow.eraseIdx j = ow1)
    (slx : Sx → List Sl) (owx : Sx → List Ow) (gx : α → Sx → List Sl) (js : List Nat) (P : List α → Sx → Prop) (s0 : Sx) (h0 : P xs s0) (le : SlLe sl (slx s0)) (eo : (owx s0).Sublist ow1)
    (hg : ∀ x s, GT K g (slx s) (gx x s) js x)
    (step : ∀ F', Fle F F' → ∀ Kn1, Bs F' Kn0 Kn1 → ∀ x rest s, P (x :: rest) s → ∀ N : L2.St → Hp → Prop, (∀ s', P rest s' → ∀ σ Kn H, S K F' Kn1 (slx s') (owx s') σ Kn H → N σ H) → SB K F' Kn1 (gx x s) (owx s) { D with nx := N, ct := N, bk := D.nx } tb)
    (done : ∀ s, P [] s → SN K F Kn0 (slx s) (ol p xs :: owx s) D) : SB K F Kn0 sl ow D (tFor (iList K (tVar i)) g tb) := fun σ Kn H s => by
  obtain ⟨o, h1, h2⟩ := s.sl.get hi
  obtain ⟨f1, f2, ws, f3, f4⟩ := s.ow.each _ (List.mem_of_getElem? hj)
  have f1 : F p = none := f1
  have f2 : Kn p = none := f2
  have fl : Fle F (upd F p (.lst ws)) := Ex.new f1
  have s1 := s.sub (List.eraseIdx_sublist ow j)
  have no : ∀ o ∈ ow.eraseIdx j, o.ad ≠ p := fun o hm z => by
    obtain ⟨m, hm'⟩ := List.getElem?_of_mem hm
    rw [List.getElem?_eraseIdx] at hm'
    split at hm'
    · have := ow_at s.ow.nd hm' hj z
      omega
    · have := ow_at s.ow.nd hm' hj z
      omega
  have s2 : S K (upd F p (.lst ws)) Kn0 sl (ow.eraseIdx j) σ Kn H := ⟨s1.e0, s1.ek, fun a u h => by
    by_cases hq : a = p
    · subst hq
      rw [upd_same] at h
      rw [← h]
      exact f3
    · rw [upd_ne hq] at h
      exact s1.ef _ _ h, fun q h1 h2 => by
    by_cases hq : q = p
    · rw [hq]
      exact f2
    · rw [upd_ne hq] at h1
      exact s1.sep q h1 h2, s1.sl, ⟨fun o ho => by
        obtain ⟨a1, a2, a3⟩ := s1.ow.each o ho
        refine ⟨?_, a2, a3⟩
        rw [upd_ne (no o ho)]
        exact a1, s1.ow.nd⟩⟩
  have b : Bs (upd F p (.lst ws)) Kn0 Kn := s2.bs
  refine ⟨.ref p, by rw [h1]; exact congrArg some h2, p, rfl, ⟨ws, sq_of f3⟩, ?_⟩
  refine ⟨fun i m σ H => i + m = xs.length ∧ ∃ Kn2 s, P (xs.drop i) s ∧ S K (upd F p (.lst ws)) Kn (slx s) (owx s) σ Kn2 H, ⟨xs.length, by omega, Kn, s0, h0, (s2.rebase.le le).sub (ho ▸ eo)⟩, fun i m σ H hW => ?_⟩
  obtain ⟨em, Kn2, st, hP, hS⟩ := hW
  have hp2 : H p = some (.lst ws) := hS.ef _ _ upd_same
  have f5 : Paired (rep K Kn2) ws xs := paired_mono hS.e0 f4
  by_cases hlt : i < xs.length
  · have hx : xs[i]? = some xs[i] := List.getElem?_eq_getElem hlt
    have hd : xs.drop i = xs[i] :: xs.drop (i + 1) := List.drop_eq_getElem_cons hlt
    rw [hd] at hP
    obtain ⟨v, hv, rv⟩ := paired_at f5 hx
    refine .inr ⟨⟨ws, v, sq_of hp2, hv⟩, fun σ' H' => ∃ Kn2 s, P (xs.drop (i + 1)) s ∧ S K (upd F p (.lst ws)) Kn (slx s) (owx s) σ' Kn2 H', fun σ' H' ⟨Kn', s', h1, h2⟩ => ⟨m - 1, by omega, by omega, Kn', s', h1, h2⟩, fun u H' hy => ?_⟩
    obtain ⟨rfl, f⟩ := hy
    have : v = u := Option.some.inj (hv.symm.trans (f ws (sq_of hp2)))
    subst this
    refine hg _ st σ Kn2 H' v hS.sl hS.ek rv _ fun σ2 h2 _ => ?_
    exact step _ fl Kn b _ _ st hP _ (fun s' hs' σ Kn2 H hS' => ⟨Kn2, s', hs', hS'⟩) σ2 Kn2 H' ⟨hS.e0, hS.ek, hS.ef, hS.sep, h2, hS.ow⟩
  · have hd : xs.drop i = [] := List.drop_eq_nil_of_le (by omega)
    rw [hd] at hP
    refine .inl ⟨⟨ws, sq_of hp2, by rw [paired_len f5]; omega⟩, done st hP σ Kn2 H ?_⟩
    have s3 := (hS.unbase b).back fl
    refine s3.own f1 (hS.sep p (by rw [upd_same]; exact fun z => nomatch z) f2) (fun o ho z => ?_) hp2 f5
    have := (hS.ow.each o ho).1
    rw [z, upd_same] at this
    cases this
end
end Wk
set_option maxHeartbeats 4000000
/-! Wexc: a def that may raise; raise C(e, ..); try: .. except C as e: ..; e.f, isinstance(e, T) in the suite -/
namespace L2
open PySem PySem.Spec PyProof.Rows
section
variable {X : Cx} {e : Expr} {es : List Expr} {ta : TA} {p1 p2 pos : Pos}
/-- B.__init__(self, ..), B a class of the program over ValueError without an __init__ of its own -/
theorem pe_cinit {x : Str} {C0 : Addr} {pl : Sem Bool} (hg : Gl X x) (hm : X.mg x = some (.ref C0)) (sg : PySem.W.specialIn X.K (.ref C0) "__getattribute__" = some (some (.builtin "type.__getattribute__"))) (rd : PySem.W.readsIn X.K C0 (.type "type") = true)
    (fc : PySem.W.findCls X.K (.ref C0) (.type "type") "__init__" = some (.val (.builtin "ValueError.__init__"))) (ha : PA X (e :: es) ta) (hdb : (x == ("__debug__" : Str)) = false := by decide)
    (hc : eval (.Call (.Attribute (.Name x p1) "__init__" p2) (e :: es) [] pos) X.env = (do
      let ov ← eval (.Name x p1) X.env
      standAt p2.atName
      let (f, first) ← holding [ov] (getMethod ov "__init__" pl)
      callWith pos f first (backTo pos (starEach (e :: es) X.env)) (backToKw pos (keywordEach [] X.env))) := by rfl)
    (he : starEach (e :: es) X.env = (false, eval e X.env) :: starEach es X.env := by rfl) (hpl : (backTo pos (starEach es X.env)).any (·.1) = false := by rfl) :
    PE X (.Call (.Attribute (.Name x p1) "__init__" p2) (e :: es) [] pos) (tVeI X.K ta) := by
  refine ⟨fun pins s σ H Q I h => ?_⟩
  refine PySem.W.methodCall_KW (ld_glob I hg hm ?_ hdb) hc
  refine PySem.W.method_cls I.kIn sg (PySem.W.cls_value I.kIn rd fc (by decide +kernel) ?_)
  show wpAny _ _ (callWith pos (Value.builtin "ValueError.__init__") [] (backTo pos (starEach (e :: es) X.env)) []) _ _ _
  refine PyProof.Rows.callWith_method1 (thn (ha.run pos pins _ σ H _ (I.tok _) h) fun us s1 ⟨vs, H1, I1, r1, a, C, ws, ev, hl, T, ea, q⟩ => ?_) he hpl
  subst ev
  cases r1 with
  | @cons _ u0 _ ur ra rw' =>
    obtain rfl : u0 = Value.ref a := ra
    have hlen : ur.length ≤ sizeLine := by
      rw [← Paired.length rw', sizeLine_eq]
      omega
    exact oinit_ok T I1 ea hlen fun s' J => ⟨.non, H1, J, rfl, q⟩
/-- isinstance(e, c), e the exception that the suite holds -/
def rIsX (K : PySem.W.Frag) (D a : Addr) (cls : Value) (d : Option Addr) : List V → Hp → VK → Prop := fun xs H Q => ∃ (c : V) (cv : Value) (b : Bool), xs = [.ref a, c] ∧ cls = .ref D ∧ (d = none ∨ ∃ dd fs, d = some dd ∧ H dd = some (.xd fs)) ∧ (∀ u, RelV c u → u = cv) ∧ PySem.W.kitOne K (.ref D) cv = some b ∧ Q (.bl b) H
theorem call_isX {a D : Addr} {oe : Obj} {cls : Value} {d : Option Addr} {pn : List (Addr × Obj)} (C : PySem.W.findIn X.K (.ref D) "__getattribute__" = some (some (.builtin "BaseException.__getattribute__")) ∧ PySem.W.findIn X.K (.ref D) "__getattr__" = some none ∧ PySem.W.subIn X.K (.ref D) (.type "BaseException") = some true ∧ PySem.W.isClsIn X.K D = true ∧
      PySem.W.findIn X.K (.ref D) "__class__" = some (some (.builtin "object.__class__")) ∧ PySem.W.specialIn X.K (.builtin "object.__class__") "__get__" = some (some (.builtin "getset_descriptor.__get__")) ∧ PySem.W.takesIn X.K (.builtin "object.__class__") = some true ∧ PySem.W.mroIn X.K D (.type "object") = some true)
    (hz : Zc cls d oe) (hf : ∃ vs, oe.data = .fields vs) : CallR (X.suite a ((a, oe) :: pn)) (.builtin "isinstance") (rIsX X.K D a cls d) := by
  intro pins s σ H xs us Q I r h
  obtain ⟨c, cv, b, rfl, rfl, hd, hcv, e, q⟩ := h
  obtain ⟨c1, c2, c3, c4, c5, c6, c7, c8⟩ := C
  cases r with
  | cons rx rr =>
    cases rr with
    | cons rt rr =>
      cases rr
      cases rx
      have ec := hcv _ rt
      subst ec
      obtain ⟨hget, _⟩ := I.pin (a, oe) (List.mem_append.mpr (.inl List.mem_cons_self))
      obtain ⟨vs, hv⟩ := hf
      have J : ∃ od, PySem.W.InstAt s.heap a oe D od := by
        rcases hd with rfl | ⟨dd, fs, rfl, hdd⟩
        · refine ⟨none, hget, hz.1, by unfold PySem.W.notCls; rw [hv] <;> rfl, ?_⟩
          rw [hz.2]
          trivial
        · have hx : ObjOk X.prog X.w H s.heap dd (.xd fs) := I.hok dd _ hdd
          obtain ⟨mA, hns, _⟩ := hx
          obtain ⟨od, ho, _⟩ := lookIn_ns hns
          refine ⟨some od, hget, hz.1, by unfold PySem.W.notCls; rw [hv] <;> rfl, ?_⟩
          rw [hz.2]
          exact ho
      obtain ⟨od, J⟩ := J
      exact PySem.W.kia_one (PySem.W.kitx_exc c4 c1 c2 c3 c5 c6 c7 c8) I.kIn J e (fun z => nomatch z) fun tk => ⟨.bl b, H, I.kept (t' := tk) fun _ _ z => z, rfl, q⟩
end
end L2
namespace Wk
open PySem PySem.Spec L2 Evl
structure Xc where
  cls : Str
  fl : List (Str × PyData)
/-- what a def that may raise tells -/
inductive Er (α : Type) where
  | ok (x : α)
  | ex (e : Xc)
abbrev FP (Kn : Hp) (fs : List (Str × V)) (fl : List (Str × PyData)) : Prop := Paired (fun p q => p.1 = q.1 ∧ Dq Kn p.2 q.2) fs fl
/-- an exception of the class cls with the dict d stands for e -/
def XR (cm : Str → Option Addr) (Kn : Hp) (e : Xc) (cls : Value) (d : Option Addr) : Prop :=
  ∃ C, cm e.cls = some C ∧ cls = .ref C ∧ ((e.fl = [] ∧ d = none) ∨ ∃ dd fs, d = some dd ∧ Kn dd = some (.xd fs) ∧ FP Kn fs e.fl)
theorem XR.swap {cm : Str → Option Addr} {H H' : Hp} {e : Xc} {cls : Value} {d : Option Addr} (w : Sw H H') (h : XR cm H e cls d) : XR cm H' e cls d := by
  obtain ⟨C, h1, h2, h3⟩ := h
  refine ⟨C, h1, h2, h3.imp id fun ⟨dd, fs, e1, e2, e3⟩ => ⟨dd, fs, e1, w.keep e2 (fun z => z) (fun _ _ z => nomatch z), Paired.mapP e3 fun _ _ q => ⟨q.1, q.2.swap w⟩⟩⟩
/-- the exception that a suite holds -/
structure Xv (cm : Str → Option Addr) (a : Addr) (cls : Value) (d : Option Addr) where
  e : Xc
instance {cm : Str → Option Addr} {a : Addr} {cls : Value} {d : Option Addr} : Rp (Xv cm a cls d) where
  rep _ H v x := v = .ref a ∧ XR cm H x.e cls d
  swap w h := ⟨h.1, h.2.swap w⟩
def xcls (e : Xc) (n : Str) : Option Unit := if e.cls = n then some () else none
def xfl (e : Xc) (n f : Str) : Option Dy := if e.cls = n then (e.fl.lookup f).map Dy.mk else none
theorem xcls_eq {e : Xc} {n : Str} {u : Unit} (h : xcls e n = some u) : e.cls = n := by
  unfold xcls at h
  split at h
  · assumption
  · cases h
theorem fp_lookup {Kn : Hp} : ∀ {fs : List (Str × V)} {fl : List (Str × PyData)} {f : Str} {y : PyData}, FP Kn fs fl → fl.lookup f = some y → ∃ v, fs.lookup f = some v ∧ Dq Kn v y
  | _, _, f, y, .nil, h => by cases h
  | (g, v) :: fs, (g2, z) :: fl, f, y, .cons h t, e => by
    obtain ⟨h1, h2⟩ := h
    have h1 : g = g2 := h1
    subst h1
    rw [lookup_put]
    by_cases hf : f = g
    · subst hf
      have : z = y := by
        simp [List.lookup] at e
        exact e
      subst this
      exact ⟨v, if_pos rfl, h2⟩
    · rw [if_neg hf]
      refine fp_lookup t ?_
      have e2 : (f == g) = false := by simpa using hf
      simpa [List.lookup, e2] using e
section
variable (K : Fg) (F Kn0 : Hp) (sl : List Sl) (ow : List Ow) (cm : Str → Option Addr)
def RX (E : XK) (e : Xc) : Prop := ∀ cls d Kn H, S K F Kn0 [] ow [] Kn H → XR cm Kn e cls d → E cls d H
def RE {α : Type} [Rp α] (R : VK) (E : XK) : Er α → Prop
  | .ok x => RT K F Kn0 ow R x
  | .ex e => RX K F Kn0 ow cm E e
/-- the expression raises e -/
def ER (W : WX) (te : TE) (e : Xc) : Prop := ∀ σ Kn H, S K F Kn0 sl ow σ Kn H → (∀ cls d Kn' H', S K F Kn0 sl ow σ Kn' H' → XR cm Kn' e cls d → W cls d σ H') → ∀ Q, te σ H Q
/-- what is wished of it -/
def RW (W : WX) (e : Xc) : Prop := ∀ σ Kn H cls d, S K F Kn0 sl ow σ Kn H → XR cm Kn e cls d → W cls d σ H
end
def PX {τ α : Type} [Tp τ] [Rp α] (K : Fg) (cm : Str → Option Addr) (f : τ → Option (Er α)) : Sp := fun vs H Q E => ∃ Kn t r, Ex Kn H ∧ rept K Kn vs t ∧ f t = some r ∧
  match r with
  | .ok x => RS K Kn H Q x
  | .ex e => ∀ cls d Kn' H', Gr Kn H Kn' H' → XR cm Kn' e cls d → E cls d H'
section
variable {K : Fg} {F F' Kn0 Kn1 : Hp} {sl sl' : List Sl} {ow ow0 ow1 : List Ow} {cm : Str → Option Addr} {α β τ : Type} [Rp α] [Rp β] [Tp τ] {D : Ends} {E : XK} {R : VK} {W : WX} {te tb : TE} {ta tr : TA} {e : Xc} {i : Nat}
theorem RX.base (q : RX K F Kn0 ow cm E e) (b : Bs F Kn0 Kn1) : RX K F Kn1 ow cm E e := fun cls d Kn H s x => q cls d Kn H (s.unbase b) x
theorem RX.fr (f : Fle F F') (q : RX K F Kn0 ow cm E e) : RX K F' Kn0 ow cm E e := fun cls d Kn H s x => q cls d Kn H (s.back f) x
theorem RE.base {r : Er α} (q : RE K F Kn0 ow cm R E r) (b : Bs F Kn0 Kn1) : RE K F Kn1 ow cm R E r := by
  cases r with
  | ok x => exact RT.base (R := R) q b
  | ex e => exact RX.base q b
theorem RE.fr {r : Er α} (q : RE K F Kn0 ow cm R E r) (f : Fle F F') : RE K F' Kn0 ow cm R E r := by
  cases r with
  | ok x => exact RT.fr (R := R) f q
  | ex e => exact RX.fr f q
theorem re_of {H Kn : Hp} {r : Er α} {Q : VK} (q : match r with | .ok x => RS K Kn H Q x | .ex e => ∀ cls d Kn' H', Gr Kn H Kn' H' → XR cm Kn' e cls d → E cls d H') : RE K H Kn [] cm Q E r := by
  cases r with
  | ok x => exact rt_of q
  | ex e => exact fun cls d Kn' H' s x => q cls d Kn' H' ⟨s.e0, s.ef, s.ek, s.sep⟩ x
/-- the dict of a new exception -/
theorem XR.mk {Kn : Hp} {C dd : Addr} {fs : List (Str × V)} (hc : cm e.cls = some C) (h : FP Kn fs e.fl) (kd : Kn dd = none) : XR cm (upd Kn dd (.xd fs)) e (.ref C) (some dd) :=
  ⟨C, hc, rfl, .inr ⟨dd, fs, rfl, upd_same, Paired.mapP h fun _ _ q => ⟨q.1, q.2.swap (.of (Ex.new kd))⟩⟩⟩
/-- __init__(self, ..) of a class with fields: each is stored -/
def spI (K : Fg) (C : Addr) (fs : List Str) : Sp := fun vs H Q _ => ∃ a ws, vs = .ref a :: ws ∧ ws.length = fs.length ∧ OexC K C ∧ (∀ f ∈ fs, PySem.W.findIn K (.ref C) f = some none) ∧ H a = some (exo a C none) ∧
  ∀ H' dx, H dx = none → dx ≠ a → H' a = some (exo a C (some dx)) → H' dx = some (exd dx (fs.zip ws).reverse) → (∀ q, q ≠ a → q ≠ dx → H' q = H q) → Q .non H'
theorem spI_len {C : Addr} {fs : List Str} {vs : List V} {H : Hp} {Q : VK} {E : XK} (h : spI K C fs vs H Q E) : vs.length = fs.length + 1 := by
  obtain ⟨a, ws, rfl, hl, _⟩ := h
  rw [List.length_cons, hl]
theorem fp_zip {Kn : Hp} : ∀ {fs : List Str} {ws : List V} {ds : List PyData}, DqAll Kn ws ds → Paired (fun (p : Str × V) (q : Str × PyData) => p.1 = q.1 ∧ Dq Kn p.2 q.2) (fs.zip ws) (fs.zip ds)
  | [], _, _, _ => by
    rw [List.zip_nil_left, List.zip_nil_left]
    exact .nil
  | f :: fs, _, _, .nil => .nil
  | f :: fs, _, _, .cons h t => .cons ⟨rfl, h⟩ (fp_zip t)
theorem paired_rev {α β : Type} {G : α → β → Prop} : ∀ {xs : List α} {ys : List β}, Paired G xs ys → Paired G xs.reverse ys.reverse
  | _, _, .nil => .nil
  | _, _, .cons (a := x) (b := y) h t => by
    rw [List.reverse_cons, List.reverse_cons]
    have app : ∀ {as : List α} {bs : List β} {cs : List α} {ds : List β}, Paired G as bs → Paired G cs ds → Paired G (as ++ cs) (bs ++ ds) := fun {as bs cs ds} h1 h2 => by
      induction h1 with
      | nil => exact h2
      | cons h _ ih => exact .cons h ih
    exact app (paired_rev t) (.cons h .nil)
/-- raise C(e, ..) -/
theorem sb_raise [Us τ] {t : τ} {C : Addr} {n : Str} {fs : List Str} (h : EA K F Kn0 sl ow ta t) (hc : cm n = some C) (T : OexC K C) (no : ∀ f ∈ fs, PySem.W.findIn K (.ref C) f = some none) (hl : Tp.n τ = fs.length) (hl2 : fs.length ≤ 100)
    (q : RX K F Kn0 ow0 cm E ⟨n, (fs.zip (Us.toDs t)).reverse⟩) (l : ow0.Sublist ow) : SB K F Kn0 sl ow D (fun _ σ H => tMkO C (spI K C fs) [] ta σ H fun cls d H' => E cls d H') := fun σ Kn H s =>
  h σ Kn H s _ fun vs Kn1 H1 g1 r1 => by
    have hv : vs.length = fs.length := by rw [Tp.len r1, hl]
    refine ⟨by omega, fun a ha => ?_⟩
    rw [List.append_nil]
    refine ⟨a, vs, rfl, hv, T, no, upd_same, fun H2 dx hdx hne e1 e2 e3 => ⟨rfl, dx, _, e1, e2, ?_, ?_⟩⟩
    · rw [upd_ne hne] at hdx
      exact hdx
    · rw [upd_ne hne] at hdx
      have eH : upd (del H2 a) dx (.xd (fs.zip vs).reverse) = upd H1 dx (.xd (fs.zip vs).reverse) := by
        funext b
        by_cases hb : b = dx
        · rw [hb, upd_same, upd_same]
        · rw [upd_ne hb, upd_ne hb]
          by_cases hba : b = a
          · rw [hba, del_same, ha]
          · rw [del_ne hba, e3 b hba hb, upd_ne hba]
      rw [eH]
      have g2 := Gr.new (o := .xd (fs.zip vs).reverse) g1.kh hdx
      exact q _ _ _ _ (((s.grow g1).grow g2).fin.sub l) (XR.mk (e := ⟨n, _⟩) hc (paired_rev (fp_zip (Us.is r1))) (fresh_back g1.kh hdx))
/-- raise C('..'), C without fields -/
theorem sb_raise0 {C : Addr} {n : Str} (hc : cm n = some C) (q : RX K F Kn0 ow0 cm E ⟨n, []⟩) (l : ow0.Sublist ow) : SB K F Kn0 sl ow D (fun _ σ H => (fun (_ : St) (H : Hp) (Q : XK) => Q (.ref C) none H) σ H fun cls d H' => E cls d H') := fun σ Kn H s =>
  q _ _ Kn H (s.fin.sub l) ⟨C, hc, rfl, .inl ⟨rfl, rfl⟩⟩
/-! ### calls that may raise -/
theorem ev_callX {f : τ → Option (Er α)} {r : α} {E : St → XK} {t : τ} (h : EA K F Kn0 sl ow ta t) (hf : f t = some (.ok r)) : EV K F Kn0 sl ow (tCallS (PX K cm f) E ta) r := fun σ Kn H s Q q =>
  h σ Kn H s _ fun vs Kn1 H1 g1 r1 => ⟨Kn1, t, .ok r, g1.kh, r1, hf, fun u Kn' H' g' r' => q u Kn' H' (g1.trans g') r'⟩
theorem er_call {f : τ → Option (Er α)} {t : τ} (h : EA K F Kn0 sl ow ta t) (hf : f t = some (.ex e)) : ER K F Kn0 sl ow cm W (tCallS (PX K cm f) (WE W) ta) e := fun σ Kn H s w Q =>
  h σ Kn H s _ fun vs Kn1 H1 g1 r1 => ⟨Kn1, t, .ex e, g1.kh, r1, hf, fun cls d Kn' H' g' x => w cls d Kn' H' ((s.grow g1).grow g') x⟩
theorem er_opL {r : R2} (h : ER K F Kn0 sl ow cm W te e) : ER K F Kn0 sl ow cm W (tOp r te tb) e := fun σ Kn H s w _ => h σ Kn H s w _
theorem er_cb {r : List V → Hp → VK → Prop} (h : ER K F Kn0 sl ow cm W te e) : ER K F Kn0 sl ow cm W (tCB r (tCons te tr)) e := fun σ Kn H s w _ => h σ Kn H s w _
theorem er_tup (h : ER K F Kn0 sl ow cm W te e) : ER K F Kn0 sl ow cm W (tTup (tCons te tr)) e := fun σ Kn H s w _ => h σ Kn H s w _
theorem sb_asgR {g : TG} (h : ER K F Kn0 sl ow cm W te e) (w : RW K F Kn0 sl ow cm W e) : SB K F Kn0 sl ow D (tAsg te g) := fun σ Kn H s => h σ Kn H s (fun cls d Kn' H' s' x => w σ Kn' H' cls d s' x) _
theorem sb_dropR (h : ER K F Kn0 sl ow cm W te e) (w : RW K F Kn0 sl ow cm W e) : SB K F Kn0 sl ow D (tDrop te) := fun σ Kn H s => h σ Kn H s (fun cls d Kn' H' s' x => w σ Kn' H' cls d s' x) _
theorem sb_retR (h : ER K F Kn0 sl ow cm W te e) (w : RW K F Kn0 sl ow cm W e) : SB K F Kn0 sl ow D (tRet te) := fun σ Kn H s => h σ Kn H s (fun cls d Kn' H' s' x => w σ Kn' H' cls d s' x) _
/-- it leaves the def -/
theorem rw_out (q : RX K F Kn0 ow0 cm E e) (l : ow0.Sublist ow) : RW K F Kn0 sl ow cm (fun cls d _ H => E cls d H) e := fun _ Kn H cls d s x => q cls d Kn H (s.fin.sub l) x
/-! ### try -/
theorem sb_tryAs {C : Value} {ts : Addr → Value → Option Addr → TS} {Wout : WX} {tw : WX → TS} (h : SB K F Kn0 sl ow D (tw (wAs K C i ts Wout D))) : SB K F Kn0 sl ow D (fun D σ H => tw (wAs K C i ts Wout D) D σ H) := h
abbrev Dsu (i : Nat) (D : Ends) : Ends := { nx := fun σ' H' => D.nx (σ'.set i none) H', rt := D.rt, bk := fun σ' H' => D.bk (σ'.set i none) H', ct := fun σ' H' => D.ct (σ'.set i none) H' }
theorem rw_as {C : Value} {ts : Addr → Value → Option Addr → TS} {Wout : WX} {sl' : Addr → Value → Option Addr → List Sl} (hm : ∀ A, cm e.cls = some A → PySem.W.exmOne K (.ref A) C = some true) (hs : ∀ a cls d, sl.set i (sv (Xv.mk e : Xv cm a cls d)) = sl' a cls d)
    (h : ∀ a cls d, SB K F Kn0 (sl' a cls d) ow (Dsu i D) (ts a cls d)) : RW K F Kn0 sl ow cm (wAs K C i ts Wout D) e := fun σ Kn H cls d s x => by
  obtain ⟨A, hA, rfl, hx⟩ := id x
  refine ⟨true, hm A hA, fun _ a _ => ?_, fun z => nomatch z⟩
  exact h a _ d _ Kn H (hs a _ d ▸ s.setv (x := (Xv.mk e : Xv cm a (.ref A) d)) i ⟨rfl, x⟩)
theorem sn_suite (hs : sl.set i .any = sl') (k : SN K F Kn0 sl' ow D) : SN K F Kn0 sl ow (Dsu i D) := fun σ Kn H s => k _ Kn H (hs ▸ s.set (x := .any) (o := none) i trivial)
/-- e.f -/
theorem ev_xf {a C : Addr} {cls : Value} {d : Option Addr} {n f : Str} {y : Dy} (h : EV K F Kn0 sl ow te (Xv.mk e : Xv cm a cls d)) (hC : cm n = some C) (hx : xfl e n f = some y) : EV K F Kn0 sl ow (tXf a cls d C f te) y := fun σ Kn H s Q q =>
  h σ Kn H s _ fun v Kn1 H1 g1 r1 => by
    unfold xfl at hx
    split at hx
    case isFalse => cases hx
    rename_i hn
    obtain ⟨z, hz, rfl⟩ := Option.map_eq_some_iff.mp hx
    obtain ⟨r1, A, hA, hc, hd⟩ := r1
    rw [hn, hC] at hA
    cases hA
    refine ⟨r1, hc, ?_⟩
    rcases hd with ⟨h1, _⟩ | ⟨dd, fs, h1, h2, h3⟩
    · rw [h1] at hz
      cases hz
    · obtain ⟨u, hu, ru⟩ := fp_lookup h3 hz
      exact ⟨dd, fs, u, h1, g1.kh _ _ h2, hu, q u Kn1 H1 g1 ru⟩
theorem rc_isX {a D : Addr} {cls : Value} {d : Option Addr} {n : Str} {ty : String} {b : Bool} {u : Unit} (hD : cm n = some D) (hx : xcls e n = some u) (hk : PySem.W.kitOne K (.ref D) (.type ty) = some b) : RCV K (rIsX K D a cls d) ((Xv.mk e : Xv cm a cls d), TyN.mk ty, ()) b := fun Kn H vs ek h Q q => by
  obtain ⟨v, w, rfl, h1, h2⟩ := two_args h
  obtain ⟨rfl, A, hA, hc, hd⟩ := h1
  rw [xcls_eq hx, hD] at hA
  cases hA
  refine ⟨w, .type ty, b, rfl, hc, ?_, fun u hu => ?_, hk, q.fl ek⟩
  · rcases hd with ⟨_, h1⟩ | ⟨dd, fs, h1, h3, _⟩
    · exact .inl h1
    · exact .inr ⟨dd, fs, h1, ek _ _ h3⟩
  · have h2 : w = .ty ty := h2
    subst h2
    exact hu
end
/-! ### more -/
theorem unX_some {α : Type} {x : Option (Er α)} {r : α} (h : (x.bind fun y => match y with | .ok r => some r | .ex _ => none) = some r) : x = some (.ok r) := by
  obtain ⟨y, h1, h⟩ := bind_some h
  cases y with
  | ok z => cases h; exact h1
  | ex e => cases h
def unX {α : Type} (x : Er α) : Option α := match x with | .ok r => some r | .ex _ => none
theorem unX_is {α : Type} {x : Option (Er α)} {r : α} (h : x.bind unX = some r) : x = some (.ok r) := unX_some h
theorem er_cases {α : Type} (x : Er α) : (∃ e, x = .ex e) ∨ ∃ r, x = .ok r := by
  cases x with
  | ok r => exact .inr ⟨r, rfl⟩
  | ex e => exact .inl ⟨e, rfl⟩
theorem ite_some {α : Type} {c : Bool} {x : Option α} {y : α} (h : (if c = true then x else none) = some y) : c = true ∧ x = some y := by
  cases c with
  | true => exact ⟨rfl, h⟩
  | false => cases h
theorem exm_two {K : Fg} {A C : Addr} {b : Bool} (h1 : PySem.W.subIn K (.ref C) (.type "BaseException") = some true) (h2 : PySem.W.isClsIn K C = true) (h3 : PySem.W.typeIn K (.ref C) = some (.type "type")) (h4 : PySem.W.subIn K (.ref A) (.ref C) = some b) : PySem.W.exmOne K (.ref A) (.ref C) = some b := by
  have e1 : (PySem.W.subIn K (.ref C) (.type "BaseException") == some true) = true := by rw [h1] <;> rfl
  have e2 : ((PySem.W.clsIn K C).isSome && PySem.W.typeIn K (.ref C) == some (.type "type")) = true := by
    have h2' : (PySem.W.clsIn K C).isSome = true := h2
    rw [h2', h3] <;> rfl
  unfold PySem.W.exmOne
  rw [if_pos e1]
  unfold PySem.W.kitCls
  simp only
  rw [if_pos e2]
  exact h4
/-- for x in reversed(xs) -/
theorem wk_rev {K : Fg} {α : Type} [Rp α] {Kn1 : Hp} {p : Addr} {ws : List V} {xs : List α} (h : SqL K Kn1 p ws) (r : Paired (rep K Kn1) ws xs) : WK K Kn1 (Itv K p ws.length) xs.reverse := fun i Kn' H' e1 e2 => by
  have hq : SqL K H' p ws := ex_l (e1.trans e2) h
  have hl := paired_len r
  refine ⟨fun x hx => ?_, fun hle => by
    rw [List.length_reverse] at hle
    show ws.length ≤ i
    omega⟩
  have hi : i < xs.length := by
    have := (List.getElem?_eq_some_iff.mp hx).1
    rw [List.length_reverse] at this
    exact this
  rw [List.getElem?_reverse hi] at hx
  obtain ⟨v, hv, rv⟩ := paired_at r hx
  rw [← hl] at hv
  refine ⟨⟨by omega, ws, v, hq, hv⟩, fun u H2 hy => ?_⟩
  obtain ⟨rfl, f⟩ := hy
  have : v = u := Option.some.inj (hv.symm.trans (f ws hq))
  subst this
  exact ⟨Kn', Gr.refl e2, Rp.mono e1 rv⟩
theorem it_rev {K : Fg} {F Kn0 : Hp} {sl : List Sl} {ow : List Ow} {α : Type} [Rp α] {ta : TA} {xs : List α} (h : EA K F Kn0 sl ow ta (xs, ())) : IT K F Kn0 sl ow (iRev K ta) xs.reverse := fun σ Kn H s R q => h σ Kn H s _ fun vs Kn1 H1 g1 r1 => by
  obtain ⟨v, rfl, p, ws, rfl, h3, h4⟩ := one_arg r1
  exact ⟨p, ws, rfl, sq_of (g1.kh _ _ h3), q _ Kn1 H1 g1 (wk_rev (sq_of h3) h4)⟩
theorem kit_two {K : Fg} {D : Addr} {ty : String} {b : Bool} (h : PySem.W.subIn K (.ref D) (.type ty) = some b) (hm : PySem.W.kitMeta ty = true := by decide +kernel) : PySem.W.kitOne K (.ref D) (.type ty) = some b := by
  unfold PySem.W.kitOne
  rw [if_neg (show ¬ (Value.ref D == Value.type ty) = true from fun z => Value.noConfusion (eq_of_beq z))]
  show (if PySem.W.kitMeta ty = true then PySem.W.subIn K (.ref D) (.type ty) else none) = some b
  rw [if_pos hm]
  exact h
theorem RE.ok_rt {K : Fg} {F Kn0 : Hp} {ow : List Ow} {cm : Str → Option Addr} {α : Type} [Rp α] {R : VK} {E : XK} {x : α} (q : RE K F Kn0 ow cm R E (.ok x)) : RT K F Kn0 ow R x := q
end Wk
/-! Wopt: None or something; is; a tuple of alike things walked; a tuple of two lists of one's own -/
namespace Wk
open PySem PySem.Spec L2 Evl
/-- never None -/
class NN (α : Type) [Rp α] : Prop where
  nn : ∀ {K : Fg} {H : Hp} {v : V} {a : α}, rep K H v a → v ≠ .non
instance : NN Int := ⟨fun h z => by rw [show _ = V.int _ from h] at z; cases z⟩
instance : NN Bool := ⟨fun h z => by rw [show _ = V.bl _ from h] at z; cases z⟩
instance : NN Str := ⟨fun h z => by rw [show _ = V.str _ from h] at z; cases z⟩
instance {α : Type} [Rp α] : NN (List α) := ⟨fun h z => by
  obtain ⟨p, vs, rfl, _⟩ := h
  cases z⟩
instance {α τ : Type} [Rp α] [Tp τ] : NN (α × τ) := ⟨fun h z => by
  obtain ⟨p, vs, rfl, _⟩ := h
  cases z⟩
inductive Ho {α : Type} [Rp α] : {τ : Type} → [Tp τ] → τ → List α → Prop
  | nil : Ho () []
  | cons {τ : Type} [Tp τ] (x : α) {t : τ} {xs : List α} : Ho t xs → Ho (x, t) (x :: xs)
theorem Ho.get {α : Type} [Rp α] {K : Fg} {H : Hp} {τ : Type} [i : Tp τ] {t : τ} {xs : List α} (h : Ho t xs) : ∀ {vs : List V}, rept K H vs t → Paired (rep K H) vs xs := by
  induction h with
  | nil => intro vs r; cases r; exact .nil
  | cons x _ ih =>
    intro vs r
    obtain ⟨v, r, rfl, h1, h2⟩ := r
    exact .cons h1 (ih h2)
structure P2 where
  a : Addr
  b : Addr
instance : Ob P2 := { ob := fun _ _ o x => o = .tup [.ref x.a, .ref x.b], swap := fun _ h => h }
def appP {α : Type} (c : Bool) (xs ys : List α) (x : α) : Option (List α × List α) := if xs.length < 1000000 ∧ ys.length < 1000000 then some (if c = true then (xs, ys ++ [x]) else (xs ++ [x], ys)) else none
section
variable {K : Fg} {F Kn0 : Hp} {sl sl' : List Sl} {ow ow1 ow2 : List Ow} {α β γ τ : Type} [Rp α] [Rp β] [Rp γ] [Tp τ] {ta tb te tn : TE} {D : Ends} {i j k1 k2 : Nat} {p pt p1 p2 : Addr}
theorem ev_some [NN α] {x : α} (h : EV K F Kn0 sl ow te x) : EV K F Kn0 sl ow te (some x) := fun σ Kn H s Q q => h σ Kn H s Q fun v Kn' H' g r => q v Kn' H' g ⟨NN.nn r, r⟩
theorem ev_unopt {o : Option α} {x : α} (h : EV K F Kn0 sl ow te o) (e : o = some x) : EV K F Kn0 sl ow te x := fun σ Kn H s Q q => h σ Kn H s Q fun v Kn' H' g r => by
  subst e
  exact q v Kn' H' g r.2
theorem r2_isN {o : Option α} : R2V K (fun x y H Q => y = .non ∧ Q (.bl (decide (x = .non))) H) o Nn.nn o.isNone := fun Kn H v w ek h1 h2 Q q => by
  cases h2
  refine ⟨rfl, ?_⟩
  cases o with
  | none =>
    cases h1
    exact q.fl ek
  | some x =>
    rw [decide_eq_false h1.1]
    exact q.fl ek
theorem r2_notN {o : Option α} : R2V K (fun x y H Q => y = .non ∧ Q (.bl (!decide (x = .non))) H) o Nn.nn o.isSome := fun Kn H v w ek h1 h2 Q q => by
  cases h2
  refine ⟨rfl, ?_⟩
  cases o with
  | none =>
    cases h1
    exact q.fl ek
  | some x =>
    rw [decide_eq_false h1.1]
    exact q.fl ek
theorem r2_isB {a b : Bool} : R2V K L2.rIsB a b (decide (a = b)) := fun Kn H v w ek h1 h2 Q q => by
  cases h1
  cases h2
  exact ⟨a, b, rfl, rfl, q.fl ek⟩
theorem r2_notB {a b : Bool} : R2V K L2.rNotB a b (!decide (a = b)) := fun Kn H v w ek h1 h2 Q q => by
  cases h1
  cases h2
  exact ⟨a, b, rfl, rfl, q.fl ek⟩
theorem ev_hom {t : β × τ} {xs : List α} (h : EV K F Kn0 sl ow te t) (ho : Ho t xs) : EV K F Kn0 sl ow te (Tu.mk xs) := fun σ Kn H s Q q => h σ Kn H s Q fun v Kn' H' g r => by
  obtain ⟨p, vs, rfl, h1, h2⟩ := r
  exact q _ Kn' H' g ⟨p, vs, rfl, h1, ho.get h2⟩
/-- an object of one's own becomes known, and is no more named -/
theorem S.lend {σ : L2.St} {Kn H : Hp} {o1 : Ow} {ob : HO} (s : S K F Kn0 sl ow σ Kn H) (hj : ow[j]? = some o1) (hp : H o1.ad = some ob) : S K F Kn0 sl (ow.eraseIdx j) σ (upd Kn o1.ad ob) H := by
  obtain ⟨f1, f2, f3⟩ := s.ow.each _ (List.mem_of_getElem? hj)
  have s1 := s.sub (List.eraseIdx_sublist ow j)
  refine s1.know f1 f2 (fun o hm z => ?_) hp
  obtain ⟨m, hm'⟩ := List.getElem?_of_mem hm
  rw [List.getElem?_eraseIdx] at hm'
  split at hm'
  · have := ow_at s.ow.nd hm' hj z
    omega
  · have := ow_at s.ow.nd hm' hj z
    omega
theorem S.borrowP {σ : L2.St} {Kn H : Hp} {xs ys : List α} (s : S K F Kn0 sl ow σ Kn H) (hi : sl[i]? = some (.at pt)) (hj : ow[j]? = some (oo pt (P2.mk p1 p2))) (h1 : (ow.eraseIdx j)[k1]? = some (ol p1 xs)) (h2 : ((ow.eraseIdx j).eraseIdx k1)[k2]? = some (ol p2 ys)) :
    ∃ Kn', S K F Kn0 (sl.set i (sv ((xs, ys, ()) : List α × List α × Unit))) (((ow.eraseIdx j).eraseIdx k1).eraseIdx k2) σ Kn' H := by
  obtain ⟨o, q1, q2⟩ := s.sl.get hi
  have q2 : o = some (.ref pt) := q2
  obtain ⟨_, a2, ob, a3, a4⟩ := s.ow.each _ (List.mem_of_getElem? hj)
  have a4 : ob = .tup [.ref p1, .ref p2] := a4
  subst a4
  have s1 := s.lend hj a3
  obtain ⟨_, b2, w1, b3, b4⟩ := s1.ow.each _ (List.mem_of_getElem? h1)
  have s2 := s1.lend h1 b3
  obtain ⟨_, c2, w2, c3, c4⟩ := s2.ow.each _ (List.mem_of_getElem? h2)
  have s3 := s2.lend h2 c3
  have x2 : Ex (upd Kn pt (.tup [.ref p1, .ref p2])) (upd (upd Kn pt (.tup [.ref p1, .ref p2])) p1 (.lst w1)) := Ex.new b2
  have x3 : Ex (upd (upd Kn pt (.tup [.ref p1, .ref p2])) p1 (.lst w1)) (upd (upd (upd Kn pt (.tup [.ref p1, .ref p2])) p1 (.lst w1)) p2 (.lst w2)) := Ex.new c2
  have hσ : σ.set i o = σ := by
    refine List.ext_getElem? fun m => ?_
    by_cases e : i = m
    · subst e
      rw [List.getElem?_set_self (List.getElem?_eq_some_iff.mp q1).1, q1]
    · rw [List.getElem?_set_ne e]
  have s4 := s3.set (x := sv ((xs, ys, ()) : List α × List α × Unit)) (o := o) i ⟨.ref pt, q2, pt, _, rfl, (x2.trans x3) _ _ upd_same, .ref p1, _, rfl, ⟨p1, w1, rfl, x3 _ _ upd_same, paired_mono (x2.trans x3) b4⟩, .ref p2, _, rfl, ⟨p2, w2, rfl, upd_same, paired_mono x3 c4⟩, rfl⟩
  rw [hσ] at s4
  exact ⟨_, s4⟩
theorem ev_borP [Fl γ] {z : γ} {xs ys : List α} (hi : sl[i]? = some (.at pt)) (hj : ow[j]? = some (oo pt (P2.mk p1 p2))) (h1 : (ow.eraseIdx j)[k1]? = some (ol p1 xs)) (h2 : ((ow.eraseIdx j).eraseIdx k1)[k2]? = some (ol p2 ys)) (hs : sl.set i (sv ((xs, ys, ()) : List α × List α × Unit)) = sl')
    (ho : ((ow.eraseIdx j).eraseIdx k1).eraseIdx k2 = ow1) (h : EV K F Kn0 sl' ow1 te z) : EV K F Kn0 sl ow te z := fun σ Kn H s Q q => by
  obtain ⟨Kn', s1⟩ := s.borrowP hi hj h1 h2
  subst hs
  subst ho
  exact h σ _ H s1 Q fun v Kn' H' g r => q v Kn H' ⟨Ex.refl _, g.hh, s.ek.trans g.hh, fun _ _ h => h⟩ (Fl.iff.mpr (Fl.iff.mp r))
/-- a = (xs, ys), both new -/
theorem sb_asgPair {xs ys : List α} {sl' : Addr → List Sl} (hs : ∀ p, sl.set i (.at p) = sl' p) (ha : EN K F Kn0 sl ow ta xs) (hb : EN K F Kn0 sl ow tb ys) (k : ∀ pt p1 p2, SN K F Kn0 (sl' pt) (oo pt (P2.mk p1 p2) :: ol p1 xs :: ol p2 ys :: ow) D) :
    SB K F Kn0 sl ow D (tAsg (tTup (tCons ta (tCons tb tNil))) (gName i)) := fun σ Kn H s =>
  ha σ Kn H s _ fun p1 w1 Kn1 H1 g1 hp1 kp1 hw1 r1 => hb σ Kn1 H1 (s.grow g1) _ fun p2 w2 Kn2 H2 g2 hp2 kp2 hw2 r2 => by
    have g12 := g1.trans g2
    have h12 : H2 p1 = some (.lst w1) := g2.hh _ _ hw1
    have k12 : Kn2 p1 = none := g2.sp p1 (ne_none_of hw1) kp1
    have n12 : p1 ≠ p2 := fun z => by rw [← z, hw1] at hp2; cases hp2
    refine ⟨by show ([V.ref p1, V.ref p2] : List V).length ≤ sizeLine; exact le_line (Nat.le_of_ble_eq_true rfl), fun pt hp => ?_⟩
    have g3 := g12.trans (Gr.newU (o := .tup [V.ref p1, V.ref p2]) g12.kh hp)
    have n1 : p1 ≠ pt := fun z => by rw [← z, h12] at hp; cases hp
    have n2 : p2 ≠ pt := fun z => by rw [← z, hw2] at hp; cases hp
    have s3 := s.grow g3
    have u1 : upd H2 pt (.tup [V.ref p1, V.ref p2]) p1 = some (.lst w1) := by rw [upd_ne n1]; exact h12
    have u2 : upd H2 pt (.tup [V.ref p1, V.ref p2]) p2 = some (.lst w2) := by rw [upd_ne n2]; exact hw2
    have o2 := s3.own (p := p2) (fresh_back s.ef (fresh_back g1.hh hp2)) kp2 (owned_ne s (fresh_back g1.hh hp2)) u2 r2
    have o1 := o2.own (p := p1) (fresh_back s.ef hp1) k12 (fun o ho z => by
      rcases List.mem_cons.mp ho with rfl | ho
      · exact n12 z.symm
      · exact owned_ne s hp1 o ho z) u1 (paired_mono g2.kk r1)
    have hpH : H pt = none := fresh_back g12.hh hp
    have o0 := o1.ownG (p := pt) (o := oo pt (P2.mk p1 p2)) rfl (fresh_back s.ef hpH) (fresh_back g12.kh hp) (fun o ho z => by
      rcases List.mem_cons.mp ho with rfl | ho
      · exact n1 z
      · rcases List.mem_cons.mp ho with rfl | ho
        · exact n2 z
        · exact owned_ne s hpH o ho z) ⟨_, upd_same, rfl⟩
    exact k pt p1 p2 _ Kn2 _ (hs pt ▸ o0.seta (p := pt) i)
theorem set_ow {o : Ow} (h : ow[j]? = some o) : ow.set j o = ow := by
  refine List.ext_getElem? fun m => ?_
  by_cases e : j = m
  · subst e
    rw [List.getElem?_set_self (List.getElem?_eq_some_iff.mp h).1, h]
  · rw [List.getElem?_set_ne e]
/-- a[int(c)].append(x) -/
theorem sb_appP {xs ys xs' ys' : List α} {x : α} {c : Bool} (hi : sl[i]? = some (.at pt)) (hj : ow[j]? = some (oo pt (P2.mk p1 p2))) (h1 : ow[k1]? = some (ol p1 xs)) (h2 : ow[k2]? = some (ol p2 ys)) (hn : EV K F Kn0 sl ow tn (if c = true then (1 : Int) else 0)) (h : EV K F Kn0 sl ow te x) (hx : appP c xs ys x = some (xs', ys'))
    (ho : (ow.set k1 (ol p1 xs')).set k2 (ol p2 ys') = ow1) (hk : k1 ≠ k2) (k : SN K F Kn0 sl ow1 D) : SB K F Kn0 sl ow D (tDrop (tBM K "list" rAppend (tOp (rIxT K) (tVar i) tn) (tCons te tNil))) := fun σ Kn H s => by
  obtain ⟨o, q1, q2⟩ := s.sl.get hi
  refine ⟨.ref pt, by rw [q1]; exact congrArg some q2, hn σ Kn H s _ fun v Kn1 H1 g1 r1 => ?_⟩
  have s1 := s.grow g1
  obtain ⟨_, a2, ob, a3, a4⟩ := s1.ow.each _ (List.mem_of_getElem? hj)
  have a4 : ob = .tup [.ref p1, .ref p2] := a4
  subst a4
  cases r1
  obtain ⟨_, b2, w1, b3, b4⟩ := s1.ow.each _ (List.mem_of_getElem? h1)
  obtain ⟨_, c2, w2, c3, c4⟩ := s1.ow.each _ (List.mem_of_getElem? h2)
  unfold appP at hx
  split at hx
  case isFalse => cases hx
  rename_i hl
  have hx := Option.some.inj hx
  subst ho
  cases c with
  | true =>
    have e1 : xs = xs' := congrArg Prod.fst hx
    have e2 : ys ++ [x] = ys' := congrArg Prod.snd hx
    subst e1
    subst e2
    refine ⟨pt, _, 1, .ref p2, rfl, rfl, st_of a3, rfl, Or.inl ⟨rfl, w2, sq_of c3⟩, h σ Kn1 H1 s1 _ fun u Kn2 H2 g2 r2 => ?_⟩
    refine ⟨p2, w2, u, rfl, rfl, g2.hh _ _ c3, by rw [paired_len c4]; exact lt_line hl.2, k _ Kn2 _ ?_⟩
    have kp : Kn2 p2 = none := g2.sp p2 (ne_none_of c3) c2
    rw [set_ow h1]
    exact (s1.grow g2).write h2 (Ex.refl _) (upd_in g2.kh kp) (fun q hq _ => upd_ne hq) (fun _ _ h => h) upd_same (paired_append (paired_mono g2.kk c4) (.cons r2 .nil))
  | false =>
    have e1 : xs ++ [x] = xs' := congrArg Prod.fst hx
    have e2 : ys = ys' := congrArg Prod.snd hx
    subst e1
    subst e2
    refine ⟨pt, _, 0, .ref p1, rfl, rfl, st_of a3, rfl, Or.inl ⟨rfl, w1, sq_of b3⟩, h σ Kn1 H1 s1 _ fun u Kn2 H2 g2 r2 => ?_⟩
    refine ⟨p1, w1, u, rfl, rfl, g2.hh _ _ b3, by rw [paired_len b4]; exact lt_line hl.1, k _ Kn2 _ ?_⟩
    have kp : Kn2 p1 = none := g2.sp p1 (ne_none_of b3) b2
    have e : (ow.set k1 (ol p1 (xs ++ [x]))).set k2 (ol p2 ys) = ow.set k1 (ol p1 (xs ++ [x])) := set_ow (by rw [List.getElem?_set_ne hk]; exact h2)
    rw [e]
    exact (s1.grow g2).write h1 (Ex.refl _) (upd_in g2.kh kp) (fun q hq _ => upd_ne hq) (fun _ _ h => h) upd_same (paired_append (paired_mono g2.kk b4) (.cons r2 .nil))
end
end Wk
/-! Wsort: sorted of a list of alike data (numbers, texts, tuples of these); sorted of a dict's keys; xs[::-1] -/
namespace L2
open PySem PySem.Spec PyProof.Rows
/-- sorted(xs), xs a list of alike data -/
def rSortedD (K : PySem.W.Frag) : List V → Hp → VK → Prop := fun vs H Q => ∃ (a : Addr) (bs : List (V × PyData)), vs = [V.ref a] ∧ SqL K H a (bs.map (·.1)) ∧ (∀ b ∈ bs, Dp K H b.1 b.2) ∧ PySem.W.AllAlike (bs.map (·.2)) ∧ PySem.W.Sortable (bs.map (·.2)) ∧ bs.length ≤ 1000000 ∧ (∀ b ∈ bs, b.2.depth ≤ 60) ∧
  ∀ p, H p = none → Q (.ref p) (upd H p (.lst ((bs.mergeSort (PySem.W.dataLe false (fun b : V × PyData => b.2))).map (·.1))))
theorem each_vals : ∀ {bs : List (V × PyData)} {us : List Value}, Vals (bs.map (·.1)) us → PySem.W.EachIs (fun v (b : V × PyData) => RelV b.1 v) us bs
  | [], _, h => by
    have h' : Vals [] _ := h
    cases h'
    exact .nil
  | b :: bs, _, h => by
    have h' : Vals (b.1 :: bs.map (·.1)) _ := h
    cases h' with
    | cons r t => exact .cons r (each_vals t)
theorem vals_each : ∀ {bs : List (V × PyData)} {us : List Value}, PySem.W.EachIs (fun v (b : V × PyData) => RelV b.1 v) us bs → Vals (bs.map (·.1)) us
  | _, _, .nil => .nil
  | _, _, .cons r t => .cons r (vals_each t)
theorem each_reads {X : Cx} {pins : List (Addr × Obj)} {σ : St} {H : Hp} {s : Shared} (I : Inv X pins σ H s) : ∀ {bs : List (V × PyData)} {us : List Value}, (∀ b ∈ bs, Dp X.K H b.1 b.2) → PySem.W.EachIs (fun v (b : V × PyData) => RelV b.1 v) us bs → PySem.W.EachIs (fun v (b : V × PyData) => ∃ as, Reads s.heap v b.2 as) us bs
  | _, _, _, .nil => .nil
  | _, _, h, .cons r t => .cons (Dp.reads I _ _ _ (h _ List.mem_cons_self) r) (each_reads I (fun b hb => h b (List.mem_cons_of_mem _ hb)) t)
theorem cr_sortedD {X : Cx} (hu : X.A.units + 64 < cLine) : CallR X (.builtin "sorted") (rSortedD X.K) := by
  intro pins s σ H vs us Q I r h
  obtain ⟨a, bs, rfl, hs, hd, hal, hk, hL, hdp, q⟩ := h
  obtain ⟨its, rv, hl, hz⟩ := I.list hs
  rw [Vals.ref1 r]
  have e := each_vals rv
  have hL' : bs.length ≤ sizeLine := Nat.le_trans hL (by decide)
  refine PySem.W.sorted_data (vs := its) (enc := fun b : V × PyData => b.2) hl.isList e (each_reads I hd e) hal hk hL' (fun b hb => by have := hdp b hb; omega) fun out ho eo => ?_
  obtain ⟨ep, he'⟩ := PyProof.Rows.sortedAll_at s.heap its out.toArray
  have hlen : ((bs.mergeSort (PySem.W.dataLe false (fun b : V × PyData => b.2))).map (·.1)).length ≤ sizeLine := by
    rw [List.length_map, List.length_mergeSort]
    exact hL'
  exact ⟨.ref _, upd H (s.heap.objs.size + 1) (.lst _), I.laid (t' := s.toks) (fun _ _ => PyProof.Rows.sortedAll_old) (Nat.le_succ _) ⟨hlen, out, ep, vals_each eo, he'⟩, rfl, q _ (I.hok.fresh (Nat.le_succ _))⟩
end L2
namespace Wk
open PySem PySem.Spec L2 Evl
/-- alike, one with the other -/
class Al (α : Type) [Rp α] [Pd α] : Prop where
  al : ∀ a b : α, PySem.W.alike (Pd.toD a) (Pd.toD b) = true
class Als (τ : Type) [Tp τ] [Pq τ] : Prop where
  al : ∀ a b : τ, PySem.W.alikeAll (Pq.toDs a) (Pq.toDs b) = true
class So (α : Type) [Rp α] [Pd α] : Prop where
  so : (∀ a : α, ∃ x r, Pd.toD a = .tuple (x :: r)) ∨ ∀ a : α, Pd.toD a ≠ .none ∧ ∀ xs, Pd.toD a ≠ .tuple xs
instance : Al Int := ⟨fun _ _ => rfl⟩
instance : Al Str := ⟨fun _ _ => rfl⟩
instance : Al Bool := ⟨fun _ _ => rfl⟩
instance : Als Unit := ⟨fun _ _ => rfl⟩
instance {α τ : Type} [Rp α] [Tp τ] [Pd α] [Pq τ] [Al α] [Als τ] : Als (α × τ) := ⟨fun a b => by
  show PySem.W.alikeAll (Pd.toD a.1 :: Pq.toDs a.2) (Pd.toD b.1 :: Pq.toDs b.2) = true
  rw [PySem.W.alikeAll, Al.al, Als.al]
  rfl⟩
instance {α τ : Type} [Rp α] [Tp τ] [Pd α] [Pq τ] [Al α] [Als τ] : Al (α × τ) := ⟨fun a b => by
  show PySem.W.alike (.tuple (Pq.toDs a)) (.tuple (Pq.toDs b)) = true
  rw [PySem.W.alike, Als.al]⟩
instance : So Int := ⟨.inr fun a => ⟨(fun h => nomatch h), (fun _ h => nomatch h)⟩⟩
instance : So Str := ⟨.inr fun a => ⟨(fun h => nomatch h), (fun _ h => nomatch h)⟩⟩
instance : So Bool := ⟨.inr fun a => ⟨(fun h => nomatch h), (fun _ h => nomatch h)⟩⟩
instance {α τ : Type} [Rp α] [Tp τ] [Pd α] [Pq τ] : So (α × τ) := ⟨.inl fun a => ⟨_, _, rfl⟩⟩
def leD {α : Type} [Rp α] [Pd α] (a b : α) : Bool := PySem.W.dataLe false (fun c : α => Pd.toD c) a b
def srtD {α : Type} [Rp α] [Pd α] (xs : List α) : List α := xs.mergeSort leD
def srtDO {α : Type} [Rp α] [Pd α] (xs : List α) : Option (List α) := if xs.length ≤ 1000000 ∧ Pd.dp α ≤ 60 then some (srtD xs) else none
theorem paired_zip {α β : Type} {R : α → β → Prop} : ∀ {vs : List α} {xs : List β}, Paired R vs xs → ∃ ps : List (α × β), ps.map (·.1) = vs ∧ ps.map (·.2) = xs ∧ ∀ c ∈ ps, R c.1 c.2
  | _, _, .nil => ⟨[], rfl, rfl, (fun _ h => nomatch h)⟩
  | _, _, .cons r t => by
    obtain ⟨ps, h1, h2, h3⟩ := paired_zip t
    refine ⟨(_, _) :: ps, by rw [List.map_cons, h1], by rw [List.map_cons, h2], fun c hc => ?_⟩
    rcases List.mem_cons.mp hc with rfl | hc
    · exact r
    · exact h3 c hc
theorem zip_paired {α β : Type} {R : α → β → Prop} : ∀ {ps : List (α × β)}, (∀ c ∈ ps, R c.1 c.2) → Paired R (ps.map (·.1)) (ps.map (·.2))
  | [], _ => .nil
  | c :: ps, h => .cons (h c List.mem_cons_self) (zip_paired fun d hd => h d (List.mem_cons_of_mem _ hd))
section
variable {K : Fg} {F Kn0 : Hp} {sl sl' : List Sl} {ow ow1 : List Ow} {α β γ : Type} [Rp α] [Rp β] [Rp γ] {te : TE} {i j : Nat} {p : Addr}
theorem rc_sortD {α : Type} [Rp α] [Pd α] [Al α] [So α] {xs zs : List α} (h : srtDO xs = some zs) : RCL K (rSortedD K) (xs, ()) zs := fun Kn H vs ek hv Q q => by
  unfold srtDO at h
  split at h
  case isFalse => cases h
  rename_i hl
  cases h
  obtain ⟨v, rfl, l, ws, rfl, h1, h2⟩ := one_arg hv
  obtain ⟨ps, e1, e2, e3⟩ := paired_zip h2
  have eb1 : (ps.map fun c => ((c.1, Pd.toD c.2) : V × PyData)).map (·.1) = ws := by
    rw [List.map_map, ← e1]
    rfl
  have lp : ps.length = xs.length := by rw [← e2, List.length_map]
  refine ⟨l, ps.map fun c => (c.1, Pd.toD c.2), rfl, by rw [eb1]; exact sq_of (ek _ _ h1), fun b hb => ?_, ?_, ?_, by rw [List.length_map, lp]; exact hl.1, fun b hb => ?_, fun p hp => ?_⟩
  · obtain ⟨c, hc, rfl⟩ := List.mem_map.mp hb
    exact Pd.isD (Rp.mono ek (e3 c hc))
  · rw [List.map_map]
    exact PySem.W.AllAlike.of fun a b => Al.al _ _
  · rw [List.map_map]
    rcases (So.so : _ ∨ ∀ a : α, _) with h | h
    · exact PySem.W.Sortable.tuples fun c => h _
    · exact PySem.W.Sortable.others fun c => h _
  · obtain ⟨c, hc, rfl⟩ := List.mem_map.mp hb
    exact Nat.le_trans (Pd.dep _) hl.2
  · have m1 : (ps.mergeSort fun a b => leD a.2 b.2).map (fun c => ((c.1, Pd.toD c.2) : V × PyData)) = (ps.map fun c => ((c.1, Pd.toD c.2) : V × PyData)).mergeSort (PySem.W.dataLe false (fun b : V × PyData => b.2)) := List.map_mergeSort fun a _ b _ => rfl
    have m2 : (ps.mergeSort fun a b => leD a.2 b.2).map (·.2) = srtD xs := by
      unfold srtD
      rw [← e2]
      exact List.map_mergeSort fun a _ b _ => rfl
    rw [← m1, List.map_map]
    refine q p _ Kn _ (Gr.newU ek hp) hp (fresh_back ek hp) upd_same ?_
    rw [← m2]
    exact zip_paired fun c hc => e3 c ((List.mergeSort_perm _ _).mem_iff.mp hc)
theorem en_rev {xs : List α} (h : EV K F Kn0 sl ow te xs) : EN K F Kn0 sl ow (tRevL K te) xs.reverse := fun σ Kn H s Q q => h σ Kn H s _ fun v Kn1 H1 g1 r1 => by
  obtain ⟨p, ws, rfl, h3, h4⟩ := r1
  refine ⟨p, ws, rfl, sq_of (g1.kh _ _ h3), fun l hl => q l _ Kn1 _ (g1.trans (Gr.newU g1.kh hl)) (fresh_back g1.hh hl) (fresh_back g1.kh hl) upd_same ?_⟩
  obtain ⟨ps, e1, e2, e3⟩ := paired_zip h4
  rw [← e1, ← e2, ← List.map_reverse, ← List.map_reverse]
  exact zip_paired fun c hc => e3 c (List.mem_reverse.mp hc)
theorem k_sortedD {X : Cx} (hu : X.A.units + 64 < cLine) (h : X.K = K := by rfl) : CallR X (.builtin "sorted") (rSortedD K) := h ▸ cr_sortedD hu
theorem k_revL {X : Cx} {e : Expr} {te : TE} {k : Nat} {p1 p2 p3 pos : Pos} (he : PE X e te) (h : X.K = K := by rfl) : PE X (.Subscript e (.Slice none none (some (.UnaryOp .USub (.Constant (.int 1) k p1) p2)) p3) pos) (tRevL K te) := h ▸ pe_revL he
/-- sorted(d), d a dict with text keys -/
def rSortedK : List V → Hp → VK → Prop := fun xs H Q => ∃ (a : Addr) (kvs : List (Key × V)) (ks : List Str), xs = [.ref a] ∧ Rd H a (.dK kvs) ∧ kvs.map (·.1) = ks.map Sum.inr ∧ ks.length < 64 ∧ ∀ ys p, ys.Perm ks → PyProof.Rows.sortedS ys = true → H p = none → Q (.ref p) (upd H p (.lst (ys.map V.str)))
theorem k_sortedK {X : Cx} (hc : X.calm = true := by rfl) : CallR X (.builtin "sorted") rSortedK := call_sortedD hc
end
end Wk
/-! Wdeal: sum(d.values()), divmod, d[k] += c, xs[i] += c, str(n), zfill, a dict of one's own told -/
namespace L2
open PySem PySem.Spec PyProof.Rows
section
variable {X : Cx}
theorem get_list : PGet X (rIxL X.K) := by
  intro pins s σ H x y v u Q I rx ry h
  obtain ⟨p, xs, i, z, rfl, rfl, hq, he, q⟩ := h
  cases rx
  obtain ⟨t, rfl⟩ := ry
  obtain ⟨its, r, pl, hz⟩ := I.list hq
  obtain ⟨j, h1, h2, h3, h4, h5⟩ := atI_get he
  obtain ⟨w, ew, rw'⟩ := r.get h2
  have hl := r.length
  have hn := line63
  have fin : EP X pins σ Q w s := ⟨z, H, I, rw', q⟩
  by_cases h0 : 0 ≤ i
  · have hj : i.toNat = j := by
      rw [seqIndex_of h0 h5] at h1
      exact Option.some.inj h1
    exact wpAny_getItem_list pl.isList h0 (by omega) (by rw [hj]; simpa using ew) fin
  · have hj : (i + (its.toArray.size : Int)).toNat = j := by
      rw [seqIndex_neg (by omega) h4] at h1
      rw [List.size_toArray, ← hl]
      exact Option.some.inj h1
    exact wpAny_getItem_list_neg pl.isList (by omega) (by rw [List.size_toArray] <;> omega) (by omega) (by rw [hj]; simpa using ew) fin
/-- sum(o.values()), a dict with int values -/
def tSumVals (td : TE) : TE := fun σ H Q => td σ H fun x H1 => ∃ (a : Addr) (kvs : List (Key × V)) (is : List Int), x = V.ref a ∧ Rd H1 a (.dK kvs) ∧ kvs.map (·.2) = is.map V.int ∧ Q (.int is.sum) H1
theorem pre_sum (is : List Int) : ∀ n : Nat, n ≤ is.length → preSum (fun i => is.getD i 0) n = (is.take n).sum
  | 0, _ => rfl
  | n + 1, h => by
    have ih := pre_sum is n (by omega)
    show preSum (fun i => is.getD i 0) n + is.getD n 0 = _
    rw [ih, List.take_succ, List.sum_append, List.getD_eq_getElem?_getD, List.getElem?_eq_getElem (show n < is.length by omega)]
    simp
variable {o : Expr} {p pos apos mpos : Pos} {td : TE}
theorem pe_sumVals (hc : X.calm = true) (hg : Gl X "sum") (hm : X.mg "sum" = none) (hd : PE X o td) (hbase : attributeBase o "values" X.env (eval o X.env) = eval o X.env := by rfl) (hline : (apos.endLine == mpos.line) = true := by rfl)
    (hse : starEach [Expr.Call (.Attribute o "values" apos) [] [] mpos] X.env = [(false, eval (Expr.Call (.Attribute o "values" apos) [] [] mpos) X.env)] := by rfl) :
    PE X (.Call (.Name "sum" p) [.Call (.Attribute o "values" apos) [] [] mpos] [] pos) (tSumVals td) := by
  refine ⟨fun pins s σ H Q I h => ?_⟩
  refine wpAny_Call_Name_kw (ld_blt I hg hm (u := .builtin "sum") (by first | rfl | decide +kernel) ?_ (by first | decide +kernel | decide) (by first | decide +kernel | decide))
  rw [hse]
  refine PySem.callWith_builtin1 (wpAny_Call_method0_late hbase hline (thn (hd.run pins s σ H _ I h) fun v s1 ⟨x, H1, I1, r1, a, kvs, is, ex, ha, hv, q⟩ => ?_))
  subst ex
  obtain rfl : v = Value.ref a := r1
  obtain ⟨_, hsys, vs, rel, dof⟩ := dk_rd I1.hok ha
  obtain ⟨ep, dat⟩ := dof.dictAt
  have dat' := dat
  obtain ⟨ob, es, ho, ex, hdat, hko, hpr, hnd⟩ := dat'
  refine ⟨"dict", "dict.values", F.plainAttrs_dict, F.slot_dict_values, F.type_dict_values, ⟨ob, ho, ex.1⟩, fun b e => ?_, Calls.callWith_builtin rfl (PySem.evalArgs_none ?_)⟩
  · cases e
    exact ⟨ob, ho, ex.2.1⟩
  refine call_meetsIn F.slot_dict_values ⟨ob, ho, ex.1⟩ F.entry_dict_values (F.args_dict_values_1 _) (meets_dict_values (mixKind X.prog X.w) a hsys) ⟨⟨vs, dof⟩, ?_⟩
  have k1 : ∀ b u, s1.heap.get? b = some u → (s1.heap.push { cls := .type "dict_values", data := .fields #[.ref a] }).get? b = some u := fun b u e => Heap.get?_push_of_some _ e
  have dat1 : (s1.heap.push { cls := .type "dict_values", data := .fields #[.ref a] }).DictAt (mixKind X.prog X.w) a vs ep := dat.keep k1
  have hlv : vs.length = is.length := by
    have e1 := congrArg List.length hv
    rw [List.length_map, List.length_map] at e1
    rw [← e1]
    exact (KV.length rel).symm
  have hval : ∀ (i : Nat) (v : Value), (∃ k, vs[i]? = some (k, v)) → ∃ t, v = Value.int (is.getD i 0) t := fun i v ⟨k, hk⟩ => by
    obtain ⟨x, h1, h2⟩ := KV.at' rel hk
    have e1 : (kvs.map (·.2))[i]? = some x := by rw [List.getElem?_map, h1] <;> rfl
    rw [hv, List.getElem?_map] at e1
    obtain ⟨j, hj, e2⟩ := Option.map_eq_some_iff.mp e1
    subst e2
    obtain ⟨t, e3⟩ := h2
    refine ⟨t, ?_⟩
    rw [e3, List.getD_eq_getElem?_getD, hj] <;> rfl
  refine PySem.call_sum_walkAnyS (wpAny_pyIter_values (v := s1.heap.objs.size) (d := a) ⟨_, Heap.get?_push_size _ rfl, rfl, rfl⟩ dat1 ?_)
  have hlt : a < s1.heap.objs.size := Heap.lt_size ho
  have hsz : (s1.heap.push { cls := .type "dict_values", data := .fields #[.ref a] }).objs.size = s1.heap.objs.size + 1 := Heap.size_push _ _
  refine ⟨_, _, _, _, _, _, _, _, rfl, (Walks.dictValues (knd := mixKind X.prog X.w) (A := X.A.in1) (I.ok.hd hc) (s1.heap.push { cls := .type "dict_values", data := .fields #[.ref a] }).objs.size a (by rw [hsz]; exact Nat.ne_of_lt (Nat.lt_succ_of_lt hlt)) vs ep).toS,
    ⟨⟨_, Heap.get?_push_size _ rfl, rfl, rfl⟩, dat1.keep fun b u e => Heap.get?_push_of_some _ e⟩, fun b hb => ?_, hval, fun s' t' hmv => ?_⟩
  · show b < ((s1.heap.push _).push _).objs.size
    rw [Heap.size_push, Heap.size_push]
    rw [hsz] at hb
    rcases List.mem_cons.mp hb with e | hb
    · rw [e]
      exact Nat.lt_succ_self _
    · have e : b = a := List.mem_singleton.mp hb
      rw [e]
      exact Nat.lt_succ_of_lt (Nat.lt_succ_of_lt hlt)
  · have hk : ∀ b u, s1.heap.get? b = some u → s'.heap.get? b = some u := fun b u e => hmv.heap b u (fun hmem => by
      have e1 : b = (s1.heap.push { cls := .type "dict_values", data := .fields #[.ref a] }).objs.size := List.mem_singleton.mp hmem
      have e2 := Heap.lt_size e
      rw [hsz] at e1
      rw [e1] at e2
      exact absurd e2 (Nat.not_lt.mpr (Nat.le_succ _))) (Heap.get?_push_of_some _ (k1 b u e))
    rw [Moved.eq_with hmv]
    have es : preSum (fun i => is.getD i 0) vs.length = is.sum := by
      rw [pre_sum is _ (by omega), hlv, List.take_length]
    refine ⟨.int is.sum, H1, I1.kept (t' := s'.toks) hk, ⟨t', ?_⟩, q⟩
    rw [es]
end
end L2
namespace Wk
open PySem PySem.Spec L2 Evl
theorem leD_total {α : Type} [Rp α] [Pd α] : PySem.W.TotalLe (leD (α := α)) := by
  have h : PySem.W.TotalLe (PySem.W.dataLe false (fun c : α => Pd.toD c)) := by
    unfold PySem.W.dataLe
    exact PySem.W.sortLe_total _ _ _
  exact ⟨fun a b c => h.trans a b c, fun a b => h.total a b⟩
/-- neither less than the other: the same -/
class Ti (α : Type) [Rp α] [Pd α] : Prop where
  ti : ∀ {a b : α}, PySem.W.dataLt (Pd.toD a) (Pd.toD b) = false → PySem.W.dataLt (Pd.toD b) (Pd.toD a) = false → a = b
class Tis (τ : Type) [Tp τ] [Pq τ] : Prop where
  ti : ∀ {a b : τ}, PySem.W.rowLt (Pq.toDs a) (Pq.toDs b) = false → PySem.W.rowLt (Pq.toDs b) (Pq.toDs a) = false → a = b
instance : Ti Int := ⟨fun {a b} h1 h2 => by
  have h1 : PySem.W.dataLt (.int a) (.int b) = false := h1
  have h2 : PySem.W.dataLt (.int b) (.int a) = false := h2
  rw [PySem.W.dataLt_int, decide_eq_false_iff_not] at h1 h2
  omega⟩
instance : Ti Str := ⟨fun {a b} h1 h2 => by
  have h1 : PySem.W.dataLt (.str a) (.str b) = false := h1
  have h2 : PySem.W.dataLt (.str b) (.str a) = false := h2
  rw [PySem.W.dataLt_str, decide_eq_false_iff_not] at h1 h2
  refine PySem.W.str_of_cps ?_
  exact List.le_antisymm (List.not_lt.mp h2) (List.not_lt.mp h1)⟩
instance : Tis Unit := ⟨fun _ _ => rfl⟩
instance {α τ : Type} [Rp α] [Tp τ] [Pd α] [Pq τ] [Al α] [Ti α] [Tis τ] : Tis (α × τ) := ⟨fun {a b} h1 h2 => by
  have h1 : PySem.W.rowLt (Pd.toD a.1 :: Pq.toDs a.2) (Pd.toD b.1 :: Pq.toDs b.2) = false := h1
  have h2 : PySem.W.rowLt (Pd.toD b.1 :: Pq.toDs b.2) (Pd.toD a.1 :: Pq.toDs a.2) = false := h2
  unfold PySem.W.rowLt at h1 h2
  rw [PySem.W.dataLt_cons (Al.al _ _)] at h1 h2
  by_cases e : a.1 = b.1
  · have e1 : PyData.eqv (Pd.toD a.1) (Pd.toD b.1) = true := (Pd.eqd _ _).mpr e
    have e2 : PyData.eqv (Pd.toD b.1) (Pd.toD a.1) = true := (Pd.eqd _ _).mpr e.symm
    rw [if_pos e1] at h1
    rw [if_pos e2] at h2
    exact Prod.ext e (Tis.ti h1 h2)
  · rw [if_neg (fun z => e ((Pd.eqd _ _).mp z))] at h1
    rw [if_neg (fun z => e ((Pd.eqd _ _).mp z).symm)] at h2
    exact absurd (Ti.ti h1 h2) e⟩
instance {α τ : Type} [Rp α] [Tp τ] [Pd α] [Pq τ] [Al α] [Ti α] [Tis τ] : Ti (α × τ) := ⟨fun {a b} h1 h2 => by
  have h1 : PySem.W.dataLt (.tuple (Pq.toDs a)) (.tuple (Pq.toDs b)) = false := h1
  have h2 : PySem.W.dataLt (.tuple (Pq.toDs b)) (.tuple (Pq.toDs a)) = false := h2
  rw [PySem.W.dataLt_tuple] at h1 h2
  exact Tis.ti (τ := α × τ) h1 h2⟩
theorem leD_anti {α : Type} [Rp α] [Pd α] [Ti α] {a b : α} (h1 : leD a b = true) (h2 : leD b a = true) : a = b := by
  have h1 : (!PySem.W.dataLt (Pd.toD b) (Pd.toD a)) = true := h1
  have h2 : (!PySem.W.dataLt (Pd.toD a) (Pd.toD b)) = true := h2
  rw [Bool.not_eq_true'] at h1 h2
  exact Ti.ti h2 h1
theorem srtD_perm {α : Type} [Rp α] [Pd α] (xs : List α) : (srtD xs).Perm xs := List.mergeSort_perm xs _
theorem srtD_pw {α : Type} [Rp α] [Pd α] (xs : List α) : (srtD xs).Pairwise (fun a b => leD a b = true) := List.pairwise_mergeSort (fun a b c => leD_total.trans a b c) (fun a b => by have := leD_total.total a b; simpa using this) xs
theorem srtD_one {α : Type} [Rp α] [Pd α] [Ti α] {xs ys : List α} (p : ys.Perm xs) (s : ys.Pairwise (fun a b => leD a b = true)) : ys = srtD xs :=
  List.Perm.eq_of_pairwise (le := fun a b : α => leD a b = true) (fun a b _ _ h1 h2 => leD_anti h1 h2) s (srtD_pw xs) (p.trans (srtD_perm xs).symm)
theorem leD_str (a b : Str) : leD a b = decide (a.cps.toList ≤ b.cps.toList) := by
  have := congrFun (congrFun (PySem.W.dataLe_str (fun c : Str => c)) a) b
  exact this
theorem sortedS_pw : ∀ (ys : List Str), PyProof.Rows.sortedS ys = true → ys.Pairwise (fun a b => leD a b = true) := by
  have key : ∀ (ys : List Str) (p : Str), PyProof.Rows.risingS p ys = true → (p :: ys).Pairwise (fun a b => leD a b = true) := by
    intro ys
    induction ys with
    | nil => exact fun p _ => List.pairwise_singleton _ _
    | cons y ys ih =>
      intro p h
      have h : (!ltCps y.cps.toList p.cps.toList && PyProof.Rows.risingS y ys) = true := h
      rw [Bool.and_eq_true] at h
      have h2 := ih y h.2
      have h1 : leD p y = true := by
        rw [leD_str, decide_eq_true_eq]
        have := h.1
        rw [PyProof.Rows.ltCps_eq, Bool.not_eq_true', decide_eq_false_iff_not] at this
        exact List.not_lt.mp this
      refine List.pairwise_cons.mpr ⟨fun z hz => ?_, h2⟩
      rcases List.mem_cons.mp hz with rfl | hz
      · exact h1
      · exact leD_total.trans _ _ _ h1 ((List.pairwise_cons.mp h2).1 z hz)
  intro ys h
  match ys, h with
  | [], _ => exact List.Pairwise.nil
  | y :: ys, h => exact key ys y h
/-! rules -/
def skO {β : Type} (d : Dc Str β) : Option (List Str) := if d.l.length < 64 then some (srtD (d.l.map (·.1))) else none
def dmO (a b : Int) : Option (Int × Int × Unit) := if 0 < b ∧ b < 1073741824 then some (a / b, a % b, ()) else none
def strIO (n : Int) : Option Str := if n.natAbs.log2 < 1920 then some ((toString n : String) : Str) else none
def zfO (s : Str) (n : Int) : Option Str := if PadOk n = true then some (Txt.zfill s n) else none
section
variable {K : Fg} {F Kn0 : Hp} {sl sl' : List Sl} {ow ow1 ow2 : List Ow} {α β γ τ : Type} [Rp α] [Rp β] [Rp γ] [Tp τ] {ta : TA} {ta1 tb te ti tk : TE} {D : Ends} {t : TS} {i j : Nat} {p : Addr}
theorem ev_sumVals {d : Dc Str Int} (h : EV K F Kn0 sl ow te d) : EV K F Kn0 sl ow (tSumVals te) (d.l.map (·.2)).sum := fun σ Kn H s Q q => h σ Kn H s _ fun v Kn1 H1 g1 r1 => by
  obtain ⟨p, ws, rfl, h3, h4⟩ := r1
  refine ⟨p, ws, d.l.map (·.2), rfl, rd_ex g1.kh h3, ?_, q _ Kn1 H1 g1 rfl⟩
  unfold DK at h4
  clear h3 q h
  generalize d.l = kvs at h4
  induction h4 with
  | nil => rfl
  | cons r _ ih =>
    rw [List.map_cons, List.map_cons, List.map_cons, ih]
    congr 1
    exact r.2
theorem dk_keys {H : Hp} {ws : List (Key × V)} {kvs : List (Str × β)} (h : DK K H ws kvs) : ws.map (·.1) = (kvs.map (·.1)).map Sum.inr := by
  unfold DK at h
  induction h with
  | nil => rfl
  | cons r _ ih =>
    rw [List.map_cons, List.map_cons, List.map_cons, ih]
    congr 1
    exact r.1
theorem sk_fin {d : Dc Str β} {zs : List Str} (hz : skO d = some zs) {Kn H : Hp} {p : Addr} {ws : List (Key × V)} (ek : Ex Kn H) (hp : Rd H p (.dK ws)) (h4 : DK K Kn ws d.l) {Q : VK} (q : RL K Kn H Q zs) : rSortedK [.ref p] H Q := by
  unfold skO at hz
  split at hz
  case isFalse => cases hz
  rename_i hl
  cases hz
  refine ⟨p, ws, d.l.map (·.1), rfl, hp, dk_keys h4, by rw [List.length_map]; exact hl, fun ys l pm so hl2 => ?_⟩
  have e := srtD_one pm (sortedS_pw ys so)
  subst e
  exact q l _ Kn _ (Gr.newU ek hl2) hl2 (fresh_back ek hl2) upd_same (fl_paired _)
theorem rc_sortK {d : Dc Str β} {zs : List Str} (hz : skO d = some zs) : RCL K rSortedK (d, ()) zs := fun Kn H vs ek hv Q q => by
  obtain ⟨v, rfl, l, ws, rfl, h1, h2⟩ := one_arg hv
  exact sk_fin hz ek (rd_ex ek h1) h2 q
theorem en_sortKO {d : Dc Str β} {zs : List Str} (hi : sl[i]? = some (.at p)) (hj : ow[j]? = some (oo p d)) (hz : skO d = some zs) : EN K F Kn0 sl ow (tCB rSortedK (tCons (tVar i) tNil)) zs := fun σ Kn H s Q q => by
  obtain ⟨o, h1, h2⟩ := s.sl.get hi
  obtain ⟨f1, f2, ob, f3, ws, f4, f5⟩ := s.ow.each _ (List.mem_of_getElem? hj)
  subst f4
  exact ⟨.ref p, by rw [h1]; exact congrArg some h2, sk_fin hz s.ek (Rd.of f3) f5 q⟩
theorem rc_divmod {a b : Int} {r : Int × Int × Unit} (h : dmO a b = some r) : RCV K (fun xs H Q => ∃ i j, xs = [.int i, .int j] ∧ CDiv i j ∧ ∀ p, H p = none → Q (.ref p) (upd H p (.tup [.int (i / j), .int (i % j)]))) (a, b, ()) r := fun Kn H vs ek hv Q q => by
  obtain ⟨v, w, rfl, h1, h2⟩ := two_args hv
  cases h1
  cases h2
  unfold dmO at h
  split at h
  case isFalse => cases h
  rename_i hb
  cases h
  exact ⟨a, b, rfl, hb, fun p hp => q _ _ _ (Gr.new ek hp) ⟨p, _, rfl, upd_same, .int (a / b), _, rfl, rfl, .int (a % b), _, rfl, rfl, rfl⟩⟩
theorem rc_strI {n : Int} {r : Str} (h : strIO n = some r) : RCV K (fun xs H Q => ∃ i, xs = [.int i] ∧ i.natAbs.log2 < 1920 ∧ Q (.str (toString i)) H) (n, ()) r := fun Kn H vs ek hv Q q => by
  obtain ⟨v, rfl, h1⟩ := one_arg hv
  cases h1
  unfold strIO at h
  split at h
  case isFalse => cases h
  rename_i hb
  cases h
  exact ⟨n, rfl, hb, q.fl ek⟩
theorem ev_zfill {x r : Str} {n : Int} (h : EV K F Kn0 sl ow te x) (hn : EV K F Kn0 sl ow tb n) (hz : zfO x n = some r) : EV K F Kn0 sl ow (tBM K "str" (fun x xs H Q => ∃ (a : Str) (i : Int), x = .str a ∧ xs = [.int i] ∧ PadOk i = true ∧ Q (.str (Txt.zfill a i)) H) te (tCons tb tNil)) r := fun σ Kn H s Q q =>
  h σ Kn H s _ fun v Kn1 H1 g1 r1 => by
    cases r1
    refine ⟨rfl, hn σ Kn1 H1 (s.grow g1) _ fun w Kn2 H2 g2 r2 => ?_⟩
    cases r2
    unfold zfO at hz
    split at hz
    case isFalse => cases hz
    rename_i hb
    cases hz
    exact ⟨x, n, rfl, rfl, hb, q _ Kn2 H2 (g1.trans g2) rfl⟩
/-- d[k] += c -/
theorem sb_daug {κ : Type} [Rp κ] [Ky κ] [DecidableEq κ] {d d' : Dc κ Int} {k : κ} {y c : Int} (hi : sl[i]? = some (.at p)) (hj : ow[j]? = some (oo p d)) (hk : EV K F Kn0 sl ow tk k) (hy : getD d.l k = some y) (h : EV K F Kn0 sl ow te c) (hx : putO d k (y + c) = some d') (ho : ow.set j (oo p d') = ow1) (n : SN K F Kn0 sl ow1 D) :
    SB K F Kn0 sl ow D (sDAug (tVar i) tk te L2.rAdd) := fun σ Kn H s => by
  obtain ⟨o, h1, h2⟩ := s.sl.get hi
  refine ⟨.ref p, by rw [h1]; exact congrArg some h2, hk σ Kn H s _ fun w Kn1 H1 g1 r1 => ?_⟩
  have s1 := s.grow g1
  obtain ⟨f1, f2, o1, f3, ws, f4, f5⟩ := s1.ow.each _ (List.mem_of_getElem? hj)
  subst f4
  rcases f5.get k with ⟨q1, q2⟩ | ⟨y2, w2, q1, q2, q3⟩
  · rw [q1] at hy
    cases hy
  · rw [q1] at hy
    cases hy
    refine ⟨p, w2, rfl, q2 ▸ Ky.get r1 s1.ek (Rd.of f3), h σ Kn1 H1 s1 _ fun u Kn2 H2 g2 r2 => ?_⟩
    cases r2
    cases q3
    refine ⟨y, c, rfl, rfl, ?_⟩
    have s2 := s1.grow g2
    have f3' : H2 p = some (Ky.ho ws) := g2.hh _ _ f3
    have f2' : Kn2 p = none := g2.sp p (ne_none_of f3) f2
    unfold putO at hx
    split at hx
    case isFalse => cases hx
    rename_i hl
    cases hx
    subst ho
    refine ⟨_, Ky.put (Rp.mono g2.kk r1) s2.ek f3' (by rw [f5.length]; exact lt_line hl), n _ Kn2 _ ?_⟩
    exact s2.writeG hj rfl rfl (Ex.refl _) (upd_in s2.ek f2') (fun q hq _ => upd_ne hq) (fun _ _ h => h) ⟨_, upd_same, _, rfl, DK.put k rfl (DK.mono g2.kk f5)⟩
/-- xs[n] += c -/
theorem sb_augI {xs xs' : List Int} {n a c : Int} {f : Int → Int → Int} (hi : sl[i]? = some (.at p)) (hj : ow[j]? = some (ol p xs)) (hn : EV K F Kn0 sl ow ti n) (ha : atI xs n = some a) (h : EV K F Kn0 sl ow te c) (hx : setI xs n (f a c) = some xs') (ho : ow.set j (ol p xs') = ow1) (k : SN K F Kn0 sl ow1 D) :
    SB K F Kn0 sl ow D (tAugS (tVar i) ti te (rIxL K) (ipI f) rSetL) := fun σ Kn H s => by
  obtain ⟨o, h1, h2⟩ := s.sl.get hi
  refine ⟨.ref p, by rw [h1]; exact congrArg some h2, hn σ Kn H s _ fun w Kn1 H1 g1 r1 => ?_⟩
  cases r1
  have s1 := s.grow g1
  obtain ⟨f1, f2, ws, f3, f4⟩ := s1.ow.each _ (List.mem_of_getElem? hj)
  obtain ⟨u, e, r⟩ := paired_atI f4 ha
  cases r
  refine ⟨p, ws, n, _, rfl, rfl, sq_of f3, e, h σ Kn1 H1 s1 _ fun v Kn2 H2 g2 r2 => ?_⟩
  cases r2
  refine ⟨a, c, rfl, rfl, ?_⟩
  have s2 := s1.grow g2
  have f3' : H2 p = some (.lst ws) := g2.hh _ _ f3
  have f2' : Kn2 p = none := g2.sp p (ne_none_of f3) f2
  unfold setI at hx
  cases em : ixN xs.length n with
  | none => rw [em] at hx; cases hx
  | some m =>
    rw [em] at hx
    cases hx
    subst ho
    refine ⟨p, ws, n, m, rfl, rfl, f3', by rw [paired_len f4]; exact em, k _ Kn2 _ ?_⟩
    exact s2.write hj (Ex.refl _) (upd_in s2.ek f2') (fun q hq _ => upd_ne hq) (fun _ _ h => h) upd_same (paired_set (show rep K Kn2 (V.int (f a c)) (f a c) from rfl) m (paired_mono g2.kk f4))
/-- a dict of one's own: from now on it is known and stays as it is -/
theorem sb_freezeG {κ : Type} [Rp κ] [Ky κ] [DecidableEq κ] {d : Dc κ β} (hi : sl[i]? = some (.at p)) (hj : ow[j]? = some (oo p d)) (hs : sl.set i (sv d) = sl') (ho : ow.eraseIdx j = ow1) (k : SB K F Kn0 sl' ow1 D t) : SB K F Kn0 sl ow D t := fun σ Kn H s => by
  obtain ⟨ob, kp, hp, s1⟩ := s.borrowG hi hj
  subst hs
  subst ho
  exact k σ _ H s1
theorem k_listGet {X : Cx} (h : X.K = K := by rfl) : PGet X (rIxL K) := h ▸ get_list
end
end Wk
namespace Wk
open PySem PySem.Spec L2 Evl
section
variable {X : Cx} {o i value : Expr} {tpos tpos' : Pos} {td ty tv : TE}
theorem k_daug (hu : X.A.units + 64 < cLine) (ho : PE X o td) (hi : PE X i ty) (hv : PE X value tv) (ha : ∀ ov iv new, augStore i ov iv new = (do holding [new, ov, iv] (setItem ov iv new); release [new, ov, iv] []; pure .next)) : PS X (.AugAssign (.Subscript o i tpos) .Add value tpos') (sDAug td ty tv L2.rAdd) := ps_daug (by omega) ho hi hv in_add ha
end
end Wk
/-! Wpair: a def that tells two new lists in a tuple; a comprehension over a list of one's own -/
namespace Wk
open PySem PySem.Spec L2 Evl
structure PairAt {α β : Type} [Rp α] [Rp β] (K : Fg) (Kn H : Hp) (pt p1 p2 : Addr) (xs : List α) (ys : List β) : Prop where
  kt : Kn pt = none
  k1 : Kn p1 = none
  k2 : Kn p2 = none
  ne : p1 ≠ p2
  ht : H pt = some (.tup [.ref p1, .ref p2])
  e1 : ∃ w, H p1 = some (.lst w) ∧ Paired (rep K Kn) w xs
  e2 : ∃ w, H p2 = some (.lst w) ∧ Paired (rep K Kn) w ys
section
variable {α β τ : Type} [Rp α] [Rp β] [Tp τ]
def RP (K : Fg) (Kn H : Hp) (Q : VK) (xs : List α) (ys : List β) : Prop := ∀ pt p1 p2 Kn' H', Gr Kn H Kn' H' → H pt = none → H p1 = none → H p2 = none → PairAt K Kn' H' pt p1 p2 xs ys → Q (.ref pt) H'
def EP (K : Fg) (F Kn0 : Hp) (sl : List Sl) (ow : List Ow) (te : TE) (xs : List α) (ys : List β) : Prop := ∀ σ Kn H, S K F Kn0 sl ow σ Kn H → ∀ Q : VK, RP K Kn H Q xs ys → te σ H Q
def PP (K : Fg) (f : τ → Option (List α × List β × Unit)) : Sp := fun vs H Q _ => ∃ Kn t r, Ex Kn H ∧ rept K Kn vs t ∧ f t = some r ∧ RP K Kn H Q r.1 r.2.1
def RNP (K : Fg) (F Kn0 : Hp) (ow : List Ow) (R : VK) (xs : List α) (ys : List β) : Prop := ∀ pt p1 p2 Kn H, S K F Kn0 [] ow [] Kn H → F pt = none → F p1 = none → F p2 = none → PairAt K Kn H pt p1 p2 xs ys → R (.ref pt) H
end
section
variable {K : Fg} {F F' Kn0 Kn1 : Hp} {sl sl' : List Sl} {ow ow0 ow1 : List Ow} {α β γ τ : Type} [Rp α] [Rp β] [Rp γ] [Tp τ] {ta : TA} {te : TE} {t : τ} {E : XK} {D : Ends} {i j k1 k2 : Nat} {p p1 p2 : Addr} {xs : List α} {ys : List β}
theorem RNP.base {R : VK} (q : RNP K F Kn0 ow R xs ys) (b : Bs F Kn0 Kn1) : RNP K F Kn1 ow R xs ys := fun pt p1 p2 Kn H s => q pt p1 p2 Kn H (s.unbase b)
theorem RNP.fr {R : VK} (f : Fle F F') (q : RNP K F Kn0 ow0 R xs ys) : RNP K F' Kn0 ow0 R xs ys := fun pt p1 p2 Kn H s h1 h2 h3 h4 => q pt p1 p2 Kn H (s.back f) (fresh_back f h1) (fresh_back f h2) (fresh_back f h3) h4
theorem rnp_of {H Kn : Hp} {Q : VK} (q : RP K Kn H Q xs ys) : RNP K H Kn [] Q xs ys := fun pt p1 p2 Kn' H' s h1 h2 h3 h4 => q pt p1 p2 Kn' H' ⟨s.e0, s.ef, s.ek, s.sep⟩ h1 h2 h3 h4
theorem ep_call {f : τ → Option (List α × List β × Unit)} {r : List α × List β × Unit} (h : EA K F Kn0 sl ow ta t) (hf : f t = some r) : EP K F Kn0 sl ow (tCall (PP K f) [] E ta) r.1 r.2.1 := fun σ Kn H s Q q =>
  h σ Kn H s _ fun vs Kn1 H1 g1 r1 => by
    show PP K f (vs ++ []) H1 Q E
    rw [List.append_nil]
    exact ⟨Kn1, t, r, g1.kh, r1, hf, fun pt p1 p2 Kn' H' g' h1 h2 h3 h4 => q pt p1 p2 Kn' H' (g1.trans g') (fresh_back g1.hh h1) (fresh_back g1.hh h2) (fresh_back g1.hh h3) h4⟩
theorem EP.ev (h : EP K F Kn0 sl ow te xs ys) : EV K F Kn0 sl ow te (xs, ys, ()) := fun σ Kn H s Q q => h σ Kn H s Q fun pt p1 p2 Kn' H' g f0 f1 f2 a => by
  obtain ⟨kt, k1, k2, ne, ht, ⟨w1, e1, r1⟩, ⟨w2, e2, r2⟩⟩ := a
  have n1 : pt ≠ p1 := fun z => by rw [z, e1] at ht; cases ht
  have n2 : pt ≠ p2 := fun z => by rw [z, e2] at ht; cases ht
  have ga := g.know f1 k1 e1
  have kb : upd Kn' p1 (.lst w1) p2 = none := by rw [upd_ne (Ne.symm ne)]; exact k2
  have gb := ga.know f2 kb e2
  have kc : upd (upd Kn' p1 (.lst w1)) p2 (.lst w2) pt = none := by rw [upd_ne n2, upd_ne n1]; exact kt
  have gc := gb.know f0 kc ht
  have x1 : Ex Kn' (upd Kn' p1 (.lst w1)) := Ex.new k1
  have x2 : Ex (upd Kn' p1 (.lst w1)) (upd (upd Kn' p1 (.lst w1)) p2 (.lst w2)) := Ex.new kb
  have x3 := Ex.new (o := .tup [.ref p1, .ref p2]) kc
  have x := (x1.trans x2).trans x3
  refine q _ _ H' gc ⟨pt, _, rfl, upd_same, .ref p1, _, rfl, ⟨p1, w1, rfl, ?_, paired_mono x r1⟩, .ref p2, _, rfl, ⟨p2, w2, rfl, ?_, paired_mono x r2⟩, rfl⟩
  · exact x3 _ _ (x2 _ _ upd_same)
  · exact x3 _ _ upd_same
theorem EP.cast {xs' : List α} {ys' : List β} (h : EP K F Kn0 sl ow te xs ys) (e1 : xs = xs') (e2 : ys = ys') : EP K F Kn0 sl ow te xs' ys' := e1 ▸ e2 ▸ h
/-- a, b = f(..), both one's own -/
theorem sb_unpP {sl' : Addr → Addr → List Sl} (hs : ∀ p1 p2, (sl.set i (.at p1)).set j (.at p2) = sl' p1 p2) (h : EP K F Kn0 sl ow te xs ys) (k : ∀ p1 p2, SN K F Kn0 (sl' p1 p2) (ol p1 xs :: ol p2 ys :: ow) D) :
    SB K F Kn0 sl ow D (tAsg te (gTup K 2 (gCons (gName i) (gCons (gName j) gNil)))) := fun σ Kn H s => h σ Kn H s _ fun pt p1 p2 Kn' H' g f0 f1 f2 a => by
  obtain ⟨kt, k1, k2, ne, ht, ⟨w1, e1, r1⟩, ⟨w2, e2, r2⟩⟩ := a
  have s1 := s.grow g
  have s2 := s1.own (fresh_back s.ef f2) k2 (owned_ne s f2) e2 r2
  have s3 := s2.own (p := p1) (fresh_back s.ef f1) k1 (fun o ho z => by
    rcases List.mem_cons.mp ho with rfl | ho
    · exact ne z.symm
    · exact owned_ne s f1 o ho z) e1 r1
  exact ⟨pt, _, rfl, st_of ht, rfl, .ref p1, _, rfl, .ref p2, _, rfl, rfl, k p1 p2 _ Kn' H' (hs p1 p2 ▸ (s3.seta (p := p1) i).seta (p := p2) j)⟩
/-- return (a, b), both one's own -/
theorem sb_retP {R : VK} (hi : sl[i]? = some (.at p1)) (hj : sl[j]? = some (.at p2)) (h1 : ow[k1]? = some (ol p1 xs)) (h2 : ow[k2]? = some (ol p2 ys)) (hk : k1 ≠ k2) (q : RNP K F Kn0 ow0 R xs ys) (l : ow0.Sublist ow) (hR : D.rt = R := by rfl) :
    SB K F Kn0 sl ow D (tRet (tTup (tCons (tVar i) (tCons (tVar j) tNil)))) := fun σ Kn H s => by
  subst hR
  obtain ⟨o1, a1, a2⟩ := s.sl.get hi
  obtain ⟨o2, b1, b2⟩ := s.sl.get hj
  obtain ⟨f1, f2, w1, f3, f4⟩ := s.ow.each _ (List.mem_of_getElem? h1)
  obtain ⟨g1, g2, w2, g3, g4⟩ := s.ow.each _ (List.mem_of_getElem? h2)
  have f1 : F p1 = none := f1
  have f2 : Kn p1 = none := f2
  have g1 : F p2 = none := g1
  have g2 : Kn p2 = none := g2
  have ne : p1 ≠ p2 := fun z => hk (ow_at s.ow.nd h1 h2 z)
  refine ⟨.ref p1, by rw [a1]; exact congrArg some a2, .ref p2, by rw [b1]; exact congrArg some b2, by show 2 ≤ sizeLine; exact le_line (by decide), fun pt hp => ?_⟩
  have g : Gr Kn H Kn (upd H pt (.tup [.ref p1, .ref p2])) := Gr.newU s.ek hp
  exact q pt p1 p2 Kn _ ((s.grow g).sub l).fin (fresh_back s.ef hp) f1 g1 ⟨fresh_back s.ek hp, f2, g2, ne, upd_same, ⟨w1, g.hh _ _ f3, f4⟩, ⟨w2, g.hh _ _ g3, g4⟩⟩
/-- [.. for x in xs], xs one's own -/
theorem en_lcO {xs : List β} {zs : List γ} {c : β → Option Bool} {f : β → Option γ} {g : TG} {js vs : List Nat} {tt : TT} (hi : sl[i]? = some (.at p)) (hjw : ow[j]? = some (ol p xs)) (gx : β → List Sl) (hm : lcM c f xs = some zs) (hv : ∀ j ∈ vs, sl[j]? = some .any) (hg : ∀ x, GT K g sl (gx x) js x) (hj : ∀ j ∈ js, j ∈ vs)
    (ht : ∀ p (acc : List γ) x b, c x = some b → ET K F Kn0 (gx x) (ol p acc :: ow) tt b) (he : ∀ p (acc : List γ) x z, c x = some true → f x = some z → EV K F Kn0 (gx x) (ol p acc :: ow) te z) :
    EN K F Kn0 sl ow (tLc (iList K (tVar i)) g tt te vs) zs := fun σ Kn H s Q q => by
  unfold lcM at hm
  split at hm
  case isFalse => cases hm
  rename_i hlen
  obtain ⟨o1, a1, a2⟩ := s.sl.get hi
  obtain ⟨b1, b2, w0, b3, b4⟩ := s.ow.each _ (List.mem_of_getElem? hjw)
  refine ⟨.ref p, by rw [a1]; exact congrArg some a2, p, rfl, ⟨w0, sq_of b3⟩, fun D hD => ?_⟩
  have kD : Kn D = none := fresh_back s.ek hD
  have fD : F D = none := fresh_back s.ef hD
  have W : ∀ i Kn' H', Gr Kn H Kn' H' → (∀ x, xs[i]? = some x → (Itl K p).go i H' ∧ ∀ v H2, (Itl K p).yld i H' v H2 → ∃ Kn2, Gr Kn' H' Kn2 H2 ∧ rep K Kn2 v x) ∧ (xs.length ≤ i → (Itl K p).stop i H') := fun i Kn' H' gr => by
    have hq : SqL K H' p w0 := sq_of (gr.hh _ _ b3)
    refine ⟨fun x hx => ?_, fun hl => ⟨w0, hq, by rw [paired_len b4]; exact hl⟩⟩
    obtain ⟨v, hv, rv⟩ := paired_at b4 hx
    refine ⟨⟨w0, v, hq, hv⟩, fun u H2 hy => ?_⟩
    obtain ⟨rfl, f⟩ := hy
    have : v = u := Option.some.inj (hv.symm.trans (f w0 hq))
    subst this
    exact ⟨Kn', Gr.refl gr.kh, Rp.mono gr.kk rv⟩
  refine ⟨fun i m H' => i + m = xs.length ∧ ∃ Kn' ws acc rest, Gr Kn H Kn' H' ∧ Kn' D = none ∧ H' D = some (.lst ws) ∧ Paired (rep K Kn') ws acc ∧ acc.length ≤ i ∧ lcGo c f (xs.drop i) = some rest ∧ acc ++ rest = zs,
    ⟨xs.length, by omega, Kn, [], [], zs, (Gr.newU s.ek hD), kD, upd_same, .nil, Nat.le_refl _, hm, rfl⟩, fun i m H' hW => ?_⟩
  obtain ⟨em, Kn', ws, acc, rest, gr, kD', hD', rp, hal, hrest, hz⟩ := hW
  have s' : S K F Kn0 sl (ol D acc :: ow) σ Kn' H' := (s.grow gr).own fD kD' (owned_ne s hD) hD' rp
  by_cases hlt : i < xs.length
  · have hx : xs[i]? = some xs[i] := List.getElem?_eq_getElem hlt
    have hd : xs.drop i = xs[i] :: xs.drop (i + 1) := List.drop_eq_getElem_cons hlt
    rw [hd] at hrest
    obtain ⟨b, hb, hrest⟩ := bind_some hrest
    obtain ⟨go, yl⟩ := (W i Kn' H' gr).1 _ hx
    refine .inr ⟨go, fun H'' => ∃ Kn' ws acc rest, Gr Kn H Kn' H'' ∧ Kn' D = none ∧ H'' D = some (.lst ws) ∧ Paired (rep K Kn') ws acc ∧ acc.length ≤ i + 1 ∧ lcGo c f (xs.drop (i + 1)) = some rest ∧ acc ++ rest = zs, fun H'' h => ⟨m - 1, by omega, by omega, h⟩, fun v H2 hy => ?_⟩
    obtain ⟨Kn2, g2, rv⟩ := yl v H2 hy
    have s2 := (s'.grow g2).wipe hv
    refine hg _ _ Kn2 H2 v s2.sl s2.ek rv _ fun σ3 h3 hw3 => ?_
    have s3 := s2.slots h3
    have hDn : H' D ≠ none := ne_none_of hD'
    refine ⟨(hw3 vs hj).trans ?_, ht D acc _ b hb σ3 Kn2 H2 s3 _ fun Kn3 H3 g3 => ?_⟩
    · have ww : ∀ (vs us : List Nat) (σ : L2.St), (∀ j ∈ vs, j ∈ us) → L2.wipe (L2.wipe σ vs) us = L2.wipe σ us := by
        intro vs
        induction vs with
        | nil => intro us σ _; rfl
        | cons a r ih =>
          intro us σ hh
          show L2.wipe ((L2.wipe σ r).set a none) us = L2.wipe σ us
          rw [wipe_set (hh a List.mem_cons_self)]
          exact ih us σ fun j hj => hh j (List.mem_cons_of_mem _ hj)
      exact ww vs vs σ fun _ h => h
    · have g123 : Gr Kn H Kn3 H3 := (gr.trans g2).trans g3
      have kD3 : Kn3 D = none := (g2.trans g3).sp D hDn kD'
      have hD3 : H3 D = some (.lst ws) := (g2.trans g3).hh _ _ hD'
      cases b with
      | true =>
        obtain ⟨z, hfz, hrest⟩ := bind_some (show (f xs[i]).bind _ = some rest from hrest)
        obtain ⟨zs', hzs, hrest⟩ := bind_some hrest
        cases hrest
        refine iteT (he D acc _ z hb hfz σ3 Kn3 H3 (s3.grow g3) _ fun y Kn4 H4 g4 ry => ?_)
        have g234 := (g2.trans g3).trans g4
        have kD4 : Kn4 D = none := g4.sp D (ne_none_of hD3) kD3
        refine ⟨ws, g4.hh _ _ hD3, by rw [paired_len rp]; exact lt_line (by omega), Kn4, ws ++ [y], acc ++ [z], zs', (gr.trans g234).mut hD kD4, kD4, upd_same, paired_append (paired_mono g234.kk rp) (.cons ry .nil), ?_, hzs, ?_⟩
        · rw [List.length_append, List.length_singleton]; omega
        · rw [List.append_assoc]; exact hz
      | false =>
        have hrest : lcGo c f (xs.drop (i + 1)) = some rest := hrest
        exact iteF ⟨Kn3, ws, acc, rest, g123, kD3, hD3, paired_mono (g2.trans g3).kk rp, by omega, hrest, hz⟩
  · have hd : xs.drop i = [] := List.drop_eq_nil_of_le (by omega)
    rw [hd] at hrest
    cases hrest
    rw [List.append_nil] at hz
    subst hz
    exact .inl ⟨(W i Kn' H' gr).2 (by omega), q D ws Kn' H' gr hD kD' hD' rp⟩
end
end Wk
/-! Wdict: a dict walked (it is locked on the way), its values and pairs; a def that tells a new dict; dict(d); dicts alike -/
namespace L2
open PySem PySem.Spec PyProof.Rows
/-- lock it, or it is locked already -/
def tLk (t : TS) : TS := fun D σ H => tLock t D σ H ∨ t D σ H
def tLkE (t : TE) : TE := fun σ H Q => tLockE t σ H Q ∨ t σ H Q
theorem ps_lk {X : Cx} {st : Stmt} {t : TS} (h : PS X st t) : PS X st (tLk t) := by
  refine ⟨fun pins s σ H D I hw => ?_⟩
  rcases hw with hw | hw
  · exact (ps_lock h).run pins s σ H D I hw
  · exact h.run pins s σ H D I hw
theorem pe_lk {X : Cx} {e : Expr} {t : TE} (h : PE X e t) : PE X e (tLkE t) := by
  refine ⟨fun pins s σ H Q I hw => ?_⟩
  rcases hw with hw | hw
  · exact (pe_lock h).run pins s σ H Q I hw
  · exact h.run pins s σ H Q I hw
section
variable {X : Cx}
def rEqDR (r : Bool) : R2 := fun x y H Q => ∃ a b ks ls, x = .ref a ∧ y = .ref b ∧ Rd H a (.dK ks) ∧ Rd H b (.dK ls) ∧ ks.length = ls.length ∧ (∀ p ∈ ks, valV ls p.1 = some p.2 ∧ flatB p.2 = true) ∧ Q (.bl r) H
theorem op_eq_dictR (hu : X.A.units + 64 < cLine) : OpR X (compareOp .Eq) (rEqDR true) := by
  intro pins s σ H x y v u Q I rx ry h
  obtain ⟨a, b, ks, ls, rfl, rfl, ea, eb, hlen, hp, q⟩ := h
  obtain rfl : v = Value.ref a := rx
  obtain rfl : u = Value.ref b := ry
  obtain ⟨_, ya, va, ra, da⟩ := dk_rd I.hok ea
  obtain ⟨_, yb, vb, rb, db⟩ := dk_rd I.hok eb
  have hl : va.length = vb.length := by rw [← ra.length, ← rb.length]; exact hlen
  exact PySem.W.keq_eq (knd := mixKind X.prog X.w) (r := true) ya yb da db (by omega) (fun _ => hits_all rb ra hp) (fin_bl I q (by simp [hl]))
theorem op_ne_dictR (hu : X.A.units + 64 < cLine) : OpR X (compareOp .NotEq) (rEqDR false) := by
  intro pins s σ H x y v u Q I rx ry h
  obtain ⟨a, b, ks, ls, rfl, rfl, ea, eb, hlen, hp, q⟩ := h
  obtain rfl : v = Value.ref a := rx
  obtain rfl : u = Value.ref b := ry
  obtain ⟨_, ya, va, ra, da⟩ := dk_rd I.hok ea
  obtain ⟨_, yb, vb, rb, db⟩ := dk_rd I.hok eb
  have hl : va.length = vb.length := by rw [← ra.length, ← rb.length]; exact hlen
  exact PySem.W.keq_ne (knd := mixKind X.prog X.w) (r := true) ya yb da db (by omega) (fun _ => hits_all rb ra hp) (fin_bl I q (by simp [hl]))
end
end L2
namespace Wk
open PySem PySem.Spec L2 Evl
/-- where it may be walked, and how its results go back -/
structure Mv (K : Fg) (F Kn0 : Hp) (R : VK) (F' Kn1 : Hp) (R' : VK) : Prop where
  fn : ∀ q, F' q = none → F q = none
  st : ∀ sl ow σ Kn H, S K F' Kn1 sl ow σ Kn H → ∃ Kn' H', S K F Kn0 sl ow σ Kn' H' ∧ (∀ v, R v H' → R' v H) ∧ Sw Kn Kn' ∧ ∀ q, Kn q = none → Kn' q = none ∧ H' q = H q
section
variable {K : Fg} {F Kn0 F' Kn1 : Hp} {R R' : VK} {ow0 : List Ow} {α β : Type} [Rp α] [Rp β]
theorem RT.mv {x : α} (q : RT K F Kn0 ow0 R x) (m : Mv K F Kn0 R F' Kn1 R') : RT K F' Kn1 ow0 R' x := fun v Kn H s r => by
  obtain ⟨Kn', H', s', h1, h2, h3⟩ := m.st _ _ _ _ _ s
  exact h1 v (q v Kn' H' s' (Rp.swap h2 r))
theorem RN.mv {xs : List α} (q : RN K F Kn0 ow0 R xs) (m : Mv K F Kn0 R F' Kn1 R') : RN K F' Kn1 ow0 R' xs := fun p ws Kn H s fp kp hp r => by
  obtain ⟨Kn', H', s', h1, h2, h3⟩ := m.st _ _ _ _ _ s
  exact h1 _ (q p ws Kn' H' s' (m.fn p fp) (h3 p kp).1 ((h3 p kp).2.trans hp) (paired_swap h2 r))
theorem RNP.mv {xs : List α} {ys : List β} (q : RNP K F Kn0 ow0 R xs ys) (m : Mv K F Kn0 R F' Kn1 R') : RNP K F' Kn1 ow0 R' xs ys := fun pt p1 p2 Kn H s f0 f1 f2 a => by
  obtain ⟨Kn', H', s', h1, h2, h3⟩ := m.st _ _ _ _ _ s
  obtain ⟨kt, k1, k2, ne, ht, ⟨w1, e1, r1⟩, ⟨w2, e2, r2⟩⟩ := a
  exact h1 _ (q pt p1 p2 Kn' H' s' (m.fn _ f0) (m.fn _ f1) (m.fn _ f2) ⟨(h3 _ kt).1, (h3 _ k1).1, (h3 _ k2).1, ne, (h3 _ kt).2.trans ht, ⟨w1, (h3 _ k1).2.trans e1, paired_swap h2 r1⟩, ⟨w2, (h3 _ k2).2.trans e2, paired_swap h2 r2⟩⟩)
end
def lk (F : Hp) (p : Addr) (o : HO) : Hp := fun q => if q = p then (if F p = none then none else some o) else F q
theorem lk_ne {F : Hp} {p q : Addr} {o : HO} (h : q ≠ p) : lk F p o q = F q := if_neg h
theorem lk_none {F : Hp} {p q : Addr} {o : HO} : lk F p o q = none ↔ F q = none := by
  by_cases h : q = p
  · subst h
    unfold lk
    rw [if_pos rfl]
    constructor
    · intro h
      split at h
      · assumption
      · cases h
    · intro h
      rw [if_pos h]
  · rw [lk_ne h]
section
variable {K : Fg} {F Kn0 : Hp} {sl sl' : List Sl} {ow ow1 : List Ow} {σ : L2.St} {Kn H Kn1 Kn2 H2 : Hp} {p : Addr} {u : HO} {od : Obj}
theorem sw_lock (hu : isDk u) (hk : Kn p = some u) : Sw Kn (upd Kn p (.frz od u)) := fun q w h => by
  by_cases e : q = p
  · subst e
    rw [hk] at h
    cases h
    exact .inr ⟨od, u, hu, .inl ⟨rfl, upd_same⟩⟩
  · exact .inl (by rw [upd_ne e]; exact h)
theorem sw_unlock (hu : isDk u) (hk : Kn p = some (.frz od u)) : Sw Kn (upd Kn p u) := fun q w h => by
  by_cases e : q = p
  · subst e
    rw [hk] at h
    cases h
    exact .inr ⟨od, u, hu, .inr ⟨rfl, upd_same⟩⟩
  · exact .inl (by rw [upd_ne e]; exact h)
theorem S.lock (s : S K F Kn0 sl ow σ Kn H) (hu : isDk u) (hk : Kn p = some u) : S K (lk F p (.frz od u)) (upd Kn p (.frz od u)) sl ow σ (upd Kn p (.frz od u)) (upd H p (.frz od u)) := by
  refine ⟨Ex.refl _, fun a w h => ?_, fun a w h => ?_, fun _ _ h => h, s.sl.swap (sw_lock hu hk), ⟨fun o ho => ?_, s.ow.nd⟩⟩
  · by_cases e : a = p
    · subst e
      rw [upd_same] at h ⊢
      exact h
    · rw [upd_ne e] at h ⊢
      exact s.ek _ _ h
  · by_cases e : a = p
    · subst e
      unfold lk at h
      rw [if_pos rfl] at h
      split at h
      · cases h
      · rw [upd_same]
        exact h
    · rw [lk_ne e] at h
      rw [upd_ne e]
      exact s.ef _ _ h
  · obtain ⟨h1, h2, h3⟩ := s.ow.each o ho
    have hne : o.ad ≠ p := fun z => by rw [z, hk] at h2; cases h2
    exact ⟨lk_none.mpr h1, by rw [upd_ne hne]; exact h2, Ow.ok_swap (sw_lock hu hk) (upd_ne hne) h3⟩
theorem S.unlock (hu : isDk u) (hk : Kn p = some u) (hF : ∀ o, F p = some o → o = u) (s : S K (lk F p (.frz od u)) (upd Kn p (.frz od u)) sl ow σ Kn2 H2) : S K F Kn sl ow σ (upd Kn2 p u) (upd H2 p u) := by
  have hp : Kn2 p = some (.frz od u) := s.e0 _ _ upd_same
  refine ⟨fun a w h => ?_, fun a w h => ?_, fun a w h => ?_, fun a h1 h2 => ?_, s.sl.swap (sw_unlock hu hp), ⟨fun o ho => ?_, s.ow.nd⟩⟩
  · by_cases e : a = p
    · subst e
      rw [upd_same, ← hk]
      exact h
    · rw [upd_ne e]
      exact s.e0 _ _ (by rw [upd_ne e]; exact h)
  · by_cases e : a = p
    · subst e
      rw [upd_same] at h ⊢
      exact h
    · rw [upd_ne e] at h ⊢
      exact s.ek _ _ h
  · by_cases e : a = p
    · subst e
      rw [hF _ h, upd_same]
    · rw [upd_ne e]
      exact s.ef _ _ (by rw [lk_ne e]; exact h)
  · have e : a ≠ p := fun z => by rw [z, hk] at h2; cases h2
    rw [upd_ne e]
    exact s.sep a (fun z => h1 (lk_none.mp z)) (by rw [upd_ne e]; exact h2)
  · obtain ⟨h1, h2, h3⟩ := s.ow.each o ho
    have hne : o.ad ≠ p := fun z => by rw [z, hp] at h2; cases h2
    exact ⟨lk_none.mp h1, by rw [upd_ne hne]; exact h2, Ow.ok_swap (sw_unlock hu hp) (upd_ne hne) h3⟩
theorem mv_lock {R : VK} (b : Bs F Kn0 Kn) (hu : isDk u) (hk : Kn p = some u) (hF : ∀ o, F p = some o → o = u) (b2 : Bs (lk F p (.frz od u)) (upd Kn p (.frz od u)) Kn1) : Mv K F Kn0 R (lk F p (.frz od u)) Kn1 (fun v H' => H' p = some (.frz od u) ∧ R v (upd H' p u)) := by
  refine ⟨fun q h => lk_none.mp h, fun sl ow σ Kn2 H2 s => ?_⟩
  have s2 := s.unbase b2
  have hp : Kn2 p = some (.frz od u) := s2.e0 _ _ upd_same
  refine ⟨_, _, (S.unlock hu hk hF s2).unbase b, fun v h => ⟨s.ek _ _ hp, h⟩, sw_unlock hu hp, fun q h => ?_⟩
  have e : q ≠ p := fun z => by rw [z, hp] at h; cases h
  rw [upd_ne e, upd_ne e]
  exact ⟨h, rfl⟩
theorem mv_base {R : VK} (b : Bs F Kn0 Kn1) : Mv K F Kn0 R F Kn1 R :=
  ⟨fun _ h => h, fun sl ow σ Kn H s => ⟨Kn, H, s.unbase b, fun _ h => h, fun q u h => .inl h, fun q h => ⟨h, rfl⟩⟩⟩
end
/-! ### what is walked of a dict -/
class KB (κ : Type) [Rp κ] [K1 κ] : Prop where
  back : ∀ {K : Fg} {H : Hp} (a : κ), rep K H (kV (K1.key a)) a
instance : KB Int := ⟨fun _ => rfl⟩
instance : KB Str := ⟨fun _ => rfl⟩
section
variable {κ β γ : Type} [Rp κ] [K1 κ] [KB κ] [Rp β] [Rp γ] {K : Fg} {F Kn0 : Hp} {sl sl' : List Sl} {ow ow1 : List Ow} {σ : L2.St} {Kn H Kn1 : Hp} {p : Addr} {i : Nat}
structure DIt (K : Fg) (i : Nat) (d : Dc κ β) {γ : Type} [Rp γ] (wi : TI) (J : Addr → Obj → List (Key × V) → It) (xs : List γ) : Prop where
  w : ∀ (σ : L2.St) (H : Hp) (R : It → Hp → Prop) (p : Addr) (od : Obj) (ws : List (Key × V)), σ[i]? = some (some (.ref p)) → H p = some (.frz od (.dK ws)) → R (J p od ws) H → wi σ H R
  k : ∀ {Kn : Hp} {p : Addr} {od : Obj} {ws : List (Key × V)}, Kn p = some (.frz od (.dK ws)) → DK K Kn ws d.l → WK K Kn (J p od ws) xs
theorem dk_at {ws : List (Key × V)} {kvs : List (κ × β)} (h : DK K Kn ws kvs) {n : Nat} {y : κ × β} (e : kvs[n]? = some y) : ∃ v, ws[n]? = some (K1.key y.1, v) ∧ rep K Kn v y.2 := by
  unfold DK at h
  induction h generalizing n with
  | nil => cases e
  | @cons w kv ws kvs q t ih =>
    cases n with
    | zero =>
      cases e
      exact ⟨w.2, by rw [List.getElem?_cons_zero]; exact congrArg some (Prod.ext q.1 rfl), q.2⟩
    | succ n =>
      obtain ⟨v, h1, h2⟩ := ih (n := n) e
      exact ⟨v, h1, h2⟩
theorem dit_keys {d : Dc κ β} : DIt K i d (iKeys (tVar i)) Itk (d.l.map (·.1)) := by
  refine ⟨fun σ H R p od ws h1 h2 h3 => ⟨.ref p, h1, p, od, rfl, .inl ⟨ws, h2, h3⟩⟩, fun {Kn p od ws} h1 h2 i Kn' H' e1 e2 => ⟨fun x hx => ?_, fun hl => ⟨e2 _ _ (e1 _ _ h1), ?_⟩⟩⟩
  · rw [List.getElem?_map] at hx
    obtain ⟨y, hy, rfl⟩ := Option.map_eq_some_iff.mp hx
    obtain ⟨v, hv, rv⟩ := dk_at h2 hy
    refine ⟨⟨e2 _ _ (e1 _ _ h1), (List.getElem?_eq_some_iff.mp hv).1⟩, fun u H2 hh => ?_⟩
    obtain ⟨rfl, k, v2, e, rfl⟩ := hh
    rw [hv] at e
    cases e
    exact ⟨Kn', Gr.refl e2, KB.back _⟩
  · have := h2.length
    rw [List.length_map] at hl
    omega
theorem dit_vals {d : Dc κ β} : DIt K i d (iVals (tVar i)) Itd (d.l.map (·.2)) := by
  refine ⟨fun σ H R p od ws h1 h2 h3 => ⟨.ref p, h1, p, od, ws, rfl, h2, h3⟩, fun {Kn p od ws} h1 h2 i Kn' H' e1 e2 => ⟨fun x hx => ?_, fun hl => ⟨e2 _ _ (e1 _ _ h1), ?_⟩⟩⟩
  · rw [List.getElem?_map] at hx
    obtain ⟨y, hy, rfl⟩ := Option.map_eq_some_iff.mp hx
    obtain ⟨v, hv, rv⟩ := dk_at h2 hy
    refine ⟨⟨e2 _ _ (e1 _ _ h1), (List.getElem?_eq_some_iff.mp hv).1⟩, fun u H2 hh => ?_⟩
    obtain ⟨rfl, k, e⟩ := hh
    rw [hv] at e
    cases e
    exact ⟨Kn', Gr.refl e2, Rp.mono e1 rv⟩
  · have := h2.length
    rw [List.length_map] at hl
    omega
def itemsD {κ β : Type} (d : Dc κ β) : List (κ × β × Unit) := d.l.map fun kv => (kv.1, kv.2, ())
theorem dit_items {d : Dc κ β} : DIt K i d (iItems (tVar i)) Iti (itemsD d) := by
  unfold itemsD
  refine ⟨fun σ H R p od ws h1 h2 h3 => ⟨.ref p, h1, p, od, ws, rfl, h2, h3⟩, fun {Kn p od ws} h1 h2 i Kn' H' e1 e2 => ⟨fun x hx => ?_, fun hl => ⟨e2 _ _ (e1 _ _ h1), ?_⟩⟩⟩
  · rw [List.getElem?_map] at hx
    obtain ⟨y, hy, rfl⟩ := Option.map_eq_some_iff.mp hx
    obtain ⟨v, hv, rv⟩ := dk_at h2 hy
    refine ⟨⟨e2 _ _ (e1 _ _ h1), (List.getElem?_eq_some_iff.mp hv).1⟩, fun u H2 hh => ?_⟩
    obtain ⟨T, k, v2, e, rfl, hT, rfl⟩ := hh
    rw [hv] at e
    cases e
    have g : Gr Kn' H' (upd Kn' T (.tup [kV (K1.key y.1), v])) (upd H' T (.tup [kV (K1.key y.1), v])) := Gr.new e2 hT
    exact ⟨_, g, T, _, rfl, upd_same, _, _, rfl, KB.back _, v, [], rfl, Rp.mono (e1.trans g.kk) rv, rfl⟩
  · have := h2.length
    rw [List.length_map] at hl
    omega
theorem DIt.it {d : Dc κ β} {wi : TI} {J : Addr → Obj → List (Key × V) → It} {xs : List γ} (h : DIt K i d wi J xs) {od : Obj} {ws : List (Key × V)} (hk : Kn1 p = some (.frz od (.dK ws))) (r : DK K Kn1 ws d.l) : IT K F Kn1 sl ow (fun σ H R => R (J p od ws) H) xs := fun σ Kn H s R q =>
  q _ Kn H (Gr.refl s.ek) (h.k (s.e0 _ _ hk) (DK.mono s.e0 r))
/-- for x in d, d.values(), d.items() -/
theorem sb_forD {g : TG} {tb : TS} {Sx : Type} {d : Dc κ β} {wi : TI} {J : Addr → Obj → List (Key × V) → It} {xs : List γ} {D : Ends} (hd : DIt K i d wi J xs) (hi : sl[i]? = some (sv d))
    (slx : Sx → List Sl) (owx : Sx → List Ow) (gx : γ → Sx → List Sl) (js : List Nat) (P : List γ → Sx → Prop) (s0 : Sx) (h0 : P xs s0) (le : SlLe sl (slx s0)) (eo : (owx s0).Sublist ow)
    (hg : ∀ x s, GT K g (slx s) (gx x s) js x)
    (step : ∀ F' Kn1 R', Mv K F Kn0 D.rt F' Kn1 R' → ∀ bk x rest s, P (x :: rest) s → ∀ N : L2.St → Hp → Prop, (∀ s', P rest s' → ∀ σ Kn H, S K F' Kn1 (slx s') (owx s') σ Kn H → N σ H) → SB K F' Kn1 (gx x s) (owx s) ⟨N, R', bk, N⟩ tb)
    (done : ∀ s, P [] s → SN K F Kn0 (slx s) (owx s) D) : SB K F Kn0 sl ow D (tLk (tFor wi g tb)) := fun σ Kn H s => by
  obtain ⟨o, h1, v, h2, hv⟩ := s.sl.get hi
  obtain ⟨p, ws, rfl, h3, h4⟩ := hv
  have h3 : Rd Kn p (.dK ws) := h3
  have hσ : σ[i]? = some (some (.ref p)) := by rw [h1, h2]
  rcases h3 with h3 | ⟨od, h3⟩
  · refine .inl ⟨p, .dK ws, s.ek _ _ h3, trivial, fun od => ?_⟩
    have hF : ∀ o, F p = some o → o = .dK ws := fun o e => by
      have e1 := s.ef _ _ e
      rw [s.ek _ _ h3] at e1
      exact (Option.some.inj e1).symm
    have s1 := s.lock (u := .dK ws) (od := od) trivial h3
    refine hd.w σ _ _ p od ws hσ upd_same ?_
    have sw : Sw Kn (upd Kn p (.frz od (.dK ws))) := sw_lock (u := .dK ws) trivial h3
    exact sb_for (wi := fun σ H R => R (J p od ws) H) slx owx gx js P s0 (IT.m (hd.it upd_same (DK.swap sw h4))) h0 le eo hg
      (fun Kn1 b x rest st hP N hN => step _ Kn1 _ (mv_lock (u := .dK ws) s.bs trivial h3 hF b) _ x rest st hP N hN)
      (fun st hP σ2 Kn2 H2 s2 => show _ ∧ _ from ⟨s2.ek _ _ (s2.e0 _ _ upd_same), done st hP σ2 _ _ ((S.unlock (u := .dK ws) trivial h3 hF s2).unbase s.bs)⟩) σ _ _ s1
  · refine .inr (hd.w σ _ _ p od ws hσ (s.ek _ _ h3) ?_)
    exact sb_for (wi := fun σ H R => R (J p od ws) H) slx owx gx js P s0 (IT.m (hd.it h3 h4)) h0 le eo hg
      (fun Kn1 b x rest st hP N hN => step F Kn1 D.rt (mv_base ⟨s.e0.trans b.e, fun q h1 h2 => b.sp q h1 (s.sep q h1 h2)⟩) _ x rest st hP N hN)
      (fun st hP => (done st hP).base s.bs) σ Kn H s.rebase
/-- [.. for x in d] -/
theorem en_lcD {d : Dc κ β} {wi : TI} {J : Addr → Obj → List (Key × V) → It} {xs : List γ} {α : Type} [Rp α] {zs : List α} {c : γ → Option Bool} {f : γ → Option α} {g : TG} {tt : TT} {te : TE} {js vs : List Nat} (hd : DIt K i d wi J xs) (hi : sl[i]? = some (sv d)) (gx : γ → List Sl) (hm : lcM c f xs = some zs) (hv : ∀ j ∈ vs, sl[j]? = some .any) (hg : ∀ x, GT K g sl (gx x) js x) (hj : ∀ j ∈ js, j ∈ vs)
    (ht : ∀ F' Kn1 p (acc : List α) x b, c x = some b → ET K F' Kn1 (gx x) (ol p acc :: ow) tt b) (he : ∀ F' Kn1 p (acc : List α) x z, c x = some true → f x = some z → EV K F' Kn1 (gx x) (ol p acc :: ow) te z) :
    EN K F Kn0 sl ow (tLkE (tLc wi g tt te vs)) zs := fun σ Kn H s Q q => by
  obtain ⟨o, h1, v, h2, hv2⟩ := s.sl.get hi
  obtain ⟨p, ws, rfl, h3, h4⟩ := hv2
  have h3 : Rd Kn p (.dK ws) := h3
  have hσ : σ[i]? = some (some (.ref p)) := by rw [h1, h2]
  rcases h3 with h3 | ⟨od, h3⟩
  · refine .inl ⟨p, .dK ws, s.ek _ _ h3, trivial, fun od => ?_⟩
    have s1 := s.lock (u := .dK ws) (od := od) trivial h3
    refine hd.w σ _ _ p od ws hσ upd_same ?_
    have sw : Sw Kn (upd Kn p (.frz od (.dK ws))) := sw_lock (u := .dK ws) trivial h3
    show tLc (fun σ H R => R (J p od ws) H) g tt te vs σ (upd H p (.frz od (.dK ws))) (fun v H' => H' p = some (.frz od (.dK ws)) ∧ Q v (upd H' p (.dK ws)))
    refine en_lc (wi := fun σ H R => R (J p od ws) H) gx hm (hd.it upd_same (DK.swap sw h4)) hv hg hj (ht _ _) (he _ _) σ _ _ s1 _ fun l ys Kn' H' g hl kl hw rr => ?_
    have e1 : Kn' p = some (.frz od (.dK ws)) := g.kk _ _ upd_same
    have e2 : H' p = some (.frz od (.dK ws)) := g.kh _ _ e1
    have np : l ≠ p := fun z => by rw [z, e1] at kl; cases kl
    refine ⟨e2, q l ys (upd Kn' p (.dK ws)) (upd H' p (.dK ws)) ⟨fun a u h => ?_, fun a u h => ?_, fun a u h => ?_, fun a u h => ?_⟩ ?_ ?_ ?_ (paired_swap (sw_unlock (u := .dK ws) trivial e1) rr)⟩
    · by_cases e : a = p
      · subst e
        rw [upd_same, ← h3]
        exact h
      · rw [upd_ne e]
        exact g.kk _ _ (by rw [upd_ne e]; exact h)
    · by_cases e : a = p
      · subst e
        rw [upd_same, ← s.ek _ _ h3]
        exact h
      · rw [upd_ne e]
        exact g.hh _ _ (by rw [upd_ne e]; exact h)
    · by_cases e : a = p
      · subst e
        rw [upd_same] at h ⊢
        exact h
      · rw [upd_ne e] at h ⊢
        exact g.kh _ _ h
    · have e : a ≠ p := fun z => by rw [z, h3] at h; cases h
      rw [upd_ne e]
      exact g.sp a (by rw [upd_ne e]; exact u) (by rw [upd_ne e]; exact h)
    · rw [upd_ne np] at hl
      exact hl
    · rw [upd_ne np]
      exact kl
    · rw [upd_ne np]
      exact hw
  · refine .inr (hd.w σ _ _ p od ws hσ (s.ek _ _ h3) ?_)
    show tLc (fun σ H R => R (J p od ws) H) g tt te vs σ H Q
    refine en_lc (wi := fun σ H R => R (J p od ws) H) gx hm (hd.it h3 h4) hv hg hj (ht _ _) (he _ _) σ Kn H s.rebase _ fun l ys Kn' H' g hl kl hw rr => ?_
    exact q l ys Kn' H' g hl kl hw rr
end
/-! ### a new object told -/
section
variable {α τ γ : Type} [Rp α] [Tp τ] [Ob γ]
def RG (K : Fg) (Kn H : Hp) (Q : VK) (x : γ) : Prop := ∀ p o Kn' H', Gr Kn H Kn' H' → H p = none → Kn' p = none → H' p = some o → Ob.ob K Kn' o x → Q (.ref p) H'
def EG (K : Fg) (F Kn0 : Hp) (sl : List Sl) (ow : List Ow) (te : TE) (x : γ) : Prop := ∀ σ Kn H, S K F Kn0 sl ow σ Kn H → ∀ Q : VK, RG K Kn H Q x → te σ H Q
def PG (K : Fg) (f : τ → Option γ) : Sp := fun vs H Q _ => ∃ Kn t r, Ex Kn H ∧ rept K Kn vs t ∧ f t = some r ∧ RG K Kn H Q r
def RNG (K : Fg) (F Kn0 : Hp) (ow : List Ow) (R : VK) (x : γ) : Prop := ∀ p o Kn H, S K F Kn0 [] ow [] Kn H → F p = none → Kn p = none → H p = some o → Ob.ob K Kn o x → R (.ref p) H
end
section
variable {K : Fg} {F F' Kn0 Kn1 : Hp} {sl sl' : List Sl} {ow ow0 ow1 : List Ow} {α κ β τ γ : Type} [Rp α] [Rp κ] [Ky κ] [DecidableEq κ] [Rp β] [Tp τ] [Ob γ] {ta : TA} {te : TE} {t : τ} {E : XK} {D : Ends} {i j : Nat} {p : Addr} {x : γ} {R R' : VK}
theorem RNG.base (q : RNG K F Kn0 ow R x) (b : Bs F Kn0 Kn1) : RNG K F Kn1 ow R x := fun p o Kn H s => q p o Kn H (s.unbase b)
theorem RNG.fr (f : Fle F F') (q : RNG K F Kn0 ow0 R x) : RNG K F' Kn0 ow0 R x := fun p o Kn H s h1 h2 h3 h4 => q p o Kn H (s.back f) (fresh_back f h1) h2 h3 h4
theorem RNG.mv (q : RNG K F Kn0 ow0 R x) (m : Mv K F Kn0 R F' Kn1 R') : RNG K F' Kn1 ow0 R' x := fun p o Kn H s fp kp hp r => by
  obtain ⟨Kn', H', s', h1, h2, h3⟩ := m.st _ _ _ _ _ s
  exact h1 _ (q p o Kn' H' s' (m.fn p fp) (h3 p kp).1 ((h3 p kp).2.trans hp) (Ob.swap h2 r))
theorem rng_of {H Kn : Hp} {Q : VK} (q : RG K Kn H Q x) : RNG K H Kn [] Q x := fun p o Kn' H' s h1 h2 h3 h4 => q p o Kn' H' ⟨s.e0, s.ef, s.ek, s.sep⟩ h1 h2 h3 h4
theorem eg_call {f : τ → Option γ} {r : γ} (h : EA K F Kn0 sl ow ta t) (hf : f t = some r) : EG K F Kn0 sl ow (tCall (PG K f) [] E ta) r := fun σ Kn H s Q q =>
  h σ Kn H s _ fun vs Kn1 H1 g1 r1 => by
    show PG K f (vs ++ []) H1 Q E
    rw [List.append_nil]
    exact ⟨Kn1, t, r, g1.kh, r1, hf, fun p o Kn' H' g' h1 h2 h3 h4 => q p o Kn' H' (g1.trans g') (fresh_back g1.hh h1) h2 h3 h4⟩
theorem EG.ev {d : Dc κ β} (h : EG K F Kn0 sl ow te d) : EV K F Kn0 sl ow te d := fun σ Kn H s Q q => h σ Kn H s Q fun p o Kn' H' g hp kp ho r => by
  obtain ⟨ws, rfl, r⟩ := r
  exact q _ (upd Kn' p (Ky.ho ws)) H' (g.know hp kp ho) ⟨p, ws, rfl, Rd.of upd_same, DK.mono (Ex.new kp) r⟩
theorem EG.cast {x y : γ} (h : EG K F Kn0 sl ow te x) (e : x = y) : EG K F Kn0 sl ow te y := e ▸ h
/-- x = e, one's own from now on -/
theorem sb_asgG {sl' : Addr → List Sl} (hs : ∀ p, sl.set i (.at p) = sl' p) (h : EG K F Kn0 sl ow te x) (k : ∀ p, SN K F Kn0 (sl' p) (oo p x :: ow) D) : SB K F Kn0 sl ow D (tAsg te (gName i)) := fun σ Kn H s =>
  h σ Kn H s _ fun p o Kn1 H1 g1 hp kp ho r1 => k p _ Kn1 H1 (hs p ▸ ((s.grow g1).ownG (p := p) (o := oo p x) rfl (fresh_back s.ef hp) kp (owned_ne s hp) ⟨o, ho, r1⟩).seta i)
theorem sb_retG (hi : sl[i]? = some (.at p)) (hj : ow[j]? = some (oo p x)) (q : RNG K F Kn0 ow0 R x) (l : ow0.Sublist ow) (hR : D.rt = R := by rfl) : SB K F Kn0 sl ow D (tRet (tVar i)) := fun σ Kn H s => by
  subst hR
  obtain ⟨o, h1, h2⟩ := s.sl.get hi
  obtain ⟨f1, f2, ob, f3, f4⟩ := s.ow.each _ (List.mem_of_getElem? hj)
  exact ⟨.ref p, by rw [h1]; exact congrArg some h2, q p ob Kn H (s.sub l).fin f1 f2 f3 f4⟩
theorem sb_retE (h : EG K F Kn0 sl ow te x) (q : RNG K F Kn0 ow0 R x) (l : ow0.Sublist ow) (hR : D.rt = R := by rfl) : SB K F Kn0 sl ow D (tRet te) := fun σ Kn H s => by
  subst hR
  exact h σ Kn H s _ fun p o Kn' H' g hp kp ho r => q p o Kn' H' ((s.grow g).sub l).fin (fresh_back s.ef hp) kp ho r
end
/-! ### dict(d), dicts alike, a text many times -/
section
variable {K : Fg} {F Kn0 : Hp} {sl sl' : List Sl} {ow ow1 : List Ow} {κ β : Type} [Rp κ] [K1 κ] [DecidableEq κ] [Rp β] {te : TE} {i j : Nat} {p : Addr}
abbrev rDictD : List V → Hp → VK → Prop := fun xs H Q => ∃ (a : Addr) (kvs : List (Key × V)), xs = [.ref a] ∧ Rd H a (.dK kvs) ∧ ∀ p, H p = none → Q (.ref p) (upd H p (.dK kvs))
theorem eg_dict {d : Dc κ β} (h : EV K F Kn0 sl ow te d) : EG K F Kn0 sl ow (tCB rDictD (tCons te tNil)) d := fun σ Kn H s Q q => h σ Kn H s _ fun v Kn1 H1 g1 r1 => by
  obtain ⟨l, ws, rfl, h1, h2⟩ := r1
  exact ⟨l, ws, rfl, rd_ex g1.kh h1, fun p hp => q p _ Kn1 _ (g1.trans (Gr.newU g1.kh hp)) (fresh_back g1.hh hp) (fresh_back g1.kh hp) upd_same ⟨ws, rfl, h2⟩⟩
theorem eg_dictO {d : Dc κ β} (hi : sl[i]? = some (.at p)) (hj : ow[j]? = some (oo p d)) : EG K F Kn0 sl ow (tCB rDictD (tCons (tVar i) tNil)) d := fun σ Kn H s Q q => by
  obtain ⟨o, h1, h2⟩ := s.sl.get hi
  obtain ⟨f1, f2, ob, f3, ws, rfl, f5⟩ := s.ow.each _ (List.mem_of_getElem? hj)
  exact ⟨.ref p, by rw [h1]; exact congrArg some h2, p, ws, rfl, Rd.of f3, fun l hl => q l _ Kn _ (Gr.newU s.ek hl) hl (fresh_back s.ek hl) upd_same ⟨ws, rfl, f5⟩⟩
/-- {k: v, ..} -/
theorem eg_disp {trs : List (TE × TE)} {kvs : List (κ × β)} (hp : EPs K F Kn0 sl ow trs kvs) (hl : kvs.length ≤ 15) : EG K F Kn0 sl ow (tDisp trs) (Dc.mk (mergeD [] kvs)) := fun σ Kn H s Q q p hp0 => by
  have g0 : Gr Kn H Kn (upd H p (.dK [])) := Gr.newU s.ek hp0
  refine hp σ Kn _ (s.grow g0) _ fun ws Kn1 H1 g1 r1 => ?_
  have e1 : H1 p = some (.dK []) := g1.hh _ _ upd_same
  have kp : Kn1 p = none := g1.sp p (ne_none_of upd_same) (fresh_back s.ek hp0)
  have g : Gr Kn H Kn1 (upd H1 p (.dK (mergeK [] ws))) := ⟨g1.kk, fun a u h => by
    have hne : a ≠ p := fun z => by rw [z, hp0] at h; cases h
    rw [upd_ne hne]
    exact g1.hh _ _ (by rw [upd_ne hne]; exact h), upd_in g1.kh kp, fun a h1 h2 => g1.sp a (Ex.nn g0.hh h1) h2⟩
  exact ⟨e1, ws, rfl, by rw [r1.length]; exact hl, q p _ Kn1 _ g hp0 kp upd_same ⟨_, rfl, DK.merge r1 .nil⟩⟩
instance {κ β : Type} [Rp κ] [K1 κ] [Rp β] : Tn (Dc κ β) := ⟨"dict", fun h => by
  obtain ⟨p, ws, rfl, h1, _⟩ := h
  rcases h1 with h1 | ⟨o, h1⟩
  · exact .base (.dK h1)
  · exact .fDict h1⟩
/-- are the dicts alike? told where they are -/
def eqDO {κ β : Type} [DecidableEq κ] [DecidableEq β] (a b : Dc κ β) : Option Bool := if a.l.length = b.l.length ∧ (a.l.all fun kv => decide (getD b.l kv.1 = some kv.2)) = true then some true else none
class FlB (β : Type) [Rp β] : Prop where
  fb : ∀ {K : Fg} {H : Hp} {v : V} {x : β}, rep K H v x → flatB v = true
  un : ∀ {K : Fg} {H : Hp} {v w : V} {x : β}, rep K H v x → rep K H w x → v = w
instance : FlB Int := ⟨fun h => by cases h; rfl, fun h1 h2 => by cases h1; cases h2; rfl⟩
instance : FlB Str := ⟨fun h => by cases h; rfl, fun h1 h2 => by cases h1; cases h2; rfl⟩
instance : FlB Bool := ⟨fun h => by cases h; rfl, fun h1 h2 => by cases h1; cases h2; rfl⟩
theorem dk_mem {Kn : Hp} {ws : List (Key × V)} {kvs : List (κ × β)} (h : DK K Kn ws kvs) {w : Key × V} (hw : w ∈ ws) : ∃ kv ∈ kvs, w.1 = K1.key kv.1 ∧ rep K Kn w.2 kv.2 := by
  unfold DK at h
  induction h with
  | nil => cases hw
  | cons q t ih =>
    rcases List.mem_cons.mp hw with rfl | hw
    · exact ⟨_, List.mem_cons_self, q⟩
    · obtain ⟨kv, h1, h2⟩ := ih hw
      exact ⟨kv, List.mem_cons_of_mem _ h1, h2⟩
theorem eqD_go [DecidableEq β] [FlB β] {a b : Dc κ β} {r r' : Bool} (h : eqDO a b = some r) {Kn H : Hp} {v w : V} (ek : Ex Kn H) (h1 : rep K Kn v a) (h2 : rep K Kn w b) {Q : VK} (q : Q (.bl r') H) : rEqDR r' v w H Q ∧ r = true := by
  obtain ⟨p1, w1, rfl, a1, a2⟩ := h1
  obtain ⟨p2, w2, rfl, b1, b2⟩ := h2
  unfold eqDO at h
  split at h
  case isFalse => cases h
  rename_i hl
  cases h
  refine ⟨⟨p1, p2, w1, w2, rfl, rfl, rd_ex ek a1, rd_ex ek b1, ?_, fun x hx => ?_, q⟩, rfl⟩
  · rw [a2.length, b2.length]
    exact hl.1
  · obtain ⟨kv, hm, e1, e2⟩ := dk_mem a2 hx
    have g := of_decide_eq_true (List.all_eq_true.mp hl.2 kv hm)
    rcases b2.get kv.1 with ⟨z, _⟩ | ⟨y, v, z1, z2, z3⟩
    · rw [z] at g
      cases g
    · rw [z1] at g
      cases g
      refine ⟨?_, FlB.fb e2⟩
      rw [e1]
      have : valV w2 (K1.key kv.1) = some v := z2
      rw [this, FlB.un e2 z3]
theorem r2_eqD [DecidableEq β] [FlB β] {a b : Dc κ β} {r : Bool} (h : eqDO a b = some r) : R2V K (rEqDR true) a b r := fun Kn H v w ek h1 h2 Q q => by
  obtain ⟨_, e⟩ := eqD_go h ek h1 h2 (r' := true) (Q := fun _ _ => True) trivial
  subst e
  exact (eqD_go h ek h1 h2 (r' := true) (q.fl (z := true) ek)).1
theorem r2_neD [DecidableEq β] [FlB β] {a b : Dc κ β} {r : Bool} (h : eqDO a b = some r) : R2V K (rEqDR false) a b (!r) := fun Kn H v w ek h1 h2 Q q => by
  obtain ⟨_, e⟩ := eqD_go h ek h1 h2 (r' := true) (Q := fun _ _ => True) trivial
  subst e
  exact (eqD_go h ek h1 h2 (r' := false) (q.fl (z := false) ek)).1
end
end Wk
set_option maxHeartbeats 4000000
/-! Wpag: dict(xs) of a list of pairs; None asked of a value of any kind; isinstance of an exception by a class of the program -/
namespace Wk
open PySem PySem.Spec L2 Evl
section
variable {K : Fg} {F Kn0 : Hp} {sl : List Sl} {ow : List Ow} {κ β : Type} [Rp κ] [K1 κ] [DecidableEq κ] [Rp β] {te : TE}
def prs1 (xs : List (κ × β × Unit)) : List (κ × β) := xs.map fun t => (t.1, t.2.1)
abbrev rDictP (K : Fg) : List V → Hp → VK → Prop := fun xs H Q => ∃ (a : Addr) (ps : List Addr) (kvs : List (Key × V)), xs = [.ref a] ∧ SqL K H a (ps.map V.ref) ∧ Paired (fun p kv => SqT K H p [kV kv.1, kv.2]) ps kvs ∧
    ∀ p, H p = none → Q (.ref p) (upd H p (.dK (mergeK [] kvs)))
theorem prs1_of {Kn H : Hp} (e : Ex Kn H) : ∀ {vs : List V} {xs : List (κ × β × Unit)}, Paired (rep K Kn) vs xs → ∃ (ps : List Addr) (kvs : List (Key × V)), vs = ps.map V.ref ∧
    Paired (fun p kv => SqT K H p [kV kv.1, kv.2]) ps kvs ∧ DK K Kn kvs (prs1 xs)
  | _, _, .nil => ⟨[], [], rfl, .nil, .nil⟩
  | _, _, .cons (a := v) (b := t) h r => by
    obtain ⟨ps, kvs, e1, e2, e3⟩ := prs1_of e r
    obtain ⟨q, ws, rfl, hq, kv, rest, rfl, hk, yv, rest2, rfl, hy, hu⟩ := h
    cases hu
    have := K1.iff hk
    subst this
    exact ⟨q :: ps, (K1.key t.1, yv) :: kvs, by rw [e1]; rfl, .cons (st_of (e _ _ hq)) e2, .cons ⟨rfl, hy⟩ e3⟩
theorem eg_dictP {xs : List (κ × β × Unit)} (h : EV K F Kn0 sl ow te xs) : EG K F Kn0 sl ow (tCB (rDictP K) (tCons te tNil)) (Dc.mk (mergeD [] (prs1 xs))) := fun σ Kn H s Q q => h σ Kn H s _ fun v Kn1 H1 g1 r1 => by
  obtain ⟨a, vs, rfl, ha, hv⟩ := r1
  obtain ⟨ps, kvs, rfl, e2, e3⟩ := prs1_of g1.kh hv
  exact ⟨a, ps, kvs, rfl, sq_of (g1.kh _ _ ha), e2, fun p hp => q p _ Kn1 _ (g1.trans (Gr.newU g1.kh hp)) (fresh_back g1.hh hp) (fresh_back g1.kh hp) upd_same ⟨_, rfl, DK.merge e3 .nil⟩⟩
end
theorem k_dictP {X : Cx} {K : Fg} (hc : X.calm = true := by rfl) (h : X.K = K := by rfl) : CallR X (.type "dict") (rDictP K) := h ▸ call_dictP hc
/-- found.reverse() -/
theorem sb_rev {K : Fg} {F Kn0 : Hp} {sl : List Sl} {ow ow1 : List Ow} {D : Ends} {α : Type} [Rp α] {xs : List α} {i j : Nat} {p : Addr} (hi : sl[i]? = some (.at p)) (hj : ow[j]? = some (ol p xs)) (ho : ow.set j (ol p xs.reverse) = ow1) (k : SN K F Kn0 sl ow1 D) : SB K F Kn0 sl ow D (tDrop (tBM0 K "list" rReverse (tVar i))) := fun σ Kn H s => by
  obtain ⟨o, h1, h2⟩ := s.sl.get hi
  obtain ⟨f1, f2, ws, f3, f4⟩ := s.ow.each _ (List.mem_of_getElem? hj)
  subst ho
  refine ⟨.ref p, by rw [h1]; exact congrArg some h2, Or.inl ⟨rfl, ws, sq_of f3⟩, p, ws, rfl, rfl, f3, k _ Kn _ ?_⟩
  exact s.write hj (Ex.refl _) (upd_in s.ek f2) (fun q hq _ => upd_ne hq) (fun _ _ h => h) upd_same (paired_rev f4)
/-! ### None -/
def isNoD (x : Dy) : Bool := match x.d with | .none => true | _ => false
section
variable {K : Fg}
theorem r2_isND {x : Dy} : R2V K (fun x y H Q => y = .non ∧ Q (.bl (decide (x = .non))) H) x Nn.nn (isNoD x) := fun Kn H v w ek h1 h2 Q q => by
  cases h2
  refine ⟨rfl, ?_⟩
  have e : decide (v = V.non) = isNoD x := by
    obtain ⟨d⟩ := x
    have h1 : Dq Kn v d := h1
    cases h1 <;> rfl
  rw [e]
  exact q.fl ek
theorem r2_notND {x : Dy} : R2V K (fun x y H Q => y = .non ∧ Q (.bl (!decide (x = .non))) H) x Nn.nn (!isNoD x) := fun Kn H v w ek h1 h2 Q q => by
  cases h2
  refine ⟨rfl, ?_⟩
  have e : decide (v = V.non) = isNoD x := by
    obtain ⟨d⟩ := x
    have h1 : Dq Kn v d := h1
    cases h1 <;> rfl
  rw [e]
  exact q.fl ek
/-! ### classes of the program -/
structure ClN where
  a : Addr
instance rpClN : Rp ClN := { rep := fun _ _ v x => v = .ref x.a, swap := fun _ h => h }
instance : Fl ClN := { toV := fun x => V.ref x.a, iff := Iff.rfl }
theorem ev_cl {F Kn0 : Hp} {sl : List Sl} {ow : List Ow} (C : Addr) : EV K F Kn0 sl ow (tC (.ref C)) (ClN.mk C) := ev_c (ClN.mk C)
theorem rc_isXC {a D C : Addr} {cm : Str → Option Addr} {cls : Value} {d : Option Addr} {n : Str} {b : Bool} {u : Unit} {e : Xc} (hD : cm n = some D) (hx : xcls e n = some u) (hk : PySem.W.kitOne K (.ref D) (.ref C) = some b) : RCV K (rIsX K D a cls d) ((Xv.mk e : Xv cm a cls d), ClN.mk C, ()) b := fun Kn H vs ek h Q q => by
  obtain ⟨v, w, rfl, h1, h2⟩ := two_args h
  obtain ⟨rfl, A, hA, hc, hd⟩ := h1
  rw [xcls_eq hx, hD] at hA
  cases hA
  refine ⟨w, .ref C, b, rfl, hc, ?_, fun u hu => ?_, hk, q.fl ek⟩
  · rcases hd with ⟨_, h1⟩ | ⟨dd, fs, h1, h3, _⟩
    · exact .inl h1
    · exact .inr ⟨dd, fs, h1, ek _ _ h3⟩
  · have h2 : w = .ref C := h2
    subst h2
    exact hu
end
theorem kit_twoC {K : Fg} {D C : Addr} {b : Bool} (h : PySem.W.subIn K (.ref D) (.ref C) = some b) (hr : PySem.W.subIn K (.ref D) (.ref D) = some true) (h2 : PySem.W.isClsIn K C = true) (h3 : PySem.W.typeIn K (.ref C) = some (.type "type")) : PySem.W.kitOne K (.ref D) (.ref C) = some b := by
  unfold PySem.W.kitOne
  by_cases e : D = C
  · subst e
    rw [if_pos (by exact beq_self_eq_true _)]
    rw [hr] at h
    exact h
  · rw [if_neg (fun z => e (by have := eq_of_beq z; cases this; rfl))]
    unfold PySem.W.kitCls
    have e2 : ((PySem.W.clsIn K C).isSome && PySem.W.typeIn K (.ref C) == some (.type "type")) = true := by
      have h2' : (PySem.W.clsIn K C).isSome = true := h2
      rw [h2', h3] <;> rfl
    simp only
    rw [if_pos e2]
    exact h
end Wk
set_option maxHeartbeats 4000000
/-! Wany: isinstance of a value of any kind; lists read as lists of values of any kind -/
namespace Wk
open PySem PySem.Spec L2 Evl
def isiD (x : Dy) (n : String) : Bool := match x.d with
  | .none => n == "NoneType"
  | .bool _ => n == "bool" || n == "int"
  | .int _ => n == "int"
  | .str _ => n == "str"
  | .list _ => n == "list"
  | .tuple _ => n == "tuple"
  | _ => false
section
variable {K : Fg}
theorem rc_isiD {x : Dy} {n : String} (h0 : kitB "NoneType" n = some (n == "NoneType")) (h1 : kitB "bool" n = some (n == "bool" || n == "int")) (h2 : kitB "int" n = some (n == "int")) (h3 : kitB "str" n = some (n == "str")) (h4 : kitB "list" n = some (n == "list")) (h5 : kitB "tuple" n = some (n == "tuple")) :
    RCV K (rIsi K) (x, TyN.mk n, ()) (isiD x n) := fun Kn H vs ek hr Q q => by
  obtain ⟨v, w, rfl, r1, r2⟩ := two_args hr
  cases r2
  obtain ⟨d⟩ := x
  have r1 : Dq Kn v d := r1
  cases r1 with
  | non => exact ⟨_, .ty n, .type "NoneType", .type n, _, rfl, .ty n, Tn.is (α := Nn) (a := Nn.nn) (show rep K H V.non Nn.nn from rfl), kit_ty h0, q.fl ek⟩
  | bl b => exact ⟨_, .ty n, .type "bool", .type n, _, rfl, .ty n, Tn.is (α := Bool) (a := b) (show rep K H (V.bl b) b from rfl), kit_ty h1, q.fl ek⟩
  | int i => exact ⟨_, .ty n, .type "int", .type n, _, rfl, .ty n, Tn.is (α := Int) (a := i) (show rep K H (V.int i) i from rfl), kit_ty h2, q.fl ek⟩
  | str s => exact ⟨_, .ty n, .type "str", .type n, _, rfl, .ty n, Tn.is (α := Str) (a := s) (show rep K H (V.str s) s from rfl), kit_ty h3, q.fl ek⟩
  | lst h r => exact ⟨_, .ty n, .type "list", .type n, _, rfl, .ty n, .base (.lst (ek _ _ h)), kit_ty h4, q.fl ek⟩
  | tup h r => exact ⟨_, .ty n, .type "tuple", .type n, _, rfl, .ty n, .base (.tup (ek _ _ h)), kit_ty h5, q.fl ek⟩
end
section
variable {K : Fg} {F Kn0 : Hp} {sl : List Sl} {ow ow1 : List Ow} {α : Type} [Rp α] [Ud α] {te : TE}
theorem paired_up {H : Hp} : ∀ {vs : List V} {xs : List α}, Paired (rep K H) vs xs → Paired (rep K H) vs (xs.map upD)
  | _, _, .nil => .nil
  | _, _, .cons r t => .cons (Ud.is r) (paired_up t)
theorem ev_upL {xs : List α} (h : EV K F Kn0 sl ow te xs) : EV K F Kn0 sl ow te (xs.map upD) := fun σ Kn H s Q q => h σ Kn H s Q fun v Kn' H' g r => by
  obtain ⟨p, vs, rfl, h1, h2⟩ := r
  exact q _ Kn' H' g ⟨p, vs, rfl, h1, paired_up h2⟩
theorem en_upL {xs : List α} (h : EN K F Kn0 sl ow te xs) : EN K F Kn0 sl ow te (xs.map upD) := fun σ Kn H s Q q => h σ Kn H s Q fun l ws Kn' H' g hl kl hw r => q l ws Kn' H' g hl kl hw (paired_up r)
end
end Wk
/-! Wbest: max and min of a list of alike data; < and > of alike data; a text many times -/
namespace L2
open PySem PySem.Spec PyProof.Rows
def rBestD (K : PySem.W.Frag) (best : PyData → List PyData → PyData) : List V → Hp → VK → Prop := fun vs H Q => ∃ (a : Addr) (b0 : V × PyData) (bs : List (V × PyData)), vs = [V.ref a] ∧ SqL K H a ((b0 :: bs).map (·.1)) ∧ (∀ b ∈ b0 :: bs, Dp K H b.1 b.2) ∧ PySem.W.AlikeAll ((b0 :: bs).map (·.2)) ∧ PyData.depthAll ((b0 :: bs).map (·.2)) ≤ 60 ∧
  ∀ b ∈ b0 :: bs, b.2 = best b0.2 (bs.map (·.2)) → Q b.1 H
theorem dpAll_of {K : PySem.W.Frag} {H : Hp} : ∀ {bs : List (V × PyData)}, (∀ b ∈ bs, Dp K H b.1 b.2) → DpAll K H (bs.map (·.1)) (bs.map (·.2))
  | [], _ => .nil
  | b :: bs, h => .cons (h b List.mem_cons_self) (dpAll_of fun c hc => h c (List.mem_cons_of_mem _ hc))
theorem best_fin {X : Cx} {pins : List (Addr × Obj)} {σ : St} {H : Hp} {s : Shared} {Q : VK} {bs : List (V × PyData)} {its : List Value} {k : Nat} {v : Value} {d : PyData} {h' : Heap} {tk : Nat} (I : Inv X pins σ H s) (rv : Vals (bs.map (·.1)) its) (hP : its.toArray[k]? = some v)
    (hb : (bs.map (fun b : V × PyData => b.2)).getD k .none = d) (q : ∀ b ∈ bs, b.2 = d → Q b.1 H) (hk : ∀ b o, s.heap.get? b = some o → h'.get? b = some o) : ∃ x H', Inv X pins σ H' { s with heap := h', toks := tk } ∧ RelV x v ∧ Q x H' := by
  have hP : its[k]? = some v := by simpa using hP
  have hl := rv.length
  rw [List.length_map] at hl
  have hlt : k < bs.length := by
    have := (List.getElem?_eq_some_iff.mp hP).1
    omega
  have hx : (bs.map (·.1))[k]? = some (bs[k]).1 := by rw [List.getElem?_map, List.getElem?_eq_getElem hlt]; rfl
  obtain ⟨w, hw, rw'⟩ := rv.get hx
  rw [hP] at hw
  cases hw
  refine ⟨(bs[k]).1, H, I.kept (t' := tk) hk, rw', q _ (List.getElem_mem hlt) ?_⟩
  rw [← hb, List.getD_eq_getElem?_getD, List.getElem?_map, List.getElem?_eq_getElem hlt]
  rfl
theorem cr_maxD {X : Cx} (hc : X.calm = true) (hu : X.A.units + 64 < cLine) : CallR X (.builtin "max") (rBestD X.K PySem.W.maxD) := by
  intro pins s σ H vs us Q I r h
  obtain ⟨a, b0, bs, rfl, hs, hd, hal, hdp, q⟩ := h
  obtain ⟨its, rv, hl, hz⟩ := I.list hs
  rw [Vals.ref1 r]
  obtain ⟨as, hr⟩ := Dp.readsAll I _ _ _ (dpAll_of hd) rv
  have hr' : ReadsAll s.heap its.toArray.toList (b0.2 :: bs.map (·.2)) as := by simpa using hr
  have hn : its.toArray.size = (bs.map (·.2)).length + 1 := PySem.W.readsAll_len hr'
  refine call_max_walkH (PySem.W.iter_listW (A := X.A.in1) (I.ok.hd hc) hl.isList fun s₂ e W st hfp hw hk => ?_)
  refine ⟨_, _, _, _, _, _, _, s.heap, _, rfl, W, st, hfp, by omega, hw, hk, PySem.W.cmpIn_gt (A := X.A.in1) hr' hal (by show X.A.units + 1 + _ < _; exact Nat.lt_of_le_of_lt (Nat.add_le_add_left hdp _) (by omega)), fun v s' hP m => ?_⟩
  obtain ⟨h', tk, rfl, hk'⟩ := PySem.W.moved_old e rfl m
  have e1 : its.toArray.size - 1 = (bs.map (·.2)).length := by omega
  obtain ⟨f1, f2⟩ := PySem.W.argBest_fold (fun a b => PySem.W.dataLt b a) PyData.none b0.2 (bs.map (·.2)) (bs.map (·.2)).length (Nat.le_refl _)
  rw [List.take_length] at f2
  rw [e1] at hP
  rw [← List.map_cons (f := fun b : V × PyData => b.2)] at f1 f2
  have hP : its.toArray[_]? = some v := hP
  exact best_fin I rv hP f2 q hk'
theorem cr_minD {X : Cx} (hc : X.calm = true) (hu : X.A.units + 64 < cLine) : CallR X (.builtin "min") (rBestD X.K PySem.W.minD) := by
  intro pins s σ H vs us Q I r h
  obtain ⟨a, b0, bs, rfl, hs, hd, hal, hdp, q⟩ := h
  obtain ⟨its, rv, hl, hz⟩ := I.list hs
  rw [Vals.ref1 r]
  obtain ⟨as, hr⟩ := Dp.readsAll I _ _ _ (dpAll_of hd) rv
  have hr' : ReadsAll s.heap its.toArray.toList (b0.2 :: bs.map (·.2)) as := by simpa using hr
  have hn : its.toArray.size = (bs.map (·.2)).length + 1 := PySem.W.readsAll_len hr'
  refine call_min_walkH (PySem.W.iter_listW (A := X.A.in1) (I.ok.hd hc) hl.isList fun s₂ e W st hfp hw hk => ?_)
  refine ⟨_, _, _, _, _, _, _, s.heap, _, rfl, W, st, hfp, by omega, hw, hk, PySem.W.cmpIn_lt (A := X.A.in1) hr' hal (by show X.A.units + 1 + _ < _; exact Nat.lt_of_le_of_lt (Nat.add_le_add_left hdp _) (by omega)), fun v s' hP m => ?_⟩
  obtain ⟨h', tk, rfl, hk'⟩ := PySem.W.moved_old e rfl m
  have e1 : its.toArray.size - 1 = (bs.map (·.2)).length := by omega
  obtain ⟨f1, f2⟩ := PySem.W.argBest_fold PySem.W.dataLt PyData.none b0.2 (bs.map (·.2)) (bs.map (·.2)).length (Nat.le_refl _)
  rw [List.take_length] at f2
  rw [e1] at hP
  rw [← List.map_cons (f := fun b : V × PyData => b.2)] at f1 f2
  have hP : its.toArray[_]? = some v := hP
  exact best_fin I rv hP f2 q hk'
/-- < and the like of alike data -/
def rCmpD (K : PySem.W.Frag) (c : PyData → PyData → Bool) : R2 := fun x y H Q => ∃ da db, Dp K H x da ∧ Dp K H y db ∧ PySem.W.alike da db = true ∧ da ≠ .none ∧ da.depth ≤ 60 ∧ Q (.bl (c da db)) H
section
variable {X : Cx}
theorem op_ltD (hu : X.A.units + 64 < cLine) : OpR X (compareOp .Lt) (rCmpD X.K fun a b => PySem.W.dataLt a b) := by
  intro pins s σ H x y v u Q I rx ry h
  obtain ⟨da, db, d1, d2, h1, h2, h3, q⟩ := h
  obtain ⟨as, r1⟩ := Dp.reads I _ _ _ d1 rx
  obtain ⟨bs, r2⟩ := Dp.reads I _ _ _ d2 ry
  exact PySem.W.lt_data r1 r2 h1 h2 (by have := Nat.min_le_left da.depth db.depth; omega) (fin_bl I q rfl)
theorem op_gtD (hu : X.A.units + 64 < cLine) : OpR X (compareOp .Gt) (rCmpD X.K fun a b => PySem.W.dataLt b a) := by
  intro pins s σ H x y v u Q I rx ry h
  obtain ⟨da, db, d1, d2, h1, h2, h3, q⟩ := h
  obtain ⟨as, r1⟩ := Dp.reads I _ _ _ d1 rx
  obtain ⟨bs, r2⟩ := Dp.reads I _ _ _ d2 ry
  exact PySem.W.gt_data r1 r2 h1 h2 (by have := Nat.min_le_left da.depth db.depth; omega) (fin_bl I q rfl)
/-- a text, n times -/
def rMulS : R2 := fun x y H Q => ∃ (t : Str) (n : Int), x = .str t ∧ y = .int n ∧ MulOk t n ∧ Q (.str (Txt.mul t n)) H
theorem op_mulS : OpR X (binaryOp .Mult) rMulS := by
  intro pins s σ H x y v u Q I rx ry h
  obtain ⟨t, n, rfl, rfl, hk, q⟩ := h
  obtain ⟨t1, rfl⟩ := rx
  obtain ⟨t2, rfl⟩ := ry
  exact SB.mul hk fun t' k => ⟨.str (Txt.mul t n), H, I.tok k, ⟨t', rfl⟩, q⟩
end
end L2
namespace Wk
open PySem PySem.Spec L2 Evl
def bestT {α : Type} (lt : α → α → Bool) : List α → Option α
  | [] => none
  | x :: xs => some (xs.foldl (fun a y => if lt y a = true then y else a) x)
def ltD {α : Type} [Rp α] [Pd α] (a b : α) : Bool := PySem.W.dataLt (Pd.toD a) (Pd.toD b)
/-- the least, the greatest, the first where there are more -/
def minT {α : Type} [Rp α] [Pd α] (xs : List α) : Option α := if Pd.dp α ≤ 59 then bestT ltD xs else none
def maxT {α : Type} [Rp α] [Pd α] (xs : List α) : Option α := if Pd.dp α ≤ 59 then bestT (fun a b => ltD b a) xs else none
def mulS (t : Str) (n : Int) : Option Str := if t.length ≤ 10000 ∧ 0 ≤ n ∧ n ≤ 1000 then some (Txt.mul t n) else none
def ltO {α : Type} [Rp α] [Pd α] (a b : α) : Option Bool := if Pd.dp α ≤ 60 then some (ltD a b) else none
theorem toD_inj {α : Type} [Rp α] [Pd α] {a b : α} (h : Pd.toD a = Pd.toD b) : a = b := by
  have := (Pd.eqd a a).mpr rfl
  rw [h] at this
  rw [← h] at this
  have h2 : PyData.eqv (Pd.toD a) (Pd.toD b) = true := by rw [← h]; exact (Pd.eqd a a).mpr rfl
  exact (Pd.eqd _ _).mp h2
theorem fold_toD {α : Type} [Rp α] [Pd α] (g : PyData → PyData → Bool) (f : α → α → Bool) (hf : ∀ a b, f a b = g (Pd.toD a) (Pd.toD b)) : ∀ (xs : List α) (x : α), (xs.map Pd.toD).foldl (fun a y => if g y a = true then y else a) (Pd.toD x) = Pd.toD (xs.foldl (fun a y => if f y a = true then y else a) x)
  | [], _ => rfl
  | y :: ys, x => by
    rw [List.map_cons, List.foldl_cons, List.foldl_cons, ← fold_toD g f hf ys, hf]
    congr 1
    split <;> rfl
theorem depth_all : ∀ (ds : List PyData) (n : Nat), (∀ d ∈ ds, d.depth ≤ n) → PyData.depthAll ds ≤ n
  | [], _, _ => Nat.zero_le _
  | d :: ds, n, h => by
    have := h d List.mem_cons_self
    have := depth_all ds n fun e he => h e (List.mem_cons_of_mem _ he)
    unfold PyData.depthAll
    omega
section
variable {K : Fg} {F Kn0 : Hp} {sl sl' : List Sl} {ow ow1 : List Ow} {α β : Type} [Rp α] [Pd α] [Al α] [So α]
theorem toD_nn (a : α) : Pd.toD a ≠ .none := by
  rcases (So.so : _ ∨ ∀ a : α, _) with h | h
  · obtain ⟨x, r, e⟩ := h a
    rw [e]
    exact fun z => nomatch z
  · exact (h a).1
theorem rc_best {lt : α → α → Bool} {best : PyData → List PyData → PyData} (hb : ∀ (x : α) (xs : List α), best (Pd.toD x) (xs.map Pd.toD) = Pd.toD (xs.foldl (fun a y => if lt y a = true then y else a) x)) {xs : List α} {z : α} (h : (if Pd.dp α ≤ 59 then bestT lt xs else none) = some z) : RCV K (rBestD K best) (xs, ()) z := fun Kn H vs ek hv Q q => by
  split at h
  case isFalse => cases h
  rename_i hl
  obtain ⟨v, rfl, l, ws, rfl, h1, h2⟩ := one_arg hv
  obtain ⟨ps, e1, e2, e3⟩ := paired_zip h2
  cases ps with
  | nil =>
    cases e2
    cases h
  | cons c ps =>
    subst e1
    subst e2
    have h : some _ = some z := h
    cases h
    refine ⟨l, (c.1, Pd.toD c.2), ps.map fun c => (c.1, Pd.toD c.2), rfl, ?_, fun b hb => ?_, ?_, ?_, fun b hm he => ?_⟩
    · have := sq_of (K := K) (ek _ _ h1)
      rw [← List.map_cons (f := fun c : V × α => ((c.1, Pd.toD c.2) : V × PyData)), List.map_map]
      exact this
    · rw [← List.map_cons (f := fun c : V × α => ((c.1, Pd.toD c.2) : V × PyData))] at hb
      obtain ⟨c', hc, rfl⟩ := List.mem_map.mp hb
      exact Pd.isD (Rp.mono ek (e3 c' hc))
    · rw [← List.map_cons (f := fun c : V × α => ((c.1, Pd.toD c.2) : V × PyData)), List.map_map]
      refine ⟨fun d hd e he => ?_, fun d hd => ?_⟩
      · obtain ⟨c1, _, rfl⟩ := List.mem_map.mp hd
        obtain ⟨c2, _, rfl⟩ := List.mem_map.mp he
        exact Al.al _ _
      · obtain ⟨c1, _, rfl⟩ := List.mem_map.mp hd
        exact toD_nn _
    · rw [← List.map_cons (f := fun c : V × α => ((c.1, Pd.toD c.2) : V × PyData)), List.map_map]
      refine depth_all _ _ fun d hd => ?_
      obtain ⟨c1, _, rfl⟩ := List.mem_map.mp hd
      exact Nat.le_trans (Pd.dep _) (by omega)
    · rw [← List.map_cons (f := fun c : V × α => ((c.1, Pd.toD c.2) : V × PyData))] at hm
      obtain ⟨c', hc, rfl⟩ := List.mem_map.mp hm
      have he : Pd.toD c'.2 = best (Pd.toD c.2) ((ps.map fun c => ((c.1, Pd.toD c.2) : V × PyData)).map (·.2)) := he
      have e4 : (ps.map fun c => ((c.1, Pd.toD c.2) : V × PyData)).map (·.2) = (ps.map (·.2)).map Pd.toD := by rw [List.map_map, List.map_map]; rfl
      rw [e4, hb] at he
      have := toD_inj he
      have h5 := e3 c' hc
      rw [this] at h5
      exact q.at ek h5
theorem rc_minT {xs : List α} {z : α} (h : minT xs = some z) : RCV K (rBestD K PySem.W.minD) (xs, ()) z := rc_best (lt := ltD) (fun x xs => fold_toD (fun a b => PySem.W.dataLt a b) ltD (fun _ _ => rfl) xs x) h
theorem rc_maxT {xs : List α} {z : α} (h : maxT xs = some z) : RCV K (rBestD K PySem.W.maxD) (xs, ()) z := rc_best (lt := fun a b => ltD b a) (fun x xs => fold_toD (fun a b => PySem.W.dataLt b a) (fun a b => ltD b a) (fun _ _ => rfl) xs x) h
theorem r2_ltD {a b : α} {r : Bool} (h : ltO a b = some r) : R2V K (rCmpD K fun a b => PySem.W.dataLt a b) a b r := fun Kn H v w ek h1 h2 Q q => by
  unfold ltO at h
  split at h
  case isFalse => cases h
  rename_i hl
  cases h
  exact ⟨_, _, Pd.isD (Rp.mono ek h1), Pd.isD (Rp.mono ek h2), Al.al _ _, toD_nn _, Nat.le_trans (Pd.dep _) hl, q.fl ek⟩
theorem r2_gtD {a b : α} {r : Bool} (h : ltO b a = some r) : R2V K (rCmpD K fun a b => PySem.W.dataLt b a) a b r := fun Kn H v w ek h1 h2 Q q => by
  unfold ltO at h
  split at h
  case isFalse => cases h
  rename_i hl
  cases h
  exact ⟨_, _, Pd.isD (Rp.mono ek h1), Pd.isD (Rp.mono ek h2), Al.al _ _, toD_nn _, Nat.le_trans (Pd.dep _) hl, q.fl ek⟩
theorem r2_mulS {t z : Str} {n : Int} (h : mulS t n = some z) : R2V K rMulS t n z := fun Kn H v w ek h1 h2 Q q => by
  cases h1
  cases h2
  unfold mulS at h
  split at h
  case isFalse => cases h
  rename_i hl
  cases h
  refine ⟨t, n, rfl, rfl, ⟨?_, fun h3 h4 => ?_, fun h3 h4 => ?_⟩, q.fl ek⟩
  · rw [Bool.or_eq_false_iff, decide_eq_false_iff_not, decide_eq_false_iff_not]
    omega
  · have h5 : (9007199254740993 : Int) ≤ (2 ^ 63 - 1) / n := by
      rw [Int.le_ediv_iff_mul_le (by omega)]
      omega
    have := hl.1
    omega
  · unfold Builtin.Str.tooLong
    rw [decide_eq_false_iff_not]
    have a1 : n.toNat ≤ 1000 := by omega
    have : t.length * n.toNat ≤ 10000 * 1000 := Nat.mul_le_mul hl.1 a1
    have l := le_line (n := 1000000) (by omega)
    rw [sizeLine_eq]
    omega
theorem k_maxT {X : Cx} (hc : X.calm = true) (hu : X.A.units + 64 < cLine) (h : X.K = K := by rfl) : CallR X (.builtin "max") (rBestD K PySem.W.maxD) := h ▸ cr_maxD hc hu
theorem k_minT {X : Cx} (hc : X.calm = true) (hu : X.A.units + 64 < cLine) (h : X.K = K := by rfl) : CallR X (.builtin "min") (rBestD K PySem.W.minD) := h ▸ cr_minD hc hu
theorem k_ltD {X : Cx} (hu : X.A.units + 64 < cLine) (h : X.K = K := by rfl) : OpR X (compareOp .Lt) (rCmpD K fun a b => PySem.W.dataLt a b) := h ▸ op_ltD hu
theorem k_gtD {X : Cx} (hu : X.A.units + 64 < cLine) (h : X.K = K := by rfl) : OpR X (compareOp .Gt) (rCmpD K fun a b => PySem.W.dataLt b a) := h ▸ op_gtD hu
end
end Wk
/-! Wmix: slices of tuples and texts, extend, a list of unlike things -/
namespace Wk
open PySem PySem.Spec L2 Evl
/-- the places from a on, b of them -/
inductive Cu : {τ : Type} → [Tp τ] → Nat → Nat → {υ : Type} → [Tp υ] → τ → υ → Prop
  | nil {τ : Type} [Tp τ] (t : τ) : Cu 0 0 t ()
  | take {α τ υ : Type} [Rp α] [Tp τ] [Tp υ] {b : Nat} (x : α) {t : τ} {u : υ} : Cu 0 b t u → Cu 0 (b + 1) (x, t) (x, u)
  | drop {α τ υ : Type} [Rp α] [Tp τ] [Tp υ] {a b : Nat} (x : α) {t : τ} {u : υ} : Cu a b t u → Cu (a + 1) b (x, t) u
theorem Cu.get {K : Fg} {H : Hp} {τ : Type} [i : Tp τ] {a b : Nat} {υ : Type} [j : Tp υ] {t : τ} {u : υ} (h : Cu a b t u) : ∀ {vs : List V}, rept K H vs t → rept K H ((vs.drop a).take b) u := by
  induction h with
  | nil t => exact fun _ => rfl
  | take x _ ih =>
    intro vs r
    obtain ⟨v, r, rfl, h1, h2⟩ := r
    exact ⟨v, _, rfl, h1, ih h2⟩
  | drop x _ ih =>
    intro vs r
    obtain ⟨v, r, rfl, h1, h2⟩ := r
    exact ih h2
structure Hl (τ : Type) where
  t : τ
  deriving DecidableEq
instance {τ : Type} [Tp τ] : Rp (Hl τ) where
  rep K H v x := ∃ p vs, v = .ref p ∧ H p = some (.lst vs) ∧ rept K H vs x.t
  swap e h := by
    obtain ⟨p, vs, h1, h2, h3⟩ := h
    exact ⟨p, vs, h1, e.lst h2, Tp.swap e h3⟩
instance {τ : Type} [Tp τ] [Pq τ] : Pd (Hl τ) where
  toD x := .list (Pq.toDs x.t)
  dp := Pq.dp τ + 1
  isD h := by
    obtain ⟨p, vs, rfl, h1, h2⟩ := h
    exact .lst (sq_of h1) (Pq.isD h2)
  dep a := by
    simp only [PyData.depth]
    exact Nat.succ_le_succ (Pq.dep a.t)
  eqd a b := by
    simp only [PyData.eqv]
    rw [Pq.eqd]
    cases a
    cases b
    simp
def cutSO (z : Str) (lo hi : Option Int) : Option Str := if z.length ≤ 1000000 then some (cutS z lo hi) else none
section
variable {K : Fg} {F Kn0 : Hp} {sl sl' : List Sl} {ow ow1 ow2 : List Ow} {α β γ τ υ : Type} [Rp α] [Rp β] [Rp γ] [Tp τ] [Tp υ] {ta : TA} {tb te : TE} {D : Ends} {i j : Nat} {p : Addr}
theorem ev_tsl {t : α × τ} {u : β × υ} {tl th : TO} {lo hi : Option Int} {a b : Nat} (h : EV K F Kn0 sl ow te t) (hl : EO K F Kn0 sl ow tl lo) (hh : EO K F Kn0 sl ow th hi)
    (ha : HT.sIx (Tp.n (α × τ)) 0 lo = a) (hb : HT.sIx (Tp.n (α × τ)) (Tp.n (α × τ)) hi - a = b) (hw : ¬ (HT.sIx (Tp.n (α × τ)) 0 lo = 0 ∧ HT.sIx (Tp.n (α × τ)) (Tp.n (α × τ)) hi = Tp.n (α × τ))) (hc : Cu a b t u) :
    EV K F Kn0 sl ow (tSl (rSlT K) te tl th) u := fun σ Kn H s Q q =>
  h σ Kn H s _ fun v Kn1 H1 g1 r1 => hl σ Kn1 H1 (s.grow g1) _ fun Kn2 H2 g2 => hh σ Kn2 H2 ((s.grow g1).grow g2) _ fun Kn3 H3 g3 => by
    obtain ⟨p, ws, rfl, h3, h4⟩ := r1
    have g : Gr Kn H Kn3 H3 := (g1.trans g2).trans g3
    have e13 : Ex Kn1 Kn3 := g2.kk.trans g3.kk
    have el := Tp.len h4
    refine ⟨p, ws, rfl, st_of ((e13.trans g3.kh) _ _ h3), by rw [el]; exact hw, fun l hl => ?_⟩
    have gn := Gr.new (o := .tup (cutV ws lo hi)) g3.kh hl
    refine q _ _ _ (g.trans gn) ⟨l, _, rfl, upd_same, ?_⟩
    have := hc.get (Tp.mono (e13.trans gn.kk) h4)
    have e : cutV ws lo hi = (ws.drop a).take b := by
      unfold cutV
      rw [el, ha, hb]
    rw [e] at this ⊢
    exact this
theorem ev_slS {z r : Str} {tl th : TO} {lo hi : Option Int} (h : EV K F Kn0 sl ow te z) (hl : EO K F Kn0 sl ow tl lo) (hh : EO K F Kn0 sl ow th hi) (hz : cutSO z lo hi = some r) : EV K F Kn0 sl ow (tSl rSlS te tl th) r := fun σ Kn H s Q q =>
  h σ Kn H s _ fun v Kn1 H1 g1 r1 => hl σ Kn1 H1 (s.grow g1) _ fun Kn2 H2 g2 => hh σ Kn2 H2 ((s.grow g1).grow g2) _ fun Kn3 H3 g3 => by
    cases r1
    unfold cutSO at hz
    split at hz
    · rename_i hq
      cases hz
      exact ⟨z, rfl, le_line hq, q _ Kn3 H3 ((g1.trans g2).trans g3) rfl⟩
    · cases hz
theorem ev_hl {t : τ} (h : EA K F Kn0 sl ow ta t) (hz : Tp.n τ ≤ 1000000 := by decide) : EV K F Kn0 sl ow (tLst ta) (Hl.mk t) := fun σ Kn H s Q q =>
  h σ Kn H s _ fun vs Kn1 H1 g1 r1 => ⟨by rw [Tp.len r1]; exact le_line hz, fun p hp =>
    q _ (upd Kn1 p (.lst vs)) _ (g1.trans (Gr.new g1.kh hp)) ⟨p, vs, rfl, upd_same, Tp.mono (Gr.new g1.kh hp).kk r1⟩⟩
theorem r2_hix {t : Hl τ} {n : Nat} {z : γ} (h : At n t.t z) : R2V K (rIxL K) t (n : Int) z := fun Kn H v w ek h1 h2 Q q => by
  obtain ⟨p, ws, rfl, h3, h4⟩ := h1
  cases h2
  obtain ⟨u, e, r⟩ := h.get h4
  exact ⟨p, ws, n, u, rfl, rfl, sq_of (ek _ _ h3), atI_nat e, q.at ek r⟩
theorem k_slt {X : Cx} (h : X.K = K := by rfl) : SlR X (rSlT K) := h ▸ sl_tup
/-- xs.extend(ys), xs one's own -/
theorem sb_extO {xs ys zs : List α} (hi : sl[i]? = some (.at p)) (hj : ow[j]? = some (ol p xs)) (h : EV K F Kn0 sl ow te ys) (hz : catO xs ys = some zs) (ho : ow.set j (ol p zs) = ow1) (k : SN K F Kn0 sl ow1 D) :
    SB K F Kn0 sl ow D (tDrop (tBM K "list" rExtend (tVar i) (tCons te tNil))) := fun σ Kn H s => by
  obtain ⟨o, h1, h2⟩ := s.sl.get hi
  obtain ⟨f1, f2, ws, f3, f4⟩ := s.ow.each _ (List.mem_of_getElem? hj)
  unfold catO at hz
  split at hz
  case isFalse => cases hz
  rename_i hq
  cases hz
  refine ⟨.ref p, by rw [h1]; exact congrArg some h2, Or.inl ⟨rfl, ws, sq_of f3⟩, h σ Kn H s _ fun v Kn1 H1 g1 r1 => ?_⟩
  obtain ⟨b, vs, rfl, h3, h4⟩ := r1
  refine ⟨p, b, ws, vs, rfl, rfl, g1.hh _ _ f3, g1.kh _ _ h3, by rw [paired_len f4, paired_len h4]; exact le_line hq, k _ Kn1 _ ?_⟩
  have kp1 : Kn1 p = none := g1.sp p (ne_none_of f3) f2
  subst ho
  exact (s.grow g1).write hj (Ex.refl _) (upd_in g1.kh kp1) (fun q hq _ => upd_ne hq) (fun _ _ h => h) upd_same (paired_append (paired_mono g1.kk f4) h4)
end
end Wk
/-! Wtxt: join of a tuple, startswith, str() of a number or a text, `in` a tuple of the module -/
namespace Wk
open PySem PySem.Spec L2 Evl
/-- str() of a value of any kind: a number or a text -/
def strDO (x : Dy) : Option Str := match x.d with
  | .int i => strIO i
  | .str s => some s
  | _ => none
def rStrD : List V → Hp → VK → Prop := fun xs H Q => (∃ i : Int, xs = [.int i] ∧ i.natAbs.log2 < 1920 ∧ Q (.str (toString i)) H) ∨ ∃ a, xs = [.str a] ∧ Q (.str a) H
theorem k_strD {X : Cx} : CallR X (.type "str") rStrD := by
  intro pins s σ H xs us Q I r h
  rcases h with ⟨i, h1, h2, h3⟩ | ⟨a, h1, h2⟩
  · exact call_str_int pins s σ H xs us Q I r ⟨i, h1, h2, h3⟩
  · exact SkE.call_str_str pins s σ H xs us Q I r ⟨a, h1, h2⟩
section
variable {K : Fg} {F Kn0 : Hp} {sl : List Sl} {ow : List Ow} {ta tb te tk : TE}
theorem rc_strD {x : Dy} {r : Str} (h : strDO x = some r) : RCV K rStrD (x, ()) r := fun Kn H vs ek hv Q q => by
  obtain ⟨v, rfl, h1⟩ := one_arg hv
  unfold strDO at h
  obtain ⟨d⟩ := x
  have h1 : Dq Kn v d := h1
  cases h1 with
  | int i =>
    have h : strIO i = some r := h
    unfold strIO at h
    split at h
    case isFalse => cases h
    rename_i hb
    cases h
    exact .inl ⟨i, rfl, hb, q.fl ek⟩
  | str z =>
    cases h
    exact .inr ⟨r, rfl, q.fl ek⟩
  | non => cases h
  | bl b => cases h
  | lst _ _ => cases h
  | tup _ _ => cases h
theorem ev_joinT {s : Str} {ys : Tu Str} {z : Str} (ha : EV K F Kn0 sl ow ta s) (hb : EV K F Kn0 sl ow tb ys) (h : joinO s ys.l = some z) :
    EV K F Kn0 sl ow (tM1 (fun x xs H Q => ∃ a p, ∃ ys : List Str, x = .str a ∧ xs = [.ref p] ∧ (SqL K H p (ys.map V.str) ∨ SqT K H p (ys.map V.str)) ∧ (ys.map (·.length)).sum + ys.length * a.length ≤ 16777216 ∧ Q (.str (Txt.join a ys)) H) ta tb) z := fun σ Kn H s' Q q =>
  ha σ Kn H s' _ fun v Kn1 H1 g1 r1 => by
    cases r1
    refine ⟨⟨s, rfl⟩, hb σ Kn1 H1 (s'.grow g1) _ fun w Kn2 H2 g2 r2 => ?_⟩
    obtain ⟨p, ws, rfl, h3, h4⟩ := r2
    have e := paired_fl h4
    subst e
    unfold joinO at h
    split at h
    · rename_i hz
      cases h
      exact ⟨s, p, ys.l, rfl, rfl, .inr (st_of (g2.kh _ _ h3)), by omega, q _ Kn2 H2 (g1.trans g2) rfl⟩
    · cases h
theorem ev_starts {x y : Str} (h : EV K F Kn0 sl ow te x) (hn : EV K F Kn0 sl ow tb y) : EV K F Kn0 sl ow (tBM K "str" (fun x xs H Q => ∃ a b, x = .str a ∧ xs = [.str b] ∧ Q (.bl (Txt.startswith a b)) H) te (tCons tb tNil)) (Txt.startswith x y) := fun σ Kn H s Q q =>
  h σ Kn H s _ fun v Kn1 H1 g1 r1 => by
    cases r1
    refine ⟨rfl, hn σ Kn1 H1 (s.grow g1) _ fun w Kn2 H2 g2 r2 => ?_⟩
    cases r2
    exact ⟨x, y, rfl, rfl, q _ Kn2 H2 (g1.trans g2) rfl⟩
/-- xs.pop() -/
def popO {α : Type} (xs : List α) : Option (α × List α) := xs.getLast?.map fun x => (x, xs.dropLast)
theorem paired_dropLast {α : Type} {R : V → α → Prop} : ∀ {ws : List V} {xs : List α}, Paired R ws xs → Paired R ws.dropLast xs.dropLast
  | _, _, .nil => .nil
  | _, _, .cons _ .nil => .nil
  | _, _, .cons h (.cons h2 t) => .cons h (paired_dropLast (.cons h2 t))
theorem em_pop {α : Type} [Rp α] {xs xs' : List α} {x : α} {i j : Nat} {p : Addr} (hi : sl[i]? = some (.at p)) (hj : ow[j]? = some (ol p xs)) (hx : popO xs = some (x, xs')) : EM K F Kn0 sl ow (tBM0 K "list" rPop (tVar i)) (ow.set j (ol p xs')) x := fun σ Kn H s Q q => by
  obtain ⟨o, h1, h2⟩ := s.sl.get hi
  obtain ⟨f1, f2, ws, f3, f4⟩ := s.ow.each _ (List.mem_of_getElem? hj)
  unfold popO at hx
  obtain ⟨y, hy, e⟩ := Option.map_eq_some_iff.mp hx
  cases e
  rw [List.getLast?_eq_getElem?] at hy
  obtain ⟨v, hv, rv⟩ := paired_at f4 hy
  have hl := paired_len f4
  refine ⟨.ref p, by rw [h1]; exact congrArg some h2, Or.inl ⟨rfl, ws, sq_of f3⟩, p, ws, v, rfl, rfl, f3, by rw [hl]; exact hv, q v Kn _ (Ex.refl _) ?_ rv⟩
  exact s.write hj (Ex.refl _) (upd_in s.ek f2) (fun q hq _ => upd_ne hq) (fun _ _ h => h) upd_same (paired_dropLast f4)
theorem k_starts {X : Cx} {to te : TE} {o e : Expr} {apos cpos : Pos} (ho : PE X o to) (he : PE X e te)
    (hbase : attributeBase o "startswith" X.env (eval o X.env) = eval o X.env := by rfl)
    (hfew : ((backTo cpos (starEach [e] X.env)).all (fun x => !x.1) && (backToKw cpos (keywordEach [] X.env)).all (fun x => x.1.isSome)
      && decide ([e].length + ([] : List Keyword).length + (if ([] : List Keyword).isEmpty then 0 else 1) < 30)) = true := by rfl)
    (hline : (apos.endLine == cpos.line) = true := by rfl) (hs : starEach [e] X.env = (false, eval e X.env) :: starEach [] X.env := by rfl) (h : X.K = K := by rfl) :
    PE X (.Call (.Attribute o "startswith" apos) [e] [] cpos) (tBM K "str" (fun x xs H Q => ∃ a b, x = .str a ∧ xs = [.str b] ∧ Q (.bl (Txt.startswith a b)) H) to (tCons te tNil)) :=
  h ▸ pe_bm PySem.F.plainAttrs_str PySem.F.slot_str_startswith PySem.F.type_str_startswith mt_startswith ho (pa_cons he pa_nil hs) hbase hfew hline hs
/-- a tuple of texts of the module -/
def KTup (K : Fg) (a : Addr) (tab : List Str) : Prop := ∃ (o : Obj) (its : Array Value) (n : Nat), K.lookup a = some o ∧ o.cls = .type "tuple" ∧ o.data = .seq its n ∧ its.size ≤ sizeLine ∧ Vals (tab.map V.str) its.toList
theorem ev_inK {p : Addr} {tab : List Str} {x : Str} (ht : KTup K p tab) (h : EV K F Kn0 sl ow te x) : EV K F Kn0 sl ow (tOp (rIn K false) te (tC (.ref p))) (decide (x ∈ tab)) := fun σ Kn H s Q q =>
  h σ Kn H s _ fun v Kn1 H1 g1 r1 => by
    cases r1
    refine ⟨p, tab.map V.str, rfl, .inr (.inr ht), Fe.flat x, all_flat tab, ?_⟩
    have e : inV (V.str x) (tab.map V.str) = decide (x ∈ tab) := any_mem x tab
    rw [if_neg (by decide), e]
    exact q _ Kn1 H1 g1 rfl
end
end Wk
/-! Wmut2: a def that changes two of its arguments -/
namespace Wk
open PySem PySem.Spec L2 Evl
/-- where the arguments stand: a value, one's own -/
def mV (f : List V → List V) : List V → List V := fun vs => match vs with
  | v :: r => v :: f r
  | [] => []
def mO (p : Addr) (f : List V → List V) : List V → List V := fun vs => .ref p :: f vs
def mE : List V → List V := fun vs => vs
def PM2 {α τ γ δ : Type} [Rp α] [Tp τ] (K : Fg) (mk : Addr → Addr → List V → List V) (o1 : Addr → γ → Ow) (o2 : Addr → δ → Ow) (f : γ → δ → τ → Option (α × γ × δ)) : Sp := fun vs H Q _ => ∃ Kn p q rest t x y r x' y', vs = mk p q rest ∧ Ex Kn H ∧ p ≠ q ∧ Kn p = none ∧ Kn q = none ∧ (o1 p x).ok K Kn H ∧ (o2 q y).ok K Kn H ∧ rept K Kn rest t ∧ f x y t = some (r, x', y') ∧
  ∀ v Kn' H', Ex Kn Kn' → Ex Kn' H' → (∀ a, a ≠ p → a ≠ q → H a ≠ none → H' a = H a) → (∀ a, H a ≠ none → Kn a = none → Kn' a = none) → (o1 p x').ok K Kn' H' → (o2 q y').ok K Kn' H' → rep K Kn' v r → Q v H'
section
variable {K : Fg} {F Kn0 : Hp} {sl : List Sl} {ow : List Ow} {α τ γ δ : Type} [Rp α] [Tp τ]
/-- the arguments: values that are told, own things by their names -/
def EMx (K : Fg) (F Kn0 : Hp) (sl : List Sl) (ow : List Ow) (ta : TA) (t : τ) (mk : List V → List V) : Prop := ∀ σ Kn H, S K F Kn0 sl ow σ Kn H → ∀ Q : List V → Hp → Prop, (∀ vs Kn' H', Gr Kn H Kn' H' → rept K Kn' vs t → Q (mk vs) H') → ta σ H Q
theorem emx_nil : EMx K F Kn0 sl ow tNil () mE := fun σ Kn H s Q q => q [] Kn H (Gr.refl s.ek) rfl
theorem emx_val {te : TE} {ta : TA} {x : α} {t : τ} {mk : List V → List V} (h : EV K F Kn0 sl ow te x) (h2 : EMx K F Kn0 sl ow ta t mk) : EMx K F Kn0 sl ow (tCons te ta) (x, t) (mV mk) := fun σ Kn H s Q q =>
  h σ Kn H s _ fun v Kn1 H1 g1 r1 => h2 σ Kn1 H1 (s.grow g1) _ fun vs Kn2 H2 g2 r2 => q (v :: vs) Kn2 H2 (g1.trans g2) ⟨v, vs, rfl, Rp.mono g2.kk r1, r2⟩
theorem emx_own {ta : TA} {t : τ} {mk : List V → List V} {i : Nat} {p : Addr} (hi : sl[i]? = some (.at p)) (h2 : EMx K F Kn0 sl ow ta t mk) : EMx K F Kn0 sl ow (tCons (tVar i) ta) t (mO p mk) := fun σ Kn H s Q q => by
  obtain ⟨o, h1, h3⟩ := s.sl.get hi
  exact ⟨.ref p, by rw [h1]; exact congrArg some h3, h2 σ Kn H s _ fun vs Kn2 H2 g2 r2 => q vs Kn2 H2 g2 r2⟩
theorem S.write2 {σ : L2.St} {Kn H Kn' H' : Hp} {p q : Addr} {a1 a2 b1 b2 : Ow} {j k : Nat} (s : S K F Kn0 sl ow σ Kn H) (hj : ow[j]? = some a1) (hk : ow[k]? = some a2) (hne : j ≠ k) (d1 : a1.ad = p) (d2 : a2.ad = q) (d3 : b1.ad = p) (d4 : b2.ad = q)
    (kk : Ex Kn Kn') (kh : Ex Kn' H') (hq : ∀ a, a ≠ p → a ≠ q → H a ≠ none → H' a = H a) (sp : ∀ a, H a ≠ none → Kn a = none → Kn' a = none) (h1 : b1.ok K Kn' H') (h2 : b2.ok K Kn' H') : S K F Kn0 sl ((ow.set j b1).set k b2) σ Kn' H' := by
  obtain ⟨f1, f2, f3⟩ := s.ow.each _ (List.mem_of_getElem? hj)
  obtain ⟨g1, g2, g3⟩ := s.ow.each _ (List.mem_of_getElem? hk)
  have f4 := Ow.there f3
  have g4 := Ow.there g3
  rw [d1] at f1 f2 f4
  rw [d2] at g1 g2 g4
  have jl : j < ow.length := (List.getElem?_eq_some_iff.mp hj).1
  have kl : k < ow.length := (List.getElem?_eq_some_iff.mp hk).1
  refine ⟨s.e0.trans kk, kh, fun a u h => ?_, fun a h1 h2 => sp a (Ex.nn s.ef h1) (s.sep a h1 h2), s.sl.mono kk, ⟨fun o ho => ?_, ?_⟩⟩
  · have n1 : a ≠ p := fun z => by rw [z, f1] at h; cases h
    have n2 : a ≠ q := fun z => by rw [z, g1] at h; cases h
    rw [hq a n1 n2 (ne_none_of (s.ef _ _ h))]
    exact s.ef _ _ h
  · obtain ⟨i, hi⟩ := List.getElem?_of_mem ho
    by_cases e : i = k
    · subst e
      rw [List.getElem?_set_self (by rw [List.length_set]; exact kl)] at hi
      cases hi
      rw [d4]
      exact ⟨g1, sp q g4 g2, h2⟩
    · rw [List.getElem?_set_ne (Ne.symm e)] at hi
      by_cases e2 : i = j
      · subst e2
        rw [List.getElem?_set_self jl] at hi
        cases hi
        rw [d3]
        exact ⟨f1, sp p f4 f2, h1⟩
      · rw [List.getElem?_set_ne (Ne.symm e2)] at hi
        obtain ⟨h1, h2, h3⟩ := s.ow.each o (List.mem_of_getElem? hi)
        have h4 := Ow.there h3
        have n1 : o.ad ≠ p := fun z => e2 (ow_at s.ow.nd hi hj (z.trans d1.symm))
        have n2 : o.ad ≠ q := fun z => e (ow_at s.ow.nd hi hk (z.trans d2.symm))
        exact ⟨h1, sp _ h4 h2, Ow.ok_mono kk (hq _ n1 n2 h4) h3⟩
  · have e : ((ow.set j b1).set k b2).map Ow.ad = ow.map Ow.ad := by
      refine List.ext_getElem? fun i => ?_
      rw [List.getElem?_map, List.getElem?_map]
      by_cases e : k = i
      · subst e
        rw [List.getElem?_set_self (by rw [List.length_set]; exact kl), hk]
        exact congrArg some (d4.trans d2.symm)
      · rw [List.getElem?_set_ne e]
        by_cases e2 : j = i
        · subst e2
          rw [List.getElem?_set_self jl, hj]
          exact congrArg some (d3.trans d1.symm)
        · rw [List.getElem?_set_ne e2]
    rw [e]
    exact s.ow.nd
theorem em_callM2 {mk : Addr → Addr → List V → List V} {o1 : Addr → γ → Ow} {o2 : Addr → δ → Ow} {f : γ → δ → τ → Option (α × γ × δ)} {ta : TA} {t : τ} {E : XK} {x x' : γ} {y y' : δ} {r : α} {p q : Addr} {j k : Nat} (h : EMx K F Kn0 sl ow ta t (mk p q)) (hj : ow[j]? = some (o1 p x)) (hk : ow[k]? = some (o2 q y)) (hne : j ≠ k) (a1 : ∀ p x, (o1 p x).ad = p) (a2 : ∀ p x, (o2 p x).ad = p)
    (hf : f x y t = some (r, x', y')) : EM K F Kn0 sl ow (tCall (PM2 K mk o1 o2 f) [] E ta) ((ow.set j (o1 p x')).set k (o2 q y')) r := fun σ Kn H s Q qq => h σ Kn H s _ fun vs Kn1 H1 g1 r1 => by
  have s1 := s.grow g1
  show PM2 K mk o1 o2 f (mk p q vs ++ []) H1 Q E
  rw [List.append_nil]
  obtain ⟨f1, f2, f3⟩ := s1.ow.each _ (List.mem_of_getElem? hj)
  obtain ⟨k1, k2, k3⟩ := s1.ow.each _ (List.mem_of_getElem? hk)
  rw [a1] at f1 f2
  rw [a2] at k1 k2
  have hpq : p ≠ q := fun z => hne (ow_at s1.ow.nd hj hk ((a1 p x).trans (z.trans (a2 q y).symm)))
  exact ⟨Kn1, p, q, vs, t, x, y, r, x', y', rfl, s1.ek, hpq, f2, k2, f3, k3, r1, hf, fun v Kn' H' kk kh hq sp h1 h2 rv => qq v Kn' H' (g1.kk.trans kk) (s1.write2 hj hk hne (a1 p x) (a2 q y) (a1 p x') (a2 q y') kk kh hq sp h1 h2) rv⟩
/-- the second of the changed things is a list made for the call -/
def EMxT {β : Type} [Rp β] (K : Fg) (F Kn0 : Hp) (sl : List Sl) (ow : List Ow) (ta : TA) (xs : List β) (t : τ) (mk : Addr → List V → List V) : Prop := ∀ σ Kn H, S K F Kn0 sl ow σ Kn H → ∀ Q : List V → Hp → Prop,
  (∀ vs q ws Kn' H', Gr Kn H Kn' H' → H q = none → Kn' q = none → H' q = some (.lst ws) → Paired (rep K Kn') ws xs → rept K Kn' vs t → Q (mk q vs) H') → ta σ H Q
theorem emt_new {β : Type} [Rp β] {te : TE} {ta : TA} {xs : List β} {t : τ} {mk : List V → List V} (h : EN K F Kn0 sl ow te xs) (h2 : EMx K F Kn0 sl ow ta t mk) : EMxT K F Kn0 sl ow (tCons te ta) xs t (fun q => mO q mk) := fun σ Kn H s Q qq =>
  h σ Kn H s _ fun q ws Kn1 H1 g1 hq kq hw r1 => h2 σ Kn1 H1 (s.grow g1) _ fun vs Kn2 H2 g2 r2 =>
    qq vs q ws Kn2 H2 (g1.trans g2) hq (g2.sp q (ne_none_of hw) kq) (g2.hh _ _ hw) (paired_mono g2.kk r1) r2
theorem emt_own {β : Type} [Rp β] {ta : TA} {xs : List β} {t : τ} {mk : Addr → List V → List V} {i : Nat} {p : Addr} (hi : sl[i]? = some (.at p)) (h2 : EMxT K F Kn0 sl ow ta xs t mk) : EMxT K F Kn0 sl ow (tCons (tVar i) ta) xs t (fun q => mO p (mk q)) := fun σ Kn H s Q qq => by
  obtain ⟨o, h1, h3⟩ := s.sl.get hi
  exact ⟨.ref p, by rw [h1]; exact congrArg some h3, h2 σ Kn H s _ fun vs q ws Kn2 H2 g2 a b c d r2 => qq vs q ws Kn2 H2 g2 a b c d r2⟩
theorem em_callM2T {β : Type} [Rp β] {mk : Addr → Addr → List V → List V} {o1 : Addr → γ → Ow} {f : γ → List β → τ → Option (α × γ × List β)} {ta : TA} {t : τ} {E : XK} {x x' : γ} {ys ys' : List β} {r : α} {p : Addr} {j : Nat} (h : EMxT K F Kn0 sl ow ta ys t (mk p)) (hj : ow[j]? = some (o1 p x)) (a1 : ∀ p x, (o1 p x).ad = p)
    (hf : f x ys t = some (r, x', ys')) : EM K F Kn0 sl ow (tCall (PM2 K mk o1 (fun p (xs : List β) => ol p xs) f) [] E ta) (ow.set j (o1 p x')) r := fun σ Kn H s Q qq => h σ Kn H s _ fun vs q ws Kn1 H1 g1 hq kq hw r0 r1 => by
  have s1 := s.grow g1
  show PM2 K mk o1 _ f (mk p q vs ++ []) H1 Q E
  rw [List.append_nil]
  have no : ∀ o ∈ ow, o.ad ≠ q := fun o ho z => by
    obtain ⟨_, _, h3⟩ := s.ow.each o ho
    exact Ow.there h3 (by rw [z]; exact hq)
  have s2 : S K F Kn0 sl (ol q ys :: ow) σ Kn1 H1 := s1.own (fresh_back s.ef hq) kq no hw r0
  obtain ⟨f1, f2, f3⟩ := s1.ow.each _ (List.mem_of_getElem? hj)
  have hpq : p ≠ q := fun z => no _ (List.mem_of_getElem? hj) ((a1 p x).trans z)
  rw [a1] at f1 f2
  refine ⟨Kn1, p, q, vs, t, x, ys, r, x', ys', rfl, s1.ek, hpq, f2, kq, f3, ⟨ws, hw, r0⟩, r1, hf, fun v Kn' H' kk kh hq2 sp h1 h2 rv => qq v Kn' H' (g1.kk.trans kk) ?_ rv⟩
  have s3 := s2.write2 (j := j + 1) (k := 0) (b2 := ol q ys') (show (ol q ys :: ow)[j + 1]? = some (o1 p x) from hj) rfl (by omega) (a1 p x) rfl (a1 p x') rfl kk kh hq2 sp h1 h2
  exact s3.sub (List.sublist_cons_self _ _)
theorem enterM2 {σ : L2.St} {Kn H : Hp} {D : Ends} {t : TS} {p q : Addr} {b1 b2 : Ow} (ek : Ex Kn H) (hpq : p ≠ q) (kp : Kn p = none) (kq : Kn q = none) (d1 : b1.ad = p) (d2 : b2.ad = q) (h1 : b1.ok K Kn H) (h2 : b2.ok K Kn H) (hs : SlsOk K Kn sl σ) (h : SB K (but (but H p) q) Kn sl [b1, b2] D t) : t D σ H :=
  h σ Kn H ⟨Ex.refl _, ek, fun a u e => by
    unfold but at e
    split at e
    · cases e
    · split at e
      · cases e
      · exact e, fun _ _ h => h, hs, ⟨fun o ho => by
      rcases List.mem_cons.mp ho with rfl | ho
      · rw [d1]
        refine ⟨?_, kp, h1⟩
        unfold but
        rw [if_neg hpq, if_pos rfl]
      · cases List.mem_singleton.mp ho
        rw [d2]
        exact ⟨if_pos rfl, kq, h2⟩, by
      show [b1.ad, b2.ad].Nodup
      rw [d1, d2]
      exact List.nodup_cons.mpr ⟨(fun h => hpq (List.mem_singleton.mp h)), List.nodup_cons.mpr ⟨(fun h => nomatch h), List.nodup_nil⟩⟩⟩⟩
theorem rt_ofM2 {H Kn : Hp} {r : α} {p q : Addr} {b1 b2 : Ow} {Q : VK} (hpq : p ≠ q) (kp : Kn p = none) (kq : Kn q = none) (d1 : b1.ad = p) (d2 : b2.ad = q)
    (qq : ∀ v Kn' H', Ex Kn Kn' → Ex Kn' H' → (∀ a, a ≠ p → a ≠ q → H a ≠ none → H' a = H a) → (∀ a, H a ≠ none → Kn a = none → Kn' a = none) → b1.ok K Kn' H' → b2.ok K Kn' H' → rep K Kn' v r → Q v H') :
    RT K (but (but H p) q) Kn [b1, b2] Q r := fun v Kn' H' s rv => by
  obtain ⟨_, k1, h1⟩ := s.ow.each b1 List.mem_cons_self
  obtain ⟨_, k2, h2⟩ := s.ow.each b2 (List.mem_cons_of_mem _ List.mem_cons_self)
  rw [d1] at k1
  rw [d2] at k2
  have eb : ∀ a, a ≠ p → a ≠ q → but (but H p) q a = H a := fun a ha hb => by
    unfold but
    rw [if_neg hb, if_neg ha]
  refine qq v Kn' H' s.e0 s.ek (fun a ha hb hn => ?_) (fun a hn hk => ?_) h1 h2 rv
  · exact (Ex.at_eq s.ef (by rw [eb a ha hb]; exact hn)).trans (eb a ha hb)
  · by_cases ha : a = p
    · subst ha
      exact k1
    · by_cases hb : a = q
      · subst hb
        exact k2
      · exact s.sep a (by rw [eb a ha hb]; exact hn) hk
end
theorem fnok_noneM2 {P : Program} {w : World} {K : Fg} {mg : Str → Option Value} {base : Heap} {CX : CXT} {k : Nat} {f : Addr} {fd : FuncData} {ps : List Str} {τ α γ δ : Type} [Tp τ] [Rp α] {mk : Addr → Addr → List V → List V} {o1 : Addr → γ → Ow} {o2 : Addr → δ → Ow} :
    FnOk P w K mg base CX k f fd ps (PM2 K mk o1 o2 (fun _ _ (_ : τ) => (none : Option (α × γ × δ)))) := by
  refine ⟨fun vs H Q E h => ?_, fun A outer s H args us vs Q E hr he hb hv h => ?_⟩
  · obtain ⟨_, _, _, _, _, _, _, _, _, _, _, _, _, _, _, _, _, _, h, _⟩ := h
    cases h
  · obtain ⟨_, _, _, _, _, _, _, _, _, _, _, _, _, _, _, _, _, _, h, _⟩ := h
    cases h
end Wk
set_option maxHeartbeats 4000000
/-! Wchk: a def that changes a list and may raise; signs of a text walked, looked for in a text; a list of texts of the module -/
namespace Wk
open PySem PySem.Spec L2 Evl
/-! signs -/
def sgn (z : Str) : List Str := z.cps.toList.map fun c => ⟨#[c]⟩
theorem wk_str {K : Fg} {Kn1 : Hp} (z : Str) : WK K Kn1 (Its z) (sgn z) := fun i Kn' H' e1 e2 => by
  refine ⟨fun x hx => ?_, fun hl => ?_⟩
  · unfold sgn at hx
    rw [List.getElem?_map] at hx
    obtain ⟨c, hc, rfl⟩ := Option.map_eq_some_iff.mp hx
    rw [Array.getElem?_toList] at hc
    have hi : i < z.cps.size := (Array.getElem?_eq_some_iff.mp hc).1
    refine ⟨hi, fun v H2 hy => ?_⟩
    obtain ⟨rfl, d, hd, rfl⟩ := hy
    rw [hc] at hd
    cases hd
    exact ⟨Kn', Gr.refl e2, rfl⟩
  · unfold sgn at hl
    rw [List.length_map, Array.length_toList] at hl
    exact hl
section
variable {K : Fg} {F Kn0 : Hp} {sl : List Sl} {ow : List Ow} {te : TE}
theorem it_str {z : Str} (h : EV K F Kn0 sl ow te z) : IT K F Kn0 sl ow (iStr te) (sgn z) := fun σ Kn H s R q => h σ Kn H s _ fun v Kn1 H1 g1 r1 => ⟨z, r1, q _ Kn1 H1 g1 (wk_str z)⟩
end
/-- is a sign in a text? -/
def inSO (x z : Str) : Option Bool := match x.cps.toList with
  | [c] => some (decide (c ∈ z.cps.toList))
  | _ => none
theorem inSO_some {x z : Str} {b : Bool} (h : inSO x z = some b) : ∃ c : Nat, x = ⟨#[c]⟩ ∧ b = decide (c ∈ z.cps.toList) := by
  unfold inSO at h
  split at h
  · rename_i c hc
    cases h
    refine ⟨c, ?_, rfl⟩
    obtain ⟨cps⟩ := x
    have hc : cps.toList = [c] := hc
    have : cps = #[c] := by rw [← Array.toArray_toList (xs := cps), hc]
    rw [this]
  · cases h
def rSgn (neg : Bool) : R2 := fun x y H Q => ∃ (c : Nat) (z : Str), x = .str ⟨#[c]⟩ ∧ y = .str z ∧ Q (.bl (if neg = true then !decide (c ∈ z.cps.toList) else decide (c ∈ z.cps.toList))) H
theorem k_inS {X : Cx} : OpR X (compareOp .In) (rSgn false) := fun pins s σ H x y v u Q I rx ry h => by
  obtain ⟨c, z, h1, h2, q⟩ := h
  exact op_in_sign pins s σ H x y v u Q I rx ry ⟨c, z, h1, h2, q⟩
theorem k_notInS {X : Cx} : OpR X (compareOp .NotIn) (rSgn true) := fun pins s σ H x y v u Q I rx ry h => by
  obtain ⟨c, z, h1, h2, q⟩ := h
  exact op_notIn_sign pins s σ H x y v u Q I rx ry ⟨c, z, h1, h2, q⟩
theorem r2_inS {K : Fg} {x z : Str} {b : Bool} (h : inSO x z = some b) : R2V K (rSgn false) x z b := fun Kn H v w ek h1 h2 Q q => by
  obtain ⟨c, rfl, rfl⟩ := inSO_some h
  cases h1
  cases h2
  exact ⟨c, z, rfl, rfl, q.fl ek⟩
theorem r2_notInS {K : Fg} {x z : Str} {b : Bool} (h : inSO x z = some b) : R2V K (rSgn true) x z (!b) := fun Kn H v w ek h1 h2 Q q => by
  obtain ⟨c, rfl, rfl⟩ := inSO_some h
  cases h1
  cases h2
  exact ⟨c, z, rfl, rfl, q.fl ek⟩
/-! texts of the module -/
def KLst (K : Fg) (a : Addr) (tab : List Str) : Prop := ∃ (o : Obj) (its : Array Value) (n : Nat), K.lookup a = some o ∧ o.cls = .type "list" ∧ o.dict = none ∧ o.data = .seq its n ∧ its.size ≤ sizeLine ∧ Vals (tab.map V.str) its.toList
section
variable {K : Fg} {F Kn0 : Hp} {sl : List Sl} {ow : List Ow}
theorem ev_klst {p : Addr} {tab : List Str} (ht : KLst K p tab) : EV K F Kn0 sl ow (tC (.ref p)) (Fz.mk tab) := fun σ Kn H s Q q => q _ Kn H (Gr.refl s.ek) ⟨p, tab.map V.str, rfl, .inr ht, fl_paired tab⟩
theorem ev_ktup {p : Addr} {tab : List Str} (ht : KTup K p tab) : EV K F Kn0 sl ow (tC (.ref p)) (Kt.mk tab) := fun σ Kn H s Q q => q _ Kn H (Gr.refl s.ek) ⟨p, tab.map V.str, rfl, .inr ht, fl_paired tab⟩
theorem r2_inF {α : Type} [Rp α] [Fl α] [DecidableEq α] [Fe α] {x : α} {xs : Fz α} : R2V K (rIn K false) x xs (decide (x ∈ xs.l)) := fun Kn H v w ek h1 h2 Q q => by
  obtain ⟨p, ws, rfl, h3, h4⟩ := h2
  have e := paired_fl h4
  subst e
  rw [Fl.iff.mp h1]
  refine ⟨p, _, rfl, .inl (ex_l ek h3), Fe.flat x, all_flat xs.l, ?_⟩
  rw [any_mem]
  exact q.fl ek
theorem r2_notInF {α : Type} [Rp α] [Fl α] [DecidableEq α] [Fe α] {x : α} {xs : Fz α} : R2V K (rIn K true) x xs (!decide (x ∈ xs.l)) := fun Kn H v w ek h1 h2 Q q => by
  obtain ⟨p, ws, rfl, h3, h4⟩ := h2
  have e := paired_fl h4
  subst e
  rw [Fl.iff.mp h1]
  refine ⟨p, _, rfl, .inl (ex_l ek h3), Fe.flat x, all_flat xs.l, ?_⟩
  rw [any_mem]
  exact q.fl ek
theorem r2_inKt {α : Type} [Rp α] [Fl α] [DecidableEq α] [Fe α] {x : α} {xs : Kt α} : R2V K (rIn K false) x xs (decide (x ∈ xs.l)) := fun Kn H v w ek h1 h2 Q q => by
  obtain ⟨p, ws, rfl, h3, h4⟩ := h2
  have e := paired_fl h4
  subst e
  rw [Fl.iff.mp h1]
  refine ⟨p, _, rfl, .inr (ex_t ek h3), Fe.flat x, all_flat xs.l, ?_⟩
  rw [any_mem]
  exact q.fl ek
theorem r2_notInKt {α : Type} [Rp α] [Fl α] [DecidableEq α] [Fe α] {x : α} {xs : Kt α} : R2V K (rIn K true) x xs (!decide (x ∈ xs.l)) := fun Kn H v w ek h1 h2 Q q => by
  obtain ⟨p, ws, rfl, h3, h4⟩ := h2
  have e := paired_fl h4
  subst e
  rw [Fl.iff.mp h1]
  refine ⟨p, _, rfl, .inr (ex_t ek h3), Fe.flat x, all_flat xs.l, ?_⟩
  rw [any_mem]
  exact q.fl ek
end
/-- xs + e, xs of one's own -/
theorem en_catOwn {K : Fg} {F Kn0 : Hp} {sl : List Sl} {ow : List Ow} {α : Type} [Rp α] {te : TE} {xs ys zs : List α} {i j : Nat} {p : Addr} (hi : sl[i]? = some (.at p)) (hj : ow[j]? = some (ol p xs)) (h : EV K F Kn0 sl ow te ys) (hz : catO xs ys = some zs) : EN K F Kn0 sl ow (tOp rCat (tVar i) te) zs := fun σ Kn H s Q q => by
  unfold catO at hz
  split at hz
  case isFalse => cases hz
  rename_i hb
  cases hz
  obtain ⟨o, h1, h2⟩ := s.sl.get hi
  obtain ⟨f1, f2, ws, f3, f4⟩ := s.ow.each _ (List.mem_of_getElem? hj)
  refine ⟨.ref p, by rw [h1]; exact congrArg some h2, h σ Kn H s _ fun v Kn1 H1 g1 r1 => ?_⟩
  obtain ⟨p2, ws2, rfl, h5, h6⟩ := r1
  exact ⟨p, p2, ws, ws2, rfl, rfl, g1.hh _ _ f3, g1.kh _ _ h5, by rw [paired_len f4, paired_len h6]; exact le_line hb, fun l hl =>
    q l _ Kn1 _ (g1.trans (Gr.newU g1.kh hl)) (fresh_back g1.hh hl) (fresh_back g1.kh hl) upd_same (paired_append (paired_mono g1.kk f4) h6)⟩
/-! a def that changes a list and may raise -/
def PMX {α β τ : Type} [Rp α] [Rp β] [Tp τ] (K : Fg) (cm : Str → Option Addr) (mk : Addr → List V → List V) (f : List β → τ → Option (Er (α × List β))) : Sp := fun vs H Q E => ∃ Kn p ws rest t xs r, vs = mk p rest ∧ Ex Kn H ∧ Kn p = none ∧ H p = some (.lst ws) ∧ Paired (rep K Kn) ws xs ∧ rept K Kn rest t ∧ f xs t = some r ∧
  match r with
  | .ok y => ∀ v Kn' H' ws', Ex Kn Kn' → Ex Kn' H' → (∀ q, q ≠ p → H q ≠ none → H' q = H q) → (∀ q, H q ≠ none → Kn q = none → Kn' q = none) → H' p = some (.lst ws') → Paired (rep K Kn') ws' y.2 → rep K Kn' v y.1 → Q v H'
  | .ex e => ∀ cls d Kn' H', Ex Kn Kn' → Ex Kn' H' → (∀ q, q ≠ p → H q ≠ none → H' q = H q) → (∀ q, q ≠ p → H q ≠ none → Kn q = none → Kn' q = none) → XR cm Kn' e cls d → E cls d H'
/-- the expression raises e; what stands of one's own is ow1 -/
def ERM (K : Fg) (F Kn0 : Hp) (sl : List Sl) (ow : List Ow) (cm : Str → Option Addr) (W : WX) (te : TE) (ow1 : List Ow) (e : Xc) : Prop := ∀ σ Kn H, S K F Kn0 sl ow σ Kn H → (∀ cls d Kn' H', S K F Kn0 sl ow1 σ Kn' H' → XR cm Kn' e cls d → W cls d σ H') → ∀ Q, te σ H Q
section
variable {K : Fg} {F Kn0 : Hp} {sl : List Sl} {ow ow1 : List Ow} {cm : Str → Option Addr} {α β τ : Type} [Rp α] [Rp β] [Tp τ] {W : WX} {D : Ends} {te : TE} {ta : TA} {t : τ} {e : Xc} {mk : Addr → List V → List V}
theorem em_callMX {f : List β → τ → Option (Er (α × List β))} {E : St → XK} {xs xs' : List β} {r : α} {p : Addr} {j : Nat} (h : EMx K F Kn0 sl ow ta t (mk p)) (hj : ow[j]? = some (ol p xs)) (hf : f xs t = some (.ok (r, xs'))) : EM K F Kn0 sl ow (tCallS (PMX K cm mk f) E ta) (ow.set j (ol p xs')) r := fun σ Kn H s Q q =>
  h σ Kn H s _ fun vs Kn1 H1 g1 r1 => by
    have s1 := s.grow g1
    obtain ⟨f1, f2, ws, f3, f4⟩ := s1.ow.each _ (List.mem_of_getElem? hj)
    exact ⟨Kn1, p, ws, vs, t, xs, .ok (r, xs'), rfl, s1.ek, f2, f3, f4, r1, hf, fun v Kn' H' ws' kk kh hq sp hp rr rv => q v Kn' H' (g1.kk.trans kk) (s1.write hj kk kh hq sp hp rr) rv⟩
/-- one of one's own is given up, all else as it was -/
theorem S.lose {σ : L2.St} {Kn H Kn' H' : Hp} {p : Addr} {xs : List β} {j : Nat} (s : S K F Kn0 sl ow σ Kn H) (hj : ow[j]? = some (ol p xs)) (kk : Ex Kn Kn') (kh : Ex Kn' H') (hq : ∀ q, q ≠ p → H q ≠ none → H' q = H q) (sp : ∀ q, q ≠ p → H q ≠ none → Kn q = none → Kn' q = none) : S K F Kn0 sl (ow.eraseIdx j) σ Kn' H' := by
  obtain ⟨f1, f2, f3⟩ := s.ow.each _ (List.mem_of_getElem? hj)
  have f1 : F p = none := f1
  have hne : ∀ a, F a ≠ none → a ≠ p := fun a h z => h (by rw [z]; exact f1)
  refine ⟨s.e0.trans kk, kh, fun a u h => ?_, fun a h1 h2 => sp a (hne a h1) (Ex.nn s.ef h1) (s.sep a h1 h2), s.sl.mono kk, ⟨fun o ho => ?_, s.ow.nd.sublist ((List.eraseIdx_sublist ow j).map _)⟩⟩
  · rw [hq a (hne a (ne_none_of h)) (ne_none_of (s.ef _ _ h))]
    exact s.ef _ _ h
  · obtain ⟨h1, h2, h3⟩ := s.ow.each o ((List.eraseIdx_sublist ow j).subset ho)
    have h4 := Ow.there h3
    have no : o.ad ≠ p := fun z => by
      obtain ⟨m, hm'⟩ := List.getElem?_of_mem ho
      rw [List.getElem?_eraseIdx] at hm'
      split at hm'
      · have := ow_at s.ow.nd hm' hj z
        omega
      · have := ow_at s.ow.nd hm' hj z
        omega
    exact ⟨h1, sp _ no h4 h2, Ow.ok_mono kk (hq _ no h4) h3⟩
theorem er_callMX {f : List β → τ → Option (Er (α × List β))} {xs : List β} {p : Addr} {j : Nat} (h : EMx K F Kn0 sl ow ta t (mk p)) (hj : ow[j]? = some (ol p xs)) (hf : f xs t = some (.ex e)) : ERM K F Kn0 sl ow cm W (tCallS (PMX K cm mk f) (WE W) ta) (ow.eraseIdx j) e := fun σ Kn H s w Q =>
  h σ Kn H s _ fun vs Kn1 H1 g1 r1 => by
    have s1 := s.grow g1
    obtain ⟨f1, f2, ws, f3, f4⟩ := s1.ow.each _ (List.mem_of_getElem? hj)
    exact ⟨Kn1, p, ws, vs, t, xs, .ex e, rfl, s1.ek, f2, f3, f4, r1, hf, fun cls d Kn' H' kk kh hq sp x => w cls d Kn' H' (s1.lose hj kk kh hq sp) x⟩
theorem emt_val {te : TE} {ta : TA} {γ : Type} [Rp γ] {x : γ} {xs : List β} {t : τ} {mk : Addr → List V → List V} (h : EV K F Kn0 sl ow te x) (h2 : EMxT K F Kn0 sl ow ta xs t mk) : EMxT K F Kn0 sl ow (tCons te ta) xs (x, t) (fun q => mV (mk q)) := fun σ Kn H s Q qq =>
  h σ Kn H s _ fun v Kn1 H1 g1 r1 => h2 σ Kn1 H1 (s.grow g1) _ fun vs q ws Kn2 H2 g2 a b c d r2 => qq (v :: vs) q ws Kn2 H2 (g1.trans g2) (fresh_back g1.hh a) b c d ⟨v, vs, rfl, Rp.mono g2.kk r1, r2⟩
theorem ev_callMXN {f : List β → τ → Option (Er (α × List β))} {E : St → XK} {xs xs' : List β} {r : α} (h : EMxT K F Kn0 sl ow ta xs t mk) (hf : f xs t = some (.ok (r, xs'))) : EV K F Kn0 sl ow (tCallS (PMX K cm mk f) E ta) r := fun σ Kn H s Q qq =>
  h σ Kn H s _ fun vs q ws Kn1 H1 g1 hq kq hw r0 r1 => ⟨Kn1, q, ws, vs, t, xs, .ok (r, xs'), rfl, g1.kh, kq, hw, r0, r1, hf, fun v Kn' H' ws' kk kh hq2 sp hp rr rv =>
    qq v Kn' H' ⟨g1.kk.trans kk, fun a u e => by
      have na : a ≠ q := fun z => by rw [z, hq] at e; cases e
      have e1 := g1.hh a u e
      rw [hq2 a na (ne_none_of e1)]
      exact e1, kh, fun a e1 e2 => sp a (Ex.nn g1.hh e1) (g1.sp a e1 e2)⟩ rv⟩
theorem er_callMXN {f : List β → τ → Option (Er (α × List β))} {xs : List β} (h : EMxT K F Kn0 sl ow ta xs t mk) (hf : f xs t = some (.ex e)) : ER K F Kn0 sl ow cm W (tCallS (PMX K cm mk f) (WE W) ta) e := fun σ Kn H s w Q =>
  h σ Kn H s _ fun vs q ws Kn1 H1 g1 hq kq hw r0 r1 => ⟨Kn1, q, ws, vs, t, xs, .ex e, rfl, g1.kh, kq, hw, r0, r1, hf, fun cls d Kn' H' kk kh hq2 sp x => by
    have na : ∀ a, H a ≠ none → a ≠ q := fun a e z => e (by rw [z]; exact hq)
    refine w cls d Kn' H' (s.grow ⟨g1.kk.trans kk, fun a u e => ?_, kh, fun a e1 e2 => sp a (na a e1) (Ex.nn g1.hh e1) (g1.sp a e1 e2)⟩) x
    have e1 := g1.hh a u e
    rw [hq2 a (na a (ne_none_of e)) (ne_none_of e1)]
    exact e1⟩
theorem sb_dropRM (h : ERM K F Kn0 sl ow cm W te ow1 e) (w : RW K F Kn0 sl ow1 cm W e) : SB K F Kn0 sl ow D (tDrop te) := fun σ Kn H s => h σ Kn H s (fun cls d Kn' H' s' x => w σ Kn' H' cls d s' x) _
end
def REM {α β : Type} [Rp α] [Rp β] (K : Fg) (F Kn0 : Hp) (cm : Str → Option Addr) (p : Addr) (R : VK) (E : XK) : Er (α × List β) → Prop
  | .ok y => RT K F Kn0 [ol p y.2] R y.1
  | .ex e => RX K F Kn0 [] cm E e
section
variable {K : Fg} {F F' Kn0 Kn1 : Hp} {cm : Str → Option Addr} {α β : Type} [Rp α] [Rp β] {p : Addr} {R : VK} {E : XK}
theorem REM.base {r : Er (α × List β)} (q : REM K F Kn0 cm p R E r) (b : Bs F Kn0 Kn1) : REM K F Kn1 cm p R E r := by
  cases r with
  | ok x => exact RT.base (R := R) q b
  | ex e => exact RX.base q b
theorem REM.fr {r : Er (α × List β)} (q : REM K F Kn0 cm p R E r) (f : Fle F F') : REM K F' Kn0 cm p R E r := by
  cases r with
  | ok x => exact RT.fr (R := R) f q
  | ex e => exact RX.fr f q
theorem REM.ok_rt {x : α} {xs : List β} (q : REM K F Kn0 cm p R E (.ok (x, xs))) : RT K F Kn0 [ol p xs] R x := q
theorem rem_of {H Kn : Hp} {r : Er (α × List β)} {Q : VK} (kp : Kn p = none) (q : match r with
    | .ok y => ∀ v Kn' H' ws', Ex Kn Kn' → Ex Kn' H' → (∀ q, q ≠ p → H q ≠ none → H' q = H q) → (∀ q, H q ≠ none → Kn q = none → Kn' q = none) → H' p = some (.lst ws') → Paired (rep K Kn') ws' y.2 → rep K Kn' v y.1 → Q v H'
    | .ex e => ∀ cls d Kn' H', Ex Kn Kn' → Ex Kn' H' → (∀ q, q ≠ p → H q ≠ none → H' q = H q) → (∀ q, q ≠ p → H q ≠ none → Kn q = none → Kn' q = none) → XR cm Kn' e cls d → E cls d H') : REM K (but H p) Kn cm p Q E r := by
  cases r with
  | ok y => exact rt_ofM kp q
  | ex e => exact fun cls d Kn' H' s x => q cls d Kn' H' s.e0 s.ek (fun a ha hn => by
      have e : but H p a = H a := if_neg ha
      exact (Ex.at_eq s.ef (by rw [e]; exact hn)).trans e) (fun a ha hn hk => s.sep a (by unfold but; rw [if_neg ha]; exact hn) hk) x
end
theorem fnok_noneMX {P : Program} {w : World} {K : Fg} {mg : Str → Option Value} {base : Heap} {CX : CXT} {k : Nat} {f : Addr} {fd : FuncData} {ps : List Str} {τ α β : Type} [Tp τ] [Rp α] [Rp β] {cm : Str → Option Addr} {mk : Addr → List V → List V} :
    FnOk P w K mg base CX k f fd ps (PMX K cm mk (fun _ (_ : τ) => (none : Option (Er (α × List β))))) := by
  refine ⟨fun vs H Q E h => ?_, fun A outer s H args us vs Q E hr he hb hv h => ?_⟩
  · obtain ⟨_, _, _, _, _, _, _, _, _, _, _, _, _, h, _⟩ := h
    cases h
  · obtain ⟨_, _, _, _, _, _, _, _, _, _, _, _, _, h, _⟩ := h
    cases h
end Wk
/-! Wpour: lists of dicts alike; a tuple of a dict and more alike; d.update(d2) with keys of one piece; a def that tells a new dict and more in a tuple -/
namespace PySem.SeqAt
open AutoSeq1 (wpAny_loadPart')
open MeetsSeq MeetsSeq2 MeetsSeq3 SeqRoads2
section
variable {prog : Program} {w : World}
theorem wk_ne_loop (l b : Addr) (items items2 : Array Value) (n n2 : Nat) (dd dd2 : Option Addr) (sl sl2 : Array (Option Value)) (hsz : items.size = items2.size) (k : Nat) :
    ∀ i : Nat, items.size - i = k → MeetsIn prog w (Builtin.«list.__eq__.loop» ⟨[.ref l, .ref b, rawInt i, rawInt 3], []⟩)
      (fun A R s => s.heap.get? l = some { cls := .type "list", dict := dd, data := .seq items n, slots := sl } ∧ s.heap.get? b = some { cls := .type "list", dict := dd2, data := .seq items2 n2, slots := sl2 } ∧
        (∀ j (h1 : j < items.size) (h2 : j < items2.size), EqP prog w A.in1 s items[j] items2[j] true) ∧
        R (.ok (.ret (.bool false))) s) := by
  induction k with
  | zero =>
    intro i hk A R s h
    obtain ⟨hp, g, d, tk, os⟩ := s; obtain ⟨hl, hb, he, h⟩ := h
    wp_walk using wpAny_loadPart' hl, wpAny_loadPart' hb
    have hi1 : items[((i : Nat) : Int).toNat]? = none := by simp; omega
    have hi2 : items2[((i : Nat) : Int).toNat]? = none := by simp; omega
    rw [hi1, hi2]
    wp_walk using wpAny_loadPart' hl, wpAny_loadPart' hb
    show R (.ok (.ret (.bool (items.size != items2.size)))) _
    rw [hsz]
    simpa using h
  | succ k ih =>
    intro i hk A R s h
    obtain ⟨hp, g, d, tk, os⟩ := s; obtain ⟨hl, hb, he, h⟩ := h
    wp_walk using wpAny_loadPart' hl, wpAny_loadPart' hb
    have hlt : i < items.size := by omega
    have hlt2 : i < items2.size := by omega
    have hi1 : items[((i : Nat) : Int).toNat]? = some items[i] := by simp [hlt]
    have hi2 : items2[((i : Nat) : Int).toNat]? = some items2[i] := by simp [hlt2]
    have hc : ((i : Int) + 1) = ((i + 1 : Nat) : Int) := by push_cast; rfl
    rw [hi1, hi2]
    refine wpAny_bind (he i hlt hlt2 _ _ ?_)
    wp_walk
    rw [hc]
    exact ⟨plainId_quiet plain_eq_loop _, codeAny_builtin entry_eq_loop (by
      rw [Around.under_plainId plain_eq_loop _]
      exact ih (i + 1) (by omega) A R _ ⟨hl, hb, he, h⟩)⟩
theorem wk_list_ne (l b : Addr) (items items2 : Array Value) (n n2 : Nat) (dd dd2 : Option Addr) (sl sl2 : Array (Option Value)) (hsz : items.size = items2.size) :
    MeetsIn prog w (Builtin.«list.__ne__» ⟨[.ref l, .ref b], []⟩)
      (fun A R s => s.heap.get? l = some { cls := .type "list", dict := dd, data := .seq items n, slots := sl } ∧ s.heap.get? b = some { cls := .type "list", dict := dd2, data := .seq items2 n2, slots := sl2 } ∧
        (∀ j (h1 : j < items.size) (h2 : j < items2.size), EqP prog w A.in1 s items[j] items2[j] true) ∧
        R (.ok (.ret (.bool false))) s) := by
  intro A R s h
  obtain ⟨hp, g, d, tk, os⟩ := s; obtain ⟨hl, hb, he, h⟩ := h
  have f3 := AutoSeq1.sub_list_list
  have hne : ¬ (items.size != items2.size) = true := by simp [hsz]
  wp_walk using wpAny_loadPart' hl, wpAny_loadPart' hb
  exact ⟨plainId_quiet plain_eq_loop _, codeAny_builtin entry_eq_loop (by
    rw [Around.under_plainId plain_eq_loop _]
    exact wk_ne_loop l b items items2 n n2 dd dd2 sl sl2 hsz _ 0 rfl A R _ ⟨hl, hb, he, h⟩)⟩
theorem wk_ne_lists {A : Around} {s : Shared} {l b : Addr} {items items2 : Array Value} (hl : s.heap.IsList l items) (hb : s.heap.IsList b items2) (hsz : items.size = items2.size) (hu : A.units < cLine)
    (he : ∀ j (h1 : j < items.size) (h2 : j < items2.size), EqP prog w A.in1 s items[j] items2[j] true) (E Q : Value → Shared → Prop) (h : Q (.bool false) s) : wpAny (model prog w) A (richCompare .NotEq (.ref l) (.ref b)) Q E s := by
  obtain ⟨⟨cls, dd, data, sl⟩, ho, hc, n, hd⟩ := id hl
  obtain ⟨⟨cls2, dd2, data2, sl2⟩, ho2, hc2, n2, hd2⟩ := id hb
  simp only at hc hd hc2 hd2
  subst hc hd hc2 hd2
  have ta : s.TypeIs (.ref l) "list" := ⟨_, ho, rfl⟩
  have tb : s.TypeIs (.ref b) "list" := ⟨_, ho2, rfl⟩
  exact wpAny_richCompare_same_room (op := .NotEq) ta tb F.slot_list_ne (call_meetsIn F.slot_list_ne ta F.entry_list_ne (F.args_list_ne_2 _ _) (wk_list_ne l b items items2 n n2 dd dd2 sl sl2 hsz)
    ⟨ho, ho2, he, show Value.bool false ≠ Value.notImplemented ∧ Q (.bool false) s from ⟨(fun x => nomatch x), h⟩⟩) hu
end
end PySem.SeqAt
namespace L2
open PySem PySem.Spec PyProof.Rows
/-- two dicts alike, or the same flat thing -/
def DDf (H : Hp) (x y : V) : Prop := (x = y ∧ flatB x = true) ∨ ∃ a b ks ls, x = .ref a ∧ y = .ref b ∧ Rd H a (.dK ks) ∧ Rd H b (.dK ls) ∧ ks.length = ls.length ∧ ∀ p ∈ ks, valV ls p.1 = some p.2 ∧ flatB p.2 = true
section
variable {X : Cx}
theorem ddf_eqP {pins : List (Addr × Obj)} {σ : St} {H : Hp} {s : Shared} (I : Inv X pins σ H s) {A : Around} (hu : A.units < cLine) {x y : V} {v u : Value} (h : DDf H x y) (rx : RelV x v) (ry : RelV y u) : SeqAt.EqP X.prog X.w A s v u true := by
  rcases h with ⟨rfl, f⟩ | ⟨a, b, ks, ls, rfl, rfl, ea, eb, hl, hp⟩
  · exact (eqAt_same rx ry f).eqP
  · cases (show v = Value.ref a from rx)
    cases (show u = Value.ref b from ry)
    by_cases e : a = b
    · subst e
      exact (SeqAt.EqAt.same _).eqP
    · obtain ⟨_, ya, va, ra, da⟩ := dk_rd I.hok ea
      obtain ⟨_, yb, vb, rb, db⟩ := dk_rd I.hok eb
      refine SeqAt.eqP_refs e fun E Q q => PySem.W.rcP_dicts (knd := mixKind X.prog X.w) (r := true) ya yb da db hu (fun _ => hits_run (F := fun x y => x = y ∧ flatB x = true) (fun x y v u h rx ry => by
        obtain ⟨rfl, f⟩ := h
        exact (eqAt_same rx ry f).eqP) rb ra fun p hm => ⟨p.2, (hp p hm).1, rfl, (hp p hm).2⟩) E Q ?_
      have e : va.length = vb.length := by rw [← ra.length, ← rb.length]; exact hl
      rw [show (va.length == vb.length && true) = true from by rw [e]; simp]
      exact q
/-- xs != ys, alike -/
def rNeDL (K : PySem.W.Frag) : R2 := fun x y H Q => ∃ a b xs ys, x = .ref a ∧ y = .ref b ∧ SqL K H a xs ∧ SqL K H b ys ∧ Paired (DDf H) xs ys ∧ Q (.bl false) H
theorem ddf_items {pins : List (Addr × Obj)} {σ : St} {H : Hp} {s : Shared} (I : Inv X pins σ H s) {A : Around} (hu : A.units < cLine) : ∀ {xs ys : List V} {us ws : List Value}, Paired (DDf H) xs ys → Vals xs us → Vals ys ws → ∀ (j : Nat) (h1 : j < us.length) (h2 : j < ws.length), SeqAt.EqP X.prog X.w A s us[j] ws[j] true
  | _, _, _, _, .nil, r1, _, j, h1, _ => by
    cases r1
    exact absurd h1 (Nat.not_lt_zero _)
  | _, _, _, _, .cons h t, r1, r2, j, h1, h2 => by
    cases r1 with
    | cons a1 b1 =>
      cases r2 with
      | cons a2 b2 =>
        cases j with
        | zero => exact ddf_eqP I hu h a1 a2
        | succ j => exact ddf_items I hu t b1 b2 j (Nat.lt_of_succ_lt_succ h1) (Nat.lt_of_succ_lt_succ h2)
theorem op_neDL (hu : X.A.units + 64 < cLine) : OpR X (compareOp .NotEq) (rNeDL X.K) := by
  intro pins s σ H x y v u Q I rx ry h
  obtain ⟨a, b, xs, ys, rfl, rfl, ha, hb, hp, q⟩ := h
  cases (show v = Value.ref a from rx)
  cases (show u = Value.ref b from ry)
  obtain ⟨us, r1, p1, _⟩ := I.list ha
  obtain ⟨ws, r2, p2, _⟩ := I.list hb
  have hsz : us.toArray.size = ws.toArray.size := by
    rw [List.size_toArray, List.size_toArray, ← r1.length, ← r2.length]
    exact Paired.length hp
  show wpAny (model X.prog X.w) X.A (richCompare .NotEq _ _) _ _ _
  refine SeqAt.wk_ne_lists p1.isList p2.isList hsz (by omega) (fun j h1 h2 => ?_) _ _ ⟨.bl false, H, I, rfl, q⟩
  have k := ddf_items I (A := X.A.in1) (by show X.A.units + 1 < cLine; omega) hp r1 r2 j (by simpa using h1) (by simpa using h2)
  simpa using k
/-- a == b, two tuples alike -/
def rEqDT (K : PySem.W.Frag) : R2 := fun x y H Q => ∃ a b xs ys, x = .ref a ∧ y = .ref b ∧ SqT K H a xs ∧ SqT K H b ys ∧ Paired (DDf H) xs ys ∧ Q (.bl true) H
theorem op_eqDT (hu : X.A.units + 64 < cLine) : OpR X (compareOp .Eq) (rEqDT X.K) := by
  intro pins s σ H x y v u Q I rx ry h
  obtain ⟨a, b, xs, ys, rfl, rfl, ha, hb, hp, q⟩ := h
  cases (show v = Value.ref a from rx)
  cases (show u = Value.ref b from ry)
  obtain ⟨us, r1, p1, _⟩ := I.tuple ha
  obtain ⟨ws, r2, p2, _⟩ := I.tuple hb
  have hsz : us.toArray.size = ws.toArray.size := by
    rw [List.size_toArray, List.size_toArray, ← r1.length, ← r2.length]
    exact Paired.length hp
  show wpAny (model X.prog X.w) X.A (richCompare .Eq _ _) _ _ _
  refine GQ.rc_tupG hsz (by omega) (fun _ s' => s' = s) p1 p2 (fun i h1 h2 s' e => ?_) (fun s' e => ?_) rfl
  · subst e
    have k := ddf_items I (A := X.A.in1) (by show X.A.units + 1 < cLine; omega) hp r1 r2 i (by simpa using h1) (by simpa using h2)
    have k2 : SeqAt.EqP X.prog X.w X.A.in1 s' us.toArray[i] ws.toArray[i] true := by simpa using k
    exact k2 _ _ ⟨rfl, rfl⟩
  · subst e
    exact ⟨.bl true, H, I, rfl, q⟩
/-- d.update(d2) -/
def rUpdK : V → List V → Hp → VK → Prop := fun x xs H Q => ∃ (a o : Addr) (kvs more : List (Key × V)), x = .ref a ∧ xs = [.ref o] ∧ H a = some (.dK kvs) ∧ Rd H o (.dK more) ∧ a ≠ o ∧ kvs.length + more.length ≤ 1000000 ∧ Q .non (upd H a (.dK (mergeK kvs more)))
theorem length_mergeK' : ∀ (more kvs : List (Key × V)), (mergeK kvs more).length ≤ kvs.length + more.length
  | [], kvs => Nat.le_refl _
  | p :: r, kvs => by
    have h1 := length_mergeK' r (putK kvs p.1 p.2)
    have h2 := length_putK kvs p.1 p.2
    show (mergeK (putK kvs p.1 p.2) r).length ≤ _
    rw [List.length_cons]
    omega
theorem mt_updK : MtR X "dict.update" rUpdK := by
  intro pins s σ H x xs v us Q I rx rxs h
  obtain ⟨a, o, kvs, more, rfl, rfl, ha, ho, hao, hsz, q⟩ := h
  cases rx
  rw [Vals.ref1 rxs]
  obtain ⟨z1, hd1, xs1, rel1, dd1⟩ := dk_of I.hok ha
  obtain ⟨z2, hd2, xs2, rel2, dd2⟩ := dk_rd I.hok ho
  have hs0 : (1000000 : Nat) ≤ sizeLine := by decide
  refine call_meetsIn F.slot_dict_update dd1.typeIs F.entry_dict_update (F.args_dict_update_2 _ _) (meets_dict_update (mixKind X.prog X.w) a o hao hd2) ⟨xs1, xs2, dd1, dd2, by rw [← rel1.length, ← rel2.length]; omega, fun h' d1 d2 hs => ?_⟩
  have he : ∃ q, h'.get? a = some q := let ⟨q, _, _, hq, _⟩ := d1; ⟨q, hq⟩
  exact ⟨.non, upd H a (.dK (mergeK kvs more)), d_write (t' := s.toks) I (by rw [ha]; exact True.intro) hs he (dk_new (by have := length_mergeK' more kvs; omega) hd1 (KV.merge rel2 rel1) d1), rfl, q⟩
end
end L2
namespace Wk
open PySem PySem.Spec L2 Evl
section
variable {K : Fg} {F Kn0 : Hp} {sl sl' : List Sl} {ow ow1 : List Ow} {κ β : Type} [Rp κ] [K1 κ] [DecidableEq κ] [Rp β] [DecidableEq β] [FlB β]
def neLO (a b : List (Dc κ β)) : Option Bool := if a.length = b.length ∧ (List.zipWith (fun x y => decide (eqDO x y = some true)) a b).all id = true then some false else none
theorem ddf_of {a b : Dc κ β} (h : eqDO a b = some true) {Kn H : Hp} {v w : V} (ek : Ex Kn H) (h1 : rep K Kn v a) (h2 : rep K Kn w b) : DDf H v w := by
  obtain ⟨⟨p1, p2, w1, w2, e1, e2, r1, r2, hl, hp, _⟩, _⟩ := eqD_go h ek h1 h2 (r' := true) (Q := fun _ _ => True) trivial
  exact .inr ⟨p1, p2, w1, w2, e1, e2, r1, r2, hl, hp⟩
theorem ddfs_of {Kn H : Hp} (ek : Ex Kn H) : ∀ {a b : List (Dc κ β)} {vs ws : List V}, a.length = b.length → (List.zipWith (fun x y => decide (eqDO x y = some true)) a b).all id = true → Paired (rep K Kn) vs a → Paired (rep K Kn) ws b → Paired (DDf H) vs ws
  | [], [], _, _, _, _, .nil, .nil => .nil
  | x :: xs, y :: ys, _, _, hl, ha, .cons h1 t1, .cons h2 t2 => by
    rw [List.zipWith_cons_cons, List.all_cons, Bool.and_eq_true] at ha
    exact .cons (ddf_of (of_decide_eq_true ha.1) ek h1 h2) (ddfs_of ek (Nat.succ.inj hl) ha.2 t1 t2)
theorem r2_neL {a b : List (Dc κ β)} {r : Bool} (h : neLO a b = some r) : R2V K (rNeDL K) a b r := fun Kn H v w ek h1 h2 Q q => by
  obtain ⟨p1, w1, rfl, a1, a2⟩ := h1
  obtain ⟨p2, w2, rfl, b1, b2⟩ := h2
  unfold neLO at h
  split at h
  case isFalse => cases h
  rename_i hb
  cases h
  exact ⟨p1, p2, w1, w2, rfl, rfl, sq_of (ek _ _ a1), sq_of (ek _ _ b1), ddfs_of ek hb.1 hb.2 a2 b2, q.fl ek⟩
def eqTpO {γ : Type} (a b : Dc κ β × Option γ × Unit) : Option Bool := if eqDO a.1 b.1 = some true ∧ a.2.1.isNone = true ∧ b.2.1.isNone = true then some true else none
theorem r2_eqTp {γ : Type} [Rp γ] {a b : Dc κ β × Option γ × Unit} {r : Bool} (h : eqTpO a b = some r) : R2V K (rEqDT K) a b r := fun Kn H v w ek h1 h2 Q q => by
  obtain ⟨p1, w1, rfl, a1, v1, r1, rfl, a2, v2, r2, rfl, a3, a4⟩ := h1
  obtain ⟨p2, w2, rfl, b1, u1, s1, rfl, b2, u2, s2, rfl, b3, b4⟩ := h2
  cases a4
  cases b4
  unfold eqTpO at h
  split at h
  case isFalse => cases h
  rename_i hb
  cases h
  obtain ⟨e1, e2, e3⟩ := hb
  obtain ⟨a, ao, ⟨⟩⟩ := a
  obtain ⟨b, bo, ⟨⟩⟩ := b
  cases ao with
  | some x => cases e2
  | none =>
    cases bo with
    | some x => cases e3
    | none =>
      have a3 : v2 = .non := a3
      have b3 : u2 = .non := b3
      subst a3 b3
      exact ⟨p1, p2, _, _, rfl, rfl, st_of (ek _ _ a1), st_of (ek _ _ b1), .cons (ddf_of e1 ek a2 b2) (.cons (.inl ⟨rfl, rfl⟩) .nil), q.fl ek⟩
end
section
variable {K : Fg} {F Kn0 : Hp} {sl sl' : List Sl} {ow ow1 : List Ow} {κ β : Type} [Rp κ] [K1 κ] [DecidableEq κ] [Rp β] {te : TE} {D : Ends} {i j : Nat} {p : Addr}
theorem eg_new : EG K F Kn0 sl ow tDNewK (Dc.mk ([] : List (κ × β))) := fun σ Kn H s Q q p hp => q p _ Kn _ (Gr.newU s.ek hp) hp (fresh_back s.ek hp) upd_same ⟨[], rfl, .nil⟩
def updK (d e : Dc κ β) : Option (Dc κ β) := if d.l.length + e.l.length ≤ 1000000 then some ⟨mergeD d.l e.l⟩ else none
theorem sb_updK {d d' e : Dc κ β} (hi : sl[i]? = some (.at p)) (hj : ow[j]? = some (oo p d)) (h : EV K F Kn0 sl ow te e) (hx : updK d e = some d') (ho : ow.set j (oo p d') = ow1) (n : SN K F Kn0 sl ow1 D) :
    SB K F Kn0 sl ow D (tDrop (tBM K "dict" rUpdK (tVar i) (tCons te tNil))) := fun σ Kn H s => by
  obtain ⟨o, h1, h2⟩ := s.sl.get hi
  obtain ⟨f1, f2, o1, f3, ws, f4, f5⟩ := s.ow.each _ (List.mem_of_getElem? hj)
  subst f4
  have f3 : H p = some (.dK ws) := f3
  unfold updK at hx
  split at hx
  case isFalse => cases hx
  rename_i hc
  cases hx
  subst ho
  refine ⟨.ref p, by rw [h1]; exact congrArg some h2, .inr (.inr (.inl ⟨rfl, .inl ⟨ws, f3⟩⟩)), h σ Kn H s _ fun v Kn1 H1 g1 r1 => ?_⟩
  obtain ⟨a, vs, rfl, ha, hv⟩ := r1
  have ha : Rd Kn1 a (.dK vs) := ha
  have kp : Kn1 p = none := g1.sp p (ne_none_of f3) f2
  have hne : p ≠ a := fun z => by
    rw [← z] at ha
    rcases ha with ha | ⟨_, ha⟩
    · rw [kp] at ha; cases ha
    · rw [kp] at ha; cases ha
  refine ⟨p, a, ws, vs, rfl, rfl, g1.hh _ _ f3, rd_ex g1.kh ha, hne, by rw [f5.length, hv.length]; exact hc, n _ Kn1 _ ?_⟩
  exact (s.grow g1).writeG hj rfl rfl (Ex.refl _) (upd_in g1.kh kp) (fun q hq _ => upd_ne hq) (fun _ _ h => h) ⟨_, upd_same, _, rfl, DK.merge hv (DK.mono g1.kk f5)⟩
end
/-! ### a tuple of a new object and more -/
structure Tgp (β : Type) where
  a : Addr
  b : β
instance {β : Type} [Rp β] : Rp (Tgp β) where
  rep K H v x := ∃ p w, v = .ref p ∧ H p = some (.tup [.ref x.a, w]) ∧ rep K H w x.b
  swap e h := by
    obtain ⟨p, w, h1, h2, h3⟩ := h
    exact ⟨p, w, h1, e.tup h2, Rp.swap e h3⟩
instance {β : Type} [Rp β] : Tn (Tgp β) := ⟨"tuple", fun h => by
  obtain ⟨p, vs, rfl, h1, _⟩ := h
  exact .base (.tup h1)⟩
section
variable {β τ γ : Type} [Rp β] [Tp τ] [Ob γ]
def RPG (K : Fg) (Kn H : Hp) (Q : VK) (x : γ) (y : β) : Prop := ∀ p o v Kn' H', Gr Kn H Kn' H' → H p = none → Kn' p = none → H' p = some o → Ob.ob K Kn' o x → rep K Kn' v (Tgp.mk p y) → Q v H'
def EPG (K : Fg) (F Kn0 : Hp) (sl : List Sl) (ow : List Ow) (te : TE) (x : γ) (y : β) : Prop := ∀ σ Kn H, S K F Kn0 sl ow σ Kn H → ∀ Q : VK, RPG K Kn H Q x y → te σ H Q
def PPG (K : Fg) (f : τ → Option (γ × β × Unit)) : Sp := fun vs H Q _ => ∃ Kn t r, Ex Kn H ∧ rept K Kn vs t ∧ f t = some r ∧ RPG K Kn H Q r.1 r.2.1
def RNPG (K : Fg) (F Kn0 : Hp) (ow : List Ow) (R : VK) (x : γ) (y : β) : Prop := ∀ p o v Kn H, S K F Kn0 [] ow [] Kn H → F p = none → Kn p = none → H p = some o → Ob.ob K Kn o x → rep K Kn v (Tgp.mk p y) → R v H
end
section
variable {K : Fg} {F F' Kn0 Kn1 : Hp} {sl sl' : List Sl} {ow ow0 ow1 : List Ow} {α κ β τ γ δ : Type} [Rp α] [Rp κ] [Ky κ] [DecidableEq κ] [Rp β] [Rp δ] [Tp τ] [Ob γ] {ta : TA} {te : TE} {t : τ} {E : XK} {D : Ends} {i j : Nat} {p : Addr} {x : γ} {y : β} {R R' : VK}
theorem RNPG.base (q : RNPG K F Kn0 ow R x y) (b : Bs F Kn0 Kn1) : RNPG K F Kn1 ow R x y := fun p o v Kn H s => q p o v Kn H (s.unbase b)
theorem RNPG.fr (f : Fle F F') (q : RNPG K F Kn0 ow0 R x y) : RNPG K F' Kn0 ow0 R x y := fun p o v Kn H s h1 h2 h3 h4 h5 => q p o v Kn H (s.back f) (fresh_back f h1) h2 h3 h4 h5
theorem RNPG.mv (q : RNPG K F Kn0 ow0 R x y) (m : Mv K F Kn0 R F' Kn1 R') : RNPG K F' Kn1 ow0 R' x y := fun p o v Kn H s fp kp hp r r2 => by
  obtain ⟨Kn', H', s', h1, h2, h3⟩ := m.st _ _ _ _ _ s
  exact h1 _ (q p o v Kn' H' s' (m.fn p fp) (h3 p kp).1 ((h3 p kp).2.trans hp) (Ob.swap h2 r) (Rp.swap h2 r2))
theorem rnpg_of {H Kn : Hp} {Q : VK} (q : RPG K Kn H Q x y) : RNPG K H Kn [] Q x y := fun p o v Kn' H' s h1 h2 h3 h4 h5 => q p o v Kn' H' ⟨s.e0, s.ef, s.ek, s.sep⟩ h1 h2 h3 h4 h5
theorem epg_call {f : τ → Option (γ × β × Unit)} {r : γ × β × Unit} (h : EA K F Kn0 sl ow ta t) (hf : f t = some r) : EPG K F Kn0 sl ow (tCall (PPG K f) [] E ta) r.1 r.2.1 := fun σ Kn H s Q q =>
  h σ Kn H s _ fun vs Kn1 H1 g1 r1 => by
    show PPG K f (vs ++ []) H1 Q E
    rw [List.append_nil]
    exact ⟨Kn1, t, r, g1.kh, r1, hf, fun p o v Kn' H' g' h1 h2 h3 h4 h5 => q p o v Kn' H' (g1.trans g') (fresh_back g1.hh h1) h2 h3 h4 h5⟩
theorem EPG.ev {d : Dc κ δ} (h : EPG K F Kn0 sl ow te d y) : EV K F Kn0 sl ow te (d, y, ()) := fun σ Kn H s Q q => h σ Kn H s Q fun p o v Kn' H' g hp kp ho r r2 => by
  obtain ⟨ws, rfl, r⟩ := r
  obtain ⟨pt, w, rfl, ht, rw'⟩ := r2
  have n : pt ≠ p := fun z => by rw [z, kp] at ht; cases ht
  exact q _ (upd Kn' p (Ky.ho ws)) H' (g.know hp kp ho) ⟨pt, _, rfl, by rw [upd_ne n]; exact ht, .ref p, _, rfl, ⟨p, ws, rfl, Rd.of upd_same, DK.mono (Ex.new kp) r⟩, w, _, rfl, Rp.mono (Ex.new kp) rw', rfl⟩
theorem EPG.cast {x' : γ} {y' : β} (h : EPG K F Kn0 sl ow te x y) (e1 : x = x') (e2 : y = y') : EPG K F Kn0 sl ow te x' y' := e1 ▸ e2 ▸ h
/-- t = f(..): the object is one's own -/
theorem sb_asgPG {sl' : Addr → List Sl} (hs : ∀ p, sl.set i (sv (Tgp.mk p y)) = sl' p) (h : EPG K F Kn0 sl ow te x y) (k : ∀ p, SN K F Kn0 (sl' p) (oo p x :: ow) D) : SB K F Kn0 sl ow D (tAsg te (gName i)) := fun σ Kn H s =>
  h σ Kn H s _ fun p o v Kn1 H1 g1 hp kp ho r1 r2 => k p _ Kn1 H1 (hs p ▸ ((s.grow g1).ownG (p := p) (o := oo p x) rfl (fresh_back s.ef hp) kp (owned_ne s hp) ⟨o, ho, r1⟩).setv (x := Tgp.mk p y) i r2)
theorem S.seta' {σ : L2.St} {Kn H : Hp} (s : S K F Kn0 sl ow σ Kn H) (i : Nat) : S K F Kn0 (sl.set i (.at p)) ow (σ.set i (some (.ref p))) Kn H := s.set i rfl
/-- a, b = t -/
theorem sb_unpTg (hs : (sl.set i (.at p)).set j (sv y) = sl') (h : EV K F Kn0 sl ow te (Tgp.mk p y)) (k : SN K F Kn0 sl' ow D) : SB K F Kn0 sl ow D (tAsg te (gTup K 2 (gCons (gName i) (gCons (gName j) gNil)))) := fun σ Kn H s => h σ Kn H s _ fun v Kn' H' g r => by
  obtain ⟨pt, w, rfl, ht, rw'⟩ := r
  have s1 := s.grow g
  exact ⟨pt, _, rfl, st_of (s1.ek _ _ ht), rfl, .ref p, _, rfl, w, _, rfl, rfl, k _ Kn' H' (hs ▸ ((s1.seta' (p := p) i).setv (x := y) j rw'))⟩
theorem sb_retPG (hi : sl[i]? = some (.at p)) (hj : ow[j]? = some (oo p x)) (h : EV K F Kn0 sl ow te y) (q : RNPG K F Kn0 ow0 R x y) (l : ow0.Sublist ow) (hR : D.rt = R := by rfl) : SB K F Kn0 sl ow D (tRet (tTup (tCons (tVar i) (tCons te tNil)))) := fun σ Kn H s => by
  subst hR
  obtain ⟨o1, a1, a2⟩ := s.sl.get hi
  refine ⟨.ref p, by rw [a1]; exact congrArg some a2, h σ Kn H s _ fun v Kn1 H1 g1 r1 => ⟨by show 2 ≤ sizeLine; exact le_line (by decide), fun pt hp => ?_⟩⟩
  have s1 := s.grow g1
  obtain ⟨f1, f2, ob, f3, f4⟩ := s1.ow.each _ (List.mem_of_getElem? hj)
  have f1 : F p = none := f1
  have f2 : Kn1 p = none := f2
  have g : Gr Kn1 H1 (upd Kn1 pt (.tup [.ref p, v])) (upd H1 pt (.tup [.ref p, v])) := Gr.new s1.ek hp
  have n : p ≠ pt := fun z => by rw [z, hp] at f3; cases f3
  exact q p ob _ _ _ ((s1.grow g).sub l).fin f1 (by rw [upd_ne n]; exact f2) (g.hh _ _ f3) (Ob.mono g.kk f4) ⟨pt, v, rfl, upd_same, Rp.mono g.kk r1⟩
theorem rc_lenTg {x : Tgp β} : RCV K (fun xs H Q => ∃ p ys, xs = [.ref p] ∧ (SqL K H p ys ∨ SqT K H p ys) ∧ Q (.int ys.length) H) (x, ()) (2 : Int) := fun Kn H vs ek h Q q => by
  obtain ⟨v, rfl, p, ws, rfl, h1, h2⟩ := one_arg h
  exact ⟨p, _, rfl, .inr (st_of (ek _ _ h1)), q.fl (z := (2 : Int)) ek⟩
end
section
variable {X : Cx} {K : Fg}
theorem k_neDL (hu : X.A.units + 64 < cLine) (h : X.K = K := by rfl) : OpR X (compareOp .NotEq) (rNeDL K) := h ▸ op_neDL hu
theorem k_eqDT (hu : X.A.units + 64 < cLine) (h : X.K = K := by rfl) : OpR X (compareOp .Eq) (rEqDT K) := h ▸ op_eqDT hu
end
end Wk
/-! Wdeq: == of dicts of whole numbers, alike or not; xs + script; != of truths -/
namespace L2
open PySem PySem.Spec PyProof.Rows
inductive DH (ls : List (Key × V)) : List (Key × V) → Bool → Prop
  | nil : DH ls [] true
  | miss {k : Key} {v : V} {r : List (Key × V)} : valV ls k = none → DH ls ((k, v) :: r) false
  | hit {k : Key} {i j : Int} {r : List (Key × V)} {b : Bool} : valV ls k = some (.int j) → DH ls r b → DH ls ((k, .int i) :: r) (decide (i = j) && b)
theorem dh_hits {A : Around} {s : Shared} {ls : List (Key × V)} {vb : List (Key × Value)} (rb : KV ls vb) {ks : List (Key × V)} {r : Bool} (h : DH ls ks r) : ∀ {va : List (Key × Value)}, KV ks va → PySem.W.KeqHits A s vb va r := by
  induction h with
  | nil =>
    intro va ra
    unfold KV at ra
    cases ra
    exact .nil
  | @miss k v r hv =>
    intro va ra
    unfold KV at ra
    cases ra with
    | @cons _ q _ qs h t =>
      obtain ⟨key, y⟩ := q
      obtain ⟨h1, h2⟩ := h
      have h1 : k = key := h1
      subst h1
      refine .miss ?_
      have := rb.val k
      rw [hv] at this
      cases e : valueAt vb k with
      | none => rfl
      | some z => rw [e] at this; exact False.elim this
  | @hit k i j r b hv _ ih =>
    intro va ra
    unfold KV at ra
    cases ra with
    | @cons _ q _ qs h t =>
      obtain ⟨key, y⟩ := q
      obtain ⟨h1, h2⟩ := h
      have h1 : k = key := h1
      subst h1
      have rr : RelO (some (V.int j)) (valueAt vb k) := by rw [← hv]; exact rb.val k
      obtain ⟨z, hz, rz⟩ := rr.some_of
      obtain ⟨t1, rfl⟩ := h2
      obtain ⟨t2, rfl⟩ := rz
      exact .hit hz (SeqAt.EqAt.int_int i t1 j t2) (ih t)
def rEqDG : R2 := fun x y H Q => ∃ a b ks ls r, x = .ref a ∧ y = .ref b ∧ Rd H a (.dK ks) ∧ Rd H b (.dK ls) ∧ DH ls ks r ∧ Q (.bl (decide (ks.length = ls.length) && r)) H
section
variable {X : Cx}
theorem op_eqDG (hu : X.A.units + 64 < cLine) : OpR X (compareOp .Eq) rEqDG := by
  intro pins s σ H x y v u Q I rx ry h
  obtain ⟨a, b, ks, ls, r, rfl, rfl, ea, eb, hr, q⟩ := h
  obtain rfl : v = Value.ref a := rx
  obtain rfl : u = Value.ref b := ry
  obtain ⟨_, ya, va, ra, da⟩ := dk_rd I.hok ea
  obtain ⟨_, yb, vb, rb, db⟩ := dk_rd I.hok eb
  exact PySem.W.keq_eq (knd := mixKind X.prog X.w) (r := r) ya yb da db (by omega) (fun _ => dh_hits rb hr ra) (fin_bl I q (by rw [← ra.length, ← rb.length]; cases r <;> simp [BEq.beq, Nat.beq_eq]))
def rCatL (K : PySem.W.Frag) : R2 := fun x y H Q => ∃ l b xs zs, x = .ref l ∧ y = .ref b ∧ SqL K H l xs ∧ SqL K H b zs ∧ xs.length + zs.length ≤ sizeLine ∧ ∀ p, H p = none → Q (.ref p) (upd H p (.lst (xs ++ zs)))
theorem op_catL : OpR X (binaryOp .Add) (rCatL X.K) := by
  intro pins s σ H x y v u Q I rx ry h
  obtain ⟨l, b, xs, zs, rfl, rfl, hH, hB, hz, q⟩ := h
  cases rx
  cases ry
  obtain ⟨its, r, p1, _⟩ := I.list hH
  obtain ⟨its2, r2, p2, _⟩ := I.list hB
  have hl := r.length
  have hl2 := r2.length
  obtain ⟨⟨cls, dd, data, sl⟩, n, ho, hc, hd0, hd⟩ := id p1
  obtain ⟨⟨cls2, dd2, data2, sl2⟩, n2, ho2, hc2, hd02, hd2⟩ := id p2
  simp only at hc hd hc2 hd2
  subst hc hd hc2 hd2
  have ea : its.toArray ++ its2.toArray = (its ++ its2).toArray := by simp
  refine concat_meets ⟨_, ho, rfl⟩ ⟨_, ho2, rfl⟩ noFill_list_add seq_list_add F.slot_list_add F.entry_list_add (F.args_list_add_2 _ _) (PyProof.Rows.list_addW l b its.toArray its2.toArray n n2 dd dd2 sl sl2 (by rw [List.size_toArray, List.size_toArray]; omega)) ⟨ho, ho2, ?_⟩
  rw [ea]
  exact ⟨.ref _, _, I.lnew (t' := s.toks) (r.append r2) (by rw [List.length_append]; omega), rfl, q _ I.fresh⟩
end
end L2
namespace Wk
open PySem PySem.Spec L2 Evl
section
variable {K : Fg} {F Kn0 : Hp} {sl sl' : List Sl} {ow ow1 : List Ow} {κ α : Type} [Rp κ] [K1 κ] [DecidableEq κ] [Rp α]
/-- a == b for dicts of whole numbers -/
def eqDG (a b : Dc κ Int) : Bool := decide (a.l.length = b.l.length) && a.l.all fun kv => decide (getD b.l kv.1 = some kv.2)
theorem dh_of {H : Hp} {w2 : List (Key × V)} {bl : List (κ × Int)} (hb : DK K H w2 bl) : ∀ {w1 : List (Key × V)} {al : List (κ × Int)}, DK K H w1 al → DH w2 w1 (al.all fun kv => decide (getD bl kv.1 = some kv.2))
  | [], [], _ => .nil
  | (k, v) :: ws, (x, i) :: al, h => by
    unfold DK at h
    cases h with
    | cons q t =>
      obtain ⟨q1, q2⟩ := q
      have q1 : k = K1.key x := q1
      have q2 : v = .int i := q2
      subst q1 q2
      rw [List.all_cons]
      rcases hb.get x with ⟨z, zv⟩ | ⟨y, u, z1, z2, z3⟩
      · have e : decide (getD bl (x, i).1 = some (x, i).2) = false := by
          rw [show getD bl (x, i).1 = none from z]; simp
        rw [e, Bool.false_and]
        exact .miss zv
      · have z3 : u = .int y := z3
        subst z3
        have e : decide (getD bl (x, i).1 = some (x, i).2) = decide (i = y) := by
          rw [show getD bl (x, i).1 = some y from z1]
          exact decide_eq_decide.mpr ⟨fun h => (Option.some.inj h).symm, fun h => congrArg some h.symm⟩
        rw [e]
        exact .hit z2 (dh_of hb t)
theorem r2_eqDG {a b : Dc κ Int} : R2V K rEqDG a b (eqDG a b) := fun Kn H v w ek h1 h2 Q q => by
  obtain ⟨p1, w1, rfl, a1, a2⟩ := h1
  obtain ⟨p2, w2, rfl, b1, b2⟩ := h2
  refine ⟨p1, p2, w1, w2, _, rfl, rfl, rd_ex ek a1, rd_ex ek b1, dh_of b2 a2, ?_⟩
  rw [a2.length, b2.length]
  exact q.fl (z := eqDG a b) ek
theorem r2_neB {i j : Bool} : R2V K rNe i j (!decide (i = j)) := fun Kn H v w ek h1 h2 Q q => by
  cases h1
  cases h2
  refine ⟨rfl, ?_⟩
  have e : decide (V.bl i = V.bl j) = decide (i = j) := by simp
  rw [e]
  exact q.fl (z := !decide (i = j)) ek
/-- xs + script -/
def catF (xs : List α) (ys : Fz α) : Option (List α) := if xs.length + ys.l.length ≤ 1000000 then some (xs ++ ys.l) else none
theorem r2_catF {xs zs : List α} {ys : Fz α} (h : catF xs ys = some zs) : R2L K (rCatL K) xs ys zs := fun Kn H v w ek h1 h2 Q q => by
  obtain ⟨p1, w1, rfl, a1, a2⟩ := h1
  obtain ⟨p2, w2, rfl, b1, b2⟩ := h2
  unfold catF at h
  split at h
  case isFalse => cases h
  rename_i hc
  cases h
  have hs0 : (1000000 : Nat) ≤ sizeLine := by decide
  refine ⟨p1, p2, w1, w2, rfl, rfl, SqL.of (ek _ _ a1), ex_l ek b1, ?_, fun p hp => ?_⟩
  · rw [Paired.length a2, Paired.length b2]; omega
  · exact q p _ Kn _ (Gr.newU ek hp) hp (fresh_back ek hp) upd_same (paired_append a2 b2)
end
section
variable {X : Cx} {K : Fg}
theorem k_eqDG (hu : X.A.units + 64 < cLine) : OpR X (compareOp .Eq) rEqDG := op_eqDG hu
theorem k_catL (h : X.K = K := by rfl) : OpR X (binaryOp .Add) (rCatL K) := h ▸ op_catL
end
end Wk
set_option maxHeartbeats 4000000
/-! Weq: == and != of any data: numbers, truths, texts, None, lists, tuples, dicts, one within another -/
namespace PySem.SeqAt
open AutoSeq1 (wpAny_loadPart')
open MeetsSeq MeetsSeq2 MeetsSeq3 SeqRoads2
section
variable {prog : Program} {w : World}
theorem wk_neG_loop (l b : Addr) (items items2 : Array Value) (n n2 : Nat) (dd dd2 : Option Addr) (sl sl2 : Array (Option Value)) (hsz : items.size = items2.size) (e : Nat → Bool) (k : Nat) :
    ∀ i : Nat, items.size - i = k → MeetsIn prog w (Builtin.«list.__eq__.loop» ⟨[.ref l, .ref b, rawInt i, rawInt 3], []⟩)
      (fun A R s => s.heap.get? l = some { cls := .type "list", dict := dd, data := .seq items n, slots := sl } ∧ s.heap.get? b = some { cls := .type "list", dict := dd2, data := .seq items2 n2, slots := sl2 } ∧
        (∀ j (h1 : j < items.size) (h2 : j < items2.size), EqIn prog w A.in1 s items[j] items2[j] (e j)) ∧
        R (.ok (.ret (.bool (!((List.range items.size).drop i).all e)))) s) := by
  induction k with
  | zero =>
    intro i hk A R s h
    obtain ⟨hp, g, d, tk, os⟩ := s; obtain ⟨hl, hb, he, h⟩ := h
    wp_walk using wpAny_loadPart' hl, wpAny_loadPart' hb
    have q1 : items[((i : Nat) : Int).toNat]? = none := by simp; omega
    have q2 : items2[((i : Nat) : Int).toNat]? = none := by simp; omega
    rw [show (List.range items.size).drop i = [] by simp; omega] at h
    rw [q1, q2]
    wp_walk using wpAny_loadPart' hl, wpAny_loadPart' hb
    show R (.ok (.ret (.bool (items.size != items2.size)))) _
    rw [hsz]
    simpa using h
  | succ k ih =>
    intro i hk A R s h
    obtain ⟨hp, g, d, tk, os⟩ := s; obtain ⟨hl, hb, he, h⟩ := h
    wp_walk using wpAny_loadPart' hl, wpAny_loadPart' hb
    have t1 : i < items.size := by omega
    have t2 : i < items2.size := by omega
    have q1 : items[((i : Nat) : Int).toNat]? = some items[i] := by simp [t1]
    have q2 : items2[((i : Nat) : Int).toNat]? = some items2[i] := by simp [t2]
    rw [show (List.range items.size).drop i = i :: (List.range items.size).drop (i + 1) by simp [List.drop_eq_getElem_cons, t1], List.all_cons] at h
    rw [q1, q2]
    refine wpAny_bind (he i t1 t2 _ _ ?_)
    cases ei : e i with
    | true =>
      rw [ei] at h
      wp_walk
      rw [show ((i : Int) + 1) = ((i + 1 : Nat) : Int) by push_cast; rfl]
      refine ⟨plainId_quiet plain_eq_loop _, codeAny_builtin entry_eq_loop ?_⟩
      rw [Around.under_plainId plain_eq_loop _]
      exact ih (i + 1) (by omega) A R _ ⟨hl, hb, he, by simpa using h⟩
    | false =>
      rw [ei] at h
      wp_walk using wpAny_loadPart' hl, wpAny_loadPart' hb
      rw [q1, q2]
      wp_walk
      simpa using h
theorem wk_list_neG (l b : Addr) (items items2 : Array Value) (n n2 : Nat) (dd dd2 : Option Addr) (sl sl2 : Array (Option Value)) (hsz : items.size = items2.size) (e : Nat → Bool) :
    MeetsIn prog w (Builtin.«list.__ne__» ⟨[.ref l, .ref b], []⟩)
      (fun A R s => s.heap.get? l = some { cls := .type "list", dict := dd, data := .seq items n, slots := sl } ∧ s.heap.get? b = some { cls := .type "list", dict := dd2, data := .seq items2 n2, slots := sl2 } ∧
        (∀ j (h1 : j < items.size) (h2 : j < items2.size), EqIn prog w A.in1 s items[j] items2[j] (e j)) ∧
        R (.ok (.ret (.bool (!(List.range items.size).all e)))) s) := by
  intro A R s h
  obtain ⟨hp, g, d, tk, os⟩ := s; obtain ⟨hl, hb, he, h⟩ := h
  have sub := AutoSeq1.sub_list_list
  have hne : ¬ (items.size != items2.size) = true := by simp [hsz]
  wp_walk using wpAny_loadPart' hl, wpAny_loadPart' hb
  refine ⟨plainId_quiet plain_eq_loop _, codeAny_builtin entry_eq_loop ?_⟩
  rw [Around.under_plainId plain_eq_loop _]
  exact wk_neG_loop l b items items2 n n2 dd dd2 sl sl2 hsz e _ 0 rfl A R _ ⟨hl, hb, he, by simpa using h⟩
theorem wk_neG_lists {A : Around} {s : Shared} {l b : Addr} {items items2 : Array Value} {e : Nat → Bool} (hl : s.heap.IsList l items) (hb : s.heap.IsList b items2) (hsz : items.size = items2.size) (hu : A.units < cLine)
    (he : ∀ j (h1 : j < items.size) (h2 : j < items2.size), EqIn prog w A.in1 s items[j] items2[j] (e j)) (E Q : Value → Shared → Prop) (h : Q (.bool (!(List.range items.size).all e)) s) : wpAny (model prog w) A (richCompare .NotEq (.ref l) (.ref b)) Q E s := by
  obtain ⟨⟨cls, dd, data, sl⟩, ho, hc, n, hd⟩ := id hl
  obtain ⟨⟨cls2, dd2, data2, sl2⟩, ho2, hc2, n2, hd2⟩ := id hb
  simp only at hc hd hc2 hd2
  subst hc hd hc2 hd2
  have ta : s.TypeIs (.ref l) "list" := ⟨_, ho, rfl⟩
  have tb : s.TypeIs (.ref b) "list" := ⟨_, ho2, rfl⟩
  exact wpAny_richCompare_same_room (op := .NotEq) ta tb F.slot_list_ne (call_meetsIn F.slot_list_ne ta F.entry_list_ne (F.args_list_ne_2 _ _) (wk_list_neG l b items items2 n n2 dd dd2 sl sl2 hsz e)
    ⟨ho, ho2, he, show Value.bool _ ≠ Value.notImplemented ∧ Q (.bool _) s from ⟨(fun x => nomatch x), h⟩⟩) hu
theorem wk_tuple_neG (l b : Addr) (items items2 : Array Value) (n n2 : Nat) (dd dd2 : Option Addr) (sl sl2 : Array (Option Value)) (e : Nat → Bool) :
    MeetsIn prog w (Builtin.«tuple.__ne__» ⟨[.ref l, .ref b], []⟩)
      (fun A R s => s.heap.get? l = some { cls := .type "tuple", dict := dd, data := .seq items n, slots := sl } ∧ s.heap.get? b = some { cls := .type "tuple", dict := dd2, data := .seq items2 n2, slots := sl2 } ∧
        (∀ j (h1 : j < items.size) (h2 : j < items2.size), EqIn prog w A.in1 s items[j] items2[j] (e j)) ∧
        R (.ok (.ret (.bool (!((List.range (min items.size items2.size)).all e && items.size == items2.size))))) s) :=
  .of_wp fun A R s h => by
    obtain ⟨hp, g, d, tk, os⟩ := s; obtain ⟨hl, hb, he, h⟩ := h
    have sub := AutoSeq1.sub_tuple_tuple
    have zl : (items.toList.zip items2.toList).length = min items.size items2.size := by simp
    wp_walk using wpAny_loadPart' hl, wpAny_loadPart' hb, wpAny_forIn_list _ (fun rest b s' => b.1 = none ∧ s' = ⟨hp, g, d, tk, os⟩ ∧ ∃ i, rest = (items.toList.zip items2.toList).drop i ∧
      R (.ok (.ret (.bool (!(((List.range (min items.size items2.size)).drop i).all e && items.size == items2.size))))) ⟨hp, g, d, tk, os⟩) _
    case turn =>
      rintro ⟨y, x⟩ rest b s' ⟨hb', rfl, i, hz, hR⟩
      have hlt : i < (items.toList.zip items2.toList).length := Nat.lt_of_not_le fun h' => by
        rw [List.drop_of_length_le h'] at hz
        cases hz
      have hm : i < min items.size items2.size := zl ▸ hlt
      have h1 : i < items.size := Nat.lt_of_lt_of_le hm (Nat.min_le_left _ _)
      have h2 : i < items2.size := Nat.lt_of_lt_of_le hm (Nat.min_le_right _ _)
      rw [List.drop_eq_getElem_cons hlt] at hz
      injection hz with hyx hrest
      obtain rfl : y = items[i] := by simpa using congrArg Prod.fst hyx
      obtain rfl : x = items2[i] := by simpa using congrArg Prod.snd hyx
      rw [show (List.range (min items.size items2.size)).drop i = i :: (List.range (min items.size items2.size)).drop (i + 1) by simp [List.drop_eq_getElem_cons, hm], List.all_cons] at hR
      refine wpAny_bind (he i h1 h2 _ _ ?_)
      cases ei : e i with
      | true =>
        rw [ei] at hR
        wp_walk
        exact ⟨rfl, rfl, i + 1, hrest, by simpa using hR⟩
      | false =>
        rw [ei] at hR
        wp_walk
        exact ⟨_, rfl, by simpa using hR⟩
    case fin =>
      rintro ⟨b1, b2⟩ s' ⟨hb', rfl, i, hz, hR⟩
      simp only at hb'
      subst hb'
      have hge : min items.size items2.size ≤ i := Nat.le_of_not_lt fun h' => by
        rw [List.drop_eq_getElem_cons (zl ▸ h')] at hz
        cases hz
      rw [List.drop_of_length_le (by simpa using hge)] at hR
      wp_walk
      exact ⟨_, rfl, by simpa [Builtin.Tuple.tupleCompareSizes, bne] using hR⟩
    case h => exact ⟨rfl, rfl, 0, rfl, by simpa using h⟩
theorem wk_neG_tuples {A : Around} {s : Shared} {l b : Addr} {items items2 : Array Value} {e : Nat → Bool} (hl : s.heap.IsTuple l items) (hb : s.heap.IsTuple b items2) (hu : A.units < cLine)
    (he : ∀ j (h1 : j < items.size) (h2 : j < items2.size), EqIn prog w A.in1 s items[j] items2[j] (e j)) (E Q : Value → Shared → Prop) (h : Q (.bool (!((List.range (min items.size items2.size)).all e && items.size == items2.size))) s) :
    wpAny (model prog w) A (richCompare .NotEq (.ref l) (.ref b)) Q E s := by
  obtain ⟨⟨cls, dd, data, sl⟩, ho, hc, n, hd⟩ := id hl
  obtain ⟨⟨cls2, dd2, data2, sl2⟩, ho2, hc2, n2, hd2⟩ := id hb
  simp only at hc hd hc2 hd2
  subst hc hd hc2 hd2
  have ta : s.TypeIs (.ref l) "tuple" := ⟨_, ho, rfl⟩
  have tb : s.TypeIs (.ref b) "tuple" := ⟨_, ho2, rfl⟩
  exact wpAny_richCompare_same_room (op := .NotEq) ta tb F.slot_tuple_ne (call_meetsIn F.slot_tuple_ne ta F.entry_tuple_ne (F.args_tuple_ne_2 _ _) (wk_tuple_neG l b items items2 n n2 dd dd2 sl sl2 e)
    ⟨ho, ho2, he, show Value.bool _ ≠ Value.notImplemented ∧ Q (.bool _) s from ⟨(fun x => nomatch x), h⟩⟩) hu
end
end PySem.SeqAt
namespace PySem.W
open PySem PySem.Calls PyProof.Rows PySem.Spec
open PySem.SeqAt (EqIn)
theorem wk_neG_dicts {prog : Program} {w : World} {K : Type} [DecidableEq K] {knd : KeyKind prog w K} {A : Around} {s : Shared} {a b : Addr} {ka kb : List (K × Value)} {r : Bool} (ha : (a == sysModules) = false) (hb : (b == sysModules) = false)
    (da : s.heap.DictOf knd a ka) (db : s.heap.DictOf knd b kb) (hu : A.units < cLine) (hits : ka.length = kb.length → KeqHitsIn prog w A.in1 s kb ka r) (E Q : Value → Shared → Prop) (h : Q (.bool (!(ka.length == kb.length && r))) s) :
    wpAny (model prog w) A (richCompare .NotEq (.ref a) (.ref b)) Q E s := by
  refine wpAny_richCompare_same_room (op := .NotEq) da.typeIs db.typeIs PySem.F.slot_dict_ne (wpAny_call_entry PySem.F.slot_dict_ne da.typeIs PySem.F.entry_dict_ne ?_ (PySem.F.args_dict_ne_2 _ _)) hu
  show wpAny _ _ (Builtin.Dict.dictSlotArgs "__ne__" ⟨[.ref a, .ref b], []⟩ >>= _) _ _ s
  unfold Builtin.Dict.dictSlotArgs
  refine wpAny_bind (wpAny_bind (wpAny_notOrdered_dict da.typeIs ?_))
  show wpAny _ _ (pure (Value.ref a, Value.ref b)) _ _ s
  refine wpAny_pure (wpAny_bind (wpAny_isInstance (T := "dict") db.typeIs PySem.F.sub_dict_dict ?_))
  simp only [Bool.not_true, Bool.false_eq_true, if_false]
  refine wpAny_bind (wpAny_pure (wpAny_bind (wpAny_pure (wpAny_bind (keq_samePairsIn ha hb da db hits (wpAny_pure ⟨_, rfl, (fun x => nomatch x), ?_⟩))))))
  simpa using h
theorem EqTree.mono {prog : Program} {w : World} {s : Shared} {n : Nat} {v y : Value} {b : Bool} (t : EqTree prog w s n v y b) : ∀ {m : Nat}, n ≤ m → EqTree prog w s m v y b := by
  induction t with
  | leaf h => exact fun hm => .leaf fun A hu => h A (by omega)
  | same => exact fun _ => .same
  | lists hne hl hl' hsz _ ih =>
    intro m hm
    obtain ⟨k, rfl⟩ : ∃ k, m = k + 1 := ⟨m - 1, by omega⟩
    exact .lists hne hl hl' hsz fun j h1 h2 => ih j h1 h2 (by omega)
  | listsLen hne hl hl' hsz =>
    intro m hm
    obtain ⟨k, rfl⟩ : ∃ k, m = k + 1 := ⟨m - 1, by omega⟩
    exact .listsLen hne hl hl' hsz
  | tuples hne hl hl' _ ih =>
    intro m hm
    obtain ⟨k, rfl⟩ : ∃ k, m = k + 1 := ⟨m - 1, by omega⟩
    exact .tuples hne hl hl' fun j h1 h2 => ih j h1 h2 (by omega)
  | dicts hne ha hb da db _ ih =>
    intro m hm
    obtain ⟨k, rfl⟩ : ∃ k, m = k + 1 := ⟨m - 1, by omega⟩
    exact .dicts hne ha hb da db fun k v y hm hv => ih k v y hm hv (by omega)
end PySem.W
namespace L2
open PySem PySem.Spec PyProof.Rows PySem.W
/-- x == y, x != y answer so, as operations -/
def TopB (K : PySem.W.Frag) (H : Hp) (op : CmpOp) (x y : V) (b : Bool) : Prop := ∀ {X : Cx} {pins σ s}, X.K = K → X.A.units + 64 < cLine → Inv X pins σ H s → ∀ {v u : Value}, RelV x v → RelV y u → ∀ E Q : Value → Shared → Prop, Q (.bool b) s → wpAny (model X.prog X.w) X.A (compareOp op v u) Q E s
def rTop (K : PySem.W.Frag) (op : CmpOp) : R2 := fun x y H Q => ∃ b, TopB K H op x y b ∧ Q (.bl b) H
theorem op_top {X : Cx} {op : CmpOp} (hu : X.A.units + 64 < cLine) : OpR X (compareOp op) (rTop X.K op) := by
  intro pins s σ H x y v u Q I rx ry h
  obtain ⟨b, hb, q⟩ := h
  exact hb rfl hu I rx ry _ _ ⟨.bl b, H, I, rfl, q⟩
end L2
namespace Wk
open PySem PySem.Spec L2 Evl PySem.W
/-- data whose equality is told -/
class Qe (α : Type) [Rp α] where
  dq : Nat
  qe : α → α → Bool
  rf : ∀ {X : Cx} {pins : List (Addr × Obj)} {σ : L2.St} {H : Hp} {s : Shared}, Inv X pins σ H s → ∀ {Kn : Hp} {x : V} {a b : α}, Ex Kn H → rep X.K Kn x a → rep X.K Kn x b → qe a b = true
  is : ∀ {X : Cx} {pins : List (Addr × Obj)} {σ : L2.St} {H : Hp} {s : Shared}, Inv X pins σ H s → ∀ {Kn : Hp} {x y : V} {a b : α}, Ex Kn H → rep X.K Kn x a → rep X.K Kn y b → ∀ {v u : Value}, RelV x v → RelV y u → EqTree X.prog X.w s dq v u (qe a b)
/-- None beside it -/
class Qn (α : Type) [Rp α] where
  no : ∀ {X : Cx} {pins : List (Addr × Obj)} {σ : L2.St} {H : Hp} {s : Shared}, Inv X pins σ H s → ∀ {Kn : Hp} {x : V} {a : α}, Ex Kn H → rep X.K Kn x a → ∀ {v : Value}, RelV x v → EqTree X.prog X.w s 1 v .none false ∧ EqTree X.prog X.w s 1 .none v false
instance : Qe Int where
  dq := 0
  qe a b := decide (a = b)
  rf _ _ _ _ _ _ h1 h2 := by cases h1; cases h2; exact decide_eq_true rfl
  is _ _ _ _ a b _ h1 h2 _ _ r1 r2 := by
    cases h1
    cases h2
    obtain ⟨t1, rfl⟩ := r1
    obtain ⟨t2, rfl⟩ := r2
    exact .leaf fun A _ => SeqAt.EqAt.int_int a t1 b t2
instance : Qn Int where
  no _ _ _ a _ h _ r := by
    cases h
    obtain ⟨t, rfl⟩ := r
    exact ⟨.leaf fun A _ => SeqAt.EqAt.int_none a t, .leaf fun A _ => SeqAt.EqAt.none_int a t⟩
instance : Qe Bool where
  dq := 0
  qe a b := decide (a = b)
  rf _ _ _ _ _ _ h1 h2 := by cases h1; cases h2; exact decide_eq_true rfl
  is _ _ _ _ a b _ h1 h2 _ _ r1 r2 := by
    cases h1
    cases h2
    cases r1
    cases r2
    have e : decide (a = b) = (a == b) := by cases a <;> cases b <;> rfl
    rw [e]
    exact .leaf fun A _ => SeqAt.EqAt.bool_bool a b
instance : Qe Str where
  dq := 0
  qe a b := decide (a = b)
  rf _ _ _ _ _ _ h1 h2 := by cases h1; cases h2; exact decide_eq_true rfl
  is _ _ _ _ a b _ h1 h2 _ _ r1 r2 := by
    cases h1
    cases h2
    obtain ⟨t1, rfl⟩ := r1
    obtain ⟨t2, rfl⟩ := r2
    have e : decide (a = b) = (a == b) := by
      by_cases z : a = b
      · subst z; simp
      · simp [z]
    rw [e]
    exact .leaf fun A _ => SeqAt.EqAt.str_str a t1 b t2
instance : Qe Nn where
  dq := 0
  qe _ _ := true
  rf _ _ _ _ _ _ _ _ := rfl
  is _ _ _ _ _ _ _ h1 h2 _ _ r1 r2 := by
    cases h1
    cases h2
    cases r1
    cases r2
    exact .same
instance {α : Type} [Rp α] [Qe α] [Qn α] : Qe (Option α) where
  dq := Qe.dq α + 1
  qe a b := match a, b with
    | none, none => true
    | some x, some y => Qe.qe x y
    | _, _ => false
  rf {X _ _ _ _} I _ _ a b ek h1 h2 := by
    cases a with
    | none =>
      cases b with
      | none => rfl
      | some y => exact absurd h1 h2.1
    | some x =>
      cases b with
      | none => exact absurd h2 h1.1
      | some y => exact Qe.rf I ek h1.2 h2.2
  is {X _ _ _ _} I _ _ _ a b ek h1 h2 _ _ r1 r2 := by
    cases a with
    | none =>
      cases h1
      cases r1
      cases b with
      | none =>
        cases h2
        cases r2
        exact .same
      | some y => exact (Qn.no I ek h2.2 r2).2.mono (by omega)
    | some x =>
      cases b with
      | none =>
        cases h2
        cases r2
        exact (Qn.no I ek h1.2 r1).1.mono (by omega)
      | some y => exact (Qe.is I ek h1.2 h2.2 r1 r2).mono (by omega)
/-- one by one -/
inductive EqAll (prog : Program) (w : World) (s : Shared) (n : Nat) : List Value → List Value → Bool → Prop
  | nil : EqAll prog w s n [] [] true
  | cons {v u : Value} {vs us : List Value} {b c : Bool} : EqTree prog w s n v u b → EqAll prog w s n vs us c → EqAll prog w s n (v :: vs) (u :: us) (b && c)
theorem range_all (e : Nat → Bool) (n : Nat) : (List.range (n + 1)).all e = (e 0 && (List.range n).all fun j => e (j + 1)) := by
  rw [List.range_succ_eq_map, List.all_cons, List.all_map]
  rfl
theorem EqAll.go {prog : Program} {w : World} {s : Shared} {n : Nat} {vs us : List Value} {b : Bool} (h : EqAll prog w s n vs us b) : vs.length = us.length ∧ ∃ e : Nat → Bool, (∀ j (h1 : j < vs.toArray.size) (h2 : j < us.toArray.size), EqTree prog w s n vs.toArray[j] us.toArray[j] (e j)) ∧ (List.range vs.length).all e = b := by
  induction h with
  | nil => exact ⟨rfl, fun _ => true, fun j h1 _ => absurd h1 (Nat.not_lt_zero _), rfl⟩
  | @cons v u vs us b c h t ih =>
    obtain ⟨hl, e, h1, h2⟩ := ih
    refine ⟨by rw [List.length_cons, List.length_cons, hl], fun j => match j with | 0 => b | j + 1 => e j, fun j j1 j2 => ?_, ?_⟩
    · cases j with
      | zero => exact h
      | succ j => exact h1 j (by simpa using j1) (by simpa using j2)
    · rw [List.length_cons, range_all, ← h2]
def qeL {α : Type} [Rp α] [Qe α] : List α → List α → Bool
  | [], [] => true
  | x :: xs, y :: ys => Qe.qe x y && qeL xs ys
  | _, _ => false
theorem qeL_len {α : Type} [Rp α] [Qe α] : ∀ {xs ys : List α}, xs.length ≠ ys.length → qeL xs ys = false
  | [], [], h => absurd rfl h
  | [], _ :: _, _ => rfl
  | _ :: _, [], _ => rfl
  | x :: xs, y :: ys, h => by
    show (Qe.qe x y && qeL xs ys) = false
    rw [qeL_len (fun z => h (by rw [List.length_cons, List.length_cons, z])), Bool.and_false]
section
variable {X : Cx} {pins : List (Addr × Obj)} {σ : L2.St} {H Kn : Hp} {s : Shared} {α : Type} [Rp α] [Qe α]
theorem rfL (I : Inv X pins σ H s) (ek : Ex Kn H) : ∀ {vs : List V} {xs ys : List α}, Paired (rep X.K Kn) vs xs → Paired (rep X.K Kn) vs ys → qeL xs ys = true
  | _, _, _, .nil, .nil => rfl
  | _, _, _, .cons h1 t1, .cons h2 t2 => by
    show (Qe.qe _ _ && qeL _ _) = true
    rw [Qe.rf I ek h1 h2, rfL I ek t1 t2]
    rfl
theorem eqAllL (I : Inv X pins σ H s) (ek : Ex Kn H) : ∀ {vs ws : List V} {xs ys : List α} {us zs : List Value}, xs.length = ys.length → Paired (rep X.K Kn) vs xs → Paired (rep X.K Kn) ws ys → Vals vs us → Vals ws zs → EqAll X.prog X.w s (Qe.dq α) us zs (qeL xs ys)
  | _, _, _, _, _, _, _, .nil, .nil, .nil, .nil => .nil
  | _, _, _, _, _, _, hl, .cons h1 t1, .cons h2 t2, .cons r1 q1, .cons r2 q2 => .cons (Qe.is I ek h1 h2 r1 r2) (eqAllL I ek (Nat.succ.inj hl) t1 t2 q1 q2)
  | _, _, _, _, _, _, hl, .nil, .cons _ _, _, _ => by cases hl
  | _, _, _, _, _, _, hl, .cons _ _, .nil, _, _ => by cases hl
theorem list_tree (I : Inv X pins σ H s) (ek : Ex Kn H) {p q : Addr} {vs ws : List V} {xs ys : List α} (hp : Kn p = some (.lst vs)) (hq : Kn q = some (.lst ws)) (h1 : Paired (rep X.K Kn) vs xs) (h2 : Paired (rep X.K Kn) ws ys) : EqTree X.prog X.w s (Qe.dq α + 1) (.ref p) (.ref q) (qeL xs ys) := by
  by_cases hpq : p = q
  · subst hpq
    rw [hp] at hq
    cases hq
    rw [rfL I ek h1 h2]
    exact .same
  · obtain ⟨us, r1, p1, _⟩ := I.list (sq_of (ek _ _ hp))
    obtain ⟨zs, r2, p2, _⟩ := I.list (sq_of (ek _ _ hq))
    have l1 := Paired.length h1
    have l2 := Paired.length h2
    have m1 := r1.length
    have m2 := r2.length
    by_cases hl : xs.length = ys.length
    · obtain ⟨_, e, he, hb⟩ := (eqAllL I ek hl h1 h2 r1 r2).go
      have t := EqTree.lists hpq p1.isList p2.isList (by rw [List.size_toArray, List.size_toArray]; omega) he
      rw [List.size_toArray, hb] at t
      exact t
    · rw [qeL_len hl]
      exact .listsLen hpq p1.isList p2.isList (by rw [List.size_toArray, List.size_toArray]; simp; omega)
end
instance {α : Type} [Rp α] [Qe α] : Qe (List α) where
  dq := Qe.dq α + 1
  qe := qeL
  rf I _ _ _ _ ek h1 h2 := by
    obtain ⟨p, vs, rfl, a1, a2⟩ := h1
    obtain ⟨q, ws, e, b1, b2⟩ := h2
    cases e
    rw [a1] at b1
    cases b1
    exact rfL I ek a2 b2
  is I _ _ _ _ _ ek h1 h2 _ _ r1 r2 := by
    obtain ⟨p, vs, rfl, a1, a2⟩ := h1
    obtain ⟨q, ws, rfl, b1, b2⟩ := h2
    cases r1
    cases r2
    exact list_tree I ek a1 b1 a2 b2
instance {α : Type} [Rp α] : Qn (List α) where
  no I _ _ _ ek h _ r := by
    obtain ⟨p, vs, rfl, a1, a2⟩ := h
    cases r
    obtain ⟨us, r1, p1, _⟩ := I.list (sq_of (ek _ _ a1))
    exact ⟨.leaf fun A hu => SeqAt.EqAt.list_none p1.isList (by omega), .leaf fun A hu => SeqAt.EqAt.none_list p1.isList (by omega)⟩
/-- the places of a tuple -/
class Qs (τ : Type) [Tp τ] where
  dq : Nat
  qe : τ → τ → Bool
  rf : ∀ {X : Cx} {pins : List (Addr × Obj)} {σ : L2.St} {H : Hp} {s : Shared}, Inv X pins σ H s → ∀ {Kn : Hp} {vs : List V} {a b : τ}, Ex Kn H → rept X.K Kn vs a → rept X.K Kn vs b → qe a b = true
  is : ∀ {X : Cx} {pins : List (Addr × Obj)} {σ : L2.St} {H : Hp} {s : Shared}, Inv X pins σ H s → ∀ {Kn : Hp} {vs ws : List V} {a b : τ}, Ex Kn H → rept X.K Kn vs a → rept X.K Kn ws b → ∀ {us zs : List Value}, Vals vs us → Vals ws zs → EqAll X.prog X.w s dq us zs (qe a b)
theorem EqAll.mono {prog : Program} {w : World} {s : Shared} {n m : Nat} (hm : n ≤ m) {vs us : List Value} {b : Bool} (h : EqAll prog w s n vs us b) : EqAll prog w s m vs us b := by
  induction h with
  | nil => exact .nil
  | cons h _ ih => exact .cons (h.mono hm) ih
instance : Qs Unit where
  dq := 0
  qe _ _ := true
  rf _ _ _ _ _ _ _ _ := rfl
  is _ _ _ _ _ _ _ h1 h2 _ _ r1 r2 := by
    cases h1
    cases h2
    cases r1
    cases r2
    exact .nil
instance {α τ : Type} [Rp α] [Tp τ] [Qe α] [Qs τ] : Qs (α × τ) where
  dq := max (Qe.dq α) (Qs.dq τ)
  qe a b := Qe.qe a.1 b.1 && Qs.qe a.2 b.2
  rf I _ _ _ _ ek h1 h2 := by
    obtain ⟨v, r, rfl, a1, a2⟩ := h1
    obtain ⟨w, r2, e, b1, b2⟩ := h2
    cases e
    rw [Qe.rf I ek a1 b1, Qs.rf I ek a2 b2]
    rfl
  is I _ _ _ _ _ ek h1 h2 _ _ r1 r2 := by
    obtain ⟨v, r, rfl, a1, a2⟩ := h1
    obtain ⟨w, r2, rfl, b1, b2⟩ := h2
    cases r1 with
    | cons c1 d1 =>
      cases r2 with
      | cons c2 d2 => exact .cons ((Qe.is I ek a1 b1 c1 c2).mono (Nat.le_max_left _ _)) ((Qs.is I ek a2 b2 d1 d2).mono (Nat.le_max_right _ _))
section
variable {X : Cx} {pins : List (Addr × Obj)} {σ : L2.St} {H Kn : Hp} {s : Shared} {τ : Type} [Tp τ] [Qs τ]
theorem tup_tree (I : Inv X pins σ H s) (ek : Ex Kn H) {p q : Addr} {vs ws : List V} {a b : τ} (hp : Kn p = some (.tup vs)) (hq : Kn q = some (.tup ws)) (h1 : rept X.K Kn vs a) (h2 : rept X.K Kn ws b) : EqTree X.prog X.w s (Qs.dq τ + 1) (.ref p) (.ref q) (Qs.qe a b) := by
  by_cases hpq : p = q
  · subst hpq
    rw [hp] at hq
    cases hq
    rw [Qs.rf I ek h1 h2]
    exact .same
  · obtain ⟨us, r1, p1, _⟩ := I.tuple (st_of (ek _ _ hp))
    obtain ⟨zs, r2, p2, _⟩ := I.tuple (st_of (ek _ _ hq))
    obtain ⟨hl, e, he, hb⟩ := (Qs.is I ek h1 h2 r1 r2).go
    have t := EqTree.tuples hpq p1 p2 he
    rw [List.size_toArray, List.size_toArray, ← hl, Nat.min_self, hb] at t
    simpa using t
end
instance {α τ : Type} [Rp α] [Tp τ] [Qe α] [Qs τ] : Qe (α × τ) where
  dq := Qs.dq (α × τ) + 1
  qe a b := Qs.qe a b
  rf I _ _ _ _ ek h1 h2 := by
    obtain ⟨p, vs, rfl, a1, a2⟩ := h1
    obtain ⟨q, ws, e, b1, b2⟩ := h2
    cases e
    rw [a1] at b1
    cases b1
    exact Qs.rf I ek a2 b2
  is I _ _ _ _ _ ek h1 h2 _ _ r1 r2 := by
    obtain ⟨p, vs, rfl, a1, a2⟩ := h1
    obtain ⟨q, ws, rfl, b1, b2⟩ := h2
    cases r1
    cases r2
    exact tup_tree I ek a1 b1 a2 b2
instance {α τ : Type} [Rp α] [Tp τ] : Qn (α × τ) where
  no I _ _ _ ek h _ r := by
    obtain ⟨p, vs, rfl, a1, a2⟩ := h
    cases r
    obtain ⟨us, r1, p1, _⟩ := I.tuple (st_of (ek _ _ a1))
    exact ⟨.leaf fun A hu => SeqAt.EqAt.tuple_none p1 (by omega), .leaf fun A hu => SeqAt.EqAt.none_tuple p1 (by omega)⟩
/-! ### dicts -/
section
variable {κ β : Type} [Rp κ] [K1 κ] [DecidableEq κ] [Rp β]
def getK (l : List (κ × β)) (k : Key) : Option β := (l.find? fun kv => decide ((Ky.key kv.1 : Key) = k)).map (·.2)
theorem getK_key (l : List (κ × β)) (x : κ) : getK l (Ky.key x) = getD l x := by
  unfold getK getD
  congr 2
  funext kv
  exact decide_eq_decide.mpr ⟨fun h => Ky.inj h, fun h => by rw [h]⟩
theorem DK.getK {K : Fg} {H : Hp} {ws : List (Key × V)} {kvs : List (κ × β)} (k : Key) (h : DK K H ws kvs) : (Wk.getK kvs k = none ∧ valV ws k = none) ∨ ∃ y v, Wk.getK kvs k = Option.some y ∧ valV ws k = Option.some v ∧ rep K H v y := by
  unfold DK at h
  induction h with
  | nil => exact .inl ⟨rfl, rfl⟩
  | @cons w kv ws kvs h t ih =>
    unfold Wk.getK valV
    by_cases e : (Ky.key kv.1 : Key) = k
    · have e2 : w.1 = k := h.1.trans e
      rw [List.find?_cons_of_pos (by simpa using e), List.find?_cons_of_pos (by simpa using e2)]
      exact .inr ⟨_, _, rfl, rfl, h.2⟩
    · have e2 : ¬ w.1 = k := fun z => e (h.1.symm.trans z)
      rw [List.find?_cons_of_neg (by simpa using e), List.find?_cons_of_neg (by simpa using e2)]
      exact ih
theorem DK.keys {K : Fg} {H : Hp} {ws : List (Key × V)} {kvs : List (κ × β)} (h : DK K H ws kvs) : kvs.map (fun kv => (Ky.key kv.1 : Key)) = ws.map (·.1) := by
  unfold DK at h
  induction h with
  | nil => rfl
  | cons h _ ih =>
    rw [List.map_cons, List.map_cons, ih]
    exact congrArg (· :: _) h.1.symm
theorem getK_mem {l : List (κ × β)} (nd : (l.map fun kv => (Ky.key kv.1 : Key)).Nodup) : ∀ {kv : κ × β}, kv ∈ l → getK l (Ky.key kv.1) = some kv.2 := by
  induction l with
  | nil => exact fun h => nomatch h
  | cons p l ih =>
    intro kv h
    rw [List.map_cons, List.nodup_cons] at nd
    unfold getK
    rcases List.mem_cons.mp h with rfl | h
    · rw [List.find?_cons_of_pos (by simp)]
      rfl
    · have ne : ¬ (Ky.key p.1 : Key) = Ky.key kv.1 := fun z => nd.1 (z ▸ List.mem_map.mpr ⟨kv, h, rfl⟩)
      rw [List.find?_cons_of_neg (by simpa using ne)]
      exact ih nd.2 h
/-- two values of a pair's place -/
theorem DK.at {K : Fg} {H : Hp} {ws : List (Key × V)} {kvs : List (κ × β)} (h : DK K H ws kvs) : ∀ {w : Key × V}, w ∈ ws → ∃ kv ∈ kvs, w.1 = Ky.key kv.1 ∧ rep K H w.2 kv.2 := by
  unfold DK at h
  induction h with
  | nil => exact fun h => nomatch h
  | @cons w0 kv0 ws kvs h t ih =>
    intro w hw
    rcases List.mem_cons.mp hw with rfl | hw
    · exact ⟨kv0, List.mem_cons_self, h.1, h.2⟩
    · obtain ⟨kv, h1, h2⟩ := ih hw
      exact ⟨kv, List.mem_cons_of_mem _ h1, h2⟩
def qeD [Qe β] (a b : Dc κ β) : Bool := decide (a.l.length = b.l.length) && a.l.all fun kv => match getD b.l kv.1 with
  | some y => Qe.qe kv.2 y
  | none => false
theorem kv_mem {ws : List (Key × V)} {vs : List (Key × Value)} (h : KV ws vs) {k : Key} {v : Value} (hm : (k, v) ∈ vs) : ∃ x, (k, x) ∈ ws ∧ RelV x v := by
  unfold KV at h
  induction h with
  | nil => cases hm
  | @cons p q ws vs h t ih =>
    rcases List.mem_cons.mp hm with e | hm
    · obtain ⟨h1, h2⟩ := h
      obtain ⟨k', x⟩ := p
      subst e
      have h1 : k' = k := h1
      subst h1
      exact ⟨x, List.mem_cons_self, h2⟩
    · obtain ⟨x, h1, h2⟩ := ih hm
      exact ⟨x, List.mem_cons_of_mem _ h1, h2⟩
theorem rd_one {H : Hp} {p : Addr} {w1 w2 : List (Key × V)} (h1 : Rd H p (.dK w1)) (h2 : Rd H p (.dK w2)) : w1 = w2 := by
  rcases h1 with h1 | ⟨o1, h1⟩ <;> rcases h2 with h2 | ⟨o2, h2⟩
  · rw [h1] at h2; cases h2; rfl
  · rw [h1] at h2; cases h2
  · rw [h1] at h2; cases h2
  · rw [h1] at h2; cases h2; rfl
end
section
variable {κ β : Type} [Rp κ] [K1 κ] [DecidableEq κ] [Rp β] [Qe β] {X : Cx} {pins : List (Addr × Obj)} {σ : L2.St} {H Kn : Hp} {s : Shared}
theorem rfD (I : Inv X pins σ H s) (ek : Ex Kn H) {p : Addr} {ws : List (Key × V)} {a b : Dc κ β} (hp : Rd H p (.dK ws)) (h1 : DK X.K Kn ws a.l) (h2 : DK X.K Kn ws b.l) : qeD a b = true := by
  obtain ⟨_, _, vs, rv, dv⟩ := dk_rd I.hok hp
  have nd : (ws.map (·.1)).Nodup := by
    obtain ⟨_, _, _, _, _, _, _, _, nd⟩ := dv
    rw [KV.keys rv]
    exact nd
  unfold qeD
  rw [Bool.and_eq_true, decide_eq_true_eq, List.all_eq_true]
  refine ⟨by rw [← Paired.length h1, ← Paired.length h2], fun kv hkv => ?_⟩
  rw [← getK_key]
  have k1 := getK_mem (by rw [h1.keys]; exact nd) hkv
  rcases h2.getK (Ky.key kv.1) with ⟨_, n⟩ | ⟨y, v, e1, e2, r⟩
  · rcases h1.getK (Ky.key kv.1) with ⟨n1, _⟩ | ⟨y2, v2, _, e4, _⟩
    · rw [k1] at n1; cases n1
    · rw [n] at e4; cases e4
  · rw [e1]
    rcases h1.getK (Ky.key kv.1) with ⟨n1, _⟩ | ⟨y2, v2, e3, e4, r2⟩
    · rw [k1] at n1; cases n1
    · rw [e2] at e4
      cases e4
      rw [k1] at e3
      cases e3
      exact Qe.rf I ek r2 r
def eqK (al bl : List (κ × β)) (k : Key) : Bool := match getK al k, getK bl k with
  | some x, some y => Qe.qe x y
  | _, _ => true
theorem dict_go (I : Inv X pins σ H s) (ek : Ex Kn H) {p q : Addr} {w1 w2 : List (Key × V)} {a b : Dc κ β} (hp : Rd H p (.dK w1)) (hq : Rd H q (.dK w2)) (h1 : DK X.K Kn w1 a.l) (h2 : DK X.K Kn w2 b.l) :
    ∃ (ka kb : List (Key × Value)), (p == sysModules) = false ∧ (q == sysModules) = false ∧ s.heap.DictOf (mixKind X.prog X.w) p ka ∧ s.heap.DictOf (mixKind X.prog X.w) q kb ∧
      (∀ k v y, (k, v) ∈ ka → valueAt kb k = some y → EqTree X.prog X.w s (Qe.dq β) v y (eqK a.l b.l k)) ∧ (ka.length == kb.length && ka.all fun p => (valueAt kb p.1).isSome && eqK a.l b.l p.1) = qeD a b := by
  obtain ⟨_, s1, ka, r1, d1⟩ := dk_rd I.hok hp
  obtain ⟨_, s2, kb, r2, d2⟩ := dk_rd I.hok hq
  have nd : (w1.map (·.1)).Nodup := by
    obtain ⟨_, _, _, _, _, _, _, _, nd⟩ := id d1
    rw [KV.keys r1]
    exact nd
  have nda : (a.l.map fun kv => (Ky.key kv.1 : Key)).Nodup := by rw [h1.keys]; exact nd
  refine ⟨ka, kb, s1, s2, d1, d2, fun k v y hm hv => ?_, ?_⟩
  · obtain ⟨x, hx, rx⟩ := kv_mem r1 hm
    obtain ⟨kv, hkv, hk, rkv⟩ := h1.at hx
    have hk : k = Ky.key kv.1 := hk
    have g1 := getK_mem nda hkv
    rw [← hk] at g1
    have rr := r2.val k
    rw [hv] at rr
    rcases h2.getK k with ⟨_, n⟩ | ⟨z, zv, e1, e2, rz⟩
    · rw [n] at rr
      exact False.elim rr
    · rw [e2] at rr
      unfold eqK
      rw [g1, e1]
      exact Qe.is I ek rkv rz rx rr
  · unfold qeD
    have l1 : ka.length = a.l.length := by rw [← KV.length r1, Paired.length h1]
    have l2 : kb.length = b.l.length := by rw [← KV.length r2, Paired.length h2]
    rw [l1, l2]
    have e0 : (a.l.length == b.l.length) = decide (a.l.length = b.l.length) := by simp [BEq.beq, Nat.beq_eq]
    rw [e0]
    congr 1
    have em : (ka.all fun p => (valueAt kb p.1).isSome && eqK a.l b.l p.1) = (ka.map (·.1)).all fun k => (valueAt kb k).isSome && eqK a.l b.l k := by rw [List.all_map]; rfl
    rw [em, ← KV.keys r1, ← h1.keys, List.all_map]
    refine Bool.eq_iff_iff.mpr ?_
    rw [List.all_eq_true, List.all_eq_true]
    refine forall_congr' fun kv => forall_congr' fun hkv => ?_
    have g1 := getK_mem nda hkv
    have g2 := getK_key b.l kv.1
    have v2 : (valueAt kb (Ky.key kv.1 : Key)).isSome = (getD b.l kv.1).isSome := by
      have rr := r2.val (Ky.key kv.1)
      rw [← h2.some kv.1]
      cases e : valV w2 (Ky.key kv.1 : Key) <;> cases e2 : valueAt kb (Ky.key kv.1 : Key)
      · rfl
      · rw [e, e2] at rr; exact False.elim rr
      · rw [e, e2] at rr; exact False.elim rr
      · rfl
    show ((valueAt kb (Ky.key kv.1 : Key)).isSome && eqK a.l b.l (Ky.key kv.1)) = true ↔ _
    rw [v2]
    unfold eqK
    rw [g1, g2]
    cases getD b.l kv.1 <;> simp
theorem dict_tree (I : Inv X pins σ H s) (ek : Ex Kn H) {p q : Addr} {w1 w2 : List (Key × V)} {a b : Dc κ β} (hp : Rd H p (.dK w1)) (hq : Rd H q (.dK w2)) (h1 : DK X.K Kn w1 a.l) (h2 : DK X.K Kn w2 b.l) : EqTree X.prog X.w s (Qe.dq β + 1) (.ref p) (.ref q) (qeD a b) := by
  by_cases hpq : p = q
  · subst hpq
    have := rd_one hp hq
    subst this
    rw [rfD I ek hp h1 h2]
    exact .same
  · obtain ⟨ka, kb, s1, s2, d1, d2, t, e⟩ := dict_go I ek hp hq h1 h2
    rw [← e]
    exact .dicts hpq s1 s2 d1 d2 t
end
instance {κ β : Type} [Rp κ] [K1 κ] [DecidableEq κ] [Rp β] [Qe β] : Qe (Dc κ β) where
  dq := Qe.dq β + 1
  qe := qeD
  rf I _ _ _ _ ek h1 h2 := by
    obtain ⟨p, vs, rfl, a1, a2⟩ := h1
    obtain ⟨q, ws, e, b1, b2⟩ := h2
    cases e
    have := rd_one (rd_ex ek a1) (rd_ex ek b1)
    subst this
    exact rfD I ek (rd_ex ek a1) a2 b2
  is I _ _ _ _ _ ek h1 h2 _ _ r1 r2 := by
    obtain ⟨p, vs, rfl, a1, a2⟩ := h1
    obtain ⟨q, ws, rfl, b1, b2⟩ := h2
    cases r1
    cases r2
    exact dict_tree I ek (rd_ex ek a1) (rd_ex ek b1) a2 b2
/-! ### as operations -/
class Qt (α : Type) [Rp α] [Qe α] where
  eq : ∀ {K : Fg} {Kn H : Hp} {x y : V} {a b : α}, Qe.dq α ≤ 60 → Ex Kn H → rep K Kn x a → rep K Kn y b → TopB K H .Eq x y (Qe.qe a b)
  ne : ∀ {K : Fg} {Kn H : Hp} {x y : V} {a b : α}, Qe.dq α ≤ 60 → Ex Kn H → rep K Kn x a → rep K Kn y b → TopB K H .NotEq x y (!Qe.qe a b)
instance {α : Type} [Rp α] [Qe α] : Qt (List α) where
  eq {K Kn H x y a b} hd ek h1 h2 := by
    obtain ⟨p, vs, rfl, a1, a2⟩ := h1
    obtain ⟨q, ws, rfl, b1, b2⟩ := h2
    intro X pins σ s hK hu I v u r1 r2 E Q hQ
    subst hK
    cases r1
    cases r2
    have hd : Qe.dq α + 1 ≤ 60 := hd
    obtain ⟨us, c1, p1, _⟩ := I.list (sq_of (ek _ _ a1))
    obtain ⟨zs, c2, p2, _⟩ := I.list (sq_of (ek _ _ b1))
    have l1 := Paired.length a2
    have l2 := Paired.length b2
    have m1 := c1.length
    have m2 := c2.length
    by_cases hl : a.length = b.length
    · obtain ⟨_, e, he, hb⟩ := (eqAllL I ek hl a2 b2 c1 c2).go
      refine eq_listsT p1.isList p2.isList (by rw [List.size_toArray, List.size_toArray]; omega) he (by omega) ?_
      rw [List.size_toArray, hb]
      exact hQ
    · have hQ : Q (.bool (qeL a b)) s := hQ
      rw [qeL_len hl] at hQ
      exact SeqAt.RcAt.lists_lengths p1.isList p2.isList (by rw [List.size_toArray, List.size_toArray]; simp; omega) (by omega) _ _ _ _ hQ
  ne {K Kn H x y a b} hd ek h1 h2 := by
    obtain ⟨p, vs, rfl, a1, a2⟩ := h1
    obtain ⟨q, ws, rfl, b1, b2⟩ := h2
    intro X pins σ s hK hu I v u r1 r2 E Q hQ
    subst hK
    cases r1
    cases r2
    have hd : Qe.dq α + 1 ≤ 60 := hd
    obtain ⟨us, c1, p1, _⟩ := I.list (sq_of (ek _ _ a1))
    obtain ⟨zs, c2, p2, _⟩ := I.list (sq_of (ek _ _ b1))
    have l1 := Paired.length a2
    have l2 := Paired.length b2
    have m1 := c1.length
    have m2 := c2.length
    by_cases hl : a.length = b.length
    · obtain ⟨_, e, he, hb⟩ := (eqAllL I ek hl a2 b2 c1 c2).go
      refine SeqAt.wk_neG_lists p1.isList p2.isList (by rw [List.size_toArray, List.size_toArray]; omega) (by omega) (fun j j1 j2 => (he j j1 j2).at X.A.in1 (by show X.A.units + 1 + _ < cLine; omega)) _ _ ?_
      rw [List.size_toArray, hb]
      exact hQ
    · have hQ : Q (.bool (!qeL a b)) s := hQ
      rw [qeL_len hl] at hQ
      exact SeqAt.RcNeAt.lists_lengths p1.isList p2.isList (by rw [List.size_toArray, List.size_toArray]; simp; omega) (by omega) _ _ _ _ hQ
instance {α τ : Type} [Rp α] [Tp τ] [Qe α] [Qs τ] : Qt (α × τ) where
  eq {K Kn H x y a b} hd ek h1 h2 := by
    obtain ⟨p, vs, rfl, a1, a2⟩ := h1
    obtain ⟨q, ws, rfl, b1, b2⟩ := h2
    intro X pins σ s hK hu I v u r1 r2 E Q hQ
    subst hK
    cases r1
    cases r2
    have hd : Qs.dq (α × τ) + 1 ≤ 60 := hd
    obtain ⟨us, c1, p1, _⟩ := I.tuple (st_of (ek _ _ a1))
    obtain ⟨zs, c2, p2, _⟩ := I.tuple (st_of (ek _ _ b1))
    obtain ⟨hl, e, he, hb⟩ := (Qs.is I ek a2 b2 c1 c2).go
    refine eq_tuplesT p1 p2 he (by omega) ?_
    rw [List.size_toArray, List.size_toArray, ← hl, Nat.min_self, hb]
    have hQ : Q (.bool (Qs.qe a b)) s := hQ
    simpa using hQ
  ne {K Kn H x y a b} hd ek h1 h2 := by
    obtain ⟨p, vs, rfl, a1, a2⟩ := h1
    obtain ⟨q, ws, rfl, b1, b2⟩ := h2
    intro X pins σ s hK hu I v u r1 r2 E Q hQ
    subst hK
    cases r1
    cases r2
    have hd : Qs.dq (α × τ) + 1 ≤ 60 := hd
    obtain ⟨us, c1, p1, _⟩ := I.tuple (st_of (ek _ _ a1))
    obtain ⟨zs, c2, p2, _⟩ := I.tuple (st_of (ek _ _ b1))
    obtain ⟨hl, e, he, hb⟩ := (Qs.is I ek a2 b2 c1 c2).go
    refine SeqAt.wk_neG_tuples p1 p2 (by omega) (fun j j1 j2 => (he j j1 j2).at X.A.in1 (by show X.A.units + 1 + _ < cLine; omega)) _ _ ?_
    rw [List.size_toArray, List.size_toArray, ← hl, Nat.min_self, hb]
    have hQ : Q (.bool (!Qs.qe a b)) s := hQ
    simpa using hQ
instance {κ β : Type} [Rp κ] [K1 κ] [DecidableEq κ] [Rp β] [Qe β] : Qt (Dc κ β) where
  eq {K Kn H x y a b} hd ek h1 h2 := by
    obtain ⟨p, vs, rfl, a1, a2⟩ := h1
    obtain ⟨q, ws, rfl, b1, b2⟩ := h2
    intro X pins σ s hK hu I v u r1 r2 E Q hQ
    subst hK
    cases r1
    cases r2
    have hd : Qe.dq β + 1 ≤ 60 := hd
    obtain ⟨ka, kb, s1, s2, d1, d2, t, e⟩ := dict_go I ek (rd_ex ek a1) (rd_ex ek b1) a2 b2
    refine eq_dictsT s1 s2 d1 d2 t (by omega) ?_
    rw [e]
    exact hQ
  ne {K Kn H x y a b} hd ek h1 h2 := by
    obtain ⟨p, vs, rfl, a1, a2⟩ := h1
    obtain ⟨q, ws, rfl, b1, b2⟩ := h2
    intro X pins σ s hK hu I v u r1 r2 E Q hQ
    subst hK
    cases r1
    cases r2
    have hd : Qe.dq β + 1 ≤ 60 := hd
    obtain ⟨ka, kb, s1, s2, d1, d2, t, e⟩ := dict_go I ek (rd_ex ek a1) (rd_ex ek b1) a2 b2
    refine PySem.W.wk_neG_dicts s1 s2 d1 d2 (by omega) (fun _ => KeqHitsIn.of _ fun k v y hm hv => (t k v y hm hv).at X.A.in1 (by show X.A.units + 1 + _ < cLine; omega)) _ _ ?_
    rw [e]
    exact hQ
section
variable {K : Fg} {α : Type} [Rp α] [Qe α] [Qt α]
theorem r2_eqQ {a b : α} (hd : Qe.dq α ≤ 60 := by decide) : R2V K (rTop K .Eq) a b (Qe.qe a b) := fun Kn H v w ek h1 h2 Q q => ⟨_, Qt.eq hd ek h1 h2, q.fl (z := Qe.qe a b) ek⟩
theorem r2_neQ {a b : α} (hd : Qe.dq α ≤ 60 := by decide) : R2V K (rTop K .NotEq) a b (!Qe.qe a b) := fun Kn H v w ek h1 h2 Q q => ⟨_, Qt.ne hd ek h1 h2, q.fl (z := !Qe.qe a b) ek⟩
end
theorem k_top {X : Cx} {K : Fg} {op : CmpOp} (hu : X.A.units + 64 < cLine) (h : X.K = K := by rfl) : OpR X (compareOp op) (rTop K op) := h ▸ op_top hu
end Wk
/-! Wenum: enumerate over a tuple. -/
namespace L2
open PySem PySem.Spec PyProof.Rows
theorem meets_enum_new1 {v : Value} {o : Obj} {H : Heap → Prop} (B : Begins v o H) :
    Meets (Builtin.«enumerate.__new__» ⟨[.type "enumerate", v], []⟩) (fun _ R s => H s.heap ∧
      R (.ok (.ret (.ref (s.heap.push o).objs.size))) { s with heap := (s.heap.push o).push { cls := .type "enumerate", data := .fields #[.none, .bool false, .ref s.heap.objs.size, rawInt 0, .none, .none] } }) :=
  .of_wp fun prog w A R s h => by
    obtain ⟨hp, g, d, tk, os⟩ := s
    obtain ⟨h1, h⟩ := h
    have hsub := sub_enumerate
    have q1 : ∀ {A' : Around} {E : Value → Shared → Prop} {Q : Value → Shared → Prop}, Q (.ref hp.objs.size) ⟨hp.push o, g, d, tk, os⟩ → wpAny (model prog w) A' (pyIter v) Q E ⟨hp, g, d, tk, os⟩ :=
      fun q => B.iter prog w _ _ ⟨hp, g, d, tk, os⟩ _ h1 q
    wp_walk using q1
    refine wpAny_stack_any fun st => wpAny_pure ?_
    split
    · rename_i c _ _ _ _ _
      cases (c == Value.type "enumerate")
      · wp_walk using q1
        exact ⟨_, rfl, h⟩
      · wp_walk using q1
        exact ⟨_, rfl, h⟩
    · wp_walk using q1
      exact ⟨_, rfl, h⟩
section
variable {prog : Program} {w : World} {A : Around} {E : Value → Shared → Prop} {s : Shared}
theorem enum_begins1 {v : Value} {o : Obj} {H : Heap → Prop} {Q : Value → Shared → Prop} (B : Begins v o H) (h1 : H s.heap)
    (h : ∀ h', IsEnum h' (s.heap.objs.size + 1) s.heap.objs.size 0 .none → h'.get? s.heap.objs.size = some o → h'.objs.size = s.heap.objs.size + 2 →
      (∀ b o, s.heap.get? b = some o → h'.get? b = some o) → Q (.ref (s.heap.objs.size + 1)) { s with heap := h' }) :
    wpAny (model prog w) A (call (.type "enumerate") [v]) Q E s := by
  refine callType_new F.called_enumerate (by decide) (F.typeCall_enumerate_1 _) (F.newCall_enumerate_1 _) (fun obj => F.args_object_init_2 obj _) F.entry_enumerate_new
    (meets_enum_new1 B) ⟨h1, ?_⟩
  have hz : (s.heap.push o).objs.size = s.heap.objs.size + 1 := Heap.size_push ..
  show _ ∧ _
  rw [hz]
  have he : IsEnum ((s.heap.push o).push { cls := .type "enumerate", data := .fields #[.none, .bool false, .ref s.heap.objs.size, rawInt 0, .none, .none] }) (s.heap.objs.size + 1) s.heap.objs.size 0 .none := by
    have := Heap.get?_push_size (s.heap.push o) (o := { cls := .type "enumerate", data := .fields #[.none, .bool false, .ref s.heap.objs.size, rawInt 0, .none, .none] }) rfl
    rw [hz] at this
    exact this
  refine ⟨⟨_, he, rfl⟩, h _ he (Heap.get?_push_of_some _ (Heap.get?_push_size _ B.free)) (by rw [Heap.size_push, hz]) fun b o x => Heap.get?_push_of_some _ (Heap.get?_push_of_some _ x)⟩
end
section
variable {prog : Program} {w : World} {A : Around} {E : Value → Shared → Prop} {s : Shared}
theorem wpAny_pyNext_enum_endT {e it l : Addr} {i : Nat} {items : Array Value} {old : Value} {Q : Option Value → Shared → Prop} (hh : A.handled = none)
    (he : IsEnum s.heap e it i old) (hit : s.heap.IsTupleIter it l i) (hl : s.heap.IsTuple l items) (hx : items[i]? = none)
    (hQ : ∀ h', Heap.ExtBut it s.heap h' → Q none { s with heap := h' }) : wpAny (model prog w) A (pyNext (.ref e)) Q E s := by
  have hT : s.TypeIs (.ref e) "enumerate" := ⟨_, he, rfl⟩
  unfold pyNext
  refine wpAny_bind (wpAny_attempt (wpAny_callSpecial?_slot (name := Str.ofString "__next__") hT F.slot_enumerate_next
    (wpAny_call_entry F.slot_enumerate_next hT F.entry_enumerate_next ?_ (F.args_enumerate_next_1 _))))
  show wpAny _ _ (field (.ref e) 2 >>= _) _ _ _
  refine wpAny_bind (wpAny_field he rfl (x := .ref it) rfl ?_)
  refine wpAny_bind (wpAny_nextOf_tuple_end (by simp [hh]) hit hl hx fun h' x he' hx' => ?_)
  obtain ⟨o, ho, hc⟩ := hx'
  refine wpAny_bind (wpAny_isInstance (T := "StopIteration") (b := true) ⟨o, ho, hc⟩ isSubtype_stop ?_)
  exact wpAny_pure (hQ _ he')
end
/-- the tuple at a, each item in a new pair -/
def IteT (K : PySem.W.Frag) (a : Addr) : It :=
  ⟨fun i H => ∃ (xs : List V) (x : V), SqT K H a xs ∧ xs[i]? = some x, fun i H v H' => ∃ T x, v = .ref T ∧ H T = none ∧ H' = upd H T (.tup [.int (i : Nat), x]) ∧ ∀ xs, SqT K H a xs → xs[i]? = some x, fun i H => ∃ xs : List V, SqT K H a xs ∧ xs.length ≤ i⟩
theorem turn_enumT {P : Program} {w : World} {K : PySem.W.Frag} {elts : List Expr} {kk : Nat} {tpos : Pos} (a e it : Addr) :
    Turn P w K (.Tuple elts kk tpos) (IteT K a) [e, it] e (fun i h => (∃ old, IsEnum h e it ((i : Nat) : Int) old) ∧ h.IsTupleIter it a i ∧ e ≠ it ∧ a ≠ it ∧ e ≠ a) where
  mem := by simp
  obj := fun i h st b hb => by
    obtain ⟨⟨old, he⟩, ⟨o, ho, hc, hd⟩, _⟩ := st
    have e' : b = e ∨ b = it := by simpa using hb
    rcases e' with z | z
    · rw [z]; exact ⟨_, he, fun v q => nomatch q⟩
    · rw [z]; exact ⟨o, ho, fun v q => by rw [hd] at q; cases q⟩
  keep := fun i h h' st k => let ⟨⟨old, he⟩, hi, hne⟩ := st; ⟨⟨old, k e (by simp) _ he⟩, hi.at fun o q => k it (by simp) o q, hne⟩
  item := by
    intro X hP hw hK hc i pins s σ H E I hf st hg
    subst hP hw hK
    obtain ⟨⟨old, he⟩, hit, hne, hai, hea⟩ := st
    obtain ⟨xs, x, hq, hx⟩ := hg
    obtain ⟨its, rv, p, hz⟩ := I.tuple hq
    obtain ⟨u, hu, ru⟩ := rv.get hx
    have hel : e < s.heap.objs.size := Heap.lt_size he
    have hil : it < s.heap.objs.size := by obtain ⟨_, q, _⟩ := hit; exact Heap.lt_size q
    have hlt : i < its.toArray.size := by
      rw [List.size_toArray]
      exact (List.getElem?_eq_some_iff.mp hu).1
    have hh : X.A.in1.handled = none := by simp [I.ok.hd hc]
    refine wpAny_pyNext_enum_itemD (Draws.tuple hh it a hai its.toArray) he ⟨hit, p⟩ hlt hne (by simp [hne, hea]) fun y h' tk hy ho hst hT hsz hk => ?_
    have ey : y = u := by
      rw [show its.toArray[i]? = its[i]? by simp, hu] at hy
      exact (Option.some.inj hy).symm
    subst ey
    obtain ⟨hit', _⟩ := hst
    refine ⟨_, rfl, wpAny_letOwnedTupleGo_enum (s := { s with heap := h', toks := tk + 1 }) ho fun h'' he' sb => ?_⟩
    have hT2 : h''.get? s.heap.objs.size = some { cls := .type "tuple", data := .seq #[.int i tk, y] } := (sb.2 _ (Nat.ne_of_gt hel)).trans hT
    have new : ObjOk X.prog X.w (upd H s.heap.objs.size (.tup [.int (i : Nat), x])) h'' s.heap.objs.size (.tup [.int (i : Nat), x]) :=
      ⟨by show 2 ≤ sizeLine; decide, [.int i tk, y], .cons ⟨_, rfl⟩ (.cons ru .nil), ⟨_, hT2, rfl, _, rfl⟩⟩
    have I1 : Inv X pins σ (upd H s.heap.objs.size (.tup [.int (i : Nat), x])) { s with heap := h'', toks := tk + 1 } :=
      I.turnedNew (ch := [e, it]) (fun b ob hb q => (sb.2 b (fun z => hb (by simp [z]))).trans (hk b ob (fun z => hb (by simp [z])) (fun z => hb (by simp [z])) q)) hf (Nat.le_refl _) new
    refine ⟨.ref s.heap.objs.size, _, I1, rfl, ⟨_, x, rfl, I.hok.fresh (Nat.le_refl _), rfl, fun ys hy => by rw [I.tuple_inj hy hq]; exact hx⟩, ⟨⟨y, ?_⟩, hit'.at fun o q => (sb.2 it (Ne.symm hne)).trans q, hne, hai, hea⟩, fun b hb => ?_⟩
    · have e1 : ((i + 1 : Nat) : Int) = (i : Int) + 1 := by omega
      rw [e1]; exact he'
    · have hb' : b < s.heap.objs.size := by
        have e' : b = e ∨ b = it := by simpa using hb
        rcases e' with z | z
        · rw [z]; exact hel
        · rw [z]; exact hil
      rw [upd_ne (Nat.ne_of_lt hb')]
      exact (hf b hb).1
  done := by
    intro X hP hw hK hc i pins s σ H E I hf st hg
    subst hP hw hK
    obtain ⟨⟨old, he⟩, hit, hne, hai, hea⟩ := st
    obtain ⟨xs, hq, hx⟩ := hg
    obtain ⟨its, rv, p, hz⟩ := I.tuple hq
    obtain ⟨f0, f1, f2, f3, f4, f5⟩ := hf it (by simp)
    have hl := rv.length
    exact wpAny_pyNext_enum_endT (I.ok.hd hc) he hit p (by simp; omega) fun h' eb => ⟨rfl, I.turned (t' := s.toks) (fun b o hb q => eb b o hb q) f0 f1 f3 f4 f5⟩
  self := fun A i s Q E st h => let ⟨⟨_, he⟩, _⟩ := st; wpAny_pyIter_enum he h
def iEnumT (K : PySem.W.Frag) (ta : TA) : TI := fun σ H R => ta σ H fun vs H1 => ∃ a xs, vs = [.ref a] ∧ SqT K H1 a xs ∧ R (IteT K a) H1
theorem pi_enumT {X : Cx} {e : Expr} {ta : TA} {p pos tpos : Pos} {elts : List Expr} {kk : Nat} (hg : Gl X "enumerate") (hm : X.mg "enumerate" = none) (ha : PA X [e] ta) (hs : starEach [e] X.env = [(false, eval e X.env)] := by rfl) :
    PI X (.Tuple elts kk tpos) (.Call (.Name "enumerate" p) [e] [] pos) (iEnumT X.K ta) := by
  refine ⟨fun pins s σ H R I h => ?_⟩
  refine Call_ (ld_blt I hg hm boot_enumerate (PyProof.Rows.callWith_type1 (thn (ha.run pos pins s σ H _ I h) fun us s1 ⟨vs, H1, I1, r1, q1⟩ => ?_) hs rfl))
  obtain ⟨a, xs, ex, hq, q⟩ := q1
  subst ex
  cases r1 with
  | cons r rr =>
    cases rr
    cases r
    obtain ⟨its, rv, p', hz⟩ := I1.tuple hq
    refine enum_begins1 (begins_tuple a its.toArray) p' fun h' he hit hsz hk => wpAny_pyIter_enum he ?_
    have I2 : Inv X pins σ H1 { s1 with heap := h' } := I1.kept (t' := s1.toks) hk
    have hal : a < s1.heap.objs.size := by
      obtain ⟨o, ho, _⟩ := p'
      exact Heap.lt_size ho
    refine ⟨s1.heap.objs.size + 1, [s1.heap.objs.size + 1, s1.heap.objs.size], _, _, H1, rfl, I2, turn_enumT a (s1.heap.objs.size + 1) s1.heap.objs.size, ⟨⟨.none, he⟩, ⟨_, hit, rfl, rfl⟩, Nat.succ_ne_self _, Nat.ne_of_lt hal, Nat.ne_of_gt (Nat.lt_succ_of_lt hal)⟩, fun b hb => ?_, q⟩
    have e' : b = s1.heap.objs.size + 1 ∨ b = s1.heap.objs.size := by simpa using hb
    have hle : s1.heap.objs.size ≤ b := by
      rcases e' with z | z
      · rw [z]; exact Nat.le_add_right _ _
      · rw [z]; exact Nat.le_refl _
    exact I1.fpOk hle (I1.hok.fresh hle)
end L2
namespace Wk
open PySem PySem.Spec L2 Evl
section
variable {K : Fg} {F Kn0 : Hp} {sl sl' : List Sl} {ow ow1 : List Ow} {α β : Type} [Rp α] [Rp β] {te : TE} {ta : TA} {i j : Nat} {p : Addr}
theorem wk_enumT {Kn1 : Hp} {p : Addr} {ws : List V} {xs : List α} (h : SqT K Kn1 p ws) (r : Paired (rep K Kn1) ws xs) : WK K Kn1 (IteT K p) (enumI xs) := fun i Kn' H' e1 e2 => by
  have hq : SqT K H' p ws := ex_t (e1.trans e2) h
  refine ⟨fun y hy => ?_, fun hl => ⟨ws, hq, by rw [paired_len r]; simpa [enumI] using hl⟩⟩
  obtain ⟨x, hx, rfl⟩ := enum_get hy
  obtain ⟨v, hv, rv⟩ := paired_at r hx
  refine ⟨⟨ws, v, hq, hv⟩, fun u H2 hy => ?_⟩
  obtain ⟨T, z, rfl, hT, rfl, f⟩ := hy
  have : v = z := Option.some.inj (hv.symm.trans (f ws hq))
  subst this
  have g : Gr Kn' H' (upd Kn' T (.tup [.int (i : Nat), v])) (upd H' T (.tup [.int (i : Nat), v])) := Gr.new e2 hT
  exact ⟨_, g, T, _, rfl, upd_same, .int (i : Nat), [v], rfl, rfl, v, [], rfl, Rp.mono (e1.trans g.kk) rv, rfl⟩
theorem it_enumT {xs : Tu α} (h : EA K F Kn0 sl ow ta (xs, ())) : IT K F Kn0 sl ow (iEnumT K ta) (enumI xs.l) := fun σ Kn H s R q => h σ Kn H s _ fun vs Kn1 H1 g1 r1 => by
  obtain ⟨v, rfl, p, ws, rfl, h3, h4⟩ := one_arg r1
  exact ⟨p, ws, rfl, st_of (g1.kh _ _ h3), q _ Kn1 H1 g1 (wk_enumT (st_of h3) h4)⟩
/-- tuple(xs), xs one's own -/
theorem ev_tupleO {xs : List α} (hi : sl[i]? = some (.at p)) (hj : ow[j]? = some (ol p xs)) :
    EV K F Kn0 sl ow (tCB (fun xs H Q => ∃ p ys, xs = [.ref p] ∧ ((SqL K H p ys ∧ ∀ l, H l = none → Q (.ref l) (upd H l (.tup ys))) ∨ (SqT K H p ys ∧ Q (.ref p) H))) (tCons (tVar i) tNil)) (Tu.mk xs) := fun σ Kn H s Q q => by
  obtain ⟨o, h1, h2⟩ := s.sl.get hi
  obtain ⟨f1, f2, ws, f3, f4⟩ := s.ow.each _ (List.mem_of_getElem? hj)
  refine ⟨.ref p, by rw [h1]; exact congrArg some h2, p, ws, rfl, .inl ⟨sq_of f3, fun l hl => ?_⟩⟩
  have g : Gr Kn H (upd Kn l (.tup ws)) (upd H l (.tup ws)) := Gr.new s.ek hl
  exact q _ _ _ g ⟨l, ws, rfl, upd_same, paired_mono g.kk f4⟩
end
end Wk
set_option maxHeartbeats 4000000
/-! Wfloor: split and find of texts -/
namespace L2
open PySem PySem.Spec PyProof.Rows
/-- the text x, each sign in a new pair -/
def IteS (x : Str) : It :=
  ⟨fun i _ => i < x.cps.size, fun i H v H' => ∃ T c, v = .ref T ∧ H T = none ∧ H' = upd H T (.tup [.int (i : Nat), .str ⟨#[c]⟩]) ∧ x.cps[i]? = some c, fun i _ => x.cps.size ≤ i⟩
theorem turn_enumS {P : Program} {w : World} {K : PySem.W.Frag} {elts : List Expr} {kk : Nat} {tpos : Pos} (x : Str) (t : Tok) (e it : Addr) :
    Turn P w K (.Tuple elts kk tpos) (IteS x) [e, it] e (fun i h => (∃ old, IsEnum h e it ((i : Nat) : Int) old) ∧ h.IsStrIter it (strIterType x) x t i ∧ e ≠ it ∧ i ≤ x.cps.size) where
  mem := by simp
  obj := fun i h st b hb => by
    obtain ⟨⟨old, he⟩, ⟨o, ho, hc, hd⟩, _⟩ := st
    have e' : b = e ∨ b = it := by simpa using hb
    rcases e' with z | z
    · rw [z]; exact ⟨_, he, fun v q => nomatch q⟩
    · rw [z]; exact ⟨o, ho, fun v q => by rw [hd] at q; cases q⟩
  keep := fun i h h' st k => let ⟨⟨old, he⟩, ⟨o, ho, r⟩, hne⟩ := st; ⟨⟨old, k e (by simp) _ he⟩, ⟨o, k it (by simp) o ho, r⟩, hne⟩
  item := by
    intro X hP hw hK hc i pins s σ H E I hf st hg
    subst hP hw hK
    obtain ⟨⟨old, he⟩, hit, hne, hle⟩ := st
    have hlt : i < x.cps.size := hg
    have hel : e < s.heap.objs.size := Heap.lt_size he
    have hil : it < s.heap.objs.size := by obtain ⟨_, q, _⟩ := hit; exact Heap.lt_size q
    have hh : X.A.in1.handled = none := by simp [I.ok.hd hc]
    refine wpAny_pyNext_enum_itemD (Draws.text hh it x t) he hit hlt hne (by simp [hne]) fun y h' tk hy ho hst hT hsz hk => ?_
    obtain ⟨c, uu, hcx, rfl⟩ := hy
    refine ⟨_, rfl, wpAny_letOwnedTupleGo_enum (s := { s with heap := h', toks := tk + 1 }) ho fun h'' he' sb => ?_⟩
    have hT2 : h''.get? s.heap.objs.size = some { cls := .type "tuple", data := .seq #[.int i tk, .str ⟨#[c]⟩ uu] } := (sb.2 _ (Nat.ne_of_gt hel)).trans hT
    have new : ObjOk X.prog X.w (upd H s.heap.objs.size (.tup [.int (i : Nat), .str ⟨#[c]⟩])) h'' s.heap.objs.size (.tup [.int (i : Nat), .str ⟨#[c]⟩]) :=
      ⟨by show 2 ≤ sizeLine; decide, [.int i tk, .str ⟨#[c]⟩ uu], .cons ⟨_, rfl⟩ (.cons ⟨_, rfl⟩ .nil), ⟨_, hT2, rfl, _, rfl⟩⟩
    have I1 : Inv X pins σ (upd H s.heap.objs.size (.tup [.int (i : Nat), .str ⟨#[c]⟩])) { s with heap := h'', toks := tk + 1 } :=
      I.turnedNew (ch := [e, it]) (fun b ob hb q => (sb.2 b (fun z => hb (by simp [z]))).trans (hk b ob (fun z => hb (by simp [z])) (fun z => hb (by simp [z])) q)) hf (Nat.le_refl _) new
    refine ⟨.ref s.heap.objs.size, _, I1, rfl, ⟨_, c, rfl, I.hok.fresh (Nat.le_refl _), rfl, hcx⟩, ⟨⟨.str ⟨#[c]⟩ uu, ?_⟩, ?_, hne, hlt⟩, fun b hb => ?_⟩
    · have e1 : ((i + 1 : Nat) : Int) = (i : Int) + 1 := by omega
      rw [e1]; exact he'
    · obtain ⟨o, q, r⟩ := hst
      exact ⟨o, (sb.2 it (Ne.symm hne)).trans q, r⟩
    · have hb' : b < s.heap.objs.size := by
        have e' : b = e ∨ b = it := by simpa using hb
        rcases e' with z | z
        · rw [z]; exact hel
        · rw [z]; exact hil
      rw [upd_ne (Nat.ne_of_lt hb')]
      exact (hf b hb).1
  done := by
    intro X hP hw hK hc i pins s σ H E I hf st hg
    subst hP hw hK
    obtain ⟨⟨old, he⟩, hit, hne, hle⟩ := st
    have hge : x.cps.size ≤ i := hg
    have hi : i = x.cps.size := Nat.le_antisymm hle hge
    subst hi
    obtain ⟨f0, f1, f2, f3, f4, f5⟩ := hf it (by simp)
    have hh : X.A.in1.handled = none := by simp [I.ok.hd hc]
    exact wpAny_pyNext_enum_endD (Draws.text hh it x t) he hit fun h' eb => ⟨rfl, I.turned (t' := s.toks) (fun b o hb q => eb b o hb q) f0 f1 f3 f4 f5⟩
  self := fun A i s Q E st h => let ⟨⟨_, he⟩, _⟩ := st; wpAny_pyIter_enum he h
def iEnumS (ta : TA) : TI := fun σ H R => ta σ H fun vs H1 => ∃ x, vs = [.str x] ∧ R (IteS x) H1
theorem pi_enumS {X : Cx} {e : Expr} {ta : TA} {p pos tpos : Pos} {elts : List Expr} {kk : Nat} (hg : Gl X "enumerate") (hm : X.mg "enumerate" = none) (ha : PA X [e] ta) (hs : starEach [e] X.env = [(false, eval e X.env)] := by rfl) :
    PI X (.Tuple elts kk tpos) (.Call (.Name "enumerate" p) [e] [] pos) (iEnumS ta) := by
  refine ⟨fun pins s σ H R I h => ?_⟩
  refine Call_ (ld_blt I hg hm boot_enumerate (PyProof.Rows.callWith_type1 (thn (ha.run pos pins s σ H _ I h) fun us s1 ⟨vs, H1, I1, r1, q1⟩ => ?_) hs rfl))
  obtain ⟨x, ex, q⟩ := q1
  subst ex
  cases r1 with
  | cons r rr =>
    cases rr
    obtain ⟨t, rfl⟩ := r
    refine enum_begins1 (begins_text x t) trivial fun h' he hit hsz hk => wpAny_pyIter_enum he ?_
    have I2 : Inv X pins σ H1 { s1 with heap := h' } := I1.kept (t' := s1.toks) hk
    refine ⟨s1.heap.objs.size + 1, [s1.heap.objs.size + 1, s1.heap.objs.size], _, _, H1, rfl, I2, turn_enumS x t (s1.heap.objs.size + 1) s1.heap.objs.size, ⟨⟨.none, he⟩, ⟨_, hit, rfl, rfl⟩, Nat.succ_ne_self _, Nat.zero_le _⟩, fun b hb => ?_, q⟩
    have e' : b = s1.heap.objs.size + 1 ∨ b = s1.heap.objs.size := by simpa using hb
    have hle : s1.heap.objs.size ≤ b := by
      rcases e' with z | z
      · rw [z]; exact Nat.le_add_right _ _
      · rw [z]; exact Nat.le_refl _
    exact I1.fpOk hle (I1.hok.fresh hle)
end L2
namespace Wk
open PySem PySem.Spec L2 Evl
def splitO (z sep : Str) : Option (List Str) := if sep.length ≠ 0 ∧ z.length + 2 ≤ 1000000 then some (Txt.split z sep) else none
def rSplitS (K : Fg) : V → List V → Hp → VK → Prop := fun x xs H Q => ∃ a b, x = .str a ∧ xs = [.str b] ∧ (b.length == 0) = false ∧ a.length + 2 ≤ sizeLine ∧ rNewStrs (Txt.split a b) H Q
section
variable {K : Fg} {F Kn0 : Hp} {sl : List Sl} {ow : List Ow} {te tb : TE} {x y : Str}
theorem strs_paired {H : Hp} : ∀ ys : List Str, Paired (rep K H) (ys.map V.str) ys
  | [] => .nil
  | y :: ys => .cons rfl (strs_paired ys)
/-- x.split(y) -/
theorem en_split {zs : List Str} (h : EV K F Kn0 sl ow te x) (hn : EV K F Kn0 sl ow tb y) (e : splitO x y = some zs) : EN K F Kn0 sl ow (tBM K "str" (rSplitS K) te (tCons tb tNil)) zs := fun σ Kn H s Q q =>
  h σ Kn H s _ fun v Kn1 H1 g1 r1 => by
    cases r1
    refine ⟨rfl, hn σ Kn1 H1 (s.grow g1) _ fun w Kn2 H2 g2 r2 => ?_⟩
    cases r2
    unfold splitO at e
    split at e
    case isFalse => cases e
    rename_i hc
    cases e
    have g := g1.trans g2
    refine ⟨x, y, rfl, rfl, by simpa using hc.1, le_line hc.2, fun p hp => ?_⟩
    exact q p _ Kn2 _ (g.trans (Gr.newU g2.kh hp)) (fresh_back g.hh hp) (fresh_back g2.kh hp) upd_same (strs_paired _)
/-- x.find(y) -/
theorem ev_find (h : EV K F Kn0 sl ow te x) (hn : EV K F Kn0 sl ow tb y) : EV K F Kn0 sl ow (tBM K "str" (fun x xs H Q => ∃ a b, x = .str a ∧ xs = [.str b] ∧ Q (.int (Txt.find a b)) H) te (tCons tb tNil)) (Txt.find x y) := fun σ Kn H s Q q =>
  h σ Kn H s _ fun v Kn1 H1 g1 r1 => by
    cases r1
    refine ⟨rfl, hn σ Kn1 H1 (s.grow g1) _ fun w Kn2 H2 g2 r2 => ?_⟩
    cases r2
    exact ⟨x, y, rfl, rfl, q _ Kn2 H2 (g1.trans g2) rfl⟩
end
section
variable {K : Fg} {F Kn0 : Hp} {sl : List Sl} {ow : List Ow} {ta : TA}
theorem wk_enumS {Kn1 : Hp} {x : Str} : WK K Kn1 (IteS x) (enumI (sgn x)) := fun i Kn' H' e1 e2 => by
  have hz : (sgn x).length = x.cps.size := by
    unfold sgn
    rw [List.length_map, Array.length_toList]
  refine ⟨fun y hy => ?_, fun hl => by
    have : (enumI (sgn x)).length = x.cps.size := by rw [← hz]; simp [enumI]
    show x.cps.size ≤ i
    omega⟩
  obtain ⟨z, hx, rfl⟩ := enum_get hy
  have hx' := hx
  unfold sgn at hx'
  rw [List.getElem?_map, Array.getElem?_toList] at hx'
  obtain ⟨c, hc, rfl⟩ := Option.map_eq_some_iff.mp hx'
  refine ⟨(Array.getElem?_eq_some_iff.mp hc).1, fun u H2 hy => ?_⟩
  obtain ⟨T, c2, rfl, hT, rfl, f⟩ := hy
  have : c = c2 := Option.some.inj (hc.symm.trans f)
  subst this
  have g : Gr Kn' H' (upd Kn' T (.tup [.int (i : Nat), .str ⟨#[c]⟩])) (upd H' T (.tup [.int (i : Nat), .str ⟨#[c]⟩])) := Gr.new e2 hT
  exact ⟨_, g, T, _, rfl, upd_same, .int (i : Nat), [.str ⟨#[c]⟩], rfl, rfl, .str ⟨#[c]⟩, [], rfl, rfl, rfl⟩
/-- for k, c in enumerate(text) -/
theorem it_enumS {x : Str} (h : EA K F Kn0 sl ow ta (x, ())) : IT K F Kn0 sl ow (iEnumS ta) (enumI (sgn x)) := fun σ Kn H s R q => h σ Kn H s _ fun vs Kn1 H1 g1 r1 => by
  obtain ⟨v, rfl, r⟩ := one_arg r1
  cases r
  exact ⟨x, rfl, q _ Kn1 H1 g1 wk_enumS⟩
end
end Wk
set_option maxHeartbeats 4000000
/-! Wobj: instances of the program's own classes: things that never change (boxes), as data; made by C(..), read by e.f, asked by e.m(..) whatever their class; groups of things that a def changes -/
namespace L2
open PySem PySem.Spec PyProof.Rows
section
variable {X : Cx} {e o : Expr} {es : List Expr} {ta : TE} {t : TA} {p1 p2 pos apos : Pos} {m : Str} {k j : Nat}
/-- the def that o.m is, o of the class at C, and what it promises -/
def Mt (P : Program) (w : World) (K : PySem.W.Frag) (mg : Str → Option Value) (base : Heap) (k : Nat) (C : Addr) (m : Str) (sp : Sp) : Prop :=
  ∃ (f : Addr) (fd : FuncData) (ps : List Str), Cls K C ∧ Meth K C m f ∧ FnOk P w K mg base CX0 k f fd ps sp ∧ Binds K fd ps []
/-- o.m(..), the class told by what stands there -/
def tDM (P : Program) (w : World) (K : PySem.W.Frag) (mg : Str → Option Value) (base : Heap) (k : Nat) (m : Str) (ta : TE) (t : TA) : TE := fun σ H Q => ta σ H fun x H1 => ∃ a C dx fs sp, x = .ref a ∧ H1 a = some (.ins C dx fs) ∧ fs.lookup m = none ∧
  Mt P w K mg base k C m sp ∧ t σ H1 fun vs H2 => sp (x :: vs) H2 Q E0
theorem pe_dm {pl : Sem Bool} (hr : Room j X.A) (hk : k ≤ j) (he : PE X o ta) (ha : PA X (e :: es) t)
    (hst : starEach (e :: es) X.env = (false, eval e X.env) :: starEach es X.env := by rfl) (hpl : (backTo pos (starEach es X.env)).any (·.1) = false := by rfl)
    (ht : eval (.Call (.Attribute o m apos) (e :: es) [] pos) X.env = (do
      let ov ← eval o X.env
      standAt apos.atName
      let (f, first) ← holding [ov] (getMethod ov m pl)
      callWith pos f first (backTo pos (starEach (e :: es) X.env)) (backToKw pos (keywordEach [] X.env))) := by rfl) :
    PE X (.Call (.Attribute o m apos) (e :: es) [] pos) (tDM X.prog X.w X.K X.mg X.base k m ta t) := by
  refine ⟨fun pins s σ H Q I h => ?_⟩
  refine PySem.W.methodCall_KW (pl := pl) (thn (he.run pins s σ H _ I h) fun u s1 ⟨x, H1, I1, rx, a, C, dx, fs, sp, ex, ea, l, me, q⟩ => ?_) ht
  subst ex
  obtain rfl : u = Value.ref a := rx
  obtain ⟨f, fd, ps, c, hm, F, hb⟩ := me
  refine getmeth_ok I1 ea c hm l ?_
  refine PySem.W.callWith_K (first := [.ref a]) (h₀ := X.base) I.ok.mod.kin hm.kp (thn (ha.run pos pins s1 σ H1 _ I1 q) fun us s2 ⟨vs, H2, I2, r, q2⟩ => ⟨I2.kIn, ?_⟩) hst hpl
  exact run_fn (us := .ref a :: us) (vs := .ref a :: vs) F (hr.mono hk) hb .nil pass0 I2 (.cons rfl r) (by rw [List.append_nil]; exact q2)
theorem pe_dm0 {pl : Sem Bool} (hr : Room j X.A) (hk : k ≤ j) (he : PE X o ta)
    (ht : eval (.Call (.Attribute o m apos) [] [] pos) X.env = (do
      let ov ← eval o X.env
      standAt apos.atName
      let (f, first) ← holding [ov] (getMethod ov m pl)
      callWith pos f first (backTo pos (starEach [] X.env)) (backToKw pos (keywordEach [] X.env))) := by rfl) :
    PE X (.Call (.Attribute o m apos) [] [] pos) (tDM X.prog X.w X.K X.mg X.base k m ta tNil) := by
  refine ⟨fun pins s σ H Q I h => ?_⟩
  refine PySem.W.methodCall_KW (pl := pl) (thn (he.run pins s σ H _ I h) fun u s1 ⟨x, H1, I1, rx, a, C, dx, fs, sp, ex, ea, l, me, q⟩ => ?_) ht
  subst ex
  obtain rfl : u = Value.ref a := rx
  obtain ⟨f, fd, ps, c, hm, F, hb⟩ := me
  refine getmeth_ok I1 ea c hm l ?_
  exact PySem.W.callWith_K0 (first := [.ref a]) I1.kIn hm.kp (run_fn (us := [.ref a]) (vs := [.ref a]) F (hr.mono hk) hb .nil pass0 I1 (.cons rfl .nil) (by rw [List.append_nil]; exact q))
/-- B.f(..), B a class of the program, f a def of it -/
theorem pe_clsfn {x : Str} {C0 f : Addr} {fd : FuncData} {ps : List Str} {sp : Sp} {CX : CXT} {E : XK} {pl : Sem Bool} (F : FnOk X.prog X.w X.K X.mg X.base CX k f fd ps sp) (hr : Room k X.A) (hb : Binds X.K fd ps []) (hx : Passes CX X E) (hg : Gl X x) (hm : X.mg x = some (.ref C0))
    (sg : PySem.W.specialIn X.K (.ref C0) "__getattribute__" = some (some (.builtin "type.__getattribute__"))) (rd : PySem.W.readsIn X.K C0 (.type "type") = true)
    (fc : PySem.W.findCls X.K (.ref C0) (.type "type") m = some (.val (.ref f))) (hk : PySem.W.keepIn X.K (.ref f) = true) (ha : PA X (e :: es) t) (hdb : (x == ("__debug__" : Str)) = false := by decide)
    (hc : eval (.Call (.Attribute (.Name x p1) m p2) (e :: es) [] pos) X.env = (do
      let ov ← eval (.Name x p1) X.env
      standAt p2.atName
      let (f, first) ← holding [ov] (getMethod ov m pl)
      callWith pos f first (backTo pos (starEach (e :: es) X.env)) (backToKw pos (keywordEach [] X.env))) := by rfl)
    (he : starEach (e :: es) X.env = (false, eval e X.env) :: starEach es X.env := by rfl) (hpl : (backTo pos (starEach es X.env)).any (·.1) = false := by rfl) :
    PE X (.Call (.Attribute (.Name x p1) m p2) (e :: es) [] pos) (tCall sp [] E t) := by
  refine ⟨fun pins s σ H Q I h => ?_⟩
  refine PySem.W.methodCall_KW (ld_glob I hg hm ?_ hdb) hc
  refine PySem.W.method_cls I.kIn sg (PySem.W.cls_value I.kIn rd fc rfl ?_)
  refine PySem.W.callWith_K (first := []) (h₀ := X.base) I.ok.mod.kin hk (thn (ha.run pos pins _ σ H _ (I.tok _) h) fun us s1 ⟨vs, H1, I1, r, q⟩ => ⟨I1.kIn, ?_⟩) he hpl
  exact run_fn F hr hb .nil hx I1 r q
end
end L2
namespace Wk
open PySem PySem.Spec L2 Evl
/-- the names of all attributes -/
def FLD : List Str := (["name", "wide_own", "high_own", "grow", "shrink", "rank", "group", "parts", "wishes", "gap", "align", "side", "columns", "spans"] : List Str) ++ (["cells", "many", "words", "joint", "sides", "anchors", "leasts", "reasons", "free", "past", "notes", "wide", "across", "widths"] : List Str) ++ (["high", "down", "boxes", "old_boxes", "elders", "old_elders", "where", "old_where", "measures", "old_measures", "kind", "said", "text", "kept_trees"] : List Str)
/-- the class of a name -/
structure CT (K : Fg) (n : Str) (C : Addr) : Prop where
  at_ : PySem.W.nsIn K mainGlobals n = some (some (.ref C))
  cl : Cls K C
theorem CT.eq {K : Fg} {n : Str} {C D : Addr} (h : CT K n C) (g : CT K n D) : C = D := by
  have := h.at_.symm.trans g.at_
  cases this
  rfl
/-- a box: its class, its attributes but the parts, its parts -/
inductive Bx where
  | mk (cls : Str) (fl : List (Str × PyData)) (parts : List Bx)
def Bx.cls : Bx → Str | .mk c _ _ => c
def Bx.fl : Bx → List (Str × PyData) | .mk _ f _ => f
def Bx.parts : Bx → List Bx | .mk _ _ p => p
/-- attributes that are data -/
def Fls (K : Fg) (H : Hp) (C : Addr) (hs : List (Str × V)) (fl : List (Str × PyData)) : Prop := ∀ f d, fl.lookup f = some d → f ∈ FLD ∧ NoAttr K C f ∧ ∃ v, hs.lookup f = some v ∧ Dq H v d
theorem Fls.swap {K : Fg} {H H' : Hp} {C : Addr} {hs : List (Str × V)} {fl : List (Str × PyData)} (e : Sw H H') (h : Fls K H C hs fl) : Fls K H' C hs fl := fun f d l => by
  obtain ⟨a, b, v, c, d⟩ := h f d l
  exact ⟨a, b, v, c, d.swap e⟩
mutual
inductive Bq (K : Fg) (H : Hp) : V → Bx → Prop
  | mk {a C dx p : Addr} {hs : List (Str × V)} {ws : List V} {n : Str} {fl : List (Str × PyData)} {ps : List Bx} : CT K n C → H a = some (.ins C dx hs) → Fls K H C hs fl → NoAttr K C "parts" → hs.lookup ("parts" : Str) = some (.ref p) → (∀ m, m ∉ FLD → hs.lookup m = none) → H p = some (.lst ws) → BqAll K H ws ps → Bq K H (.ref a) (.mk n fl ps)
inductive BqAll (K : Fg) (H : Hp) : List V → List Bx → Prop
  | nil : BqAll K H [] []
  | cons {v : V} {vs : List V} {b : Bx} {bs : List Bx} : Bq K H v b → BqAll K H vs bs → BqAll K H (v :: vs) (b :: bs)
end
theorem Sw.ins {H H' : Hp} (e : Sw H H') {q C dx : Addr} {fs : List (Str × V)} (h : H q = some (.ins C dx fs)) : H' q = some (.ins C dx fs) := e.keep h (fun z => z) (fun _ _ z => nomatch z)
theorem Bq.swap {K : Fg} {H H' : Hp} (e : Sw H H') {v : V} {b : Bx} (h : Bq K H v b) : Bq K H' v b :=
  Bq.rec (motive_1 := fun v b _ => Bq K H' v b) (motive_2 := fun vs bs _ => BqAll K H' vs bs) (fun c h1 h2 h3 h4 h5 h6 _ ih => .mk c (e.ins h1) (h2.swap e) h3 h4 h5 (e.lst h6) ih) .nil (fun _ _ h1 h2 => .cons h1 h2) h
theorem BqAll.swap {K : Fg} {H H' : Hp} (e : Sw H H') {v : List V} {b : List Bx} (h : BqAll K H v b) : BqAll K H' v b :=
  BqAll.rec (motive_1 := fun v b _ => Bq K H' v b) (motive_2 := fun vs bs _ => BqAll K H' vs bs) (fun c h1 h2 h3 h4 h5 h6 _ ih => .mk c (e.ins h1) (h2.swap e) h3 h4 h5 (e.lst h6) ih) .nil (fun _ _ h1 h2 => .cons h1 h2) h
instance : Rp Bx := { rep := Bq, swap := fun e h => h.swap e }
theorem bq_paired {K : Fg} {H : Hp} : ∀ {vs : List V} {bs : List Bx}, BqAll K H vs bs → Paired (rep K H) vs bs
  | _, _, .nil => .nil
  | _, _, .cons h t => .cons h (bq_paired t)
theorem bq_all {K : Fg} {H : Hp} : ∀ {vs : List V} {bs : List Bx}, Paired (rep K H) vs bs → BqAll K H vs bs
  | _, _, .nil => .nil
  | _, _, .cons h t => .cons h (bq_all t)
/-- an attribute -/
def bxf (b : Bx) (f : Str) : Option Dy := (b.fl.lookup f).map Dy.mk
section
variable {K : Fg} {F Kn0 : Hp} {sl sl' : List Sl} {ow ow1 : List Ow} {α τ : Type} [Rp α] [Tp τ] {te : TE} {ta : TA} {b : Bx} {t : τ} {r : α}
theorem ev_bxf {f : Str} {d : Dy} (h : EV K F Kn0 sl ow te b) (e : bxf b f = some d) : EV K F Kn0 sl ow (tFld K te f) d := fun σ Kn H s Q q => h σ Kn H s _ fun v Kn' H' g rr => by
  obtain ⟨x, e1, rfl⟩ := Option.map_eq_some_iff.mp e
  cases (show Bq K Kn' v b from rr) with
  | mk c h1 h2 h3 h4 h5 h6 h7 =>
    obtain ⟨_, no, u, l, dq⟩ := h2 f x e1
    exact ⟨_, _, _, _, u, rfl, g.kh _ _ h1, c.cl, no, l, q u Kn' H' g dq⟩
theorem ev_bxp (h : EV K F Kn0 sl ow te b) : EV K F Kn0 sl ow (tFld K te "parts") b.parts := fun σ Kn H s Q q => h σ Kn H s _ fun v Kn' H' g rr => by
  cases (show Bq K Kn' v b from rr) with
  | mk c h1 h2 h3 h4 h5 h6 h7 => exact ⟨_, _, _, _, _, rfl, g.kh _ _ h1, c.cl, h3, h4, q _ Kn' H' g ⟨_, _, rfl, h6, bq_paired h7⟩⟩
/-- o.m(..), o a box -/
theorem ev_dm {P : Program} {w : World} {mg : Str → Option Value} {base : Heap} {k : Nat} {m : Str} {f : Bx × τ → Option α} (hd : f (b, t) = some r ∧ ∀ C, CT K b.cls C → Mt P w K mg base k C m (PF (τ := Bx × τ) K f)) (hm : m ∉ FLD) (h : EV K F Kn0 sl ow te b) (ha : EA K F Kn0 sl ow ta t) :
    EV K F Kn0 sl ow (tDM P w K mg base k m te ta) r := fun σ Kn H s Q q => h σ Kn H s _ fun v Kn1 H1 g1 rr => by
  have rr2 := rr
  cases (show Bq K Kn1 v b from rr) with
  | mk c h1 h2 h3 h4 h5 h6 h7 =>
    refine ⟨_, _, _, _, _, rfl, g1.kh _ _ h1, h5 m hm, hd.2 _ c, ha σ Kn1 H1 (s.grow g1) _ fun vs Kn2 H2 g2 r2 => ?_⟩
    exact ⟨Kn2, (_, t), r, g2.kh, ⟨_, vs, rfl, Rp.mono g2.kk rr2, r2⟩, hd.1, fun u Kn3 H3 g3 r3 => q u Kn3 H3 ((g1.trans g2).trans g3) r3⟩
/-- isinstance(e, C), e a box -/
structure Ic (K : Fg) (C : Addr) : Prop where
  ha : PySem.W.findIn K (.ref C) "__class__" = some (some (.builtin "object.__class__"))
  hm : PySem.W.mroIn K C (.type "object") = some true
structure Ig (K : Fg) : Prop where
  hn : PySem.W.specialIn K (.builtin "object.__class__") "__get__" = some (some (.builtin "getset_descriptor.__get__"))
  tk : PySem.W.takesIn K (.builtin "object.__class__") = some true
theorem ev_isB {D : Addr} {tc : TE} {y : Bool} (ig : Ig K) (hd : ∀ C, CT K b.cls C → Ic K C ∧ PySem.W.kitOne K (.ref C) (.ref D) = some y) (h : EV K F Kn0 sl ow te b) (hc : tc = tC (.ref D)) :
    EV K F Kn0 sl ow (tCB (rIsi K) (tCons te (tCons tc tNil))) y := fun σ Kn H s Q q => h σ Kn H s _ fun v Kn1 H1 g1 rr => by
  subst hc
  cases (show Bq K Kn1 v b from rr) with
  | @mk a C dx p hs ws n fl ps c h1 h2 h3 h4 h5 h6 h7 =>
    obtain ⟨ic, kt⟩ := hd C c
    exact ⟨.ref a, .ref D, .ref C, .ref D, y, rfl, .own D, .base (.ins (g1.kh _ _ h1) c.cl ic.ha ig.hn ig.tk ic.hm), kt, q _ Kn1 H1 g1 rfl⟩
end
/-! ### groups of things that a def changes -/
def adsO (os : List Ow) : List Addr := os.map Ow.ad
def PMG {γ α τ : Type} [Rp α] [Tp τ] (K : Fg) (mk : (Nat → Addr) → List V → List V) (os : (Nat → Addr) → γ → List Ow) (f : γ → τ → Option (α × γ)) : Sp := fun vs H Q _ => ∃ Kn ps rest t x r x', vs = mk ps rest ∧ Ex Kn H ∧ (adsO (os ps x)).Nodup ∧ (∀ o ∈ os ps x, Kn o.ad = none ∧ o.ok K Kn H) ∧ rept K Kn rest t ∧ f x t = some (r, x') ∧
  ∀ v Kn' H', Ex Kn Kn' → Ex Kn' H' → (∀ a, a ∉ adsO (os ps x) → H a ≠ none → H' a = H a) → (∀ a, H a ≠ none → Kn a = none → Kn' a = none) → (∀ o ∈ os ps x', o.ok K Kn' H') → rep K Kn' v r → Q v H'
/-- all but some -/
def buts (H : Hp) (as : List Addr) : Hp := fun a => if a ∈ as then none else H a
section
variable {K : Fg} {F Kn0 : Hp} {sl : List Sl} {ow : List Ow} {α τ γ : Type} [Rp α] [Tp τ]
theorem enterG {σ : L2.St} {Kn H : Hp} {D : Ends} {t : TS} {os : List Ow} (ek : Ex Kn H) (nd : (adsO os).Nodup) (ho : ∀ o ∈ os, Kn o.ad = none ∧ o.ok K Kn H) (hs : SlsOk K Kn sl σ) (h : SB K (buts H (adsO os)) Kn sl os D t) : t D σ H :=
  h σ Kn H ⟨Ex.refl _, ek, fun a u e => by
    unfold buts at e
    split at e
    · cases e
    · exact e, fun _ _ h => h, hs, ⟨fun o hm => ⟨if_pos (List.mem_map.mpr ⟨o, hm, rfl⟩), (ho o hm).1, (ho o hm).2⟩, nd⟩⟩
theorem rt_ofG {H Kn : Hp} {r : α} {os os' : List Ow} {Q : VK} (hn : ∀ o ∈ os, Kn o.ad = none) (e : adsO os' = adsO os)
    (qq : ∀ v Kn' H', Ex Kn Kn' → Ex Kn' H' → (∀ a, a ∉ adsO os → H a ≠ none → H' a = H a) → (∀ a, H a ≠ none → Kn a = none → Kn' a = none) → (∀ o ∈ os', o.ok K Kn' H') → rep K Kn' v r → Q v H') :
    RT K (buts H (adsO os)) Kn os' Q r := fun v Kn' H' s rv => by
  have eb : ∀ a, a ∉ adsO os → buts H (adsO os) a = H a := fun a ha => if_neg ha
  refine qq v Kn' H' s.e0 s.ek (fun a ha hn => ?_) (fun a hn hk => ?_) (fun o ho => (s.ow.each o ho).2.2) rv
  · exact (Ex.at_eq s.ef (by rw [eb a ha]; exact hn)).trans (eb a ha)
  · by_cases ha : a ∈ adsO os
    · rw [← e] at ha
      obtain ⟨o, ho, rfl⟩ := List.mem_map.mp ha
      exact (s.ow.each o ho).2.1
    · exact s.sep a (by rw [eb a ha]; exact hn) hk
/-- a group exchanged -/
theorem S.writeGs {σ : L2.St} {Kn H Kn' H' : Hp} {A B os os' : List Ow} (s : S K F Kn0 sl (A ++ os ++ B) σ Kn H) (e : adsO os' = adsO os)
    (kk : Ex Kn Kn') (kh : Ex Kn' H') (hq : ∀ a, a ∉ adsO os → H a ≠ none → H' a = H a) (sp : ∀ a, H a ≠ none → Kn a = none → Kn' a = none) (h1 : ∀ o ∈ os', o.ok K Kn' H') : S K F Kn0 sl (A ++ os' ++ B) σ Kn' H' := by
  have ein : ∀ a ∈ adsO os, F a = none ∧ Kn a = none ∧ H a ≠ none := fun a ha => by
    obtain ⟨o, ho, rfl⟩ := List.mem_map.mp ha
    obtain ⟨f1, f2, f3⟩ := s.ow.each o (List.mem_append_left _ (List.mem_append_right _ ho))
    exact ⟨f1, f2, Ow.there f3⟩
  have nd := s.ow.nd
  rw [List.map_append, List.map_append] at nd
  have out : ∀ o, o ∈ A ∨ o ∈ B → o.ad ∉ adsO os := fun o ho hm => by
    rcases ho with ho | ho
    · have := (List.nodup_append.mp (List.nodup_append.mp nd).1).2.2
      exact this _ (List.mem_map.mpr ⟨o, ho, rfl⟩) _ hm rfl
    · have := (List.nodup_append.mp nd).2.2
      exact this _ (List.mem_append_right _ hm) _ (List.mem_map.mpr ⟨o, ho, rfl⟩) rfl
  have keep : ∀ o, o ∈ A ∨ o ∈ B → F o.ad = none ∧ Kn' o.ad = none ∧ o.ok K Kn' H' := fun o ho => by
    have hm : o ∈ A ++ os ++ B := by
      rcases ho with ho | ho
      · exact List.mem_append_left _ (List.mem_append_left _ ho)
      · exact List.mem_append_right _ ho
    obtain ⟨f1, f2, f3⟩ := s.ow.each o hm
    have h4 := Ow.there f3
    exact ⟨f1, sp _ h4 f2, Ow.ok_mono kk (hq _ (out o ho) h4) f3⟩
  refine ⟨s.e0.trans kk, kh, fun a u h => ?_, fun a h1 h2 => sp a (Ex.nn s.ef h1) (s.sep a h1 h2), s.sl.mono kk, ⟨fun o ho => ?_, ?_⟩⟩
  · have n1 : a ∉ adsO os := fun z => by rw [(ein a z).1] at h; cases h
    rw [hq a n1 (ne_none_of (s.ef _ _ h))]
    exact s.ef _ _ h
  · rcases List.mem_append.mp ho with ho | ho
    · rcases List.mem_append.mp ho with ho | ho
      · exact keep o (.inl ho)
      · have hm : o.ad ∈ adsO os := e ▸ List.mem_map.mpr ⟨o, ho, rfl⟩
        obtain ⟨a1, a2, a3⟩ := ein _ hm
        exact ⟨a1, sp _ a3 a2, h1 o ho⟩
    · exact keep o (.inr ho)
  · rw [List.map_append, List.map_append, show os'.map Ow.ad = os.map Ow.ad from e]
    exact nd
/-- a call that changes a group -/
theorem em_callG {mk : (Nat → Addr) → List V → List V} {os : (Nat → Addr) → γ → List Ow} {f : γ → τ → Option (α × γ)} {ta : TA} {t : τ} {E : XK} {x x' : γ} {r : α} {ps : Nat → Addr} {ow1 A B : List Ow} (h : EMx K F Kn0 sl ow ta t (mk ps)) (hj : ow = A ++ os ps x ++ B) (he : A ++ os ps x' ++ B = ow1) (hd : adsO (os ps x') = adsO (os ps x))
    (hf : f x t = some (r, x')) : EM K F Kn0 sl ow (tCall (PMG K mk os f) [] E ta) ow1 r := fun σ Kn H s Q qq => h σ Kn H s _ fun vs Kn1 H1 g1 r1 => by
  subst hj
  subst he
  have s1 := s.grow g1
  show PMG K mk os f (mk ps vs ++ []) H1 Q E
  rw [List.append_nil]
  have nd := s1.ow.nd
  rw [List.map_append, List.map_append] at nd
  refine ⟨Kn1, ps, vs, t, x, r, x', rfl, s1.ek, (List.nodup_append.mp (List.nodup_append.mp nd).1).2.1, fun o ho => ?_, r1, hf, fun v Kn' H' kk kh hq sp h1 rv => qq v Kn' H' (g1.kk.trans kk) (s1.writeGs hd kk kh hq sp h1) rv⟩
  obtain ⟨f1, f2, f3⟩ := s1.ow.each o (List.mem_append_left _ (List.mem_append_right _ ho))
  exact ⟨f2, f3⟩
end
theorem fnok_noneG {P : Program} {w : World} {K : Fg} {mg : Str → Option Value} {base : Heap} {CX : CXT} {k : Nat} {f : Addr} {fd : FuncData} {ps : List Str} {τ α γ : Type} [Tp τ] [Rp α] {mk : (Nat → Addr) → List V → List V} {os : (Nat → Addr) → γ → List Ow} :
    FnOk P w K mg base CX k f fd ps (PMG K mk os (fun _ (_ : τ) => (none : Option (α × γ)))) := by
  refine ⟨fun vs H Q E h => ?_, fun A outer s H args us vs Q E hr he hb hv h => ?_⟩
  · obtain ⟨_, _, _, _, _, _, _, _, _, _, _, _, h, _⟩ := h
    cases h
  · obtain ⟨_, _, _, _, _, _, _, _, _, _, _, _, h, _⟩ := h
    cases h
/-! ### a box that is being made -/
structure Ib where
  cls : Str
  n : Nat
  fl : List (Str × PyData)
  ps : Option (List Bx)
def Ib.put (x : Ib) (f : Str) (d : Dy) : Ib := ⟨x.cls, x.n + 1, (f, d.d) :: x.fl, x.ps⟩
def Ib.putP (x : Ib) (l : List Bx) : Ib := ⟨x.cls, x.n + 1, x.fl, some l⟩
instance : Ob Ib where
  ob K Kn o x := ∃ C dx hs, o = .ins C dx hs ∧ CT K x.cls C ∧ hs.length ≤ x.n ∧ Fls K Kn C hs x.fl ∧ (∀ l, x.ps = some l → NoAttr K C "parts" ∧ ∃ p ws, hs.lookup ("parts" : Str) = some (.ref p) ∧ Kn p = some (.lst ws) ∧ BqAll K Kn ws l) ∧ ∀ m, m ∉ FLD → hs.lookup m = none
  swap e h := by
    obtain ⟨C, dx, hs, h1, h2, h3, h4, h5, h6⟩ := h
    refine ⟨C, dx, hs, h1, h2, h3, h4.swap e, fun l hl => ?_, h6⟩
    obtain ⟨no, p, ws, a, b, c⟩ := h5 l hl
    exact ⟨no, p, ws, a, e.lst b, c.swap e⟩
/-- made -/
def Ib.box (x : Ib) : Option Bx := x.ps.map fun l => .mk x.cls x.fl l
section
variable {K : Fg} {F Kn0 : Hp} {sl sl' : List Sl} {ow ow1 : List Ow} {D : Ends} {te tv : TE} {i j : Nat} {p : Addr} {x : Ib}
theorem lookC {β : Type} (f g : Str) (y : β) (fs : List (Str × β)) : ((f, y) :: fs).lookup g = if g = f then some y else fs.lookup g := by
  by_cases h : g = f
  · subst h
    simp [List.lookup]
  · have e : (g == f) = false := by simpa using h
    rw [if_neg h]
    simp [List.lookup, e]
theorem ins_len {f : Str} {y : V} {hs : List (Str × V)} {n : Nat} (h : hs.length ≤ n) : (putF f y hs).length ≤ n + 1 := by
  have := length_putF f y hs
  omega
theorem fld_out {f m : Str} {y : V} {hs : List (Str × V)} (hf : f ∈ FLD) (h : ∀ m, m ∉ FLD → hs.lookup m = none) (hm : m ∉ FLD) : (putF f y hs).lookup m = none := by
  rw [lookup_putF, if_neg (fun z : m = f => hm (by rw [z]; exact hf))]
  exact h m hm
/-- self.f = e -/
theorem sb_putF {f : Str} {d : Dy} {x' : Ib} (hi : sl[i]? = some (.at p)) (hj : ow[j]? = some (oo p x)) (hx : x.put f d = x') (no : ∀ C, CT K x.cls C → NoAttr K C f) (hf : f ∈ FLD) (hp : f ≠ "parts") (hl : x.n < 900) (h : EV K F Kn0 sl ow tv d)
    (k : SN K F Kn0 sl (ow.set j (oo p x')) D) : SB K F Kn0 sl ow D (sFld K (tVar i) tv f) := fun σ Kn H s => h σ Kn H s _ fun v Kn1 H1 g rv => by
  subst hx
  have s1 := s.grow g
  obtain ⟨o, h1, h2⟩ := s1.sl.get hi
  have h2 : o = some (.ref p) := h2
  obtain ⟨f1, f2, ob, f3, C, dx, hs, e1, ct, le, fls, pts, out⟩ := s1.ow.each _ (List.mem_of_getElem? hj)
  have e1 : ob = .ins C dx hs := e1
  have f3 : H1 p = some ob := f3
  have f2 : Kn1 p = none := f2
  have le : hs.length ≤ x.n := le
  subst e1
  refine ⟨.ref p, by rw [h1, h2], p, C, dx, hs, rfl, f3, ct.cl, no C ct, by omega, ?_⟩
  refine k _ Kn1 _ (s1.writeG hj rfl rfl (Ex.refl _) (fun a u e => ?_) (fun a ha _ => upd_ne ha) (fun _ _ h => h) ?_)
  · have hne : a ≠ p := fun z => by rw [z, f2] at e; cases e
    rw [upd_ne hne]
    exact s1.ek _ _ e
  · refine ⟨_, upd_same, C, dx, _, rfl, ct, ins_len le, fun g y e => ?_, fun l hl => ?_, fun m hm => fld_out hf out hm⟩
    · have e : ((f, d.d) :: x.fl).lookup g = some y := e
      rw [lookC] at e
      by_cases z : g = f
      · rw [if_pos z] at e
        cases e
        subst z
        exact ⟨hf, no C ct, v, by rw [lookup_putF, if_pos rfl], rv⟩
      · rw [if_neg z] at e
        obtain ⟨a, b, u, c, q⟩ := fls g y e
        exact ⟨a, b, u, by rw [lookup_putF, if_neg z]; exact c, q⟩
    · obtain ⟨a, q, ws, b, c⟩ := pts l hl
      exact ⟨a, q, ws, by rw [lookup_putF, if_neg (Ne.symm hp)]; exact b, c⟩
/-- self.parts = list(..) -/
theorem sb_putP {l : List Bx} {x' : Ib} (hi : sl[i]? = some (.at p)) (hj : ow[j]? = some (oo p x)) (hx : x.putP l = x') (no : ∀ C, CT K x.cls C → NoAttr K C "parts") (hn : x.fl.lookup ("parts" : Str) = none) (hl : x.n < 900) (h : EV K F Kn0 sl ow tv l)
    (k : SN K F Kn0 sl (ow.set j (oo p x')) D) : SB K F Kn0 sl ow D (sFld K (tVar i) tv "parts") := fun σ Kn H s => h σ Kn H s _ fun v Kn1 H1 g rv => by
  subst hx
  have s1 := s.grow g
  obtain ⟨o, h1, h2⟩ := s1.sl.get hi
  have h2 : o = some (.ref p) := h2
  obtain ⟨f1, f2, ob, f3, C, dx, hs, e1, ct, le, fls, pts, out⟩ := s1.ow.each _ (List.mem_of_getElem? hj)
  have e1 : ob = .ins C dx hs := e1
  have f3 : H1 p = some ob := f3
  have f2 : Kn1 p = none := f2
  have le : hs.length ≤ x.n := le
  subst e1
  obtain ⟨q, ws, rfl, hq, rq⟩ := rv
  refine ⟨.ref p, by rw [h1, h2], p, C, dx, hs, rfl, f3, ct.cl, no C ct, by omega, ?_⟩
  refine k _ Kn1 _ (s1.writeG hj rfl rfl (Ex.refl _) (fun a u e => ?_) (fun a ha _ => upd_ne ha) (fun _ _ h => h) ?_)
  · have hne : a ≠ p := fun z => by rw [z, f2] at e; cases e
    rw [upd_ne hne]
    exact s1.ek _ _ e
  · refine ⟨_, upd_same, C, dx, _, rfl, ct, ins_len le, fun g y e => ?_, fun l2 hl => ?_, fun m hm => fld_out (by decide +kernel) out hm⟩
    · have e : x.fl.lookup g = some y := e
      obtain ⟨a, b, u, c, q⟩ := fls g y e
      have z : g ≠ "parts" := fun z => by rw [z, hn] at e; cases e
      exact ⟨a, b, u, by rw [lookup_putF, if_neg z]; exact c, q⟩
    · have hl : some l = some l2 := hl
      cases hl
      exact ⟨no C ct, q, ws, by rw [lookup_putF, if_pos rfl], hq, bq_all rq⟩
/-- an attribute of what is being made -/
theorem ev_ibf {f : Str} {d : PyData} (hi : sl[i]? = some (.at p)) (hj : ow[j]? = some (oo p x)) (e : x.fl.lookup f = some d) : EV K F Kn0 sl ow (tFld K (tVar i) f) (Dy.mk d) := fun σ Kn H s Q q => by
  obtain ⟨o, h1, h2⟩ := s.sl.get hi
  have h2 : o = some (.ref p) := h2
  obtain ⟨f1, f2, ob, f3, C, dx, hs, e1, ct, le, fls, pts, out⟩ := s.ow.each _ (List.mem_of_getElem? hj)
  have e1 : ob = .ins C dx hs := e1
  have f3 : H p = some ob := f3
  subst e1
  obtain ⟨a, b, u, c, dq⟩ := fls f d e
  exact ⟨.ref p, by rw [h1, h2], p, C, dx, hs, u, rfl, f3, ct.cl, b, c, q u Kn H (Gr.refl s.ek) dq⟩
end
/-- C(..): a new box -/
def osB : (Nat → Addr) → Ib → List Ow := fun ps x => [oo (ps 0) x]
def newB {τ : Type} (n : Str) (f : Ib → τ → Option (Nn × Ib)) (t : τ) : Option Bx := (f ⟨n, 0, [], none⟩ t).bind fun r => r.2.box
theorem ev_newB {K : Fg} {F Kn0 : Hp} {sl : List Sl} {ow : List Ow} {τ : Type} [Tp τ] {n : Str} {C : Addr} {mk : (Nat → Addr) → List V → List V} {f : Ib → τ → Option (Nn × Ib)} {ta : TA} {t : τ} {b : Bx} (ct : CT K n C) (hmk : ∀ ps vs, vs.length = Tp.n τ → V.ref (ps 0) :: vs = mk ps vs) (h : EA K F Kn0 sl ow ta t) (e : newB n f t = some b) :
    EV K F Kn0 sl ow (tMake C (PMG K mk osB f) [] E0 ta) b := fun σ Kn H s Q q => h σ Kn H s _ fun vs Kn1 H1 g1 r1 a dx na nd hne => by
  obtain ⟨⟨u, x'⟩, e1, e2⟩ := bind_some e
  have e2 : x'.box = some b := e2
  have k1 : Kn1 a = none := fresh_back g1.kh na
  have k2 : Kn1 dx = none := fresh_back g1.kh nd
  have ek : Ex Kn1 (upd (upd H1 dx (.own a)) a (.ins C dx [])) := g1.kh.trans ((Ex.new nd).trans (Ex.new (by rw [upd_ne hne.symm]; exact na)))
  show PMG K mk osB f (.ref a :: (vs ++ [])) _ _ _
  rw [List.append_nil, hmk (fun _ => a) vs (Tp.len r1)]
  refine ⟨Kn1, fun _ => a, vs, t, ⟨n, 0, [], none⟩, u, x', rfl, ek, List.nodup_cons.mpr ⟨(fun h => nomatch h), List.nodup_nil⟩, fun o ho => ?_, r1, e1, fun v Kn' H' kk kh hq sp ho rv => ?_⟩
  · cases List.mem_singleton.mp ho
    exact ⟨k1, _, upd_same, C, dx, [], rfl, ct, Nat.le_refl _, (fun g y e => nomatch e), (fun l hl => nomatch hl), fun m _ => rfl⟩
  · cases (show v = .non from rv)
    refine ⟨rfl, ?_⟩
    obtain ⟨o, ha, C2, dx2, hs, eo, ct2, le, fls, pts, out⟩ := ho _ (List.mem_singleton.mpr rfl)
    have ha : H' a = some o := ha
    have eo : o = .ins C2 dx2 hs := eo
    subst eo
    obtain ⟨l, hl, rfl⟩ := Option.map_eq_some_iff.mp e2
    obtain ⟨no, p, ws, a1, a2, a3⟩ := pts l hl
    have ka : Kn' a = none := sp a (by rw [upd_same]; exact fun z => nomatch z) k1
    have hkeep : ∀ c, H1 c ≠ none → H' c = H1 c := fun c hc => by
      have c1 : c ≠ a := fun z => hc (z ▸ na)
      have c2 : c ≠ dx := fun z => hc (z ▸ nd)
      have e3 : upd (upd H1 dx (.own a)) a (.ins C dx []) c = H1 c := by rw [upd_ne c1, upd_ne c2]
      rw [← e3]
      refine hq c (fun z => c1 (List.mem_singleton.mp z)) ?_
      rw [e3]
      exact hc
    have gg : Gr Kn1 H1 Kn' H' := ⟨kk, fun c w hc => by rw [hkeep c (ne_none_of hc)]; exact hc, kh, fun c hc hk => by
      refine sp c ?_ hk
      have c1 : c ≠ a := fun z => hc (z ▸ na)
      have c2 : c ≠ dx := fun z => hc (z ▸ nd)
      rw [upd_ne c1, upd_ne c2]
      exact hc⟩
    have ex := (Ex.new (o := HO.ins C2 dx2 hs) ka)
    refine q _ _ H' ((g1.trans gg).know (fresh_back g1.hh na) ka ha) ?_
    exact Bq.mk ct2 upd_same (fls.swap (.of ex)) no a1 out (ex _ _ a2) (a3.swap (.of ex))
end Wk
namespace Wk
open PySem PySem.Spec L2 Evl
def putK (ks : List Str) (x : Ib) (f : Str) (d : Dy) : Option Ib := if x.cls ∈ ks ∧ x.n < 900 then some (x.put f d) else none
def putPK (ks : List Str) (x : Ib) (l : List Bx) : Option Ib := if (x.cls ∈ ks ∧ x.n < 900) ∧ x.fl.lookup ("parts" : Str) = none then some (x.putP l) else none
section
variable {K : Fg} {F Kn0 : Hp} {sl sl' : List Sl} {ow ow1 : List Ow} {D : Ends} {te tv : TE} {i j : Nat} {p : Addr} {x x' : Ib} {ks : List Str}
theorem sb_putFK {f : Str} {d : Dy} (hi : sl[i]? = some (.at p)) (hj : ow[j]? = some (oo p x)) (no : ∀ n ∈ ks, ∀ C, CT K n C → NoAttr K C f) (hf : f ∈ FLD) (hp : f ≠ "parts") (h : EV K F Kn0 sl ow tv d) (hx : putK ks x f d = some x') (ho : ow.set j (oo p x') = ow1)
    (k : SN K F Kn0 sl ow1 D) : SB K F Kn0 sl ow D (sFld K (tVar i) tv f) := by
  unfold putK at hx
  split at hx
  case isFalse => cases hx
  rename_i hk
  exact sb_putF hi hj (Option.some.inj hx) (no _ hk.1) hf hp hk.2 h (ho ▸ k)
theorem sb_putPK {l : List Bx} (hi : sl[i]? = some (.at p)) (hj : ow[j]? = some (oo p x)) (no : ∀ n ∈ ks, ∀ C, CT K n C → NoAttr K C "parts") (h : EV K F Kn0 sl ow tv l) (hx : putPK ks x l = some x') (ho : ow.set j (oo p x') = ow1)
    (k : SN K F Kn0 sl ow1 D) : SB K F Kn0 sl ow D (sFld K (tVar i) tv "parts") := by
  unfold putPK at hx
  split at hx
  case isFalse => cases hx
  rename_i hk
  exact sb_putP hi hj (Option.some.inj hx) (no _ hk.1.1) hk.2 hk.1.2 h (ho ▸ k)
theorem ev_ibfO {f : Str} {d : Dy} (hi : sl[i]? = some (.at p)) (hj : ow[j]? = some (oo p x)) (e : (x.fl.lookup f).map Dy.mk = some d) : EV K F Kn0 sl ow (tFld K (tVar i) f) d := by
  obtain ⟨y, e1, rfl⟩ := Option.map_eq_some_iff.mp e
  exact ev_ibf hi hj e1
end
end Wk
namespace L2
open PySem PySem.Spec PyProof.Rows
section
variable {X : Cx} {e o value : Expr} {es : List Expr} {ta tv : TE} {t : TA} {pos pos' apos : Pos} {f m : Str} {K : PySem.W.Frag} {P : Program} {w : World} {mg : Str → Option Value} {base : Heap} {k j : Nat}
theorem k_fld (he : PE X e ta) (hb : attributeBase e f X.env (eval e X.env) = eval e X.env := by rfl) (h : X.K = K := by rfl) : PE X (.Attribute e f pos) (tFld K ta f) := h ▸ pe_fld he hb
theorem k_sfld (ha : PE X o ta) (hv : PE X value tv) (hs : swapsWith value (some (.Attribute o f pos')) pos.line X.env = pure false := by rfl) (h : X.K = K := by rfl) : PS X (.Assign [.Attribute o f pos'] value pos) (sFld K ta tv f) := h ▸ ps_fld ha hv hs
theorem k_dm {pl : Sem Bool} (hr : Room j X.A) (hk : k ≤ j) (he : PE X o ta) (ha : PA X (e :: es) t)
    (hst : starEach (e :: es) X.env = (false, eval e X.env) :: starEach es X.env := by rfl) (hpl : (backTo pos (starEach es X.env)).any (·.1) = false := by rfl)
    (ht : eval (.Call (.Attribute o m apos) (e :: es) [] pos) X.env = (do
      let ov ← eval o X.env
      standAt apos.atName
      let (f, first) ← holding [ov] (getMethod ov m pl)
      callWith pos f first (backTo pos (starEach (e :: es) X.env)) (backToKw pos (keywordEach [] X.env))) := by rfl)
    (h1 : X.prog = P := by rfl) (h2 : X.w = w := by rfl) (h3 : X.K = K := by rfl) (h4 : X.mg = mg := by rfl) (h5 : X.base = base := by rfl) :
    PE X (.Call (.Attribute o m apos) (e :: es) [] pos) (tDM P w K mg base k m ta t) := by
  subst h1 h2 h3 h4 h5
  exact pe_dm hr hk he ha hst hpl ht
theorem k_dm0 {pl : Sem Bool} (hr : Room j X.A) (hk : k ≤ j) (he : PE X o ta)
    (ht : eval (.Call (.Attribute o m apos) [] [] pos) X.env = (do
      let ov ← eval o X.env
      standAt apos.atName
      let (f, first) ← holding [ov] (getMethod ov m pl)
      callWith pos f first (backTo pos (starEach [] X.env)) (backToKw pos (keywordEach [] X.env))) := by rfl)
    (h1 : X.prog = P := by rfl) (h2 : X.w = w := by rfl) (h3 : X.K = K := by rfl) (h4 : X.mg = mg := by rfl) (h5 : X.base = base := by rfl) :
    PE X (.Call (.Attribute o m apos) [] [] pos) (tDM P w K mg base k m ta tNil) := by
  subst h1 h2 h3 h4 h5
  exact pe_dm0 hr hk he ht
end
end L2
/-! Wmin: min, max of a list of whole numbers. -/
namespace Wk
open PySem PySem.Spec L2 Evl
def minG : Int → List Int → Int
  | m, [] => m
  | m, x :: xs => minG (min m x) xs
def maxG : Int → List Int → Int
  | m, [] => m
  | m, x :: xs => maxG (max m x) xs
def minL : List Int → Option Int
  | [] => none
  | x :: xs => some (minG x xs)
def maxL : List Int → Option Int
  | [] => none
  | x :: xs => some (maxG x xs)
theorem minG_spec : ∀ (xs : List Int) (m : Int), (minG m xs = m ∨ minG m xs ∈ xs) ∧ minG m xs ≤ m ∧ ∀ x ∈ xs, minG m xs ≤ x
  | [], m => ⟨.inl rfl, Int.le_refl _, (fun _ h => nomatch h)⟩
  | y :: ys, m => by
    obtain ⟨h1, h2, h3⟩ := minG_spec ys (min m y)
    show (minG (min m y) ys = m ∨ minG (min m y) ys ∈ y :: ys) ∧ minG (min m y) ys ≤ m ∧ ∀ x ∈ y :: ys, minG (min m y) ys ≤ x
    refine ⟨?_, by omega, fun x hx => ?_⟩
    · rcases h1 with h1 | h1
      · by_cases e : m ≤ y
        · exact .inl (h1.trans (by omega))
        · exact .inr (by rw [h1, show min m y = y by omega]; exact List.mem_cons_self)
      · exact .inr (List.mem_cons_of_mem _ h1)
    · rcases List.mem_cons.mp hx with rfl | hx
      · omega
      · exact h3 x hx
theorem maxG_spec : ∀ (xs : List Int) (m : Int), (maxG m xs = m ∨ maxG m xs ∈ xs) ∧ m ≤ maxG m xs ∧ ∀ x ∈ xs, x ≤ maxG m xs
  | [], m => ⟨.inl rfl, Int.le_refl _, (fun _ h => nomatch h)⟩
  | y :: ys, m => by
    obtain ⟨h1, h2, h3⟩ := maxG_spec ys (max m y)
    show (maxG (max m y) ys = m ∨ maxG (max m y) ys ∈ y :: ys) ∧ m ≤ maxG (max m y) ys ∧ ∀ x ∈ y :: ys, x ≤ maxG (max m y) ys
    refine ⟨?_, by omega, fun x hx => ?_⟩
    · rcases h1 with h1 | h1
      · by_cases e : y ≤ m
        · exact .inl (h1.trans (by omega))
        · exact .inr (by rw [h1, show max m y = y by omega]; exact List.mem_cons_self)
      · exact .inr (List.mem_cons_of_mem _ h1)
    · rcases List.mem_cons.mp hx with rfl | hx
      · omega
      · exact h3 x hx
theorem minL_spec {xs : List Int} {m : Int} (h : minL xs = some m) : m ∈ xs ∧ ∀ x ∈ xs, m ≤ x := by
  match xs, h with
  | y :: ys, h =>
    cases h
    obtain ⟨h1, h2, h3⟩ := minG_spec ys y
    refine ⟨?_, fun x hx => ?_⟩
    · rcases h1 with h1 | h1
      · rw [h1]
        exact List.mem_cons_self
      · exact List.mem_cons_of_mem _ h1
    · rcases List.mem_cons.mp hx with rfl | hx
      · exact h2
      · exact h3 x hx
theorem maxL_spec {xs : List Int} {m : Int} (h : maxL xs = some m) : m ∈ xs ∧ ∀ x ∈ xs, x ≤ m := by
  match xs, h with
  | y :: ys, h =>
    cases h
    obtain ⟨h1, h2, h3⟩ := maxG_spec ys y
    refine ⟨?_, fun x hx => ?_⟩
    · rcases h1 with h1 | h1
      · rw [h1]
        exact List.mem_cons_self
      · exact List.mem_cons_of_mem _ h1
    · rcases List.mem_cons.mp hx with rfl | hx
      · exact h2
      · exact h3 x hx
theorem rc_minL {K : Fg} {xs : List Int} {m : Int} (hm : minL xs = some m) : RCV K (rMin K) (xs, ()) m := fun Kn H vs ek h Q q => by
  obtain ⟨v, rfl, p, ws, rfl, h1, h2⟩ := one_arg h
  have e := paired_fl h2
  subst e
  obtain ⟨s1, s2⟩ := minL_spec hm
  refine ⟨p, xs, rfl, sq_of (ek _ _ h1), List.length_pos_of_mem s1, fun k hk hle => ?_⟩
  have e : k = m := by
    have := s2 k hk
    have := hle m s1
    omega
  subst e
  exact q.fl ek
theorem rc_maxL {K : Fg} {xs : List Int} {m : Int} (hm : maxL xs = some m) : RCV K (rMax K) (xs, ()) m := fun Kn H vs ek h Q q => by
  obtain ⟨v, rfl, p, ws, rfl, h1, h2⟩ := one_arg h
  have e := paired_fl h2
  subst e
  obtain ⟨s1, s2⟩ := maxL_spec hm
  refine ⟨p, xs, rfl, sq_of (ek _ _ h1), List.length_pos_of_mem s1, fun k hk hle => ?_⟩
  have e : k = m := by
    have := s2 k hk
    have := hle m s1
    omega
  subst e
  exact q.fl ek
section
variable {X : Cx} {K : Fg}
theorem k_maxL (hc : X.calm = true := by rfl) (h : X.K = K := by rfl) : CallR X (.builtin "max") (rMax K) := h ▸ cr_max hc
theorem k_minL (hc : X.calm = true := by rfl) (h : X.K = K := by rfl) : CallR X (.builtin "min") (rMin K) := h ▸ cr_min hc
end
end Wk
/-! lists of one's own, lent where a tuple of plain values comes -/
namespace Wk
open PySem PySem.Spec L2 Evl
def del (Kn : Hp) (p : Addr) : Hp := fun a => if a = p then none else Kn a
theorem del_ne {Kn : Hp} {p a : Addr} (h : a ≠ p) : del Kn p a = Kn a := if_neg h
theorem del_same {Kn : Hp} {p : Addr} : del Kn p p = none := if_pos rfl
class Nl (α : Type) [Rp α] where
  out : ∀ {K : Fg} {Kn : Hp} {p : Addr} {ws : List V} {v : V} {x : α}, Kn p = some (.lst ws) → rep K Kn v x → rep K (del Kn p) v x
class NlT (τ : Type) [Tp τ] where
  out : ∀ {K : Fg} {Kn : Hp} {p : Addr} {ws vs : List V} {t : τ}, Kn p = some (.lst ws) → rept K Kn vs t → rept K (del Kn p) vs t
instance : Nl Int := ⟨fun _ h => h⟩
instance : Nl Bool := ⟨fun _ h => h⟩
instance : Nl Str := ⟨fun _ h => h⟩
instance : NlT Unit := ⟨fun _ h => h⟩
instance {α τ : Type} [Rp α] [Tp τ] [Nl α] [NlT τ] : NlT (α × τ) := ⟨fun e h => by
  obtain ⟨v, r, h1, h2, h3⟩ := h
  exact ⟨v, r, h1, Nl.out e h2, NlT.out e h3⟩⟩
instance {α τ : Type} [Rp α] [Tp τ] [NlT (α × τ)] : Nl (α × τ) := ⟨fun {K Kn p ws v x} e h => by
  obtain ⟨q, vs, h1, h2, h3⟩ := h
  have hne : q ≠ p := fun z => by
    rw [z, e] at h2
    cases h2
  exact ⟨q, vs, h1, (del_ne hne).trans h2, NlT.out (τ := α × τ) e h3⟩⟩
theorem ev_borT {K : Fg} {F Kn0 : Hp} {sl sl' : List Sl} {ow ow1 : List Ow} {α γ : Type} [Rp α] [Rp γ] {te : TE} {i j : Nat} {p : Addr} [Nl γ] {z : γ} {xs : List α} (hi : sl[i]? = some (.at p)) (hj : ow[j]? = some (ol p xs)) (hs : sl.set i (sv xs) = sl') (ho : ow.eraseIdx j = ow1) (h : EV K F Kn0 sl' ow1 te z) : EV K F Kn0 sl ow te z := fun σ Kn H s Q q => by
  obtain ⟨ws, kp, hp, s1⟩ := s.borrow hi hj
  subst hs
  subst ho
  refine h σ _ H s1 Q fun v Kn' H' g r => q v (del Kn' p) H' ⟨fun a u h => ?_, g.hh, fun a u h => ?_, fun a h1 h2 => ?_⟩ (Nl.out (g.kk _ _ upd_same) r)
  · have hne : a ≠ p := fun z => by
      rw [z, kp] at h
      cases h
    rw [del_ne hne]
    exact g.kk _ _ (by rw [upd_ne hne]; exact h)
  · by_cases e : a = p
    · subst e
      rw [del_same] at h
      cases h
    · rw [del_ne e] at h
      exact g.kh _ _ h
  · by_cases e : a = p
    · rw [e]
      exact del_same
    · rw [del_ne e]
      exact g.sp a h1 (by rw [upd_ne e]; exact h2)
end Wk
set_option maxHeartbeats 4000000
/-! Wgrid: a list of one's own whose items are lists of one's own -/
namespace Wk
open PySem PySem.Spec L2 Evl
structure Adr where
  a : Addr
instance : Rp Adr := { rep := fun _ _ v x => v = .ref x.a, swap := fun _ h => h }
instance : Fl Adr := { toV := fun x => .ref x.a, iff := Iff.rfl }
def rowsO {α : Type} [Rp α] (ps : Nat → Addr) : Nat → List (List α) → List Ow
  | _, [] => []
  | k, xs :: r => ol (ps k) xs :: rowsO ps (k + 1) r
def ptsO (ps : Nat → Addr) (n : Nat) : List Adr := (List.range n).map fun k => Adr.mk (ps k)
def gridO {α : Type} [Rp α] (p : Addr) (ps : Nat → Addr) (xss : List (List α)) : List Ow := ol p (ptsO ps xss.length) :: rowsO ps 0 xss
/-- rows[i][j] = x -/
def setG {α : Type} (xss : List (List α)) (i j : Int) (x : α) : Option (List (List α)) := (ixN xss.length i).bind fun k => (xss[k]?).bind fun r => (setI r j x).map fun r' => xss.set k r'
section
variable {K : Fg} {F Kn0 : Hp} {sl sl' : List Sl} {ow ow1 base : List Ow} {α β γ : Type} [Rp α] [Rp β] [Rp γ] {D : Ends} {t : TS} {te tb tb1 tb2 : TE} {tt : TT} {b : Bool} {x : α} {i : Nat} {p : Addr} {ps : Nat → Addr} {xss : List (List α)} {σ : L2.St} {Kn H : Hp}
theorem rows_at : ∀ {xss : List (List α)} {k j : Nat} {xs : List α}, xss[j]? = some xs → (rowsO ps k xss)[j]? = some (ol (ps (k + j)) xs)
  | [], _, _, _, h => by simp at h
  | y :: r, k, 0, xs, h => by
    cases h
    rfl
  | y :: r, k, j + 1, xs, h => by
    have h : r[j]? = some xs := h
    show (rowsO ps (k + 1) r)[j]? = _
    rw [rows_at (k := k + 1) h, show k + 1 + j = k + (j + 1) by omega]
theorem rows_set : ∀ {xss : List (List α)} {k j : Nat} {xs : List α}, (rowsO ps k xss).set j (ol (ps (k + j)) xs) = rowsO ps k (xss.set j xs)
  | [], _, _, _ => rfl
  | y :: r, k, 0, xs => rfl
  | y :: r, k, j + 1, xs => by
    show ol (ps k) y :: (rowsO ps (k + 1) r).set j (ol (ps (k + (j + 1))) xs) = ol (ps k) y :: rowsO ps (k + 1) (r.set j xs)
    rw [show k + (j + 1) = k + 1 + j by omega, rows_set]
theorem rows_app : ∀ {xss : List (List α)} {k : Nat} {xs : List α}, rowsO ps k (xss ++ [xs]) = rowsO ps k xss ++ [ol (ps (k + xss.length)) xs]
  | [], k, xs => rfl
  | y :: r, k, xs => by
    show ol (ps k) y :: rowsO ps (k + 1) (r ++ [xs]) = ol (ps k) y :: (rowsO ps (k + 1) r ++ [ol (ps (k + (r.length + 1))) xs])
    rw [rows_app, show k + (r.length + 1) = k + 1 + r.length by omega]
theorem rows_congr {ps qs : Nat → Addr} : ∀ {xss : List (List α)} {k : Nat}, (∀ j, k ≤ j → j < k + xss.length → ps j = qs j) → rowsO ps k xss = rowsO qs k xss
  | [], _, _ => rfl
  | y :: r, k, h => by
    show ol (ps k) y :: rowsO ps (k + 1) r = ol (qs k) y :: rowsO qs (k + 1) r
    rw [h k (Nat.le_refl _) (by rw [List.length_cons]; omega), rows_congr fun j h1 h2 => h j (by omega) (by rw [List.length_cons]; omega)]
theorem pts_at {n j : Nat} (h : j < n) : (ptsO ps n)[j]? = some (Adr.mk (ps j)) := by
  unfold ptsO
  rw [List.getElem?_map, List.getElem?_range h]
  rfl
theorem pts_len {n : Nat} : (ptsO ps n).length = n := by
  unfold ptsO
  rw [List.length_map, List.length_range]
/-- one of one's own is known from now on -/
theorem S.knowAt {xs : List α} {j : Nat} (s : S K F Kn0 sl ow σ Kn H) (hj : ow[j]? = some (ol p xs)) : ∃ ws, Kn p = none ∧ H p = some (.lst ws) ∧ Paired (rep K Kn) ws xs ∧ S K F Kn0 sl (ow.eraseIdx j) σ (upd Kn p (.lst ws)) H := by
  obtain ⟨f1, f2, ws, f3, f4⟩ := s.ow.each _ (List.mem_of_getElem? hj)
  have s1 := s.sub (List.eraseIdx_sublist ow j)
  have no : ∀ o ∈ ow.eraseIdx j, o.ad ≠ p := fun o hm z => by
    obtain ⟨m, hm'⟩ := List.getElem?_of_mem hm
    rw [List.getElem?_eraseIdx] at hm'
    split at hm'
    · have := ow_at s.ow.nd hm' hj z
      omega
    · have := ow_at s.ow.nd hm' hj z
      omega
  exact ⟨ws, f2, f3, f4, s1.know (o := .lst ws) f1 f2 no f3⟩
theorem erase_mid (o : Ow) : ∀ (base r : List Ow), (base ++ o :: r).eraseIdx base.length = base ++ r
  | [], _ => rfl
  | a :: base, r => by
    show a :: (base ++ o :: r).eraseIdx base.length = a :: (base ++ r)
    rw [erase_mid o base r]
theorem at_mid (o : Ow) : ∀ (base r : List Ow), (base ++ o :: r)[base.length]? = some o
  | [], _ => rfl
  | a :: base, r => at_mid o base r
theorem S.knowRows : ∀ {xss : List (List α)} {k : Nat} {Kn : Hp}, S K F Kn0 sl (base ++ rowsO ps k xss) σ Kn H → ∃ Kn', Ex Kn Kn' ∧ S K F Kn0 sl base σ Kn' H ∧ (∀ j xs, xss[j]? = some xs → rep K Kn' (.ref (ps (k + j))) xs) ∧ ∀ q, Kn q = none → (∀ j, j < xss.length → ps (k + j) ≠ q) → Kn' q = none
  | [], k, Kn, s => ⟨Kn, Ex.refl _, by
    have e : base ++ rowsO ps k ([] : List (List α)) = base := List.append_nil _
    rw [← e]
    exact s, (fun j xs h => by simp at h), fun q h _ => h⟩
  | y :: r, k, Kn, s => by
    have hj : (base ++ rowsO ps k (y :: r))[base.length]? = some (ol (ps k) y) := at_mid _ _ _
    obtain ⟨ws, h1, h2, h3, s1⟩ := s.knowAt hj
    have e : (base ++ rowsO ps k (y :: r)).eraseIdx base.length = base ++ rowsO ps (k + 1) r := erase_mid _ _ _
    rw [e] at s1
    obtain ⟨Kn', e1, s2, e2, e3⟩ := S.knowRows (k := k + 1) s1
    have ex := (Ex.new (o := HO.lst ws) h1)
    refine ⟨Kn', ex.trans e1, s2, fun j xs h => ?_, fun q h hn => ?_⟩
    · cases j with
      | zero =>
        cases h
        exact ⟨ps k, ws, rfl, e1 _ _ upd_same, paired_mono (ex.trans e1) h3⟩
      | succ j =>
        have := e2 j xs h
        rw [show k + 1 + j = k + (j + 1) by omega] at this
        exact this
    · have hk : q ≠ ps k := fun z => hn 0 (by rw [List.length_cons]; omega) z.symm
      refine e3 q ?_ fun j hj => ?_
      · rw [upd_ne hk]
        exact h
      · have := hn (j + 1) (by rw [List.length_cons]; omega)
        rw [show k + (j + 1) = k + 1 + j by omega] at this
        exact this
/-- the grid is known from now on -/
theorem S.knowGrid (s : S K F Kn0 sl (base ++ gridO p ps xss) σ Kn H) (hi : sl[i]? = some (.at p)) : ∃ Kn', Ex Kn Kn' ∧ S K F Kn0 (sl.set i (sv xss)) base σ Kn' H := by
  obtain ⟨o, h1, h2⟩ := s.sl.get hi
  have h2 : o = some (.ref p) := h2
  have e0 : base ++ gridO p ps xss = (base ++ [ol p (ptsO ps xss.length)]) ++ rowsO ps 0 xss := by
    rw [List.append_assoc]
    rfl
  rw [e0] at s
  obtain ⟨Kn1, e1, s1, e2, e3⟩ := S.knowRows s
  have hj : (base ++ [ol p (ptsO ps xss.length)])[base.length]? = some (ol p (ptsO ps xss.length)) := at_mid _ _ _
  obtain ⟨ws, k1, k2, k3, s2⟩ := s1.knowAt hj
  have e : (base ++ [ol p (ptsO ps xss.length)]).eraseIdx base.length = base := by
    rw [erase_mid, List.append_nil]
  rw [e] at s2
  have ex := (Ex.new (o := HO.lst ws) k1)
  have hr : rep K (upd Kn1 p (.lst ws)) (.ref p) xss := by
    refine ⟨p, ws, rfl, upd_same, ?_⟩
    have hl := paired_len k3
    rw [pts_len] at hl
    have key : ∀ (n : Nat) (vs : List V) (yss : List (List α)), (∀ j v, vs[j]? = some v → v = V.ref (ps (n + j))) → (∀ j xs, yss[j]? = some xs → rep K Kn1 (.ref (ps (n + j))) xs) → vs.length = yss.length → Paired (rep K (upd Kn1 p (.lst ws))) vs yss := by
      intro n vs
      induction vs generalizing n with
      | nil =>
        intro yss _ _ hl
        cases yss with
        | nil => exact .nil
        | cons y r => cases hl
      | cons v vs ih =>
        intro yss hv hy hl
        cases yss with
        | nil => cases hl
        | cons y r =>
          have q1 := hv 0 v rfl
          have q2 := hy 0 y rfl
          refine .cons ?_ (ih (n + 1) r (fun j u h => ?_) (fun j xs h => ?_) (Nat.succ.inj hl))
          · rw [q1]
            exact Rp.mono ex q2
          · rw [show n + 1 + j = n + (j + 1) by omega]
            exact hv (j + 1) u h
          · rw [show n + 1 + j = n + (j + 1) by omega]
            exact hy (j + 1) xs h
    refine key 0 ws xss (fun j v h => ?_) (fun j xs h => e2 j xs h) hl
    have hjl : j < xss.length := by
      have := (List.getElem?_eq_some_iff.mp h).1
      omega
    obtain ⟨v', q1, q2⟩ := paired_at k3 (pts_at (ps := ps) hjl)
    rw [h] at q1
    cases q1
    rw [Nat.zero_add]
    exact q2
  have hσ : σ.set i o = σ := by
    refine List.ext_getElem? fun m => ?_
    by_cases e : i = m
    · subst e
      rw [List.getElem?_set_self (List.getElem?_eq_some_iff.mp h1).1, h1]
    · rw [List.getElem?_set_ne e]
  have s3 := s2.set (x := sv xss) (o := o) i ⟨.ref p, h2, hr⟩
  rw [hσ] at s3
  exact ⟨_, e1.trans ex, s3⟩
theorem sb_frzQ (hi : sl[i]? = some (.at p)) (ho : ow = base ++ gridO p ps xss) (hs : sl.set i (sv xss) = sl') (k : SB K F Kn0 sl' base D t) : SB K F Kn0 sl ow D t := fun σ Kn H s => by
  subst ho hs
  obtain ⟨Kn', _, s'⟩ := s.knowGrid hi
  exact k σ Kn' H s'
theorem ev_borQ [Fl γ] {z : γ} (hi : sl[i]? = some (.at p)) (ho : ow = base ++ gridO p ps xss) (hs : sl.set i (sv xss) = sl') (h : EV K F Kn0 sl' base te z) : EV K F Kn0 sl ow te z := fun σ Kn H s Q q => by
  subst ho hs
  obtain ⟨Kn1, _, s1⟩ := s.knowGrid hi
  exact h σ _ H s1 Q fun v Kn' H' g r => q v Kn H' ⟨Ex.refl _, g.hh, s.ek.trans g.hh, fun _ _ h => h⟩ (Fl.iff.mpr (Fl.iff.mp r))
theorem et_borQ (hi : sl[i]? = some (.at p)) (ho : ow = base ++ gridO p ps xss) (hs : sl.set i (sv xss) = sl') (h : ET K F Kn0 sl' base tt b) : ET K F Kn0 sl ow tt b := fun σ Kn H s Q q => by
  subst ho hs
  obtain ⟨Kn1, _, s1⟩ := s.knowGrid hi
  exact h σ _ H s1 Q fun Kn' H' g => q Kn H' ⟨Ex.refl _, g.hh, s.ek.trans g.hh, fun _ _ h => h⟩
theorem grid_at {j : Nat} {xs : List α} (h : xss[j]? = some xs) : (base ++ gridO p ps xss)[base.length + 1 + j]? = some (ol (ps j) xs) := by
  rw [List.getElem?_append_right (by omega), show base.length + 1 + j - base.length = j + 1 by omega]
  show (rowsO ps 0 xss)[j]? = _
  rw [rows_at h, Nat.zero_add]
theorem grid_set {j : Nat} {xs : List α} (hl : j < xss.length) : (base ++ gridO p ps xss).set (base.length + 1 + j) (ol (ps j) xs) = base ++ gridO p ps (xss.set j xs) := by
  rw [List.set_append_right _ _ (by omega), show base.length + 1 + j - base.length = j + 1 by omega]
  show base ++ (ol p (ptsO ps xss.length) :: (rowsO ps 0 xss).set j (ol (ps j) xs)) = base ++ (ol p (ptsO ps (xss.set j xs).length) :: rowsO ps 0 (xss.set j xs))
  have := rows_set (ps := ps) (xss := xss) (k := 0) (j := j) (xs := xs)
  rw [Nat.zero_add] at this
  rw [this, List.length_set]
/-- rows[i][j] = e -/
theorem sb_setQ {n m : Int} {xss' : List (List α)} (hi : sl[i]? = some (.at p)) (ho : ow = base ++ gridO p ps xss) (h : EV K F Kn0 sl ow te x) (hn : EV K F Kn0 sl ow tb1 n) (hm : EV K F Kn0 sl ow tb2 m) (hx : setG xss n m x = some xss') (k : SN K F Kn0 sl (base ++ gridO p ps xss') D) :
    SB K F Kn0 sl ow D (tAsg te (gSub (tOp (rIxL K) (tVar i) tb1) tb2 rSetL)) := fun σ Kn H s => h σ Kn H s _ fun v Kn1 H1 g1 r1 => by
  subst ho
  obtain ⟨o, h1, h2⟩ := s.sl.get hi
  refine ⟨.ref p, by rw [h1]; exact congrArg some h2, hn σ Kn1 H1 (s.grow g1) _ fun w Kn2 H2 g2 r2 => ?_⟩
  have s2 := (s.grow g1).grow g2
  unfold setG at hx
  obtain ⟨j, hj, hx⟩ := bind_some hx
  obtain ⟨r, hr, hx⟩ := bind_some hx
  obtain ⟨r', hr', hx⟩ := Option.map_eq_some_iff.mp hx
  subst hx
  have hjl : j < xss.length := (List.getElem?_eq_some_iff.mp hr).1
  obtain ⟨f1, f2, ws, f3, f4⟩ := s2.ow.each (ol p (ptsO ps xss.length)) (List.mem_of_getElem? (at_mid _ _ _))
  have f3 : H2 p = some (.lst ws) := f3
  have f4 : Paired (rep K Kn2) ws (ptsO ps xss.length) := f4
  obtain ⟨u, q1, q2⟩ := paired_at f4 (pts_at (ps := ps) hjl)
  have q2 : u = .ref (ps j) := q2
  cases r2
  refine ⟨p, ws, n, u, rfl, rfl, sq_of f3, ?_, hm σ Kn2 H2 s2 _ fun y Kn3 H3 g3 r3 => ?_⟩
  · unfold atI
    rw [paired_len f4, pts_len, hj]
    exact q1
  · have s3 := s2.grow g3
    obtain ⟨d1, d2, us, d3, d4⟩ := s3.ow.each _ (List.mem_of_getElem? (grid_at (base := base) (p := p) (ps := ps) hr))
    have d3 : H3 (ps j) = some (.lst us) := d3
    unfold setI at hr'
    obtain ⟨l, hl, rfl⟩ := Option.map_eq_some_iff.mp hr'
    cases r3
    refine ⟨ps j, us, m, l, q2, rfl, d3, by rw [paired_len d4]; exact hl, k _ Kn3 _ ?_⟩
    have := s3.write (grid_at (base := base) (p := p) (ps := ps) hr) (Ex.refl _) (upd_in g3.kh d2) (fun q hq _ => upd_ne hq) (fun _ _ h => h) upd_same (paired_set (Rp.mono (g2.kk.trans g3.kk) r1) l d4)
    rw [grid_set hjl] at this
    exact this
theorem EN.is {xs : List α} (h1 : sl = sl') (h : EN K F Kn0 sl' ow te xs) : EN K F Kn0 sl ow te xs := by subst h1; exact h
theorem S.perm (s : S K F Kn0 sl ow σ Kn H) (h : ow.Perm ow1) : S K F Kn0 sl ow1 σ Kn H := ⟨s.e0, s.ek, s.ef, s.sep, s.sl, ⟨fun o ho => s.ow.each o (h.mem_iff.mpr ho), (h.map _).nodup_iff.mp s.ow.nd⟩⟩
/-- a new grid -/
structure NewG (K : Fg) (H Kn' H' : Hp) (p : Addr) (ps : Nat → Addr) (xss : List (List α)) : Prop where
  each : ∀ o ∈ gridO p ps xss, H o.ad = none ∧ Kn' o.ad = none ∧ o.ok K Kn' H'
  nd : ((gridO p ps xss).map Ow.ad).Nodup
theorem S.ownGr {Kn' H' : Hp} (s : S K F Kn0 sl ow σ Kn H) (g : Gr Kn H Kn' H') (n : NewG K H Kn' H' p ps xss) : S K F Kn0 sl (ow ++ gridO p ps xss) σ Kn' H' := by
  have s' := s.grow g
  refine ⟨s'.e0, s'.ek, s'.ef, s'.sep, s'.sl, ⟨fun o ho => ?_, ?_⟩⟩
  · rcases List.mem_append.mp ho with ho | ho
    · exact s'.ow.each o ho
    · obtain ⟨h1, h2, h3⟩ := n.each o ho
      exact ⟨fresh_back s.ef h1, h2, h3⟩
  · rw [List.map_append]
    refine List.nodup_append.mpr ⟨s.ow.nd, n.nd, fun a ha b hb e => ?_⟩
    obtain ⟨o, ho, rfl⟩ := List.mem_map.mp ha
    obtain ⟨u, hu, rfl⟩ := List.mem_map.mp hb
    exact owned_ne s (n.each u hu).1 o ho e
def EQ2 (K : Fg) (F Kn0 : Hp) (sl : List Sl) (ow : List Ow) (te : TE) (xss : List (List α)) : Prop := ∀ σ Kn H, S K F Kn0 sl ow σ Kn H → ∀ Q : VK, (∀ p ps Kn' H', Gr Kn H Kn' H' → NewG K H Kn' H' p ps xss → Q (.ref p) H') → te σ H Q
theorem EQ2.cast {xss yss : List (List α)} (h : EQ2 K F Kn0 sl ow te xss) (e : xss = yss) : EQ2 K F Kn0 sl ow te yss := e ▸ h
theorem sb_asgQ2 {sl' : Addr → List Sl} (hs : ∀ p, sl.set i (.at p) = sl' p) (h : EQ2 K F Kn0 sl ow te xss) (k : ∀ p ps, SN K F Kn0 (sl' p) (ow ++ gridO p ps xss) D) : SB K F Kn0 sl ow D (tAsg te (gName i)) := fun σ Kn H s =>
  h σ Kn H s _ fun p ps Kn1 H1 g1 n1 => k p ps _ Kn1 H1 (hs p ▸ (s.ownGr g1 n1).seta i)
theorem eq_lcQ {wi : TI} {g : TG} {vs js : List Nat} {xs : List β} {zs : List (List γ)} {c : β → Option Bool} {f : β → Option (List γ)} (gx : β → List Sl) (hm : lcM c f xs = some zs) (hi : IT K F Kn0 sl ow wi xs) (hv : ∀ j ∈ vs, sl[j]? = some .any) (hg : ∀ x, GT K g sl (gx x) js x) (hj : ∀ j ∈ js, j ∈ vs)
    (ht : ∀ ex x b, c x = some b → ET K F Kn0 (gx x) (ow ++ ex) tt b) (he : ∀ ex x z, c x = some true → f x = some z → EN K F Kn0 (gx x) (ow ++ ex) te z) :
    EQ2 K F Kn0 sl ow (tLc wi g tt te vs) zs := fun σ Kn H s Q q => by
  unfold lcM at hm
  split at hm
  case isFalse => cases hm
  rename_i hlen
  refine hi σ Kn H s _ fun J Kn1 H1 g1 w D hD => ?_
  have s1 := s.grow g1
  have kD : Kn1 D = none := fresh_back s1.ek hD
  have fD : F D = none := fresh_back s1.ef hD
  refine ⟨fun i m H' => i + m = xs.length ∧ ∃ Kn' ps acc rest, (Gr Kn1 H1 Kn' H' ∧ ∀ o ∈ gridO D ps acc, H1 o.ad = none) ∧ S K F Kn0 sl (ow ++ gridO D ps acc) σ Kn' H' ∧ acc.length ≤ i ∧ lcGo c f (xs.drop i) = some rest ∧ acc ++ rest = zs,
    ⟨xs.length, by omega, Kn1, fun _ => D, [], zs, ⟨Gr.newU s1.ek hD, fun o ho => by
      cases List.mem_singleton.mp ho
      exact hD⟩, ?_, Nat.le_refl _, hm, rfl⟩, fun i m H' hW => ?_⟩
  · have s2 := (s1.grow (Gr.newU (o := .lst []) s1.ek hD)).own (α := Adr) (xs := []) fD kD (owned_ne s1 hD) upd_same .nil
    exact s2.perm (List.perm_append_singleton _ _).symm
  obtain ⟨em, Kn', ps, acc, rest, ⟨gr, fr⟩, s', hal, hrest, hz⟩ := hW
  have ek := gr.kk
  by_cases hlt : i < xs.length
  · have hx : xs[i]? = some xs[i] := List.getElem?_eq_getElem hlt
    have hd : xs.drop i = xs[i] :: xs.drop (i + 1) := List.drop_eq_getElem_cons hlt
    rw [hd] at hrest
    obtain ⟨b, hb, hrest⟩ := bind_some hrest
    obtain ⟨go, yl⟩ := (w i Kn' H' ek s'.ek).1 _ hx
    refine .inr ⟨go, fun H'' => ∃ Kn' ps acc rest, (Gr Kn1 H1 Kn' H'' ∧ ∀ o ∈ gridO D ps acc, H1 o.ad = none) ∧ S K F Kn0 sl (ow ++ gridO D ps acc) σ Kn' H'' ∧ acc.length ≤ i + 1 ∧ lcGo c f (xs.drop (i + 1)) = some rest ∧ acc ++ rest = zs, fun H'' h => ⟨m - 1, by omega, by omega, h⟩, fun v H2 hy => ?_⟩
    obtain ⟨Kn2, g2, rv⟩ := yl v H2 hy
    have s2 := (s'.grow g2).wipe hv
    refine hg _ _ Kn2 H2 v s2.sl s2.ek rv _ fun σ3 h3 hw3 => ?_
    have s3 := s2.slots h3
    refine ⟨(hw3 vs hj).trans ?_, ht _ _ b hb σ3 Kn2 H2 s3 _ fun Kn3 H3 g3 => ?_⟩
    · have ww : ∀ (vs us : List Nat) (σ : L2.St), (∀ j ∈ vs, j ∈ us) → L2.wipe (L2.wipe σ vs) us = L2.wipe σ us := by
        intro vs
        induction vs with
        | nil => intro us σ _; rfl
        | cons a r ih =>
          intro us σ hh
          show L2.wipe ((L2.wipe σ r).set a none) us = L2.wipe σ us
          rw [wipe_set (hh a List.mem_cons_self)]
          exact ih us σ fun j hj => hh j (List.mem_cons_of_mem _ hj)
      exact ww vs vs σ fun _ h => h
    · cases b with
      | true =>
        obtain ⟨z, hfz, hrest⟩ := bind_some (show (f xs[i]).bind _ = some rest from hrest)
        obtain ⟨zs', hzs, hrest⟩ := bind_some hrest
        cases hrest
        refine iteT (he _ _ z hb hfz σ3 Kn3 H3 (s3.grow g3) _ fun a ws Kn4 H4 g4 ha ka hw rw_ => ?_)
        have s4 := s'.grow ((g2.trans g3).trans g4)
        have sa := (s'.grow (g2.trans g3))
        have fa : F a = none := fresh_back sa.ef ha
        have na : ∀ o ∈ ow ++ gridO D ps acc, o.ad ≠ a := owned_ne sa ha
        obtain ⟨d1, d2, us, d3, d4⟩ := s4.ow.each (ol D (ptsO ps acc.length)) (List.mem_of_getElem? (at_mid _ _ _))
        have d3 : H4 D = some (.lst us) := d3
        have d4 : Paired (rep K Kn4) us (ptsO ps acc.length) := d4
        have ul := paired_len d4
        rw [pts_len] at ul
        have aD : D ≠ a := fun z => na (ol D (ptsO ps acc.length)) (List.mem_of_getElem? (at_mid _ _ _)) z
        let qs : Nat → Addr := fun k => if k = acc.length then a else ps k
        have eg : gridO D ps acc = ol D (ptsO ps acc.length) :: rowsO qs 0 acc := by
          unfold gridO
          rw [rows_congr (ps := ps) (qs := qs) fun j _ h => (if_neg (show ¬ j = acc.length by omega)).symm]
        have s5 := s4.own fa ka na hw rw_
        have s6 := s5.perm (ow1 := ow ++ (ol D (ptsO ps acc.length) :: (rowsO qs 0 acc ++ [ol a z]))) (by
          rw [eg]
          have : ow ++ (ol D (ptsO ps acc.length) :: (rowsO qs 0 acc ++ [ol a z])) = (ow ++ (ol D (ptsO ps acc.length) :: rowsO qs 0 acc)) ++ [ol a z] := by
            rw [List.append_assoc]
            rfl
          rw [this]
          exact (List.perm_append_singleton _ _).symm)
        have epts : ptsO qs (acc.length + 1) = ptsO ps acc.length ++ [Adr.mk a] := by
          unfold ptsO
          rw [List.range_succ, List.map_append]
          refine congr (congrArg _ (List.map_congr_left fun k hk => ?_)) ?_
          · rw [List.mem_range] at hk
            show Adr.mk (if k = acc.length then a else ps k) = _
            rw [if_neg (by omega)]
          · show [Adr.mk (if acc.length = acc.length then a else ps acc.length)] = _
            rw [if_pos rfl]
        have hk4 : Kn4 D = none := d2
        have s7 := s6.write (p := D) (xs' := ptsO qs (acc.length + 1)) (ws := us ++ [.ref a]) (H' := upd H4 D (.lst (us ++ [.ref a]))) (at_mid _ _ _) (Ex.refl _) (upd_in g4.kh hk4) (fun q hq _ => upd_ne hq) (fun _ _ h => h) upd_same (by
          rw [epts]
          exact paired_append d4 (.cons rfl .nil))
        have e8 : (ow ++ (ol D (ptsO ps acc.length) :: (rowsO qs 0 acc ++ [ol a z]))).set ow.length (ol D (ptsO qs (acc.length + 1))) = ow ++ gridO D qs (acc ++ [z]) := by
          rw [List.set_append_right _ _ (Nat.le_refl _), Nat.sub_self]
          show ow ++ (ol D (ptsO qs (acc.length + 1)) :: (rowsO qs 0 acc ++ [ol a z])) = ow ++ (ol D (ptsO qs (acc ++ [z]).length) :: rowsO qs 0 (acc ++ [z]))
          rw [rows_app, Nat.zero_add, List.length_append, show qs acc.length = a from if_pos rfl]
          rfl
        rw [e8] at s7
        have g14 : Gr Kn1 H1 Kn4 H4 := gr.trans ((g2.trans g3).trans g4)
        refine ⟨us, d3, by rw [ul]; exact lt_line (by omega), Kn4, qs, acc ++ [z], zs', ⟨g14.mut hD hk4, fun o ho => ?_⟩, s7, ?_, hzs, ?_⟩
        · rcases List.mem_cons.mp ho with rfl | ho
          · exact hD
          · rw [rows_app] at ho
            rcases List.mem_append.mp ho with ho | ho
            · exact fr o (by rw [eg]; exact List.mem_cons_of_mem _ ho)
            · cases List.mem_singleton.mp ho
              show H1 (qs (0 + acc.length)) = none
              rw [Nat.zero_add, show qs acc.length = a from if_pos rfl]
              exact fresh_back (gr.trans (g2.trans g3)).hh ha
        · rw [List.length_append, List.length_singleton]; omega
        · rw [List.append_assoc]; exact hz
      | false =>
        have hrest : lcGo c f (xs.drop (i + 1)) = some rest := hrest
        exact iteF ⟨Kn3, ps, acc, rest, ⟨gr.trans (g2.trans g3), fr⟩, s'.grow (g2.trans g3), by omega, hrest, hz⟩
  · have hd : xs.drop i = [] := List.drop_eq_nil_of_le (by omega)
    rw [hd] at hrest
    cases hrest
    rw [List.append_nil] at hz
    subst hz
    refine .inl ⟨(w i Kn' H' ek s'.ek).2 (by omega), q D ps Kn' H' (g1.trans gr) ⟨fun o ho => ?_, ?_⟩⟩
    · obtain ⟨_, h2, h3⟩ := s'.ow.each o (List.mem_append_right _ ho)
      exact ⟨fresh_back g1.hh (fr o ho), h2, h3⟩
    · have := s'.ow.nd
      rw [List.map_append] at this
      exact (List.nodup_append.mp this).2.1
end
end Wk
set_option maxHeartbeats 4000000
/-! Wins: instances whose attributes change: one's own, with things of one's own as attributes; read as values when they change no more -/
namespace Wk
open PySem PySem.Spec L2 Evl
/-- part k of a tuple is y -/
structure Prt {τ α : Type} [Tp τ] [Rp α] (t : τ) (k : Nat) (y : α) : Prop where
  get : ∀ {K : Fg} {H : Hp} {ws : List V}, rept K H ws t → ∃ v, ws[k]? = some v ∧ rep K H v y
theorem at_z {τ α : Type} [Tp τ] [Rp α] {a : α} {t : τ} : Prt (a, t) 0 a := ⟨fun h => by
  obtain ⟨v, r, rfl, h1, h2⟩ := h
  exact ⟨v, rfl, h1⟩⟩
theorem at_s {τ α β : Type} [Tp τ] [Rp α] [Rp β] {a : β} {t : τ} {k : Nat} {y : α} (h : Prt t k y) : Prt (a, t) (k + 1) y := ⟨fun g => by
  obtain ⟨v, r, rfl, h1, h2⟩ := g
  exact h.get h2⟩
/-- part k is another one -/
structure Upt {τ τ' α : Type} [Tp τ] [Tp τ'] [Rp α] (t : τ) (k : Nat) (y : α) (t' : τ') : Prop where
  set : ∀ {K : Fg} {H : Hp} {ws : List V} {v : V}, rept K H ws t → rep K H v y → rept K H (ws.set k v) t'
theorem upt_z {τ α β : Type} [Tp τ] [Rp α] [Rp β] {a : β} {y : α} {t : τ} : Upt (a, t) 0 y (y, t) := ⟨fun h g => by
  obtain ⟨v, r, rfl, h1, h2⟩ := h
  exact ⟨_, r, rfl, g, h2⟩⟩
theorem upt_s {τ τ' α β : Type} [Tp τ] [Tp τ'] [Rp α] [Rp β] {a : β} {t : τ} {t' : τ'} {k : Nat} {y : α} (h : Upt t k y t') : Upt (a, t) (k + 1) y (a, t') := ⟨fun g r => by
  obtain ⟨v, vs, rfl, h1, h2⟩ := g
  exact ⟨v, _, rfl, h1, h.set h2 r⟩⟩
theorem Upt.same {τ τ' α : Type} [Tp τ] [Tp τ'] [Rp α] {t : τ} {k : Nat} {y : α} {t' : τ'} (u : Upt t k y t') {K : Fg} {H : Hp} {ws : List V} {v : V} (h : rept K H ws t) (e : ws[k]? = some v) (r : rep K H v y) : rept K H ws t' := by
  have := u.set h r
  have e2 : ws.set k v = ws := by
    refine List.ext_getElem? fun m => ?_
    by_cases z : k = m
    · subst z
      rw [List.getElem?_set_self (List.getElem?_eq_some_iff.mp e).1, e]
    · rw [List.getElem?_set_ne z]
  rwa [e2] at this
theorem length_putF_in (f : Str) (v : V) : ∀ fs : List (Str × V), (fs.lookup f).isSome = true → (putF f v fs).length = fs.length
  | [], h => nomatch h
  | (g, x) :: r, h => by
    show (if g = f then (g, v) :: r else (g, x) :: putF f v r).length = _
    by_cases e : g = f
    · rw [if_pos e]
      rfl
    · rw [if_neg e, List.length_cons, List.length_cons, length_putF_in f v r]
      rw [lookC, if_neg (Ne.symm e)] at h
      exact h
theorem isD_of {H : Hp} {p : Addr} {o : HO} (h : Rd H p o) (hd : isDk o) : IsD H p := by
  cases o with
  | dK ws => exact .inl ⟨ws, h⟩
  | dT ws => exact .inr ⟨ws, h⟩
  | _ => exact False.elim hd
/-- an instance by its attributes -/
structure Ins (n : Str) (ns : List Str) (τ : Type) where
  t : τ
structure InsOk {τ : Type} [Tp τ] (K : Fg) (n : Str) (ns : List Str) (Kn : Hp) (C dx : Addr) (hs : List (Str × V)) (ws : List V) (t : τ) : Prop where
  ct : CT K n C
  le : hs.length ≤ ns.length
  r : rept K Kn ws t
  fl : ∀ (k : Nat) (f : Str), ns[k]? = some f → f ∈ FLD ∧ NoAttr K C f ∧ hs.lookup f = ws[k]?
  out : ∀ m, m ∉ FLD → hs.lookup m = none
theorem InsOk.swap {τ : Type} [Tp τ] {K : Fg} {n : Str} {ns : List Str} {Kn Kn' : Hp} {C dx : Addr} {hs : List (Str × V)} {ws : List V} {t : τ} (e : Sw Kn Kn') (h : InsOk K n ns Kn C dx hs ws t) : InsOk K n ns Kn' C dx hs ws t := ⟨h.ct, h.le, Tp.swap e h.r, h.fl, h.out⟩
instance {n : Str} {ns : List Str} {τ : Type} [Tp τ] : Ob (Ins n ns τ) where
  ob K Kn o x := ∃ C dx hs ws, o = .ins C dx hs ∧ InsOk K n ns Kn C dx hs ws x.t
  swap e h := by
    obtain ⟨C, dx, hs, ws, h1, h2⟩ := h
    exact ⟨C, dx, hs, ws, h1, h2.swap e⟩
instance {n : Str} {ns : List Str} {τ : Type} [Tp τ] : Rp (Ins n ns τ) where
  rep K H v x := ∃ p C dx hs ws, v = .ref p ∧ H p = some (.ins C dx hs) ∧ InsOk K n ns H C dx hs ws x.t
  swap e h := by
    obtain ⟨p, C, dx, hs, ws, h1, h2, h3⟩ := h
    exact ⟨p, C, dx, hs, ws, h1, e.ins h2, h3.swap e⟩
/-- te is the thing at p -/
def ATp (K : Fg) (F Kn0 : Hp) (sl : List Sl) (ow : List Ow) (te : TE) (p : Addr) : Prop := ∀ σ Kn H, S K F Kn0 sl ow σ Kn H → ∀ Q : VK, Q (.ref p) H → te σ H Q
section
variable {K : Fg} {F Kn0 : Hp} {sl sl' : List Sl} {ow ow1 : List Ow} {D : Ends} {te tv tk t0 : TE} {ta : TA} {i j k m : Nat} {p q : Addr} {n : Str} {ns : List Str} {α τ τ' : Type} [Rp α] [Tp τ] [Tp τ'] {x : Ins n ns τ} {f : Str} {y : α} {σ : L2.St} {Kn H : Hp}
theorem at_var (hi : sl[i]? = some (.at p)) : ATp K F Kn0 sl ow (tVar i) p := fun σ Kn H s Q q => by
  obtain ⟨o, h1, h2⟩ := s.sl.get hi
  exact ⟨.ref p, by rw [h1]; exact congrArg some h2, q⟩
/-- e.f, e one's own -/
theorem ev_insf (h0 : ATp K F Kn0 sl ow t0 p) (hj : ow[j]? = some (oo p x)) (hf : ns[k]? = some f) (ha : Prt x.t k y) : EV K F Kn0 sl ow (tFld K t0 f) y := fun σ Kn H s Q q => h0 σ Kn H s _ (by
  obtain ⟨f1, f2, ob, f3, C, dx, hs, ws, e1, ok⟩ := s.ow.each _ (List.mem_of_getElem? hj)
  subst e1
  obtain ⟨v, e2, r⟩ := ha.get ok.r
  obtain ⟨a, b, c⟩ := ok.fl k f hf
  exact ⟨p, C, dx, hs, v, rfl, f3, ok.ct.cl, b, c.trans e2, q v Kn H (Gr.refl s.ek) r⟩)
/-- e.f, e a value -/
theorem ev_insV (h : EV K F Kn0 sl ow te x) (hf : ns[k]? = some f) (ha : Prt x.t k y) : EV K F Kn0 sl ow (tFld K te f) y := fun σ Kn H s Q q => h σ Kn H s _ fun v Kn' H' g r => by
  obtain ⟨p, C, dx, hs, ws, rfl, h2, ok⟩ := r
  obtain ⟨u, e2, r⟩ := ha.get ok.r
  obtain ⟨a, b, c⟩ := ok.fl k f hf
  exact ⟨p, C, dx, hs, u, rfl, g.kh _ _ h2, ok.ct.cl, b, c.trans e2, q u Kn' H' g r⟩
theorem at_insf (h0 : ATp K F Kn0 sl ow t0 p) (hj : ow[j]? = some (oo p x)) (hf : ns[k]? = some f) (ha : Prt x.t k (Adr.mk q)) : ATp K F Kn0 sl ow (tFld K t0 f) q := fun σ Kn H s Q qq => h0 σ Kn H s _ (by
  obtain ⟨f1, f2, ob, f3, C, dx, hs, ws, e1, ok⟩ := s.ow.each _ (List.mem_of_getElem? hj)
  subst e1
  obtain ⟨v, e2, r⟩ := ha.get ok.r
  cases (show v = .ref q from r)
  obtain ⟨a, b, c⟩ := ok.fl k f hf
  exact ⟨p, C, dx, hs, _, rfl, f3, ok.ct.cl, b, c.trans e2, qq⟩)
/-- what is written into an instance -/
theorem ins_put {Kn1 H1 : Hp} {σ1 : L2.St} {o' : Ow} {C dx : Addr} {hs : List (Str × V)} {v : V} (s1 : S K F Kn0 sl ow σ1 Kn1 H1) (hj : ow[j]? = some (oo p x)) (f2 : Kn1 p = none) (ho : o'.ad = p) (ok : o'.ok K Kn1 (upd H1 p (.ins C dx (putF f v hs)))) :
    S K F Kn0 sl (ow.set j o') σ1 Kn1 (upd H1 p (.ins C dx (putF f v hs))) :=
  s1.writeG hj rfl ho (Ex.refl _) (upd_in s1.ek f2) (fun a ha _ => upd_ne ha) (fun _ _ h => h) ok
theorem new_ok {C dx : Addr} {hs : List (Str × V)} {ws : List V} {v : V} {t : τ} (ok : InsOk K n ns Kn C dx hs ws t) (no : NoAttr K C f) (hf : f ∈ FLD) (hn : f ∉ ns) (r : rep K Kn v y) : InsOk K n (f :: ns) Kn C dx (putF f v hs) (v :: ws) (y, t) :=
  ⟨ok.ct, by have := length_putF f v hs; have := ok.le; rw [List.length_cons]; omega, ⟨v, ws, rfl, r, ok.r⟩, fun k g hk => by
    cases k with
    | zero =>
      cases Option.some.inj hk
      exact ⟨hf, no, by rw [lookup_putF, if_pos rfl]; rfl⟩
    | succ k =>
      have hk : ns[k]? = some g := hk
      obtain ⟨a, b, c⟩ := ok.fl k g hk
      have ne : g ≠ f := fun z => hn (z ▸ List.mem_of_getElem? hk)
      exact ⟨a, b, by rw [lookup_putF, if_neg ne]; exact c⟩, fun m hm => fld_out hf ok.out hm⟩
theorem set_ok {C dx : Addr} {hs : List (Str × V)} {ws : List V} {v : V} {t : τ} {t' : τ'} (ok : InsOk K n ns Kn C dx hs ws t) (hk : ns[k]? = some f) (nd : ns.Nodup) (hl : Tp.n τ = ns.length) (u : Upt t k y t') (r : rep K Kn v y) : InsOk K n ns Kn C dx (putF f v hs) (ws.set k v) t' := by
  obtain ⟨a0, b0, c0⟩ := ok.fl k f hk
  have hkl : k < ns.length := (List.getElem?_eq_some_iff.mp hk).1
  have hwl : ws.length = ns.length := (Tp.len ok.r).trans hl
  have hlen : (putF f v hs).length ≤ ns.length := by
    by_cases z : (hs.lookup f).isSome = true
    · have e := length_putF_in f v hs z
      rw [e]
      exact ok.le
    · rw [c0, List.getElem?_eq_getElem (by omega)] at z
      exact absurd rfl z
  refine ⟨ok.ct, hlen, u.set ok.r r, fun m g hm => ?_, fun m hm => fld_out a0 ok.out hm⟩
  obtain ⟨a, b, c⟩ := ok.fl m g hm
  by_cases z : k = m
  · subst z
    cases Option.some.inj (hk.symm.trans hm)
    exact ⟨a, b, by rw [lookup_putF, if_pos rfl, List.getElem?_set_self (by omega)]⟩
  · have ne : g ≠ f := fun e => by
      subst e
      obtain ⟨h1, h2⟩ := List.getElem?_eq_some_iff.mp hk
      obtain ⟨h3, h4⟩ := List.getElem?_eq_some_iff.mp hm
      rcases Nat.lt_or_gt_of_ne z with z | z
      · exact (List.pairwise_iff_getElem.mp nd) k m h1 h3 z (h2.trans h4.symm)
      · exact (List.pairwise_iff_getElem.mp nd) m k h3 h1 z (h4.trans h2.symm)
    exact ⟨a, b, by rw [lookup_putF, if_neg ne, List.getElem?_set_ne z]; exact c⟩
/-- e.f = v, the first time -/
theorem sb_insNew (h0 : ATp K F Kn0 sl ow t0 p) (hj : ow[j]? = some (oo p x)) (no : ∀ C, CT K n C → NoAttr K C f) (hf : f ∈ FLD) (hn : f ∉ ns) (hl : ns.length < 900) (h : EV K F Kn0 sl ow tv y) (ho : ow.set j (oo p (Ins.mk (y, x.t) : Ins n (f :: ns) (α × τ))) = ow1)
    (k : SN K F Kn0 sl ow1 D) : SB K F Kn0 sl ow D (sFld K t0 tv f) := fun σ Kn H s => h σ Kn H s _ fun v Kn1 H1 g rv => h0 σ Kn1 H1 (s.grow g) _ (by
  have s1 := s.grow g
  obtain ⟨f1, f2, ob, f3, C, dx, hs, ws, e1, ok⟩ := s1.ow.each _ (List.mem_of_getElem? hj)
  subst e1
  subst ho
  have f2 : Kn1 p = none := f2
  refine ⟨p, C, dx, hs, rfl, f3, ok.ct.cl, no C ok.ct, by have := ok.le; omega, ?_⟩
  exact k _ Kn1 _ (ins_put s1 hj f2 rfl ⟨_, upd_same, C, dx, _, _, rfl, new_ok ok (no C ok.ct) hf hn rv⟩))
/-- e.f = v, another time -/
theorem sb_insSet {t' : τ'} (h0 : ATp K F Kn0 sl ow t0 p) (hj : ow[j]? = some (oo p x)) (hk : ns[k]? = some f) (nd : ns.Nodup) (hl2 : Tp.n τ = ns.length) (hl : ns.length < 900) (u : Upt x.t k y t') (h : EV K F Kn0 sl ow tv y) (ho : ow.set j (oo p (Ins.mk t' : Ins n ns τ')) = ow1)
    (kk : SN K F Kn0 sl ow1 D) : SB K F Kn0 sl ow D (sFld K t0 tv f) := fun σ Kn H s => h σ Kn H s _ fun v Kn1 H1 g rv => h0 σ Kn1 H1 (s.grow g) _ (by
  have s1 := s.grow g
  obtain ⟨f1, f2, ob, f3, C, dx, hs, ws, e1, ok⟩ := s1.ow.each _ (List.mem_of_getElem? hj)
  subst e1
  subst ho
  have f2 : Kn1 p = none := f2
  refine ⟨p, C, dx, hs, rfl, f3, ok.ct.cl, (ok.fl k f hk).2.1, by have := ok.le; omega, ?_⟩
  exact kk _ Kn1 _ (ins_put s1 hj f2 rfl ⟨_, upd_same, C, dx, _, _, rfl, set_ok ok hk nd hl2 u rv⟩))
/-- e.f = something new of one's own -/
theorem S.addO {o : Ow} (s : S K F Kn0 sl ow σ Kn H) (fp : F o.ad = none) (kp : Kn o.ad = none) (no : ∀ u ∈ ow, u.ad ≠ o.ad) (ok : o.ok K Kn H) : S K F Kn0 sl (ow ++ [o]) σ Kn H :=
  ⟨s.e0, s.ek, s.ef, s.sep, s.sl, ⟨fun u hu => by
    rcases List.mem_append.mp hu with hu | hu
    · exact s.ow.each u hu
    · rw [List.mem_singleton.mp hu]
      exact ⟨fp, kp, ok⟩, by
    rw [List.map_append]
    refine List.nodup_append.mpr ⟨s.ow.nd, List.nodup_cons.mpr ⟨(fun h => nomatch h), List.nodup_nil⟩, fun a ha b hb e => ?_⟩
    obtain ⟨u, hu, rfl⟩ := List.mem_map.mp ha
    rw [List.mem_singleton.mp hb] at e
    exact no u hu e⟩⟩
theorem set_mem {o o' : Ow} (ha : o.ad = o'.ad) (hj : ow[j]? = some o) (h : ∀ u ∈ ow, u.ad ≠ q) : ∀ u ∈ ow.set j o', u.ad ≠ q := fun u hu => by
  rcases List.mem_or_eq_of_mem_set hu with hu | rfl
  · exact h u hu
  · rw [← ha]
    exact h o (List.mem_of_getElem? hj)
theorem sb_insNewL {xs : List α} (h0 : ATp K F Kn0 sl ow t0 p) (hj : ow[j]? = some (oo p x)) (no : ∀ C, CT K n C → NoAttr K C f) (hf : f ∈ FLD) (hn : f ∉ ns) (hl : ns.length < 900) (h : EN K F Kn0 sl ow tv xs)
    (k : ∀ q, SN K F Kn0 sl (ow.set j (oo p (Ins.mk (Adr.mk q, x.t) : Ins n (f :: ns) (Adr × τ))) ++ [ol q xs]) D) : SB K F Kn0 sl ow D (sFld K t0 tv f) := fun σ Kn H s => h σ Kn H s _ fun q ws0 Kn1 H1 g hq kq hw rv => h0 σ Kn1 H1 (s.grow g) _ (by
  have s1 := s.grow g
  obtain ⟨f1, f2, ob, f3, C, dx, hs, ws, e1, ok⟩ := s1.ow.each _ (List.mem_of_getElem? hj)
  subst e1
  have f2 : Kn1 p = none := f2
  have nq := owned_ne s hq
  have pq : p ≠ q := nq _ (List.mem_of_getElem? hj)
  refine ⟨p, C, dx, hs, rfl, f3, ok.ct.cl, no C ok.ct, by have := ok.le; omega, ?_⟩
  have s2 := ins_put (o' := oo p (Ins.mk (Adr.mk q, x.t) : Ins n (f :: ns) (Adr × τ))) (v := .ref q) s1 hj f2 rfl ⟨_, upd_same, C, dx, _, _, rfl, new_ok (y := Adr.mk q) ok (no C ok.ct) hf hn rfl⟩
  refine k q _ Kn1 _ (s2.addO (o := ol q xs) (fresh_back s.ef hq) kq (set_mem (o := oo p x) rfl hj nq) ⟨ws0, ?_, rv⟩)
  rw [upd_ne (Ne.symm pq)]
  exact hw)
theorem sb_insNewG {γ : Type} [Ob γ] {z : γ} (h0 : ATp K F Kn0 sl ow t0 p) (hj : ow[j]? = some (oo p x)) (no : ∀ C, CT K n C → NoAttr K C f) (hf : f ∈ FLD) (hn : f ∉ ns) (hl : ns.length < 900) (h : EG K F Kn0 sl ow tv z)
    (k : ∀ q, SN K F Kn0 sl (ow.set j (oo p (Ins.mk (Adr.mk q, x.t) : Ins n (f :: ns) (Adr × τ))) ++ [oo q z]) D) : SB K F Kn0 sl ow D (sFld K t0 tv f) := fun σ Kn H s => h σ Kn H s _ fun q o0 Kn1 H1 g hq kq hw rv => h0 σ Kn1 H1 (s.grow g) _ (by
  have s1 := s.grow g
  obtain ⟨f1, f2, ob, f3, C, dx, hs, ws, e1, ok⟩ := s1.ow.each _ (List.mem_of_getElem? hj)
  subst e1
  have f2 : Kn1 p = none := f2
  have nq := owned_ne s hq
  have pq : p ≠ q := nq _ (List.mem_of_getElem? hj)
  refine ⟨p, C, dx, hs, rfl, f3, ok.ct.cl, no C ok.ct, by have := ok.le; omega, ?_⟩
  have s2 := ins_put (o' := oo p (Ins.mk (Adr.mk q, x.t) : Ins n (f :: ns) (Adr × τ))) (v := .ref q) s1 hj f2 rfl ⟨_, upd_same, C, dx, _, _, rfl, new_ok (y := Adr.mk q) ok (no C ok.ct) hf hn rfl⟩
  refine k q _ Kn1 _ (s2.addO (o := oo q z) (fresh_back s.ef hq) kq (set_mem (o := oo p x) rfl hj nq) ⟨o0, ?_, rv⟩)
  rw [upd_ne (Ne.symm pq)]
  exact hw)
/-! things of one's own, by where they are read -/
theorem emx_at {t : τ} {mk : List V → List V} (h0 : ATp K F Kn0 sl ow t0 p) (h2 : EMx K F Kn0 sl ow ta t mk) : EMx K F Kn0 sl ow (tCons t0 ta) t (mO p mk) := fun σ Kn H s Q q => h0 σ Kn H s _ (h2 σ Kn H s _ fun vs Kn2 H2 g2 r2 => q vs Kn2 H2 g2 r2)
end
section
variable {K : Fg} {F Kn0 : Hp} {sl sl' : List Sl} {ow ow1 : List Ow} {D : Ends} {te tk t0 : TE} {j : Nat} {p : Addr} {κ β : Type} [Rp κ] [Ky κ] [DecidableEq κ] [Rp β] {k : κ} {y : β}
/-- t0[k] = e -/
theorem sb_dputA {d d' : Dc κ β} (h0 : ATp K F Kn0 sl ow t0 p) (hj : ow[j]? = some (oo p d)) (h : EV K F Kn0 sl ow te y) (hk : EV K F Kn0 sl ow tk k) (hx : putO d k y = some d') (ho : ow.set j (oo p d') = ow1) (n : SN K F Kn0 sl ow1 D) :
    SB K F Kn0 sl ow D (sDPut t0 tk te) := fun σ Kn H s => h σ Kn H s _ fun v Kn1 H1 g1 r1 => h0 σ Kn1 H1 (s.grow g1) _ (hk σ Kn1 H1 (s.grow g1) _ fun w Kn2 H2 g2 r2 => by
  have s2 := (s.grow g1).grow g2
  obtain ⟨f1, f2, o1, f3, ws, f4, f5⟩ := s2.ow.each _ (List.mem_of_getElem? hj)
  subst f4
  unfold putO at hx
  split at hx
  · case isTrue hl =>
    cases hx
    subst ho
    refine ⟨p, _, rfl, Ky.put r2 s2.ek f3 (by rw [f5.length]; exact lt_line hl), n _ Kn2 _ ?_⟩
    exact s2.writeG hj rfl rfl (Ex.refl _) (upd_in s2.ek f2) (fun q hq _ => upd_ne hq) (fun _ _ h => h) ⟨_, upd_same, _, rfl, DK.put k (Rp.mono g2.kk r1) f5⟩
  · cases hx)
/-- t0[k] -/
theorem ev_dgetA {d : Dc κ β} (h0 : ATp K F Kn0 sl ow t0 p) (hj : ow[j]? = some (oo p d)) (hk : EV K F Kn0 sl ow tk k) (hy : getD d.l k = some y) : EV K F Kn0 sl ow (tDGet t0 tk) y := fun σ Kn H s Q q => h0 σ Kn H s _ (hk σ Kn H s _ fun v Kn1 H1 g1 r1 => by
  have s1 := s.grow g1
  obtain ⟨f1, f2, o1, f3, ws, f4, f5⟩ := s1.ow.each _ (List.mem_of_getElem? hj)
  subst f4
  rcases f5.get k with ⟨h1, h2⟩ | ⟨y2, w, h1, h2, h3⟩
  · rw [h1] at hy
    cases hy
  · rw [h1] at hy
    cases hy
    exact ⟨p, w, rfl, h2 ▸ Ky.get r1 s1.ek (Rd.of f3), q w Kn1 H1 g1 h3⟩)
/-- d.get(k, y) -/
theorem ev_dget2 {td : TE} {d : Dc κ β} (hd : EV K F Kn0 sl ow td d) (hk : EV K F Kn0 sl ow tk k) (hy : EV K F Kn0 sl ow te y) : EV K F Kn0 sl ow (tDGet2 td tk te) ((getD d.l k).getD y) := fun σ Kn H s Q q => hd σ Kn H s _ fun u Kn1 H1 g1 r1 => by
  obtain ⟨p, ws, rfl, e2, f5⟩ := r1
  refine ⟨p, rfl, isD_of (rd_ex g1.kh e2) (Ky.isd ws), hk σ Kn1 H1 (s.grow g1) _ fun v Kn2 H2 g2 r2 => hy σ Kn2 H2 ((s.grow g1).grow g2) _ fun z Kn3 H3 g3 r3 => ?_⟩
  have g := (g1.trans g2).trans g3
  have f6 := DK.mono (g2.kk.trans g3.kk) f5
  rcases f6.get k with ⟨h1, h2⟩ | ⟨y2, w, h1, h2, h3⟩
  · refine ⟨none, h2 ▸ Ky.get (Rp.mono g3.kk r2) g3.kh (rd_ex (g2.hh.trans g3.hh) (rd_ex g1.kh e2)), ?_⟩
    exact q z Kn3 H3 g (by rw [h1]; exact r3)
  · refine ⟨some w, h2 ▸ Ky.get (Rp.mono g3.kk r2) g3.kh (rd_ex (g2.hh.trans g3.hh) (rd_ex g1.kh e2)), ?_⟩
    exact q w Kn3 H3 g (by rw [h1]; exact h3)
end
end Wk
set_option maxHeartbeats 4000000
/-! Wins2: instances that are lent, that are values from now on; a new one; a group changed by a def that may raise; a while whose test changes things -/
namespace Wk
open PySem PySem.Spec L2 Evl
/-- what is known of x hangs on no object but tuples -/
class Nr (α : Type) [Rp α] where
  out : ∀ {K : Fg} {Kn : Hp} {p : Addr} {o : HO} {v : V} {x : α}, Kn p = some o → (∀ vs, o ≠ .tup vs) → rep K Kn v x → rep K (del Kn p) v x
class NrT (τ : Type) [Tp τ] where
  out : ∀ {K : Fg} {Kn : Hp} {p : Addr} {o : HO} {vs : List V} {t : τ}, Kn p = some o → (∀ vs, o ≠ .tup vs) → rept K Kn vs t → rept K (del Kn p) vs t
instance : Nr Int := ⟨fun _ _ h => h⟩
instance : Nr Bool := ⟨fun _ _ h => h⟩
instance : Nr Str := ⟨fun _ _ h => h⟩
instance : Nr Nn := ⟨fun _ _ h => h⟩
instance : NrT Unit := ⟨fun _ _ h => h⟩
instance {α τ : Type} [Rp α] [Tp τ] [Nr α] [NrT τ] : NrT (α × τ) := ⟨fun e n h => by
  obtain ⟨v, r, h1, h2, h3⟩ := h
  exact ⟨v, r, h1, Nr.out e n h2, NrT.out e n h3⟩⟩
instance {α τ : Type} [Rp α] [Tp τ] [NrT (α × τ)] : Nr (α × τ) := ⟨fun {K Kn p o v x} e n h => by
  obtain ⟨q, vs, h1, h2, h3⟩ := h
  have hne : q ≠ p := fun z => by
    rw [z, e] at h2
    exact n _ (Option.some.inj h2)
  exact ⟨q, vs, h1, (del_ne hne).trans h2, NrT.out (τ := α × τ) e n h3⟩⟩
/-- a thing of one's own is known from now on: then sl', ow1 -/
def KNw (K : Fg) (F Kn0 : Hp) (sl : List Sl) (ow : List Ow) (sl' : List Sl) (ow1 : List Ow) : Prop := ∀ σ Kn H, S K F Kn0 sl ow σ Kn H → ∃ p o, Kn p = none ∧ (∀ vs, o ≠ .tup vs) ∧ S K F Kn0 sl' ow1 σ (upd Kn p o) H
section
variable {K : Fg} {F Kn0 : Hp} {sl sl' : List Sl} {ow ow1 : List Ow} {D : Ends} {te t0 : TE} {i j k m : Nat} {p q : Addr} {n : Str} {ns : List Str} {α γ τ τ' : Type} [Rp α] [Rp γ] [Tp τ] [Tp τ'] {x : Ins n ns τ} {f : Str} {σ : L2.St} {Kn H : Hp}
theorem ev_borK [Nr γ] {z : γ} (kn : KNw K F Kn0 sl ow sl' ow1) (h : EV K F Kn0 sl' ow1 te z) : EV K F Kn0 sl ow te z := fun σ Kn H s Q q => by
  obtain ⟨p, o, kp, no, s1⟩ := kn σ Kn H s
  refine h σ _ H s1 Q fun v Kn' H' g r => q v (del Kn' p) H' ⟨fun a u h => ?_, g.hh, fun a u h => ?_, fun a h1 h2 => ?_⟩ (Nr.out (g.kk _ _ upd_same) no r)
  · have hne : a ≠ p := fun z => by
      rw [z, kp] at h
      cases h
    rw [del_ne hne]
    exact g.kk _ _ (by rw [upd_ne hne]; exact h)
  · by_cases e : a = p
    · subst e
      rw [del_same] at h
      cases h
    · rw [del_ne e] at h
      exact g.kh _ _ h
  · by_cases e : a = p
    · rw [e]
      exact del_same
    · rw [del_ne e]
      exact g.sp a h1 (by rw [upd_ne e]; exact h2)
theorem et_borK {tt : TT} {b : Bool} (kn : KNw K F Kn0 sl ow sl' ow1) (h : ET K F Kn0 sl' ow1 tt b) : ET K F Kn0 sl ow tt b := fun σ Kn H s Q q => by
  obtain ⟨p, o, kp, no, s1⟩ := kn σ Kn H s
  exact h σ _ H s1 Q fun Kn' H' g => q Kn H' ⟨Ex.refl _, g.hh, s.ek.trans g.hh, fun _ _ h => h⟩
theorem sb_frzK {t : TS} (kn : KNw K F Kn0 sl ow sl' ow1) (h : SB K F Kn0 sl' ow1 D t) : SB K F Kn0 sl ow D t := fun σ Kn H s => by
  obtain ⟨p, o, kp, no, s1⟩ := kn σ Kn H s
  exact h σ _ H s1
theorem sn_frzK (kn : KNw K F Kn0 sl ow sl' ow1) (h : SN K F Kn0 sl' ow1 D) : SN K F Kn0 sl ow D := fun σ Kn H s => by
  obtain ⟨p, o, kp, no, s1⟩ := kn σ Kn H s
  exact h σ _ H s1
theorem no_at {o0 : Ow} (s : S K F Kn0 sl ow σ Kn H) (hj : ow[j]? = some o0) : ∀ o ∈ ow.eraseIdx j, o.ad ≠ o0.ad := fun o hm z => by
  obtain ⟨m, hm'⟩ := List.getElem?_of_mem hm
  rw [List.getElem?_eraseIdx] at hm'
  split at hm'
  · have := ow_at s.ow.nd hm' hj z
    omega
  · have := ow_at s.ow.nd hm' hj z
    omega
theorem kn_set {o : Option V} (h1 : σ[i]? = some o) : σ.set i o = σ := by
  refine List.ext_getElem? fun m => ?_
  by_cases e : i = m
  · subst e
    rw [List.getElem?_set_self (List.getElem?_eq_some_iff.mp h1).1, h1]
  · rw [List.getElem?_set_ne e]
/-- an attribute of one's own: a dict -/
theorem kn_subD {κ β : Type} [Rp κ] [Ky κ] [DecidableEq κ] [Rp β] {d : Dc κ β} {t' : τ'} (hj : ow[j]? = some (oo p x)) (hm : ow[m]? = some (oo q d)) (hne : j ≠ m) (hk : Prt x.t k (Adr.mk q)) (u : Upt x.t k d t')
    (ho : (ow.set j (oo p (Ins.mk t' : Ins n ns τ'))).eraseIdx m = ow1) : KNw K F Kn0 sl ow sl ow1 := fun σ Kn H s => by
  subst ho
  obtain ⟨f1, f2, ob, f3, ws, f4, f5⟩ := s.ow.each _ (List.mem_of_getElem? hm)
  subst f4
  have f2 : Kn q = none := f2
  have f3 : H q = some (Ky.ho ws) := f3
  have ex := Ex.new (o := Ky.ho ws) f2
  refine ⟨q, Ky.ho ws, f2, fun vs z => ?_, ?_⟩
  · have := Ky.isd (κ := κ) ws
    rw [z] at this
    exact this
  · obtain ⟨g1, g2, ob2, g3, C, dx, hs, us, e1, ok⟩ := s.ow.each _ (List.mem_of_getElem? hj)
    subst e1
    have s1 := (s.sub (List.eraseIdx_sublist ow m)).know (o := Ky.ho ws) f1 f2 (no_at s hm) f3
    have g2 : Kn p = none := g2
    have g3 : H p = some (.ins C dx hs) := g3
    obtain ⟨j', hj', e2⟩ : ∃ j', (ow.eraseIdx m)[j']? = some (oo p x) ∧ (ow.set j (oo p (Ins.mk t' : Ins n ns τ'))).eraseIdx m = (ow.eraseIdx m).set j' (oo p (Ins.mk t' : Ins n ns τ')) := by
      rcases Nat.lt_or_gt_of_ne hne with z | z
      · refine ⟨j, by rw [List.getElem?_eraseIdx_of_lt z]; exact hj, ?_⟩
        rw [List.eraseIdx_set_gt z]
      · refine ⟨j - 1, ?_, ?_⟩
        · rw [List.getElem?_eraseIdx_of_ge (by omega), show j - 1 + 1 = j by omega]
          exact hj
        · rw [List.eraseIdx_set_lt z]
    rw [e2]
    have pq : p ≠ q := fun z => by
      subst z
      have := ow_at s.ow.nd hj hm rfl
      exact hne this
    refine s1.writeG hj' rfl rfl (Ex.refl _) s1.ek (fun _ _ _ => rfl) (fun _ _ h => h) ⟨_, g3, C, dx, hs, us, rfl, ?_⟩
    obtain ⟨v, h1, h2⟩ := hk.get ok.r
    have ok2 := ok.swap (.of ex)
    refine ⟨ok.ct, ok.le, u.same ok2.r h1 ?_, ok.fl, ok.out⟩
    cases (show v = .ref q from h2)
    exact ⟨q, ws, rfl, Rd.of upd_same, DK.mono ex f5⟩
/-- .. a list -/
theorem kn_subL {xs : List α} {t' : τ'} (hj : ow[j]? = some (oo p x)) (hm : ow[m]? = some (ol q xs)) (hne : j ≠ m) (hk : Prt x.t k (Adr.mk q)) (u : Upt x.t k xs t')
    (ho : (ow.set j (oo p (Ins.mk t' : Ins n ns τ'))).eraseIdx m = ow1) : KNw K F Kn0 sl ow sl ow1 := fun σ Kn H s => by
  subst ho
  obtain ⟨f1, f2, ws, f3, f5⟩ := s.ow.each _ (List.mem_of_getElem? hm)
  have f2 : Kn q = none := f2
  have f3 : H q = some (.lst ws) := f3
  have ex := Ex.new (o := HO.lst ws) f2
  refine ⟨q, .lst ws, f2, (fun vs z => nomatch z), ?_⟩
  · obtain ⟨g1, g2, ob2, g3, C, dx, hs, us, e1, ok⟩ := s.ow.each _ (List.mem_of_getElem? hj)
    subst e1
    have s1 := (s.sub (List.eraseIdx_sublist ow m)).know (o := .lst ws) f1 f2 (no_at s hm) f3
    have g3 : H p = some (.ins C dx hs) := g3
    obtain ⟨j', hj', e2⟩ : ∃ j', (ow.eraseIdx m)[j']? = some (oo p x) ∧ (ow.set j (oo p (Ins.mk t' : Ins n ns τ'))).eraseIdx m = (ow.eraseIdx m).set j' (oo p (Ins.mk t' : Ins n ns τ')) := by
      rcases Nat.lt_or_gt_of_ne hne with z | z
      · refine ⟨j, by rw [List.getElem?_eraseIdx_of_lt z]; exact hj, ?_⟩
        rw [List.eraseIdx_set_gt z]
      · refine ⟨j - 1, ?_, ?_⟩
        · rw [List.getElem?_eraseIdx_of_ge (by omega), show j - 1 + 1 = j by omega]
          exact hj
        · rw [List.eraseIdx_set_lt z]
    rw [e2]
    refine s1.writeG hj' rfl rfl (Ex.refl _) s1.ek (fun _ _ _ => rfl) (fun _ _ h => h) ⟨_, g3, C, dx, hs, us, rfl, ?_⟩
    obtain ⟨v, h1, h2⟩ := hk.get ok.r
    have ok2 := ok.swap (.of ex)
    refine ⟨ok.ct, ok.le, u.same ok2.r h1 ?_, ok.fl, ok.out⟩
    cases (show v = .ref q from h2)
    exact ⟨q, ws, rfl, upd_same, paired_mono ex f5⟩
/-- the instance itself -/
theorem kn_ins (hi : sl[i]? = some (.at p)) (hj : ow[j]? = some (oo p x)) (hs : sl.set i (sv x) = sl') (ho : ow.eraseIdx j = ow1) : KNw K F Kn0 sl ow sl' ow1 := fun σ Kn H s => by
  subst hs
  subst ho
  obtain ⟨o, h1, h2⟩ := s.sl.get hi
  have h2 : o = some (.ref p) := h2
  obtain ⟨f1, f2, ob, f3, C, dx, hs, us, e1, ok⟩ := s.ow.each _ (List.mem_of_getElem? hj)
  subst e1
  have f2 : Kn p = none := f2
  have f3 : H p = some (.ins C dx hs) := f3
  have s2 := (s.sub (List.eraseIdx_sublist ow j)).know (o := .ins C dx hs) f1 f2 (no_at s hj) f3
  have s3 := s2.set (x := sv x) (o := o) i ⟨.ref p, h2, p, C, dx, hs, us, rfl, upd_same, ok.swap (.of (Ex.new f2))⟩
  rw [kn_set h1] at s3
  exact ⟨p, .ins C dx hs, f2, (fun vs z => nomatch z), s3⟩
/-- an own dict by its name -/
theorem kn_dict {κ β : Type} [Rp κ] [Ky κ] [DecidableEq κ] [Rp β] {d : Dc κ β} (hi : sl[i]? = some (.at p)) (hj : ow[j]? = some (oo p d)) (hs : sl.set i (sv d) = sl') (ho : ow.eraseIdx j = ow1) : KNw K F Kn0 sl ow sl' ow1 := fun σ Kn H s => by
  subst hs
  subst ho
  obtain ⟨f1, f2, ob, f3, ws, f4, f5⟩ := s.ow.each _ (List.mem_of_getElem? hj)
  obtain ⟨o, kp, hp, s1⟩ := s.borrowG hi hj
  have f3 : H p = some ob := f3
  have e : o = Ky.ho ws := by
    rw [hp] at f3
    rw [Option.some.inj f3, f4]
  refine ⟨p, o, kp, fun vs z => ?_, s1⟩
  have := Ky.isd (κ := κ) ws
  rw [← e, z] at this
  exact this
end
/-! a def that changes a group and may raise -/
def TellG {γ α : Type} [Rp α] (K : Fg) (cm : Str → Option Addr) (os : γ → List Ow) (x : γ) (Kn H : Hp) (Q : VK) (E : XK) : Er (α × γ) → Prop
  | .ok y => ∀ v Kn' H', Ex Kn Kn' → Ex Kn' H' → (∀ a, a ∉ adsO (os x) → H a ≠ none → H' a = H a) → (∀ a, H a ≠ none → Kn a = none → Kn' a = none) → (∀ o ∈ os y.2, o.ok K Kn' H') → rep K Kn' v y.1 → Q v H'
  | .ex e => ∀ cls d Kn' H', Ex Kn Kn' → Ex Kn' H' → (∀ a, a ∉ adsO (os x) → H a ≠ none → H' a = H a) → (∀ a, a ∉ adsO (os x) → H a ≠ none → Kn a = none → Kn' a = none) → XR cm Kn' e cls d → E cls d H'
def PMGX {γ α τ : Type} [Rp α] [Tp τ] (K : Fg) (cm : Str → Option Addr) (mk : (Nat → Addr) → List V → List V) (os : (Nat → Addr) → γ → List Ow) (f : γ → τ → Option (Er (α × γ))) : Sp := fun vs H Q E => ∃ Kn ps rest t x r, vs = mk ps rest ∧ Ex Kn H ∧ (adsO (os ps x)).Nodup ∧ (∀ o ∈ os ps x, Kn o.ad = none ∧ o.ok K Kn H) ∧ rept K Kn rest t ∧ f x t = some r ∧ TellG K cm (os ps) x Kn H Q E r
section
variable {K : Fg} {F Kn0 : Hp} {sl : List Sl} {ow ow1 : List Ow} {cm : Str → Option Addr} {α τ γ : Type} [Rp α] [Tp τ] {D : Ends} {te : TE} {ta : TA} {W : WX} {e : Xc}
/-- what is wished of the end -/
def REG (K : Fg) (F Kn0 : Hp) (os : γ → List Ow) (cm : Str → Option Addr) (R : VK) (E : XK) : Er (α × γ) → Prop
  | .ok y => RT K F Kn0 (os y.2) R y.1
  | .ex e => ∀ cls d Kn H, S K F Kn0 [] [] [] Kn H → XR cm Kn e cls d → E cls d H
theorem reg_of {H Kn : Hp} {os : γ → List Ow} {x : γ} {r : Er (α × γ)} {Q : VK} {E : XK} (hn : ∀ o ∈ os x, Kn o.ad = none) (e : ∀ y, adsO (os y) = adsO (os x)) (q : TellG K cm os x Kn H Q E r) : REG K (buts H (adsO (os x))) Kn os cm Q E r := by
  cases r with
  | ok y => exact rt_ofG (os := os x) (os' := os y.2) hn (e y.2) q
  | ex e => exact fun cls d Kn' H' s x => q cls d Kn' H' s.e0 s.ek (fun a ha hn => by
      have e : buts H _ a = H a := if_neg ha
      exact (Ex.at_eq s.ef (by rw [e]; exact hn)).trans e) (fun a ha hn hk => s.sep a (by unfold buts; rw [if_neg ha]; exact hn) hk) x
/-- a group given up -/
theorem S.loseG {σ : L2.St} {Kn H Kn' H' : Hp} {A B os : List Ow} (s : S K F Kn0 sl (A ++ os ++ B) σ Kn H) (kk : Ex Kn Kn') (kh : Ex Kn' H') (hq : ∀ a, a ∉ adsO os → H a ≠ none → H' a = H a) (sp : ∀ a, a ∉ adsO os → H a ≠ none → Kn a = none → Kn' a = none) : S K F Kn0 sl (A ++ B) σ Kn' H' := by
  have ein : ∀ a ∈ adsO os, F a = none := fun a ha => by
    obtain ⟨o, ho, rfl⟩ := List.mem_map.mp ha
    exact (s.ow.each o (List.mem_append_left _ (List.mem_append_right _ ho))).1
  have nd := s.ow.nd
  rw [List.map_append, List.map_append] at nd
  have sub : (A ++ B).Sublist (A ++ os ++ B) := by
    rw [List.append_assoc]
    exact List.Sublist.append_left (List.sublist_append_right _ _) A
  have out : ∀ o ∈ A ++ B, o.ad ∉ adsO os := fun o ho hm => by
    rcases List.mem_append.mp ho with ho | ho
    · have := (List.nodup_append.mp (List.nodup_append.mp nd).1).2.2
      exact this _ (List.mem_map.mpr ⟨o, ho, rfl⟩) _ hm rfl
    · have := (List.nodup_append.mp nd).2.2
      exact this _ (List.mem_append_right _ hm) _ (List.mem_map.mpr ⟨o, ho, rfl⟩) rfl
  refine ⟨s.e0.trans kk, kh, fun a u h => ?_, fun a h1 h2 => sp a (fun z => h1 (ein a z)) (Ex.nn s.ef h1) (s.sep a h1 h2), s.sl.mono kk, ⟨fun o ho => ?_, s.ow.nd.sublist (sub.map _)⟩⟩
  · have n1 : a ∉ adsO os := fun z => by rw [ein a z] at h; cases h
    rw [hq a n1 (ne_none_of (s.ef _ _ h))]
    exact s.ef _ _ h
  · obtain ⟨f1, f2, f3⟩ := s.ow.each o (sub.subset ho)
    have h4 := Ow.there f3
    exact ⟨f1, sp _ (out o ho) h4 f2, Ow.ok_mono kk (hq _ (out o ho) h4) f3⟩
theorem em_callGX {mk : (Nat → Addr) → List V → List V} {os : (Nat → Addr) → γ → List Ow} {f : γ → τ → Option (Er (α × γ))} {t : τ} {E : St → XK} {x x' : γ} {r : α} {ps : Nat → Addr} {A B : List Ow} (h : EMx K F Kn0 sl ow ta t (mk ps)) (hj : ow = A ++ os ps x ++ B) (he : A ++ os ps x' ++ B = ow1) (hd : adsO (os ps x') = adsO (os ps x))
    (hf : f x t = some (.ok (r, x'))) : EM K F Kn0 sl ow (tCallS (PMGX K cm mk os f) E ta) ow1 r := fun σ Kn H s Q qq => h σ Kn H s _ fun vs Kn1 H1 g1 r1 => by
  subst hj
  subst he
  have s1 := s.grow g1
  have nd := s1.ow.nd
  rw [List.map_append, List.map_append] at nd
  refine ⟨Kn1, ps, vs, t, x, .ok (r, x'), rfl, s1.ek, (List.nodup_append.mp (List.nodup_append.mp nd).1).2.1, fun o ho => ?_, r1, hf, fun v Kn' H' kk kh hq sp h1 rv => qq v Kn' H' (g1.kk.trans kk) (s1.writeGs hd kk kh hq sp h1) rv⟩
  obtain ⟨f1, f2, f3⟩ := s1.ow.each o (List.mem_append_left _ (List.mem_append_right _ ho))
  exact ⟨f2, f3⟩
theorem er_callGX {mk : (Nat → Addr) → List V → List V} {os : (Nat → Addr) → γ → List Ow} {f : γ → τ → Option (Er (α × γ))} {t : τ} {x : γ} {ps : Nat → Addr} {A B : List Ow} (h : EMx K F Kn0 sl ow ta t (mk ps)) (hj : ow = A ++ os ps x ++ B) (he : A ++ B = ow1)
    (hf : f x t = some (.ex e)) : ERM K F Kn0 sl ow cm W (tCallS (PMGX K cm mk os f) (WE W) ta) ow1 e := fun σ Kn H s w Q => h σ Kn H s _ fun vs Kn1 H1 g1 r1 => by
  subst hj
  subst he
  have s1 := s.grow g1
  have nd := s1.ow.nd
  rw [List.map_append, List.map_append] at nd
  refine ⟨Kn1, ps, vs, t, x, .ex e, rfl, s1.ek, (List.nodup_append.mp (List.nodup_append.mp nd).1).2.1, fun o ho => ?_, r1, hf, fun cls d Kn' H' kk kh hq sp xr => w cls d Kn' H' (s1.loseG kk kh hq sp) xr⟩
  obtain ⟨f1, f2, f3⟩ := s1.ow.each o (List.mem_append_left _ (List.mem_append_right _ ho))
  exact ⟨f2, f3⟩
theorem erm_opL {r : R2} {tb : TE} (h : ERM K F Kn0 sl ow cm W te ow1 e) : ERM K F Kn0 sl ow cm W (tOp r te tb) ow1 e := fun σ Kn H s w _ => h σ Kn H s w _
/-- while, its test changes what is one's own, and may raise -/
theorem sb_whileE {tt : TT} {tb : TS} {Sx : Type} (slx : List Sl) (owx : Sx → List Ow) (P : Nat → Sx → Prop) (n0 : Nat) (s0 : Sx) (h0 : P n0 s0) (le : SlLe sl slx) (eo : (owx s0).Sublist ow)
    (step : ∀ n s, P n s → (∀ σ Kn H, S K F Kn0 slx (owx s) σ Kn H → ∀ Q, tt σ H Q) ∨ ∃ b ow1, ETM K F Kn0 slx (owx s) tt ow1 b ∧
      (b = true → ∀ N : L2.St → Hp → Prop, (∀ m s', m < n → P m s' → ∀ σ Kn H, S K F Kn0 slx (owx s') σ Kn H → N σ H) → SB K F Kn0 slx ow1 { D with nx := N, ct := N, bk := D.nx } tb) ∧ (b = false → SN K F Kn0 slx ow1 D)) :
    SB K F Kn0 sl ow D (tWhile tt tb) := fun σ Kn H s => by
  refine ⟨fun n σ H => ∃ Kn s, P n s ∧ S K F Kn0 slx (owx s) σ Kn H, ⟨n0, Kn, s0, h0, (s.le le).sub eo⟩, fun n σ H hW => ?_⟩
  obtain ⟨Kn, s, hP, hS⟩ := hW
  rcases step n s hP with h | ⟨b, ow1, h1, h2, h3⟩
  · exact h σ Kn H hS _
  · refine h1 σ Kn H hS _ fun Kn1 H1 g1 s1 => ?_
    cases b with
    | true => exact iteT ⟨fun σ H => ∃ m Kn s, m < n ∧ P m s ∧ S K F Kn0 slx (owx s) σ Kn H, fun σ' H' ⟨m, Kn', s', hm, hp, hs⟩ => ⟨m, hm, Kn', s', hp, hs⟩, h2 rfl _ (fun m s' hm hp σ Kn H hs => ⟨m, Kn, s', hm, hp, hs⟩) σ Kn1 H1 s1⟩
    | false => exact iteF (h3 rfl σ Kn1 H1 s1)
end
end Wk
set_option maxHeartbeats 4000000
/-! Wins3: C(..), C with attributes that change: a new group; more statements on what stands in attributes -/
namespace Wk
open PySem PySem.Spec L2 Evl
/-- __init__ of such a class: from a bare instance to a group -/
def PIN {γ τ : Type} [Tp τ] (K : Fg) (n : Str) (mk : Addr → List V → List V) (os : (Nat → Addr) → γ → List Ow) (f : τ → Option γ) : Sp := fun vs H Q _ => ∃ Kn p rest t x C dx, vs = mk p rest ∧ Ex Kn H ∧ Kn p = none ∧ CT K n C ∧ H p = some (.ins C dx []) ∧ rept K Kn rest t ∧ f t = some x ∧
  ∀ ps Kn' H', ps 0 = p → Ex Kn Kn' → Ex Kn' H' → (∀ a, a ≠ p → H a ≠ none → H' a = H a) → (∀ a, H a ≠ none → Kn a = none → Kn' a = none) → (adsO (os ps x)).Nodup → (∀ o ∈ os ps x, (o.ad = p ∨ H o.ad = none) ∧ Kn' o.ad = none ∧ o.ok K Kn' H') → Q .non H'
/-- a new group -/
def EI (K : Fg) (F Kn0 : Hp) (sl : List Sl) (ow : List Ow) (te : TE) (os : (Nat → Addr) → List Ow) : Prop := ∀ σ Kn H, S K F Kn0 sl ow σ Kn H → ∀ Q : VK,
  (∀ ps Kn' H', Gr Kn H Kn' H' → (adsO (os ps)).Nodup → (∀ o ∈ os ps, H o.ad = none ∧ Kn' o.ad = none ∧ o.ok K Kn' H') → Q (.ref (ps 0)) H') → te σ H Q
section
variable {K : Fg} {F Kn0 : Hp} {sl : List Sl} {ow ow1 : List Ow} {α β τ γ : Type} [Rp α] [Rp β] [Tp τ] {D : Ends} {te t0 tv : TE} {ta : TA} {i j k : Nat} {p : Addr}
theorem ei_new {n : Str} {C : Addr} {mk : Addr → List V → List V} {os : (Nat → Addr) → γ → List Ow} {f : τ → Option γ} {t : τ} {x : γ} (ct : CT K n C) (hmk : ∀ p vs, vs.length = Tp.n τ → V.ref p :: vs = mk p vs) (h : EA K F Kn0 sl ow ta t) (hf : f t = some x) :
    EI K F Kn0 sl ow (tMake C (PIN K n mk os f) [] E0 ta) (fun ps => os ps x) := fun σ Kn H s Q q => h σ Kn H s _ fun vs Kn1 H1 g1 r1 a dx na nd hne => by
  have k1 : Kn1 a = none := fresh_back g1.kh na
  have ek : Ex Kn1 (upd (upd H1 dx (.own a)) a (.ins C dx [])) := g1.kh.trans ((Ex.new nd).trans (Ex.new (by rw [upd_ne hne.symm]; exact na)))
  show PIN K n mk os f (.ref a :: (vs ++ [])) _ _ _
  rw [List.append_nil, hmk a vs (Tp.len r1)]
  have e3 : ∀ c, H1 c ≠ none → upd (upd H1 dx (.own a)) a (.ins C dx []) c = H1 c := fun c hc => by
    have c1 : c ≠ a := fun z => hc (z ▸ na)
    have c2 : c ≠ dx := fun z => hc (z ▸ nd)
    rw [upd_ne c1, upd_ne c2]
  refine ⟨Kn1, a, vs, t, x, C, dx, rfl, ek, k1, ct, upd_same, r1, hf, fun ps Kn' H' hp kk kh hq sp hnd ho => ⟨rfl, ?_⟩⟩
  have hkeep : ∀ c, H1 c ≠ none → H' c = H1 c := fun c hc => by
    have c1 : c ≠ a := fun z => hc (z ▸ na)
    rw [← e3 c hc]
    refine hq c c1 ?_
    rw [e3 c hc]
    exact hc
  have gg : Gr Kn1 H1 Kn' H' := ⟨kk, fun c w hc => by rw [hkeep c (ne_none_of hc)]; exact hc, kh, fun c hc hk => sp c (by rw [e3 c hc]; exact hc) hk⟩
  rw [← hp]
  refine q ps Kn' H' (g1.trans gg) hnd fun o hm => ?_
  obtain ⟨h1, h2, h3⟩ := ho o hm
  refine ⟨fresh_back g1.hh ?_, h2, h3⟩
  rcases h1 with h1 | h1
  · rw [h1]
    exact na
  · cases q2 : H1 o.ad with
    | none => rfl
    | some u =>
      rw [e3 _ (ne_none_of q2), q2] at h1
      cases h1
theorem S.addOs {σ : L2.St} {Kn H : Hp} {os : List Ow} (s : S K F Kn0 sl ow σ Kn H) (nd : (adsO os).Nodup) (h : ∀ o ∈ os, F o.ad = none ∧ Kn o.ad = none ∧ (∀ u ∈ ow, u.ad ≠ o.ad) ∧ o.ok K Kn H) : S K F Kn0 sl (ow ++ os) σ Kn H :=
  ⟨s.e0, s.ek, s.ef, s.sep, s.sl, ⟨fun u hu => by
    rcases List.mem_append.mp hu with hu | hu
    · exact s.ow.each u hu
    · obtain ⟨a, b, c, d⟩ := h u hu
      exact ⟨a, b, d⟩, by
    rw [List.map_append]
    refine List.nodup_append.mpr ⟨s.ow.nd, nd, fun a ha b hb e => ?_⟩
    obtain ⟨u, hu, rfl⟩ := List.mem_map.mp ha
    obtain ⟨o, ho, rfl⟩ := List.mem_map.mp hb
    exact (h o ho).2.2.1 u hu e⟩⟩
/-- x = C(..) -/
theorem sb_asgI {os : (Nat → Addr) → List Ow} {sl' : (Nat → Addr) → List Sl} (hs : ∀ ps, sl.set i (.at (ps 0)) = sl' ps) (h : EI K F Kn0 sl ow te os) (k : ∀ ps, SN K F Kn0 (sl' ps) (ow ++ os ps) D) : SB K F Kn0 sl ow D (tAsg te (gName i)) := fun σ Kn H s =>
  h σ Kn H s _ fun ps Kn1 H1 g nd ho => k ps _ Kn1 H1 (hs ps ▸ ((s.grow g).addOs nd fun o hm => by
    obtain ⟨a, b, c⟩ := ho o hm
    exact ⟨fresh_back s.ef a, b, owned_ne s a, c⟩).seta i)
/-- a bare instance: the state at the entry of such an __init__, and its end -/
theorem enterI {σ : L2.St} {Kn H : Hp} {D : Ends} {t : TS} {n : Str} {C dx : Addr} (ek : Ex Kn H) (kp : Kn p = none) (ct : CT K n C) (hp : H p = some (.ins C dx [])) (hs : SlsOk K Kn sl σ) (h : SB K (but H p) Kn sl [oo p (Ins.mk () : Ins n [] Unit)] D t) : t D σ H :=
  h σ Kn H ⟨Ex.refl _, ek, fun a u e => by
    unfold but at e
    split at e
    · cases e
    · exact e, fun _ _ h => h, hs, ⟨fun o ho => by
      cases List.mem_singleton.mp ho
      exact ⟨if_pos rfl, kp, _, hp, C, dx, [], [], rfl, ct, Nat.le_refl _, rfl, (fun k f h => by simp at h), fun _ _ => rfl⟩, List.nodup_cons.mpr ⟨(fun h => nomatch h), List.nodup_nil⟩⟩⟩
/-- what is wished of the end -/
def RI (K : Fg) (F Kn0 : Hp) (os : (Nat → Addr) → γ → List Ow) (p : Addr) (x : γ) (R : VK) : Prop := ∀ ps Kn H, ps 0 = p → S K F Kn0 [] (os ps x) [] Kn H → R .non H
theorem ri_of {H Kn : Hp} {os : (Nat → Addr) → γ → List Ow} {x : γ} {Q : VK} (kp : Kn p = none) (hp0 : ∀ ps, ps 0 = p → p ∈ adsO (os ps x))
    (q : ∀ ps Kn' H', ps 0 = p → Ex Kn Kn' → Ex Kn' H' → (∀ a, a ≠ p → H a ≠ none → H' a = H a) → (∀ a, H a ≠ none → Kn a = none → Kn' a = none) → (adsO (os ps x)).Nodup → (∀ o ∈ os ps x, (o.ad = p ∨ H o.ad = none) ∧ Kn' o.ad = none ∧ o.ok K Kn' H') → Q .non H') :
    RI K (but H p) Kn os p x Q := fun ps Kn' H' hp s => by
  have hin := hp0 ps hp
  refine q ps Kn' H' hp s.e0 s.ek (fun a ha hn => ?_) (fun a hn hk => ?_) s.ow.nd (fun o ho => ?_)
  · have e : but H p a = H a := if_neg ha
    exact (Ex.at_eq s.ef (by rw [e]; exact hn)).trans e
  · by_cases ha : a = p
    · subst ha
      obtain ⟨o, ho, e⟩ := List.mem_map.mp hin
      rw [← e]
      exact (s.ow.each o ho).2.1
    · exact s.sep a (by unfold but; rw [if_neg ha]; exact hn) hk
  · obtain ⟨h1, h2, h3⟩ := s.ow.each o ho
    refine ⟨?_, h2, h3⟩
    by_cases z : o.ad = p
    · exact .inl z
    · refine .inr ?_
      unfold but at h1
      rw [if_neg z] at h1
      exact h1
theorem sn_endI {os : (Nat → Addr) → γ → List Ow} {x : γ} {R : VK} (q : RI K F Kn0 os p x R) (ps : Nat → Addr) (hp : ps 0 = p) (e : (os ps x).Perm ow1) (l : ow1.Sublist ow) (hd : ∀ σ H, R .non H → D.nx σ H) : SN K F Kn0 sl ow D := fun σ Kn H s => hd σ H (q ps Kn H hp (((s.sub l).fin).perm e.symm))
/-! statements -/
/-- e.f = v, the first time, v with effects -/
theorem sb_insNewM {n : Str} {ns : List Str} {f : Str} {y : α} {x : Ins n ns τ} {ow2 : List Ow} (hi : sl[i]? = some (.at p)) (h : EM K F Kn0 sl ow tv ow1 y) (hj : ow1[j]? = some (oo p x)) (no : ∀ C, CT K n C → NoAttr K C f) (hf : f ∈ FLD) (hn : f ∉ ns) (hl : ns.length < 900) (ho : ow1.set j (oo p (Ins.mk (y, x.t) : Ins n (f :: ns) (α × τ))) = ow2)
    (k : SN K F Kn0 sl ow2 D) : SB K F Kn0 sl ow D (sFld K (tVar i) tv f) := fun σ Kn H s => h σ Kn H s _ fun v Kn1 H1 ex s1 rv => (at_var hi) σ Kn1 H1 s1 _ (by
  obtain ⟨f1, f2, ob, f3, C, dx, hs, ws, e1, ok⟩ := s1.ow.each _ (List.mem_of_getElem? hj)
  subst e1
  subst ho
  have f2 : Kn1 p = none := f2
  refine ⟨p, C, dx, hs, rfl, f3, ok.ct.cl, no C ok.ct, by have := ok.le; omega, ?_⟩
  exact k _ Kn1 _ (ins_put s1 hj f2 rfl ⟨_, upd_same, C, dx, _, _, rfl, new_ok ok (no C ok.ct) hf hn rv⟩))
/-- xs.extend(e), e with effects -/
theorem sb_extOM {xs ys zs : List α} {ow2 : List Ow} (hi : sl[i]? = some (.at p)) (hi0 : ow[j]? = some (ol p xs)) (h : EM K F Kn0 sl ow te ow1 ys) (hj : ow1[j]? = some (ol p xs)) (hz : catO xs ys = some zs) (ho : ow1.set j (ol p zs) = ow2) (k : SN K F Kn0 sl ow2 D) :
    SB K F Kn0 sl ow D (tDrop (tBM K "list" rExtend (tVar i) (tCons te tNil))) := fun σ Kn H s => by
  obtain ⟨o, h1, h2⟩ := s.sl.get hi
  obtain ⟨f1, f2, ws, f3, f4⟩ := s.ow.each _ (List.mem_of_getElem? hi0)
  unfold catO at hz
  split at hz
  case isFalse => cases hz
  rename_i hq
  cases hz
  refine ⟨.ref p, by rw [h1]; exact congrArg some h2, Or.inl ⟨rfl, ws, sq_of f3⟩, h σ Kn H s _ fun v Kn1 H1 ex s1 r1 => ?_⟩
  obtain ⟨b, vs, rfl, h3, h4⟩ := r1
  obtain ⟨g1, g2, us, g3, g4⟩ := s1.ow.each _ (List.mem_of_getElem? hj)
  refine ⟨p, b, us, vs, rfl, rfl, g3, s1.ek _ _ h3, by rw [paired_len g4, paired_len h4]; exact le_line hq, k _ Kn1 _ ?_⟩
  subst ho
  exact s1.write hj (Ex.refl _) (upd_in s1.ek g2) (fun q hq _ => upd_ne hq) (fun _ _ h => h) upd_same (paired_append g4 h4)
/-- t0.append(e) -/
theorem sb_appA {xs xs' : List α} {x : α} (h0 : ATp K F Kn0 sl ow t0 p) (hj : ow[j]? = some (ol p xs)) (h : EV K F Kn0 sl ow te x) (hx : appO xs x = some xs') (ho : ow.set j (ol p xs') = ow1) (k : SN K F Kn0 sl ow1 D) :
    SB K F Kn0 sl ow D (tDrop (tBM K "list" rAppend t0 (tCons te tNil))) := fun σ Kn H s => h0 σ Kn H s _ (by
  obtain ⟨hl, rfl⟩ := appO_some hx
  subst ho
  obtain ⟨f1, f2, ws, f3, f4⟩ := s.ow.each _ (List.mem_of_getElem? hj)
  refine ⟨Or.inl ⟨rfl, ws, sq_of f3⟩, h σ Kn H s _ fun v Kn1 H1 g1 r1 => ?_⟩
  refine ⟨p, ws, v, rfl, rfl, g1.hh _ _ f3, by rw [paired_len f4]; exact lt_line hl, k _ Kn1 _ ?_⟩
  have kp1 : Kn1 p = none := g1.sp p (ne_none_of f3) f2
  exact (s.grow g1).write hj (Ex.refl _) (upd_in g1.kh kp1) (fun q hq _ => upd_ne hq) (fun _ _ h => h) upd_same (paired_append (paired_mono g1.kk f4) (.cons r1 .nil)))
end
section
variable {K : Fg} {F Kn0 : Hp} {sl : List Sl} {ow ow1 : List Ow} {D : Ends} {te tb t0 : TE} {j : Nat} {p : Addr} {z : Str} {xs : List Str}
/-- the first place of a text among texts -/
def ixOf : List Str → Str → Option Nat
  | [], _ => none
  | x :: xs, z => if x = z then some 0 else (ixOf xs z).map (· + 1)
theorem ixOf_at : ∀ {xs : List Str} {z : Str} {k : Nat}, ixOf xs z = some k → xs[k]? = some z ∧ ∀ m, m < k → xs[m]? ≠ some z
  | [], _, _, h => nomatch h
  | x :: xs, z, k, h => by
    unfold ixOf at h
    by_cases e : x = z
    · rw [if_pos e] at h
      cases h
      exact ⟨congrArg some e, fun m hm => absurd hm (Nat.not_lt_zero _)⟩
    · rw [if_neg e] at h
      obtain ⟨k', h1, rfl⟩ := Option.map_eq_some_iff.mp h
      obtain ⟨h2, h3⟩ := ixOf_at h1
      refine ⟨h2, fun m hm => ?_⟩
      cases m with
      | zero => exact fun q => e (Option.some.inj q)
      | succ m => exact h3 m (by omega)
theorem eqv_str (a b : Str) : eqV (.str a) (.str b) = decide (a = b) := by
  show (a == b) = decide (a = b)
  by_cases e : a = b
  · rw [decide_eq_true e]
    exact beq_iff_eq.mpr e
  · rw [decide_eq_false e]
    exact beq_eq_false_iff_ne.mpr e
/-- xs.index(z) -/
theorem ev_lindex {k : Nat} (h : EV K F Kn0 sl ow te xs) (hn : EV K F Kn0 sl ow tb z) (e : ixOf xs z = some k) : EV K F Kn0 sl ow (tBM K "list" (rIndex K) te (tCons tb tNil)) ((k : Nat) : Int) := fun σ Kn H s Q q =>
  h σ Kn H s _ fun v Kn1 H1 g1 r1 => by
    obtain ⟨p, vs, rfl, h1, h2⟩ := r1
    refine ⟨Or.inl ⟨rfl, vs, sq_of (g1.kh _ _ h1)⟩, hn σ Kn1 H1 (s.grow g1) _ fun w Kn2 H2 g2 r2 => ?_⟩
    cases (show w = .str z from r2)
    obtain ⟨e1, e2⟩ := ixOf_at e
    have hat : ∀ (m : Nat) (u : V), vs[m]? = some u → ∃ x, xs[m]? = some x ∧ u = .str x := fun m u hu => by
      have hv : vs = xs.map V.str := paired_fl h2
      rw [hv, List.getElem?_map] at hu
      obtain ⟨x, hx, r⟩ := Option.map_eq_some_iff.mp hu
      exact ⟨x, hx, r.symm⟩
    obtain ⟨u, hu, ru⟩ : ∃ u, vs[k]? = some u ∧ u = V.str z := by
      have hl : k < vs.length := by
        rw [paired_len h2]
        exact (List.getElem?_eq_some_iff.mp e1).1
      obtain ⟨x, hx, r⟩ := hat k _ (List.getElem?_eq_getElem hl)
      rw [e1] at hx
      cases hx
      exact ⟨_, List.getElem?_eq_getElem hl, r⟩
    subst ru
    refine ⟨p, vs, .str z, k, .str z, rfl, rfl, sq_of ((g1.trans g2).kh _ _ (g2.kk _ _ h1)), rfl, List.all_eq_true.mpr fun u hu => ?_, hu, by rw [eqv_str]; exact decide_eq_true rfl, fun m z' hm hz' => ?_, q _ Kn2 H2 (g1.trans g2) rfl⟩
    · obtain ⟨m, hm⟩ := List.getElem?_of_mem hu
      obtain ⟨x, _, rfl⟩ := hat m u hm
      rfl
    · obtain ⟨x, hx, rfl⟩ := hat m z' hz'
      rw [eqv_str]
      exact decide_eq_false fun w => e2 m hm (by rw [hx, w])
end
section
variable {K : Fg} {F Kn0 : Hp} {sl : List Sl} {ow ow1 : List Ow} {κ β : Type} [Rp κ] [K1 κ] [DecidableEq κ] [Rp β] {te t0 : TE} {D : Ends} {j : Nat} {p : Addr}
theorem sb_updKA {d d' e : Dc κ β} (h0 : ATp K F Kn0 sl ow t0 p) (hj : ow[j]? = some (oo p d)) (h : EV K F Kn0 sl ow te e) (hx : updK d e = some d') (ho : ow.set j (oo p d') = ow1) (n : SN K F Kn0 sl ow1 D) :
    SB K F Kn0 sl ow D (tDrop (tBM K "dict" rUpdK t0 (tCons te tNil))) := fun σ Kn H s => h0 σ Kn H s _ (by
  obtain ⟨f1, f2, o1, f3, ws, f4, f5⟩ := s.ow.each _ (List.mem_of_getElem? hj)
  subst f4
  have f3 : H p = some (.dK ws) := f3
  unfold updK at hx
  split at hx
  case isFalse => cases hx
  rename_i hc
  cases hx
  subst ho
  refine ⟨.inr (.inr (.inl ⟨rfl, .inl ⟨ws, f3⟩⟩)), h σ Kn H s _ fun v Kn1 H1 g1 r1 => ?_⟩
  obtain ⟨a, vs, rfl, ha, hv⟩ := r1
  have ha : Rd Kn1 a (.dK vs) := ha
  have kp : Kn1 p = none := g1.sp p (ne_none_of f3) f2
  have hne : p ≠ a := fun z => by
    rw [← z] at ha
    rcases ha with ha | ⟨_, ha⟩
    · rw [kp] at ha; cases ha
    · rw [kp] at ha; cases ha
  refine ⟨p, a, ws, vs, rfl, rfl, g1.hh _ _ f3, rd_ex g1.kh ha, hne, by rw [f5.length, hv.length]; exact hc, n _ Kn1 _ ?_⟩
  exact (s.grow g1).writeG hj rfl rfl (Ex.refl _) (upd_in g1.kh kp) (fun q hq _ => upd_ne hq) (fun _ _ h => h) ⟨_, upd_same, _, rfl, DK.merge hv (DK.mono g1.kk f5)⟩)
end
end Wk
set_option maxHeartbeats 4000000
/-! Wins4: methods of instances that are values; d.get(k, y); a method that changes its group and may raise -/
namespace L2
open PySem PySem.Spec PyProof.Rows
section
variable {X : Cx} {o e f : Expr} {es : List Expr} {apos cpos pos : Pos} {td ty tx ta : TE} {t : TA} {m : Str} {k j : Nat} {P : Program} {w : World} {K : PySem.W.Frag} {mg : Str → Option Value} {base : Heap}
theorem k_dget2 (hu : X.A.units + 64 < cLine) (ho : PE X o td) (he : PE X e ty) (hf : PE X f tx) (h1 : attributeBase o "get" X.env (eval o X.env) = eval o X.env := by rfl)
    (h2 : ((backTo cpos (starEach [e, f] X.env)).all (fun x => !x.1) && (backToKw cpos (keywordEach [] X.env)).all (fun x => x.1.isSome) && decide (([e, f] : List Expr).length + ([] : List Keyword).length + (if ([] : List Keyword).isEmpty then 0 else 1) < 30)) = true := by rfl)
    (h3 : (apos.endLine == cpos.line) = true := by rfl) (h4 : backTo cpos (starEach [e, f] X.env) = [(false, eval e X.env), (false, eval f X.env)] := by rfl) : PE X (.Call (.Attribute o "get" apos) [e, f] [] cpos) (tDGet2 td ty tx) := pe_dget2 (by omega) ho he hf ⟨h1, h2, h3, h4⟩
/-- list(d), d locked or not -/
def rListKR : List V → Hp → VK → Prop := fun xs H Q => ∃ p kvs, xs = [.ref p] ∧ Rd H p (.dK kvs) ∧ ∀ q, H q = none → Q (.ref q) (upd H q (.lst (kvs.map fun kv => kV kv.1)))
theorem call_listKR (hc : X.calm = true) : CallR X (.type "list") rListKR := by
  intro pins s σ H xs us Q I r h
  obtain ⟨p, kvs, e, hk, q⟩ := h
  subst e
  obtain ⟨u, eu, rx⟩ := vals1 r
  subst eu
  obtain rfl : u = Value.ref p := rx
  obtain ⟨z, lo, vs, rk, hd⟩ := dk_rd I.hok hk
  obtain ⟨ep, hat⟩ := hd.dictAt
  have hl : kvs.length = vs.length := Paired.length rk
  refine PySem.W.kdl_call (PySem.W.kdl_dict (knd := mixKind X.prog X.w) (kvs := vs) (ep := ep) lo) (I.ok.hd hc) hat (by rw [← hl]; exact z) fun h' tk acc' c' hkeep hS hacc => ?_
  refine ⟨.ref s.heap.objs.size, upd H s.heap.objs.size (.lst (kvs.map fun kv => kV kv.1)), I.laid hkeep (Nat.le_refl _) (show ObjOk X.prog X.w _ _ _ (.lst (kvs.map fun kv => kV kv.1)) from ⟨?_, acc'.toList, c', ?_, ?_⟩), rfl, q _ (I.hok.fresh (Nat.le_refl _))⟩
  · rw [List.length_map]; exact z
  · have el : acc'.toList.length = acc'.size := by simp
    refine vals_of_at (by rw [List.length_map, el, hacc.1, hl]) fun j x w h1 h2 => ?_
    obtain ⟨k, y, hky, hi⟩ := hacc.2 j w (by rw [← Array.getElem?_toList]; exact h2)
    have e1 : (kvs.map (·.1))[j]? = some k := by
      rw [KV.keys rk, List.getElem?_map, hky] <;> rfl
    have e2 : (kvs.map fun kv => kV kv.1)[j]? = some (kV k) := by
      have e3 : (kvs.map fun kv => kV kv.1) = (kvs.map (·.1)).map kV := by rw [List.map_map] <;> rfl
      rw [e3, List.getElem?_map, e1] <;> rfl
    rw [e2] at h1
    cases h1
    exact keyIs_rel hi
  · rw [Array.toArray_toList]; exact hS
theorem k_listKR (hc : X.calm = true := by rfl) : CallR X (.type "list") rListKR := call_listKR hc
/-- the def that o.m is, as one that may raise -/
def MtX (P : Program) (w : World) (K : PySem.W.Frag) (mg : Str → Option Value) (base : Heap) (k : Nat) (C : Addr) (m : Str) (sp : Sp) : Prop :=
  ∃ (f : Addr) (fd : FuncData) (ps : List Str), Cls K C ∧ Meth K C m f ∧ FnOk P w K mg base (L2.CX P w) k f fd ps sp ∧ Binds K fd ps []
def tDMS (P : Program) (w : World) (K : PySem.W.Frag) (mg : Str → Option Value) (base : Heap) (k : Nat) (m : Str) (E : St → XK) (ta : TE) (t : TA) : TE := fun σ H Q => ta σ H fun x H1 => ∃ a C dx fs sp, x = .ref a ∧ H1 a = some (.ins C dx fs) ∧ fs.lookup m = none ∧
  MtX P w K mg base k C m sp ∧ t σ H1 fun vs H2 => sp (x :: vs) H2 Q (E σ)
end
end L2
namespace Wk
open PySem PySem.Spec L2 Evl
section
variable {K : Fg} {F Kn0 : Hp} {sl sl' : List Sl} {ow ow1 : List Ow} {α τ τ' : Type} [Rp α] [Tp τ] [Tp τ'] {te : TE} {ta : TA} {n : Str} {ns : List Str} {x : Ins n ns τ'} {t : τ} {r : α}
/-- o.m(..), o an instance as a value -/
theorem ev_im {P : Program} {w : World} {mg : Str → Option Value} {base : Heap} {k : Nat} {m : Str} {f : Ins n ns τ' × τ → Option α} (hd : f (x, t) = some r ∧ ∀ C, CT K n C → Mt P w K mg base k C m (PF (τ := Ins n ns τ' × τ) K f)) (hm : m ∉ FLD) (h : EV K F Kn0 sl ow te x) (ha : EA K F Kn0 sl ow ta t) :
    EV K F Kn0 sl ow (tDM P w K mg base k m te ta) r := fun σ Kn H s Q q => h σ Kn H s _ fun v Kn1 H1 g1 rr => by
  have rr2 := rr
  obtain ⟨p, C, dx, hs, ws, rfl, h1, ok⟩ := rr
  refine ⟨_, _, _, _, _, rfl, g1.kh _ _ h1, ok.out m hm, hd.2 _ ok.ct, ha σ Kn1 H1 (s.grow g1) _ fun vs Kn2 H2 g2 r2 => ?_⟩
  exact ⟨Kn2, (x, t), r, g2.kh, ⟨_, vs, rfl, Rp.mono g2.kk rr2, r2⟩, hd.1, fun u Kn3 H3 g3 r3 => q u Kn3 H3 ((g1.trans g2).trans g3) r3⟩
end
section
variable {K : Fg} {β : Type} [Rp β]
theorem keys_kV {Kn : Hp} {ws : List (Key × V)} {kvs : List (Str × β)} (h : DK K Kn ws kvs) : (ws.map fun kv => kV kv.1) = (kvs.map (·.1)).map V.str := by
  have e2 := dk_keys h
  have e3 : (ws.map fun kv => kV kv.1) = (ws.map (·.1)).map kV := by rw [List.map_map] <;> rfl
  rw [e3, e2, List.map_map]
  rfl
theorem rc_listKR {d : Dc Str β} : RCL K rListKR (d, ()) (d.l.map (·.1)) := fun Kn H vs ek hv Q q => by
  obtain ⟨v, rfl, l, ws, rfl, h1, h2⟩ := one_arg hv
  refine ⟨l, ws, rfl, rd_ex ek h1, fun p hp => ?_⟩
  have e := keys_kV h2
  have key := q p _ Kn _ (Gr.newU ek hp) hp (fresh_back ek hp) upd_same (fl_paired (H := Kn) (K := K) (d.l.map (·.1)))
  have e4 : (d.l.map (·.1)).map Fl.toV = (d.l.map (·.1)).map V.str := rfl
  rw [e4, ← e] at key
  exact key
end
section
variable {K : Fg} {F Kn0 Kn1 : Hp} {γ α : Type} [Rp α] {p : Addr} {cm : Str → Option Addr} {R : VK} {E : XK}
theorem RI.base {os : (Nat → Addr) → γ → List Ow} {x : γ} (q : RI K F Kn0 os p x R) (b : Bs F Kn0 Kn1) : RI K F Kn1 os p x R := fun ps Kn H h s => q ps Kn H h (s.unbase b)
theorem REG.base {os : γ → List Ow} {r : Er (α × γ)} (q : REG K F Kn0 os cm R E r) (b : Bs F Kn0 Kn1) : REG K F Kn1 os cm R E r := by
  cases r with
  | ok y => exact RT.base (show RT K F Kn0 (os y.2) R y.1 from q) b
  | ex e => exact fun cls d Kn H s => q cls d Kn H (s.unbase b)
end
end Wk
set_option maxHeartbeats 4000000
/-! Wins5: o.m(..) that changes o's group, and may raise -/
namespace L2
open PySem PySem.Spec PyProof.Rows
section
variable {X : Cx} {o e : Expr} {es : List Expr} {apos pos : Pos} {ta : TE} {t : TA} {m : Str} {k j : Nat} {P : Program} {w : World} {K : PySem.W.Frag} {mg : Str → Option Value} {base : Heap} {E : St → XK}
theorem pe_dms0 {pl : Sem Bool} (hr : Room j X.A) (hk : k ≤ j) (he : PE X o ta) (hx : ∀ σ, PassesAt (L2.CX X.prog X.w) X σ (E σ))
    (ht : eval (.Call (.Attribute o m apos) [] [] pos) X.env = (do
      let ov ← eval o X.env
      standAt apos.atName
      let (f, first) ← holding [ov] (getMethod ov m pl)
      callWith pos f first (backTo pos (starEach [] X.env)) (backToKw pos (keywordEach [] X.env))) := by rfl) :
    PE X (.Call (.Attribute o m apos) [] [] pos) (tDMS X.prog X.w X.K X.mg X.base k m E ta tNil) := by
  refine ⟨fun pins s σ H Q I h => ?_⟩
  refine PySem.W.methodCall_KW (pl := pl) (thn (he.run pins s σ H _ I h) fun u s1 ⟨x, H1, I1, rx, a, C, dx, fs, sp, ex, ea, l, me, q⟩ => ?_) ht
  subst ex
  obtain rfl : u = Value.ref a := rx
  obtain ⟨f, fd, ps, c, hm, F, hb⟩ := me
  refine getmeth_ok I1 ea c hm l ?_
  exact PySem.W.callWith_K0 (first := [.ref a]) I1.kIn hm.kp (run_fnSD (us := [.ref a]) (vs := [.ref a]) F (hr.mono hk) hb .nil (hx σ) I1 (.cons rfl .nil) (by rw [List.append_nil]; exact q))
theorem k_dms0 {pl : Sem Bool} (hr : Room j X.A) (hk : k ≤ j) (he : PE X o ta) (hx : ∀ σ, PassesAt (L2.CX X.prog X.w) X σ (E σ))
    (ht : eval (.Call (.Attribute o m apos) [] [] pos) X.env = (do
      let ov ← eval o X.env
      standAt apos.atName
      let (f, first) ← holding [ov] (getMethod ov m pl)
      callWith pos f first (backTo pos (starEach [] X.env)) (backToKw pos (keywordEach [] X.env))) := by rfl)
    (h1 : X.prog = P := by rfl) (h2 : X.w = w := by rfl) (h3 : X.K = K := by rfl) (h4 : X.mg = mg := by rfl) (h5 : X.base = base := by rfl) :
    PE X (.Call (.Attribute o m apos) [] [] pos) (tDMS P w K mg base k m E ta tNil) := by
  subst h1 h2 h3 h4 h5
  exact pe_dms0 hr hk he hx ht
theorem pe_dms {pl : Sem Bool} (hr : Room j X.A) (hk : k ≤ j) (he : PE X o ta) (hx : ∀ σ, PassesAt (L2.CX X.prog X.w) X σ (E σ)) (ha : PA X (e :: es) t)
    (hst : starEach (e :: es) X.env = (false, eval e X.env) :: starEach es X.env := by rfl) (hpl : (backTo pos (starEach es X.env)).any (·.1) = false := by rfl)
    (ht : eval (.Call (.Attribute o m apos) (e :: es) [] pos) X.env = (do
      let ov ← eval o X.env
      standAt apos.atName
      let (f, first) ← holding [ov] (getMethod ov m pl)
      callWith pos f first (backTo pos (starEach (e :: es) X.env)) (backToKw pos (keywordEach [] X.env))) := by rfl) :
    PE X (.Call (.Attribute o m apos) (e :: es) [] pos) (tDMS X.prog X.w X.K X.mg X.base k m E ta t) := by
  refine ⟨fun pins s σ H Q I h => ?_⟩
  refine PySem.W.methodCall_KW (pl := pl) (thn (he.run pins s σ H _ I h) fun u s1 ⟨x, H1, I1, rx, a, C, dx, fs, sp, ex, ea, l, me, q⟩ => ?_) ht
  subst ex
  obtain rfl : u = Value.ref a := rx
  obtain ⟨f, fd, ps, c, hm, F, hb⟩ := me
  refine getmeth_ok I1 ea c hm l ?_
  refine PySem.W.callWith_K (first := [.ref a]) (h₀ := X.base) I.ok.mod.kin hm.kp (thn (ha.run pos pins s1 σ H1 _ I1 q) fun us s2 ⟨vs, H2, I2, r, q2⟩ => ⟨I2.kIn, ?_⟩) hst hpl
  exact run_fnSD (us := .ref a :: us) (vs := .ref a :: vs) F (hr.mono hk) hb .nil (hx σ) I2 (.cons rfl r) (by rw [List.append_nil]; exact q2)
theorem k_dms {pl : Sem Bool} (hr : Room j X.A) (hk : k ≤ j) (he : PE X o ta) (hx : ∀ σ, PassesAt (L2.CX X.prog X.w) X σ (E σ)) (ha : PA X (e :: es) t)
    (hst : starEach (e :: es) X.env = (false, eval e X.env) :: starEach es X.env := by rfl) (hpl : (backTo pos (starEach es X.env)).any (·.1) = false := by rfl)
    (ht : eval (.Call (.Attribute o m apos) (e :: es) [] pos) X.env = (do
      let ov ← eval o X.env
      standAt apos.atName
      let (f, first) ← holding [ov] (getMethod ov m pl)
      callWith pos f first (backTo pos (starEach (e :: es) X.env)) (backToKw pos (keywordEach [] X.env))) := by rfl)
    (h1 : X.prog = P := by rfl) (h2 : X.w = w := by rfl) (h3 : X.K = K := by rfl) (h4 : X.mg = mg := by rfl) (h5 : X.base = base := by rfl) :
    PE X (.Call (.Attribute o m apos) (e :: es) [] pos) (tDMS P w K mg base k m E ta t) := by
  subst h1 h2 h3 h4 h5
  exact pe_dms hr hk he hx ha hst hpl ht
end
end L2
namespace Wk
open PySem PySem.Spec L2 Evl
section
variable {K : Fg} {F Kn0 : Hp} {sl : List Sl} {ow ow1 : List Ow} {cm : Str → Option Addr} {α τ τ' γ : Type} [Rp α] [Tp τ] [Tp τ'] {t0 : TE} {ta : TA} {W : WX} {e : Xc} {n : Str} {ns : List Str} {i : Ins n ns τ'} {P : Program} {w : World} {mg : Str → Option Value} {base : Heap} {k j : Nat} {m : Str}
  {mk : (Nat → Addr) → List V → List V} {os : (Nat → Addr) → γ → List Ow} {t : τ} {x x' : γ} {r : α} {ps : Nat → Addr} {A B : List Ow}
theorem grp_at {σ : L2.St} {Kn H : Hp} (s : S K F Kn0 sl (A ++ os ps x ++ B) σ Kn H) : (adsO (os ps x)).Nodup ∧ ∀ o ∈ os ps x, Kn o.ad = none ∧ o.ok K Kn H := by
  have nd := s.ow.nd
  rw [List.map_append, List.map_append] at nd
  refine ⟨(List.nodup_append.mp (List.nodup_append.mp nd).1).2.1, fun o ho => ?_⟩
  obtain ⟨f1, f2, f3⟩ := s.ow.each o (List.mem_append_left _ (List.mem_append_right _ ho))
  exact ⟨f2, f3⟩
/-- o.m(..), o one's own: its group is changed -/
theorem em_dmG {f : γ → τ → Option (α × γ)} (h0 : ATp K F Kn0 sl ow t0 (ps 0)) (hi : ow[j]? = some (oo (ps 0) i)) (hm : m ∉ FLD) (hM : ∀ C, CT K n C → Mt P w K mg base k C m (PMG K mk os f)) (hmk : ∀ vs, vs.length = Tp.n τ → V.ref (ps 0) :: vs = mk ps vs) (ha : EA K F Kn0 sl ow ta t)
    (hj : ow = A ++ os ps x ++ B) (he : A ++ os ps x' ++ B = ow1) (hd : adsO (os ps x') = adsO (os ps x)) (hf : f x t = some (r, x')) : EM K F Kn0 sl ow (tDM P w K mg base k m t0 ta) ow1 r := fun σ Kn H s Q qq => h0 σ Kn H s _ (by
  obtain ⟨f1, f2, ob, f3, C, dx, hs, ws, e1, ok⟩ := s.ow.each _ (List.mem_of_getElem? hi)
  subst e1
  refine ⟨_, C, dx, hs, _, rfl, f3, ok.out m hm, hM C ok.ct, ha σ Kn H s _ fun vs Kn1 H1 g1 r1 => ?_⟩
  subst hj
  subst he
  have s1 := s.grow g1
  obtain ⟨nd, each⟩ := grp_at s1
  exact ⟨Kn1, ps, vs, t, x, r, x', hmk vs (Tp.len r1), s1.ek, nd, each, r1, hf, fun v Kn' H' kk kh hq sp h1 rv => qq v Kn' H' (g1.kk.trans kk) (s1.writeGs hd kk kh hq sp h1) rv⟩)
theorem em_dmGX {E : St → XK} {f : γ → τ → Option (Er (α × γ))} (h0 : ATp K F Kn0 sl ow t0 (ps 0)) (hi : ow[j]? = some (oo (ps 0) i)) (hm : m ∉ FLD) (hM : ∀ C, CT K n C → MtX P w K mg base k C m (PMGX K cm mk os f)) (hmk : ∀ vs, vs.length = Tp.n τ → V.ref (ps 0) :: vs = mk ps vs) (ha : EA K F Kn0 sl ow ta t)
    (hj : ow = A ++ os ps x ++ B) (he : A ++ os ps x' ++ B = ow1) (hd : adsO (os ps x') = adsO (os ps x)) (hf : f x t = some (.ok (r, x'))) : EM K F Kn0 sl ow (tDMS P w K mg base k m E t0 ta) ow1 r := fun σ Kn H s Q qq => h0 σ Kn H s _ (by
  obtain ⟨f1, f2, ob, f3, C, dx, hs, ws, e1, ok⟩ := s.ow.each _ (List.mem_of_getElem? hi)
  subst e1
  refine ⟨_, C, dx, hs, _, rfl, f3, ok.out m hm, hM C ok.ct, ha σ Kn H s _ fun vs Kn1 H1 g1 r1 => ?_⟩
  subst hj
  subst he
  have s1 := s.grow g1
  obtain ⟨nd, each⟩ := grp_at s1
  exact ⟨Kn1, ps, vs, t, x, .ok (r, x'), hmk vs (Tp.len r1), s1.ek, nd, each, r1, hf, fun v Kn' H' kk kh hq sp h1 rv => qq v Kn' H' (g1.kk.trans kk) (s1.writeGs hd kk kh hq sp h1) rv⟩)
theorem er_dmGX {f : γ → τ → Option (Er (α × γ))} (h0 : ATp K F Kn0 sl ow t0 (ps 0)) (hi : ow[j]? = some (oo (ps 0) i)) (hm : m ∉ FLD) (hM : ∀ C, CT K n C → MtX P w K mg base k C m (PMGX K cm mk os f)) (hmk : ∀ vs, vs.length = Tp.n τ → V.ref (ps 0) :: vs = mk ps vs) (ha : EA K F Kn0 sl ow ta t)
    (hj : ow = A ++ os ps x ++ B) (he : A ++ B = ow1) (hf : f x t = some (.ex e)) : ERM K F Kn0 sl ow cm W (tDMS P w K mg base k m (WE W) t0 ta) ow1 e := fun σ Kn H s wq Q => h0 σ Kn H s _ (by
  obtain ⟨f1, f2, ob, f3, C, dx, hs, ws, e1, ok⟩ := s.ow.each _ (List.mem_of_getElem? hi)
  subst e1
  refine ⟨_, C, dx, hs, _, rfl, f3, ok.out m hm, hM C ok.ct, ha σ Kn H s _ fun vs Kn1 H1 g1 r1 => ?_⟩
  subst hj
  subst he
  have s1 := s.grow g1
  obtain ⟨nd, each⟩ := grp_at s1
  exact ⟨Kn1, ps, vs, t, x, .ex e, hmk vs (Tp.len r1), s1.ek, nd, each, r1, hf, fun cls d Kn' H' kk kh hq sp xr => wq cls d Kn' H' (s1.loseG kk kh hq sp) xr⟩)
theorem ert_test {te : TE} (h : ERM K F Kn0 sl ow cm W te ow1 e) (q : ∀ σ Kn H cls d, S K F Kn0 sl ow1 σ Kn H → XR cm Kn e cls d → W cls d σ H) : ∀ σ Kn H, S K F Kn0 sl ow σ Kn H → ∀ Q, tTest te σ H Q := fun σ Kn H s Q => h σ Kn H s (fun cls d Kn' H' s' x => q σ Kn' H' cls d s' x) _
end
end Wk
set_option maxHeartbeats 4000000
/-! Wfre: what is told of tuples, numbers and texts alone is fresh: a dict in it is one's own; one of two kinds; ord -/
namespace L2
open PySem PySem.Spec PyProof.Rows
/-- behind the expression a new dict may be read as one that is not locked -/
def tUnE (t : TE) : TE := fun σ H Q => t σ H fun v H' => Q v H' ∨ ∃ d od u, H d = none ∧ H' d = some (.frz od u) ∧ Q v (upd H' d u)
theorem pe_unl {X : Cx} {e : Expr} {t : TE} (h : PE X e t) : PE X e (tUnE t) := by
  refine ⟨fun pins s σ H Q I hw => ?_⟩
  refine thn (h.run pins s σ _ _ I hw) fun v s1 ⟨x, H1, I2, r, q⟩ => ?_
  rcases q with q | ⟨d, od, u, hd, e, q⟩
  · exact ⟨x, _, I2, r, q⟩
  · exact ⟨x, _, I2.unlock e (fun o' u' z => by
      have q := I.base.frzs d o' u' z
      rw [hd] at q
      cases q), r, q⟩
/-- one reading or the other -/
def tAlt (t u : TE) : TE := fun σ H Q => t σ H Q ∨ u σ H Q
theorem pe_alt {X : Cx} {e : Expr} {t u : TE} (h1 : PE X e t) (h2 : PE X e u) : PE X e (tAlt t u) := by
  refine ⟨fun pins s σ H Q I hw => ?_⟩
  rcases hw with hw | hw
  · exact h1.run pins s σ _ _ I hw
  · exact h2.run pins s σ _ _ I hw
end L2
namespace Wk
open PySem PySem.Spec L2 Evl
/-! ### one of two kinds -/
instance {α β : Type} [Rp α] [Rp β] : Rp (Sum α β) where
  rep K H v x := match x with
    | .inl a => rep K H v a
    | .inr b => rep K H v b
  swap e h := by
    rename_i x
    cases x with
    | inl a => exact Rp.swap (α := α) e h
    | inr b => exact Rp.swap (α := β) e h
def sumL {α β : Type} : Sum α β → Option α
  | .inl a => some a
  | .inr _ => none
def sumR {α β : Type} : Sum α β → Option β
  | .inl _ => none
  | .inr b => some b
theorem sum_cases {α β : Type} (x : Sum α β) : (∃ a, x = .inl a) ∨ ∃ b, x = .inr b := by
  cases x with
  | inl a => exact .inl ⟨a, rfl⟩
  | inr b => exact .inr ⟨b, rfl⟩
section
variable {K : Fg} {F Kn0 : Hp} {sl sl' : List Sl} {ow ow1 : List Ow} {α β τ : Type} [Rp α] [Rp β] [Tp τ] {te : TE} {ta : TA} {D : Ends} {i j : Nat}
theorem ev_inl {a : α} (h : EV K F Kn0 sl ow te a) : EV K F Kn0 sl ow te (Sum.inl a : Sum α β) := h
theorem ev_inr {b : β} (h : EV K F Kn0 sl ow te b) : EV K F Kn0 sl ow te (Sum.inr b : Sum α β) := h
theorem ev_outl {x : Sum α β} {a : α} (h : EV K F Kn0 sl ow te x) (e : sumL x = some a) : EV K F Kn0 sl ow te a := by
  cases x with
  | inl a' => cases e; exact h
  | inr b => cases e
theorem ev_outr {x : Sum α β} {b : β} (h : EV K F Kn0 sl ow te x) (e : sumR x = some b) : EV K F Kn0 sl ow te b := by
  cases x with
  | inl a' => cases e
  | inr b => cases e; exact h
end
/-! ### what hangs on tuples alone -/
/-- what is known of tuples -/
def tpl (Kn : Hp) : Hp := fun a => match Kn a with
  | some (.tup vs) => some (.tup vs)
  | _ => none
theorem tpl_ex {Kn : Hp} : Ex (tpl Kn) Kn := fun a o h => by
  unfold tpl at h
  split at h
  · rename_i vs e
    rw [e]
    exact h
  · cases h
theorem tpl_tup {Kn : Hp} {a : Addr} {vs : List V} (h : Kn a = some (.tup vs)) : tpl Kn a = some (.tup vs) := by
  unfold tpl
  rw [h]
theorem tpl_is {Kn : Hp} {a : Addr} {o : HO} (h : tpl Kn a = some o) : ∃ vs, o = .tup vs := by
  unfold tpl at h
  split at h
  · exact ⟨_, (Option.some.inj h).symm⟩
  · cases h
class Nt (α : Type) [Rp α] where
  ok : α → Bool
  out : ∀ {K : Fg} {Kn : Hp} {v : V} {x : α}, ok x = true → rep K Kn v x → rep K (tpl Kn) v x
class NtT (τ : Type) [Tp τ] where
  ok : τ → Bool
  out : ∀ {K : Fg} {Kn : Hp} {vs : List V} {t : τ}, ok t = true → rept K Kn vs t → rept K (tpl Kn) vs t
instance : Nt Int := ⟨fun _ => true, fun _ h => h⟩
instance : Nt Bool := ⟨fun _ => true, fun _ h => h⟩
instance : Nt Str := ⟨fun _ => true, fun _ h => h⟩
instance : Nt Nn := ⟨fun _ => true, fun _ h => h⟩
instance : NtT Unit := ⟨fun _ => true, fun _ h => h⟩
instance {α τ : Type} [Rp α] [Tp τ] [Nt α] [NtT τ] : NtT (α × τ) := ⟨fun t => Nt.ok t.1 && NtT.ok t.2, fun e h => by
  obtain ⟨e1, e2⟩ := (Bool.and_eq_true _ _).mp e |> fun z => (⟨z.1, z.2⟩ : _ ∧ _)
  obtain ⟨v, r, h1, h2, h3⟩ := h
  exact ⟨v, r, h1, Nt.out e1 h2, NtT.out e2 h3⟩⟩
instance {α τ : Type} [Rp α] [Tp τ] [NtT (α × τ)] : Nt (α × τ) := ⟨fun t => NtT.ok (τ := α × τ) t, fun {K Kn v x} e h => by
  obtain ⟨q, vs, h1, h2, h3⟩ := h
  exact ⟨q, vs, h1, tpl_tup h2, NtT.out (τ := α × τ) e h3⟩⟩
mutual
/-- no list in it -/
def tpD : PyData → Bool
  | .list _ => false
  | .dict _ => false
  | .tuple ds => tpDs ds
  | _ => true
def tpDs : List PyData → Bool
  | [] => true
  | d :: ds => tpD d && tpDs ds
end
theorem dq_tp {Kn : Hp} {v : V} {d : PyData} (h : Dq Kn v d) : tpD d = true → Dq (tpl Kn) v d :=
  Dq.rec (motive_1 := fun v d _ => tpD d = true → Dq (tpl Kn) v d) (motive_2 := fun vs ds _ => tpDs ds = true → DqAll (tpl Kn) vs ds) (fun _ => .non) (fun _ _ => .bl _) (fun _ _ => .int _) (fun _ _ => .str _)
    (fun s _ ih e => by unfold tpD at e; cases e) (fun s _ ih e => by unfold tpD at e; exact .tup (tpl_tup s) (ih e)) (fun _ => .nil) (fun _ _ h1 h2 e => by
      unfold tpDs at e
      have e := (Bool.and_eq_true _ _).mp e
      exact .cons (h1 e.1) (h2 e.2)) h
instance : Nt Dy := ⟨fun x => tpD x.d, fun e h => dq_tp h e⟩
/-! ### what is fresh -/
def EF {α : Type} [Rp α] (K : Fg) (F Kn0 : Hp) (sl : List Sl) (ow : List Ow) (te : TE) (x : α) : Prop := ∀ σ Kn H, S K F Kn0 sl ow σ Kn H → ∀ Q : VK, (∀ v Kn1 H1 Kt H', Gr Kn H Kn1 H1 → Gr (tpl Kn1) H1 Kt H' → rep K Kt v x → Q v H') → te σ H Q
/-- one knowledge and the other -/
def joinK (Kn Kt : Hp) : Hp := fun a => match Kn a with
  | some o => some o
  | none => Kt a
theorem joinK_l {Kn Kt : Hp} : Ex Kn (joinK Kn Kt) := fun a o h => by
  unfold joinK
  rw [h]
theorem joinK_n {Kn Kt : Hp} {a : Addr} (h : Kn a = none) : joinK Kn Kt a = Kt a := by
  unfold joinK
  rw [h]
theorem joinK_r {Kn Kt H H' : Hp} (e : Ex Kn H) (g : Gr (tpl Kn) H Kt H') : Ex Kt (joinK Kn Kt) := fun a o h => by
  cases e1 : Kn a with
  | none => rw [joinK_n e1]; exact h
  | some u =>
    have h1 := g.hh _ _ (e _ _ e1)
    have h2 := g.kh _ _ h
    rw [h1] at h2
    rw [joinK_l _ _ e1]
    exact h2
theorem joinK_gr {Kn Kt H H' : Hp} (e : Ex Kn H) (g : Gr (tpl Kn) H Kt H') : Gr Kn H (joinK Kn Kt) H' := ⟨joinK_l, g.hh, fun a o h => by
  cases e1 : Kn a with
  | none => rw [joinK_n e1] at h; exact g.kh _ _ h
  | some u =>
    rw [joinK_l _ _ e1] at h
    cases h
    exact g.hh _ _ (e _ _ e1), fun a h1 h2 => by
  rw [joinK_n h2]
  refine g.sp a h1 ?_
  cases e1 : tpl Kn a with
  | none => rfl
  | some u =>
    have := tpl_ex _ _ e1
    rw [h2] at this
    cases this⟩
section
variable {K : Fg} {F Kn0 : Hp} {sl sl' : List Sl} {ow ow1 : List Ow} {α β τ : Type} [Rp α] [Rp β] [Tp τ] {te : TE} {ta : TA} {D : Ends} {i j : Nat} {x : α}
theorem EF.ev (h : EF K F Kn0 sl ow te x) : EV K F Kn0 sl ow te x := fun σ Kn H s Q q => h σ Kn H s Q fun v Kn1 H1 Kt H' g1 g2 r => q v _ H' (g1.trans (joinK_gr g1.kh g2)) (Rp.mono (joinK_r g1.kh g2) r)
theorem ef_call {E : XK} [NtT τ] {f : τ → Option α} {t : τ} (nt : NtT.ok t = true) (h : EA K F Kn0 sl ow ta t) (hf : f t = some x) : EF K F Kn0 sl ow (tCall (PF K f) [] E ta) x := fun σ Kn H s Q q =>
  h σ Kn H s _ fun vs Kn1 H1 g1 r1 => by
    show PF K f (vs ++ []) H1 Q _
    rw [List.append_nil]
    exact ⟨tpl Kn1, t, x, tpl_ex.trans g1.kh, NtT.out nt r1, hf, fun u Kn' H' g' r' => q u Kn1 H1 Kn' H' g1 g' r'⟩
/-- a fresh dict as one's own -/
theorem fresh_own {κ β : Type} [Rp κ] [Ky κ] [Nr κ] [Rp β] [Nr β] {σ : L2.St} {Kn H Kn1 H1 Kt H' : Hp} {p : Addr} {d : Dc κ β} (s : S K F Kn0 sl ow σ Kn H) (g1 : Gr Kn H Kn1 H1) (g2 : Gr (tpl Kn1) H1 Kt H') (r : rep K Kt (.ref p) d) :
    H p = none ∧ ∃ H2, (H2 = H' ∨ ∃ od u, H' p = some (.frz od u) ∧ H2 = upd H' p u) ∧ Gr Kn H (del (joinK Kn1 Kt) p) H2 ∧ del (joinK Kn1 Kt) p p = none ∧ (oo p d : Ow).ok K (del (joinK Kn1 Kt) p) H2 := by
  obtain ⟨q, ws, e, hq, hd⟩ := r
  cases e
  have hk : ∃ o, Kt p = some o ∧ ∀ vs, o ≠ .tup vs := by
    have hi := Ky.isd (κ := κ) ws
    rcases hq with h | ⟨od, h⟩
    · exact ⟨_, h, fun vs z => by rw [z] at hi; exact hi⟩
    · exact ⟨_, h, fun vs z => nomatch z⟩
  obtain ⟨o, ho, hn⟩ := hk
  have h1 : H1 p = none := by
    cases e1 : H1 p with
    | none => rfl
    | some u =>
      cases e2 : tpl Kn1 p with
      | none =>
        have := g2.sp p (ne_none_of e1) e2
        rw [this] at ho
        cases ho
      | some w =>
        obtain ⟨vs, rfl⟩ := tpl_is e2
        have := g2.kk _ _ e2
        rw [this] at ho
        exact absurd (Option.some.inj ho).symm (hn vs)
  have hp : H p = none := fresh_back g1.hh h1
  have kn1 : Kn1 p = none := fresh_back g1.kh h1
  have gj := g1.trans (joinK_gr g1.kh g2)
  have dm : DK K (del (joinK Kn1 Kt) p) ws d.l := by
    have dd : DK K (del Kt p) ws d.l := Paired.mapP hd fun _ _ q => ⟨q.1, Nr.out ho hn q.2⟩
    refine DK.mono (fun a u h => ?_) dd
    by_cases e : a = p
    · subst e
      rw [del_same] at h
      cases h
    · rw [del_ne e] at h ⊢
      exact joinK_r g1.kh g2 _ _ h
  have gen : ∀ H2, (∀ a, a ≠ p → H2 a = H' a) → Gr Kn H (del (joinK Kn1 Kt) p) H2 := fun H2 he => ⟨fun a u h => by
    have hne : a ≠ p := fun z => by
      subst z
      have := s.ek _ _ h
      rw [hp] at this
      cases this
    rw [del_ne hne]
    exact gj.kk _ _ h, fun a u h => by
    have hne : a ≠ p := fun z => by
      subst z
      rw [hp] at h
      cases h
    rw [he a hne]
    exact gj.hh _ _ h, fun a u h => by
    by_cases e : a = p
    · subst e
      rw [del_same] at h
      cases h
    · rw [del_ne e] at h
      rw [he a e]
      exact gj.kh _ _ h, fun a h1 h2 => by
    by_cases e : a = p
    · rw [e]
      exact del_same
    · rw [del_ne e]
      exact gj.sp a h1 h2⟩
  refine ⟨hp, ?_⟩
  rcases hq with hq | ⟨od, hq⟩
  · exact ⟨H', .inl rfl, gen H' fun _ _ => rfl, del_same, _, g2.kh _ _ hq, ws, rfl, dm⟩
  · exact ⟨upd H' p (Ky.ho ws), .inr ⟨od, _, g2.kh _ _ hq, rfl⟩, gen _ fun a ha => upd_ne ha, del_same, _, upd_same, ws, rfl, dm⟩
/-- x = f(..), a fresh dict -/
theorem sb_asgF {κ β : Type} [Rp κ] [Ky κ] [Nr κ] [Rp β] [Nr β] {d : Dc κ β} {sl' : Addr → List Sl} (hs : ∀ p, sl.set i (.at p) = sl' p) (h : EF K F Kn0 sl ow te d) (k : ∀ p, SN K F Kn0 (sl' p) (oo p d :: ow) D) : SB K F Kn0 sl ow D (tAsg (tUnE te) (gName i)) := fun σ Kn H s =>
  h σ Kn H s _ fun v Kn1 H1 Kt H' g1 g2 r => by
    obtain ⟨p, ws, rfl, hq, hd⟩ := id r
    obtain ⟨hp, H2, hH, gg, kp, ok⟩ := fresh_own s g1 g2 r
    have fin : gName i (.ref p) σ H2 D.nx := k p _ _ _ (hs p ▸ ((s.grow gg).ownG (p := p) (o := oo p d) rfl (fresh_back s.ef hp) kp (owned_ne s hp) ok).seta i)
    rcases hH with rfl | ⟨od, u, e, rfl⟩
    · exact .inl fin
    · exact .inr ⟨p, od, u, hp, e, fin⟩
/-- a, b = f(..), b one of two kinds: a fresh dict here -/
theorem sb_unpF {κ β γ : Type} [Rp κ] [Ky κ] [Nr κ] [Rp β] [Nr β] [Rp γ] {d : Dc κ β} {z : Str} {sl' : Addr → List Sl} (hs : ∀ p, (sl.set i (sv z)).set j (.at p) = sl' p) (h : EF K F Kn0 sl ow te ((z, Sum.inl d, ()) : Str × (Sum (Dc κ β) γ) × Unit)) (k : ∀ p, SN K F Kn0 (sl' p) (oo p d :: ow) D) :
    SB K F Kn0 sl ow D (tAsg (tUnE te) (gTup K 2 (gCons (gName i) (gCons (gName j) gNil)))) := fun σ Kn H s =>
  h σ Kn H s _ fun v Kn1 H1 Kt H' g1 g2 r => by
    obtain ⟨pt, ws0, rfl, ht, v1, r1, rfl, hv1, v2, r2, rfl, hv2, hr⟩ := r
    cases (show r2 = [] from hr)
    have hv2 : rep K Kt v2 d := hv2
    obtain ⟨p, ws, rfl, hq, hd⟩ := id hv2
    obtain ⟨hp, H2, hH, gg, kp, ok⟩ := fresh_own s g1 g2 hv2
    cases (show v1 = .str z from hv1)
    have hne : pt ≠ p := fun e => by
      subst e
      have hi := Ky.isd (κ := κ) ws
      rcases hq with h | ⟨od, h⟩
      · rw [ht] at h
        rw [← Option.some.inj h] at hi
        exact hi
      · rw [ht] at h
        cases h
    have ht2 : H2 pt = some (.tup [.str z, .ref p]) := by
      rcases hH with rfl | ⟨od, u, e, rfl⟩
      · exact g2.kh _ _ ht
      · rw [upd_ne hne]
        exact g2.kh _ _ ht
    have fin : gTup K 2 (gCons (gName i) (gCons (gName j) gNil)) (.ref pt) σ H2 D.nx :=
      ⟨pt, _, rfl, st_of ht2, rfl, _, _, rfl, _, _, rfl, rfl, k p _ _ _ (hs p ▸ ((((s.grow gg).ownG (p := p) (o := oo p d) rfl (fresh_back s.ef hp) kp (owned_ne s hp) ok).setv (x := z) i rfl).seta j))⟩
    rcases hH with rfl | ⟨od, u, e, rfl⟩
    · exact .inl fin
    · exact .inr ⟨p, od, u, hp, e, fin⟩
theorem nt_of {b : Bool} {u : Unit} (h : (if b = true then some () else none) = some u) : b = true := by
  cases b with
  | true => rfl
  | false => cases h
theorem EV.un (h : EV K F Kn0 sl ow te x) : EV K F Kn0 sl ow (tUnE te) x := fun σ Kn H s Q q => h σ Kn H s _ fun v Kn' H' g r => .inl (q v Kn' H' g r)
end
/-! ### an exception of one class or another -/
def isxs (x : Xc) : List (Str × Bool) → Option Bool
  | [] => none
  | (n, b) :: r => if x.cls = n then some b else isxs x r
theorem isx_cons {P : Bool → Prop} {x : Xc} {n : Str} {b t : Bool} {r : List (Str × Bool)} (h : isxs x ((n, b) :: r) = some t) (h1 : xcls x n = some () → P b) (h2 : isxs x r = some t → P t) : P t := by
  unfold isxs at h
  split at h
  · rename_i e
    cases h
    exact h1 (if_pos e)
  · exact h2 h
theorem isx_nil {P : Bool → Prop} {x : Xc} {t : Bool} (h : isxs x [] = some t) : P t := by cases h
theorem ev_altL {K : Fg} {F Kn0 : Hp} {sl : List Sl} {ow : List Ow} {α : Type} [Rp α] {t u : TE} {x : α} (h : EV K F Kn0 sl ow t x) : EV K F Kn0 sl ow (tAlt t u) x := fun σ Kn H s Q q => .inl (h σ Kn H s Q q)
theorem ev_altR {K : Fg} {F Kn0 : Hp} {sl : List Sl} {ow : List Ow} {α : Type} [Rp α] {t u : TE} {x : α} (h : EV K F Kn0 sl ow u x) : EV K F Kn0 sl ow (tAlt t u) x := fun σ Kn H s Q q => .inr (h σ Kn H s Q q)
/-! ### ord -/
def ordO (s : Str) : Option Int := if s.length = 1 then some ((s.cps.getD 0 0 : Nat) : Int) else none
theorem rc_ord {K : Fg} {s : Str} {z : Int} (h : ordO s = some z) : RCV K (fun xs H Q => ∃ x, xs = [.str x] ∧ x.length = 1 ∧ Q (.int (x.cps.getD 0 0 : Nat)) H) (s, ()) z := fun Kn H vs ek hv Q q => by
  obtain ⟨v, rfl, h1⟩ := one_arg hv
  cases h1
  unfold ordO at h
  split at h
  · rename_i e
    cases h
    exact ⟨s, rfl, e, q.fl ek⟩
  · cases h
end Wk
set_option maxHeartbeats 4000000
/-! WisT: isinstance(e, (C, ..)), e the exception that a suite holds -/
namespace L2
open PySem PySem.Spec PyProof.Rows
section
variable {X : Cx}
def rIsXT (K : PySem.W.Frag) (D a : Addr) (cls : Value) (d : Option Addr) : List V → Hp → VK → Prop := fun xs H Q => ∃ (tp : Addr) (cs : List V) (us : List Value) (b : Bool), xs = [.ref a, .ref tp] ∧ cls = .ref D ∧ (d = none ∨ ∃ dd fs, d = some dd ∧ H dd = some (.xd fs)) ∧ H tp = some (.tup cs) ∧ Paired ClsV cs us ∧ PySem.W.kitAny K (.ref D) us = some b ∧ Q (.bl b) H
theorem call_isXT {a D : Addr} {oe : Obj} {cls : Value} {d : Option Addr} {pn : List (Addr × Obj)} (C : PySem.W.findIn X.K (.ref D) "__getattribute__" = some (some (.builtin "BaseException.__getattribute__")) ∧ PySem.W.findIn X.K (.ref D) "__getattr__" = some none ∧ PySem.W.subIn X.K (.ref D) (.type "BaseException") = some true ∧ PySem.W.isClsIn X.K D = true ∧
      PySem.W.findIn X.K (.ref D) "__class__" = some (some (.builtin "object.__class__")) ∧ PySem.W.specialIn X.K (.builtin "object.__class__") "__get__" = some (some (.builtin "getset_descriptor.__get__")) ∧ PySem.W.takesIn X.K (.builtin "object.__class__") = some true ∧ PySem.W.mroIn X.K D (.type "object") = some true)
    (hz : Zc cls d oe) (hf : ∃ vs, oe.data = .fields vs) : CallR (X.suite a ((a, oe) :: pn)) (.builtin "isinstance") (rIsXT X.K D a cls d) := by
  intro pins s σ H xs us Q I r h
  obtain ⟨tp, cs, ws, b, rfl, rfl, hd, hT, k, e, q⟩ := h
  obtain ⟨c1, c2, c3, c4, c5, c6, c7, c8⟩ := C
  obtain ⟨u1, u2, rfl, r1, r2⟩ := vals2 r
  cases (show u1 = Value.ref a from r1)
  cases (show u2 = Value.ref tp from r2)
  obtain ⟨hget, _⟩ := I.pin (a, oe) (List.mem_append.mpr (.inl List.mem_cons_self))
  obtain ⟨vs, hv⟩ := hf
  have J : ∃ od, PySem.W.InstAt s.heap a oe D od := by
    rcases hd with rfl | ⟨dd, fs, rfl, hdd⟩
    · refine ⟨none, hget, hz.1, by unfold PySem.W.notCls; rw [hv] <;> rfl, ?_⟩
      rw [hz.2]
      trivial
    · have hx : ObjOk X.prog X.w H s.heap dd (.xd fs) := I.hok dd _ hdd
      obtain ⟨mA, hns, _⟩ := hx
      obtain ⟨od, ho, _⟩ := lookIn_ns hns
      refine ⟨some od, hget, hz.1, by unfold PySem.W.notCls; rw [hv] <;> rfl, ?_⟩
      rw [hz.2]
      exact ho
  obtain ⟨od, J⟩ := J
  obtain ⟨_, its, rv, o, h1, h2, n, h3⟩ := (show ObjOk X.prog X.w H s.heap tp (.tup cs) from I.hok tp _ hT)
  have e3 := ClsV.all k rv
  subst e3
  obtain ⟨oc, odd, dt, sl⟩ := o
  simp only at h2 h3
  subst h2 h3
  exact PySem.W.kia_tup (PySem.W.kitx_exc c4 c1 c2 c3 c5 c6 c7 c8) I.kIn J h1 e (fun z => nomatch z) fun tk => ⟨.bl b, H, I.kept (t' := tk) fun _ _ z => z, rfl, q⟩
end
end L2
namespace Wk
open PySem PySem.Spec L2 Evl
class Ct (τ : Type) [Tp τ] where
  us : τ → List Value
  is : ∀ {K : Fg} {H : Hp} {vs : List V} {t : τ}, rept K H vs t → Paired ClsV vs (us t)
instance : Ct Unit := ⟨fun _ => [], fun h => by cases h; exact .nil⟩
instance {τ : Type} [Tp τ] [Ct τ] : Ct (ClN × τ) := ⟨fun t => .ref t.1.a :: Ct.us t.2, fun h => by
  obtain ⟨v, r, rfl, h1, h2⟩ := h
  cases h1
  exact .cons (.own _) (Ct.is h2)⟩
instance {τ : Type} [Tp τ] [Ct τ] : Ct (TyN × τ) := ⟨fun t => .type t.1.n :: Ct.us t.2, fun h => by
  obtain ⟨v, r, rfl, h1, h2⟩ := h
  cases h1
  exact .cons (.ty _) (Ct.is h2)⟩
theorem rc_isXT {K : Fg} {α τ : Type} [Rp α] [Tp τ] [Ct (α × τ)] {t : α × τ} {a D : Addr} {cm : Str → Option Addr} {cls : Value} {d : Option Addr} {n : Str} {b : Bool} {u : Unit} {e : Xc} (hD : cm n = some D) (hx : xcls e n = some u) (hk : PySem.W.kitAny K (.ref D) (Ct.us t) = some b) : RCV K (rIsXT K D a cls d) ((Xv.mk e : Xv cm a cls d), t, ()) b := fun Kn H vs ek h Q q => by
  obtain ⟨v, w, rfl, h1, h2⟩ := two_args h
  obtain ⟨rfl, A, hA, hc, hd⟩ := h1
  rw [xcls_eq hx, hD] at hA
  cases hA
  obtain ⟨p, ws, rfl, h3, h4⟩ := h2
  refine ⟨p, ws, _, b, rfl, hc, ?_, ek _ _ h3, Ct.is (τ := α × τ) h4, hk, q.fl ek⟩
  rcases hd with ⟨_, h1⟩ | ⟨dd, fs, h1, h3, _⟩
  · exact .inl h1
  · exact .inr ⟨dd, fs, h1, ek _ _ h3⟩
end Wk
set_option maxHeartbeats 4000000
/-! Wread: x.index(y) of texts, where it is found -/
namespace Wk
open PySem PySem.Spec L2 Evl
def sixO (a b : Str) : Option Int := match Builtin.Str.occurrences a b 0 a.length 1 with
  | i :: _ => some (i : Nat)
  | [] => none
section
variable {K : Fg} {F Kn0 : Hp} {sl : List Sl} {ow : List Ow} {te tb : TE} {x y : Str}
/-- x.index(y) -/
theorem ev_sindex {z : Int} (h : EV K F Kn0 sl ow te x) (hn : EV K F Kn0 sl ow tb y) (e : sixO x y = some z) : EV K F Kn0 sl ow (tBM K "str" (fun x xs H Q => ∃ a b i rest, x = .str a ∧ xs = [.str b] ∧ Builtin.Str.occurrences a b 0 a.length 1 = i :: rest ∧ Q (.int (i : Nat)) H) te (tCons tb tNil)) z := fun σ Kn H s Q q =>
  h σ Kn H s _ fun v Kn1 H1 g1 r1 => by
    cases r1
    refine ⟨rfl, hn σ Kn1 H1 (s.grow g1) _ fun w Kn2 H2 g2 r2 => ?_⟩
    cases r2
    unfold sixO at e
    split at e
    case h_2 => cases e
    rename_i i rest ho
    cases e
    exact ⟨x, y, i, rest, rfl, rfl, ho, q _ Kn2 H2 (g1.trans g2) rfl⟩
end
end Wk
namespace Wk
open PySem PySem.Spec L2 Evl
/-- for .. in enumerate(e): e raises -/
theorem sb_forEnR {K : Fg} {F Kn0 : Hp} {sl : List Sl} {ow : List Ow} {cm : Str → Option Addr} {D : Ends} {W : WX} {te : TE} {e : Xc} {g : TG} {tb : TS} (h : ER K F Kn0 sl ow cm W te e) (w : RW K F Kn0 sl ow cm W e) : SB K F Kn0 sl ow D (tFor (iEnum K (tCons te tNil)) g tb) := fun σ Kn H s => h σ Kn H s (fun cls d Kn' H' s' x => w σ Kn' H' cls d s' x) _
end Wk
namespace Wk
open PySem PySem.Spec L2 Evl
instance {κ β : Type} [Rp κ] [K1 κ] [DecidableEq κ] [Rp β] : NN (Dc κ β) := ⟨fun h z => by
  obtain ⟨p, vs, rfl, _⟩ := h
  cases z⟩
end Wk
set_option maxHeartbeats 4000000
/-! Wgrid2: a def that tells a new list of new lists; such a list lent where something new and flat is made; rows made longer -/
namespace Wk
open PySem PySem.Spec L2 Evl
/-- what is not None -/
class Nz (α : Type) [Rp α] [Fl α] : Prop where
  nz : ∀ a : α, Fl.toV a ≠ V.non
instance : Nz Int := ⟨fun _ z => nomatch z⟩
instance : Nz Str := ⟨fun _ z => nomatch z⟩
instance : Nz Bool := ⟨fun _ z => nomatch z⟩
def optV {α : Type} [Rp α] [Fl α] : Option α → V
  | none => .non
  | some x => Fl.toV x
instance {α : Type} [Rp α] [Fl α] [Nz α] : Fl (Option α) where
  toV := optV
  iff {K H v a} := by
    cases a with
    | none => exact Iff.rfl
    | some x =>
      constructor
      · intro h
        exact Fl.iff.mp h.2
      · intro h
        subst h
        exact ⟨Nz.nz x, Fl.iff.mpr rfl⟩
section
variable {K : Fg} {F Kn0 : Hp} {sl sl' : List Sl} {ow ow1 base : List Ow} {α β γ τ : Type} [Rp α] [Rp β] [Rp γ] [Tp τ] {D : Ends} {t : TS} {te tb tb1 tb2 : TE} {tt : TT} {b : Bool} {x : α} {i : Nat} {p : Addr} {ps : Nat → Addr} {xss : List (List α)} {σ : L2.St} {Kn H : Hp}
theorem flat_any [Fl γ] {H H' : Hp} {vs : List V} {xs : List γ} (h : Paired (rep K H) vs xs) : Paired (rep K H') vs xs := by
  have e := paired_fl h
  subst e
  exact fl_paired xs
theorem en_borQ [Fl γ] {zs : List γ} (hi : sl[i]? = some (.at p)) (ho : ow = base ++ gridO p ps xss) (hs : sl.set i (sv xss) = sl') (h : EN K F Kn0 sl' base te zs) : EN K F Kn0 sl ow te zs := fun σ Kn H s Q q => by
  subst ho hs
  obtain ⟨Kn1, _, s1⟩ := s.knowGrid hi
  exact h σ _ H s1 Q fun l ws Kn' H' g hl kl hw r => q l ws Kn H' ⟨Ex.refl _, g.hh, s.ek.trans g.hh, fun _ _ h => h⟩ hl (fresh_back s.ek hl) hw (flat_any r)
theorem rows_mem {ps : Nat → Addr} : ∀ {xss : List (List α)} {k : Nat} {o : Ow}, o ∈ rowsO ps k xss → ∃ j xs, xs ∈ xss ∧ o = ol (ps j) xs
  | [], _, _, h => nomatch h
  | y :: r, k, o, h => by
    rcases List.mem_cons.mp h with rfl | h
    · exact ⟨k, y, List.mem_cons_self, rfl⟩
    · obtain ⟨j, xs, h1, h2⟩ := rows_mem h
      exact ⟨j, xs, List.mem_cons_of_mem _ h1, h2⟩
theorem newG_flat [Fl γ] {zss : List (List γ)} {H Kn1 Kn2 H' : Hp} {p : Addr} {ps : Nat → Addr} (n : NewG K H Kn1 H' p ps zss) (e : Ex Kn2 H) : NewG K H Kn2 H' p ps zss := ⟨fun o ho => by
  obtain ⟨h1, h2, h3⟩ := n.each o ho
  refine ⟨h1, fresh_back e h1, ?_⟩
  rcases List.mem_cons.mp ho with rfl | ho
  · obtain ⟨ws, h4, h5⟩ := h3
    exact ⟨ws, h4, flat_any h5⟩
  · obtain ⟨j, xs, _, rfl⟩ := rows_mem ho
    obtain ⟨ws, h4, h5⟩ := h3
    exact ⟨ws, h4, flat_any h5⟩, n.nd⟩
theorem eq_borQ [Fl γ] {zss : List (List γ)} (hi : sl[i]? = some (.at p)) (ho : ow = base ++ gridO p ps xss) (hs : sl.set i (sv xss) = sl') (h : EQ2 K F Kn0 sl' base te zss) : EQ2 K F Kn0 sl ow te zss := fun σ Kn H s Q q => by
  subst ho hs
  obtain ⟨Kn1, _, s1⟩ := s.knowGrid hi
  exact h σ _ H s1 Q fun p' ps' Kn' H' g n => q p' ps' Kn H' ⟨Ex.refl _, g.hh, s.ek.trans g.hh, fun _ _ h => h⟩ (newG_flat n s.ek)
/-- [e], a new list of one new list -/
theorem eq_one {xs : List α} (h : EN K F Kn0 sl ow te xs) : EQ2 K F Kn0 sl ow (tLst (tCons te tNil)) [xs] := fun σ Kn H s Q q =>
  h σ Kn H s _ fun a ws Kn1 H1 g1 ha ka hw r1 => ⟨(Nat.le_of_ble_eq_true rfl), fun p hp => by
    have hne : p ≠ a := fun z => by rw [z, hw] at hp; cases hp
    refine q p (fun _ => a) Kn1 _ (g1.trans (Gr.newU g1.kh hp)) ⟨fun o ho => ?_, ?_⟩
    · rcases List.mem_cons.mp ho with rfl | ho
      · exact ⟨fresh_back g1.hh hp, fresh_back g1.kh hp, [.ref a], upd_same, .cons rfl .nil⟩
      · cases List.mem_singleton.mp ho
        refine ⟨ha, ka, ws, ?_, r1⟩
        show upd H1 p _ a = _
        rw [upd_ne (Ne.symm hne)]
        exact hw
    · show [p, a].Nodup
      exact List.nodup_cons.mpr ⟨(fun h => hne (List.mem_singleton.mp h)), List.nodup_cons.mpr ⟨(fun h => nomatch h), List.nodup_nil⟩⟩⟩
theorem S.appG {xs : List α} {ws : List V} {a : Addr} (s : S K F Kn0 sl (ow ++ gridO p ps xss) σ Kn H) (fa : F a = none) (ka : Kn a = none) (na : ∀ o ∈ ow ++ gridO p ps xss, o.ad ≠ a) (hw : H a = some (.lst ws)) (r : Paired (rep K Kn) ws xs) :
    ∃ qs us, H p = some (.lst us) ∧ us.length = xss.length ∧ S K F Kn0 sl (ow ++ gridO p qs (xss ++ [xs])) σ Kn (upd H p (.lst (us ++ [.ref a]))) := by
  obtain ⟨d1, d2, us, d3, d4⟩ := s.ow.each (ol p (ptsO ps xss.length)) (List.mem_of_getElem? (at_mid _ _ _))
  have d3 : H p = some (.lst us) := d3
  have d4 : Paired (rep K Kn) us (ptsO ps xss.length) := d4
  have ul := paired_len d4
  rw [pts_len] at ul
  let qs : Nat → Addr := fun k => if k = xss.length then a else ps k
  have eg : gridO p ps xss = ol p (ptsO ps xss.length) :: rowsO qs 0 xss := by
    unfold gridO
    rw [rows_congr (ps := ps) (qs := qs) fun j _ h => (if_neg (show ¬ j = xss.length by omega)).symm]
  have s5 := s.own fa ka na hw r
  have s6 := s5.perm (ow1 := ow ++ (ol p (ptsO ps xss.length) :: (rowsO qs 0 xss ++ [ol a xs]))) (by
    rw [eg]
    have : ow ++ (ol p (ptsO ps xss.length) :: (rowsO qs 0 xss ++ [ol a xs])) = (ow ++ (ol p (ptsO ps xss.length) :: rowsO qs 0 xss)) ++ [ol a xs] := by
      rw [List.append_assoc]
      rfl
    rw [this]
    exact (List.perm_append_singleton _ _).symm)
  have epts : ptsO qs (xss.length + 1) = ptsO ps xss.length ++ [Adr.mk a] := by
    unfold ptsO
    rw [List.range_succ, List.map_append]
    refine congr (congrArg _ (List.map_congr_left fun k hk => ?_)) ?_
    · rw [List.mem_range] at hk
      show Adr.mk (if k = xss.length then a else ps k) = _
      rw [if_neg (by omega)]
    · show [Adr.mk (if xss.length = xss.length then a else ps xss.length)] = _
      rw [if_pos rfl]
  have hk4 : Kn p = none := d2
  have s7 := s6.write (p := p) (xs' := ptsO qs (xss.length + 1)) (ws := us ++ [.ref a]) (H' := upd H p (.lst (us ++ [.ref a]))) (at_mid _ _ _) (Ex.refl _) (upd_in s.ek hk4) (fun q hq _ => upd_ne hq) (fun _ _ h => h) upd_same (by
    rw [epts]
    exact paired_append d4 (.cons rfl .nil))
  have e8 : (ow ++ (ol p (ptsO ps xss.length) :: (rowsO qs 0 xss ++ [ol a xs]))).set ow.length (ol p (ptsO qs (xss.length + 1))) = ow ++ gridO p qs (xss ++ [xs]) := by
    rw [List.set_append_right _ _ (Nat.le_refl _), Nat.sub_self]
    show ow ++ (ol p (ptsO qs (xss.length + 1)) :: (rowsO qs 0 xss ++ [ol a xs])) = ow ++ (ol p (ptsO qs (xss ++ [xs]).length) :: rowsO qs 0 (xss ++ [xs]))
    rw [rows_app, Nat.zero_add, List.length_append, show qs xss.length = a from if_pos rfl]
    rfl
  rw [e8] at s7
  exact ⟨qs, us, d3, ul, s7⟩
/-- rows.append(e), e a new list -/
theorem sb_appQ {xs : List α} {xss' : List (List α)} (hi : sl[i]? = some (.at p)) (ho : ow = base ++ gridO p ps xss) (h : EN K F Kn0 sl ow te xs) (hx : appO xss xs = some xss') (k : ∀ qs, SN K F Kn0 sl (base ++ gridO p qs xss') D) : SB K F Kn0 sl ow D (tDrop (tBM K "list" rAppend (tVar i) (tCons te tNil))) := fun σ Kn H s => by
  subst ho
  obtain ⟨hl, rfl⟩ := appO_some hx
  obtain ⟨o, h1, h2⟩ := s.sl.get hi
  obtain ⟨_, _, ws0, f0, _⟩ := s.ow.each (ol p (ptsO ps xss.length)) (List.mem_of_getElem? (at_mid _ _ _))
  refine ⟨.ref p, by rw [h1]; exact congrArg some h2, Or.inl ⟨rfl, ws0, sq_of f0⟩, h σ Kn H s _ fun a ws Kn1 H1 g1 ha ka hw r1 => ?_⟩
  obtain ⟨qs, us, e1, e2, s2⟩ := (s.grow g1).appG (fresh_back s.ef ha) ka (owned_ne s ha) hw r1
  exact ⟨p, us, .ref a, rfl, rfl, e1, by rw [e2]; exact lt_line hl, k qs _ Kn1 _ s2⟩
/-- one of the rows is another one now -/
def rowG (xss : List (List α)) (n : Int) (f : List α → Option (List α)) : Option (List (List α)) := (ixN xss.length n).bind fun k => (xss[k]?).bind fun r => (f r).map fun r' => xss.set k r'
theorem rowG_some {n : Int} {f : List α → Option (List α)} {xss' : List (List α)} (h : rowG xss n f = some xss') : ∃ k r r', ixN xss.length n = some k ∧ xss[k]? = some r ∧ f r = some r' ∧ xss' = xss.set k r' := by
  unfold rowG at h
  obtain ⟨k, h1, h⟩ := bind_some h
  obtain ⟨r, h2, h⟩ := bind_some h
  obtain ⟨r', h3, rfl⟩ := Option.map_eq_some_iff.mp h
  exact ⟨k, r, r', h1, h2, h3, rfl⟩
theorem S.rowAt {k : Nat} {n : Int} {r : List α} (s : S K F Kn0 sl (base ++ gridO p ps xss) σ Kn H) (h1 : ixN xss.length n = some k) (h2 : xss[k]? = some r) : ∃ us, H p = some (.lst us) ∧ atI us n = some (.ref (ps k)) ∧ ∃ ws, H (ps k) = some (.lst ws) ∧ Kn (ps k) = none ∧ Paired (rep K Kn) ws r := by
  have hjl : k < xss.length := (List.getElem?_eq_some_iff.mp h2).1
  obtain ⟨f1, f2, us, f3, f4⟩ := s.ow.each (ol p (ptsO ps xss.length)) (List.mem_of_getElem? (at_mid _ _ _))
  have f4 : Paired (rep K Kn) us (ptsO ps xss.length) := f4
  obtain ⟨u, q1, q2⟩ := paired_at f4 (pts_at (ps := ps) hjl)
  have q2 : u = .ref (ps k) := q2
  subst q2
  obtain ⟨d1, d2, ws, d3, d4⟩ := s.ow.each _ (List.mem_of_getElem? (grid_at (base := base) (p := p) (ps := ps) h2))
  refine ⟨us, f3, ?_, ws, d3, d2, d4⟩
  unfold atI
  rw [paired_len f4, pts_len, h1]
  exact q1
/-- rows[n].append(e) -/
theorem sb_appRow {n : Int} {xss' : List (List α)} (hi : sl[i]? = some (.at p)) (ho : ow = base ++ gridO p ps xss) (hn : EV K F Kn0 sl ow tb n) (h : EV K F Kn0 sl ow te x) (hx : rowG xss n (fun r => appO r x) = some xss') (k : SN K F Kn0 sl (base ++ gridO p ps xss') D) :
    SB K F Kn0 sl ow D (tDrop (tBM K "list" rAppend (tOp (rIxL K) (tVar i) tb) (tCons te tNil))) := fun σ Kn H s => by
  subst ho
  obtain ⟨o, h1, h2⟩ := s.sl.get hi
  obtain ⟨kk, r, r', e1, e2, e3, rfl⟩ := rowG_some hx
  obtain ⟨hl, rfl⟩ := appO_some e3
  have hjl : kk < xss.length := (List.getElem?_eq_some_iff.mp e2).1
  refine ⟨.ref p, by rw [h1]; exact congrArg some h2, hn σ Kn H s _ fun w Kn2 H2 g2 r2 => ?_⟩
  cases r2
  have s2 := s.grow g2
  obtain ⟨us, q1, q2, ws, q3, q4, q5⟩ := s2.rowAt e1 e2
  refine ⟨p, us, n, .ref (ps kk), rfl, rfl, sq_of q1, q2, Or.inl ⟨rfl, ws, sq_of q3⟩, h σ Kn2 H2 s2 _ fun v Kn3 H3 g3 r3 => ?_⟩
  have s3 := s2.grow g3
  have hk := g3.sp _ (ne_none_of q3) q4
  refine ⟨ps kk, ws, v, rfl, rfl, g3.hh _ _ q3, by rw [paired_len q5]; exact lt_line hl, k _ Kn3 _ ?_⟩
  have := s3.write (grid_at (base := base) (p := p) (ps := ps) e2) (Ex.refl _) (upd_in g3.kh hk) (fun q hq _ => upd_ne hq) (fun _ _ h => h) upd_same (paired_append (paired_mono g3.kk q5) (.cons r3 .nil))
  rw [grid_set hjl] at this
  exact this
/-- rows[n].clear() -/
theorem sb_clrRow {n : Int} {xss' : List (List α)} (hi : sl[i]? = some (.at p)) (ho : ow = base ++ gridO p ps xss) (hn : EV K F Kn0 sl ow tb n) (hx : rowG xss n (fun _ => some []) = some xss') (k : SN K F Kn0 sl (base ++ gridO p ps xss') D) :
    SB K F Kn0 sl ow D (tDrop (tBM0 K "list" rClear (tOp (rIxL K) (tVar i) tb))) := fun σ Kn H s => by
  subst ho
  obtain ⟨o, h1, h2⟩ := s.sl.get hi
  obtain ⟨kk, r, r', e1, e2, e3, rfl⟩ := rowG_some hx
  cases e3
  have hjl : kk < xss.length := (List.getElem?_eq_some_iff.mp e2).1
  refine ⟨.ref p, by rw [h1]; exact congrArg some h2, hn σ Kn H s _ fun w Kn2 H2 g2 r2 => ?_⟩
  cases r2
  have s2 := s.grow g2
  obtain ⟨us, q1, q2, ws, q3, q4, q5⟩ := s2.rowAt e1 e2
  refine ⟨p, us, n, .ref (ps kk), rfl, rfl, sq_of q1, q2, Or.inl ⟨rfl, ws, sq_of q3⟩, ps kk, ws, rfl, rfl, q3, k _ Kn2 _ ?_⟩
  have := s2.write (xs' := ([] : List α)) (grid_at (base := base) (p := p) (ps := ps) e2) (Ex.refl _) (upd_in g2.kh q4) (fun q hq _ => upd_ne hq) (fun _ _ h => h) upd_same .nil
  rw [grid_set hjl] at this
  exact this
/-! a def that tells one -/
def PGr (K : Fg) (f : τ → Option (List (List α))) : Sp := fun vs H Q _ => ∃ Kn t r, Ex Kn H ∧ rept K Kn vs t ∧ f t = some r ∧ ∀ p ps Kn' H', Gr Kn H Kn' H' → NewG K H Kn' H' p ps r → Q (.ref p) H'
def RGr (K : Fg) (F Kn0 : Hp) (R : VK) (xss : List (List α)) : Prop := ∀ p ps Kn H, S K F Kn0 [] (gridO p ps xss) [] Kn H → R (.ref p) H
theorem sb_retGr {R : VK} (hi : sl[i]? = some (.at p)) (ho : ow = base ++ gridO p ps xss) (q : RGr K F Kn0 R xss) (hR : D.rt = R := by rfl) : SB K F Kn0 sl ow D (tRet (tVar i)) := fun σ Kn H s => by
  subst hR ho
  obtain ⟨o, h1, h2⟩ := s.sl.get hi
  exact ⟨.ref p, by rw [h1]; exact congrArg some h2, q p ps Kn H (s.sub (List.sublist_append_right _ _)).fin⟩
theorem rgr_of {H Kn : Hp} {r : List (List α)} {Q : VK} (q : ∀ p ps Kn' H', Gr Kn H Kn' H' → NewG K H Kn' H' p ps r → Q (.ref p) H') : RGr K H Kn Q r := fun p ps Kn' H' s =>
  q p ps Kn' H' ⟨s.e0, s.ef, s.ek, s.sep⟩ ⟨fun o ho => s.ow.each o ho, s.ow.nd⟩
theorem eq_call {f : τ → Option (List (List α))} {r : List (List α)} {ta : TA} {t : τ} {E : XK} (h : EA K F Kn0 sl ow ta t) (hf : f t = some r) : EQ2 K F Kn0 sl ow (tCall (PGr K f) [] E ta) r := fun σ Kn H s Q q =>
  h σ Kn H s _ fun vs Kn1 H1 g1 r1 => by
    show PGr K f (vs ++ []) H1 Q E
    rw [List.append_nil]
    exact ⟨Kn1, t, r, g1.kh, r1, hf, fun p ps Kn' H' g' n => q p ps Kn' H' (g1.trans g') ⟨fun o ho => ⟨fresh_back g1.hh (n.each o ho).1, (n.each o ho).2⟩, n.nd⟩⟩
/-- known at once -/
theorem EQ2.ev (h : EQ2 K F Kn0 sl ow te xss) : EV K F Kn0 sl ow te xss := fun σ Kn H s Q q => h σ Kn H s Q fun p ps Kn' H' g n => by
  have s1 : S K H Kn [] ([] ++ gridO p ps xss) [] Kn' H' := ⟨g.kk, g.kh, g.hh, g.sp, trivial, ⟨fun o ho => n.each o ho, n.nd⟩⟩
  have s2 : S K H Kn [.at p] ([] ++ gridO p ps xss) [some (.ref p)] Kn' H' := ⟨s1.e0, s1.ek, s1.ef, s1.sep, ⟨rfl, trivial⟩, s1.ow⟩
  obtain ⟨Kn2, e2, s3⟩ := s2.knowGrid (i := 0) rfl
  obtain ⟨o, e3, v, e4, e5⟩ := s3.sl.get (i := 0) rfl
  cases e3
  cases e4
  exact q _ Kn2 H' ⟨s3.e0, s3.ef, s3.ek, s3.sep⟩ e5
end
section
variable {K : Fg} {F Kn0 : Hp} {α : Type} [Rp α] {xss : List (List α)}
theorem RGr.base {R : VK} {Kn1 : Hp} (q : RGr K F Kn0 R xss) (b : Bs F Kn0 Kn1) : RGr K F Kn1 R xss := fun p ps Kn H s => q p ps Kn H (s.unbase b)
end
end Wk
set_option maxHeartbeats 4000000
/-! Wsetd: a dict of one's own whose values are lists of one's own; d.setdefault(k, []).append(x) -/
namespace Wk
open PySem PySem.Spec L2 Evl
section
variable {K : Fg} {F Kn0 : Hp} {sl sl' : List Sl} {ow base : List Ow} {κ α : Type} [Rp κ] [K1 κ] [DecidableEq κ] [Rp α] {D : Ends} {te tk : TE} {x : α} {k : κ} {i : Nat} {p : Addr} {ps : Nat → Addr} {σ : L2.St} {Kn H : Hp}
def kysD (ps : Nat → Addr) : Nat → List (κ × List α) → List (κ × Adr)
  | _, [] => []
  | n, kv :: r => (kv.1, ⟨ps n⟩) :: kysD ps (n + 1) r
def dlO (p : Addr) (ps : Nat → Addr) (kvs : List (κ × List α)) : List Ow := oo p (Dc.mk (kysD ps 0 kvs)) :: rowsO ps 0 (kvs.map (·.2))
def sdIx {β : Type} : List (κ × β) → κ → Option Nat
  | [], _ => none
  | kv :: r, k => if kv.1 = k then some 0 else (sdIx r k).map (· + 1)
def sdO (d : Dc κ (List α)) (k : κ) (x : α) : Option (Dc κ (List α)) := if d.l.length < 1000000 then match sdIx d.l k with
  | some j => (d.l[j]?).bind fun kv => (appO kv.2 x).map fun r => ⟨d.l.set j (kv.1, r)⟩
  | none => some ⟨d.l ++ [(k, [x])]⟩ else none
theorem kys_len : ∀ {kvs : List (κ × List α)} {n : Nat}, (kysD ps n kvs).length = kvs.length
  | [], _ => rfl
  | kv :: r, n => by
    show (kysD ps (n + 1) r).length + 1 = r.length + 1
    rw [kys_len]
theorem kys_get : ∀ {kvs : List (κ × List α)} {n : Nat}, getD (kysD ps n kvs) k = (sdIx kvs k).map fun j => Adr.mk (ps (n + j))
  | [], _ => rfl
  | kv :: r, n => by
    have ih := kys_get (kvs := r) (n := n + 1)
    unfold getD at ih ⊢
    unfold sdIx
    show ((List.find? (fun kv => decide (kv.1 = k)) ((kv.1, Adr.mk (ps n)) :: kysD ps (n + 1) r)).map (·.2)) = _
    by_cases e : kv.1 = k
    · rw [List.find?_cons_of_pos (by simpa using e), if_pos e]
      rfl
    · rw [List.find?_cons_of_neg (by simpa using e), if_neg e, ih, Option.map_map]
      refine congrFun (congrArg _ (funext fun j => ?_)) _
      show Adr.mk (ps (n + 1 + j)) = Adr.mk (ps (n + (j + 1)))
      rw [show n + 1 + j = n + (j + 1) by omega]
theorem sdIx_at {β : Type} : ∀ {kvs : List (κ × β)} {j : Nat}, sdIx kvs k = some j → ∃ y, kvs[j]? = some (k, y)
  | [], _, h => nomatch h
  | kv :: r, j, h => by
    unfold sdIx at h
    by_cases e : kv.1 = k
    · rw [if_pos e] at h
      cases h
      exact ⟨kv.2, by rw [← e]; rfl⟩
    · rw [if_neg e] at h
      obtain ⟨m, hm, rfl⟩ := Option.map_eq_some_iff.mp h
      obtain ⟨y, hy⟩ := sdIx_at (kvs := r) hm
      exact ⟨y, hy⟩
theorem kys_set : ∀ {kvs : List (κ × List α)} {n j : Nat} {k : κ} {y y' : List α}, kvs[j]? = some (k, y) → kysD ps n (kvs.set j (k, y')) = kysD ps n kvs
  | [], _, _, _, _, _, h => by simp at h
  | kv :: r, n, 0, k, y, y', h => by
    cases h
    rfl
  | kv :: r, n, j + 1, k, y, y', h => by
    show (kv.1, Adr.mk (ps n)) :: kysD ps (n + 1) (r.set j (k, y')) = (kv.1, Adr.mk (ps n)) :: kysD ps (n + 1) r
    rw [kys_set (kvs := r) (n := n + 1) (j := j) h]
theorem kys_congr {qs : Nat → Addr} : ∀ {kvs : List (κ × List α)} {n : Nat}, (∀ j, n ≤ j → j < n + kvs.length → ps j = qs j) → kysD ps n kvs = kysD qs n kvs
  | [], _, _ => rfl
  | kv :: r, n, h => by
    show (kv.1, Adr.mk (ps n)) :: kysD ps (n + 1) r = (kv.1, Adr.mk (qs n)) :: kysD qs (n + 1) r
    rw [h n (Nat.le_refl _) (by rw [List.length_cons]; omega), kys_congr fun j h1 h2 => h j (by omega) (by rw [List.length_cons]; omega)]
theorem kys_app : ∀ {kvs : List (κ × List α)} {n : Nat} {kv : κ × List α}, kysD ps n (kvs ++ [kv]) = kysD ps n kvs ++ [(kv.1, Adr.mk (ps (n + kvs.length)))]
  | [], n, kv => rfl
  | a :: r, n, kv => by
    show (a.1, Adr.mk (ps n)) :: kysD ps (n + 1) (r ++ [kv]) = (a.1, Adr.mk (ps n)) :: (kysD ps (n + 1) r ++ [(kv.1, Adr.mk (ps (n + (r.length + 1))))])
    rw [kys_app, show n + 1 + r.length = n + (r.length + 1) by omega]
theorem dl_at {kvs : List (κ × List α)} {j : Nat} {y : List α} (h : kvs[j]? = some (k, y)) : (base ++ dlO p ps kvs)[base.length + (j + 1)]? = some (ol (ps j) y) := by
  rw [List.getElem?_append_right (by omega), show base.length + (j + 1) - base.length = j + 1 by omega]
  show (rowsO ps 0 (kvs.map (·.2)))[j]? = _
  rw [rows_at (xs := y) (by rw [List.getElem?_map, h]; rfl), Nat.zero_add]
theorem dl_set {kvs : List (κ × List α)} {j : Nat} {y y' : List α} (h : kvs[j]? = some (k, y)) : (base ++ dlO p ps kvs).set (base.length + (j + 1)) (ol (ps j) y') = base ++ dlO p ps (kvs.set j (k, y')) := by
  rw [List.set_append_right _ _ (by omega), show base.length + (j + 1) - base.length = j + 1 by omega]
  refine congrArg (base ++ ·) ?_
  show oo p (Dc.mk (kysD ps 0 kvs)) :: (rowsO ps 0 (kvs.map (·.2))).set j (ol (ps j) y') = oo p (Dc.mk (kysD ps 0 (kvs.set j (k, y')))) :: rowsO ps 0 ((kvs.set j (k, y')).map (·.2))
  rw [kys_set h, List.map_set]
  have := rows_set (ps := ps) (xss := kvs.map (·.2)) (k := 0) (j := j) (xs := y')
  rw [Nat.zero_add] at this
  rw [this]
theorem dl_mid {kvs : List (κ × List α)} : (base ++ dlO p ps kvs)[base.length]? = some (oo p (Dc.mk (kysD ps 0 kvs))) := by
  rw [List.getElem?_append_right (Nat.le_refl _), Nat.sub_self]
  rfl
/-- the dict, and the lists of its values -/
theorem S.dlHas {kvs : List (κ × List α)} (s : S K F Kn0 sl (base ++ dlO p ps kvs) σ Kn H) : ∃ ws, Kn p = none ∧ H p = some (.dK ws) ∧ DK K Kn ws (kysD ps 0 kvs) := by
  obtain ⟨f1, f2, o1, f3, ws, f4, f5⟩ := s.ow.each _ (List.mem_of_getElem? (dl_mid (base := base) (p := p) (ps := ps) (kvs := kvs)))
  subst f4
  exact ⟨ws, f2, f3, f5⟩
/-- d.setdefault(k, []).append(e) -/
theorem sb_setd {kvs kvs' : List (κ × List α)} (hi : sl[i]? = some (.at p)) (ho : ow = base ++ dlO p ps kvs) (hk : EV K F Kn0 sl ow tk k) (h : ∀ ow2, EV K F Kn0 sl ow2 te x) (hx : sdO (Dc.mk kvs) k x = some (Dc.mk kvs')) (n : ∀ qs, SN K F Kn0 sl (base ++ dlO p qs kvs') D) :
    SB K F Kn0 sl ow D (tDrop (tBM K "list" rAppend (tDSetd (tVar i) tk (tLst tNil)) (tCons te tNil))) := fun σ Kn H s => by
  subst ho
  obtain ⟨o, h1, h2⟩ := s.sl.get hi
  obtain ⟨ws0, d1, d2, d3⟩ := s.dlHas
  refine ⟨.ref p, by rw [h1]; exact congrArg some h2, p, rfl, .inl ⟨_, Rd.of d2⟩, hk σ Kn H s _ fun w Kn1 H1 g1 r1 => ⟨Nat.le_of_ble_eq_true rfl, fun q hq => ?_⟩⟩
  have s1 := s.grow g1
  have hp1 : H1 p = some (.dK ws0) := g1.hh _ _ d2
  have npq : p ≠ q := fun z => by rw [z, hq] at hp1; cases hp1
  have s2 := s1.grow (Gr.newU (o := .lst []) s1.ek hq)
  have kq : Kn1 q = none := fresh_back s1.ek hq
  have fq : F q = none := fresh_back s1.ef hq
  obtain ⟨ws, e1, e2, e3⟩ := s2.dlHas
  have hl : ws.length = kvs.length := by rw [e3.length]; exact kys_len
  unfold sdO at hx
  split at hx
  case isFalse => cases hx
  rename_i hlen
  refine ⟨ws, K1.key k, e2, K1.iff r1, by rw [hl]; exact lt_line hlen, fun v hv => ?_, fun hv => ?_⟩
  · have hv : valV ws (Ky.key k) = some v := hv
    rcases e3.get k with ⟨_, z⟩ | ⟨y, v2, z1, z2, z3⟩
    · rw [z] at hv
      cases hv
    · rw [z2] at hv
      cases hv
      rw [kys_get] at z1
      obtain ⟨j, hj, rfl⟩ := Option.map_eq_some_iff.mp z1
      have z3 : v = .ref (ps (0 + j)) := z3
      rw [Nat.zero_add] at z3
      subst z3
      obtain ⟨y, hy⟩ := sdIx_at hj
      have hx : (match sdIx kvs k with | some j => (kvs[j]?).bind fun kv => (appO kv.2 x).map fun r => (Dc.mk (kvs.set j (kv.1, r)) : Dc κ (List α)) | none => some ⟨kvs ++ [(k, [x])]⟩) = some (Dc.mk kvs') := hx
      rw [hj] at hx
      have hx : (kvs[j]?).bind (fun kv => (appO kv.2 x).map fun r => (Dc.mk (kvs.set j (kv.1, r)) : Dc κ (List α))) = some (Dc.mk kvs') := hx
      rw [hy] at hx
      obtain ⟨r, hr, er⟩ := Option.map_eq_some_iff.mp (show (appO y x).map (fun r => (Dc.mk (kvs.set j (k, r)) : Dc κ (List α))) = some (Dc.mk kvs') from hx)
      obtain ⟨hyl, rfl⟩ := appO_some hr
      cases er
      obtain ⟨a1, a2, ys, a3, a4⟩ := s2.ow.each _ (List.mem_of_getElem? (dl_at (base := base) (p := p) (ps := ps) hy))
      refine ⟨Or.inl ⟨rfl, ys, sq_of a3⟩, h _ σ Kn1 _ s2 _ fun u Kn3 H3 g3 r3 => ?_⟩
      have s3 := s2.grow g3
      have k3 := g3.sp _ (ne_none_of a3) a2
      refine ⟨ps j, ys, u, rfl, rfl, g3.hh _ _ a3, by rw [paired_len a4]; exact lt_line hyl, n ps _ Kn3 _ ?_⟩
      have := s3.write (dl_at (base := base) (p := p) (ps := ps) hy) (Ex.refl _) (upd_in g3.kh k3) (fun q hq _ => upd_ne hq) (fun _ _ h => h) upd_same (paired_append (paired_mono g3.kk a4) (.cons r3 .nil))
      rw [dl_set hy] at this
      exact this
  · have hv : valV ws (Ky.key k) = none := hv
    have hno : sdIx kvs k = none := by
      rcases e3.get k with ⟨z, _⟩ | ⟨y, v2, _, z2, _⟩
      · rw [kys_get] at z
        exact Option.map_eq_none_iff.mp z
      · rw [z2] at hv
        cases hv
    have hx : (match sdIx kvs k with | some j => (kvs[j]?).bind fun kv => (appO kv.2 x).map fun r => (Dc.mk (kvs.set j (kv.1, r)) : Dc κ (List α)) | none => some ⟨kvs ++ [(k, [x])]⟩) = some (Dc.mk kvs') := hx
    rw [hno] at hx
    cases hx
    let qs : Nat → Addr := fun m => if m = kvs.length then q else ps m
    have eq0 : base ++ dlO p ps kvs = base ++ (oo p (Dc.mk (kysD qs 0 kvs)) :: rowsO qs 0 (kvs.map (·.2))) := by
      unfold dlO
      rw [kys_congr (ps := ps) (qs := qs) (fun j _ h => (if_neg (show ¬ j = kvs.length by omega)).symm), rows_congr (ps := ps) (qs := qs) (fun j _ h => by
        rw [List.length_map] at h
        exact (if_neg (show ¬ j = kvs.length by omega)).symm)]
    have s5 := s2.own (xs := ([] : List α)) fq kq (owned_ne s1 hq) upd_same .nil
    have s6 := s5.perm (ow1 := base ++ (oo p (Dc.mk (kysD qs 0 kvs)) :: (rowsO qs 0 (kvs.map (·.2)) ++ [ol q ([] : List α)]))) (by
      rw [eq0]
      have : base ++ (oo p (Dc.mk (kysD qs 0 kvs)) :: (rowsO qs 0 (kvs.map (·.2)) ++ [ol q ([] : List α)])) = (base ++ (oo p (Dc.mk (kysD qs 0 kvs)) :: rowsO qs 0 (kvs.map (·.2)))) ++ [ol q ([] : List α)] := by
        rw [List.append_assoc]
        rfl
      rw [this]
      exact (List.perm_append_singleton _ _).symm)
    have e3' : DK K Kn1 ws (kysD qs 0 kvs) := by
      rw [← kys_congr (ps := ps) (qs := qs) (fun j _ h => (if_neg (show ¬ j = kvs.length by omega)).symm)]
      exact e3
    have gno : getD (kysD qs 0 kvs) k = none := by rw [kys_get, hno]; rfl
    have hput := DK.put (β := Adr) k (v := .ref q) (y := Adr.mk q) rfl e3'
    have eput : putD (kysD qs 0 kvs) k (Adr.mk q) = kysD qs 0 (kvs ++ [(k, ([] : List α))]) := by
      unfold putD
      rw [gno, if_neg (by decide), kys_app, Nat.zero_add, show qs kvs.length = q from if_pos rfl]
    rw [eput] at hput
    have s7 := s6.writeG (p := p) (o2 := oo p (Dc.mk (kysD qs 0 (kvs ++ [(k, ([] : List α))])))) (at_mid _ _ _) rfl rfl (Ex.refl _) (upd_in s2.ek e1) (fun q hq _ => upd_ne hq) (fun _ _ h => h) ⟨_, upd_same, _, rfl, hput⟩
    have e8 : (base ++ (oo p (Dc.mk (kysD qs 0 kvs)) :: (rowsO qs 0 (kvs.map (·.2)) ++ [ol q ([] : List α)]))).set base.length (oo p (Dc.mk (kysD qs 0 (kvs ++ [(k, ([] : List α))])))) = base ++ dlO p qs (kvs ++ [(k, [])]) := by
      rw [List.set_append_right _ _ (Nat.le_refl _), Nat.sub_self]
      show base ++ (oo p _ :: (rowsO qs 0 (kvs.map (·.2)) ++ [ol q ([] : List α)])) = base ++ (oo p _ :: rowsO qs 0 ((kvs ++ [(k, ([] : List α))]).map (·.2)))
      rw [List.map_append, List.map_cons, List.map_nil, rows_app, Nat.zero_add, List.length_map, show qs kvs.length = q from if_pos rfl]
    rw [e8] at s7
    have hat : (kvs ++ [(k, ([] : List α))])[kvs.length]? = some (k, []) := by simp
    obtain ⟨a1, a2, ys, a3, a4⟩ := s7.ow.each _ (List.mem_of_getElem? (dl_at (base := base) (p := p) (ps := qs) hat))
    have eqq : qs kvs.length = q := if_pos rfl
    rw [eqq] at a1 a2 a3
    refine ⟨Or.inl ⟨rfl, ys, sq_of a3⟩, h _ σ Kn1 _ s7 _ fun u Kn3 H3 g3 r3 => ?_⟩
    have s8 := s7.grow g3
    have k3 := g3.sp _ (ne_none_of a3) a2
    refine ⟨q, ys, u, rfl, rfl, g3.hh _ _ a3, by rw [paired_len a4]; exact lt_line (Nat.zero_lt_succ _), n qs _ Kn3 _ ?_⟩
    have := s8.write (p := q) (by rw [← eqq]; exact dl_at (base := base) (p := p) (ps := qs) hat) (Ex.refl _) (upd_in g3.kh k3) (fun q hq _ => upd_ne hq) (fun _ _ h => h) upd_same (paired_append (paired_mono g3.kk a4) (.cons r3 .nil))
    have e9 := dl_set (base := base) (p := p) (ps := qs) (y' := ([] : List α) ++ [x]) hat
    rw [eqq] at e9
    rw [e9] at this
    have e10 : (kvs ++ [(k, ([] : List α))]).set kvs.length (k, [] ++ [x]) = kvs ++ [(k, [x])] := by simp
    rw [e10] at this
    exact this
theorem dk_rows {Kn' : Hp} : ∀ {kvs : List (κ × List α)} {n : Nat} {ws : List (Key × V)}, DK K Kn ws (kysD ps n kvs) → (∀ j y, (kvs.map (·.2))[j]? = some y → rep K Kn' (.ref (ps (n + j))) y) → DK K Kn' ws kvs
  | [], n, ws, h, _ => by
    cases h
    exact .nil
  | kv :: r, n, ws, h, hr => by
    cases h with
    | @cons w _ ws _ h1 h2 =>
      obtain ⟨h3, h4⟩ := h1
      have h4 : w.2 = .ref (ps n) := h4
      refine .cons ⟨h3, ?_⟩ (dk_rows (n := n + 1) h2 fun j y hy => ?_)
      · rw [h4]
        exact hr 0 _ rfl
      · have := hr (j + 1) y hy
        rw [show n + (j + 1) = n + 1 + j by omega] at this
        exact this
/-- it is known from now on -/
theorem S.knowDl {kvs : List (κ × List α)} (s : S K F Kn0 sl (base ++ dlO p ps kvs) σ Kn H) (hi : sl[i]? = some (.at p)) : ∃ Kn', Ex Kn Kn' ∧ S K F Kn0 (sl.set i (sv (Dc.mk kvs))) base σ Kn' H := by
  obtain ⟨o, h1, h2⟩ := s.sl.get hi
  have h2 : o = some (.ref p) := h2
  have e0 : base ++ dlO p ps kvs = (base ++ [oo p (Dc.mk (kysD ps 0 kvs))]) ++ rowsO ps 0 (kvs.map (·.2)) := by
    rw [List.append_assoc]
    rfl
  rw [e0] at s
  obtain ⟨Kn1, e1, s1, e2, e3⟩ := S.knowRows s
  have hj : (base ++ [oo p (Dc.mk (kysD ps 0 kvs))])[base.length]? = some (oo p (Dc.mk (kysD ps 0 kvs))) := at_mid _ _ _
  obtain ⟨f1, f2, ob, f3, ws, f4, f5⟩ := s1.ow.each _ (List.mem_of_getElem? hj)
  obtain ⟨ob2, k1, k2, s2⟩ := s1.borrowG hi hj
  have e : (base ++ [oo p (Dc.mk (kysD ps 0 kvs))]).eraseIdx base.length = base := by
    rw [erase_mid, List.append_nil]
  rw [e] at s2
  have f3 : H p = some ob := f3
  rw [f3] at k2
  cases k2
  subst f4
  have hr : rep K (upd Kn1 p (.dK ws)) (.ref p) (Dc.mk kvs) := ⟨p, ws, rfl, Rd.of upd_same, dk_rows (K := K) (Kn := Kn1) (n := 0) f5 fun j y hy => Rp.mono (Ex.new k1) (e2 j y hy)⟩
  have hσ : σ.set i o = σ := by
    refine List.ext_getElem? fun m => ?_
    by_cases e : i = m
    · subst e
      rw [List.getElem?_set_self (List.getElem?_eq_some_iff.mp h1).1, h1]
    · rw [List.getElem?_set_ne e]
  have s3 := s2.set (x := sv (Dc.mk kvs)) (o := o) i ⟨.ref p, h2, hr⟩
  rw [hσ, List.set_set] at s3
  exact ⟨_, e1.trans (Ex.new k1), s3⟩
theorem sb_frzDl {t : TS} {kvs : List (κ × List α)} (hi : sl[i]? = some (.at p)) (ho : ow = base ++ dlO p ps kvs) (hs : sl.set i (sv (Dc.mk kvs)) = sl') (k : SB K F Kn0 sl' base D t) : SB K F Kn0 sl ow D t := fun σ Kn H s => by
  subst ho hs
  obtain ⟨Kn', _, s'⟩ := s.knowDl hi
  exact k σ Kn' H s'
/-- a new dict, as one whose values are lists of one's own -/
theorem dl_nil (p : Addr) (ps : Nat → Addr) : [oo p (Dc.mk ([] : List (κ × Adr)))] = dlO (α := α) p ps ([] : List (κ × List α)) := rfl
end
end Wk
set_option synthInstance.maxHeartbeats 4000000
set_option synthInstance.maxSize 20000
/-! the mirrors of k91, printed by gen.py -/
namespace Wk91
open PySem L2 Wk
noncomputable def m_rows_of_floor_L1 (rows_7 : (List Str)) : Str → (Unit) → Option (Ctl (Unit) (Er (List Str))) := fun row_14 _ =>
  ((if (decide (row_14 = ("" : Str))) = true then some true else ((lenS row_14).bind fun n_21 => (atI rows_7 (0 : Int)).bind fun i_22 => (lenS i_22).bind fun n_23 => some (!decide (n_21 = n_23))))).bind fun b_24 =>
  (if b_24 = true then (some (Ctl.rt (Er.ex ⟨"NoRead", []⟩))) else (some (Ctl.nx ())))
noncomputable def m_rows_of_floor (text_1 : Dy) : Option (Er (List Str)) :=
  (if (!(isiD text_1 "str")) = true then (some (Er.ex ⟨"NoRead", []⟩)) else (((ofD text_1 : Option Str)).bind fun o_5 =>
  (splitO o_5 ("\n" : Str)).bind fun sp_6 =>
  (some sp_6).bind fun rows_7 =>
  ((if (decide ((200 : Int) < (rows_7.length : Int))) = true then some true else ((atI rows_7 (0 : Int)).bind fun i_9 => (lenS i_9).bind fun n_10 => some (decide ((200 : Int) < n_10))))).bind fun b_11 =>
  (if b_11 = true then (some (Er.ex ⟨"NoRead", []⟩)) else ((forC (m_rows_of_floor_L1 rows_7) rows_7 ()).bind fun tot_19 => match tot_19 with
  | .nx _ => (some (Er.ok rows_7))
  | .bk _ => none
  | .rt r_ => some r_))))
noncomputable def m_read_floor_L2 (names_29 : (Fz Str)) (k_35 : Int) : (Int × Str × Unit) → ((Dc Str (List (Int × Int × Unit)))) → Option (Ctl ((Dc Str (List (Int × Int × Unit)))) (Er (Dc Str (Int × Int × Int × Int × Unit)))) := fun (column_44, sign_45, _) cells_43 =>
  (if (!decide (sign_45 = ("." : Str))) = true then ((some (Txt.find ("abcdefghijklmnopqrstuvwxyzABCDEFGHIJKLMNOPQRSTUVWXYZ01234567" : Str) sign_45)).bind fun at_54 =>
  (if (!((decide ((0 : Int) ≤ at_54)) && (decide (at_54 < (names_29.l.length : Int))))) = true then (some (Ctl.rt (Er.ex ⟨"NoRead", []⟩))) else ((atI names_29.l at_54).bind fun i_58 =>
  (sdO cells_43 i_58 (column_44, k_35, ())).bind fun cells_59 =>
  some (Ctl.nx cells_59)))) else (some (Ctl.nx cells_43)))
noncomputable def m_read_floor_L1 (names_29 : (Fz Str)) : (Int × Str × Unit) → ((Dc Str (List (Int × Int × Unit)))) → Option (Ctl ((Dc Str (List (Int × Int × Unit)))) (Er (Dc Str (Int × Int × Int × Int × Unit)))) := fun (k_35, row_36, _) cells_34 =>
  (forC (m_read_floor_L2 names_29 k_35) (enumI (sgn row_36)) cells_34).bind fun tot_50 => match tot_50 with
  | .nx cells_60 => (some (Ctl.nx cells_60))
  | .bk _ => none
  | .rt r_ => some (Ctl.rt r_)
noncomputable def m_read_floor_L3 (cells_62 : (Dc Str (List (Int × Int × Unit)))) : Str → ((Dc Str (Int × Int × Int × Int × Unit))) → Option (Ctl ((Dc Str (Int × Int × Int × Int × Unit))) (Er (Dc Str (Int × Int × Int × Int × Unit)))) := fun name_66 places_65 =>
  (if (!(getD cells_62.l name_66).isSome) = true then (some (Ctl.rt (Er.ex ⟨"NoRead", []⟩))) else ((getD cells_62.l name_66).bind fun i_75 =>
  (lcM (fun _ => some true) (fun (column_76, row_77, _) => (some column_76)) i_75).bind fun zs_78 =>
  (some zs_78).bind fun across_79 =>
  (getD cells_62.l name_66).bind fun i_80 =>
  (lcM (fun _ => some true) (fun (column_81, row_82, _) => (some row_82)) i_80).bind fun zs_83 =>
  (some zs_83).bind fun down_84 =>
  (minL across_79).bind fun min_85 =>
  (minL down_84).bind fun min_86 =>
  (maxL across_79).bind fun max_87 =>
  (minL across_79).bind fun min_88 =>
  (maxL down_84).bind fun max_89 =>
  (minL down_84).bind fun min_90 =>
  (some (min_85, min_86, ((max_87 - min_88) + (1 : Int)), ((max_89 - min_90) + (1 : Int)), ())).bind fun place_91 =>
  (getD cells_62.l name_66).bind fun i_93 =>
  (mulO place_91.2.2.1 place_91.2.2.2.1).bind fun m_94 =>
  (if (!decide ((i_93.length : Int) = m_94)) = true then (some (Ctl.rt (Er.ex ⟨"NoRead", []⟩))) else ((putO places_65 name_66 place_91).bind fun places_97 =>
  some (Ctl.nx places_97)))))
noncomputable def m_read_floor (text_28 : Dy) (names_29 : (Fz Str)) : Option (Er (Dc Str (Int × Int × Int × Int × Unit))) :=
  (m_rows_of_floor text_28).bind fun r_31_0 => match r_31_0 with
  | .ex ex_32 => some (Er.ex ex_32)
  | .ok r_31 =>
  (forC (m_read_floor_L1 names_29) (enumI r_31) (Dc.mk ([] : List (Str × (List (Int × Int × Unit)))))).bind fun tot_41 => match tot_41 with
  | .nx cells_62 => ((forC (m_read_floor_L3 cells_62) names_29.l (Dc.mk ([] : List (Str × (Int × Int × Int × Int × Unit))))).bind fun tot_71 => match tot_71 with
  | .nx places_98 => (some (Er.ok places_98))
  | .bk _ => none
  | .rt r_ => some r_)
  | .bk _ => none
  | .rt r_ => some r_
noncomputable def m__law_cell_at (script_100 : (Fz Int)) (k_101 : Int) : Option Int :=
  (if (decide (k_101 < (script_100.l.length : Int))) = true then ((atI script_100.l k_101).bind fun i_105 =>
  some i_105) else (some (0 : Int)))
noncomputable def m__law_numbers_L1 : Int → (Int × (List Int)) → Option (Int × (List Int)) := fun k_116 (number_114, found_115) =>
  (appO found_115 (number_114 % (5040 : Int))).bind fun found_122 =>
  (some (number_114 / (5040 : Int))).bind fun number_123 =>
  some (number_123, found_122)
noncomputable def m__law_numbers_L2 : Int → (Int × (List Int)) → Option (Int × (List Int)) := fun k_131 (number_129, found_130) =>
  (some ((((number_129 + k_131) + (1 : Int)) * (48271 : Int)) % (2147483647 : Int))).bind fun number_137 =>
  (appO found_130 ((number_137 * (69621 : Int)) % (2147483629 : Int))).bind fun found_138 =>
  some (number_137, found_138)
noncomputable def m__law_numbers (cell_106 : Int) (many_107 : Int) : Option (List Int) :=
  (some ([] : List Int)).bind fun found_108 =>
  (some (cell_106 - (1000000000000000000 : Int))).bind fun number_109 =>
  (if (decide ((0 : Int) ≤ number_109)) = true then ((rngO 0 many_107).bind fun rg_113 =>
  (forS (m__law_numbers_L1) rg_113 (number_109, found_108)).bind fun (number_124, found_125) =>
  some found_125) else ((some (cell_106 % (2147483647 : Int))).bind fun number_127 =>
  (rngO 0 (many_107 + (1 : Int))).bind fun rg_128 =>
  (forS (m__law_numbers_L2) rg_128 (number_127, found_108)).bind fun (number_139, found_140) =>
  some (cut found_140 (some (1 : Int)) none)))
noncomputable def m__law_board_L2 (some_145 : (List Int)) (across_149 : Int) (down_151 : Int) (j_157 : Int) : Int → (Int × (List Str)) → Option (Int × (List Str)) := fun k_167 (sign_165, kinds_166) =>
  (atI some_145 (7 : Int)).bind fun i_174 =>
  (divO i_174 (((j_157 * (3 : Int)) + k_167) + (1 : Int))).bind fun q_175 =>
  ((if (decide ((q_175 % (4 : Int)) = (0 : Int))) = true then ((mulO (down_151 - j_157) across_149).bind fun m_176 => some (decide ((2 : Int) < (sign_165 + m_176)))) else some false)).bind fun b_177 =>
  (if b_177 = true then ((appO kinds_166 ("." : Str)).bind fun kinds_180 =>
  some (sign_165, kinds_180)) else ((ixS ("abcdef" : Str) sign_165).bind fun i_181 =>
  (appO kinds_166 i_181).bind fun kinds_182 =>
  (some (sign_165 + (1 : Int))).bind fun sign_183 =>
  some (sign_183, kinds_182)))
noncomputable def m__law_board_L1 (some_145 : (List Int)) (more_147 : (List Int)) (across_149 : Int) (down_151 : Int) : Int → ((List Str) × Int) → Option ((List Str) × Int) := fun j_157 (rows_155, sign_156) =>
  (some ([] : List Str)).bind fun kinds_163 =>
  (rngO 0 across_149).bind fun rg_164 =>
  (forS (m__law_board_L2 some_145 across_149 down_151 j_157) rg_164 (sign_156, kinds_163)).bind fun (sign_184, kinds_185) =>
  (rngO 0 across_149).bind fun rg_187 =>
  (lcM (fun _ => some true) (fun k_188 => ((atI kinds_185 k_188).bind fun i_190 => (atI some_145 ((1 : Int) + k_188)).bind fun i_191 => (mulS i_190 ((1 : Int) + (i_191 % (6 : Int)))).bind fun t_192 => some t_192)) rg_187).bind fun zs_189 =>
  (joinO ("" : Str) zs_189).bind fun j_193 =>
  (some j_193).bind fun row_194 =>
  (atI more_147 ((1 : Int) + j_157)).bind fun i_195 =>
  (repO ([row_194] : List Str) ((1 : Int) + (i_195 % (6 : Int)))).bind fun rep_196 =>
  (catO rows_155 rep_196).bind fun cat_197 =>
  (some cat_197).bind fun rows_198 =>
  some (rows_198, sign_184)
noncomputable def m__law_board (cell_142 : Int) (other_143 : Int) : Option (Str × Int × Unit) :=
  (m__law_numbers cell_142 (9 : Int)).bind fun r_144 =>
  (some r_144).bind fun some_145 =>
  (m__law_numbers other_143 (9 : Int)).bind fun r_146 =>
  (some r_146).bind fun more_147 =>
  (atI some_145 (0 : Int)).bind fun i_148 =>
  (some ((1 : Int) + (i_148 % (3 : Int)))).bind fun across_149 =>
  (atI more_147 (0 : Int)).bind fun i_150 =>
  (some ((1 : Int) + (i_150 % (2 : Int)))).bind fun down_151 =>
  (some ([] : List Str)).bind fun rows_152 =>
  (some (0 : Int)).bind fun sign_153 =>
  (rngO 0 down_151).bind fun rg_154 =>
  (forS (m__law_board_L1 some_145 more_147 across_149 down_151) rg_154 (rows_152, sign_153)).bind fun (rows_199, sign_200) =>
  (joinO ("\n" : Str) rows_199).bind fun j_202 =>
  some (j_202, sign_200, ())
noncomputable def m__law_read_L2 (names_204 : (Fz Str)) (y_214 : Int) : (Int × Str × Unit) → ((Dc Str (List (Int × Int × Unit)))) → Option (Ctl ((Dc Str (List (Int × Int × Unit)))) (Option (Dc Str (Int × Int × Int × Int × Unit)))) := fun (x_230, sign_231, _) cells_229 =>
  ((if (!decide (sign_231 = ("." : Str))) = true then ((cutSO ("abcdef" : Str) none (some (names_204.l.length : Int))).bind fun cs_238 => (inSO sign_231 cs_238).bind fun is_239 => some (!is_239)) else some false)).bind fun b_240 =>
  (if b_240 = true then (some (Ctl.rt none)) else ((if (!decide (sign_231 = ("." : Str))) = true then ((sixO ("abcdef" : Str) sign_231).bind fun ix_246 =>
  (atI names_204.l (ix_246 : Int)).bind fun i_247 =>
  (sdO cells_229 i_247 (x_230, y_214, ())).bind fun cells_248 =>
  some (Ctl.nx cells_248)) else (some (Ctl.nx cells_229)))))
noncomputable def m__law_read_L1 (names_204 : (Fz Str)) (rows_210 : (List Str)) : (Int × Str × Unit) → ((Dc Str (List (Int × Int × Unit)))) → Option (Ctl ((Dc Str (List (Int × Int × Unit)))) (Option (Dc Str (Int × Int × Int × Int × Unit)))) := fun (y_214, row_215, _) cells_213 =>
  ((if (decide (row_215 = ("" : Str))) = true then some true else ((lenS row_215).bind fun n_222 => (atI rows_210 (0 : Int)).bind fun i_223 => (lenS i_223).bind fun n_224 => some (!decide (n_222 = n_224))))).bind fun b_225 =>
  (if b_225 = true then (some (Ctl.rt none)) else ((forC (m__law_read_L2 names_204 y_214) (enumI (sgn row_215)) cells_213).bind fun tot_236 => match tot_236 with
  | .nx cells_249 => (some (Ctl.nx cells_249))
  | .bk _ => none
  | .rt r_ => some (Ctl.rt r_)))
noncomputable def m__law_read_L3 (cells_251 : (Dc Str (List (Int × Int × Unit)))) : Str → ((Dc Str (Int × Int × Int × Int × Unit))) → Option (Ctl ((Dc Str (Int × Int × Int × Int × Unit))) (Option (Dc Str (Int × Int × Int × Int × Unit)))) := fun name_255 places_254 =>
  (if (!(getD cells_251.l name_255).isSome) = true then (some (Ctl.rt none)) else ((getD cells_251.l name_255).bind fun i_264 =>
  (atI i_264 (0 : Int)).bind fun i_265 =>
  (some i_265).bind fun (x_266, y_267, _) =>
  (getD cells_251.l name_255).bind fun i_268 =>
  (lcM (fun cell_269 => (some (decide (cell_269.2.1 = y_267)))) (fun cell_269 => (some cell_269)) i_268).bind fun zs_270 =>
  (some (zs_270.length : Int)).bind fun width_271 =>
  (getD cells_251.l name_255).bind fun i_272 =>
  (divO (i_272.length : Int) width_271).bind fun q_273 =>
  (some q_273).bind fun height_274 =>
  (getD cells_251.l name_255).bind fun i_276 =>
  (mulO width_271 height_274).bind fun m_277 =>
  (rngO 0 m_277).bind fun rg_278 =>
  (lcM (fun _ => some true) (fun k_279 => ((modO k_279 width_271).bind fun r_281 => (divO k_279 width_271).bind fun q_282 => some ((x_266 + r_281), (y_267 + q_282), ()))) rg_278).bind fun zs_280 =>
  (if (!decide (i_276 = zs_280)) = true then (some (Ctl.rt none)) else ((putO places_254 name_255 (x_266, y_267, width_271, height_274, ())).bind fun places_285 =>
  some (Ctl.nx places_285)))))
noncomputable def m__law_read (text_203 : Dy) (names_204 : (Fz Str)) : Option (Option (Dc Str (Int × Int × Int × Int × Unit))) :=
  (if (!(isiD text_203 "str")) = true then (some none) else (((ofD text_203 : Option Str)).bind fun o_208 =>
  (splitO o_208 ("\n" : Str)).bind fun sp_209 =>
  (some sp_209).bind fun rows_210 =>
  (forC (m__law_read_L1 names_204 rows_210) (enumI rows_210) (Dc.mk ([] : List (Str × (List (Int × Int × Unit)))))).bind fun tot_220 => match tot_220 with
  | .nx cells_251 => ((forC (m__law_read_L3 cells_251) names_204.l (Dc.mk ([] : List (Str × (Int × Int × Int × Int × Unit))))).bind fun tot_260 => match tot_260 with
  | .nx places_286 => (some (some places_286))
  | .bk _ => none
  | .rt r_ => some r_)
  | .bk _ => none
  | .rt r_ => some r_))
noncomputable def m__law_spoiled (text_288 : Str) (number_289 : Int) (other_290 : Int) : Option Dy :=
  (lenS text_288).bind fun n_291 =>
  (modO other_290 n_291).bind fun r_292 =>
  (some r_292).bind fun at_293 =>
  (splitO text_288 ("\n" : Str)).bind fun sp_294 =>
  (some sp_294).bind fun rows_295 =>
  (modO other_290 (rows_295.length : Int)).bind fun r_296 =>
  (some r_296).bind fun row_297 =>
  (if (decide ((number_289 % (8 : Int)) < (3 : Int))) = true then ((cutSO text_288 none (some at_293)).bind fun cs_301 =>
  (ixS ("abcdef.g7A" : Str) ((number_289 / (8 : Int)) % (10 : Int))).bind fun i_302 =>
  (addS cs_301 i_302).bind fun t_303 =>
  (cutSO text_288 (some (at_293 + (1 : Int))) none).bind fun cs_304 =>
  (addS t_303 cs_304).bind fun t_305 =>
  some (upD t_305)) else ((if (decide ((number_289 % (8 : Int)) = (3 : Int))) = true then ((cutSO text_288 none (some at_293)).bind fun cs_309 =>
  (atI ([("#" : Str), ("\n" : Str), (" " : Str), ("." : Str)] : List Str) ((number_289 / (8 : Int)) % (4 : Int))).bind fun i_310 =>
  (addS cs_309 i_310).bind fun t_311 =>
  (cutSO text_288 (some at_293) none).bind fun cs_312 =>
  (addS t_311 cs_312).bind fun t_313 =>
  some (upD t_313)) else ((if (decide ((number_289 % (8 : Int)) = (4 : Int))) = true then ((cutSO text_288 none (some at_293)).bind fun cs_317 =>
  (cutSO text_288 (some (at_293 + (1 : Int))) none).bind fun cs_318 =>
  (addS cs_317 cs_318).bind fun t_319 =>
  some (upD t_319)) else ((if (decide ((number_289 % (8 : Int)) = (5 : Int))) = true then ((catO (cut rows_295 none (some row_297)) (cut rows_295 (some (row_297 + (1 : Int))) none)).bind fun cat_323 =>
  (joinO ("\n" : Str) cat_323).bind fun j_324 =>
  some (upD j_324)) else ((if (decide ((number_289 % (8 : Int)) = (6 : Int))) = true then ((catO (cut rows_295 none (some (row_297 + (1 : Int)))) (cut rows_295 (some row_297) none)).bind fun cat_328 =>
  (joinO ("\n" : Str) cat_328).bind fun j_329 =>
  some (upD j_329)) else ((addS text_288 ("\n" : Str)).bind fun t_332 =>
  (addS ("\n" : Str) text_288).bind fun t_333 =>
  (atI ([(upD t_332), (upD t_333), (upD ("" : Str)), (upD Nn.nn), (upD (7 : Int)), (upD rows_295)] : List Dy) ((number_289 / (8 : Int)) % (6 : Int))).bind fun i_334 =>
  some i_334))))))))))
noncomputable def m__law_told (text_335 : Dy) (names_336 : (Fz Str)) : Option (Sum (Dc Str (Int × Int × Int × Int × Unit)) Bool) :=
  (((m_read_floor text_335 names_336).bind fun r_339_0 => match r_339_0 with
  | .ex ex_340 => (if decide (ex_340.cls ∈ (["NoRead"] : List Str)) = true then ((xcls ex_340 "NoRead").bind fun xc_342 =>
  ((if true = true then ((xcls ex_340 "NoRead").bind fun xc_343 => some (!false)) else some false)).bind fun b_344 =>
  (some (Sum.inr b_344 : (Sum (Dc Str (Int × Int × Int × Int × Unit)) Bool))).bind fun found_345 =>
  some found_345) else none)
  | .ok r_339 =>
  some (Sum.inl r_339 : (Sum (Dc Str (Int × Int × Int × Int × Unit)) Bool)))).bind fun found_346 =>
  some found_346
noncomputable def m_law_L1 (text_351 : Str) (many_352 : Int) (names_353 : (List Str)) : Int → (Unit) → Option (Ctl (Unit) Bool) := fun cell_362 _ =>
  (m__law_numbers cell_362 (3 : Int)).bind fun r_368 =>
  (some r_368).bind fun some_369 =>
  (atI some_369 (0 : Int)).bind fun i_370 =>
  (atI some_369 (1 : Int)).bind fun i_371 =>
  (m__law_spoiled text_351 i_370 i_371).bind fun r_372 =>
  (some r_372).bind fun other_373 =>
  (some names_353).bind fun told_here_374 =>
  (atI some_369 (2 : Int)).bind fun i_376 =>
  ((if (decide ((i_376 % (8 : Int)) = (0 : Int))) = true then ((some (cut ([("ann" : Str), ("bo" : Str), ("cyd" : Str), ("dan" : Str), ("eve" : Str), ("fay" : Str)] : List Str) none (some (min (6 : Int) (many_352 + (1 : Int)))))).bind fun told_here_378 =>
  some told_here_378) else (some told_here_374))).bind fun told_here_379 =>
  (atI some_369 (2 : Int)).bind fun i_382 =>
  ((if (decide ((i_382 % (8 : Int)) = (1 : Int))) = true then ((some (cut names_353 none (some (-(1 : Int))))).bind fun told_here_384 =>
  some told_here_384) else (some told_here_379))).bind fun told_here_385 =>
  (m__law_read other_373 (Fz.mk told_here_385)).bind fun r_387 =>
  (some r_387).bind fun due_388 =>
  (m__law_told other_373 (Fz.mk told_here_385)).bind fun r_389 =>
  (some r_389).bind fun found_390 =>
  ((if (due_388.isNone) = true then ((sumR found_390).bind fun su_392 => some (!decide (su_392 = true))) else some false)).bind fun b_393 =>
  ((if b_393 = true then some true else (((if (due_388.isSome) = true then ((due_388).bind fun s_394 => (sumL found_390).bind fun su_395 => some (!Qe.qe su_395 s_394)) else some false)).bind fun b_396 => some b_396))).bind fun b_397 =>
  (if b_397 = true then (some (Ctl.rt false)) else (some (Ctl.nx ())))
noncomputable def m_law (script_347 : (Fz Int)) : Option Bool :=
  (m__law_cell_at script_347 (0 : Int)).bind fun r_348 =>
  (m__law_cell_at script_347 (1 : Int)).bind fun r_349 =>
  (m__law_board r_348 r_349).bind fun r_350 =>
  (some r_350).bind fun (text_351, many_352, _) =>
  (some (cut ([("ann" : Str), ("bo" : Str), ("cyd" : Str), ("dan" : Str), ("eve" : Str), ("fay" : Str)] : List Str) none (some many_352))).bind fun names_353 =>
  ((if (decide ((0 : Int) < many_352)) = true then ((m__law_told (upD text_351) (Fz.mk names_353)).bind fun r_355 => (m__law_read (upD text_351) (Fz.mk names_353)).bind fun r_356 => (r_356).bind fun s_357 => (sumL r_355).bind fun su_358 => some (!Qe.qe su_358 s_357)) else some false)).bind fun b_359 =>
  (if b_359 = true then (some false) else ((forC (m_law_L1 text_351 many_352 names_353) (cut script_347.l (some (2 : Int)) (some (42 : Int))) ()).bind fun tot_367 => match tot_367 with
  | .nx _ => (some true)
  | .bk _ => none
  | .rt r_ => some r_))
end Wk91
set_option synthInstance.maxHeartbeats 4000000
set_option synthInstance.maxSize 20000
/-! the walks of k91, printed by gen.py -/
namespace Wk91
open PySem L2 Wk
def topS (i : Nat) : Stmt := PySem.Challenge.pw_boxgalley_k91_what_is_no_floor.main.body.getD i (.Pass ⟨0, 0, 0, 0⟩)
abbrev s_rows_of_floor : Stmt := topS 9
abbrev s_read_floor : Stmt := topS 10
abbrev s__law_cell_at : Stmt := topS 12
abbrev s__law_numbers : Stmt := topS 13
abbrev s__law_board : Stmt := topS 14
abbrev s__law_read : Stmt := topS 15
abbrev s__law_spoiled : Stmt := topS 16
abbrev s__law_told : Stmt := topS 17
abbrev s_law : Stmt := topS 18
structure TX (K : Fg) (mg : Str → Option Value) (w : World) where
  a_rows_of_floor : Addr
  d_rows_of_floor : FuncData
  F_rows_of_floor : Fun K "rows_of_floor" "rows_of_floor" s_rows_of_floor a_rows_of_floor d_rows_of_floor
  b_rows_of_floor : Binds K d_rows_of_floor ["text"] []
  g_rows_of_floor : mg "rows_of_floor" = some (.ref a_rows_of_floor)
  a_read_floor : Addr
  d_read_floor : FuncData
  F_read_floor : Fun K "read_floor" "read_floor" s_read_floor a_read_floor d_read_floor
  b_read_floor : Binds K d_read_floor ["text", "names"] []
  g_read_floor : mg "read_floor" = some (.ref a_read_floor)
  a__law_cell_at : Addr
  d__law_cell_at : FuncData
  F__law_cell_at : Fun K "_law_cell_at" "_law_cell_at" s__law_cell_at a__law_cell_at d__law_cell_at
  b__law_cell_at : Binds K d__law_cell_at ["_law_script", "_law_k"] []
  g__law_cell_at : mg "_law_cell_at" = some (.ref a__law_cell_at)
  a__law_numbers : Addr
  d__law_numbers : FuncData
  F__law_numbers : Fun K "_law_numbers" "_law_numbers" s__law_numbers a__law_numbers d__law_numbers
  b__law_numbers : Binds K d__law_numbers ["_law_cell", "_law_many"] []
  g__law_numbers : mg "_law_numbers" = some (.ref a__law_numbers)
  a__law_board : Addr
  d__law_board : FuncData
  F__law_board : Fun K "_law_board" "_law_board" s__law_board a__law_board d__law_board
  b__law_board : Binds K d__law_board ["_law_cell", "_law_other"] []
  g__law_board : mg "_law_board" = some (.ref a__law_board)
  a__law_read : Addr
  d__law_read : FuncData
  F__law_read : Fun K "_law_read" "_law_read" s__law_read a__law_read d__law_read
  b__law_read : Binds K d__law_read ["_law_text", "_law_names"] []
  g__law_read : mg "_law_read" = some (.ref a__law_read)
  a__law_spoiled : Addr
  d__law_spoiled : FuncData
  F__law_spoiled : Fun K "_law_spoiled" "_law_spoiled" s__law_spoiled a__law_spoiled d__law_spoiled
  b__law_spoiled : Binds K d__law_spoiled ["_law_text", "_law_number", "_law_other"] []
  g__law_spoiled : mg "_law_spoiled" = some (.ref a__law_spoiled)
  a__law_told : Addr
  d__law_told : FuncData
  F__law_told : Fun K "_law_told" "_law_told" s__law_told a__law_told d__law_told
  b__law_told : Binds K d__law_told ["_law_text", "_law_names"] []
  g__law_told : mg "_law_told" = some (.ref a__law_told)
  a_law : Addr
  d_law : FuncData
  F_law : Fun K "law" "law" s_law a_law d_law
  b_law : Binds K d_law ["_law_script"] []
  g_law : mg "law" = some (.ref a_law)
  z_enumerate : mg "enumerate" = none
  z_isinstance : mg "isinstance" = none
  z_len : mg "len" = none
  z_list : mg "list" = none
  z_max : mg "max" = none
  z_min : mg "min" = none
  z_range : mg "range" = none
  z_str : mg "str" = none
  c_NoRead : Addr
  gC_NoRead : mg "NoRead" = some (.ref c_NoRead)
  c_BoxError : Addr
  gC_BoxError : mg "BoxError" = some (.ref c_BoxError)
  c_NoFloor : Addr
  gC_NoFloor : mg "NoFloor" = some (.ref c_NoFloor)
  c_NoTree : Addr
  gC_NoTree : mg "NoTree" = some (.ref c_NoTree)
  xP_NoRead : PySem.W.excIn K c_NoRead [.type "ValueError", .type "Exception", .type "BaseException", .type "object"] "ValueError.__new__" = true
  kC_NoRead : PySem.W.keepIn K (.ref c_NoRead) = true
  bP_NoRead : PySem.W.subIn K (.ref c_NoRead) (.type "BaseException") = some true
  tP_NoRead : PySem.W.typeIn K (.ref c_NoRead) = some (.type "type")
  isx_NoRead : PySem.W.findIn K (.ref c_NoRead) "__getattribute__" = some (some (.builtin "BaseException.__getattribute__")) ∧ PySem.W.findIn K (.ref c_NoRead) "__getattr__" = some none ∧ PySem.W.subIn K (.ref c_NoRead) (.type "BaseException") = some true ∧ PySem.W.isClsIn K c_NoRead = true ∧ PySem.W.findIn K (.ref c_NoRead) "__class__" = some (some (.builtin "object.__class__")) ∧ PySem.W.specialIn K (.builtin "object.__class__") "__get__" = some (some (.builtin "getset_descriptor.__get__")) ∧ PySem.W.takesIn K (.builtin "object.__class__") = some true ∧ PySem.W.mroIn K c_NoRead (.type "object") = some true
  kit_NoRead_BoxError : PySem.W.kitOne K (.ref c_NoRead) (.ref c_BoxError) = some true
  kit_NoRead_NoFloor : PySem.W.kitOne K (.ref c_NoRead) (.ref c_NoFloor) = some false
  kit_NoRead_NoTree : PySem.W.kitOne K (.ref c_NoRead) (.ref c_NoTree) = some false
  em_NoRead_NoRead : PySem.W.exmOne K (.ref c_NoRead) (.ref c_NoRead) = some true
  ti_MOST : Tok
  gi_MOST : mg "MOST" = some (.int 200 ti_MOST)
  ti_FREE : Tok
  gi_FREE : mg "FREE" = some (.str "." ti_FREE)
  ti_SIGNS : Tok
  gi_SIGNS : mg "SIGNS" = some (.str "abcdefghijklmnopqrstuvwxyzABCDEFGHIJKLMNOPQRSTUVWXYZ01234567" ti_SIGNS)
def spLaw (K : Fg) : Sp := fun vs H Q _ => ∃ (a : Addr) (ns : List Int), vs = [.ref a] ∧ SqL K H a (ns.map V.int) ∧ ns.length ≤ 63 ∧ ∀ H', Q (.bl true) H'
theorem fn_weak {P : Program} {w : World} {K : Fg} {mg : Str → Option Value} {base : Heap} {k : Nat} {f : Addr} {fd : FuncData} {m : Fz Int → Option Bool}
    (h : FnOk P w K mg base CX0 k f fd ["_law_script"] (PF (τ := Fz Int × Unit) K fun t => m t.1)) (main : ∀ ns : List Int, ns.length ≤ 63 → m (Fz.mk ns) = some true) : FnOk P w K mg base CX0 k f fd ["_law_script"] (spLaw K) :=
  h.imp fun vs H Q E hh => by
    obtain ⟨a, ns, rfl, hs, hl, q⟩ := hh
    exact ⟨H, (Fz.mk ns, ()), true, Evl.Ex.refl _, ⟨.ref a, [], rfl, ⟨a, ns.map V.int, rfl, hs, fl_paired ns⟩, rfl⟩, main ns hl, fun u Kn' H' g r => by cases r; exact q H'⟩
section
variable {P : Program} {w : World} {K : Fg} {mg : Str → Option Value} {base : Heap}
def cmT (T : TX K mg w) : Str → Option Addr := fun n =>
  if n = "NoRead" then some T.c_NoRead else none
theorem exm_NoRead (T : TX K mg w) : ∀ n ∈ (["NoRead"] : List Str), ∀ A, cmT T n = some A → PySem.W.exmOne K (.ref A) (.ref T.c_NoRead) = some true := fun n hn A hA => by
  rcases List.mem_cons.mp hn with rfl | hn
  · obtain rfl : T.c_NoRead = A := Option.some.inj hA
    exact T.em_NoRead_NoRead
  cases hn
theorem sc_rows_of_floor : FnScope ["text", "rows", "row"] ["text"] (defScope s_rows_of_floor) := ⟨rfl, rfl, rfl, by decide +kernel, rfl, by decide +kernel, by decide +kernel⟩
set_option maxHeartbeats 4000000 in
theorem ok_rows_of_floor (T : TX K mg w) : FnOk P w K mg base (L2.CX P w) 1 T.a_rows_of_floor T.d_rows_of_floor ["text"] (PX (τ := Dy × Unit) K (cmT T) (fun t => m_rows_of_floor t.1)) := by
  refine T.F_rows_of_floor.okX sc_rows_of_floor (fun vs H Q E h => ?_) (fun cdv A outer s H vs Q E hr h => ?_)
  · obtain ⟨Kn, t, r, ek, h, hf, q⟩ := h
    exact Tp.len h
  · obtain ⟨Kn, t, r_, ek, h, hf, q⟩ := h
    obtain ⟨text_1, u_⟩ := t
    obtain ⟨v_0, rr_, rfl, hv_0, h⟩ := h
    obtain rfl := h
    replace hf : m_rows_of_floor text_1 = some r_ := hf
    unfold m_rows_of_floor at hf
    refine ⟨_, (pss_cons (ps_if (pt_not (pt_val (pe_callB k_isi (by rfl) T.z_isinstance (by decide +kernel) (pa_cons (pv 0) (pa_cons (pe_bltn (v := .ty "str") (u := .type "str") (by rfl) T.z_str (by decide +kernel) rfl) pa_nil))))) (pss_one (ps_raise rfl (takes_of rfl rfl rfl rfl) (pmk_own PySem.F.excBase_ValueError T.xP_NoRead T.gC_NoRead T.kC_NoRead (raises_own T.bP_NoRead T.tP_NoRead) (by rfl)))) pss_nil)
      (pss_cons (ps_set (i := 1) sc_rows_of_floor.nd rfl (.inl rfl) (pe_bm PySem.F.plainAttrs_str PySem.F.slot_str_split PySem.F.type_str_split mt_split (pv 0) (pa_cons pe_str pa_nil)))
      (pss_cons (ps_if (PW.pt (pw_or (pt_cmpR op_gt (pe_callB k_len (by rfl) T.z_len PySem.boot_len (pa_cons (pv 1) pa_nil)) (pe_glob (v := .int 200) (by rfl) T.gi_MOST ⟨_, rfl⟩) (nomark _)) (pw_or1 (pt_cmpR op_gt (pe_callB call_len_str (by rfl) T.z_len PySem.boot_len (pa_cons (pe_ix k_ixl (pv 1) pe_int (fun _ _ => rfl)) pa_nil)) (pe_glob (v := .int 200) (by rfl) T.gi_MOST ⟨_, rfl⟩) (nomark _))))) (pss_one (ps_raise rfl (takes_of rfl rfl rfl rfl) (pmk_own PySem.F.excBase_ValueError T.xP_NoRead T.gC_NoRead T.kC_NoRead (raises_own T.bP_NoRead T.tP_NoRead) (by rfl)))) pss_nil)
      (pss_cons (ps_for (passes_of rfl) rfl (kpi_list (pv 1)) (pg_name (i := 2) sc_rows_of_floor.nd rfl (.inl rfl)) (pss_one (ps_if (PW.pt (pw_or (pt_cmpR op_eq (pv 2) pe_str (nomark _)) (pw_or1 (pt_cmpR op_ne (pe_callB call_len_str (by rfl) T.z_len PySem.boot_len (pa_cons (pv 2) pa_nil)) (pe_callB call_len_str (by rfl) T.z_len PySem.boot_len (pa_cons (pe_ix k_ixl (pv 1) pe_int (fun _ _ => rfl)) pa_nil)) (nomark _))))) (pss_one (ps_raise rfl (takes_of rfl rfl rfl rfl) (pmk_own PySem.F.excBase_ValueError T.xP_NoRead T.gC_NoRead T.kC_NoRead (raises_own T.bP_NoRead T.tP_NoRead) (by rfl)))) pss_nil)))
      (pss_one (ps_ret (pv 1))))))), ?_⟩
    refine enter (K := K) (Kn := Kn) (sl := [sv text_1, .any, .any]) ek ⟨⟨v_0, rfl, hv_0⟩, trivial, trivial, trivial⟩ ?_
    have q := re_of q
    refine SB.seqB (fun kx_4 => sb_if (b := (!(isiD text_1 "str"))) (et_not (et_B (ev_cb (ea_cons (ev_var (i := 0) rfl) (ea_cons (ev_ty "str") ea_nil)) (rc_isiD (by decide +kernel) (by decide +kernel) (by decide +kernel) (by decide +kernel) (by decide +kernel) (by decide +kernel))))) (fun hb_3 => ?_) (fun hb_3 => ?_))
    · have hf := ite_t hb_3 hf
      cases hf
      exact sb_raise0 (cm := cmT T) rfl q (List.Sublist.refl _)
    · have hf := ite_f hb_3 hf
      refine sb_nx ?_
      refine kx_4 _ _ ?_
      obtain ⟨o_5, h_o_5, hf⟩ := bind_some hf
      obtain ⟨sp_6, h_sp_6, hf⟩ := bind_some hf
      obtain ⟨rows_7, h_rows_7, hf⟩ := bind_some hf
      refine SB.seqB (fun kx_ => sb_asg (sl' := [sv text_1, sv rows_7, .any]) rfl (EV.cast (EN.ev (en_split (ev_of (ev_var (i := 0) rfl) h_o_5) (ev_str ("\n" : Str)) h_sp_6)) (Option.some.inj h_rows_7)) (kx_ _ _ ?_))
      obtain ⟨b_11, h_b_11, hf⟩ := bind_some hf
      refine SB.seqB (fun kx_13 => sb_if (b := b_11) (et_orO h_b_11 (et_test (ev_op (ev_cb (ea_cons (ev_var (i := 1) rfl) ea_nil) rc_len) (ev_int 200) r2_gt)) (fun _ _ h => by obtain ⟨i_9, h_i_9, h⟩ := bind_some h; obtain ⟨n_10, h_n_10, h⟩ := bind_some h; have hz_ := Option.some.inj h; subst hz_; exact (et_test (ev_op (ev_cb (ea_cons (ev_op (ev_var (i := 1) rfl) (ev_int 0) (r2_ixL h_i_9)) ea_nil) (rc_lenS h_n_10)) (ev_int 200) r2_gt)))) (fun hb_12 => ?_) (fun hb_12 => ?_))
      · have hf := ite_t hb_12 hf
        cases hf
        exact sb_raise0 (cm := cmT T) rfl q (List.Sublist.refl _)
      · have hf := ite_f hb_12 hf
        refine sb_nx ?_
        refine kx_13 _ _ ?_
        obtain ⟨tot_19, h_tot_19, hf⟩ := bind_some hf
        refine SB.seqB (fun kx_27 => sb_for (β := Str) (Sx := Unit) (fun s => [sv text_1, sv rows_7, .any]) (fun s => []) (fun x s => [sv text_1, sv rows_7, sv x]) [2] (fun xs s => forC (m_rows_of_floor_L1 rows_7) xs s = some tot_19) () (IT.m (it_list (ev_var (i := 1) rfl))) h_tot_19 (.keep (.keep (.keep .nil))) (List.Sublist.refl _) (fun x s => (gt_name rfl)) ?_ ?_)
        · intro Kn1 b1 row_14 rest_ s_ hP_16 N_ hN_15
          obtain ⟨c_, hc_17, hP_16⟩ := bind_some hP_16
          have q_18 := q.base b1
          unfold m_rows_of_floor_L1 at hc_17
          refine SB.is (sl' := [sv text_1, sv rows_7, sv row_14]) (ow1 := []) rfl rfl ?_
          obtain ⟨b_24, h_b_24, hc_17⟩ := bind_some hc_17
          refine sb_if (b := b_24) (et_orO h_b_24 (et_test (ev_op (ev_var (i := 2) rfl) (ev_str ("" : Str)) r2_eqS)) (fun _ _ h => by obtain ⟨n_21, h_n_21, h⟩ := bind_some h; obtain ⟨i_22, h_i_22, h⟩ := bind_some h; obtain ⟨n_23, h_n_23, h⟩ := bind_some h; have hz_ := Option.some.inj h; subst hz_; exact (et_test (ev_op (ev_cb (ea_cons (ev_var (i := 2) rfl) ea_nil) (rc_lenS h_n_21)) (ev_cb (ea_cons (ev_op (ev_var (i := 1) rfl) (ev_int 0) (r2_ixL h_i_22)) ea_nil) (rc_lenS h_n_23)) r2_neI)))) (fun hb_25 => ?_) (fun hb_25 => ?_)
          · have hc_17 := ite_t hb_25 hc_17
            cases hc_17
            replace hP_16 : some (Ctl.rt (Er.ex ⟨"NoRead", []⟩)) = some tot_19 := hP_16
            cases hP_16
            replace hf : some (Er.ex ⟨"NoRead", []⟩) = some r_ := hf
            cases hf
            exact sb_raise0 (cm := cmT T) rfl q_18 (List.Sublist.refl _)
          · have hc_17 := ite_f hb_25 hc_17
            refine sb_nx ?_
            cases hc_17
            exact fun σ Kn H s => hN_15 _ hP_16 σ Kn H ((s.le (.keep (.keep (.drop .nil)))).sub (List.Sublist.refl _))
        · intro s_ h0
          cases h0
          refine kx_27 _ _ ?_
          refine SB.is (sl' := [sv text_1, sv rows_7, .any]) (ow1 := []) rfl rfl ?_
          cases hf
          exact sb_ret (ev_var (i := 1) rfl) q (List.Sublist.refl _)
theorem sc_read_floor : FnScope ["text", "names", "cells", "k", "row", "column", "sign", "at", "places", "name", "across", "down", "place"] ["text", "names"] (defScope s_read_floor) := ⟨rfl, rfl, rfl, by decide +kernel, rfl, by decide +kernel, by decide +kernel⟩
set_option maxHeartbeats 4000000 in
theorem ok_read_floor (T : TX K mg w) : FnOk P w K mg base (L2.CX P w) 2 T.a_read_floor T.d_read_floor ["text", "names"] (PX (τ := Dy × (Fz Str) × Unit) K (cmT T) (fun t => m_read_floor t.1 t.2.1)) := by
  refine T.F_read_floor.okX sc_read_floor (fun vs H Q E h => ?_) (fun cdv A outer s H vs Q E hr h => ?_)
  · obtain ⟨Kn, t, r, ek, h, hf, q⟩ := h
    exact Tp.len h
  · obtain ⟨Kn, t, r_, ek, h, hf, q⟩ := h
    obtain ⟨text_28, names_29, u_⟩ := t
    obtain ⟨v_0, rr_, rfl, hv_0, h⟩ := h
    obtain ⟨v_1, rr_, rfl, hv_1, h⟩ := h
    obtain rfl := h
    replace hf : m_read_floor text_28 names_29 = some r_ := hf
    unfold m_read_floor at hf
    refine ⟨_, (pss_cons (ps_set (i := 2) sc_read_floor.nd rfl (.inl rfl) pe_dnewK)
      (pss_cons (ps_for (passes_of rfl) rfl (pi_enum (by rfl) T.z_enumerate (pa_cons (pe_callS (ok_rows_of_floor T) hr (by rfl) T.g_rows_of_floor T.F_rows_of_floor.kp T.b_rows_of_floor (fun σ => passAt (takes_of rfl rfl rfl rfl) σ) (pa_cons (pv 0) pa_nil)) pa_nil)) (kpg_tup (n := 2) (pgs_cons (pg_name (i := 3) sc_read_floor.nd rfl (.inl rfl)) (pgs_cons (pg_name (i := 4) sc_read_floor.nd rfl (.inl rfl)) pgs_nil))) (pss_one (ps_for (passes_of rfl) rfl (pi_enumS (by rfl) T.z_enumerate (pa_cons (pv 4) pa_nil)) (kpg_tup (n := 2) (pgs_cons (pg_name (i := 5) sc_read_floor.nd rfl (.inl rfl)) (pgs_cons (pg_name (i := 6) sc_read_floor.nd rfl (.inl rfl)) pgs_nil))) (pss_one (ps_if (pt_cmpR op_ne (pv 6) (pe_glob (v := .str ".") (by rfl) T.gi_FREE ⟨_, rfl⟩) (nomark _)) (pss_cons (ps_set (i := 7) sc_read_floor.nd rfl (.inl rfl) (pe_bm PySem.F.plainAttrs_str PySem.F.slot_str_find PySem.F.type_str_find mt_find (pe_glob (v := .str "abcdefghijklmnopqrstuvwxyzABCDEFGHIJKLMNOPQRSTUVWXYZ01234567") (by rfl) T.gi_SIGNS ⟨_, rfl⟩) (pa_cons (pv 6) pa_nil)))
      (pss_cons (ps_if (pt_not (pt_chain op_le op_lt pe_int (pv 7) (pe_callB k_len (by rfl) T.z_len PySem.boot_len (pa_cons (pv 1) pa_nil)))) (pss_one (ps_raise rfl (takes_of rfl rfl rfl rfl) (pmk_own PySem.F.excBase_ValueError T.xP_NoRead T.gC_NoRead T.kC_NoRead (raises_own T.bP_NoRead T.tP_NoRead) (by rfl)))) pss_nil)
      (pss_one (ps_expr (pe_bm PySem.F.plainAttrs_list PySem.F.slot_list_append PySem.F.type_list_append mt_append (pe_dsetd (pv 2) (pe_ix k_ixl (pv 1) (pv 7) (fun _ _ => rfl)) (pe_lst pa_nil) ⟨rfl, rfl, rfl, rfl⟩) (pa_cons (pe_tup (pa_cons (pv 5) (pa_cons (pv 3) pa_nil))) pa_nil)))))) pss_nil)))))
      (pss_cons (ps_set (i := 8) sc_read_floor.nd rfl (.inl rfl) pe_dnewK)
      (pss_cons (ps_for (passes_of rfl) rfl (kpi_list (pv 1)) (pg_name (i := 9) sc_read_floor.nd rfl (.inl rfl)) (pss_cons (ps_if (pt_cmp (k_dnotin hr.units (pv 9) (pv 2)) rfl) (pss_one (ps_raise rfl (takes_of rfl rfl rfl rfl) (pmk_own PySem.F.excBase_ValueError T.xP_NoRead T.gC_NoRead T.kC_NoRead (raises_own T.bP_NoRead T.tP_NoRead) (by rfl)))) pss_nil)
      (pss_cons (ps_setLc (i := 10) (own := [("column", 5), ("row", 4)]) (g := gTup K 2 (gCons (gName 5) (gCons (gName 4) gNil))) (tt := tYes) rfl sc_read_floor.nd rfl rfl (sw_true rfl rfl rfl (by decide +kernel)) (kpi_list (k_dget hr.units (pv 2) (pv 9) (fun _ _ => rfl))) (blkOk_by (own := [("column", 5), ("row", 4)]) (N := ["text", "names", "cells", "k", "row", "column", "sign", "at", "places", "name", "across", "down", "place"]) (sc := defScope s_read_floor) (by decide +kernel)) (fun _ _ _ _ _ => (kpg_tup (n := 2) (pgs_cons (pg_name (i := 5) sc_read_floor.nd rfl (Or.inl rfl)) (pgs_cons (pg_name (i := 4) sc_read_floor.nd rfl (Or.inl rfl)) pgs_nil)))) (fun _ _ _ _ _ => pts_nil) (fun _ _ _ _ _ => (pv 5)))
      (pss_cons (ps_setLc (i := 11) (own := [("column", 5), ("row", 4)]) (g := gTup K 2 (gCons (gName 5) (gCons (gName 4) gNil))) (tt := tYes) rfl sc_read_floor.nd rfl rfl (sw_true rfl rfl rfl (by decide +kernel)) (kpi_list (k_dget hr.units (pv 2) (pv 9) (fun _ _ => rfl))) (blkOk_by (own := [("column", 5), ("row", 4)]) (N := ["text", "names", "cells", "k", "row", "column", "sign", "at", "places", "name", "across", "down", "place"]) (sc := defScope s_read_floor) (by decide +kernel)) (fun _ _ _ _ _ => (kpg_tup (n := 2) (pgs_cons (pg_name (i := 5) sc_read_floor.nd rfl (Or.inl rfl)) (pgs_cons (pg_name (i := 4) sc_read_floor.nd rfl (Or.inl rfl)) pgs_nil)))) (fun _ _ _ _ _ => pts_nil) (fun _ _ _ _ _ => (pv 4)))
      (pss_cons (ps_set (i := 12) sc_read_floor.nd rfl (.inl rfl) (pe_tup (pa_cons (pe_callB k_minL (by rfl) T.z_min (by decide +kernel) (pa_cons (pv 10) pa_nil)) (pa_cons (pe_callB k_minL (by rfl) T.z_min (by decide +kernel) (pa_cons (pv 11) pa_nil)) (pa_cons (pe_op op_add (pe_op op_sub (pe_callB k_maxL (by rfl) T.z_max (by decide +kernel) (pa_cons (pv 10) pa_nil)) (pe_callB k_minL (by rfl) T.z_min (by decide +kernel) (pa_cons (pv 10) pa_nil))) pe_int) (pa_cons (pe_op op_add (pe_op op_sub (pe_callB k_maxL (by rfl) T.z_max (by decide +kernel) (pa_cons (pv 11) pa_nil)) (pe_callB k_minL (by rfl) T.z_min (by decide +kernel) (pa_cons (pv 11) pa_nil))) pe_int) pa_nil))))))
      (pss_cons (ps_if (pt_cmpR op_ne (pe_callB k_len (by rfl) T.z_len PySem.boot_len (pa_cons (k_dget hr.units (pv 2) (pv 9) (fun _ _ => rfl)) pa_nil)) (pe_op op_mul (pe_ix k_ixt (pv 12) pe_int (fun _ _ => rfl)) (pe_ix k_ixt (pv 12) pe_int (fun _ _ => rfl))) (nomark _)) (pss_one (ps_raise rfl (takes_of rfl rfl rfl rfl) (pmk_own PySem.F.excBase_ValueError T.xP_NoRead T.gC_NoRead T.kC_NoRead (raises_own T.bP_NoRead T.tP_NoRead) (by rfl)))) pss_nil)
      (pss_one (k_dput hr.units (pv 8) (pv 9) (pv 12) rfl))))))))
      (pss_one (ps_ret (pv 8))))))), ?_⟩
    refine enter (K := K) (Kn := Kn) (sl := [sv text_28, sv names_29, .any, .any, .any, .any, .any, .any, .any, .any, .any, .any, .any]) ek ⟨⟨v_0, rfl, hv_0⟩, ⟨v_1, rfl, hv_1⟩, trivial, trivial, trivial, trivial, trivial, trivial, trivial, trivial, trivial, trivial, trivial, trivial⟩ ?_
    have q := re_of q
    refine SB.seqB (fun kx_ => sb_dnewK (κ := Str) (β := Adr) (sl' := fun p_cells_30 => [sv text_28, sv names_29, .at p_cells_30, .any, .any, .any, .any, .any, .any, .any, .any, .any, .any]) rfl (fun _ => rfl) (fun p_cells_30 => (kx_ _ _ ?_)))
    obtain ⟨r_31_0, h_r_31, hf⟩ := bind_some hf
    obtain ⟨ex_32, rfl⟩ | ⟨r_31, rfl⟩ := er_cases r_31_0
    · replace hf : some (Er.ex ex_32) = some _ := hf
      cases hf
      exact SB.seqB (fun _ => sb_forEnR (er_call (ea_cons (ev_var (i := 0) rfl) ea_nil) h_r_31) (rw_out q (List.nil_sublist _)))
    obtain ⟨tot_41, h_tot_41, hf⟩ := bind_some hf
    refine SB.seqB (fun kx_63 => sb_for (β := (Int × Str × Unit)) (Sx := (Nat → Addr) × (Dc Str (List (Int × Int × Unit)))) (fun s => [sv text_28, sv names_29, .at p_cells_30, .any, .any, .any, .any, .any, .any, .any, .any, .any, .any]) (fun s => ([] ++ dlO p_cells_30 s.1 (s.2).l)) (fun x s => [sv text_28, sv names_29, .at p_cells_30, sv x.1, sv x.2.1, .any, .any, .any, .any, .any, .any, .any, .any]) [3, 4] (fun xs s => forC (m_read_floor_L1 names_29) xs s.2 = some tot_41) ((fun _ => p_cells_30), (Dc.mk ([] : List (Str × (List (Int × Int × Unit)))))) (IT.m (it_enum (ea_cons (ev_callX (ea_cons (ev_var (i := 0) rfl) ea_nil) h_r_31) ea_nil))) h_tot_41 (.keep (.keep (.keep (.keep (.keep (.keep (.keep (.keep (.keep (.keep (.keep (.keep (.keep .nil))))))))))))) (List.Sublist.refl _) (fun x s => (gt_tup (gts_cons (gt_name rfl) (gts_cons (gt_name rfl) gts_nil)))) ?_ ?_)
    · intro Kn1 b1 x_ rest_ s_ hP_38 N_ hN_37
      obtain ⟨k_35, row_36, _⟩ := x_
      obtain ⟨qs_33, cells_34⟩ := s_
      replace hP_38 : forC (m_read_floor_L1 names_29) (_ :: rest_) cells_34 = some tot_41 := hP_38
      obtain ⟨c_, hc_39, hP_38⟩ := bind_some hP_38
      have q_40 := q.base b1
      unfold m_read_floor_L1 at hc_39
      refine SB.is (sl' := [sv text_28, sv names_29, .at p_cells_30, sv k_35, sv row_36, .any, .any, .any, .any, .any, .any, .any, .any]) (ow1 := ([] ++ dlO p_cells_30 qs_33 (cells_34).l)) rfl rfl ?_
      obtain ⟨tot_50, h_tot_50, hc_39⟩ := bind_some hc_39
      refine sb_for (β := (Int × Str × Unit)) (Sx := (Nat → Addr) × (Dc Str (List (Int × Int × Unit)))) (fun s => [sv text_28, sv names_29, .at p_cells_30, sv k_35, sv row_36, .any, .any, .any, .any, .any, .any, .any, .any]) (fun s => ([] ++ dlO p_cells_30 s.1 (s.2).l)) (fun x s => [sv text_28, sv names_29, .at p_cells_30, sv k_35, sv row_36, sv x.1, sv x.2.1, .any, .any, .any, .any, .any, .any]) [5, 6] (fun xs s => forC (m_read_floor_L2 names_29 k_35) xs s.2 = some tot_50) (qs_33, cells_34) (IT.m (it_enumS (ea_cons (ev_var (i := 4) rfl) ea_nil))) h_tot_50 (.keep (.keep (.keep (.keep (.keep (.keep (.keep (.keep (.keep (.keep (.keep (.keep (.keep .nil))))))))))))) (List.Sublist.refl _) (fun x s => (gt_tup (gts_cons (gt_name rfl) (gts_cons (gt_name rfl) gts_nil)))) ?_ ?_
      · intro Kn1 b1 x_ rest_ s_ hP_47 N_ hN_46
        obtain ⟨column_44, sign_45, _⟩ := x_
        obtain ⟨qs_42, cells_43⟩ := s_
        replace hP_47 : forC (m_read_floor_L2 names_29 k_35) (_ :: rest_) cells_43 = some tot_50 := hP_47
        obtain ⟨c_, hc_48, hP_47⟩ := bind_some hP_47
        have q_49 := q_40.base b1
        unfold m_read_floor_L2 at hc_48
        refine SB.is (sl' := [sv text_28, sv names_29, .at p_cells_30, sv k_35, sv row_36, sv column_44, sv sign_45, .any, .any, .any, .any, .any, .any]) (ow1 := ([] ++ dlO p_cells_30 qs_42 (cells_43).l)) rfl rfl ?_
        refine sb_if (b := (!decide (sign_45 = ("." : Str)))) (et_test (ev_op (ev_var (i := 6) rfl) (ev_str ("." : Str)) r2_neS)) (fun hb_52 => ?_) (fun hb_52 => ?_)
        · have hc_48 := ite_t hb_52 hc_48
          obtain ⟨at_54, h_at_54, hc_48⟩ := bind_some hc_48
          refine SB.seqB (fun kx_ => sb_asg (sl' := [sv text_28, sv names_29, .at p_cells_30, sv k_35, sv row_36, sv column_44, sv sign_45, sv at_54, .any, .any, .any, .any, .any]) rfl (EV.cast (ev_find (ev_str ("abcdefghijklmnopqrstuvwxyzABCDEFGHIJKLMNOPQRSTUVWXYZ01234567" : Str)) (ev_var (i := 6) rfl)) (Option.some.inj h_at_54)) (kx_ _ _ ?_))
          refine SB.seqB (fun kx_57 => sb_if (b := (!((decide ((0 : Int) ≤ at_54)) && (decide (at_54 < (names_29.l.length : Int)))))) (et_not (et_test (ev_chain (ev_int 0) (ev_var (i := 7) rfl) r2_le (ev_cb (ea_cons (ev_var (i := 1) rfl) ea_nil) rc_lenF) r2_lt))) (fun hb_56 => ?_) (fun hb_56 => ?_))
          · have hc_48 := ite_t hb_56 hc_48
            cases hc_48
            replace hP_47 : some (Ctl.rt (Er.ex ⟨"NoRead", []⟩)) = some tot_50 := hP_47
            cases hP_47
            cases hc_39
            replace hP_38 : some (Ctl.rt (Er.ex ⟨"NoRead", []⟩)) = some tot_41 := hP_38
            cases hP_38
            replace hf : some (Er.ex ⟨"NoRead", []⟩) = some r_ := hf
            cases hf
            exact sb_raise0 (cm := cmT T) rfl q_49 (List.nil_sublist _)
          · have hc_48 := ite_f hb_56 hc_48
            refine sb_nx ?_
            refine kx_57 _ _ ?_
            obtain ⟨i_58, h_i_58, hc_48⟩ := bind_some hc_48
            obtain ⟨cells_59, h_cells_59, hc_48⟩ := bind_some hc_48
            refine sb_setd (i := 2) (base := []) (kvs := (cells_43).l) (kvs' := cells_59.l) rfl rfl (ev_op (ev_var (i := 1) rfl) (ev_var (i := 7) rfl) (r2_ixF h_i_58)) (fun _ => (ev_tup (ea_cons (ev_var (i := 5) rfl) (ea_cons (ev_var (i := 3) rfl) ea_nil)))) h_cells_59 (fun qs_cells_59 => ?_)
            cases hc_48
            exact fun σ Kn H s => hN_46 (qs_cells_59, _) hP_47 σ Kn H ((s.le (.keep (.keep (.keep (.keep (.keep (.drop (.drop (.drop (.keep (.keep (.keep (.keep (.keep .nil)))))))))))))).sub (List.Sublist.refl _))
        · have hc_48 := ite_f hb_52 hc_48
          refine sb_nx ?_
          cases hc_48
          exact fun σ Kn H s => hN_46 (qs_42, _) hP_47 σ Kn H ((s.le (.keep (.keep (.keep (.keep (.keep (.drop (.drop (.keep (.keep (.keep (.keep (.keep (.keep .nil)))))))))))))).sub (List.Sublist.refl _))
      · intro s_ h0
        obtain ⟨qs_42, cells_60⟩ := s_
        cases h0
        show SN _ _ _ [sv text_28, sv names_29, .at p_cells_30, sv k_35, sv row_36, .any, .any, .any, .any, .any, .any, .any, .any] ([] ++ dlO p_cells_30 qs_42 (cells_60).l) _
        cases hc_39
        exact fun σ Kn H s => hN_37 (qs_42, _) hP_38 σ Kn H ((s.le (.keep (.keep (.keep (.drop (.drop (.keep (.keep (.keep (.keep (.keep (.keep (.keep (.keep .nil)))))))))))))).sub (List.Sublist.refl _))
    · intro s_ h0
      obtain ⟨qs_33, cells_62⟩ := s_
      cases h0
      refine kx_63 _ _ ?_
      refine SB.is (sl' := [sv text_28, sv names_29, .at p_cells_30, .any, .any, .any, .any, .any, .any, .any, .any, .any, .any]) (ow1 := ([] ++ dlO p_cells_30 qs_33 (cells_62).l)) rfl rfl ?_
      refine SB.seqB (fun kx_ => sb_dnewK (κ := Str) (β := (Int × Int × Int × Int × Unit)) (sl' := fun p_places_64 => [sv text_28, sv names_29, .at p_cells_30, .any, .any, .any, .any, .any, .at p_places_64, .any, .any, .any, .any]) rfl (fun _ => rfl) (fun p_places_64 => (kx_ _ _ ?_)))
      refine sb_frzDl (i := 2) (base := [oo p_places_64 (Dc.mk ([] : List (Str × (Int × Int × Int × Int × Unit))))]) (sl' := [sv text_28, sv names_29, sv cells_62, .any, .any, .any, .any, .any, .at p_places_64, .any, .any, .any, .any]) rfl rfl rfl ?_
      obtain ⟨tot_71, h_tot_71, hf⟩ := bind_some hf
      refine SB.seqB (fun kx_99 => sb_for (β := Str) (Sx := (Dc Str (Int × Int × Int × Int × Unit))) (fun s => [sv text_28, sv names_29, sv cells_62, .any, .any, .any, .any, .any, .at p_places_64, .any, .any, .any, .any]) (fun s => [oo p_places_64 s]) (fun x s => [sv text_28, sv names_29, sv cells_62, .any, .any, .any, .any, .any, .at p_places_64, sv x, .any, .any, .any]) [9] (fun xs s => forC (m_read_floor_L3 cells_62) xs s = some tot_71) (Dc.mk ([] : List (Str × (Int × Int × Int × Int × Unit)))) (IT.m (it_listF (ev_var (i := 1) rfl))) h_tot_71 (.keep (.keep (.keep (.keep (.keep (.keep (.keep (.keep (.keep (.keep (.keep (.keep (.keep .nil))))))))))))) (List.Sublist.refl _) (fun x s => (gt_name rfl)) ?_ ?_)
      · intro Kn1 b1 name_66 rest_ places_65 hP_68 N_ hN_67
        obtain ⟨c_, hc_69, hP_68⟩ := bind_some hP_68
        have q_70 := q.base b1
        unfold m_read_floor_L3 at hc_69
        refine SB.is (sl' := [sv text_28, sv names_29, sv cells_62, .any, .any, .any, .any, .any, .at p_places_64, sv name_66, .any, .any, .any]) (ow1 := [oo p_places_64 places_65]) rfl rfl ?_
        refine SB.seqB (fun kx_74 => sb_if (b := (!(getD cells_62.l name_66).isSome)) (et_B (ev_dnotin (ev_var (i := 2) rfl) (ev_var (i := 9) rfl))) (fun hb_73 => ?_) (fun hb_73 => ?_))
        · have hc_69 := ite_t hb_73 hc_69
          cases hc_69
          replace hP_68 : some (Ctl.rt (Er.ex ⟨"NoRead", []⟩)) = some tot_71 := hP_68
          cases hP_68
          replace hf : some (Er.ex ⟨"NoRead", []⟩) = some r_ := hf
          cases hf
          exact sb_raise0 (cm := cmT T) rfl q_70 (List.Sublist.cons _ List.Sublist.slnil)
        · have hc_69 := ite_f hb_73 hc_69
          refine sb_nx ?_
          refine kx_74 _ _ ?_
          obtain ⟨i_75, h_i_75, hc_69⟩ := bind_some hc_69
          obtain ⟨zs_78, h_zs_78, hc_69⟩ := bind_some hc_69
          obtain ⟨across_79, h_across_79, hc_69⟩ := bind_some hc_69
          refine SB.seqB (fun kx_ => sb_asg (sl' := [sv text_28, sv names_29, sv cells_62, .any, .any, .any, .any, .any, .at p_places_64, sv name_66, sv across_79, .any, .any]) rfl (EV.cast (EN.ev (en_lc (js := [5, 4]) (fun x => [sv text_28, sv names_29, sv cells_62, .any, sv x.2.1, sv x.1, .any, .any, .at p_places_64, sv name_66, .any, .any, .any]) h_zs_78 (it_list (ev_dget (ev_var (i := 2) rfl) (ev_var (i := 9) rfl) h_i_75)) (anyAt_of (by rfl)) (fun x => (gt_tup (gts_cons (gt_name rfl) (gts_cons (gt_name rfl) gts_nil)))) (sub_of (by rfl)) (fun _ _ x b h => by cases h; exact et_yes) (fun _ _ x z _ h => by obtain ⟨column_76, row_77, _⟩ := x; have hz_ := Option.some.inj h; subst hz_; exact EV.is (sl' := [sv text_28, sv names_29, sv cells_62, .any, sv row_77, sv column_76, .any, .any, .at p_places_64, sv name_66, .any, .any, .any]) rfl (ev_var (i := 5) rfl)))) (Option.some.inj h_across_79)) (kx_ _ _ ?_))
          obtain ⟨i_80, h_i_80, hc_69⟩ := bind_some hc_69
          obtain ⟨zs_83, h_zs_83, hc_69⟩ := bind_some hc_69
          obtain ⟨down_84, h_down_84, hc_69⟩ := bind_some hc_69
          refine SB.seqB (fun kx_ => sb_asg (sl' := [sv text_28, sv names_29, sv cells_62, .any, .any, .any, .any, .any, .at p_places_64, sv name_66, sv across_79, sv down_84, .any]) rfl (EV.cast (EN.ev (en_lc (js := [5, 4]) (fun x => [sv text_28, sv names_29, sv cells_62, .any, sv x.2.1, sv x.1, .any, .any, .at p_places_64, sv name_66, sv across_79, .any, .any]) h_zs_83 (it_list (ev_dget (ev_var (i := 2) rfl) (ev_var (i := 9) rfl) h_i_80)) (anyAt_of (by rfl)) (fun x => (gt_tup (gts_cons (gt_name rfl) (gts_cons (gt_name rfl) gts_nil)))) (sub_of (by rfl)) (fun _ _ x b h => by cases h; exact et_yes) (fun _ _ x z _ h => by obtain ⟨column_81, row_82, _⟩ := x; have hz_ := Option.some.inj h; subst hz_; exact EV.is (sl' := [sv text_28, sv names_29, sv cells_62, .any, sv row_82, sv column_81, .any, .any, .at p_places_64, sv name_66, sv across_79, .any, .any]) rfl (ev_var (i := 4) rfl)))) (Option.some.inj h_down_84)) (kx_ _ _ ?_))
          obtain ⟨min_85, h_min_85, hc_69⟩ := bind_some hc_69
          obtain ⟨min_86, h_min_86, hc_69⟩ := bind_some hc_69
          obtain ⟨max_87, h_max_87, hc_69⟩ := bind_some hc_69
          obtain ⟨min_88, h_min_88, hc_69⟩ := bind_some hc_69
          obtain ⟨max_89, h_max_89, hc_69⟩ := bind_some hc_69
          obtain ⟨min_90, h_min_90, hc_69⟩ := bind_some hc_69
          obtain ⟨place_91, h_place_91, hc_69⟩ := bind_some hc_69
          refine SB.seqB (fun kx_ => sb_asg (sl' := [sv text_28, sv names_29, sv cells_62, .any, .any, .any, .any, .any, .at p_places_64, sv name_66, sv across_79, sv down_84, sv place_91]) rfl (EV.cast (ev_tup (ea_cons (ev_cb (ea_cons (ev_var (i := 10) rfl) ea_nil) (rc_minL h_min_85)) (ea_cons (ev_cb (ea_cons (ev_var (i := 11) rfl) ea_nil) (rc_minL h_min_86)) (ea_cons (ev_op (ev_op (ev_cb (ea_cons (ev_var (i := 10) rfl) ea_nil) (rc_maxL h_max_87)) (ev_cb (ea_cons (ev_var (i := 10) rfl) ea_nil) (rc_minL h_min_88)) r2_sub) (ev_int 1) r2_add) (ea_cons (ev_op (ev_op (ev_cb (ea_cons (ev_var (i := 11) rfl) ea_nil) (rc_maxL h_max_89)) (ev_cb (ea_cons (ev_var (i := 11) rfl) ea_nil) (rc_minL h_min_90)) r2_sub) (ev_int 1) r2_add) ea_nil))))) (Option.some.inj h_place_91)) (kx_ _ _ ?_))
          obtain ⟨i_93, h_i_93, hc_69⟩ := bind_some hc_69
          obtain ⟨m_94, h_m_94, hc_69⟩ := bind_some hc_69
          refine SB.seqB (fun kx_96 => sb_if (b := (!decide ((i_93.length : Int) = m_94))) (et_test (ev_op (ev_cb (ea_cons (ev_dget (ev_var (i := 2) rfl) (ev_var (i := 9) rfl) h_i_93) ea_nil) rc_len) (ev_op (ev_op (ev_var (i := 12) rfl) (ev_int 2) (r2_tix (n := 2) (At.s _ (At.s _ (At.z _ _))))) (ev_op (ev_var (i := 12) rfl) (ev_int 3) (r2_tix (n := 3) (At.s _ (At.s _ (At.s _ (At.z _ _)))))) (r2_mulO h_m_94)) r2_neI)) (fun hb_95 => ?_) (fun hb_95 => ?_))
          · have hc_69 := ite_t hb_95 hc_69
            cases hc_69
            replace hP_68 : some (Ctl.rt (Er.ex ⟨"NoRead", []⟩)) = some tot_71 := hP_68
            cases hP_68
            replace hf : some (Er.ex ⟨"NoRead", []⟩) = some r_ := hf
            cases hf
            exact sb_raise0 (cm := cmT T) rfl q_70 (List.Sublist.cons _ List.Sublist.slnil)
          · have hc_69 := ite_f hb_95 hc_69
            refine sb_nx ?_
            refine kx_96 _ _ ?_
            obtain ⟨places_97, h_places_97, hc_69⟩ := bind_some hc_69
            refine sb_dput (i := 8) (j := 0) rfl rfl (ev_var (i := 12) rfl) (ev_var (i := 9) rfl) h_places_97 (ow1 := [oo p_places_64 places_97]) rfl ?_
            cases hc_69
            exact fun σ Kn H s => hN_67 _ hP_68 σ Kn H ((s.le (.keep (.keep (.keep (.keep (.keep (.keep (.keep (.keep (.keep (.drop (.drop (.drop (.drop .nil)))))))))))))).sub (List.Sublist.refl _))
      · intro places_98 h0
        cases h0
        refine kx_99 _ _ ?_
        refine SB.is (sl' := [sv text_28, sv names_29, sv cells_62, .any, .any, .any, .any, .any, .at p_places_64, .any, .any, .any, .any]) (ow1 := [oo p_places_64 places_98]) rfl rfl ?_
        refine sb_freezeG (i := 8) (j := 0) (sl' := [sv text_28, sv names_29, sv cells_62, .any, .any, .any, .any, .any, sv places_98, .any, .any, .any, .any]) (ow1 := []) rfl rfl rfl rfl ?_
        cases hf
        exact sb_ret (ev_var (i := 8) rfl) q (List.Sublist.refl _)
theorem sc__law_cell_at : FnScope ["_law_script", "_law_k"] ["_law_script", "_law_k"] (defScope s__law_cell_at) := ⟨rfl, rfl, rfl, by decide +kernel, rfl, by decide +kernel, by decide +kernel⟩
set_option maxHeartbeats 4000000 in
theorem ok__law_cell_at (T : TX K mg w) : FnOk P w K mg base CX0 1 T.a__law_cell_at T.d__law_cell_at ["_law_script", "_law_k"] (PF (τ := (Fz Int) × Int × Unit) K (fun t => m__law_cell_at t.1 t.2.1)) := by
  refine T.F__law_cell_at.ok sc__law_cell_at (fun vs H Q E h => ?_) (fun cdv A outer s H vs Q E hr h => ?_)
  · obtain ⟨Kn, t, r, ek, h, hf, q⟩ := h
    exact Tp.len h
  · obtain ⟨Kn, t, r_, ek, h, hf, q⟩ := h
    obtain ⟨script_100, k_101, u_⟩ := t
    obtain ⟨v_0, rr_, rfl, hv_0, h⟩ := h
    obtain ⟨v_1, rr_, rfl, hv_1, h⟩ := h
    obtain rfl := h
    replace hf : m__law_cell_at script_100 k_101 = some r_ := hf
    unfold m__law_cell_at at hf
    refine ⟨_, (pss_cons (ps_if (pt_cmpR op_lt (pv 1) (pe_callB k_len (by rfl) T.z_len PySem.boot_len (pa_cons (pv 0) pa_nil)) (nomark _)) (pss_one (ps_ret (pe_ix k_ixl (pv 0) (pv 1) (fun _ _ => rfl)))) pss_nil)
      (pss_one (ps_ret pe_int))), ?_⟩
    refine enter (K := K) (Kn := Kn) (sl := [sv script_100, sv k_101]) ek ⟨⟨v_0, rfl, hv_0⟩, ⟨v_1, rfl, hv_1⟩, trivial⟩ ?_
    have q := rt_of q
    refine SB.seqB (fun kx_104 => sb_if (b := (decide (k_101 < (script_100.l.length : Int)))) (et_test (ev_op (ev_var (i := 1) rfl) (ev_cb (ea_cons (ev_var (i := 0) rfl) ea_nil) rc_lenF) r2_lt)) (fun hb_103 => ?_) (fun hb_103 => ?_))
    · have hf := ite_t hb_103 hf
      obtain ⟨i_105, h_i_105, hf⟩ := bind_some hf
      cases hf
      exact sb_ret (ev_op (ev_var (i := 0) rfl) (ev_var (i := 1) rfl) (r2_ixF h_i_105)) q (List.Sublist.refl _)
    · have hf := ite_f hb_103 hf
      refine sb_nx ?_
      refine kx_104 _ _ ?_
      cases hf
      exact sb_ret (ev_int 0) q (List.Sublist.refl _)
theorem sc__law_numbers : FnScope ["_law_cell", "_law_many", "_law_found", "_law_number", "_law_k"] ["_law_cell", "_law_many"] (defScope s__law_numbers) := ⟨rfl, rfl, rfl, by decide +kernel, rfl, by decide +kernel, by decide +kernel⟩
set_option maxHeartbeats 4000000 in
theorem ok__law_numbers (T : TX K mg w) : FnOk P w K mg base CX0 1 T.a__law_numbers T.d__law_numbers ["_law_cell", "_law_many"] (PL (τ := Int × Int × Unit) K (fun t => m__law_numbers t.1 t.2.1)) := by
  refine T.F__law_numbers.ok sc__law_numbers (fun vs H Q E h => ?_) (fun cdv A outer s H vs Q E hr h => ?_)
  · obtain ⟨Kn, t, r, ek, h, hf, q⟩ := h
    exact Tp.len h
  · obtain ⟨Kn, t, r_, ek, h, hf, q⟩ := h
    obtain ⟨cell_106, many_107, u_⟩ := t
    obtain ⟨v_0, rr_, rfl, hv_0, h⟩ := h
    obtain ⟨v_1, rr_, rfl, hv_1, h⟩ := h
    obtain rfl := h
    replace hf : m__law_numbers cell_106 many_107 = some r_ := hf
    unfold m__law_numbers at hf
    refine ⟨_, (pss_cons (ps_set (i := 2) sc__law_numbers.nd rfl (.inl rfl) (pe_lst pa_nil))
      (pss_cons (ps_set (i := 3) sc__law_numbers.nd rfl (.inl rfl) (pe_op op_sub (pv 0) (pe_op op_pow pe_int pe_int)))
      (pss_cons (ps_if (pt_cmpR op_ge (pv 3) pe_int (nomark _)) (pss_cons (ps_for PassesOwn.never rfl (pi_range1 (by rfl) T.z_range (pa_cons (pv 1) pa_nil)) (pg_name (i := 4) sc__law_numbers.nd rfl (.inl rfl)) (pss_cons (ps_expr (pe_bm PySem.F.plainAttrs_list PySem.F.slot_list_append PySem.F.type_list_append mt_append (pv 2) (pa_cons (pe_op op_mod (pv 3) pe_int) pa_nil)))
      (pss_one (ps_set (i := 3) sc__law_numbers.nd rfl (.inl rfl) (pe_op op_fdiv (pv 3) pe_int)))))
      (pss_one (ps_ret (pv 2)))) pss_nil)
      (pss_cons (ps_set (i := 3) sc__law_numbers.nd rfl (.inl rfl) (pe_op op_mod (pv 0) pe_int))
      (pss_cons (ps_for PassesOwn.never rfl (pi_range1 (by rfl) T.z_range (pa_cons (pe_op op_add (pv 1) pe_int) pa_nil)) (pg_name (i := 4) sc__law_numbers.nd rfl (.inl rfl)) (pss_cons (ps_set (i := 3) sc__law_numbers.nd rfl (.inl rfl) (pe_op op_mod (pe_op op_mul (pe_op op_add (pe_op op_add (pv 3) (pv 4)) pe_int) pe_int) pe_int))
      (pss_one (ps_expr (pe_bm PySem.F.plainAttrs_list PySem.F.slot_list_append PySem.F.type_list_append mt_append (pv 2) (pa_cons (pe_op op_mod (pe_op op_mul (pv 3) pe_int) pe_int) pa_nil))))))
      (pss_one (ps_ret (pe_slice k_sll (pv 2) (po_some pe_int) po_none)))))))), ?_⟩
    refine enter (K := K) (Kn := Kn) (sl := [sv cell_106, sv many_107, .any, .any, .any]) ek ⟨⟨v_0, rfl, hv_0⟩, ⟨v_1, rfl, hv_1⟩, trivial, trivial, trivial, trivial⟩ ?_
    have q := rn_of q
    obtain ⟨found_108, h_found_108, hf⟩ := bind_some hf
    refine SB.seqB (fun kx_ => sb_asgO (sl' := fun p_found_108 => [sv cell_106, sv many_107, .at p_found_108, .any, .any]) (fun _ => rfl) (EN.cast (en_lst el_nil) (Option.some.inj h_found_108)) (fun p_found_108 => (kx_ _ _ ?_)))
    obtain ⟨number_109, h_number_109, hf⟩ := bind_some hf
    refine SB.seqB (fun kx_ => sb_asg (sl' := [sv cell_106, sv many_107, .at p_found_108, sv number_109, .any]) rfl (EV.cast (ev_op (ev_var (i := 0) rfl) (ev_op (ev_int 10) (ev_int 18) (r2_pow (r := 1000000000000000000))) r2_sub) (Option.some.inj h_number_109)) (kx_ _ _ ?_))
    refine SB.seqB (fun kx_112 => sb_if (b := (decide ((0 : Int) ≤ number_109))) (et_test (ev_op (ev_var (i := 3) rfl) (ev_int 0) r2_ge)) (fun hb_111 => ?_) (fun hb_111 => ?_))
    · have hf := ite_t hb_111 hf
      obtain ⟨rg_113, h_rg_113, hf⟩ := bind_some hf
      obtain ⟨⟨number_124, found_125⟩, h_tot_121, hf⟩ := bind_some hf
      refine SB.seqB (fun kx_126 => sb_for (β := Int) (Sx := Int × (List Int)) (fun s => [sv cell_106, sv many_107, .at p_found_108, sv s.1, .any]) (fun s => [ol p_found_108 s.2]) (fun x s => [sv cell_106, sv many_107, .at p_found_108, sv s.1, sv x]) [4] (fun xs s => forS (m__law_numbers_L1) xs s = some (number_124, found_125)) (number_109, found_108) (IT.m (it_rng1 (ea_cons (ev_var (i := 1) rfl) ea_nil) h_rg_113)) h_tot_121 (.keep (.keep (.keep (.keep (.keep .nil))))) (List.Sublist.refl _) (fun x s => (gt_name rfl)) ?_ ?_)
      · intro Kn1 b1 k_116 rest_ s_ hP_118 N_ hN_117
        obtain ⟨number_114, found_115⟩ := s_
        obtain ⟨c_, hc_119, hP_118⟩ := bind_some hP_118
        have q_120 := q.base b1
        unfold m__law_numbers_L1 at hc_119
        refine SB.is (sl' := [sv cell_106, sv many_107, .at p_found_108, sv number_114, sv k_116]) (ow1 := [ol p_found_108 found_115]) rfl rfl ?_
        obtain ⟨found_122, h_found_122, hc_119⟩ := bind_some hc_119
        refine SB.seqB (fun kx_ => sb_appO (i := 2) (j := 0) rfl rfl (ev_op (ev_var (i := 3) rfl) (ev_int 5040) r2_mod) h_found_122 (ow1 := [ol p_found_108 found_122]) rfl (kx_ _ _ ?_))
        obtain ⟨number_123, h_number_123, hc_119⟩ := bind_some hc_119
        refine sb_asg (sl' := [sv cell_106, sv many_107, .at p_found_108, sv number_123, sv k_116]) rfl (EV.cast (ev_op (ev_var (i := 3) rfl) (ev_int 5040) r2_div) (Option.some.inj h_number_123)) ?_
        cases hc_119
        exact fun σ Kn H s => hN_117 _ hP_118 σ Kn H ((s.le (.keep (.keep (.keep (.keep (.drop .nil)))))).sub (List.Sublist.refl _))
      · intro s_ h0
        cases h0
        refine kx_126 _ _ ?_
        refine SB.is (sl' := [sv cell_106, sv many_107, .at p_found_108, sv number_124, .any]) (ow1 := [ol p_found_108 found_125]) rfl rfl ?_
        cases hf
        exact sb_retO (i := 2) (j := 0) rfl rfl q (List.Sublist.cons _ List.Sublist.slnil)
    · have hf := ite_f hb_111 hf
      refine sb_nx ?_
      refine kx_112 _ _ ?_
      obtain ⟨number_127, h_number_127, hf⟩ := bind_some hf
      refine SB.seqB (fun kx_ => sb_asg (sl' := [sv cell_106, sv many_107, .at p_found_108, sv number_127, .any]) rfl (EV.cast (ev_op (ev_var (i := 0) rfl) (ev_int 2147483647) r2_mod) (Option.some.inj h_number_127)) (kx_ _ _ ?_))
      obtain ⟨rg_128, h_rg_128, hf⟩ := bind_some hf
      obtain ⟨⟨number_139, found_140⟩, h_tot_136, hf⟩ := bind_some hf
      refine SB.seqB (fun kx_141 => sb_for (β := Int) (Sx := Int × (List Int)) (fun s => [sv cell_106, sv many_107, .at p_found_108, sv s.1, .any]) (fun s => [ol p_found_108 s.2]) (fun x s => [sv cell_106, sv many_107, .at p_found_108, sv s.1, sv x]) [4] (fun xs s => forS (m__law_numbers_L2) xs s = some (number_139, found_140)) (number_127, found_108) (IT.m (it_rng1 (ea_cons (ev_op (ev_var (i := 1) rfl) (ev_int 1) r2_add) ea_nil) h_rg_128)) h_tot_136 (.keep (.keep (.keep (.keep (.keep .nil))))) (List.Sublist.refl _) (fun x s => (gt_name rfl)) ?_ ?_)
      · intro Kn1 b1 k_131 rest_ s_ hP_133 N_ hN_132
        obtain ⟨number_129, found_130⟩ := s_
        obtain ⟨c_, hc_134, hP_133⟩ := bind_some hP_133
        have q_135 := q.base b1
        unfold m__law_numbers_L2 at hc_134
        refine SB.is (sl' := [sv cell_106, sv many_107, .at p_found_108, sv number_129, sv k_131]) (ow1 := [ol p_found_108 found_130]) rfl rfl ?_
        obtain ⟨number_137, h_number_137, hc_134⟩ := bind_some hc_134
        refine SB.seqB (fun kx_ => sb_asg (sl' := [sv cell_106, sv many_107, .at p_found_108, sv number_137, sv k_131]) rfl (EV.cast (ev_op (ev_op (ev_op (ev_op (ev_var (i := 3) rfl) (ev_var (i := 4) rfl) r2_add) (ev_int 1) r2_add) (ev_int 48271) r2_mulr) (ev_int 2147483647) r2_mod) (Option.some.inj h_number_137)) (kx_ _ _ ?_))
        obtain ⟨found_138, h_found_138, hc_134⟩ := bind_some hc_134
        refine sb_appO (i := 2) (j := 0) rfl rfl (ev_op (ev_op (ev_var (i := 3) rfl) (ev_int 69621) r2_mulr) (ev_int 2147483629) r2_mod) h_found_138 (ow1 := [ol p_found_108 found_138]) rfl ?_
        cases hc_134
        exact fun σ Kn H s => hN_132 _ hP_133 σ Kn H ((s.le (.keep (.keep (.keep (.keep (.drop .nil)))))).sub (List.Sublist.refl _))
      · intro s_ h0
        cases h0
        refine kx_141 _ _ ?_
        refine SB.is (sl' := [sv cell_106, sv many_107, .at p_found_108, sv number_139, .any]) (ow1 := [ol p_found_108 found_140]) rfl rfl ?_
        refine sb_freeze (i := 2) (j := 0) (sl' := [sv cell_106, sv many_107, sv found_140, sv number_139, .any]) (ow1 := []) rfl rfl rfl rfl ?_
        cases hf
        exact sb_retL (en_sl (ev_var (i := 2) rfl) (eo_some (ev_int 1)) eo_none) q (List.Sublist.refl _)
theorem sc__law_board : FnScope ["_law_cell", "_law_other", "_law_some", "_law_more", "_law_across", "_law_down", "_law_rows", "_law_sign", "_law_j", "_law_kinds", "_law_k", "_law_row"] ["_law_cell", "_law_other"] (defScope s__law_board) := ⟨rfl, rfl, rfl, by decide +kernel, rfl, by decide +kernel, by decide +kernel⟩
set_option maxHeartbeats 4000000 in
theorem ok__law_board (T : TX K mg w) : FnOk P w K mg base CX0 2 T.a__law_board T.d__law_board ["_law_cell", "_law_other"] (PF (τ := Int × Int × Unit) K (fun t => m__law_board t.1 t.2.1)) := by
  refine T.F__law_board.ok sc__law_board (fun vs H Q E h => ?_) (fun cdv A outer s H vs Q E hr h => ?_)
  · obtain ⟨Kn, t, r, ek, h, hf, q⟩ := h
    exact Tp.len h
  · obtain ⟨Kn, t, r_, ek, h, hf, q⟩ := h
    obtain ⟨cell_142, other_143, u_⟩ := t
    obtain ⟨v_0, rr_, rfl, hv_0, h⟩ := h
    obtain ⟨v_1, rr_, rfl, hv_1, h⟩ := h
    obtain rfl := h
    replace hf : m__law_board cell_142 other_143 = some r_ := hf
    unfold m__law_board at hf
    refine ⟨_, (pss_cons (ps_set (i := 2) sc__law_board.nd rfl (.inr rfl) (pe_call (ok__law_numbers T) hr (by rfl) T.g__law_numbers T.F__law_numbers.kp T.b__law_numbers .nil pass0 (pa_cons (pv 0) (pa_cons pe_int pa_nil))))
      (pss_cons (ps_set (i := 3) sc__law_board.nd rfl (.inl rfl) (pe_call (ok__law_numbers T) hr (by rfl) T.g__law_numbers T.F__law_numbers.kp T.b__law_numbers .nil pass0 (pa_cons (pv 1) (pa_cons pe_int pa_nil))))
      (pss_cons (ps_set (i := 4) sc__law_board.nd rfl (.inl rfl) (pe_op op_add pe_int (pe_op op_mod (pe_ix k_ixl (pv 2) pe_int (fun _ _ => rfl)) pe_int)))
      (pss_cons (ps_set (i := 5) sc__law_board.nd rfl (.inl rfl) (pe_op op_add pe_int (pe_op op_mod (pe_ix k_ixl (pv 3) pe_int (fun _ _ => rfl)) pe_int)))
      (pss_cons (ps_set (i := 6) sc__law_board.nd rfl (.inl rfl) (pe_lst pa_nil))
      (pss_cons (ps_set (i := 7) sc__law_board.nd rfl (.inl rfl) pe_int)
      (pss_cons (ps_for PassesOwn.never rfl (pi_range1 (by rfl) T.z_range (pa_cons (pv 5) pa_nil)) (pg_name (i := 8) sc__law_board.nd rfl (.inl rfl)) (pss_cons (ps_set (i := 9) sc__law_board.nd rfl (.inr rfl) (pe_lst pa_nil))
      (pss_cons (ps_for PassesOwn.never rfl (pi_range1 (by rfl) T.z_range (pa_cons (pv 4) pa_nil)) (pg_name (i := 10) sc__law_board.nd rfl (.inl rfl)) (pss_one (ps_if (PW.pt (pw_and (pt_cmpR op_eq (pe_op op_mod (pe_op op_fdivW (pe_ix k_ixl (pv 2) pe_int (fun _ _ => rfl)) (pe_op op_add (pe_op op_add (pe_op op_mul (pv 8) pe_int) (pv 10)) pe_int)) pe_int) pe_int (nomark _)) (pw_and1 (pt_cmpR op_gt (pe_op op_add (pv 7) (pe_op op_mul (pe_op op_sub (pv 5) (pv 8)) (pv 4))) pe_int (nomark _))))) (pss_one (ps_expr (pe_bm PySem.F.plainAttrs_list PySem.F.slot_list_append PySem.F.type_list_append mt_append (pv 9) (pa_cons pe_str pa_nil)))) (pss_cons (ps_expr (pe_bm PySem.F.plainAttrs_list PySem.F.slot_list_append PySem.F.type_list_append mt_append (pv 9) (pa_cons (pe_ix ix_str pe_str (pv 7) (fun _ _ => rfl)) pa_nil)))
      (pss_one (ps_set (i := 7) sc__law_board.nd rfl (.inl rfl) (pe_op op_add (pv 7) pe_int)))))))
      (pss_cons (ps_set (i := 11) sc__law_board.nd rfl (.inl rfl) (k_join pe_str (pe_lc (own := [("_law_k", 10)]) (g := gName 10) (tt := tYes) (by rfl) sc__law_board.nd (pi_range1 (by rfl) T.z_range (pa_cons (pv 4) pa_nil)) (blkOk_by (own := [("_law_k", 10)]) (N := ["_law_cell", "_law_other", "_law_some", "_law_more", "_law_across", "_law_down", "_law_rows", "_law_sign", "_law_j", "_law_kinds", "_law_k", "_law_row"]) (sc := defScope s__law_board) (by decide +kernel)) (fun _ _ _ _ _ => (pg_name (i := 10) sc__law_board.nd rfl (Or.inl rfl))) (fun _ _ _ _ _ => pts_nil) (fun _ _ _ _ _ => (pe_op op_mulS (pe_ix k_ixl (pv 9) (pv 10) (fun _ _ => rfl)) (pe_op op_add pe_int (pe_op op_mod (pe_ix k_ixl (pv 2) (pe_op op_add pe_int (pv 10)) (fun _ _ => rfl)) pe_int)))))))
      (pss_one (ps_set (i := 6) sc__law_board.nd rfl (.inl rfl) (pe_op op_cat (pv 6) (pe_op op_rep (pe_lst (pa_cons (pv 11) pa_nil)) (pe_op op_add pe_int (pe_op op_mod (pe_ix k_ixl (pv 3) (pe_op op_add pe_int (pv 8)) (fun _ _ => rfl)) pe_int))))))))))
      (pss_one (ps_ret (pe_tup (pa_cons (k_join pe_str (pv 6)) (pa_cons (pv 7) pa_nil)))))))))))), ?_⟩
    refine enter (K := K) (Kn := Kn) (sl := [sv cell_142, sv other_143, .any, .any, .any, .any, .any, .any, .any, .any, .any, .any]) ek ⟨⟨v_0, rfl, hv_0⟩, ⟨v_1, rfl, hv_1⟩, trivial, trivial, trivial, trivial, trivial, trivial, trivial, trivial, trivial, trivial, trivial⟩ ?_
    have q := rt_of q
    obtain ⟨r_144, h_r_144, hf⟩ := bind_some hf
    obtain ⟨some_145, h_some_145, hf⟩ := bind_some hf
    refine SB.seqB (fun kx_ => sb_asg (sl' := [sv cell_142, sv other_143, sv some_145, .any, .any, .any, .any, .any, .any, .any, .any, .any]) rfl (EV.cast (EN.ev (en_call (ea_cons (ev_var (i := 0) rfl) (ea_cons (ev_int 9) ea_nil)) h_r_144)) (Option.some.inj h_some_145)) (kx_ _ _ ?_))
    obtain ⟨r_146, h_r_146, hf⟩ := bind_some hf
    obtain ⟨more_147, h_more_147, hf⟩ := bind_some hf
    refine SB.seqB (fun kx_ => sb_asg (sl' := [sv cell_142, sv other_143, sv some_145, sv more_147, .any, .any, .any, .any, .any, .any, .any, .any]) rfl (EV.cast (EN.ev (en_call (ea_cons (ev_var (i := 1) rfl) (ea_cons (ev_int 9) ea_nil)) h_r_146)) (Option.some.inj h_more_147)) (kx_ _ _ ?_))
    obtain ⟨i_148, h_i_148, hf⟩ := bind_some hf
    obtain ⟨across_149, h_across_149, hf⟩ := bind_some hf
    refine SB.seqB (fun kx_ => sb_asg (sl' := [sv cell_142, sv other_143, sv some_145, sv more_147, sv across_149, .any, .any, .any, .any, .any, .any, .any]) rfl (EV.cast (ev_op (ev_int 1) (ev_op (ev_op (ev_var (i := 2) rfl) (ev_int 0) (r2_ixL h_i_148)) (ev_int 3) r2_mod) r2_add) (Option.some.inj h_across_149)) (kx_ _ _ ?_))
    obtain ⟨i_150, h_i_150, hf⟩ := bind_some hf
    obtain ⟨down_151, h_down_151, hf⟩ := bind_some hf
    refine SB.seqB (fun kx_ => sb_asg (sl' := [sv cell_142, sv other_143, sv some_145, sv more_147, sv across_149, sv down_151, .any, .any, .any, .any, .any, .any]) rfl (EV.cast (ev_op (ev_int 1) (ev_op (ev_op (ev_var (i := 3) rfl) (ev_int 0) (r2_ixL h_i_150)) (ev_int 2) r2_mod) r2_add) (Option.some.inj h_down_151)) (kx_ _ _ ?_))
    obtain ⟨rows_152, h_rows_152, hf⟩ := bind_some hf
    refine SB.seqB (fun kx_ => sb_asg (sl' := [sv cell_142, sv other_143, sv some_145, sv more_147, sv across_149, sv down_151, sv rows_152, .any, .any, .any, .any, .any]) rfl (EV.cast (EN.ev (en_lst el_nil)) (Option.some.inj h_rows_152)) (kx_ _ _ ?_))
    obtain ⟨sign_153, h_sign_153, hf⟩ := bind_some hf
    refine SB.seqB (fun kx_ => sb_asg (sl' := [sv cell_142, sv other_143, sv some_145, sv more_147, sv across_149, sv down_151, sv rows_152, sv sign_153, .any, .any, .any, .any]) rfl (EV.cast (ev_int 0) (Option.some.inj h_sign_153)) (kx_ _ _ ?_))
    obtain ⟨rg_154, h_rg_154, hf⟩ := bind_some hf
    obtain ⟨⟨rows_199, sign_200⟩, h_tot_162, hf⟩ := bind_some hf
    refine SB.seqB (fun kx_201 => sb_for (β := Int) (Sx := (List Str) × Int) (fun s => [sv cell_142, sv other_143, sv some_145, sv more_147, sv across_149, sv down_151, sv s.1, sv s.2, .any, .any, .any, .any]) (fun s => []) (fun x s => [sv cell_142, sv other_143, sv some_145, sv more_147, sv across_149, sv down_151, sv s.1, sv s.2, sv x, .any, .any, .any]) [8] (fun xs s => forS (m__law_board_L1 some_145 more_147 across_149 down_151) xs s = some (rows_199, sign_200)) (rows_152, sign_153) (IT.m (it_rng1 (ea_cons (ev_var (i := 5) rfl) ea_nil) h_rg_154)) h_tot_162 (.keep (.keep (.keep (.keep (.keep (.keep (.keep (.keep (.keep (.keep (.keep (.keep .nil)))))))))))) (List.Sublist.refl _) (fun x s => (gt_name rfl)) ?_ ?_)
    · intro Kn1 b1 j_157 rest_ s_ hP_159 N_ hN_158
      obtain ⟨rows_155, sign_156⟩ := s_
      obtain ⟨c_, hc_160, hP_159⟩ := bind_some hP_159
      have q_161 := q.base b1
      unfold m__law_board_L1 at hc_160
      refine SB.is (sl' := [sv cell_142, sv other_143, sv some_145, sv more_147, sv across_149, sv down_151, sv rows_155, sv sign_156, sv j_157, .any, .any, .any]) (ow1 := []) rfl rfl ?_
      obtain ⟨kinds_163, h_kinds_163, hc_160⟩ := bind_some hc_160
      refine SB.seqB (fun kx_ => sb_asgO (sl' := fun p_kinds_163 => [sv cell_142, sv other_143, sv some_145, sv more_147, sv across_149, sv down_151, sv rows_155, sv sign_156, sv j_157, .at p_kinds_163, .any, .any]) (fun _ => rfl) (EN.cast (en_lst el_nil) (Option.some.inj h_kinds_163)) (fun p_kinds_163 => (kx_ _ _ ?_)))
      obtain ⟨rg_164, h_rg_164, hc_160⟩ := bind_some hc_160
      obtain ⟨⟨sign_184, kinds_185⟩, h_tot_172, hc_160⟩ := bind_some hc_160
      refine SB.seqB (fun kx_186 => sb_for (β := Int) (Sx := Int × (List Str)) (fun s => [sv cell_142, sv other_143, sv some_145, sv more_147, sv across_149, sv down_151, sv rows_155, sv s.1, sv j_157, .at p_kinds_163, .any, .any]) (fun s => [ol p_kinds_163 s.2]) (fun x s => [sv cell_142, sv other_143, sv some_145, sv more_147, sv across_149, sv down_151, sv rows_155, sv s.1, sv j_157, .at p_kinds_163, sv x, .any]) [10] (fun xs s => forS (m__law_board_L2 some_145 across_149 down_151 j_157) xs s = some (sign_184, kinds_185)) (sign_156, kinds_163) (IT.m (it_rng1 (ea_cons (ev_var (i := 4) rfl) ea_nil) h_rg_164)) h_tot_172 (.keep (.keep (.keep (.keep (.keep (.keep (.keep (.keep (.keep (.keep (.keep (.keep .nil)))))))))))) (List.Sublist.refl _) (fun x s => (gt_name rfl)) ?_ ?_)
      · intro Kn1 b1 k_167 rest_ s_ hP_169 N_ hN_168
        obtain ⟨sign_165, kinds_166⟩ := s_
        obtain ⟨c_, hc_170, hP_169⟩ := bind_some hP_169
        have q_171 := q_161.base b1
        unfold m__law_board_L2 at hc_170
        refine SB.is (sl' := [sv cell_142, sv other_143, sv some_145, sv more_147, sv across_149, sv down_151, sv rows_155, sv sign_165, sv j_157, .at p_kinds_163, sv k_167, .any]) (ow1 := [ol p_kinds_163 kinds_166]) rfl rfl ?_
        obtain ⟨i_174, h_i_174, hc_170⟩ := bind_some hc_170
        obtain ⟨q_175, h_q_175, hc_170⟩ := bind_some hc_170
        obtain ⟨b_177, h_b_177, hc_170⟩ := bind_some hc_170
        refine sb_if (b := b_177) (et_andO h_b_177 (et_test (ev_op (ev_op (ev_op (ev_op (ev_var (i := 2) rfl) (ev_int 7) (r2_ixL h_i_174)) (ev_op (ev_op (ev_op (ev_var (i := 8) rfl) (ev_int 3) r2_mulr) (ev_var (i := 10) rfl) r2_add) (ev_int 1) r2_add) (r2_divO h_q_175)) (ev_int 4) r2_mod) (ev_int 0) r2_eqI)) (fun _ _ h => by obtain ⟨m_176, h_m_176, h⟩ := bind_some h; have hz_ := Option.some.inj h; subst hz_; exact (et_test (ev_op (ev_op (ev_var (i := 7) rfl) (ev_op (ev_op (ev_var (i := 5) rfl) (ev_var (i := 8) rfl) r2_sub) (ev_var (i := 4) rfl) (r2_mulO h_m_176)) r2_add) (ev_int 2) r2_gt)))) (fun hb_178 => ?_) (fun hb_178 => ?_)
        · have hc_170 := ite_t hb_178 hc_170
          obtain ⟨kinds_180, h_kinds_180, hc_170⟩ := bind_some hc_170
          refine sb_appO (i := 9) (j := 0) rfl rfl (ev_str ("." : Str)) h_kinds_180 (ow1 := [ol p_kinds_163 kinds_180]) rfl ?_
          cases hc_170
          exact fun σ Kn H s => hN_168 _ hP_169 σ Kn H ((s.le (.keep (.keep (.keep (.keep (.keep (.keep (.keep (.keep (.keep (.keep (.drop (.keep .nil))))))))))))).sub (List.Sublist.refl _))
        · have hc_170 := ite_f hb_178 hc_170
          obtain ⟨i_181, h_i_181, hc_170⟩ := bind_some hc_170
          obtain ⟨kinds_182, h_kinds_182, hc_170⟩ := bind_some hc_170
          refine SB.seqB (fun kx_ => sb_appO (i := 9) (j := 0) rfl rfl (ev_op (ev_str ("abcdef" : Str)) (ev_var (i := 7) rfl) (r2_ixS h_i_181)) h_kinds_182 (ow1 := [ol p_kinds_163 kinds_182]) rfl (kx_ _ _ ?_))
          obtain ⟨sign_183, h_sign_183, hc_170⟩ := bind_some hc_170
          refine sb_asg (sl' := [sv cell_142, sv other_143, sv some_145, sv more_147, sv across_149, sv down_151, sv rows_155, sv sign_183, sv j_157, .at p_kinds_163, sv k_167, .any]) rfl (EV.cast (ev_op (ev_var (i := 7) rfl) (ev_int 1) r2_add) (Option.some.inj h_sign_183)) ?_
          cases hc_170
          exact fun σ Kn H s => hN_168 _ hP_169 σ Kn H ((s.le (.keep (.keep (.keep (.keep (.keep (.keep (.keep (.keep (.keep (.keep (.drop (.keep .nil))))))))))))).sub (List.Sublist.refl _))
      · intro s_ h0
        cases h0
        refine kx_186 _ _ ?_
        refine SB.is (sl' := [sv cell_142, sv other_143, sv some_145, sv more_147, sv across_149, sv down_151, sv rows_155, sv sign_184, sv j_157, .at p_kinds_163, .any, .any]) (ow1 := [ol p_kinds_163 kinds_185]) rfl rfl ?_
        refine sb_freeze (i := 9) (j := 0) (sl' := [sv cell_142, sv other_143, sv some_145, sv more_147, sv across_149, sv down_151, sv rows_155, sv sign_184, sv j_157, sv kinds_185, .any, .any]) (ow1 := []) rfl rfl rfl rfl ?_
        obtain ⟨rg_187, h_rg_187, hc_160⟩ := bind_some hc_160
        obtain ⟨zs_189, h_zs_189, hc_160⟩ := bind_some hc_160
        obtain ⟨j_193, h_j_193, hc_160⟩ := bind_some hc_160
        obtain ⟨row_194, h_row_194, hc_160⟩ := bind_some hc_160
        refine SB.seqB (fun kx_ => sb_asg (sl' := [sv cell_142, sv other_143, sv some_145, sv more_147, sv across_149, sv down_151, sv rows_155, sv sign_184, sv j_157, sv kinds_185, .any, sv row_194]) rfl (EV.cast (ev_joinO (ev_str ("" : Str)) (EN.ev (en_lc (js := [10]) (fun x => [sv cell_142, sv other_143, sv some_145, sv more_147, sv across_149, sv down_151, sv rows_155, sv sign_184, sv j_157, sv kinds_185, sv x, .any]) h_zs_189 (it_rng1 (ea_cons (ev_var (i := 4) rfl) ea_nil) h_rg_187) (anyAt_of (by rfl)) (fun x => (gt_name rfl)) (sub_of (by rfl)) (fun _ _ x b h => by cases h; exact et_yes) (fun _ _ x z _ h => by obtain ⟨k_188, hx_⟩ : ∃ y, y = x := ⟨x, rfl⟩; subst hx_; obtain ⟨i_190, h_i_190, h⟩ := bind_some h; obtain ⟨i_191, h_i_191, h⟩ := bind_some h; obtain ⟨t_192, h_t_192, h⟩ := bind_some h; have hz_ := Option.some.inj h; subst hz_; exact EV.is (sl' := [sv cell_142, sv other_143, sv some_145, sv more_147, sv across_149, sv down_151, sv rows_155, sv sign_184, sv j_157, sv kinds_185, sv k_188, .any]) rfl (ev_op (ev_op (ev_var (i := 9) rfl) (ev_var (i := 10) rfl) (r2_ixL h_i_190)) (ev_op (ev_int 1) (ev_op (ev_op (ev_var (i := 2) rfl) (ev_op (ev_int 1) (ev_var (i := 10) rfl) r2_add) (r2_ixL h_i_191)) (ev_int 6) r2_mod) r2_add) (r2_mulS h_t_192))))) h_j_193) (Option.some.inj h_row_194)) (kx_ _ _ ?_))
        obtain ⟨i_195, h_i_195, hc_160⟩ := bind_some hc_160
        obtain ⟨rep_196, h_rep_196, hc_160⟩ := bind_some hc_160
        obtain ⟨cat_197, h_cat_197, hc_160⟩ := bind_some hc_160
        obtain ⟨rows_198, h_rows_198, hc_160⟩ := bind_some hc_160
        refine sb_asg (sl' := [sv cell_142, sv other_143, sv some_145, sv more_147, sv across_149, sv down_151, sv rows_198, sv sign_184, sv j_157, sv kinds_185, .any, sv row_194]) rfl (EV.cast (EN.ev (en_op (ev_var (i := 6) rfl) (EN.ev (en_op (EN.ev (en_lst (el_cons (ev_var (i := 11) rfl) el_nil))) (ev_op (ev_int 1) (ev_op (ev_op (ev_var (i := 3) rfl) (ev_op (ev_int 1) (ev_var (i := 8) rfl) r2_add) (r2_ixL h_i_195)) (ev_int 6) r2_mod) r2_add) (r2_repO h_rep_196))) (r2_catO h_cat_197))) (Option.some.inj h_rows_198)) ?_
        cases hc_160
        exact fun σ Kn H s => hN_158 _ hP_159 σ Kn H ((s.le (.keep (.keep (.keep (.keep (.keep (.keep (.keep (.keep (.drop (.drop (.keep (.drop .nil))))))))))))).sub (List.Sublist.refl _))
    · intro s_ h0
      cases h0
      refine kx_201 _ _ ?_
      refine SB.is (sl' := [sv cell_142, sv other_143, sv some_145, sv more_147, sv across_149, sv down_151, sv rows_199, sv sign_200, .any, .any, .any, .any]) (ow1 := []) rfl rfl ?_
      obtain ⟨j_202, h_j_202, hf⟩ := bind_some hf
      cases hf
      exact sb_ret (ev_tup (ea_cons (ev_joinO (ev_str ("\n" : Str)) (ev_var (i := 6) rfl) h_j_202) (ea_cons (ev_var (i := 7) rfl) ea_nil))) q (List.Sublist.refl _)
theorem sc__law_read : FnScope ["_law_text", "_law_names", "_law_rows", "_law_cells", "_law_y", "_law_row", "_law_x", "_law_sign", "_law_places", "_law_name", "_law_width", "_law_height", "_law_cell", "_law_k"] ["_law_text", "_law_names"] (defScope s__law_read) := ⟨rfl, rfl, rfl, by decide +kernel, rfl, by decide +kernel, by decide +kernel⟩
set_option maxHeartbeats 4000000 in
theorem ok__law_read (T : TX K mg w) : FnOk P w K mg base CX0 1 T.a__law_read T.d__law_read ["_law_text", "_law_names"] (PF (τ := Dy × (Fz Str) × Unit) K (fun t => m__law_read t.1 t.2.1)) := by
  refine T.F__law_read.ok sc__law_read (fun vs H Q E h => ?_) (fun cdv A outer s H vs Q E hr h => ?_)
  · obtain ⟨Kn, t, r, ek, h, hf, q⟩ := h
    exact Tp.len h
  · obtain ⟨Kn, t, r_, ek, h, hf, q⟩ := h
    obtain ⟨text_203, names_204, u_⟩ := t
    obtain ⟨v_0, rr_, rfl, hv_0, h⟩ := h
    obtain ⟨v_1, rr_, rfl, hv_1, h⟩ := h
    obtain rfl := h
    replace hf : m__law_read text_203 names_204 = some r_ := hf
    unfold m__law_read at hf
    refine ⟨_, (pss_cons (ps_if (pt_not (pt_val (pe_callB k_isi (by rfl) T.z_isinstance (by decide +kernel) (pa_cons (pv 0) (pa_cons (pe_bltn (v := .ty "str") (u := .type "str") (by rfl) T.z_str (by decide +kernel) rfl) pa_nil))))) (pss_one (ps_ret pe_non)) pss_nil)
      (pss_cons (ps_set (i := 2) sc__law_read.nd rfl (.inl rfl) (pe_bm PySem.F.plainAttrs_str PySem.F.slot_str_split PySem.F.type_str_split mt_split (pv 0) (pa_cons pe_str pa_nil)))
      (pss_cons (ps_set (i := 3) sc__law_read.nd rfl (.inl rfl) pe_dnewK)
      (pss_cons (ps_for PassesOwn.never rfl (pi_enum (by rfl) T.z_enumerate (pa_cons (pv 2) pa_nil)) (kpg_tup (n := 2) (pgs_cons (pg_name (i := 4) sc__law_read.nd rfl (.inr rfl)) (pgs_cons (pg_name (i := 5) sc__law_read.nd rfl (.inl rfl)) pgs_nil))) (pss_cons (ps_if (PW.pt (pw_or (pt_cmpR op_eq (pv 5) pe_str (nomark _)) (pw_or1 (pt_cmpR op_ne (pe_callB call_len_str (by rfl) T.z_len PySem.boot_len (pa_cons (pv 5) pa_nil)) (pe_callB call_len_str (by rfl) T.z_len PySem.boot_len (pa_cons (pe_ix k_ixl (pv 2) pe_int (fun _ _ => rfl)) pa_nil)) (nomark _))))) (pss_one (ps_ret pe_non)) pss_nil)
      (pss_one (ps_for PassesOwn.never rfl (pi_enumS (by rfl) T.z_enumerate (pa_cons (pv 5) pa_nil)) (kpg_tup (n := 2) (pgs_cons (pg_name (i := 6) sc__law_read.nd rfl (.inr rfl)) (pgs_cons (pg_name (i := 7) sc__law_read.nd rfl (.inl rfl)) pgs_nil))) (pss_cons (ps_if (PW.pt (pw_and (pt_cmpR op_ne (pv 7) pe_str (nomark _)) (pw_and1 (pt_cmpR k_notInS (pv 7) (pe_slice sl_str pe_str po_none (po_some (pe_callB k_len (by rfl) T.z_len PySem.boot_len (pa_cons (pv 1) pa_nil)))) (by rfl))))) (pss_one (ps_ret pe_non)) pss_nil)
      (pss_one (ps_if (pt_cmpR op_ne (pv 7) pe_str (nomark _)) (pss_one (ps_expr (pe_bm PySem.F.plainAttrs_list PySem.F.slot_list_append PySem.F.type_list_append mt_append (pe_dsetd (pv 3) (pe_ix k_ixl (pv 1) (pe_bm PySem.F.plainAttrs_str PySem.F.slot_str_index PySem.F.type_str_index mt_sindex pe_str (pa_cons (pv 7) pa_nil)) (fun _ _ => rfl)) (pe_lst pa_nil) ⟨rfl, rfl, rfl, rfl⟩) (pa_cons (pe_tup (pa_cons (pv 6) (pa_cons (pv 4) pa_nil))) pa_nil)))) pss_nil)))))))
      (pss_cons (ps_set (i := 8) sc__law_read.nd rfl (.inl rfl) pe_dnewK)
      (pss_cons (ps_for PassesOwn.never rfl (kpi_list (pv 1)) (pg_name (i := 9) sc__law_read.nd rfl (.inl rfl)) (pss_cons (ps_if (pt_cmp (k_dnotin hr.units (pv 9) (pv 3)) rfl) (pss_one (ps_ret pe_non)) pss_nil)
      (pss_cons (ps_asg (pe_ix k_ixl (k_dget hr.units (pv 3) (pv 9) (fun _ _ => rfl)) pe_int (fun _ _ => rfl)) (kpg_tup (n := 2) (pgs_cons (pg_name (i := 6) sc__law_read.nd rfl (.inr rfl)) (pgs_cons (pg_name (i := 4) sc__law_read.nd rfl (.inr rfl)) pgs_nil))))
      (pss_cons (ps_set (i := 10) sc__law_read.nd rfl (.inr rfl) (pe_callB k_len (by rfl) T.z_len PySem.boot_len (pa_cons (pe_lc (own := [("_law_cell", 12)]) (g := gName 12) (by rfl) sc__law_read.nd (kpi_list (k_dget hr.units (pv 3) (pv 9) (fun _ _ => rfl))) (blkOk_by (own := [("_law_cell", 12)]) (N := ["_law_text", "_law_names", "_law_rows", "_law_cells", "_law_y", "_law_row", "_law_x", "_law_sign", "_law_places", "_law_name", "_law_width", "_law_height", "_law_cell", "_law_k"]) (sc := defScope s__law_read) (by decide +kernel)) (fun _ _ _ _ _ => (pg_name (i := 12) sc__law_read.nd rfl (Or.inl rfl))) (fun _ _ _ _ _ => pts_one (pt_cmpR op_eq (pe_ix k_ixt (pv 12) pe_int (fun _ _ => rfl)) (pv 4) (nomark _))) (fun _ _ _ _ _ => (pv 12))) pa_nil)))
      (pss_cons (ps_set (i := 11) sc__law_read.nd rfl (.inl rfl) (pe_op op_fdivW (pe_callB k_len (by rfl) T.z_len PySem.boot_len (pa_cons (k_dget hr.units (pv 3) (pv 9) (fun _ _ => rfl)) pa_nil)) (pv 10)))
      (pss_cons (ps_if (pt_cmpR (k_neD hr.units) (k_dget hr.units (pv 3) (pv 9) (fun _ _ => rfl)) (pe_lc (own := [("_law_k", 13)]) (g := gName 13) (tt := tYes) (by rfl) sc__law_read.nd (pi_range1 (by rfl) T.z_range (pa_cons (pe_op op_mul (pv 10) (pv 11)) pa_nil)) (blkOk_by (own := [("_law_k", 13)]) (N := ["_law_text", "_law_names", "_law_rows", "_law_cells", "_law_y", "_law_row", "_law_x", "_law_sign", "_law_places", "_law_name", "_law_width", "_law_height", "_law_cell", "_law_k"]) (sc := defScope s__law_read) (by decide +kernel)) (fun _ _ _ _ _ => (pg_name (i := 13) sc__law_read.nd rfl (Or.inl rfl))) (fun _ _ _ _ _ => pts_nil) (fun _ _ _ _ _ => (pe_tup (pa_cons (pe_op op_add (pv 6) (pe_op op_mod (pv 13) (pv 10))) (pa_cons (pe_op op_add (pv 4) (pe_op op_fdivW (pv 13) (pv 10))) pa_nil))))) (nomark _)) (pss_one (ps_ret pe_non)) pss_nil)
      (pss_one (k_dput hr.units (pv 8) (pv 9) (pe_tup (pa_cons (pv 6) (pa_cons (pv 4) (pa_cons (pv 10) (pa_cons (pv 11) pa_nil))))) rfl))))))))
      (pss_one (ps_ret (pv 8))))))))), ?_⟩
    refine enter (K := K) (Kn := Kn) (sl := [sv text_203, sv names_204, .any, .any, .any, .any, .any, .any, .any, .any, .any, .any, .any, .any]) ek ⟨⟨v_0, rfl, hv_0⟩, ⟨v_1, rfl, hv_1⟩, trivial, trivial, trivial, trivial, trivial, trivial, trivial, trivial, trivial, trivial, trivial, trivial, trivial⟩ ?_
    have q := rt_of q
    refine SB.seqB (fun kx_207 => sb_if (b := (!(isiD text_203 "str"))) (et_not (et_B (ev_cb (ea_cons (ev_var (i := 0) rfl) (ea_cons (ev_ty "str") ea_nil)) (rc_isiD (by decide +kernel) (by decide +kernel) (by decide +kernel) (by decide +kernel) (by decide +kernel) (by decide +kernel))))) (fun hb_206 => ?_) (fun hb_206 => ?_))
    · have hf := ite_t hb_206 hf
      cases hf
      exact sb_ret ev_none q (List.Sublist.refl _)
    · have hf := ite_f hb_206 hf
      refine sb_nx ?_
      refine kx_207 _ _ ?_
      obtain ⟨o_208, h_o_208, hf⟩ := bind_some hf
      obtain ⟨sp_209, h_sp_209, hf⟩ := bind_some hf
      obtain ⟨rows_210, h_rows_210, hf⟩ := bind_some hf
      refine SB.seqB (fun kx_ => sb_asg (sl' := [sv text_203, sv names_204, sv rows_210, .any, .any, .any, .any, .any, .any, .any, .any, .any, .any, .any]) rfl (EV.cast (EN.ev (en_split (ev_of (ev_var (i := 0) rfl) h_o_208) (ev_str ("\n" : Str)) h_sp_209)) (Option.some.inj h_rows_210)) (kx_ _ _ ?_))
      refine SB.seqB (fun kx_ => sb_dnewK (κ := Str) (β := Adr) (sl' := fun p_cells_211 => [sv text_203, sv names_204, sv rows_210, .at p_cells_211, .any, .any, .any, .any, .any, .any, .any, .any, .any, .any]) rfl (fun _ => rfl) (fun p_cells_211 => (kx_ _ _ ?_)))
      obtain ⟨tot_220, h_tot_220, hf⟩ := bind_some hf
      refine SB.seqB (fun kx_252 => sb_for (β := (Int × Str × Unit)) (Sx := (Nat → Addr) × (Dc Str (List (Int × Int × Unit)))) (fun s => [sv text_203, sv names_204, sv rows_210, .at p_cells_211, .any, .any, .any, .any, .any, .any, .any, .any, .any, .any]) (fun s => ([] ++ dlO p_cells_211 s.1 (s.2).l)) (fun x s => [sv text_203, sv names_204, sv rows_210, .at p_cells_211, sv x.1, sv x.2.1, .any, .any, .any, .any, .any, .any, .any, .any]) [4, 5] (fun xs s => forC (m__law_read_L1 names_204 rows_210) xs s.2 = some tot_220) ((fun _ => p_cells_211), (Dc.mk ([] : List (Str × (List (Int × Int × Unit)))))) (IT.m (it_enum (ea_cons (ev_var (i := 2) rfl) ea_nil))) h_tot_220 (.keep (.keep (.keep (.keep (.keep (.keep (.keep (.keep (.keep (.keep (.keep (.keep (.keep (.keep .nil)))))))))))))) (List.Sublist.refl _) (fun x s => (gt_tup (gts_cons (gt_name rfl) (gts_cons (gt_name rfl) gts_nil)))) ?_ ?_)
      · intro Kn1 b1 x_ rest_ s_ hP_217 N_ hN_216
        obtain ⟨y_214, row_215, _⟩ := x_
        obtain ⟨qs_212, cells_213⟩ := s_
        replace hP_217 : forC (m__law_read_L1 names_204 rows_210) (_ :: rest_) cells_213 = some tot_220 := hP_217
        obtain ⟨c_, hc_218, hP_217⟩ := bind_some hP_217
        have q_219 := q.base b1
        unfold m__law_read_L1 at hc_218
        refine SB.is (sl' := [sv text_203, sv names_204, sv rows_210, .at p_cells_211, sv y_214, sv row_215, .any, .any, .any, .any, .any, .any, .any, .any]) (ow1 := ([] ++ dlO p_cells_211 qs_212 (cells_213).l)) rfl rfl ?_
        obtain ⟨b_225, h_b_225, hc_218⟩ := bind_some hc_218
        refine SB.seqB (fun kx_227 => sb_if (b := b_225) (et_orO h_b_225 (et_test (ev_op (ev_var (i := 5) rfl) (ev_str ("" : Str)) r2_eqS)) (fun _ _ h => by obtain ⟨n_222, h_n_222, h⟩ := bind_some h; obtain ⟨i_223, h_i_223, h⟩ := bind_some h; obtain ⟨n_224, h_n_224, h⟩ := bind_some h; have hz_ := Option.some.inj h; subst hz_; exact (et_test (ev_op (ev_cb (ea_cons (ev_var (i := 5) rfl) ea_nil) (rc_lenS h_n_222)) (ev_cb (ea_cons (ev_op (ev_var (i := 2) rfl) (ev_int 0) (r2_ixL h_i_223)) ea_nil) (rc_lenS h_n_224)) r2_neI)))) (fun hb_226 => ?_) (fun hb_226 => ?_))
        · have hc_218 := ite_t hb_226 hc_218
          cases hc_218
          replace hP_217 : some (Ctl.rt none) = some tot_220 := hP_217
          cases hP_217
          replace hf : some none = some r_ := hf
          cases hf
          exact sb_ret ev_none q_219 (List.nil_sublist _)
        · have hc_218 := ite_f hb_226 hc_218
          refine sb_nx ?_
          refine kx_227 _ _ ?_
          obtain ⟨tot_236, h_tot_236, hc_218⟩ := bind_some hc_218
          refine sb_for (β := (Int × Str × Unit)) (Sx := (Nat → Addr) × (Dc Str (List (Int × Int × Unit)))) (fun s => [sv text_203, sv names_204, sv rows_210, .at p_cells_211, sv y_214, sv row_215, .any, .any, .any, .any, .any, .any, .any, .any]) (fun s => ([] ++ dlO p_cells_211 s.1 (s.2).l)) (fun x s => [sv text_203, sv names_204, sv rows_210, .at p_cells_211, sv y_214, sv row_215, sv x.1, sv x.2.1, .any, .any, .any, .any, .any, .any]) [6, 7] (fun xs s => forC (m__law_read_L2 names_204 y_214) xs s.2 = some tot_236) (qs_212, cells_213) (IT.m (it_enumS (ea_cons (ev_var (i := 5) rfl) ea_nil))) h_tot_236 (.keep (.keep (.keep (.keep (.keep (.keep (.keep (.keep (.keep (.keep (.keep (.keep (.keep (.keep .nil)))))))))))))) (List.Sublist.refl _) (fun x s => (gt_tup (gts_cons (gt_name rfl) (gts_cons (gt_name rfl) gts_nil)))) ?_ ?_
          · intro Kn1 b1 x_ rest_ s_ hP_233 N_ hN_232
            obtain ⟨x_230, sign_231, _⟩ := x_
            obtain ⟨qs_228, cells_229⟩ := s_
            replace hP_233 : forC (m__law_read_L2 names_204 y_214) (_ :: rest_) cells_229 = some tot_236 := hP_233
            obtain ⟨c_, hc_234, hP_233⟩ := bind_some hP_233
            have q_235 := q_219.base b1
            unfold m__law_read_L2 at hc_234
            refine SB.is (sl' := [sv text_203, sv names_204, sv rows_210, .at p_cells_211, sv y_214, sv row_215, sv x_230, sv sign_231, .any, .any, .any, .any, .any, .any]) (ow1 := ([] ++ dlO p_cells_211 qs_228 (cells_229).l)) rfl rfl ?_
            obtain ⟨b_240, h_b_240, hc_234⟩ := bind_some hc_234
            refine SB.seqB (fun kx_242 => sb_if (b := b_240) (et_andO h_b_240 (et_test (ev_op (ev_var (i := 7) rfl) (ev_str ("." : Str)) r2_neS)) (fun _ _ h => by obtain ⟨cs_238, h_cs_238, h⟩ := bind_some h; obtain ⟨is_239, h_is_239, h⟩ := bind_some h; have hz_ := Option.some.inj h; subst hz_; exact (et_test (ev_op (ev_var (i := 7) rfl) (ev_slS (ev_str ("abcdef" : Str)) eo_none (eo_some (ev_cb (ea_cons (ev_var (i := 1) rfl) ea_nil) rc_lenF)) h_cs_238) (r2_notInS h_is_239))))) (fun hb_241 => ?_) (fun hb_241 => ?_))
            · have hc_234 := ite_t hb_241 hc_234
              cases hc_234
              replace hP_233 : some (Ctl.rt none) = some tot_236 := hP_233
              cases hP_233
              cases hc_218
              replace hP_217 : some (Ctl.rt none) = some tot_220 := hP_217
              cases hP_217
              replace hf : some none = some r_ := hf
              cases hf
              exact sb_ret ev_none q_235 (List.nil_sublist _)
            · have hc_234 := ite_f hb_241 hc_234
              refine sb_nx ?_
              refine kx_242 _ _ ?_
              refine sb_if (b := (!decide (sign_231 = ("." : Str)))) (et_test (ev_op (ev_var (i := 7) rfl) (ev_str ("." : Str)) r2_neS)) (fun hb_244 => ?_) (fun hb_244 => ?_)
              · have hc_234 := ite_t hb_244 hc_234
                obtain ⟨ix_246, h_ix_246, hc_234⟩ := bind_some hc_234
                obtain ⟨i_247, h_i_247, hc_234⟩ := bind_some hc_234
                obtain ⟨cells_248, h_cells_248, hc_234⟩ := bind_some hc_234
                refine sb_setd (i := 3) (base := []) (kvs := (cells_229).l) (kvs' := cells_248.l) rfl rfl (ev_op (ev_var (i := 1) rfl) (ev_sindex (ev_str ("abcdef" : Str)) (ev_var (i := 7) rfl) h_ix_246) (r2_ixF h_i_247)) (fun _ => (ev_tup (ea_cons (ev_var (i := 6) rfl) (ea_cons (ev_var (i := 4) rfl) ea_nil)))) h_cells_248 (fun qs_cells_248 => ?_)
                cases hc_234
                exact fun σ Kn H s => hN_232 (qs_cells_248, _) hP_233 σ Kn H ((s.le (.keep (.keep (.keep (.keep (.keep (.keep (.drop (.drop (.keep (.keep (.keep (.keep (.keep (.keep .nil))))))))))))))).sub (List.Sublist.refl _))
              · have hc_234 := ite_f hb_244 hc_234
                refine sb_nx ?_
                cases hc_234
                exact fun σ Kn H s => hN_232 (qs_228, _) hP_233 σ Kn H ((s.le (.keep (.keep (.keep (.keep (.keep (.keep (.drop (.drop (.keep (.keep (.keep (.keep (.keep (.keep .nil))))))))))))))).sub (List.Sublist.refl _))
          · intro s_ h0
            obtain ⟨qs_228, cells_249⟩ := s_
            cases h0
            show SN _ _ _ [sv text_203, sv names_204, sv rows_210, .at p_cells_211, sv y_214, sv row_215, .any, .any, .any, .any, .any, .any, .any, .any] ([] ++ dlO p_cells_211 qs_228 (cells_249).l) _
            cases hc_218
            exact fun σ Kn H s => hN_216 (qs_228, _) hP_217 σ Kn H ((s.le (.keep (.keep (.keep (.keep (.drop (.drop (.keep (.keep (.keep (.keep (.keep (.keep (.keep (.keep .nil))))))))))))))).sub (List.Sublist.refl _))
      · intro s_ h0
        obtain ⟨qs_212, cells_251⟩ := s_
        cases h0
        refine kx_252 _ _ ?_
        refine SB.is (sl' := [sv text_203, sv names_204, sv rows_210, .at p_cells_211, .any, .any, .any, .any, .any, .any, .any, .any, .any, .any]) (ow1 := ([] ++ dlO p_cells_211 qs_212 (cells_251).l)) rfl rfl ?_
        refine SB.seqB (fun kx_ => sb_dnewK (κ := Str) (β := (Int × Int × Int × Int × Unit)) (sl' := fun p_places_253 => [sv text_203, sv names_204, sv rows_210, .at p_cells_211, .any, .any, .any, .any, .at p_places_253, .any, .any, .any, .any, .any]) rfl (fun _ => rfl) (fun p_places_253 => (kx_ _ _ ?_)))
        refine sb_frzDl (i := 3) (base := [oo p_places_253 (Dc.mk ([] : List (Str × (Int × Int × Int × Int × Unit))))]) (sl' := [sv text_203, sv names_204, sv rows_210, sv cells_251, .any, .any, .any, .any, .at p_places_253, .any, .any, .any, .any, .any]) rfl rfl rfl ?_
        obtain ⟨tot_260, h_tot_260, hf⟩ := bind_some hf
        refine SB.seqB (fun kx_287 => sb_for (β := Str) (Sx := (Dc Str (Int × Int × Int × Int × Unit))) (fun s => [sv text_203, sv names_204, sv rows_210, sv cells_251, .any, .any, .any, .any, .at p_places_253, .any, .any, .any, .any, .any]) (fun s => [oo p_places_253 s]) (fun x s => [sv text_203, sv names_204, sv rows_210, sv cells_251, .any, .any, .any, .any, .at p_places_253, sv x, .any, .any, .any, .any]) [9] (fun xs s => forC (m__law_read_L3 cells_251) xs s = some tot_260) (Dc.mk ([] : List (Str × (Int × Int × Int × Int × Unit)))) (IT.m (it_listF (ev_var (i := 1) rfl))) h_tot_260 (.keep (.keep (.keep (.keep (.keep (.keep (.keep (.keep (.keep (.keep (.keep (.keep (.keep (.keep .nil)))))))))))))) (List.Sublist.refl _) (fun x s => (gt_name rfl)) ?_ ?_)
        · intro Kn1 b1 name_255 rest_ places_254 hP_257 N_ hN_256
          obtain ⟨c_, hc_258, hP_257⟩ := bind_some hP_257
          have q_259 := q.base b1
          unfold m__law_read_L3 at hc_258
          refine SB.is (sl' := [sv text_203, sv names_204, sv rows_210, sv cells_251, .any, .any, .any, .any, .at p_places_253, sv name_255, .any, .any, .any, .any]) (ow1 := [oo p_places_253 places_254]) rfl rfl ?_
          refine SB.seqB (fun kx_263 => sb_if (b := (!(getD cells_251.l name_255).isSome)) (et_B (ev_dnotin (ev_var (i := 3) rfl) (ev_var (i := 9) rfl))) (fun hb_262 => ?_) (fun hb_262 => ?_))
          · have hc_258 := ite_t hb_262 hc_258
            cases hc_258
            replace hP_257 : some (Ctl.rt none) = some tot_260 := hP_257
            cases hP_257
            replace hf : some none = some r_ := hf
            cases hf
            exact sb_ret ev_none q_259 (List.Sublist.cons _ List.Sublist.slnil)
          · have hc_258 := ite_f hb_262 hc_258
            refine sb_nx ?_
            refine kx_263 _ _ ?_
            obtain ⟨i_264, h_i_264, hc_258⟩ := bind_some hc_258
            obtain ⟨i_265, h_i_265, hc_258⟩ := bind_some hc_258
            obtain ⟨⟨x_266, y_267, _⟩, h_x_266, hc_258⟩ := bind_some hc_258
            refine SB.seqB (fun kx_ => sb_unp (sl' := [sv text_203, sv names_204, sv rows_210, sv cells_251, sv y_267, .any, sv x_266, .any, .at p_places_253, sv name_255, .any, .any, .any, .any]) (EV.cast (ev_op (ev_dget (ev_var (i := 3) rfl) (ev_var (i := 9) rfl) h_i_264) (ev_int 0) (r2_ixL h_i_265)) (Option.some.inj h_x_266)) (gt_tup (gts_cons (gt_name rfl) (gts_cons (gt_name rfl) gts_nil))) (kx_ _ _ ?_))
            obtain ⟨i_268, h_i_268, hc_258⟩ := bind_some hc_258
            obtain ⟨zs_270, h_zs_270, hc_258⟩ := bind_some hc_258
            obtain ⟨width_271, h_width_271, hc_258⟩ := bind_some hc_258
            refine SB.seqB (fun kx_ => sb_asg (sl' := [sv text_203, sv names_204, sv rows_210, sv cells_251, sv y_267, .any, sv x_266, .any, .at p_places_253, sv name_255, sv width_271, .any, .any, .any]) rfl (EV.cast (ev_cb (ea_cons (EN.ev (en_lc (js := [12]) (fun x => [sv text_203, sv names_204, sv rows_210, sv cells_251, sv y_267, .any, sv x_266, .any, .at p_places_253, sv name_255, .any, .any, sv x, .any]) h_zs_270 (it_list (ev_dget (ev_var (i := 3) rfl) (ev_var (i := 9) rfl) h_i_268)) (anyAt_of (by rfl)) (fun x => (gt_name rfl)) (sub_of (by rfl)) (fun _ _ x b h => by obtain ⟨cell_269, hx_⟩ : ∃ y, y = x := ⟨x, rfl⟩; subst hx_; have hz_ := Option.some.inj h; subst hz_; exact ET.is (sl' := [sv text_203, sv names_204, sv rows_210, sv cells_251, sv y_267, .any, sv x_266, .any, .at p_places_253, sv name_255, .any, .any, sv cell_269, .any]) rfl (et_test (ev_op (ev_op (ev_var (i := 12) rfl) (ev_int 1) (r2_tix (n := 1) (At.s _ (At.z _ _)))) (ev_var (i := 4) rfl) r2_eqI))) (fun _ _ x z _ h => by obtain ⟨cell_269, hx_⟩ : ∃ y, y = x := ⟨x, rfl⟩; subst hx_; have hz_ := Option.some.inj h; subst hz_; exact EV.is (sl' := [sv text_203, sv names_204, sv rows_210, sv cells_251, sv y_267, .any, sv x_266, .any, .at p_places_253, sv name_255, .any, .any, sv cell_269, .any]) rfl (ev_var (i := 12) rfl)))) ea_nil) rc_len) (Option.some.inj h_width_271)) (kx_ _ _ ?_))
            obtain ⟨i_272, h_i_272, hc_258⟩ := bind_some hc_258
            obtain ⟨q_273, h_q_273, hc_258⟩ := bind_some hc_258
            obtain ⟨height_274, h_height_274, hc_258⟩ := bind_some hc_258
            refine SB.seqB (fun kx_ => sb_asg (sl' := [sv text_203, sv names_204, sv rows_210, sv cells_251, sv y_267, .any, sv x_266, .any, .at p_places_253, sv name_255, sv width_271, sv height_274, .any, .any]) rfl (EV.cast (ev_op (ev_cb (ea_cons (ev_dget (ev_var (i := 3) rfl) (ev_var (i := 9) rfl) h_i_272) ea_nil) rc_len) (ev_var (i := 10) rfl) (r2_divO h_q_273)) (Option.some.inj h_height_274)) (kx_ _ _ ?_))
            obtain ⟨i_276, h_i_276, hc_258⟩ := bind_some hc_258
            obtain ⟨m_277, h_m_277, hc_258⟩ := bind_some hc_258
            obtain ⟨rg_278, h_rg_278, hc_258⟩ := bind_some hc_258
            obtain ⟨zs_280, h_zs_280, hc_258⟩ := bind_some hc_258
            refine SB.seqB (fun kx_284 => sb_if (b := (!decide (i_276 = zs_280))) (et_test (ev_op (ev_dget (ev_var (i := 3) rfl) (ev_var (i := 9) rfl) h_i_276) (EN.ev (en_lc (js := [13]) (fun x => [sv text_203, sv names_204, sv rows_210, sv cells_251, sv y_267, .any, sv x_266, .any, .at p_places_253, sv name_255, sv width_271, sv height_274, .any, sv x]) h_zs_280 (it_rng1 (ea_cons (ev_op (ev_var (i := 10) rfl) (ev_var (i := 11) rfl) (r2_mulO h_m_277)) ea_nil) h_rg_278) (anyAt_of (by rfl)) (fun x => (gt_name rfl)) (sub_of (by rfl)) (fun _ _ x b h => by cases h; exact et_yes) (fun _ _ x z _ h => by obtain ⟨k_279, hx_⟩ : ∃ y, y = x := ⟨x, rfl⟩; subst hx_; obtain ⟨r_281, h_r_281, h⟩ := bind_some h; obtain ⟨q_282, h_q_282, h⟩ := bind_some h; have hz_ := Option.some.inj h; subst hz_; exact EV.is (sl' := [sv text_203, sv names_204, sv rows_210, sv cells_251, sv y_267, .any, sv x_266, .any, .at p_places_253, sv name_255, sv width_271, sv height_274, .any, sv k_279]) rfl (ev_tup (ea_cons (ev_op (ev_var (i := 6) rfl) (ev_op (ev_var (i := 13) rfl) (ev_var (i := 10) rfl) (r2_modO h_r_281)) r2_add) (ea_cons (ev_op (ev_var (i := 4) rfl) (ev_op (ev_var (i := 13) rfl) (ev_var (i := 10) rfl) (r2_divO h_q_282)) r2_add) ea_nil)))))) r2_neT)) (fun hb_283 => ?_) (fun hb_283 => ?_))
            · have hc_258 := ite_t hb_283 hc_258
              cases hc_258
              replace hP_257 : some (Ctl.rt none) = some tot_260 := hP_257
              cases hP_257
              replace hf : some none = some r_ := hf
              cases hf
              exact sb_ret ev_none q_259 (List.Sublist.cons _ List.Sublist.slnil)
            · have hc_258 := ite_f hb_283 hc_258
              refine sb_nx ?_
              refine kx_284 _ _ ?_
              obtain ⟨places_285, h_places_285, hc_258⟩ := bind_some hc_258
              refine sb_dput (i := 8) (j := 0) rfl rfl (ev_tup (ea_cons (ev_var (i := 6) rfl) (ea_cons (ev_var (i := 4) rfl) (ea_cons (ev_var (i := 10) rfl) (ea_cons (ev_var (i := 11) rfl) ea_nil))))) (ev_var (i := 9) rfl) h_places_285 (ow1 := [oo p_places_253 places_285]) rfl ?_
              cases hc_258
              exact fun σ Kn H s => hN_256 _ hP_257 σ Kn H ((s.le (.keep (.keep (.keep (.keep (.drop (.keep (.drop (.keep (.keep (.drop (.drop (.drop (.keep (.keep .nil))))))))))))))).sub (List.Sublist.refl _))
        · intro places_286 h0
          cases h0
          refine kx_287 _ _ ?_
          refine SB.is (sl' := [sv text_203, sv names_204, sv rows_210, sv cells_251, .any, .any, .any, .any, .at p_places_253, .any, .any, .any, .any, .any]) (ow1 := [oo p_places_253 places_286]) rfl rfl ?_
          refine sb_freezeG (i := 8) (j := 0) (sl' := [sv text_203, sv names_204, sv rows_210, sv cells_251, .any, .any, .any, .any, sv places_286, .any, .any, .any, .any, .any]) (ow1 := []) rfl rfl rfl rfl ?_
          cases hf
          exact sb_ret (ev_some (ev_var (i := 8) rfl)) q (List.Sublist.refl _)
theorem sc__law_spoiled : FnScope ["_law_text", "_law_number", "_law_other", "_law_at", "_law_rows", "_law_row"] ["_law_text", "_law_number", "_law_other"] (defScope s__law_spoiled) := ⟨rfl, rfl, rfl, by decide +kernel, rfl, by decide +kernel, by decide +kernel⟩
set_option maxHeartbeats 4000000 in
theorem ok__law_spoiled (T : TX K mg w) : FnOk P w K mg base CX0 1 T.a__law_spoiled T.d__law_spoiled ["_law_text", "_law_number", "_law_other"] (PF (τ := Str × Int × Int × Unit) K (fun t => m__law_spoiled t.1 t.2.1 t.2.2.1)) := by
  refine T.F__law_spoiled.ok sc__law_spoiled (fun vs H Q E h => ?_) (fun cdv A outer s H vs Q E hr h => ?_)
  · obtain ⟨Kn, t, r, ek, h, hf, q⟩ := h
    exact Tp.len h
  · obtain ⟨Kn, t, r_, ek, h, hf, q⟩ := h
    obtain ⟨text_288, number_289, other_290, u_⟩ := t
    obtain ⟨v_0, rr_, rfl, hv_0, h⟩ := h
    obtain ⟨v_1, rr_, rfl, hv_1, h⟩ := h
    obtain ⟨v_2, rr_, rfl, hv_2, h⟩ := h
    obtain rfl := h
    replace hf : m__law_spoiled text_288 number_289 other_290 = some r_ := hf
    unfold m__law_spoiled at hf
    refine ⟨_, (pss_cons (ps_set (i := 3) sc__law_spoiled.nd rfl (.inl rfl) (pe_op op_mod (pv 2) (pe_callB call_len_str (by rfl) T.z_len PySem.boot_len (pa_cons (pv 0) pa_nil))))
      (pss_cons (ps_set (i := 4) sc__law_spoiled.nd rfl (.inl rfl) (pe_bm PySem.F.plainAttrs_str PySem.F.slot_str_split PySem.F.type_str_split mt_split (pv 0) (pa_cons pe_str pa_nil)))
      (pss_cons (ps_set (i := 5) sc__law_spoiled.nd rfl (.inl rfl) (pe_op op_mod (pv 2) (pe_callB k_len (by rfl) T.z_len PySem.boot_len (pa_cons (pv 4) pa_nil))))
      (pss_cons (ps_if (pt_cmpR op_lt (pe_op op_mod (pv 1) pe_int) pe_int (nomark _)) (pss_one (ps_ret (pe_op op_add_str (pe_op op_add_str (pe_slice sl_str (pv 0) po_none (po_some (pv 3))) (pe_ix ix_str pe_str (pe_op op_mod (pe_op op_fdiv (pv 1) pe_int) pe_int) (fun _ _ => rfl))) (pe_slice sl_str (pv 0) (po_some (pe_op op_add (pv 3) pe_int)) po_none)))) pss_nil)
      (pss_cons (ps_if (pt_cmpR op_eq (pe_op op_mod (pv 1) pe_int) pe_int (nomark _)) (pss_one (ps_ret (pe_op op_add_str (pe_op op_add_str (pe_slice sl_str (pv 0) po_none (po_some (pv 3))) (pe_ix k_ixl (pe_lst (pa_cons pe_str (pa_cons pe_str (pa_cons pe_str (pa_cons pe_str pa_nil))))) (pe_op op_mod (pe_op op_fdiv (pv 1) pe_int) pe_int) (fun _ _ => rfl))) (pe_slice sl_str (pv 0) (po_some (pv 3)) po_none)))) pss_nil)
      (pss_cons (ps_if (pt_cmpR op_eq (pe_op op_mod (pv 1) pe_int) pe_int (nomark _)) (pss_one (ps_ret (pe_op op_add_str (pe_slice sl_str (pv 0) po_none (po_some (pv 3))) (pe_slice sl_str (pv 0) (po_some (pe_op op_add (pv 3) pe_int)) po_none)))) pss_nil)
      (pss_cons (ps_if (pt_cmpR op_eq (pe_op op_mod (pv 1) pe_int) pe_int (nomark _)) (pss_one (ps_ret (k_join pe_str (pe_op op_cat (pe_slice k_sll (pv 4) po_none (po_some (pv 5))) (pe_slice k_sll (pv 4) (po_some (pe_op op_add (pv 5) pe_int)) po_none))))) pss_nil)
      (pss_cons (ps_if (pt_cmpR op_eq (pe_op op_mod (pv 1) pe_int) pe_int (nomark _)) (pss_one (ps_ret (k_join pe_str (pe_op op_cat (pe_slice k_sll (pv 4) po_none (po_some (pe_op op_add (pv 5) pe_int))) (pe_slice k_sll (pv 4) (po_some (pv 5)) po_none))))) pss_nil)
      (pss_one (ps_ret (pe_ix k_ixl (pe_lst (pa_cons (pe_op op_add_str (pv 0) pe_str) (pa_cons (pe_op op_add_str pe_str (pv 0)) (pa_cons pe_str (pa_cons pe_non (pa_cons pe_int (pa_cons (pv 4) pa_nil))))))) (pe_op op_mod (pe_op op_fdiv (pv 1) pe_int) pe_int) (fun _ _ => rfl)))))))))))), ?_⟩
    refine enter (K := K) (Kn := Kn) (sl := [sv text_288, sv number_289, sv other_290, .any, .any, .any]) ek ⟨⟨v_0, rfl, hv_0⟩, ⟨v_1, rfl, hv_1⟩, ⟨v_2, rfl, hv_2⟩, trivial, trivial, trivial, trivial⟩ ?_
    have q := rt_of q
    obtain ⟨n_291, h_n_291, hf⟩ := bind_some hf
    obtain ⟨r_292, h_r_292, hf⟩ := bind_some hf
    obtain ⟨at_293, h_at_293, hf⟩ := bind_some hf
    refine SB.seqB (fun kx_ => sb_asg (sl' := [sv text_288, sv number_289, sv other_290, sv at_293, .any, .any]) rfl (EV.cast (ev_op (ev_var (i := 2) rfl) (ev_cb (ea_cons (ev_var (i := 0) rfl) ea_nil) (rc_lenS h_n_291)) (r2_modO h_r_292)) (Option.some.inj h_at_293)) (kx_ _ _ ?_))
    obtain ⟨sp_294, h_sp_294, hf⟩ := bind_some hf
    obtain ⟨rows_295, h_rows_295, hf⟩ := bind_some hf
    refine SB.seqB (fun kx_ => sb_asg (sl' := [sv text_288, sv number_289, sv other_290, sv at_293, sv rows_295, .any]) rfl (EV.cast (EN.ev (en_split (ev_var (i := 0) rfl) (ev_str ("\n" : Str)) h_sp_294)) (Option.some.inj h_rows_295)) (kx_ _ _ ?_))
    obtain ⟨r_296, h_r_296, hf⟩ := bind_some hf
    obtain ⟨row_297, h_row_297, hf⟩ := bind_some hf
    refine SB.seqB (fun kx_ => sb_asg (sl' := [sv text_288, sv number_289, sv other_290, sv at_293, sv rows_295, sv row_297]) rfl (EV.cast (ev_op (ev_var (i := 2) rfl) (ev_cb (ea_cons (ev_var (i := 4) rfl) ea_nil) rc_len) (r2_modO h_r_296)) (Option.some.inj h_row_297)) (kx_ _ _ ?_))
    refine SB.seqB (fun kx_300 => sb_if (b := (decide ((number_289 % (8 : Int)) < (3 : Int)))) (et_test (ev_op (ev_op (ev_var (i := 1) rfl) (ev_int 8) r2_mod) (ev_int 3) r2_lt)) (fun hb_299 => ?_) (fun hb_299 => ?_))
    · have hf := ite_t hb_299 hf
      obtain ⟨cs_301, h_cs_301, hf⟩ := bind_some hf
      obtain ⟨i_302, h_i_302, hf⟩ := bind_some hf
      obtain ⟨t_303, h_t_303, hf⟩ := bind_some hf
      obtain ⟨cs_304, h_cs_304, hf⟩ := bind_some hf
      obtain ⟨t_305, h_t_305, hf⟩ := bind_some hf
      cases hf
      exact sb_ret (ev_up (ev_op (ev_op (ev_slS (ev_var (i := 0) rfl) eo_none (eo_some (ev_var (i := 3) rfl)) h_cs_301) (ev_op (ev_str ("abcdef.g7A" : Str)) (ev_op (ev_op (ev_var (i := 1) rfl) (ev_int 8) r2_div) (ev_int 10) r2_mod) (r2_ixS h_i_302)) (r2_addS h_t_303)) (ev_slS (ev_var (i := 0) rfl) (eo_some (ev_op (ev_var (i := 3) rfl) (ev_int 1) r2_add)) eo_none h_cs_304) (r2_addS h_t_305))) q (List.Sublist.refl _)
    · have hf := ite_f hb_299 hf
      refine sb_nx ?_
      refine kx_300 _ _ ?_
      refine SB.seqB (fun kx_308 => sb_if (b := (decide ((number_289 % (8 : Int)) = (3 : Int)))) (et_test (ev_op (ev_op (ev_var (i := 1) rfl) (ev_int 8) r2_mod) (ev_int 3) r2_eqI)) (fun hb_307 => ?_) (fun hb_307 => ?_))
      · have hf := ite_t hb_307 hf
        obtain ⟨cs_309, h_cs_309, hf⟩ := bind_some hf
        obtain ⟨i_310, h_i_310, hf⟩ := bind_some hf
        obtain ⟨t_311, h_t_311, hf⟩ := bind_some hf
        obtain ⟨cs_312, h_cs_312, hf⟩ := bind_some hf
        obtain ⟨t_313, h_t_313, hf⟩ := bind_some hf
        cases hf
        exact sb_ret (ev_up (ev_op (ev_op (ev_slS (ev_var (i := 0) rfl) eo_none (eo_some (ev_var (i := 3) rfl)) h_cs_309) (ev_op (EN.ev (en_lst (el_cons (ev_str ("#" : Str)) (el_cons (ev_str ("\n" : Str)) (el_cons (ev_str (" " : Str)) (el_cons (ev_str ("." : Str)) el_nil)))))) (ev_op (ev_op (ev_var (i := 1) rfl) (ev_int 8) r2_div) (ev_int 4) r2_mod) (r2_ixL h_i_310)) (r2_addS h_t_311)) (ev_slS (ev_var (i := 0) rfl) (eo_some (ev_var (i := 3) rfl)) eo_none h_cs_312) (r2_addS h_t_313))) q (List.Sublist.refl _)
      · have hf := ite_f hb_307 hf
        refine sb_nx ?_
        refine kx_308 _ _ ?_
        refine SB.seqB (fun kx_316 => sb_if (b := (decide ((number_289 % (8 : Int)) = (4 : Int)))) (et_test (ev_op (ev_op (ev_var (i := 1) rfl) (ev_int 8) r2_mod) (ev_int 4) r2_eqI)) (fun hb_315 => ?_) (fun hb_315 => ?_))
        · have hf := ite_t hb_315 hf
          obtain ⟨cs_317, h_cs_317, hf⟩ := bind_some hf
          obtain ⟨cs_318, h_cs_318, hf⟩ := bind_some hf
          obtain ⟨t_319, h_t_319, hf⟩ := bind_some hf
          cases hf
          exact sb_ret (ev_up (ev_op (ev_slS (ev_var (i := 0) rfl) eo_none (eo_some (ev_var (i := 3) rfl)) h_cs_317) (ev_slS (ev_var (i := 0) rfl) (eo_some (ev_op (ev_var (i := 3) rfl) (ev_int 1) r2_add)) eo_none h_cs_318) (r2_addS h_t_319))) q (List.Sublist.refl _)
        · have hf := ite_f hb_315 hf
          refine sb_nx ?_
          refine kx_316 _ _ ?_
          refine SB.seqB (fun kx_322 => sb_if (b := (decide ((number_289 % (8 : Int)) = (5 : Int)))) (et_test (ev_op (ev_op (ev_var (i := 1) rfl) (ev_int 8) r2_mod) (ev_int 5) r2_eqI)) (fun hb_321 => ?_) (fun hb_321 => ?_))
          · have hf := ite_t hb_321 hf
            obtain ⟨cat_323, h_cat_323, hf⟩ := bind_some hf
            obtain ⟨j_324, h_j_324, hf⟩ := bind_some hf
            cases hf
            exact sb_ret (ev_up (ev_joinO (ev_str ("\n" : Str)) (EN.ev (en_op (EN.ev (en_sl (ev_var (i := 4) rfl) eo_none (eo_some (ev_var (i := 5) rfl)))) (EN.ev (en_sl (ev_var (i := 4) rfl) (eo_some (ev_op (ev_var (i := 5) rfl) (ev_int 1) r2_add)) eo_none)) (r2_catO h_cat_323))) h_j_324)) q (List.Sublist.refl _)
          · have hf := ite_f hb_321 hf
            refine sb_nx ?_
            refine kx_322 _ _ ?_
            refine SB.seqB (fun kx_327 => sb_if (b := (decide ((number_289 % (8 : Int)) = (6 : Int)))) (et_test (ev_op (ev_op (ev_var (i := 1) rfl) (ev_int 8) r2_mod) (ev_int 6) r2_eqI)) (fun hb_326 => ?_) (fun hb_326 => ?_))
            · have hf := ite_t hb_326 hf
              obtain ⟨cat_328, h_cat_328, hf⟩ := bind_some hf
              obtain ⟨j_329, h_j_329, hf⟩ := bind_some hf
              cases hf
              exact sb_ret (ev_up (ev_joinO (ev_str ("\n" : Str)) (EN.ev (en_op (EN.ev (en_sl (ev_var (i := 4) rfl) eo_none (eo_some (ev_op (ev_var (i := 5) rfl) (ev_int 1) r2_add)))) (EN.ev (en_sl (ev_var (i := 4) rfl) (eo_some (ev_var (i := 5) rfl)) eo_none)) (r2_catO h_cat_328))) h_j_329)) q (List.Sublist.refl _)
            · have hf := ite_f hb_326 hf
              refine sb_nx ?_
              refine kx_327 _ _ ?_
              obtain ⟨t_332, h_t_332, hf⟩ := bind_some hf
              obtain ⟨t_333, h_t_333, hf⟩ := bind_some hf
              obtain ⟨i_334, h_i_334, hf⟩ := bind_some hf
              cases hf
              exact sb_ret (ev_op (EN.ev (en_lst (el_cons (ev_up (ev_op (ev_var (i := 0) rfl) (ev_str ("\n" : Str)) (r2_addS h_t_332))) (el_cons (ev_up (ev_op (ev_str ("\n" : Str)) (ev_var (i := 0) rfl) (r2_addS h_t_333))) (el_cons (ev_up (ev_str ("" : Str))) (el_cons (ev_up ev_nn) (el_cons (ev_up (ev_int 7)) (el_cons (ev_up (ev_var (i := 4) rfl)) el_nil)))))))) (ev_op (ev_op (ev_var (i := 1) rfl) (ev_int 8) r2_div) (ev_int 6) r2_mod) (r2_ixL h_i_334)) q (List.Sublist.refl _)
theorem sc__law_told : FnScope ["_law_text", "_law_names", "_law_found", "e"] ["_law_text", "_law_names"] (defScope s__law_told) := ⟨rfl, rfl, rfl, by decide +kernel, rfl, by decide +kernel, by decide +kernel⟩
set_option maxHeartbeats 4000000 in
theorem ok__law_told (T : TX K mg w) : FnOk P w K mg base CX0 3 T.a__law_told T.d__law_told ["_law_text", "_law_names"] (PF (τ := Dy × (Fz Str) × Unit) K (fun t => m__law_told t.1 t.2.1)) := by
  refine T.F__law_told.ok sc__law_told (fun vs H Q E h => ?_) (fun cdv A outer s H vs Q E hr h => ?_)
  · obtain ⟨Kn, t, r, ek, h, hf, q⟩ := h
    exact Tp.len h
  · obtain ⟨Kn, t, r_, ek, h, hf, q⟩ := h
    obtain ⟨text_335, names_336, u_⟩ := t
    obtain ⟨v_0, rr_, rfl, hv_0, h⟩ := h
    obtain ⟨v_1, rr_, rfl, hv_1, h⟩ := h
    obtain rfl := h
    replace hf : m__law_told text_335 names_336 = some r_ := hf
    unfold m__law_told at hf
    refine ⟨_, (Evl.pss_cut (ps_try_as (i := 3) rfl rfl sc__law_told.nd rfl rfl ⟨rfl, by decide, .inl T.gC_NoRead⟩ takes0 (fun W pn xe tk _ => (pss_one (ps_set (i := 2) sc__law_told.nd rfl (.inl rfl) (pe_callS (ok_read_floor T) hr (by rfl) T.g_read_floor T.F_read_floor.kp T.b_read_floor (fun σ => passAt tk σ) (pa_cons (pv 0) (pa_cons (pv 1) pa_nil)))))) (fun a oe cls d pn hz hf => (pss_one (ps_set (i := 2) sc__law_told.nd rfl (.inl rfl) (pe_and (pe_callB (call_isX T.isx_NoRead hz hf) (by rfl) T.z_isinstance (by decide +kernel) (pa_cons (pv 3) (pa_cons (pe_glob (v := .ref T.c_BoxError) (by rfl) T.gC_BoxError rfl) pa_nil))) (pe_one (pe_not (pe_callB (call_isXT T.isx_NoRead hz hf) (by rfl) T.z_isinstance (by decide +kernel) (pa_cons (pv 3) (pa_cons (pe_tup (pa_cons (pe_glob (v := .ref T.c_NoFloor) (by rfl) T.gC_NoFloor rfl) (pa_cons (pe_glob (v := .ref T.c_NoTree) (by rfl) T.gC_NoTree rfl) pa_nil))) pa_nil))))))))))
      (pss_one (ps_ret (pv 2)))), ?_⟩
    refine enter (K := K) (Kn := Kn) (sl := [sv text_335, sv names_336, .any, .any]) ek ⟨⟨v_0, rfl, hv_0⟩, ⟨v_1, rfl, hv_1⟩, trivial, trivial, trivial⟩ ?_
    have q := rt_of q
    obtain ⟨found_346, hj_337, hf⟩ := bind_some hf
    refine SB.cutB (sl' := [sv text_335, sv names_336, sv found_346, .any]) (ow1 := []) (fun km_338 => ?_) ?_
    · intro σ_ Kn_ H_ s_
      obtain ⟨r_339_0, h_r_339, hj_337⟩ := bind_some hj_337
      obtain ⟨ex_340, rfl⟩ | ⟨r_339, rfl⟩ := er_cases r_339_0
      · obtain ⟨hx_341, hj_337⟩ := ite_some hj_337
        refine sb_asgR (er_call (ea_cons (ev_var (i := 0) rfl) (ea_cons (ev_var (i := 1) rfl) ea_nil)) h_r_339) (rw_as (exm_NoRead T _ (of_decide_eq_true hx_341)) (fun _ _ _ => rfl) (sl' := fun a_ cls_ d_ => [sv text_335, sv names_336, .any, sv (Xv.mk ex_340 : Xv (cmT T) a_ cls_ d_)]) (fun a_ cls_ d_ => ?_)) σ_ Kn_ H_ s_
        obtain ⟨xc_342, h_xc_342, hj_337⟩ := bind_some hj_337
        obtain ⟨b_344, h_b_344, hj_337⟩ := bind_some hj_337
        obtain ⟨found_345, h_found_345, hj_337⟩ := bind_some hj_337
        refine sb_asg (sl' := [sv text_335, sv names_336, sv found_345, sv (Xv.mk ex_340 : Xv (cmT T) a_ cls_ d_)]) rfl (EV.cast (ev_inr (α := (Dc Str (Int × Int × Int × Int × Unit))) (β := Bool) (ev_andO h_b_344 (ev_cb (ea_cons (ev_var (i := 3) rfl) (ea_cons (ev_cl T.c_BoxError) ea_nil)) (rc_isXC (cm := cmT T) rfl h_xc_342 T.kit_NoRead_BoxError)) (fun _ _ h => by obtain ⟨xc_343, h_xc_343, h⟩ := bind_some h; have hz_ := Option.some.inj h; subst hz_; exact (ev_notV (ev_cb (ea_cons (ev_var (i := 3) rfl) (ea_cons (ev_tup (ea_cons (ev_cl T.c_NoFloor) (ea_cons (ev_cl T.c_NoTree) ea_nil))) ea_nil)) (rc_isXT (cm := cmT T) rfl h_xc_343 (kitAny_cons T.kit_NoRead_NoFloor (fun _ => (kitAny_cons T.kit_NoRead_NoTree (fun _ => kitAny_nil) (fun z => nomatch z))) (fun z => nomatch z)))))))) (Option.some.inj h_found_345)) ?_
        cases hj_337
        exact sn_suite (i := 3) rfl (km_338 _ _ (.keep (.keep (.keep (.keep .nil)))) (List.Sublist.refl _))
      cases hj_337
      exact sb_asg (i := 2) (sl' := [sv text_335, sv names_336, sv (Sum.inl r_339 : (Sum (Dc Str (Int × Int × Int × Int × Unit)) Bool)), .any]) rfl (ev_inl (α := (Dc Str (Int × Int × Int × Int × Unit))) (β := Bool) (ev_callX (ea_cons (ev_var (i := 0) rfl) (ea_cons (ev_var (i := 1) rfl) ea_nil)) h_r_339)) (km_338 _ _ (.keep (.keep (.keep (.keep .nil)))) (List.Sublist.refl _)) σ_ Kn_ H_ s_
    cases hf
    exact sb_ret (ev_var (i := 2) rfl) q (List.Sublist.refl _)
theorem sc_law : FnScope ["_law_script", "_law_text", "_law_many", "_law_names", "_law_cell", "_law_some", "_law_other", "_law_told_here", "_law_due", "_law_found"] ["_law_script"] (defScope s_law) := ⟨rfl, rfl, rfl, by decide +kernel, rfl, by decide +kernel, by decide +kernel⟩
set_option maxHeartbeats 4000000 in
theorem ok_law (T : TX K mg w) : FnOk P w K mg base CX0 4 T.a_law T.d_law ["_law_script"] (PF (τ := (Fz Int) × Unit) K (fun t => m_law t.1)) := by
  refine T.F_law.ok sc_law (fun vs H Q E h => ?_) (fun cdv A outer s H vs Q E hr h => ?_)
  · obtain ⟨Kn, t, r, ek, h, hf, q⟩ := h
    exact Tp.len h
  · obtain ⟨Kn, t, r_, ek, h, hf, q⟩ := h
    obtain ⟨script_347, u_⟩ := t
    obtain ⟨v_0, rr_, rfl, hv_0, h⟩ := h
    obtain rfl := h
    replace hf : m_law script_347 = some r_ := hf
    unfold m_law at hf
    refine ⟨_, (pss_cons (ps_asg (pe_call (ok__law_board T) (hr.mono (by decide)) (by rfl) T.g__law_board T.F__law_board.kp T.b__law_board .nil pass0 (pa_cons (pe_call (ok__law_cell_at T) (hr.mono (by decide)) (by rfl) T.g__law_cell_at T.F__law_cell_at.kp T.b__law_cell_at .nil pass0 (pa_cons (pv 0) (pa_cons pe_int pa_nil))) (pa_cons (pe_call (ok__law_cell_at T) (hr.mono (by decide)) (by rfl) T.g__law_cell_at T.F__law_cell_at.kp T.b__law_cell_at .nil pass0 (pa_cons (pv 0) (pa_cons pe_int pa_nil))) pa_nil))) (kpg_tup (n := 2) (pgs_cons (pg_name (i := 1) sc_law.nd rfl (.inl rfl)) (pgs_cons (pg_name (i := 2) sc_law.nd rfl (.inl rfl)) pgs_nil))))
      (pss_cons (ps_set (i := 3) sc_law.nd rfl (.inl rfl) (pe_slice k_sll (pe_lst (pa_cons pe_str (pa_cons pe_str (pa_cons pe_str (pa_cons pe_str (pa_cons pe_str (pa_cons pe_str pa_nil))))))) po_none (po_some (pv 2))))
      (pss_cons (ps_if (PW.pt (pw_and (pt_cmpR op_gt (pv 2) pe_int (nomark _)) (pw_and1 (pt_cmpR (k_top hr.units) (pe_call (ok__law_told T) hr (by rfl) T.g__law_told T.F__law_told.kp T.b__law_told .nil pass0 (pa_cons (pv 1) (pa_cons (pv 3) pa_nil))) (pe_call (ok__law_read T) (hr.mono (by decide)) (by rfl) T.g__law_read T.F__law_read.kp T.b__law_read .nil pass0 (pa_cons (pv 1) (pa_cons (pv 3) pa_nil))) (nomark _))))) (pss_one (ps_ret pe_bl)) pss_nil)
      (pss_cons (ps_for PassesOwn.never rfl (kpi_list (pe_slice k_sll (pv 0) (po_some pe_int) (po_some pe_int))) (pg_name (i := 4) sc_law.nd rfl (.inl rfl)) (pss_cons (ps_set (i := 5) sc_law.nd rfl (.inl rfl) (pe_call (ok__law_numbers T) (hr.mono (by decide)) (by rfl) T.g__law_numbers T.F__law_numbers.kp T.b__law_numbers .nil pass0 (pa_cons (pv 4) (pa_cons pe_int pa_nil))))
      (pss_cons (ps_set (i := 6) sc_law.nd rfl (.inl rfl) (pe_call (ok__law_spoiled T) (hr.mono (by decide)) (by rfl) T.g__law_spoiled T.F__law_spoiled.kp T.b__law_spoiled .nil pass0 (pa_cons (pv 1) (pa_cons (pe_ix k_ixl (pv 5) pe_int (fun _ _ => rfl)) (pa_cons (pe_ix k_ixl (pv 5) pe_int (fun _ _ => rfl)) pa_nil)))))
      (pss_cons (ps_set (i := 7) sc_law.nd rfl (.inl rfl) (pe_callTy k_list (by rfl) T.z_list (by decide +kernel) (pa_cons (pv 3) pa_nil)))
      (Evl.pss_cut (ps_if (pt_cmpR op_eq (pe_op op_mod (pe_ix k_ixl (pv 5) pe_int (fun _ _ => rfl)) pe_int) pe_int (nomark _)) (pss_one (ps_set (i := 7) sc_law.nd rfl (.inl rfl) (pe_slice k_sll (pe_lst (pa_cons pe_str (pa_cons pe_str (pa_cons pe_str (pa_cons pe_str (pa_cons pe_str (pa_cons pe_str pa_nil))))))) po_none (po_some (pe_callB k_min2 (by rfl) T.z_min (by decide +kernel) (pa_cons pe_int (pa_cons (pe_op op_add (pv 2) pe_int) pa_nil))))))) pss_nil)
      (Evl.pss_cut (ps_if (pt_cmpR op_eq (pe_op op_mod (pe_ix k_ixl (pv 5) pe_int (fun _ _ => rfl)) pe_int) pe_int (nomark _)) (pss_one (ps_set (i := 7) sc_law.nd rfl (.inl rfl) (pe_slice k_sll (pv 3) po_none (po_some (pe_un un_neg pe_int))))) pss_nil)
      (pss_cons (ps_set (i := 8) sc_law.nd rfl (.inl rfl) (pe_call (ok__law_read T) (hr.mono (by decide)) (by rfl) T.g__law_read T.F__law_read.kp T.b__law_read .nil pass0 (pa_cons (pv 6) (pa_cons (pv 7) pa_nil))))
      (pss_cons (ps_set (i := 9) sc_law.nd rfl (.inl rfl) (pe_call (ok__law_told T) hr (by rfl) T.g__law_told T.F__law_told.kp T.b__law_told .nil pass0 (pa_cons (pv 6) (pa_cons (pv 7) pa_nil))))
      (pss_one (ps_if (PW.pt (pw_or (PW.pt (pw_and (pt_cmpR op_isN (pv 8) pe_non (nomark _)) (pw_and1 (pt_cmpR op_notBl (pv 9) pe_bl (nomark _))))) (pw_or1 (PW.pt (pw_and (pt_cmpR op_notN (pv 8) pe_non (nomark _)) (pw_and1 (pt_cmpR (k_top hr.units) (pv 9) (pv 8) (nomark _)))))))) (pss_one (ps_ret pe_bl)) pss_nil))))))))))
      (pss_one (ps_ret pe_bl)))))), ?_⟩
    refine enter (K := K) (Kn := Kn) (sl := [sv script_347, .any, .any, .any, .any, .any, .any, .any, .any, .any]) ek ⟨⟨v_0, rfl, hv_0⟩, trivial, trivial, trivial, trivial, trivial, trivial, trivial, trivial, trivial, trivial⟩ ?_
    have q := rt_of q
    obtain ⟨r_348, h_r_348, hf⟩ := bind_some hf
    obtain ⟨r_349, h_r_349, hf⟩ := bind_some hf
    obtain ⟨r_350, h_r_350, hf⟩ := bind_some hf
    obtain ⟨⟨text_351, many_352, _⟩, h_text_351, hf⟩ := bind_some hf
    refine SB.seqB (fun kx_ => sb_unp (sl' := [sv script_347, sv text_351, sv many_352, .any, .any, .any, .any, .any, .any, .any]) (EV.cast (ev_call (ea_cons (ev_call (ea_cons (ev_var (i := 0) rfl) (ea_cons (ev_int 0) ea_nil)) h_r_348) (ea_cons (ev_call (ea_cons (ev_var (i := 0) rfl) (ea_cons (ev_int 1) ea_nil)) h_r_349) ea_nil)) h_r_350) (Option.some.inj h_text_351)) (gt_tup (gts_cons (gt_name rfl) (gts_cons (gt_name rfl) gts_nil))) (kx_ _ _ ?_))
    obtain ⟨names_353, h_names_353, hf⟩ := bind_some hf
    refine SB.seqB (fun kx_ => sb_asg (sl' := [sv script_347, sv text_351, sv many_352, sv names_353, .any, .any, .any, .any, .any, .any]) rfl (EV.cast (EN.ev (en_sl (EN.ev (en_lst (el_cons (ev_str ("ann" : Str)) (el_cons (ev_str ("bo" : Str)) (el_cons (ev_str ("cyd" : Str)) (el_cons (ev_str ("dan" : Str)) (el_cons (ev_str ("eve" : Str)) (el_cons (ev_str ("fay" : Str)) el_nil)))))))) eo_none (eo_some (ev_var (i := 2) rfl)))) (Option.some.inj h_names_353)) (kx_ _ _ ?_))
    obtain ⟨b_359, h_b_359, hf⟩ := bind_some hf
    refine SB.seqB (fun kx_361 => sb_if (b := b_359) (et_andO h_b_359 (et_test (ev_op (ev_var (i := 2) rfl) (ev_int 0) r2_gt)) (fun _ _ h => by obtain ⟨r_355, h_r_355, h⟩ := bind_some h; obtain ⟨r_356, h_r_356, h⟩ := bind_some h; obtain ⟨s_357, h_s_357, h⟩ := bind_some h; obtain ⟨su_358, h_su_358, h⟩ := bind_some h; have hz_ := Option.some.inj h; subst hz_; exact (et_test (ev_op (ev_outl (ev_call (ea_cons (ev_up (ev_var (i := 1) rfl)) (ea_cons (ev_fz (ev_var (i := 3) rfl)) ea_nil)) h_r_355) h_su_358) (ev_unopt (ev_call (ea_cons (ev_up (ev_var (i := 1) rfl)) (ea_cons (ev_fz (ev_var (i := 3) rfl)) ea_nil)) h_r_356) h_s_357) r2_neQ)))) (fun hb_360 => ?_) (fun hb_360 => ?_))
    · have hf := ite_t hb_360 hf
      cases hf
      exact sb_ret (ev_bool false) q (List.Sublist.refl _)
    · have hf := ite_f hb_360 hf
      refine sb_nx ?_
      refine kx_361 _ _ ?_
      obtain ⟨tot_367, h_tot_367, hf⟩ := bind_some hf
      refine SB.seqB (fun kx_400 => sb_for (β := Int) (Sx := Unit) (fun s => [sv script_347, sv text_351, sv many_352, sv names_353, .any, .any, .any, .any, .any, .any]) (fun s => []) (fun x s => [sv script_347, sv text_351, sv many_352, sv names_353, sv x, .any, .any, .any, .any, .any]) [4] (fun xs s => forC (m_law_L1 text_351 many_352 names_353) xs s = some tot_367) () (IT.m (it_list (EN.ev (en_slF (ev_var (i := 0) rfl) (eo_some (ev_int 2)) (eo_some (ev_int 42)))))) h_tot_367 (.keep (.keep (.keep (.keep (.keep (.keep (.keep (.keep (.keep (.keep .nil)))))))))) (List.Sublist.refl _) (fun x s => (gt_name rfl)) ?_ ?_)
      · intro Kn1 b1 cell_362 rest_ s_ hP_364 N_ hN_363
        obtain ⟨c_, hc_365, hP_364⟩ := bind_some hP_364
        have q_366 := q.base b1
        unfold m_law_L1 at hc_365
        refine SB.is (sl' := [sv script_347, sv text_351, sv many_352, sv names_353, sv cell_362, .any, .any, .any, .any, .any]) (ow1 := []) rfl rfl ?_
        obtain ⟨r_368, h_r_368, hc_365⟩ := bind_some hc_365
        obtain ⟨some_369, h_some_369, hc_365⟩ := bind_some hc_365
        refine SB.seqB (fun kx_ => sb_asg (sl' := [sv script_347, sv text_351, sv many_352, sv names_353, sv cell_362, sv some_369, .any, .any, .any, .any]) rfl (EV.cast (EN.ev (en_call (ea_cons (ev_var (i := 4) rfl) (ea_cons (ev_int 3) ea_nil)) h_r_368)) (Option.some.inj h_some_369)) (kx_ _ _ ?_))
        obtain ⟨i_370, h_i_370, hc_365⟩ := bind_some hc_365
        obtain ⟨i_371, h_i_371, hc_365⟩ := bind_some hc_365
        obtain ⟨r_372, h_r_372, hc_365⟩ := bind_some hc_365
        obtain ⟨other_373, h_other_373, hc_365⟩ := bind_some hc_365
        refine SB.seqB (fun kx_ => sb_asg (sl' := [sv script_347, sv text_351, sv many_352, sv names_353, sv cell_362, sv some_369, sv other_373, .any, .any, .any]) rfl (EV.cast (ev_call (ea_cons (ev_var (i := 1) rfl) (ea_cons (ev_op (ev_var (i := 5) rfl) (ev_int 0) (r2_ixL h_i_370)) (ea_cons (ev_op (ev_var (i := 5) rfl) (ev_int 1) (r2_ixL h_i_371)) ea_nil))) h_r_372) (Option.some.inj h_other_373)) (kx_ _ _ ?_))
        obtain ⟨told_here_374, h_told_here_374, hc_365⟩ := bind_some hc_365
        refine SB.seqB (fun kx_ => sb_asg (sl' := [sv script_347, sv text_351, sv many_352, sv names_353, sv cell_362, sv some_369, sv other_373, sv told_here_374, .any, .any]) rfl (EV.cast (EN.ev (en_cb (ea_cons (ev_var (i := 3) rfl) ea_nil) rc_list)) (Option.some.inj h_told_here_374)) (kx_ _ _ ?_))
        obtain ⟨i_376, h_i_376, hc_365⟩ := bind_some hc_365
        obtain ⟨told_here_379, hj_375, hc_365⟩ := bind_some hc_365
        refine SB.cutB (sl' := [sv script_347, sv text_351, sv many_352, sv names_353, sv cell_362, sv some_369, sv other_373, sv told_here_379, .any, .any]) (ow1 := []) (fun km_380 => sb_if (b := (decide ((i_376 % (8 : Int)) = (0 : Int)))) (et_test (ev_op (ev_op (ev_op (ev_var (i := 5) rfl) (ev_int 2) (r2_ixL h_i_376)) (ev_int 8) r2_mod) (ev_int 0) r2_eqI)) (fun hb_377 => ?_) (fun hb_377 => ?_)) ?_
        · have hj_375 := ite_t hb_377 hj_375
          obtain ⟨told_here_378, h_told_here_378, hj_375⟩ := bind_some hj_375
          refine sb_asg (sl' := [sv script_347, sv text_351, sv many_352, sv names_353, sv cell_362, sv some_369, sv other_373, sv told_here_378, .any, .any]) rfl (EV.cast (EN.ev (en_sl (EN.ev (en_lst (el_cons (ev_str ("ann" : Str)) (el_cons (ev_str ("bo" : Str)) (el_cons (ev_str ("cyd" : Str)) (el_cons (ev_str ("dan" : Str)) (el_cons (ev_str ("eve" : Str)) (el_cons (ev_str ("fay" : Str)) el_nil)))))))) eo_none (eo_some (ev_cb (ea_cons (ev_int 6) (ea_cons (ev_op (ev_var (i := 2) rfl) (ev_int 1) r2_add) ea_nil)) rc_min)))) (Option.some.inj h_told_here_378)) ?_
          cases hj_375
          exact km_380 _ _ (.keep (.keep (.keep (.keep (.keep (.keep (.keep (.keep (.keep (.keep .nil)))))))))) (List.Sublist.refl _)
        · have hj_375 := ite_f hb_377 hj_375
          refine sb_nx ?_
          cases hj_375
          exact km_380 _ _ (.keep (.keep (.keep (.keep (.keep (.keep (.keep (.keep (.keep (.keep .nil)))))))))) (List.Sublist.refl _)
        obtain ⟨i_382, h_i_382, hc_365⟩ := bind_some hc_365
        obtain ⟨told_here_385, hj_381, hc_365⟩ := bind_some hc_365
        refine SB.cutB (sl' := [sv script_347, sv text_351, sv many_352, sv names_353, sv cell_362, sv some_369, sv other_373, sv told_here_385, .any, .any]) (ow1 := []) (fun km_386 => sb_if (b := (decide ((i_382 % (8 : Int)) = (1 : Int)))) (et_test (ev_op (ev_op (ev_op (ev_var (i := 5) rfl) (ev_int 2) (r2_ixL h_i_382)) (ev_int 8) r2_mod) (ev_int 1) r2_eqI)) (fun hb_383 => ?_) (fun hb_383 => ?_)) ?_
        · have hj_381 := ite_t hb_383 hj_381
          obtain ⟨told_here_384, h_told_here_384, hj_381⟩ := bind_some hj_381
          refine sb_asg (sl' := [sv script_347, sv text_351, sv many_352, sv names_353, sv cell_362, sv some_369, sv other_373, sv told_here_384, .any, .any]) rfl (EV.cast (EN.ev (en_sl (ev_var (i := 3) rfl) eo_none (eo_some (ev_un (ev_int 1) r1_neg)))) (Option.some.inj h_told_here_384)) ?_
          cases hj_381
          exact km_386 _ _ (.keep (.keep (.keep (.keep (.keep (.keep (.keep (.keep (.keep (.keep .nil)))))))))) (List.Sublist.refl _)
        · have hj_381 := ite_f hb_383 hj_381
          refine sb_nx ?_
          cases hj_381
          exact km_386 _ _ (.keep (.keep (.keep (.keep (.keep (.keep (.keep (.keep (.keep (.keep .nil)))))))))) (List.Sublist.refl _)
        obtain ⟨r_387, h_r_387, hc_365⟩ := bind_some hc_365
        obtain ⟨due_388, h_due_388, hc_365⟩ := bind_some hc_365
        refine SB.seqB (fun kx_ => sb_asg (sl' := [sv script_347, sv text_351, sv many_352, sv names_353, sv cell_362, sv some_369, sv other_373, sv told_here_385, sv due_388, .any]) rfl (EV.cast (ev_call (ea_cons (ev_var (i := 6) rfl) (ea_cons (ev_fz (ev_var (i := 7) rfl)) ea_nil)) h_r_387) (Option.some.inj h_due_388)) (kx_ _ _ ?_))
        obtain ⟨r_389, h_r_389, hc_365⟩ := bind_some hc_365
        obtain ⟨found_390, h_found_390, hc_365⟩ := bind_some hc_365
        refine SB.seqB (fun kx_ => sb_asg (sl' := [sv script_347, sv text_351, sv many_352, sv names_353, sv cell_362, sv some_369, sv other_373, sv told_here_385, sv due_388, sv found_390]) rfl (EV.cast (ev_call (ea_cons (ev_var (i := 6) rfl) (ea_cons (ev_fz (ev_var (i := 7) rfl)) ea_nil)) h_r_389) (Option.some.inj h_found_390)) (kx_ _ _ ?_))
        obtain ⟨b_393, h_b_393, hc_365⟩ := bind_some hc_365
        obtain ⟨b_397, h_b_397, hc_365⟩ := bind_some hc_365
        refine sb_if (b := b_397) (et_orO h_b_397 (et_andO h_b_393 (et_test (ev_op (ev_var (i := 8) rfl) ev_nn r2_isN)) (fun _ _ h => by obtain ⟨su_392, h_su_392, h⟩ := bind_some h; have hz_ := Option.some.inj h; subst hz_; exact (et_test (ev_op (ev_outr (ev_var (i := 9) rfl) h_su_392) (ev_bool true) r2_notB)))) (fun _ _ h => by obtain ⟨b_396, h_b_396, h⟩ := bind_some h; have hz_ := Option.some.inj h; subst hz_; exact (et_andO h_b_396 (et_test (ev_op (ev_var (i := 8) rfl) ev_nn r2_notN)) (fun _ _ h => by obtain ⟨s_394, h_s_394, h⟩ := bind_some h; obtain ⟨su_395, h_su_395, h⟩ := bind_some h; have hz_ := Option.some.inj h; subst hz_; exact (et_test (ev_op (ev_outl (ev_var (i := 9) rfl) h_su_395) (ev_unopt (ev_var (i := 8) rfl) h_s_394) r2_neQ)))))) (fun hb_398 => ?_) (fun hb_398 => ?_)
        · have hc_365 := ite_t hb_398 hc_365
          cases hc_365
          replace hP_364 : some (Ctl.rt false) = some tot_367 := hP_364
          cases hP_364
          replace hf : some false = some r_ := hf
          cases hf
          exact sb_ret (ev_bool false) q_366 (List.Sublist.refl _)
        · have hc_365 := ite_f hb_398 hc_365
          refine sb_nx ?_
          cases hc_365
          exact fun σ Kn H s => hN_363 _ hP_364 σ Kn H ((s.le (.keep (.keep (.keep (.keep (.drop (.drop (.drop (.drop (.drop (.drop .nil))))))))))).sub (List.Sublist.refl _))
      · intro s_ h0
        cases h0
        refine kx_400 _ _ ?_
        refine SB.is (sl' := [sv script_347, sv text_351, sv many_352, sv names_353, .any, .any, .any, .any, .any, .any]) (ow1 := []) rfl rfl ?_
        cases hf
        exact sb_ret (ev_bool true) q (List.Sublist.refl _)
end
theorem all_mk (main : ∀ ns : List Int, ns.length ≤ 63 → m_law (Fz.mk ns) = some true) {l : PySem.W.OpenLaw} {w : World} {K : Fg} {h : Heap} {mg : Str → Option Value} {fa f_rows_of_floor f_read_floor f__law_cell_at f__law_numbers f__law_board f__law_read f__law_spoiled f__law_told f_law : Addr} (X : K.In h) (G : h.Ns mainGlobals mg) (hfa : mg "law" = some (.ref fa))
     {od_rows_of_floor an_rows_of_floor : Option Addr} {sl_rows_of_floor : Array (Option Value)} {oc_rows_of_floor kV_rows_of_floor dc_rows_of_floor pm_rows_of_floor cd_rows_of_floor ct_rows_of_floor : Value} {od_read_floor an_read_floor : Option Addr} {sl_read_floor : Array (Option Value)} {oc_read_floor kV_read_floor dc_read_floor pm_read_floor cd_read_floor ct_read_floor : Value} {od__law_cell_at an__law_cell_at : Option Addr} {sl__law_cell_at : Array (Option Value)} {oc__law_cell_at kV__law_cell_at dc__law_cell_at pm__law_cell_at cd__law_cell_at ct__law_cell_at : Value} {od__law_numbers an__law_numbers : Option Addr} {sl__law_numbers : Array (Option Value)} {oc__law_numbers kV__law_numbers dc__law_numbers pm__law_numbers cd__law_numbers ct__law_numbers : Value} {od__law_board an__law_board : Option Addr} {sl__law_board : Array (Option Value)} {oc__law_board kV__law_board dc__law_board pm__law_board cd__law_board ct__law_board : Value} {od__law_read an__law_read : Option Addr} {sl__law_read : Array (Option Value)} {oc__law_read kV__law_read dc__law_read pm__law_read cd__law_read ct__law_read : Value} {od__law_spoiled an__law_spoiled : Option Addr} {sl__law_spoiled : Array (Option Value)} {oc__law_spoiled kV__law_spoiled dc__law_spoiled pm__law_spoiled cd__law_spoiled ct__law_spoiled : Value} {od__law_told an__law_told : Option Addr} {sl__law_told : Array (Option Value)} {oc__law_told kV__law_told dc__law_told pm__law_told cd__law_told ct__law_told : Value} {od_law an_law : Option Addr} {sl_law : Array (Option Value)} {oc_law kV_law dc_law pm_law cd_law ct_law : Value} {c_NoRead : Addr} {c_BoxError : Addr} {c_NoFloor : Addr} {c_NoTree : Addr} {tki_MOST : Tok} {tki_FREE : Tok} {tki_SIGNS : Tok}
    (a_rows_of_floor : PySem.W.nsIn K mainGlobals "rows_of_floor" = some (some (.ref f_rows_of_floor))) (l_rows_of_floor : K.lookup f_rows_of_floor = some ⟨oc_rows_of_floor, od_rows_of_floor, .func (PySem.W.fnOf "rows_of_floor" "rows_of_floor" (defArgs s_rows_of_floor) (defBody s_rows_of_floor) (defScope s_rows_of_floor) .none kV_rows_of_floor dc_rows_of_floor pm_rows_of_floor an_rows_of_floor cd_rows_of_floor ct_rows_of_floor), sl_rows_of_floor⟩) (c_rows_of_floor : PySem.W.codeIn K cd_rows_of_floor "rows_of_floor" = true) (k_rows_of_floor : PySem.W.keepIn K (.ref f_rows_of_floor) = true)
    (a_read_floor : PySem.W.nsIn K mainGlobals "read_floor" = some (some (.ref f_read_floor))) (l_read_floor : K.lookup f_read_floor = some ⟨oc_read_floor, od_read_floor, .func (PySem.W.fnOf "read_floor" "read_floor" (defArgs s_read_floor) (defBody s_read_floor) (defScope s_read_floor) .none kV_read_floor dc_read_floor pm_read_floor an_read_floor cd_read_floor ct_read_floor), sl_read_floor⟩) (c_read_floor : PySem.W.codeIn K cd_read_floor "read_floor" = true) (k_read_floor : PySem.W.keepIn K (.ref f_read_floor) = true)
    (a__law_cell_at : PySem.W.nsIn K mainGlobals "_law_cell_at" = some (some (.ref f__law_cell_at))) (l__law_cell_at : K.lookup f__law_cell_at = some ⟨oc__law_cell_at, od__law_cell_at, .func (PySem.W.fnOf "_law_cell_at" "_law_cell_at" (defArgs s__law_cell_at) (defBody s__law_cell_at) (defScope s__law_cell_at) .none kV__law_cell_at dc__law_cell_at pm__law_cell_at an__law_cell_at cd__law_cell_at ct__law_cell_at), sl__law_cell_at⟩) (c__law_cell_at : PySem.W.codeIn K cd__law_cell_at "_law_cell_at" = true) (k__law_cell_at : PySem.W.keepIn K (.ref f__law_cell_at) = true)
    (a__law_numbers : PySem.W.nsIn K mainGlobals "_law_numbers" = some (some (.ref f__law_numbers))) (l__law_numbers : K.lookup f__law_numbers = some ⟨oc__law_numbers, od__law_numbers, .func (PySem.W.fnOf "_law_numbers" "_law_numbers" (defArgs s__law_numbers) (defBody s__law_numbers) (defScope s__law_numbers) .none kV__law_numbers dc__law_numbers pm__law_numbers an__law_numbers cd__law_numbers ct__law_numbers), sl__law_numbers⟩) (c__law_numbers : PySem.W.codeIn K cd__law_numbers "_law_numbers" = true) (k__law_numbers : PySem.W.keepIn K (.ref f__law_numbers) = true)
    (a__law_board : PySem.W.nsIn K mainGlobals "_law_board" = some (some (.ref f__law_board))) (l__law_board : K.lookup f__law_board = some ⟨oc__law_board, od__law_board, .func (PySem.W.fnOf "_law_board" "_law_board" (defArgs s__law_board) (defBody s__law_board) (defScope s__law_board) .none kV__law_board dc__law_board pm__law_board an__law_board cd__law_board ct__law_board), sl__law_board⟩) (c__law_board : PySem.W.codeIn K cd__law_board "_law_board" = true) (k__law_board : PySem.W.keepIn K (.ref f__law_board) = true)
    (a__law_read : PySem.W.nsIn K mainGlobals "_law_read" = some (some (.ref f__law_read))) (l__law_read : K.lookup f__law_read = some ⟨oc__law_read, od__law_read, .func (PySem.W.fnOf "_law_read" "_law_read" (defArgs s__law_read) (defBody s__law_read) (defScope s__law_read) .none kV__law_read dc__law_read pm__law_read an__law_read cd__law_read ct__law_read), sl__law_read⟩) (c__law_read : PySem.W.codeIn K cd__law_read "_law_read" = true) (k__law_read : PySem.W.keepIn K (.ref f__law_read) = true)
    (a__law_spoiled : PySem.W.nsIn K mainGlobals "_law_spoiled" = some (some (.ref f__law_spoiled))) (l__law_spoiled : K.lookup f__law_spoiled = some ⟨oc__law_spoiled, od__law_spoiled, .func (PySem.W.fnOf "_law_spoiled" "_law_spoiled" (defArgs s__law_spoiled) (defBody s__law_spoiled) (defScope s__law_spoiled) .none kV__law_spoiled dc__law_spoiled pm__law_spoiled an__law_spoiled cd__law_spoiled ct__law_spoiled), sl__law_spoiled⟩) (c__law_spoiled : PySem.W.codeIn K cd__law_spoiled "_law_spoiled" = true) (k__law_spoiled : PySem.W.keepIn K (.ref f__law_spoiled) = true)
    (a__law_told : PySem.W.nsIn K mainGlobals "_law_told" = some (some (.ref f__law_told))) (l__law_told : K.lookup f__law_told = some ⟨oc__law_told, od__law_told, .func (PySem.W.fnOf "_law_told" "_law_told" (defArgs s__law_told) (defBody s__law_told) (defScope s__law_told) .none kV__law_told dc__law_told pm__law_told an__law_told cd__law_told ct__law_told), sl__law_told⟩) (c__law_told : PySem.W.codeIn K cd__law_told "_law_told" = true) (k__law_told : PySem.W.keepIn K (.ref f__law_told) = true)
    (a_law : PySem.W.nsIn K mainGlobals "law" = some (some (.ref f_law))) (l_law : K.lookup f_law = some ⟨oc_law, od_law, .func (PySem.W.fnOf "law" "law" (defArgs s_law) (defBody s_law) (defScope s_law) .none kV_law dc_law pm_law an_law cd_law ct_law), sl_law⟩) (c_law : PySem.W.codeIn K cd_law "law" = true) (k_law : PySem.W.keepIn K (.ref f_law) = true)
    (aC_NoRead : PySem.W.nsIn K mainGlobals "NoRead" = some (some (.ref c_NoRead)))
    (aC_BoxError : PySem.W.nsIn K mainGlobals "BoxError" = some (some (.ref c_BoxError)))
    (aC_NoFloor : PySem.W.nsIn K mainGlobals "NoFloor" = some (some (.ref c_NoFloor)))
    (aC_NoTree : PySem.W.nsIn K mainGlobals "NoTree" = some (some (.ref c_NoTree)))
    (xP_NoRead : PySem.W.excIn K c_NoRead [.type "ValueError", .type "Exception", .type "BaseException", .type "object"] "ValueError.__new__" = true)
    (kc_NoRead : PySem.W.keepIn K (.ref c_NoRead) = true)
    (su_NoRead_BaseException : PySem.W.subIn K (.ref c_NoRead) (.type "BaseException") = some true)
    (ty_NoRead : PySem.W.typeIn K (.ref c_NoRead) = some (.type "type"))
    (fi_NoRead_getattribute : PySem.W.findIn K (.ref c_NoRead) "__getattribute__" = some (some (.builtin "BaseException.__getattribute__")))
    (fi_NoRead_getattr : PySem.W.findIn K (.ref c_NoRead) "__getattr__" = some none)
    (is_NoRead : PySem.W.isClsIn K c_NoRead = true)
    (fi_NoRead_class : PySem.W.findIn K (.ref c_NoRead) "__class__" = some (some (.builtin "object.__class__")))
    (spc : PySem.W.specialIn K (.builtin "object.__class__") "__get__" = some (some (.builtin "getset_descriptor.__get__")))
    (tkc : PySem.W.takesIn K (.builtin "object.__class__") = some true)
    (mro_NoRead : PySem.W.mroIn K c_NoRead (.type "object") = some true)
    (su_NoRead_BoxError : PySem.W.subIn K (.ref c_NoRead) (.ref c_BoxError) = some true)
    (su_NoRead_NoRead : PySem.W.subIn K (.ref c_NoRead) (.ref c_NoRead) = some true)
    (is_BoxError : PySem.W.isClsIn K c_BoxError = true)
    (ty_BoxError : PySem.W.typeIn K (.ref c_BoxError) = some (.type "type"))
    (su_NoRead_NoFloor : PySem.W.subIn K (.ref c_NoRead) (.ref c_NoFloor) = some false)
    (is_NoFloor : PySem.W.isClsIn K c_NoFloor = true)
    (ty_NoFloor : PySem.W.typeIn K (.ref c_NoFloor) = some (.type "type"))
    (su_NoRead_NoTree : PySem.W.subIn K (.ref c_NoRead) (.ref c_NoTree) = some false)
    (is_NoTree : PySem.W.isClsIn K c_NoTree = true)
    (ty_NoTree : PySem.W.typeIn K (.ref c_NoTree) = some (.type "type"))
    (z_enumerate : PySem.W.nsIn K mainGlobals "enumerate" = some none)
    (z_isinstance : PySem.W.nsIn K mainGlobals "isinstance" = some none)
    (z_len : PySem.W.nsIn K mainGlobals "len" = some none)
    (z_list : PySem.W.nsIn K mainGlobals "list" = some none)
    (z_max : PySem.W.nsIn K mainGlobals "max" = some none)
    (z_min : PySem.W.nsIn K mainGlobals "min" = some none)
    (z_range : PySem.W.nsIn K mainGlobals "range" = some none)
    (z_str : PySem.W.nsIn K mainGlobals "str" = some none)
    (ki_MOST : PySem.W.nsIn K mainGlobals "MOST" = some (some (.int 200 tki_MOST)))
    (ki_FREE : PySem.W.nsIn K mainGlobals "FREE" = some (some (.str "." tki_FREE)))
    (ki_SIGNS : PySem.W.nsIn K mainGlobals "SIGNS" = some (some (.str "abcdefghijklmnopqrstuvwxyzABCDEFGHIJKLMNOPQRSTUVWXYZ01234567" tki_SIGNS))) :
    ∃ fd : FuncData, (∀ (s : Shared) (v : Value), BindsTo s fd ⟨[v], []⟩ [("_law_script", v)]) ∧ ∀ base : Heap, K.In base → base.Ns mainGlobals mg → FnOk l.prog w K mg base CX0 4 fa fd ["_law_script"] (spLaw K) := by
  have e := hfa.symm.trans (PySem.W.mg_of X G a_law)
  cases e
  have F_rows_of_floor := fun_mk (st := s_rows_of_floor) l_rows_of_floor c_rows_of_floor k_rows_of_floor
  have F_read_floor := fun_mk (st := s_read_floor) l_read_floor c_read_floor k_read_floor
  have F__law_cell_at := fun_mk (st := s__law_cell_at) l__law_cell_at c__law_cell_at k__law_cell_at
  have F__law_numbers := fun_mk (st := s__law_numbers) l__law_numbers c__law_numbers k__law_numbers
  have F__law_board := fun_mk (st := s__law_board) l__law_board c__law_board k__law_board
  have F__law_read := fun_mk (st := s__law_read) l__law_read c__law_read k__law_read
  have F__law_spoiled := fun_mk (st := s__law_spoiled) l__law_spoiled c__law_spoiled k__law_spoiled
  have F__law_told := fun_mk (st := s__law_told) l__law_told c__law_told k__law_told
  have F_law := fun_mk (st := s_law) l_law c_law k_law
  have b_rows_of_floor := F_rows_of_floor.binds (ps := ["text"]) fun _ _ _ _ _ _ us hl => match us, hl with | [_], _ => rfl
  have b_read_floor := F_read_floor.binds (ps := ["text", "names"]) fun _ _ _ _ _ _ us hl => match us, hl with | [_, _], _ => rfl
  have b__law_cell_at := F__law_cell_at.binds (ps := ["_law_script", "_law_k"]) fun _ _ _ _ _ _ us hl => match us, hl with | [_, _], _ => rfl
  have b__law_numbers := F__law_numbers.binds (ps := ["_law_cell", "_law_many"]) fun _ _ _ _ _ _ us hl => match us, hl with | [_, _], _ => rfl
  have b__law_board := F__law_board.binds (ps := ["_law_cell", "_law_other"]) fun _ _ _ _ _ _ us hl => match us, hl with | [_, _], _ => rfl
  have b__law_read := F__law_read.binds (ps := ["_law_text", "_law_names"]) fun _ _ _ _ _ _ us hl => match us, hl with | [_, _], _ => rfl
  have b__law_spoiled := F__law_spoiled.binds (ps := ["_law_text", "_law_number", "_law_other"]) fun _ _ _ _ _ _ us hl => match us, hl with | [_, _, _], _ => rfl
  have b__law_told := F__law_told.binds (ps := ["_law_text", "_law_names"]) fun _ _ _ _ _ _ us hl => match us, hl with | [_, _], _ => rfl
  have b_law := F_law.binds (ps := ["_law_script"]) fun _ _ _ _ _ _ us hl => match us, hl with | [_], _ => rfl
  let T : TX K mg w := ⟨_, _, F_rows_of_floor, b_rows_of_floor, PySem.W.mg_of X G a_rows_of_floor, _, _, F_read_floor, b_read_floor, PySem.W.mg_of X G a_read_floor, _, _, F__law_cell_at, b__law_cell_at, PySem.W.mg_of X G a__law_cell_at, _, _, F__law_numbers, b__law_numbers, PySem.W.mg_of X G a__law_numbers, _, _, F__law_board, b__law_board, PySem.W.mg_of X G a__law_board, _, _, F__law_read, b__law_read, PySem.W.mg_of X G a__law_read, _, _, F__law_spoiled, b__law_spoiled, PySem.W.mg_of X G a__law_spoiled, _, _, F__law_told, b__law_told, PySem.W.mg_of X G a__law_told, _, _, F_law, b_law, PySem.W.mg_of X G a_law, PySem.W.mg_none_of X G z_enumerate, PySem.W.mg_none_of X G z_isinstance, PySem.W.mg_none_of X G z_len, PySem.W.mg_none_of X G z_list, PySem.W.mg_none_of X G z_max, PySem.W.mg_none_of X G z_min, PySem.W.mg_none_of X G z_range, PySem.W.mg_none_of X G z_str, _, PySem.W.mg_of X G aC_NoRead, _, PySem.W.mg_of X G aC_BoxError, _, PySem.W.mg_of X G aC_NoFloor, _, PySem.W.mg_of X G aC_NoTree, xP_NoRead, kc_NoRead, su_NoRead_BaseException, ty_NoRead, ⟨fi_NoRead_getattribute, fi_NoRead_getattr, su_NoRead_BaseException, is_NoRead, fi_NoRead_class, spc, tkc, mro_NoRead⟩, (kit_twoC su_NoRead_BoxError su_NoRead_NoRead is_BoxError ty_BoxError), (kit_twoC su_NoRead_NoFloor su_NoRead_NoRead is_NoFloor ty_NoFloor), (kit_twoC su_NoRead_NoTree su_NoRead_NoRead is_NoTree ty_NoTree), (exm_two su_NoRead_BaseException is_NoRead ty_NoRead su_NoRead_NoRead), _, PySem.W.mg_of X G ki_MOST, _, PySem.W.mg_of X G ki_FREE, _, PySem.W.mg_of X G ki_SIGNS⟩
  refine ⟨PySem.W.fnOf "law" "law" (defArgs s_law) (defBody s_law) (defScope s_law) .none kV_law dc_law pm_law an_law cd_law ct_law, fun s v => .of_eq rfl, fun base _ _ => ?_⟩
  exact fn_weak (ok_law T) main
end Wk91
/-! Wp: plain facts about the mirrors' words -/
namespace Wk
open PySem L2

theorem bs {α β : Type} (a : α) (f : α → Option β) : (some a).bind f = f a := by rw [Option.bind_some]
theorem bind_ok {α β : Type} {m : Option α} {f : α → Option β} {a : α} (h : m = some a) : m.bind f = f a := by rw [h]; rfl
theorem atI_ok {α : Type} {xs : List α} {i : Int} (h0 : 0 ≤ i) (h : i < xs.length) : atI xs i = xs[i.toNat]? := by
  obtain ⟨k, rfl⟩ := Int.eq_ofNat_of_zero_le h0
  have hk : k < xs.length := by omega
  have e : xs[k]? = some xs[k] := List.getElem?_eq_getElem hk
  rw [show ((k : Int)).toNat = k from rfl, e]
  exact atI_nat e
theorem atI_some {α : Type} {xs : List α} {i : Int} (h0 : 0 ≤ i) (h : i < xs.length) : ∃ x, atI xs i = some x ∧ xs[i.toNat]? = some x := by
  have hk : i.toNat < xs.length := by omega
  exact ⟨xs[i.toNat], by rw [atI_ok h0 h]; exact List.getElem?_eq_getElem hk, List.getElem?_eq_getElem hk⟩
theorem pick2 {α : Type} (x y : α) {k : Int} (h0 : 0 ≤ k) (h : k < 2) : atI [x, y] k = some (if k = 0 then x else y) := by
  rcases (show k = 0 ∨ k = 1 by omega) with rfl | rfl <;> rfl
theorem pick3 {α : Type} (x y z : α) {k : Int} (h0 : 0 ≤ k) (h : k < 3) : atI [x, y, z] k = some (if k = 0 then x else if k = 1 then y else z) := by
  rcases (show k = 0 ∨ k = 1 ∨ k = 2 by omega) with rfl | rfl | rfl <;> rfl
theorem pick4 {α : Type} (x y z u : α) {k : Int} (h0 : 0 ≤ k) (h : k < 4) : atI [x, y, z, u] k = some (if k = 0 then x else if k = 1 then y else if k = 2 then z else u) := by
  rcases (show k = 0 ∨ k = 1 ∨ k = 2 ∨ k = 3 by omega) with rfl | rfl | rfl | rfl <;> rfl
theorem forC_all {β R : Type} {f : β → Unit → Option (Ctl Unit R)} : ∀ {xs : List β}, (∀ x ∈ xs, f x () = some (.nx ())) → forC f xs () = some (.nx ())
  | [], _ => rfl
  | x :: xs, h => by
    unfold forC
    rw [h x List.mem_cons_self]
    exact forC_all fun y hy => h y (List.mem_cons_of_mem _ hy)
/-- a loop that always goes on, by an invariant -/
theorem forC_inv {β Sx R : Type} {f : β → Sx → Option (Ctl Sx R)} (I : List β → Sx → Prop) : ∀ {xs : List β} {s : Sx}, I xs s → (∀ x rest s, I (x :: rest) s → ∃ s', f x s = some (.nx s') ∧ I rest s') → ∃ s', forC f xs s = some (.nx s') ∧ I [] s'
  | [], s, h, _ => ⟨s, rfl, h⟩
  | x :: xs, s, h, hs => by
    obtain ⟨s', e, h'⟩ := hs x xs s h
    obtain ⟨s2, e2, h2⟩ := forC_inv I h' hs
    refine ⟨s2, ?_, h2⟩
    unfold forC
    rw [e]
    exact e2
theorem forS_inv {β Sx : Type} {f : β → Sx → Option Sx} (I : List β → Sx → Prop) : ∀ {xs : List β} {s : Sx}, I xs s → (∀ x rest s, I (x :: rest) s → ∃ s', f x s = some s' ∧ I rest s') → ∃ s', forS f xs s = some s' ∧ I [] s'
  | [], s, h, _ => ⟨s, rfl, h⟩
  | x :: xs, s, h, hs => by
    obtain ⟨s', e, h'⟩ := hs x xs s h
    obtain ⟨s2, e2, h2⟩ := forS_inv I h' hs
    refine ⟨s2, ?_, h2⟩
    unfold forS
    rw [e]
    exact e2
/-- a loop as a fold -/
theorem forS_fold {β Sx : Type} {f : β → Sx → Option Sx} (g : Sx → β → Sx) (I : List β → Sx → Prop) : ∀ {xs : List β} {s : Sx}, I xs s → (∀ x rest s, I (x :: rest) s → f x s = some (g s x) ∧ I rest (g s x)) → forS f xs s = some (xs.foldl g s)
  | [], s, h, _ => rfl
  | x :: xs, s, h, hs => by
    obtain ⟨e, h'⟩ := hs x xs s h
    unfold forS
    rw [e]
    exact forS_fold g I h' hs
theorem forS_cons {β Sx : Type} {f : β → Sx → Option Sx} {x : β} {xs : List β} {s s' : Sx} (h : f x s = some s') : forS f (x :: xs) s = forS f xs s' := by
  show ((f x s).bind _) = _
  rw [h]
  rfl
theorem forC_cons {β Sx R : Type} {f : β → Sx → Option (Ctl Sx R)} {x : β} {xs : List β} {s s' : Sx} (h : f x s = some (.nx s')) : forC f (x :: xs) s = forC f xs s' := by
  show ((f x s).bind _) = _
  rw [h]
  rfl
/-- by places -/
theorem forS_ix {β Sx : Type} {f : β → Sx → Option Sx} {xs : List β} (P : Nat → Sx → Prop) {s : Sx} (h0 : P 0 s) (step : ∀ (i : Nat) (hi : i < xs.length) s, P i s → ∃ s', f xs[i] s = some s' ∧ P (i + 1) s') : ∃ s', forS f xs s = some s' ∧ P xs.length s' := by
  have key : ∀ (m i : Nat) (s : Sx), i + m = xs.length → P i s → ∃ s', forS f (xs.drop i) s = some s' ∧ P xs.length s' := by
    intro m
    induction m with
    | zero =>
      intro i s hi hp
      have e : i = xs.length := by omega
      subst e
      rw [List.drop_length]
      exact ⟨s, rfl, hp⟩
    | succ m ih =>
      intro i s hi hp
      have hl : i < xs.length := by omega
      obtain ⟨s', e, hp'⟩ := step i hl s hp
      obtain ⟨r, e2, h2⟩ := ih (i + 1) s' (by omega) hp'
      refine ⟨r, ?_, h2⟩
      rw [List.drop_eq_getElem_cons hl, forS_cons e]
      exact e2
  have := key xs.length 0 s (by omega) h0
  rwa [List.drop_zero] at this
theorem forC_ix {β Sx R : Type} {f : β → Sx → Option (Ctl Sx R)} {xs : List β} (P : Nat → Sx → Prop) {s : Sx} (h0 : P 0 s) (step : ∀ (i : Nat) (hi : i < xs.length) s, P i s → ∃ s', f xs[i] s = some (.nx s') ∧ P (i + 1) s') : ∃ s', forC f xs s = some (.nx s') ∧ P xs.length s' := by
  have key : ∀ (m i : Nat) (s : Sx), i + m = xs.length → P i s → ∃ s', forC f (xs.drop i) s = some (.nx s') ∧ P xs.length s' := by
    intro m
    induction m with
    | zero =>
      intro i s hi hp
      have e : i = xs.length := by omega
      subst e
      rw [List.drop_length]
      exact ⟨s, rfl, hp⟩
    | succ m ih =>
      intro i s hi hp
      have hl : i < xs.length := by omega
      obtain ⟨s', e, hp'⟩ := step i hl s hp
      obtain ⟨r, e2, h2⟩ := ih (i + 1) s' (by omega) hp'
      refine ⟨r, ?_, h2⟩
      rw [List.drop_eq_getElem_cons hl, forC_cons e]
      exact e2
  have := key xs.length 0 s (by omega) h0
  rwa [List.drop_zero] at this
/-- two loops over one list, turn by turn -/
theorem forS2_ix {β S1 S2 : Type} {f1 : β → S1 → Option S1} {f2 : β → S2 → Option S2} {xs : List β} (P : Nat → S1 → S2 → Prop) {s1 : S1} {s2 : S2} (h0 : P 0 s1 s2)
    (step : ∀ (i : Nat) (hi : i < xs.length) s1 s2, P i s1 s2 → ∃ s1' s2', f1 xs[i] s1 = some s1' ∧ f2 xs[i] s2 = some s2' ∧ P (i + 1) s1' s2') : ∃ r1 r2, forS f1 xs s1 = some r1 ∧ forS f2 xs s2 = some r2 ∧ P xs.length r1 r2 := by
  have key : ∀ (m i : Nat) (s1 : S1) (s2 : S2), i + m = xs.length → P i s1 s2 → ∃ r1 r2, forS f1 (xs.drop i) s1 = some r1 ∧ forS f2 (xs.drop i) s2 = some r2 ∧ P xs.length r1 r2 := by
    intro m
    induction m with
    | zero =>
      intro i s1 s2 hi hp
      have e : i = xs.length := by omega
      subst e
      rw [List.drop_length]
      exact ⟨s1, s2, rfl, rfl, hp⟩
    | succ m ih =>
      intro i s1 s2 hi hp
      have hl : i < xs.length := by omega
      obtain ⟨a, b, e1, e2, hp'⟩ := step i hl s1 s2 hp
      obtain ⟨r1, r2, h1, h2, h3⟩ := ih (i + 1) a b (by omega) hp'
      refine ⟨r1, r2, ?_, ?_, h3⟩
      · rw [List.drop_eq_getElem_cons hl, forS_cons e1]
        exact h1
      · rw [List.drop_eq_getElem_cons hl, forS_cons e2]
        exact h2
  have := key xs.length 0 s1 s2 (by omega) h0
  rwa [List.drop_zero] at this
theorem enumI_at {α : Type} (xs : List α) (i : Nat) (hi : i < (enumI xs).length) : (enumI xs)[i] = ((i : Int), xs[i]'(by simpa [enumI] using hi), ()) := by simp [enumI]
theorem whileS_inv {Sx : Type} {c : Sx → Option Bool} {f : Sx → Option Sx} (I : Sx → Prop) (μ : Sx → Nat) (step : ∀ s, I s → ∃ b, c s = some b ∧ (b = true → ∃ s', f s = some s' ∧ I s' ∧ μ s' < μ s)) :
    ∀ (n : Nat) {s : Sx}, I s → μ s < n → ∃ s', whileS c f n s = some s' ∧ I s' ∧ c s' = some false
  | 0, _, _, h => absurd h (Nat.not_lt_zero _)
  | n + 1, s, hI, hn => by
    obtain ⟨b, hb, hs⟩ := step s hI
    unfold whileS
    rw [hb]
    cases b with
    | false => exact ⟨s, rfl, hI, hb⟩
    | true =>
      obtain ⟨s', e, hI', hm⟩ := hs rfl
      obtain ⟨s2, e2, h2⟩ := whileS_inv I μ step n hI' (by omega)
      refine ⟨s2, ?_, h2⟩
      show ((f s).bind _) = _
      rw [e]
      exact e2
theorem whileF_inv {Sx : Type} {c : Sx → Option Bool} {f : Sx → Option Sx} (I : Sx → Prop) (μ : Sx → Nat) (step : ∀ s, I s → ∃ b, c s = some b ∧ (b = true → ∃ s', f s = some s' ∧ I s' ∧ μ s' < μ s)) {s : Sx} (h : I s) :
    ∃ s', whileF c f s = some s' ∧ I s' ∧ c s' = some false := by
  obtain ⟨s', e, h1, h2⟩ := whileS_inv I μ step (μ s + 1) h (Nat.lt_succ_self _)
  exact ⟨s', whileF_of e, h1, h2⟩
theorem cut_len {α : Type} (xs : List α) (lo hi : Option Int) : (cut xs lo hi).length ≤ xs.length := by
  unfold cut
  rw [List.length_take, List.length_drop]
  omega
theorem cut_mem {α : Type} {xs : List α} {lo hi : Option Int} {x : α} (h : x ∈ cut xs lo hi) : x ∈ xs := List.mem_of_mem_drop (List.mem_of_mem_take h)
theorem cut_from {α : Type} (xs : List α) (k : Nat) : cut xs (some (k : Int)) none = xs.drop k := by
  unfold cut
  rw [HT.sIx_nat, HT.sIx_none]
  by_cases h : k ≤ xs.length
  · rw [Nat.min_eq_left h, List.take_of_length_le (by rw [List.length_drop]; omega)]
  · rw [Nat.min_eq_right (by omega), List.drop_eq_nil_of_le (Nat.le_refl _), List.drop_eq_nil_of_le (show xs.length ≤ k by omega)]
    exact List.take_nil
theorem cut_to {α : Type} (xs : List α) (k : Nat) : cut xs none (some (k : Int)) = xs.take k := by
  unfold cut
  rw [HT.sIx_nat, HT.sIx_none, List.drop_zero, Nat.sub_zero]
  by_cases h : k ≤ xs.length
  · rw [Nat.min_eq_left h]
  · rw [Nat.min_eq_right (by omega), List.take_of_length_le (Nat.le_refl _), List.take_of_length_le (by omega)]
theorem rngO_ok {lo hi : Int} (h1 : -1000000000000 ≤ lo) (h2 : lo ≤ 1000000000000) (h3 : -1000000000000 ≤ hi) (h4 : hi ≤ 1000000000000) : rngO lo hi = some (irange lo hi) := if_pos ⟨h1, h2, h3, h4⟩
theorem irange_len (lo hi : Int) : (irange lo hi).length = (hi - lo).toNat := by simp [irange]
theorem enumI_len {α : Type} (xs : List α) : (enumI xs).length = xs.length := by simp [enumI]
theorem lcM_len {β γ : Type} {c : β → Option Bool} {f : β → Option γ} {xs : List β} (h : xs.length < 1000000) : lcM c f xs = lcGo c f xs := if_pos h
theorem lcGo_all {β γ : Type} {f : β → Option γ} (g : β → γ) : ∀ {xs : List β}, (∀ x ∈ xs, f x = some (g x)) → lcGo (fun _ => some true) f xs = some (xs.map g)
  | [], _ => rfl
  | x :: xs, h => by
    unfold lcGo
    show ((f x).bind _) = _
    rw [h x List.mem_cons_self, lcGo_all g fun y hy => h y (List.mem_cons_of_mem _ hy)]
    rfl
theorem lcGo_if {β γ : Type} {c : β → Option Bool} {f : β → Option γ} (p : β → Bool) (g : β → γ) : ∀ {xs : List β}, (∀ x ∈ xs, c x = some (p x)) → (∀ x ∈ xs, p x = true → f x = some (g x)) → lcGo c f xs = some ((xs.filter p).map g)
  | [], _, _ => rfl
  | x :: xs, hc, h => by
    unfold lcGo
    rw [hc x List.mem_cons_self]
    have ih := lcGo_if p g (xs := xs) (fun y hy => hc y (List.mem_cons_of_mem _ hy)) (fun y hy => h y (List.mem_cons_of_mem _ hy))
    cases e : p x with
    | true =>
      show ((f x).bind _) = _
      rw [h x List.mem_cons_self e, ih, List.filter_cons_of_pos e]
      rfl
    | false =>
      show lcGo c f xs = _
      rw [ih, List.filter_cons_of_neg (by rw [e]; exact Bool.false_ne_true)]
theorem lcM_all {β γ : Type} {f : β → Option γ} (g : β → γ) {xs : List β} (hl : xs.length < 1000000) (h : ∀ x ∈ xs, f x = some (g x)) : lcM (fun _ => some true) f xs = some (xs.map g) := by
  rw [lcM_len hl, lcGo_all g h]
/-- draws, one an item -/
theorem lcSGo_inv {β γ Sx : Type} {f : β → Sx → Option (γ × Sx)} (I : Sx → Prop) (P : γ → Prop) (step : ∀ x s, I s → ∃ z s', f x s = some (z, s') ∧ I s' ∧ P z) :
    ∀ {xs : List β} {s : Sx}, I s → ∃ zs s', lcSGo f xs s = some (zs, s') ∧ I s' ∧ zs.length = xs.length ∧ ∀ z ∈ zs, P z
  | [], s, h => ⟨[], s, rfl, h, rfl, fun _ hz => nomatch hz⟩
  | x :: xs, s, h => by
    obtain ⟨z, s', e, h', hp⟩ := step x s h
    obtain ⟨zs, s2, e2, h2, hl, hz⟩ := lcSGo_inv I P step (xs := xs) h'
    refine ⟨z :: zs, s2, ?_, h2, by rw [List.length_cons, List.length_cons, hl], fun y hy => ?_⟩
    · unfold lcSGo
      rw [e]
      show ((lcSGo f xs s').bind _) = _
      rw [e2]
      rfl
    · rcases List.mem_cons.mp hy with rfl | hy
      · exact hp
      · exact hz y hy
theorem lcS_inv {β γ Sx : Type} {f : β → Sx → Option (γ × Sx)} (I : Sx → Prop) (P : γ → Prop) (step : ∀ x s, I s → ∃ z s', f x s = some (z, s') ∧ I s' ∧ P z) {xs : List β} {s : Sx} (hl : xs.length < 1000000) (h : I s) :
    ∃ zs s', lcS f xs s = some (zs, s') ∧ I s' ∧ zs.length = xs.length ∧ ∀ z ∈ zs, P z := by
  unfold lcS
  rw [if_pos hl]
  exact lcSGo_inv I P step h
theorem forS_app {β γ : Type} {f : β → List γ → Option (List γ)} (g : β → γ) : ∀ {xs : List β} {s : List γ}, s.length + xs.length ≤ 1000000 → (∀ x ∈ xs, ∀ s : List γ, s.length < 1000000 → f x s = some (s ++ [g x])) → forS f xs s = some (s ++ xs.map g)
  | [], s, _, _ => by rw [List.map_nil, List.append_nil]; rfl
  | x :: xs, s, hl, h => by
    rw [List.length_cons] at hl
    rw [forS_cons (h x List.mem_cons_self s (by omega)), forS_app g (by rw [List.length_append, List.length_singleton]; omega) fun y hy => h y (List.mem_cons_of_mem _ hy), List.map_cons, List.append_assoc]
    rfl
theorem enumI_mem {α : Type} [Rp α] {xs : List α} {y : Int × α × Unit} (h : y ∈ enumI xs) : ∃ (i : Nat) (x : α), xs[i]? = some x ∧ y = ((i : Int), x, ()) := by
  obtain ⟨i, hi⟩ := List.getElem?_of_mem h
  obtain ⟨x, hx, e⟩ := enum_get hi
  exact ⟨i, x, hx, e⟩
theorem zipI_mem {α β : Type} [Rp α] [Rp β] {xs : List α} {ys : List β} {z : α × β × Unit} (h : z ∈ zipI xs ys) : ∃ (i : Nat) (x : α) (y : β), xs[i]? = some x ∧ ys[i]? = some y ∧ z = (x, y, ()) := by
  obtain ⟨i, hi⟩ := List.getElem?_of_mem h
  obtain ⟨x, y, hx, hy, e⟩ := zip_get hi
  exact ⟨i, x, y, hx, hy, e⟩
/-! texts -/
theorem len_app (x y : Str) : (x ++ y).length = x.length + y.length := by
  show (x.cps ++ y.cps).size = _
  rw [Array.size_append]
  rfl
theorem ok_app {x y : Str} (hx : PyData.strOk x = true) (hy : PyData.strOk y = true) : PyData.strOk (x ++ y) = true := by
  show (x.cps ++ y.cps).all _ = true
  rw [Array.all_append]
  exact Bool.and_eq_true_iff.mpr ⟨hx, hy⟩
theorem ok_join {s : Str} (hs : PyData.strOk s = true) : ∀ {ys : List Str}, (∀ y ∈ ys, PyData.strOk y = true) → PyData.strOk (Str.join s ys) = true
  | [], _ => by
    unfold Str.join
    decide +kernel
  | [x], h => h x List.mem_cons_self
  | x :: y :: r, h => ok_app (ok_app (h x List.mem_cons_self) hs) (ok_join hs fun z hz => h z (List.mem_cons_of_mem _ hz))
theorem joinO_ok {s : Str} {ys : List Str} (h : (ys.map (·.length)).sum + ys.length * s.length ≤ 1000000) : joinO s ys = some (Str.join s ys) := by
  unfold joinO
  rw [if_pos h, TL.join_eq]
/-- a sign of a written text -/
theorem ixS_ok {s : Str} {i : Int} (hl : s.length ≤ 100000) (h0 : 0 ≤ i) (h : i < (s.length : Int)) (hs : PyData.strOk s = true) : ∃ c, ixS s i = some ⟨#[c]⟩ ∧ PyData.strOk ⟨#[c]⟩ = true ∧ (⟨#[c]⟩ : Str).length = 1 := by
  have hl2 : s.cps.toList.length = s.length := Array.length_toList
  obtain ⟨c, e, e2⟩ := atI_some (xs := s.cps.toList) h0 (by rw [hl2]; exact h)
  refine ⟨c, ?_, ?_, rfl⟩
  · unfold ixS
    rw [if_pos hl, e]
    rfl
  · have hm : c ∈ s.cps := Array.mem_toList_iff.mp (List.mem_of_getElem? e2)
    have := Array.all_eq_true'.mp hs c hm
    show (#[c] : Array Nat).all _ = true
    simpa using this
/-! dicts, and more -/
theorem cut_init {α : Type} (xs : List α) : cut xs none (some (-(1 : Int))) = xs.dropLast := by
  unfold cut
  rw [HT.sIx_none, List.drop_zero, Nat.sub_zero, List.dropLast_eq_take]
  have e : HT.sIx xs.length xs.length (some (-(1 : Int))) = (-(1 : Int) + (xs.length : Int)).toNat := rfl
  rw [e]
  congr 1
  omega
theorem mem_irange {x a b : Int} : x ∈ irange a b ↔ a ≤ x ∧ x < b := by
  unfold irange
  rw [List.mem_map]
  constructor
  · rintro ⟨k, hk, rfl⟩
    rw [List.mem_range] at hk
    omega
  · intro h
    exact ⟨(x - a).toNat, List.mem_range.mpr (by omega), by omega⟩
section
variable {κ β : Type} [DecidableEq κ]
theorem getD_pos {p : κ × β} {r : List (κ × β)} {k : κ} (e : p.1 = k) : getD (p :: r) k = some p.2 := by simp [getD, List.find?_cons, e]
theorem getD_neg {p : κ × β} {r : List (κ × β)} {k : κ} (e : ¬ p.1 = k) : getD (p :: r) k = getD r k := by simp [getD, List.find?_cons, e]
theorem getD_map (k j : κ) (y : β) : ∀ kvs : List (κ × β), getD (kvs.map fun kv => if kv.1 = k then (kv.1, y) else kv) j = (getD kvs j).map fun x => if j = k then y else x
  | [] => rfl
  | p :: r => by
    rw [List.map_cons]
    have ih := getD_map k j y r
    by_cases a : p.1 = k
    · rw [if_pos a]
      by_cases b : p.1 = j
      · rw [getD_pos (p := (p.1, y)) b, getD_pos b, Option.map_some, if_pos (b.symm.trans a)]
      · rw [getD_neg (p := (p.1, y)) b, getD_neg b, ih]
    · rw [if_neg a]
      by_cases b : p.1 = j
      · rw [getD_pos b, getD_pos b, Option.map_some, if_neg (fun z => a (b.trans z))]
      · rw [getD_neg b, getD_neg b, ih]
theorem getD_snoc (k j : κ) (y : β) : ∀ kvs : List (κ × β), getD kvs k = none → getD (kvs ++ [(k, y)]) j = if j = k then some y else getD kvs j
  | [], _ => by
    by_cases e : k = j
    · rw [List.nil_append, getD_pos (p := (k, y)) e, if_pos e.symm]
    · rw [List.nil_append, getD_neg (p := (k, y)) e, if_neg (Ne.symm e)]
  | p :: r, h => by
    have hk : ¬ p.1 = k := fun e => by rw [getD_pos e] at h; cases h
    rw [getD_neg hk] at h
    have ih := getD_snoc k j y r h
    rw [List.cons_append]
    by_cases e : p.1 = j
    · rw [getD_pos e, getD_pos e, if_neg (fun z => hk (e.trans z))]
    · rw [getD_neg e, getD_neg e, ih]
theorem getD_put (kvs : List (κ × β)) (k j : κ) (y : β) : getD (putD kvs k y) j = if j = k then some y else getD kvs j := by
  unfold putD
  by_cases a : (getD kvs k).isSome = true
  · rw [if_pos a, getD_map]
    by_cases e : j = k
    · obtain ⟨x, hx⟩ := Option.isSome_iff_exists.mp a
      rw [if_pos e, e, hx, Option.map_some, if_pos rfl]
    · rw [if_neg e]
      cases getD kvs j with
      | none => rfl
      | some x => rw [Option.map_some, if_neg e]
  · rw [if_neg a]
    refine getD_snoc k j y kvs ?_
    cases q : getD kvs k with
    | none => rfl
    | some x => rw [q] at a; exact (a rfl).elim
theorem len_put (kvs : List (κ × β)) (k : κ) (y : β) : (putD kvs k y).length ≤ kvs.length + 1 := by
  unfold putD
  split
  · rw [List.length_map]; omega
  · rw [List.length_append, List.length_cons, List.length_nil]; omega
theorem putO_ok {d : Dc κ β} {k : κ} {y : β} (h : d.l.length < 1000000) : putO d k y = some ⟨putD d.l k y⟩ := if_pos h
end
theorem forC_any {β R : Type} {f : β → Unit → Option (Ctl Unit R)} {r : R} (p : β → Bool) : ∀ {xs : List β}, (∀ x ∈ xs, f x () = some (if p x = true then .rt r else .nx ())) → forC f xs () = some (if xs.any p = true then .rt r else .nx ())
  | [], _ => rfl
  | x :: xs, h => by
    have hx := h x List.mem_cons_self
    cases e : p x with
    | true =>
      rw [e] at hx
      show ((f x ()).bind _) = _
      rw [hx, List.any_cons, e]
      rfl
    | false =>
      rw [e] at hx
      rw [forC_cons (s' := ()) hx, forC_any p fun y hy => h y (List.mem_cons_of_mem _ hy), List.any_cons, e]
      rfl
end Wk
set_option synthInstance.maxHeartbeats 400000
set_option synthInstance.maxSize 2000
namespace Wk91
open PySem L2 Wk
/-! a floor, read: of the laws on floors, what reading wants -/
abbrev Cl := Int × Int × Unit
abbrev P4 := Int × Int × Int × Int × Unit
theorem ir_at {lo hi : Int} {i : Nat} (h : i < (hi - lo).toNat) : (irange lo hi)[i]? = some (lo + (i : Int)) := by
  unfold irange
  rw [List.getElem?_map, List.getElem?_range h]
  rfl
theorem forC_nobk {β Sx R : Type} {g : β → Sx → Option (Ctl Sx R)} : ∀ (a : List β) (s : Sx) (s' : Sx), forC g a s ≠ some (.bk s')
  | [], s, s' => by
    intro h
    cases h
  | x :: xs, s, s' => by
    unfold forC
    intro h
    cases e : g x s with
    | none =>
      rw [e] at h
      cases h
    | some t =>
      rw [e] at h
      cases t with
      | nx s2 => exact forC_nobk xs s2 s' h
      | bk s2 => cases h
      | rt r => cases h
theorem forC_id {β Sx R : Type} {g : β → Sx → Option (Ctl Sx R)} {a : List β} {s : Sx} {q : Ctl Sx R → Option (Ctl Sx R)} (h1 : ∀ s, q (.nx s) = some (.nx s)) (h2 : ∀ r, q (.rt r) = some (.rt r)) : (forC g a s).bind q = forC g a s := by
  cases e : forC g a s with
  | none => rfl
  | some t =>
    cases t with
    | nx s2 => exact h1 s2
    | bk s2 => exact absurd e (forC_nobk a s s2)
    | rt r => exact h2 r
theorem forC_append {β Sx R : Type} {g : β → Sx → Option (Ctl Sx R)} (hb : ∀ c s s', g c s ≠ some (.bk s')) {b : List β} : ∀ (a : List β) (s : Sx), forC g (a ++ b) s = ((forC g a s).bind fun t => (match t with
  | .nx s' => forC g b s'
  | .bk _ => none
  | .rt r => some (Ctl.rt r)))
  | [], s => rfl
  | x :: xs, s => by
    rw [List.cons_append]
    cases e : g x s with
    | none =>
      show ((g x s).bind _) = (((g x s).bind _).bind _)
      rw [e]
      rfl
    | some t =>
      show ((g x s).bind _) = (((g x s).bind _).bind _)
      rw [e, bs, bs]
      cases t with
      | nx s2 => exact forC_append hb (b := b) xs s2
      | bk s2 => exact absurd e (hb x s s2)
      | rt r => rfl
theorem forC_flat {β γ Sx R : Type} {f : β → Sx → Option (Ctl Sx R)} {g : γ → Sx → Option (Ctl Sx R)} (hb : ∀ c s s', g c s ≠ some (.bk s')) {xs : β → List γ} : ∀ (ys : List β), (∀ b ∈ ys, ∀ s, f b s = forC g (xs b) s) → ∀ s, forC f ys s = forC g (ys.flatMap xs) s
  | [], _, s => rfl
  | y :: ys, h, s => by
    rw [List.flatMap_cons, forC_append hb]
    show ((f y s).bind _) = _
    rw [h y List.mem_cons_self]
    cases e : forC g (xs y) s with
    | none => rfl
    | some t =>
      cases t with
      | nx s2 => exact forC_flat hb ys (fun b hb' => h b (List.mem_cons_of_mem _ hb')) s2
      | bk s2 => exact absurd e (forC_nobk _ _ _)
      | rt r => rfl
theorem forC_map {β γ Sx R : Type} {g : γ → Sx → Option (Ctl Sx R)} {q : β → γ} : ∀ (ys : List β) (s : Sx), forC g (ys.map q) s = forC (fun b => g (q b)) ys s
  | [], s => rfl
  | y :: ys, s => by
    rw [List.map_cons]
    unfold forC
    congr 1
    funext t
    cases t with
    | nx s2 => exact forC_map ys s2
    | bk s2 => rfl
    | rt r => rfl
def cellsR (p : P4) : List Cl := (irange p.2.1 (p.2.1 + p.2.2.2.1)).flatMap fun r => (irange p.1 (p.1 + p.2.2.1)).map fun c => (c, r, ())
def inR (p : P4) (c : Cl) : Prop := (p.1 ≤ c.1 ∧ c.1 < p.1 + p.2.2.1) ∧ p.2.1 ≤ c.2.1 ∧ c.2.1 < p.2.1 + p.2.2.2.1
instance (p : P4) (c : Cl) : Decidable (inR p c) := by unfold inR; infer_instance
theorem mem_cells {p : P4} {c : Cl} : c ∈ cellsR p ↔ inR p c := by
  unfold cellsR inR
  rw [List.mem_flatMap]
  constructor
  · rintro ⟨r, hr, h⟩
    obtain ⟨x, hx, rfl⟩ := List.mem_map.mp h
    exact ⟨mem_irange.mp hx, mem_irange.mp hr⟩
  · rintro ⟨h1, h2⟩
    exact ⟨c.2.1, mem_irange.mpr h2, List.mem_map.mpr ⟨c.1, mem_irange.mpr h1, rfl⟩⟩
theorem irange_nodup (a b : Int) : (irange a b).Nodup := by
  refine List.pairwise_iff_getElem.mpr fun i j hi hj hij e => ?_
  have ei : ∀ (k : Nat) (hk : k < (irange a b).length), (irange a b)[k] = a + (k : Int) := fun k hk => by simp [irange]
  rw [ei, ei] at e
  omega
theorem cells_nodup (p : P4) : (cellsR p).Nodup := by
  unfold cellsR
  refine List.pairwise_flatMap.mpr ⟨fun r hr => ?_, ?_⟩
  · refine List.Pairwise.map _ (R := fun a b => a ≠ b) ?_ (irange_nodup _ _)
    intro a b hab e
    exact hab (congrArg (fun d : Cl => d.1) e)
  · refine List.Pairwise.imp ?_ (irange_nodup _ _)
    intro a b hab d h1 d2 h2 e
    obtain ⟨x, _, rfl⟩ := List.mem_map.mp h1
    obtain ⟨y, _, rfl⟩ := List.mem_map.mp h2
    exact hab (congrArg (fun d : Cl => d.2.1) e)
def InF (W H : Int) (c : Cl) : Prop := (0 ≤ c.1 ∧ c.1 < W) ∧ 0 ≤ c.2.1 ∧ c.2.1 < H
def SIGNS : Str := "abcdefghijklmnopqrstuvwxyzABCDEFGHIJKLMNOPQRSTUVWXYZ01234567"
def sgK (k : Nat) : Str := ⟨#[SIGNS.cps.getD k 0]⟩
theorem signs_ok : ∀ k : Fin 60, ixS SIGNS (k.val : Int) = some (sgK k.val) ∧ decide (sgK k.val = (".": Str)) = false ∧ Txt.find SIGNS (sgK k.val) = (k.val : Int) := by decide +kernel
theorem sg_ix {k : Nat} (h : k < 60) : ixS SIGNS (k : Int) = some (sgK k) := (signs_ok ⟨k, h⟩).1
theorem sg_ne {k : Nat} (h : k < 60) : sgK k ≠ "." := of_decide_eq_false (signs_ok ⟨k, h⟩).2.1
theorem sg_find {k : Nat} (h : k < 60) : Txt.find SIGNS (sgK k) = (k : Int) := (signs_ok ⟨k, h⟩).2.2
def InFl (W H : Int) (p : P4) : Prop := p.1 + p.2.2.1 ≤ W ∧ p.2.1 + p.2.2.2.1 ≤ H
theorem app_cut {c : Nat} : ∀ {a b x y : List Nat}, c ∉ a → c ∉ b → a ++ c :: x = b ++ c :: y → a = b ∧ x = y
  | [], [], x, y, _, _, h => by
    have := List.cons.inj h
    exact ⟨rfl, this.2⟩
  | [], b :: bs, x, y, _, hb, h => by
    have := List.cons.inj h
    exact absurd (by rw [this.1]; exact List.mem_cons_self) hb
  | a :: as, [], x, y, ha, _, h => by
    have := List.cons.inj h
    exact absurd (by rw [← this.1]; exact List.mem_cons_self) ha
  | a :: as, b :: bs, x, y, ha, hb, h => by
    have h := List.cons.inj h
    obtain ⟨e1, e2⟩ := app_cut (fun z => ha (List.mem_cons_of_mem _ z)) (fun z => hb (List.mem_cons_of_mem _ z)) h.2
    exact ⟨by rw [h.1, e1], e2⟩
theorem join_two {c : Nat} (x y : Str) (r : List Str) : (Str.join ⟨#[c]⟩ (x :: y :: r)).cps.toList = x.cps.toList ++ c :: (Str.join ⟨#[c]⟩ (y :: r)).cps.toList := by
  show (x.cps ++ #[c] ++ (Str.join ⟨#[c]⟩ (y :: r)).cps).toList = _
  simp
theorem join_inj {c : Nat} : ∀ {xs ys : List Str}, xs ≠ [] → ys ≠ [] → (∀ p ∈ xs, c ∉ p.cps.toList) → (∀ p ∈ ys, c ∉ p.cps.toList) → Str.join ⟨#[c]⟩ xs = Str.join ⟨#[c]⟩ ys → xs = ys
  | [], _, h, _, _, _, _ => absurd rfl h
  | _ :: _, [], _, h, _, _, _ => absurd rfl h
  | [a], [b], _, _, _, _, h => by
    have h : a = b := h
    rw [h]
  | [a], b :: b2 :: r, _, _, ha, _, h => by
    have h := congrArg (fun s : Str => s.cps.toList) h
    have h : a.cps.toList = _ := h
    rw [join_two] at h
    exact absurd (by rw [h]; simp) (ha a List.mem_cons_self)
  | a :: a2 :: r, [b], _, _, _, hb, h => by
    have h := congrArg (fun s : Str => s.cps.toList) h
    have h : _ = b.cps.toList := h
    rw [join_two] at h
    exact absurd (by rw [← h]; simp) (hb b List.mem_cons_self)
  | a :: a2 :: r, b :: b2 :: r2, _, _, ha, hb, h => by
    have h := congrArg (fun s : Str => s.cps.toList) h
    simp only [join_two] at h
    obtain ⟨e1, e2⟩ := app_cut (ha a List.mem_cons_self) (hb b List.mem_cons_self) h
    have e3 := join_inj (xs := a2 :: r) (ys := b2 :: r2) (by simp) (by simp) (fun p hp => ha p (List.mem_cons_of_mem _ hp)) (fun p hp => hb p (List.mem_cons_of_mem _ hp)) (by
      have : ∀ s t : Str, s.cps.toList = t.cps.toList → s = t := fun s t e => by
        cases s; cases t; simp only at e; congr 1; exact Array.toList_inj.mp e
      exact this _ _ e2)
    have e4 : a = b := by
      cases a; cases b; congr 1; exact Array.toList_inj.mp e1
    rw [e3, e4]
theorem split_join {c : Nat} {xs : List Str} (h : xs ≠ []) (hx : ∀ p ∈ xs, c ∉ p.cps.toList) : Txt.split (Str.join ⟨#[c]⟩ xs) ⟨#[c]⟩ = xs :=
  join_inj (by intro z; have := PyProof.Rows.split_pos (Str.join ⟨#[c]⟩ xs) ⟨#[c]⟩; rw [z] at this; cases this) h (PySem.StrLaws.split_free _ _) hx (PySem.StrLaws.join_split _ _)
theorem sd_ix {β : Type} : ∀ (l : List (Str × β)) (k : Str), (sdIx l k = none → getD l k = none) ∧ ∀ j, sdIx l k = some j → ∃ v, l[j]? = some (k, v) ∧ getD l k = some v ∧ ∀ y i, getD (l.set j (k, y)) i = if i = k then some y else getD l i
  | [], k => ⟨fun _ => rfl, fun j h => by cases h⟩
  | kv :: r, k => by
    obtain ⟨h1, h2⟩ := sd_ix r k
    unfold sdIx
    by_cases e : kv.1 = k
    · rw [if_pos e]
      refine ⟨(fun h => by cases h), fun j h => ?_⟩
      cases h
      refine ⟨kv.2, by rw [← e]; rfl, getD_pos e, fun y i => ?_⟩
      show getD ((k, y) :: r) i = _
      by_cases e2 : i = k
      · rw [if_pos e2, getD_pos e2.symm]
      · rw [if_neg e2, getD_neg (p := (k, y)) (fun z => e2 z.symm), getD_neg (p := kv) (fun z => e2 (z.symm.trans e))]
    · rw [if_neg e]
      constructor
      · intro h
        rw [getD_neg e]
        cases e2 : sdIx r k with
        | none => exact h1 e2
        | some j => rw [e2] at h; cases h
      · intro j h
        cases e2 : sdIx r k with
        | none => rw [e2] at h; cases h
        | some i =>
          rw [e2] at h
          cases h
          obtain ⟨v, a1, a2, a3⟩ := h2 i e2
          refine ⟨v, a1, (getD_neg e).trans a2, fun y m => ?_⟩
          show getD (kv :: r.set i (k, y)) m = _
          by_cases e3 : kv.1 = m
          · rw [getD_pos e3, getD_pos e3, if_neg (fun z => e (e3.trans z))]
          · rw [getD_neg e3, getD_neg e3, a3]
theorem sd_ok {d : Dc Str (List Cl)} {k : Str} {x : Cl} (hl : d.l.length < 1000000) (hv : ∀ v, getD d.l k = some v → v.length < 1000000) :
    ∃ d', sdO d k x = some d' ∧ (∀ j, getD d'.l j = if j = k then some ((getD d.l k).getD [] ++ [x]) else getD d.l j) ∧ d'.l.length ≤ d.l.length + 1 := by
  obtain ⟨h1, h2⟩ := sd_ix d.l k
  unfold sdO
  rw [if_pos hl]
  cases e : sdIx d.l k with
  | none =>
    refine ⟨_, rfl, fun j => ?_, ?_⟩
    · show getD (d.l ++ [(k, [x])]) j = _
      rw [getD_snoc k j [x] d.l (h1 e), h1 e]
      rfl
    · show (d.l ++ [(k, [x])]).length ≤ _
      rw [List.length_append]
      exact Nat.le_refl _
  | some j =>
    obtain ⟨v, a1, a2, a3⟩ := h2 j e
    refine ⟨⟨d.l.set j (k, v ++ [x])⟩, ?_, fun i => ?_, ?_⟩
    · show ((d.l[j]?).bind _) = _
      rw [a1, bs, appO_ok (hv v a2)]
      rfl
    · show getD (d.l.set j (k, v ++ [x])) i = _
      rw [a3, a2]
      rfl
    · show (d.l.set j _).length ≤ _
      rw [List.length_set]
      exact Nat.le_succ _
theorem sg_inj {i j : Nat} (hi : i < 60) (hj : j < 60) (h : sgK i = sgK j) : i = j := by
  have := (sg_find hi).symm.trans ((congrArg (Txt.find SIGNS) h).trans (sg_find hj))
  omega
def Own (sk : List Str) (pl : Str → P4) (G : Cl → Str) (c : Cl) : Prop := (∀ j n, sk[j]? = some n → inR (pl n) c → G c = sgK j) ∧ ((∀ n ∈ sk, ¬ inR (pl n) c) → G c = ".")
def fil (pl : Str → P4) (n : Str) (cs : List Cl) : List Cl := cs.filter fun c => decide (inR (pl n) c)
def Red (sk : List Str) (pl : Str → P4) (pre : List Cl) (d : Dc Str (List Cl)) : Prop := (∀ n ∈ sk, getD d.l n = if fil pl n pre = [] then none else some (fil pl n pre)) ∧ d.l.length ≤ pre.length
theorem fil_snoc (pl : Str → P4) (n : Str) (cs : List Cl) (c : Cl) : fil pl n (cs ++ [c]) = if inR (pl n) c then fil pl n cs ++ [c] else fil pl n cs := by
  unfold fil
  rw [List.filter_append]
  by_cases e : inR (pl n) c
  · rw [if_pos e, List.filter_cons_of_pos (by exact decide_eq_true e)]
    rfl
  · rw [if_neg e, List.filter_cons_of_neg (by rw [decide_eq_false e]; exact Bool.false_ne_true)]
    show _ ++ [] = _
    rw [List.append_nil]
theorem read_one {sk : List Str} {pl : Str → P4} {G : Cl → Str} {c : Cl} {pre : List Cl} {d : Dc Str (List Cl)} (hs : sk.length ≤ 60) (ho : Own sk pl G c) (hd : Red sk pl pre d) (hp : pre.length < 900000) :
    ∃ d', m_read_floor_L2 (Fz.mk sk) c.2.1 (c.1, G c, ()) d = some (.nx d') ∧ Red sk pl (pre ++ [c]) d' := by
  unfold m_read_floor_L2
  obtain ⟨o1, o2⟩ := ho
  obtain ⟨d1, d2⟩ := hd
  by_cases h : ∃ n ∈ sk, inR (pl n) c
  · obtain ⟨n, hn, hi⟩ := h
    obtain ⟨j, hj⟩ := List.getElem?_of_mem hn
    have hjl : j < sk.length := (List.getElem?_eq_some_iff.mp hj).1
    have eg := o1 j n hj hi
    have hfl : (fil pl n pre).length ≤ pre.length := List.length_filter_le _ _
    obtain ⟨d', e1, e2, e3⟩ := sd_ok (d := d) (k := n) (x := c) (by omega) (fun v hv => by
      rw [d1 n hn] at hv
      by_cases z : fil pl n pre = []
      · rw [if_pos z] at hv; cases hv
      · rw [if_neg z] at hv
        cases hv
        omega)
    refine ⟨d', ?_, fun m hm => ?_, ?_⟩
    · rw [eg]
      show (if (!decide (sgK j = ".")) = true then _ else _) = _
      rw [decide_eq_false (sg_ne (show j < 60 by omega)), if_pos (show (!false) = true from rfl)]
      have ef : Txt.find "abcdefghijklmnopqrstuvwxyzABCDEFGHIJKLMNOPQRSTUVWXYZ01234567" (sgK j) = (j : Int) := sg_find (by omega)
      show ((some (Txt.find _ _)).bind _) = _
      rw [ef, bs]
      have e4 : ((decide ((0 : Int) ≤ (j : Int))) && (decide ((j : Int) < ((Fz.mk sk).l.length : Int)))) = true := by
        rw [Bool.and_eq_true]
        exact ⟨decide_eq_true (by omega), decide_eq_true (by show (j : Int) < (sk.length : Int); omega)⟩
      rw [e4]
      show ((atI sk (j : Int)).bind _) = _
      rw [atI_nat hj, bs]
      exact bind_ok e1
    · rw [e2 m, fil_snoc]
      by_cases em : m = n
      · subst em
        rw [if_pos rfl, if_pos hi, if_neg (by simp), d1 m hm]
        by_cases z : fil pl m pre = []
        · rw [if_pos z, z]; rfl
        · rw [if_neg z]; rfl
      · have hni : ¬ inR (pl m) c := fun z => by
          obtain ⟨i, hi2⟩ := List.getElem?_of_mem hm
          have hil : i < sk.length := (List.getElem?_eq_some_iff.mp hi2).1
          have e5 := sg_inj (by omega) (by omega) ((o1 i m hi2 z).symm.trans eg)
          subst e5
          rw [hj] at hi2
          cases hi2
          exact em rfl
        rw [if_neg em, if_neg hni, d1 m hm]
    · rw [List.length_append]
      show d'.l.length ≤ pre.length + 1
      omega
  · have hno : ∀ n ∈ sk, ¬ inR (pl n) c := fun n hn z => h ⟨n, hn, z⟩
    refine ⟨d, ?_, fun m hm => ?_, ?_⟩
    · rw [o2 hno]
      rfl
    · rw [fil_snoc, if_neg (hno m hm), d1 m hm]
    · rw [List.length_append]
      exact Nat.le_trans d2 (Nat.le_add_right _ _)
theorem read_all {sk : List Str} {pl : Str → P4} {G : Cl → Str} (hs : sk.length ≤ 60) : ∀ (cs pre : List Cl) (d : Dc Str (List Cl)), (∀ c ∈ cs, Own sk pl G c) → Red sk pl pre d → pre.length + cs.length < 900000 →
    ∃ d', forC (fun (c : Cl) d => m_read_floor_L2 (Fz.mk sk) c.2.1 (c.1, G c, ()) d) cs d = some (.nx d') ∧ Red sk pl (pre ++ cs) d'
  | [], pre, d, _, h, _ => ⟨d, rfl, by rw [List.append_nil]; exact h⟩
  | c :: cs, pre, d, ho, h, hl => by
    rw [List.length_cons] at hl
    obtain ⟨d1, e1, h1⟩ := read_one hs (ho c List.mem_cons_self) h (by omega)
    obtain ⟨d2, e2, h2⟩ := read_all hs cs (pre ++ [c]) d1 (fun b hb => ho b (List.mem_cons_of_mem _ hb)) h1 (by rw [List.length_append, List.length_singleton]; omega)
    refine ⟨d2, ?_, ?_⟩
    · exact Eq.trans (forC_cons (s' := d1) e1) e2
    · rw [List.append_assoc] at h2
      exact h2
def One (s : Str) : Prop := ∃ x, s = ⟨#[x]⟩ ∧ x ≠ 10
theorem sg_one : ∀ k : Fin 60, decide ((sgK k.val).cps.size = 1) = true ∧ decide ((sgK k.val).cps.getD 0 0 ≠ 10) = true := by decide +kernel
theorem one_sg {k : Nat} (h : k < 60) : One (sgK k) := by
  have := of_decide_eq_true (sg_one ⟨k, h⟩).2
  exact ⟨SIGNS.cps.getD k 0, rfl, this⟩
theorem one_dot : One "." := ⟨46, rfl, by decide⟩
theorem join_cons0 (x : Str) (xs : List Str) : (Str.join "" (x :: xs)).cps.toList = x.cps.toList ++ (Str.join "" xs).cps.toList := by
  cases xs with
  | nil =>
    show x.cps.toList = x.cps.toList ++ (#[] : Array Nat).toList
    simp
  | cons y r =>
    show (x.cps ++ #[] ++ (Str.join "" (y :: r)).cps).toList = _
    simp
theorem sgn_join : ∀ {xs : List Str}, (∀ x ∈ xs, One x) → sgn (Str.join "" xs) = xs ∧ 10 ∉ (Str.join "" xs).cps.toList ∧ (Str.join "" xs).length = xs.length
  | [], _ => ⟨rfl, by decide +kernel, rfl⟩
  | x :: xs, h => by
    obtain ⟨h1, h2, h3⟩ := sgn_join (xs := xs) fun y hy => h y (List.mem_cons_of_mem _ hy)
    obtain ⟨c, rfl, hc⟩ := h x List.mem_cons_self
    have e := join_cons0 ⟨#[c]⟩ xs
    refine ⟨?_, ?_, ?_⟩
    · unfold sgn
      rw [e, List.map_append]
      unfold sgn at h1
      rw [h1]
      rfl
    · rw [e]
      show 10 ∉ c :: _
      rw [List.mem_cons]
      exact fun z => z.elim (fun z => hc z.symm) h2
    · show (Str.join "" (⟨#[c]⟩ :: xs)).cps.size = _
      have e2 := congrArg List.length e
      rw [List.length_append, Array.length_toList, Array.length_toList, Array.length_toList] at e2
      rw [e2]
      have h3 : (Str.join "" xs).cps.size = xs.length := h3
      rw [h3, List.length_cons]
      show 1 + _ = _
      omega
def rowG (W : Int) (G : Cl → Str) (r : Int) : List Str := (irange 0 W).map fun c => G (c, r, ())
def rowsS (W H : Int) (G : Cl → Str) : List Str := (irange 0 H).map fun r => Str.join "" (rowG W G r)
def textOf (W H : Int) (G : Cl → Str) : Str := Str.join "\n" (rowsS W H G)
structure Fl1 (W H : Int) (G : Cl → Str) : Prop where
  w0 : 1 ≤ W
  w1 : W ≤ 200
  h0 : 1 ≤ H
  h1 : H ≤ 200
  one : ∀ c, InF W H c → One (G c)
theorem row_one {W H : Int} {G : Cl → Str} (f : Fl1 W H G) {r : Int} (hr : r ∈ irange 0 H) : ∀ x ∈ rowG W G r, One x := fun x hx => by
  obtain ⟨c, hc, rfl⟩ := List.mem_map.mp hx
  rw [mem_irange] at hr hc
  exact f.one _ ⟨hc, hr⟩
theorem row_len (W : Int) (G : Cl → Str) (r : Int) : (rowG W G r).length = W.toNat := by
  unfold rowG
  rw [List.length_map, irange_len, Int.sub_zero]
theorem sum_const {α : Type} {f : α → Nat} {n : Nat} : ∀ {xs : List α}, (∀ x ∈ xs, f x = n) → (xs.map f).sum = xs.length * n
  | [], _ => by simp
  | x :: xs, h => by
    rw [List.map_cons, List.sum_cons, sum_const fun y hy => h y (List.mem_cons_of_mem _ hy), h x List.mem_cons_self, List.length_cons, Nat.succ_mul, Nat.add_comm]
theorem one_len {x : Str} (h : One x) : x.length = 1 := by
  obtain ⟨c, rfl, _⟩ := h
  rfl
theorem row_join {W H : Int} {G : Cl → Str} (f : Fl1 W H G) {r : Int} (hr : r ∈ irange 0 H) : joinO ("" : Str) (rowG W G r) = some (Str.join "" (rowG W G r)) := by
  refine joinO_ok ?_
  rw [sum_const (n := 1) (fun x hx => one_len (row_one f hr x hx)), row_len]
  have := f.w1
  show W.toNat * 1 + W.toNat * 0 ≤ 1000000
  omega
theorem rows_len (W H : Int) (G : Cl → Str) : (rowsS W H G).length = H.toNat := by
  unfold rowsS
  rw [List.length_map, irange_len, Int.sub_zero]
theorem rows_each {W H : Int} {G : Cl → Str} (f : Fl1 W H G) {s : Str} (hs : s ∈ rowsS W H G) : s.length = W.toNat ∧ 10 ∉ s.cps.toList := by
  obtain ⟨r, hr, rfl⟩ := List.mem_map.mp hs
  obtain ⟨h1, h2, h3⟩ := sgn_join (row_one f hr)
  exact ⟨by rw [h3, row_len], h2⟩
theorem join_len (c : Nat) : ∀ (xs : List Str), (Str.join ⟨#[c]⟩ xs).length ≤ (xs.map (·.length)).sum + xs.length
  | [] => Nat.zero_le _
  | [x] => by
    show x.length ≤ x.length + 0 + 1
    omega
  | x :: y :: r => by
    have ih := join_len c (y :: r)
    have e := congrArg List.length (join_two (c := c) x y r)
    rw [List.length_append, List.length_cons, Array.length_toList, Array.length_toList, Array.length_toList] at e
    show (Str.join ⟨#[c]⟩ (x :: y :: r)).cps.size ≤ _
    rw [e, List.map_cons, List.sum_cons, List.length_cons]
    have ih : (Str.join ⟨#[c]⟩ (y :: r)).cps.size ≤ _ := ih
    show x.length + _ ≤ _
    omega
theorem split_ok {W H : Int} {G : Cl → Str} (f : Fl1 W H G) : splitO (textOf W H G) ("\n" : Str) = some (rowsS W H G) := by
  have h0 := f.h0
  have h1 := f.h1
  have w1 := f.w1
  have hl : (textOf W H G).length ≤ 40200 := by
    refine Nat.le_trans (join_len 10 _) ?_
    rw [sum_const (n := W.toNat) (fun x hx => (rows_each f hx).1), rows_len]
    have : H.toNat * W.toNat ≤ 200 * 200 := Nat.mul_le_mul (by omega) (by omega)
    omega
  unfold splitO
  rw [if_pos ⟨by decide, by omega⟩]
  have hn : rowsS W H G ≠ [] := fun z => by
    have := rows_len W H G
    rw [z] at this
    have : 0 = H.toNat := this
    omega
  exact congrArg some (split_join (c := 10) hn fun p hp => (rows_each f hp).2)
theorem floor_rows {W H : Int} {G : Cl → Str} (f : Fl1 W H G) : m_rows_of_floor (upD (textOf W H G)) = some (Er.ok (rowsS W H G)) := by
  have h0 := f.h0
  have h1 := f.h1
  have w0 := f.w0
  have w1 := f.w1
  unfold m_rows_of_floor
  rw [if_neg (show ¬ (!(isiD (upD (textOf W H G)) "str")) = true from fun z => nomatch z)]
  show ((some (textOf W H G)).bind _) = _
  rw [bs, split_ok f, bs, bs]
  have hl : (rowsS W H G).length = H.toNat := rows_len W H G
  obtain ⟨s0, e0, e1⟩ := atI_some (xs := rowsS W H G) (i := 0) (by omega) (by omega)
  have hs0 := (rows_each f (List.mem_of_getElem? e1)).1
  have hlen : ∀ s ∈ rowsS W H G, lenS s = some W := fun s hs => by
    have := (rows_each f hs).1
    unfold lenS
    rw [if_pos (by omega), this]
    congr 1
    omega
  have l0 := hlen s0 (List.mem_of_getElem? e1)
  rw [hl, decide_eq_false (by omega), if_neg Bool.false_ne_true, e0, bs, l0, bs, bs, decide_eq_false (by omega), if_neg Bool.false_ne_true]
  rw [forC_all (fun x hx => by
    unfold m_rows_of_floor_L1
    have hx2 : x ≠ "" := fun z => by
      have := (rows_each f hx).1
      rw [z] at this
      have : 0 = W.toNat := this
      omega
    rw [decide_eq_false hx2, if_neg Bool.false_ne_true, hlen x hx, bs, e0, bs, l0, bs, bs, decide_eq_true rfl]
    rfl)]
  rfl
theorem enum_irange {α : Type} (n : Int) (f : Int → α) : enumI ((irange 0 n).map f) = (irange 0 n).map fun i => (i, f i, ()) := by
  refine List.ext_getElem? fun k => ?_
  unfold enumI
  rw [List.getElem?_mapIdx, List.getElem?_map, List.getElem?_map]
  by_cases hk : k < (n - 0).toNat
  · rw [ir_at hk]
    show some (((k : Int)), f (0 + (k : Int)), ()) = some (0 + (k : Int), f (0 + (k : Int)), ())
    rw [Int.zero_add]
  · rw [List.getElem?_eq_none (by rw [irange_len]; omega)]
    rfl
theorem L2_nobk (sk : List Str) (k : Int) (t : Int × Str × Unit) (s s' : Dc Str (List Cl)) : m_read_floor_L2 (Fz.mk sk) k t s ≠ some (.bk s') := by
  obtain ⟨c, v, u⟩ := t
  unfold m_read_floor_L2
  intro h
  dsimp only at h
  split at h
  · rw [bs] at h
    split at h
    · cases h
    · cases e1 : atI (Fz.mk sk).l (Txt.find "abcdefghijklmnopqrstuvwxyzABCDEFGHIJKLMNOPQRSTUVWXYZ01234567" v) with
      | none => rw [e1] at h; cases h
      | some n =>
        rw [e1, bs] at h
        cases e2 : sdO s n (c, k, ()) with
        | none => rw [e2] at h; cases h
        | some d => rw [e2, bs] at h; cases h
  · cases h
theorem read_cells {W H : Int} {G : Cl → Str} {sk : List Str} (f : Fl1 W H G) (d : Dc Str (List Cl)) :
    forC (m_read_floor_L1 (Fz.mk sk)) (enumI (rowsS W H G)) d = forC (fun (c : Cl) d => m_read_floor_L2 (Fz.mk sk) c.2.1 (c.1, G c, ()) d) (cellsR (0, 0, W, H, ())) d := by
  have e : enumI (rowsS W H G) = (irange 0 H).map fun r => (r, Str.join "" (rowG W G r), ()) := enum_irange _ _
  rw [e, forC_map]
  have e2 : cellsR (0, 0, W, H, ()) = (irange 0 H).flatMap fun r => (irange 0 W).map fun c => ((c, r, ()) : Cl) := by
    unfold cellsR
    show (irange 0 (0 + H)).flatMap (fun r => (irange 0 (0 + W)).map fun c => ((c, r, ()) : Cl)) = _
    rw [Int.zero_add, Int.zero_add]
  rw [e2]
  refine forC_flat (g := fun (c : Cl) d => m_read_floor_L2 (Fz.mk sk) c.2.1 (c.1, G c, ()) d) (xs := fun r => (irange 0 W).map fun c => ((c, r, ()) : Cl)) (fun c s s' => L2_nobk _ _ _ s s') _ (fun r hr s => ?_) d
  unfold m_read_floor_L1
  rw [forC_map]
  obtain ⟨h1, h2, h3⟩ := sgn_join (row_one f hr)
  show ((forC (m_read_floor_L2 (Fz.mk sk) r) (enumI (sgn (Str.join "" (rowG W G r)))) s).bind _) = _
  rw [h1]
  have e3 : enumI (rowG W G r) = (irange 0 W).map fun c => (c, G (c, r, ()), ()) := enum_irange _ _
  rw [e3, forC_map]
  exact forC_id (fun _ => rfl) (fun _ => rfl)
theorem cells_count {p : P4} (w0 : 0 ≤ p.2.2.1) (h0 : 0 ≤ p.2.2.2.1) : ((cellsR p).length : Int) = p.2.2.1 * p.2.2.2.1 := by
  unfold cellsR
  rw [List.length_flatMap, sum_const (n := p.2.2.1.toNat) (fun r hr => by rw [List.length_map, irange_len]; congr 1; omega), irange_len, Int.natCast_mul]
  rw [show ((p.2.1 + p.2.2.2.1 - p.2.1).toNat : Int) = p.2.2.2.1 by omega, show (p.2.2.1.toNat : Int) = p.2.2.1 by omega, Int.mul_comm]
theorem minL_ex {xs : List Int} (h : xs ≠ []) : ∃ m, minL xs = some m := by
  cases xs with
  | nil => exact absurd rfl h
  | cons x r => exact ⟨_, rfl⟩
theorem maxL_ex {xs : List Int} (h : xs ≠ []) : ∃ m, maxL xs = some m := by
  cases xs with
  | nil => exact absurd rfl h
  | cons x r => exact ⟨_, rfl⟩
theorem fil_mem {pl : Str → P4} {n : Str} {W H : Int} {c : Cl} (h0 : 0 ≤ (pl n).1) (h1 : 0 ≤ (pl n).2.1) (hf : InFl W H (pl n)) : c ∈ fil pl n (cellsR (0, 0, W, H, ())) ↔ inR (pl n) c := by
  unfold fil
  rw [List.mem_filter, mem_cells, decide_eq_true_eq]
  constructor
  · exact fun h => h.2
  · intro h
    refine ⟨?_, h⟩
    obtain ⟨⟨a, b⟩, c1, d⟩ := h
    obtain ⟨f1, f2⟩ := hf
    exact ⟨⟨by show (0 : Int) ≤ _; omega, by show _ < 0 + W; omega⟩, by show (0 : Int) ≤ _; omega, by show _ < 0 + H; omega⟩
structure Pin (W H : Int) (p : P4) : Prop where
  x0 : 0 ≤ p.1
  y0 : 0 ≤ p.2.1
  w1 : 1 ≤ p.2.2.1
  h1 : 1 ≤ p.2.2.2.1
  f : InFl W H p
theorem fil_place {pl : Str → P4} {n : Str} {W H : Int} (hW : W ≤ 200) (hH : H ≤ 200) (h : Pin W H (pl n)) (cells : Dc Str (List Cl)) (hc : getD cells.l n = some (fil pl n (cellsR (0, 0, W, H, ())))) (d : Dc Str P4) (hd : d.l.length < 1000000) :
    m_read_floor_L3 cells n d = some (.nx ⟨putD d.l n (pl n)⟩) := by
  have hm := fun c => fil_mem (c := c) (W := W) (H := H) h.x0 h.y0 h.f
  have hnd : (fil pl n (cellsR (0, 0, W, H, ()))).Nodup := (cells_nodup _).filter _
  have hlen : ((fil pl n (cellsR (0, 0, W, H, ()))).length : Int) = (pl n).2.2.1 * (pl n).2.2.2.1 := by
    have hp : (fil pl n (cellsR (0, 0, W, H, ()))).Perm (cellsR (pl n)) := (List.perm_ext_iff_of_nodup hnd (cells_nodup _)).mpr fun c => by rw [hm, mem_cells]
    rw [hp.length_eq]
    have := h.w1
    have := h.h1
    exact cells_count (by omega) (by omega)
  generalize fil pl n (cellsR (0, 0, W, H, ())) = L at hc hm hnd hlen
  generalize hpl : pl n = p at h hm hlen
  obtain ⟨x, y, w, q, u⟩ := p
  obtain ⟨x0, y0, w1, q1, f1, f2⟩ := h
  have x0 : 0 ≤ x := x0
  have y0 : 0 ≤ y := y0
  have w1 : 1 ≤ w := w1
  have q1 : 1 ≤ q := q1
  have f1 : x + w ≤ W := f1
  have f2 : y + q ≤ H := f2
  have hlen : (L.length : Int) = w * q := hlen
  have wq : w * q ≤ 200 * 200 := Int.mul_le_mul (by omega) (by omega) (by omega) (by omega)
  have hl : L.length < 1000000 := by omega
  have e1 : lcM (fun _ => some true) (fun (column, row, _) => (some column)) L = some (L.map (·.1)) := lcM_all (fun c : Cl => c.1) hl fun c _ => by obtain ⟨a, b, u⟩ := c; rfl
  have e2 : lcM (fun _ => some true) (fun (column, row, _) => (some row)) L = some (L.map (·.2.1)) := lcM_all (fun c : Cl => c.2.1) hl fun c _ => by obtain ⟨a, b, u⟩ := c; rfl
  have hin : ∀ a b : Int, x ≤ a → a < x + w → y ≤ b → b < y + q → (a, b, ()) ∈ L := fun a b h1 h2 h3 h4 => (hm _).mpr ⟨⟨h1, h2⟩, h3, h4⟩
  have hout : ∀ c ∈ L, (x ≤ c.1 ∧ c.1 < x + w) ∧ y ≤ c.2.1 ∧ c.2.1 < y + q := fun c hc => (hm c).mp hc
  have ne1 : L.map (·.1) ≠ [] := fun z => by
    have := hin x y (by omega) (by omega) (by omega) (by omega)
    rw [List.map_eq_nil_iff.mp z] at this
    exact absurd this List.not_mem_nil
  have ne2 : L.map (·.2.1) ≠ [] := fun z => by
    have := hin x y (by omega) (by omega) (by omega) (by omega)
    rw [List.map_eq_nil_iff.mp z] at this
    exact absurd this List.not_mem_nil
  obtain ⟨m1, hm1⟩ := minL_ex ne1
  obtain ⟨m2, hm2⟩ := minL_ex ne2
  obtain ⟨m3, hm3⟩ := maxL_ex ne1
  obtain ⟨m4, hm4⟩ := maxL_ex ne2
  have r1 : m1 = x := by
    obtain ⟨a, b⟩ := minL_spec hm1
    obtain ⟨c, hc, rfl⟩ := List.mem_map.mp a
    have := b x (List.mem_map.mpr ⟨(x, y, ()), hin x y (by omega) (by omega) (by omega) (by omega), rfl⟩)
    have := hout c hc
    omega
  have r2 : m2 = y := by
    obtain ⟨a, b⟩ := minL_spec hm2
    obtain ⟨c, hc, rfl⟩ := List.mem_map.mp a
    have := b y (List.mem_map.mpr ⟨(x, y, ()), hin x y (by omega) (by omega) (by omega) (by omega), rfl⟩)
    have := hout c hc
    omega
  have r3 : m3 = x + w - 1 := by
    obtain ⟨a, b⟩ := maxL_spec hm3
    obtain ⟨c, hc, rfl⟩ := List.mem_map.mp a
    have := b (x + w - 1) (List.mem_map.mpr ⟨(x + w - 1, y, ()), hin _ y (by omega) (by omega) (by omega) (by omega), rfl⟩)
    have := hout c hc
    omega
  have r4 : m4 = y + q - 1 := by
    obtain ⟨a, b⟩ := maxL_spec hm4
    obtain ⟨c, hc, rfl⟩ := List.mem_map.mp a
    have := b (y + q - 1) (List.mem_map.mpr ⟨(x, y + q - 1, ()), hin x _ (by omega) (by omega) (by omega) (by omega), rfl⟩)
    have := hout c hc
    omega
  unfold m_read_floor_L3
  rw [hc]
  rw [if_neg (show ¬ (!(some L).isSome) = true from fun z => nomatch z), bs, e1, bs, bs, bs, e2, bs, bs, hm1, bs, hm2, bs, hm3, bs, bs, hm4, bs, bs, bs, bs]
  subst r1 r2 r3 r4
  rw [show m1 + w - 1 - m1 + 1 = w by omega, show m2 + q - 1 - m2 + 1 = q by omega]
  rw [mulO_ok (by show (-18446744073709551616 : Int) < w; omega) (by show w < (18446744073709551616 : Int); omega), bs, decide_eq_true hlen]
  show ((putO d n (m1, m2, w, q, ())).bind _) = _
  rw [putO_ok hd]
  rfl
theorem putD_new {β : Type} {l : List (Str × β)} {n : Str} {y : β} (h : n ∉ l.map (·.1)) : putD l n y = l ++ [(n, y)] := by
  unfold putD
  rw [if_neg]
  intro z
  obtain ⟨v, hv⟩ := Option.isSome_iff_exists.mp z
  obtain ⟨kv, hf, _⟩ := Option.map_eq_some_iff.mp (show (l.find? _).map _ = some v from hv)
  have hk := List.find?_some hf
  rw [decide_eq_true_eq] at hk
  exact h (List.mem_map.mpr ⟨kv, List.mem_of_find?_eq_some hf, hk⟩)
theorem read_floor_ok {W H : Int} {G : Cl → Str} {sk : List Str} {pl : Str → P4} (f : Fl1 W H G) (hs : sk.length ≤ 60) (nd : sk.Nodup) (hp : ∀ n ∈ sk, Pin W H (pl n)) (ho : ∀ c, InF W H c → Own sk pl G c) :
    m_read_floor (upD (textOf W H G)) (Fz.mk sk) = some (Er.ok ⟨sk.map fun n => (n, pl n)⟩) := by
  have w1 := f.w1
  have h1 := f.h1
  have w0 := f.w0
  have h0 := f.h0
  unfold m_read_floor
  rw [floor_rows f, bs]
  dsimp only
  rw [read_cells f]
  have hin : ∀ c ∈ cellsR (0, 0, W, H, ()), InF W H c := fun c hc => by
    obtain ⟨⟨a, b⟩, c1, d⟩ := mem_cells.mp hc
    have b : c.1 < 0 + W := b
    have d : c.2.1 < 0 + H := d
    exact ⟨⟨a, by omega⟩, c1, by omega⟩
  have hcl : (cellsR (0, 0, W, H, ())).length < 900000 := by
    have e := cells_count (p := (0, 0, W, H, ())) (show (0 : Int) ≤ W by omega) (show (0 : Int) ≤ H by omega)
    have e : ((cellsR (0, 0, W, H, ())).length : Int) = W * H := e
    have : W * H ≤ 200 * 200 := Int.mul_le_mul (by omega) (by omega) (by omega) (by omega)
    omega
  obtain ⟨cells, e1, hr, hl⟩ := read_all (sk := sk) (pl := pl) (G := G) hs (cellsR (0, 0, W, H, ())) [] (Dc.mk []) (fun c hc => ho c (hin c hc)) ⟨fun n hn => rfl, Nat.le_refl _⟩ (by rw [List.length_nil]; omega)
  refine Eq.trans (bind_ok e1) ?_
  rw [List.nil_append] at hr
  have hget : ∀ n ∈ sk, getD cells.l n = some (fil pl n (cellsR (0, 0, W, H, ()))) := fun n hn => by
    rw [hr n hn, if_neg]
    intro z
    have p := hp n hn
    have : (((pl n).1, (pl n).2.1, ()) : Cl) ∈ fil pl n (cellsR (0, 0, W, H, ())) := (fil_mem p.x0 p.y0 p.f).mpr ⟨⟨Int.le_refl _, by have := p.w1; show (pl n).1 < _; omega⟩, Int.le_refl _, by have := p.h1; show (pl n).2.1 < _; omega⟩
    rw [z] at this
    exact absurd this List.not_mem_nil
  obtain ⟨d, e2, h2⟩ := forC_ix (f := m_read_floor_L3 cells) (xs := sk) (fun i (d : Dc Str P4) => d.l = (sk.take i).map fun n => (n, pl n)) (s := Dc.mk []) rfl (fun i hi d hd => by
    have hn : sk[i] ∈ sk := List.getElem_mem hi
    refine ⟨_, fil_place w1 h1 (hp _ hn) cells (hget _ hn) d (by rw [hd, List.length_map, List.length_take]; omega), ?_⟩
    show putD d.l _ _ = _
    rw [hd, putD_new, List.take_succ_eq_append_getElem hi, List.map_append]
    · rfl
    · rw [List.map_map]
      intro z
      obtain ⟨m, hm, e⟩ := List.mem_map.mp z
      have e : m = sk[i] := e
      rw [e] at hm
      obtain ⟨j, hj⟩ := List.mem_iff_getElem?.mp hm
      have hji : j < i := by
        have := (List.getElem?_eq_some_iff.mp hj).1
        rw [List.length_take] at this
        omega
      rw [List.getElem?_take_of_lt hji] at hj
      obtain ⟨hj1, hj2⟩ := List.getElem?_eq_some_iff.mp hj
      exact (List.pairwise_iff_getElem.mp nd) j i hj1 hi hji hj2)
  refine Eq.trans (bind_ok e2) ?_
  rw [List.take_length] at h2
  show some (Er.ok d) = _
  rw [show d = ⟨d.l⟩ from rfl, h2]
/-! two loops, alike turn by turn -/
inductive Al {S R1 R2 : Type} (r1 : R1) (r2 : R2) (I : S → Prop) : Option (Ctl S R1) → Option (Ctl S R2) → Prop
  | nx {s : S} (h : I s) : Al r1 r2 I (some (.nx s)) (some (.nx s))
  | rt : Al r1 r2 I (some (.rt r1)) (some (.rt r2))
theorem forC_al {β S R1 R2 : Type} {f : β → S → Option (Ctl S R1)} {g : β → S → Option (Ctl S R2)} {r1 : R1} {r2 : R2} (I : Nat → S → Prop) : ∀ {xs : List β} {n : Nat} {s : S}, I n s → (∀ (i : Nat) (hi : i < xs.length) s, I (n + i) s → Al r1 r2 (I (n + i + 1)) (f xs[i] s) (g xs[i] s)) → Al r1 r2 (I (n + xs.length)) (forC f xs s) (forC g xs s)
  | [], n, s, h, _ => .nx h
  | x :: xs, n, s, h, hs => by
    have h0 : Al r1 r2 (I (n + 1)) (f x s) (g x s) := hs 0 (by rw [List.length_cons]; omega) s h
    unfold forC
    generalize f x s = a at h0
    generalize g x s = b at h0
    cases h0 with
    | nx h1 =>
      rw [bs, bs]
      have q := forC_al I (xs := xs) (n := n + 1) (f := f) (g := g) (r1 := r1) (r2 := r2) h1 (fun i hi s hI => by
        have q := hs (i + 1) (by rw [List.length_cons]; omega) s (by rw [show n + (i + 1) = n + 1 + i by omega]; exact hI)
        rw [show n + (i + 1) + 1 = n + 1 + i + 1 by omega] at q
        exact q)
      rw [show n + (x :: xs).length = n + 1 + xs.length by rw [List.length_cons]; omega]
      exact q
    | rt => exact .rt
theorem al_in {S R1 R2 : Type} {r1 : R1} {r2 : R2} {I : S → Prop} {a : Option (Ctl S R1)} {b : Option (Ctl S R2)} (h : Al r1 r2 I a b) :
    Al r1 r2 I (a.bind fun t => match t with | .nx s => some (.nx s) | .bk _ => none | .rt r => some (.rt r)) (b.bind fun t => match t with | .nx s => some (.nx s) | .bk _ => none | .rt r => some (.rt r)) := by
  cases h with
  | nx h => exact .nx h
  | rt => exact .rt
theorem al_mono {S R1 R2 : Type} {r1 : R1} {r2 : R2} {I J : S → Prop} {a : Option (Ctl S R1)} {b : Option (Ctl S R2)} (h : Al r1 r2 I a b) (q : ∀ s, I s → J s) : Al r1 r2 J a b := by
  cases h with
  | nx h => exact .nx (q _ h)
  | rt => exact .rt
/-- one of them alone -/
def Ok1 {S R : Type} (r : R) (I : S → Prop) (b : Option (Ctl S R)) : Prop := b = some (.rt r) ∨ ∃ s, b = some (.nx s) ∧ I s
theorem al_ok {S R1 R2 : Type} {r1 : R1} {r2 : R2} {I : S → Prop} {a : Option (Ctl S R1)} {b : Option (Ctl S R2)} (h : Al r1 r2 I a b) : Ok1 r2 I b := by
  cases h with
  | nx h => exact .inr ⟨_, rfl, h⟩
  | rt => exact .inl rfl
theorem forC_ok {β S R : Type} {g : β → S → Option (Ctl S R)} {r : R} (I : Nat → S → Prop) : ∀ {xs : List β} {n : Nat} {s : S}, I n s → (∀ (i : Nat) (hi : i < xs.length) s, I (n + i) s → Ok1 r (I (n + i + 1)) (g xs[i] s)) → Ok1 r (I (n + xs.length)) (forC g xs s)
  | [], n, s, h, _ => .inr ⟨s, rfl, h⟩
  | x :: xs, n, s, h, hs => by
    have h0 : Ok1 r (I (n + 1)) (g x s) := hs 0 (by rw [List.length_cons]; omega) s h
    unfold forC
    rcases h0 with e | ⟨s1, e, h1⟩
    · rw [e]
      exact .inl rfl
    · rw [e, bs]
      have q := forC_ok I (xs := xs) (n := n + 1) (g := g) (r := r) h1 (fun i hi s hI => by
        have q := hs (i + 1) (by rw [List.length_cons]; omega) s (by rw [show n + (i + 1) = n + 1 + i by omega]; exact hI)
        rw [show n + (i + 1) + 1 = n + 1 + i + 1 by omega] at q
        exact q)
      rw [show n + (x :: xs).length = n + 1 + xs.length by rw [List.length_cons]; omega]
      exact q
/-! one sign -/
def ABC : Str := "abcdef"
theorem low_ok : ∀ (c : Fin 6) (m : Fin 7), Txt.find SIGNS ⟨#[97 + c.val]⟩ = (c.val : Int) ∧ ((cutSO ABC none (some (m.val : Int))).bind fun cs => inSO ⟨#[97 + c.val]⟩ cs) = some (decide (c.val < m.val)) ∧ sixO ABC ⟨#[97 + c.val]⟩ = some (c.val : Int) := by decide +kernel
theorem cut_ok : ∀ m : Fin 7, ∃ cs, cutSO ABC none (some (m.val : Int)) = some cs ∧ (cs.cps.toList.all fun c => decide (97 ≤ c ∧ c < 103)) = true := by
  intro m
  refine ⟨cutS ABC none (some (m.val : Int)), rfl, ?_⟩
  revert m
  decide +kernel
theorem head_ok : ∀ i : Fin 6, Builtin.Str.strSub SIGNS i.val (i.val + 1) = ⟨#[97 + i.val]⟩ := by decide +kernel
theorem high_find {c : Nat} (h : ¬ (97 ≤ c ∧ c < 103)) {m : Nat} (hm : m ≤ 6) : ¬ (0 ≤ Txt.find SIGNS ⟨#[c]⟩ ∧ Txt.find SIGNS ⟨#[c]⟩ < (m : Int)) := by
  intro ⟨h0, h1⟩
  rcases PyProof.Rows.find_spec SIGNS ⟨#[c]⟩ with e | ⟨i, e, _, e2⟩
  · omega
  · have hi : i < 6 := by omega
    have e3 := (head_ok ⟨i, hi⟩).symm.trans e2
    have e4 : 97 + i = c := by
      have := congrArg (fun s : Str => s.cps.toList) e3
      have this : [97 + i] = [c] := this
      exact (List.cons.inj this).1
    omega
theorem high_in {c : Nat} (h : ¬ (97 ≤ c ∧ c < 103)) {m : Nat} (hm : m ≤ 6) : ((cutSO ABC none (some (m : Int))).bind fun cs => inSO ⟨#[c]⟩ cs) = some false := by
  obtain ⟨cs, e, hc⟩ := cut_ok ⟨m, by omega⟩
  have e : cutSO ABC none (some (m : Int)) = some cs := e
  rw [e, bs]
  show some (decide (c ∈ cs.cps.toList)) = _
  rw [decide_eq_false]
  intro z
  exact h (of_decide_eq_true (List.all_eq_true.mp hc c z))
theorem low_at {c m : Nat} (h0 : 97 ≤ c) (h1 : c < 103) (hm : m ≤ 6) : Txt.find SIGNS ⟨#[c]⟩ = ((c - 97 : Nat) : Int) ∧ ((cutSO ABC none (some (m : Int))).bind fun cs => inSO ⟨#[c]⟩ cs) = some (decide (c - 97 < m)) ∧ sixO ABC ⟨#[c]⟩ = some ((c - 97 : Nat) : Int) := by
  have := low_ok ⟨c - 97, by omega⟩ ⟨m, by omega⟩
  rw [show 97 + (c - 97) = c by omega] at this
  exact this
/-! the cells of a name, in their order -/
def lexC (a b : Cl) : Prop := a.2.1 < b.2.1 ∨ (a.2.1 = b.2.1 ∧ a.1 < b.1)
structure Cs (W k x N : Nat) (d : Dc Str (List Cl)) : Prop where
  len : d.l.length ≤ N
  v : ∀ n l, getD d.l n = some l → l ≠ [] ∧ l.length ≤ N ∧ l.Pairwise lexC ∧ ∀ c ∈ l, (0 ≤ c.1 ∧ c.1 < (W : Int)) ∧ 0 ≤ c.2.1 ∧ (c.2.1 < (k : Int) ∨ c.2.1 = (k : Int) ∧ c.1 < (x : Int))
theorem Cs.step {W k x N : Nat} {d : Dc Str (List Cl)} (h : Cs W k x N d) : Cs W k (x + 1) (N + 1) d :=
  ⟨Nat.le_succ_of_le h.len, fun n l hl => by
    obtain ⟨a, b, c, e⟩ := h.v n l hl
    refine ⟨a, Nat.le_succ_of_le b, c, fun y hy => ?_⟩
    obtain ⟨e1, e2, e3⟩ := e y hy
    refine ⟨e1, e2, ?_⟩
    rcases e3 with e3 | ⟨e3, e4⟩
    · exact .inl e3
    · exact .inr ⟨e3, by omega⟩⟩
theorem Cs.turn {W k N : Nat} {d : Dc Str (List Cl)} (h : Cs W k W N d) : Cs W (k + 1) 0 N d :=
  ⟨h.len, fun n l hl => by
    obtain ⟨a, b, c, e⟩ := h.v n l hl
    refine ⟨a, b, c, fun y hy => ?_⟩
    obtain ⟨e1, e2, e3⟩ := e y hy
    refine ⟨e1, e2, .inl ?_⟩
    rcases e3 with e3 | ⟨e3, e4⟩ <;> omega⟩
theorem Cs.put {W k x N : Nat} {d : Dc Str (List Cl)} (h : Cs W k x N d) (hx : x < W) (hN : N < 900000) (n : Str) : ∃ d', sdO d n ((x : Int), (k : Int), ()) = some d' ∧ Cs W k (x + 1) (N + 1) d' := by
  obtain ⟨d', e1, e2, e3⟩ := sd_ok (d := d) (k := n) (x := ((x : Int), (k : Int), ())) (by have := h.len; omega) (fun v hv => by
    have := (h.v n v hv).2.1
    omega)
  refine ⟨d', e1, by have := h.len; omega, fun m l hl => ?_⟩
  rw [e2] at hl
  by_cases e : m = n
  · rw [if_pos e] at hl
    cases hl
    cases hg : getD d.l n with
    | none =>
      refine ⟨by simp, by show 1 ≤ _; omega, List.pairwise_singleton _ _, fun y hy => ?_⟩
      obtain rfl := List.mem_singleton.mp hy
      exact ⟨⟨by show (0 : Int) ≤ (x : Int); omega, by show (x : Int) < _; omega⟩, by show (0 : Int) ≤ (k : Int); omega, .inr ⟨rfl, by show (x : Int) < _; omega⟩⟩
    | some v =>
      obtain ⟨a, b, c, q⟩ := h.v n v hg
      show v ++ [_] ≠ [] ∧ (v ++ [_]).length ≤ _ ∧ (v ++ [_]).Pairwise lexC ∧ ∀ y ∈ v ++ [_], _
      refine ⟨by simp, by rw [List.length_append, List.length_singleton]; omega, ?_, fun y hy => ?_⟩
      · refine List.pairwise_append.mpr ⟨c, List.pairwise_singleton _ _, fun y hy z hz => ?_⟩
        obtain rfl := List.mem_singleton.mp hz
        obtain ⟨_, _, e3⟩ := q y hy
        rcases e3 with e3 | ⟨e3, e4⟩
        · exact .inl e3
        · exact .inr ⟨e3, e4⟩
      · rcases List.mem_append.mp hy with hy | hy
        · obtain ⟨e1, e2, e3⟩ := q y hy
          refine ⟨e1, e2, ?_⟩
          rcases e3 with e3 | ⟨e3, e4⟩
          · exact .inl e3
          · exact .inr ⟨e3, by omega⟩
        · obtain rfl := List.mem_singleton.mp hy
          exact ⟨⟨by show (0 : Int) ≤ (x : Int); omega, by show (x : Int) < _; omega⟩, by show (0 : Int) ≤ (k : Int); omega, .inr ⟨rfl, by show (x : Int) < _; omega⟩⟩
  · rw [if_neg e] at hl
    exact h.step.v m l hl
abbrev Pd := Dc Str P4
def NR : Er Pd := Er.ex ⟨"NoRead", []⟩
theorem L2_al {names : List Str} (hm : names.length ≤ 6) {W k x N c : Nat} {d : Dc Str (List Cl)} (hx : x < W) (hN : N < 900000) (h : Cs W k x N d) :
    Al NR none (Cs W k (x + 1) (N + 1)) (m_read_floor_L2 (Fz.mk names) (k : Int) ((x : Int), ⟨#[c]⟩, ()) d) (m__law_read_L2 (Fz.mk names) (k : Int) ((x : Int), ⟨#[c]⟩, ()) d) := by
  unfold m_read_floor_L2 m__law_read_L2
  dsimp only
  by_cases hd : (⟨#[c]⟩ : Str) = "."
  · rw [decide_eq_true hd]
    exact .nx h.step
  · rw [decide_eq_false hd]
    have e0 : ∀ (α : Type) (x y : Option α), (if (!false) = true then x else y) = x := fun _ _ _ => rfl
    have e0f : ∀ (α : Type) (x y : Option α), (if false = true then x else y) = y := fun _ _ _ => rfl
    have e0t : ∀ (α : Type) (x y : Option α), (if true = true then x else y) = x := fun _ _ _ => rfl
    rw [e0, e0]
    rw [bs]
    have es : ("abcdefghijklmnopqrstuvwxyzABCDEFGHIJKLMNOPQRSTUVWXYZ01234567" : Str) = SIGNS := rfl
    have ea : ("abcdef" : Str) = ABC := rfl
    rw [es, ea]
    have en : ∀ cs : Option Bool, (cs.bind fun is => some (!is)) = cs.map (!·) := fun cs => by cases cs <;> rfl
    have eb : ((cutSO ABC none (some ((names.length : Nat) : Int))).bind fun cs => (inSO ⟨#[c]⟩ cs).bind fun is => some (!is)) = (((cutSO ABC none (some ((names.length : Nat) : Int))).bind fun cs => inSO ⟨#[c]⟩ cs).bind fun is => some (!is)) := by
      rw [Option.bind_assoc]
    show Al NR none _ _ ((((cutSO ABC none (some ((names.length : Nat) : Int))).bind fun cs => (inSO ⟨#[c]⟩ cs).bind fun is => some (!is)).bind _))
    rw [eb]
    by_cases hc : 97 ≤ c ∧ c < 103
    · obtain ⟨f1, f2, f3⟩ := low_at hc.1 hc.2 hm
      rw [f1, f2, f3, bs, bs]
      by_cases hl : c - 97 < names.length
      · rw [decide_eq_true hl]
        have e4 : ((decide ((0 : Int) ≤ ((c - 97 : Nat) : Int))) && (decide (((c - 97 : Nat) : Int) < ((Fz.mk names).l.length : Int)))) = true := by
          rw [Bool.and_eq_true]
          exact ⟨decide_eq_true (by omega), decide_eq_true (by show ((c - 97 : Nat) : Int) < (names.length : Int); omega)⟩
        rw [e4]
        obtain ⟨nm, hnm⟩ : ∃ nm, names[c - 97]? = some nm := ⟨_, List.getElem?_eq_getElem hl⟩
        obtain ⟨d', q1, q2⟩ := h.put hx hN nm
        rw [if_neg (show ¬ (!true) = true from fun z => nomatch z), if_neg (show ¬ (!true) = true from fun z => nomatch z), e0, bs]
        show Al NR none _ ((atI names ((c - 97 : Nat) : Int)).bind _) ((atI names ((c - 97 : Nat) : Int)).bind _)
        rw [atI_nat hnm, bs, bs, q1, bs, bs]
        exact .nx q2
      · rw [decide_eq_false hl]
        have e4 : ((decide ((0 : Int) ≤ ((c - 97 : Nat) : Int))) && (decide (((c - 97 : Nat) : Int) < ((Fz.mk names).l.length : Int)))) = false := by
          rw [Bool.and_eq_false_iff]
          exact .inr (decide_eq_false (by show ¬ ((c - 97 : Nat) : Int) < (names.length : Int); omega))
        rw [e4]
        exact .rt
    · rw [high_in hc hm, bs, bs]
      have e4 : ((decide ((0 : Int) ≤ Txt.find SIGNS ⟨#[c]⟩)) && (decide (Txt.find SIGNS ⟨#[c]⟩ < ((Fz.mk names).l.length : Int)))) = false := by
        have := high_find hc hm
        rw [Bool.and_eq_false_iff]
        by_cases z : 0 ≤ Txt.find SIGNS ⟨#[c]⟩
        · exact .inr (decide_eq_false fun y => this ⟨z, y⟩)
        · exact .inl (decide_eq_false z)
      rw [e4]
      exact .rt
theorem sgn_at {s : Str} {i : Nat} {z : Str} (h : (sgn s)[i]? = some z) : ∃ c, z = ⟨#[c]⟩ := by
  unfold sgn at h
  rw [List.getElem?_map] at h
  obtain ⟨c, _, rfl⟩ := Option.map_eq_some_iff.mp h
  exact ⟨c, rfl⟩
theorem sgn_len (s : Str) : (sgn s).length = s.length := by
  unfold sgn
  rw [List.length_map, Array.length_toList]
  rfl
theorem row_al {names : List Str} (hm : names.length ≤ 6) {W k N : Nat} {row : Str} {d : Dc Str (List Cl)} (hr : row.length = W) (hN : N + W < 900000) (h : Cs W k 0 N d) :
    Al NR none (Cs W (k + 1) 0 (N + W)) (forC (m_read_floor_L2 (Fz.mk names) (k : Int)) (enumI (sgn row)) d) (forC (m__law_read_L2 (Fz.mk names) (k : Int)) (enumI (sgn row)) d) := by
  have hl : (enumI (sgn row)).length = W := by rw [enumI_len, sgn_len, hr]
  have q := forC_al (f := m_read_floor_L2 (Fz.mk names) (k : Int)) (g := m__law_read_L2 (Fz.mk names) (k : Int)) (r1 := NR) (r2 := none) (fun i d => Cs W k i (N + i) d) (xs := enumI (sgn row)) (n := 0) (s := d) h (fun i hi s hI => by
    rw [Nat.zero_add] at hI ⊢
    rw [enumI_at]
    have hi2 : i < (sgn row).length := by rw [enumI_len] at hi; exact hi
    obtain ⟨c, hc⟩ := sgn_at (List.getElem?_eq_getElem hi2)
    have e : (sgn row)[i]'hi2 = ⟨#[c]⟩ := hc
    rw [e]
    have hiW : i < W := by rw [hl] at hi; exact hi
    exact L2_al (N := N + i) hm hiW (by omega) hI)
  refine al_mono q fun s hs => ?_
  rw [Nat.zero_add, hl] at hs
  exact hs.turn
/-! a box, row by row -/
theorem lex_irr (a : Cl) : ¬ lexC a a := fun h => by rcases h with h | ⟨_, h⟩ <;> omega
theorem lex_asy {a b : Cl} (h : lexC a b) (h2 : lexC b a) : False := by
  rcases h with h | ⟨h, h'⟩ <;> rcases h2 with h2 | ⟨h2, h2'⟩ <;> omega
theorem sorted_eq : ∀ {xs ys : List Cl}, xs.Pairwise lexC → ys.Pairwise lexC → (∀ c, c ∈ xs ↔ c ∈ ys) → xs = ys
  | [], [], _, _, _ => rfl
  | [], y :: ys, _, _, h => absurd ((h y).mpr List.mem_cons_self) List.not_mem_nil
  | x :: xs, [], _, _, h => absurd ((h x).mp List.mem_cons_self) List.not_mem_nil
  | x :: xs, y :: ys, h1, h2, h => by
    obtain ⟨a1, b1⟩ := List.pairwise_cons.mp h1
    obtain ⟨a2, b2⟩ := List.pairwise_cons.mp h2
    have e : x = y := by
      rcases List.mem_cons.mp ((h x).mp List.mem_cons_self) with e | hx
      · exact e
      · rcases List.mem_cons.mp ((h y).mpr List.mem_cons_self) with e | hy
        · exact e.symm
        · exact (lex_asy (a1 y hy) (a2 x hx)).elim
    subst e
    rw [sorted_eq b1 b2 fun c => ?_]
    constructor
    · intro hc
      rcases List.mem_cons.mp ((h c).mp (List.mem_cons_of_mem _ hc)) with e | q
      · subst e
        exact (lex_irr _ (a1 _ hc)).elim
      · exact q
    · intro hc
      rcases List.mem_cons.mp ((h c).mpr (List.mem_cons_of_mem _ hc)) with e | q
      · subst e
        exact (lex_irr _ (a2 _ hc)).elim
      · exact q
theorem sorted_nodup {xs : List Cl} (h : xs.Pairwise lexC) : xs.Nodup := h.imp fun {a b} q e => by
  subst e
  exact lex_irr _ q
theorem irange_sorted (a b : Int) : (irange a b).Pairwise (· < ·) := by
  refine List.pairwise_iff_getElem.mpr fun i j hi hj hij => ?_
  have ei : ∀ (k : Nat) (hk : k < (irange a b).length), (irange a b)[k] = a + (k : Int) := fun k hk => by simp [irange]
  rw [ei, ei]
  omega
theorem cells_sorted (p : P4) : (cellsR p).Pairwise lexC := by
  unfold cellsR
  refine List.pairwise_flatMap.mpr ⟨fun r hr => ?_, ?_⟩
  · refine List.Pairwise.map _ (R := fun a b => a < b) ?_ (irange_sorted _ _)
    intro a b hab
    exact .inr ⟨rfl, hab⟩
  · refine List.Pairwise.imp ?_ (irange_sorted _ _)
    intro a b hab d h1 d2 h2
    obtain ⟨x, _, rfl⟩ := List.mem_map.mp h1
    obtain ⟨y, _, rfl⟩ := List.mem_map.mp h2
    exact .inl hab
/-- the law's own row of places -/
def gdL (x y w h : Int) : List Cl := (irange 0 (w * h)).map fun k => (x + k % w, y + k / w, ())
theorem gd_sorted (x y : Int) {w : Int} (h : Int) (hw : 0 < w) : (gdL x y w h).Pairwise lexC := by
  unfold gdL
  refine List.Pairwise.map _ (R := fun a b => a < b) ?_ (irange_sorted _ _)
  intro a b hab
  have h1 : a / w ≤ b / w := Int.ediv_le_ediv hw (by omega)
  by_cases e : a / w = b / w
  · refine .inr ⟨by show y + a / w = y + b / w; rw [e], ?_⟩
    show x + a % w < x + b % w
    have := Int.mul_ediv_add_emod a w
    have := Int.mul_ediv_add_emod b w
    rw [e] at *
    omega
  · exact .inl (by show y + a / w < y + b / w; omega)
theorem gd_mem (x y : Int) {w h : Int} (hw : 0 < w) (c : Cl) : c ∈ gdL x y w h ↔ inR (x, y, w, h, ()) c := by
  unfold gdL
  rw [List.mem_map]
  constructor
  · rintro ⟨k, hk, rfl⟩
    obtain ⟨k0, k1⟩ := mem_irange.mp hk
    have a1 := Int.emod_nonneg k (show w ≠ 0 by omega)
    have a2 := Int.emod_lt_of_pos k hw
    have a3 : 0 ≤ k / w := Int.ediv_nonneg k0 (by omega)
    have a4 : k / w < h := Int.ediv_lt_of_lt_mul hw (by rw [Int.mul_comm]; exact k1)
    exact ⟨⟨by show x ≤ x + k % w; omega, by show x + k % w < x + w; omega⟩, by show y ≤ y + k / w; omega, by show y + k / w < y + h; omega⟩
  · rintro ⟨⟨h1, h2⟩, h3, h4⟩
    have h1 : x ≤ c.1 := h1
    have h2 : c.1 < x + w := h2
    have h3 : y ≤ c.2.1 := h3
    have h4 : c.2.1 < y + h := h4
    have em : ((c.2.1 - y) * w + (c.1 - x)) % w = c.1 - x := by
      rw [Int.add_comm, Int.add_mul_emod_self_right, Int.emod_eq_of_lt (by omega) (by omega)]
    have ed : ((c.2.1 - y) * w + (c.1 - x)) / w = c.2.1 - y := by
      rw [Int.add_comm, Int.add_mul_ediv_right _ _ (by omega), Int.ediv_eq_zero_of_lt (by omega) (by omega)]
      omega
    refine ⟨(c.2.1 - y) * w + (c.1 - x), mem_irange.mpr ⟨?_, ?_⟩, ?_⟩
    · have := Int.mul_nonneg (show 0 ≤ c.2.1 - y by omega) (show 0 ≤ w by omega)
      omega
    · have e1 : (c.2.1 - y) * w + w = (c.2.1 - y + 1) * w := by rw [Int.add_mul, Int.one_mul]
      have e2 : (c.2.1 - y + 1) * w ≤ h * w := Int.mul_le_mul_of_nonneg_right (by omega) (by omega)
      rw [Int.mul_comm w h]
      omega
    · rw [em, ed]
      obtain ⟨a, b, u⟩ := c
      show (x + (a - x), y + (b - y), ()) = (a, b, ())
      rw [show x + (a - x) = a by omega, show y + (b - y) = b by omega]
theorem gd_cells (x y : Int) {w : Int} (h : Int) (hw : 0 < w) : gdL x y w h = cellsR (x, y, w, h, ()) := sorted_eq (gd_sorted x y h hw) (cells_sorted _) fun c => by rw [gd_mem x y hw, mem_cells]
theorem first_row {x y w h : Int} (hh : 0 < h) : ((cellsR (x, y, w, h, ())).filter fun c => decide (c.2.1 = y)).length = w.toNat := by
  have e : ((cellsR (x, y, w, h, ())).filter fun c => decide (c.2.1 = y)).Perm ((irange x (x + w)).map fun c => ((c, y, ()) : Cl)) := by
    refine (List.perm_ext_iff_of_nodup ((cells_nodup _).filter _) ?_).mpr fun c => ?_
    · refine List.Pairwise.map _ (R := fun a b => a ≠ b) ?_ (irange_nodup _ _)
      intro a b hab e
      exact hab (congrArg (fun d : Cl => d.1) e)
    · rw [List.mem_filter, mem_cells, decide_eq_true_eq, List.mem_map]
      constructor
      · rintro ⟨⟨⟨h1, h2⟩, _⟩, h3⟩
        refine ⟨c.1, mem_irange.mpr ⟨h1, h2⟩, ?_⟩
        obtain ⟨a, b, u⟩ := c
        have h3 : b = y := h3
        rw [h3]
      · rintro ⟨k, hk, rfl⟩
        obtain ⟨h1, h2⟩ := mem_irange.mp hk
        exact ⟨⟨⟨h1, h2⟩, by show y ≤ y; omega, by show y < y + h; omega⟩, rfl⟩
  rw [e.length_eq, List.length_map, irange_len]
  congr 1
  omega
/-! one name -/
theorem prog_L3 {cells : Dc Str (List Cl)} {n : Str} {l : List Cl} {pl : Pd} (hc : getD cells.l n = some l) (hne : l ≠ []) (hl : l.length < 1000000) (hb : ∀ c ∈ l, (0 ≤ c.1 ∧ c.1 < 200) ∧ 0 ≤ c.2.1 ∧ c.2.1 < 200) (hp : pl.l.length < 1000000) :
    ∃ m1 m2 m3 m4, ((m1 ∈ l.map (·.1)) ∧ ∀ c ∈ l, m1 ≤ c.1) ∧ ((m2 ∈ l.map (·.2.1)) ∧ ∀ c ∈ l, m2 ≤ c.2.1) ∧ ((m3 ∈ l.map (·.1)) ∧ ∀ c ∈ l, c.1 ≤ m3) ∧ ((m4 ∈ l.map (·.2.1)) ∧ ∀ c ∈ l, c.2.1 ≤ m4) ∧
      m_read_floor_L3 cells n pl = some (if (l.length : Int) = (m3 - m1 + 1) * (m4 - m2 + 1) then .nx ⟨putD pl.l n (m1, m2, m3 - m1 + 1, m4 - m2 + 1, ())⟩ else .rt NR) := by
  have e1 : lcM (fun _ => some true) (fun (column, row, _) => (some column)) l = some (l.map (·.1)) := lcM_all (fun c : Cl => c.1) hl fun c _ => by obtain ⟨a, b, u⟩ := c; rfl
  have e2 : lcM (fun _ => some true) (fun (column, row, _) => (some row)) l = some (l.map (·.2.1)) := lcM_all (fun c : Cl => c.2.1) hl fun c _ => by obtain ⟨a, b, u⟩ := c; rfl
  have ne1 : l.map (·.1) ≠ [] := fun z => hne (List.map_eq_nil_iff.mp z)
  have ne2 : l.map (·.2.1) ≠ [] := fun z => hne (List.map_eq_nil_iff.mp z)
  obtain ⟨m1, hm1⟩ := minL_ex ne1
  obtain ⟨m2, hm2⟩ := minL_ex ne2
  obtain ⟨m3, hm3⟩ := maxL_ex ne1
  obtain ⟨m4, hm4⟩ := maxL_ex ne2
  obtain ⟨a1, b1⟩ := minL_spec hm1
  obtain ⟨a2, b2⟩ := minL_spec hm2
  obtain ⟨a3, b3⟩ := maxL_spec hm3
  obtain ⟨a4, b4⟩ := maxL_spec hm4
  refine ⟨m1, m2, m3, m4, ⟨a1, fun c hc => b1 _ (List.mem_map.mpr ⟨c, hc, rfl⟩)⟩, ⟨a2, fun c hc => b2 _ (List.mem_map.mpr ⟨c, hc, rfl⟩)⟩, ⟨a3, fun c hc => b3 _ (List.mem_map.mpr ⟨c, hc, rfl⟩)⟩, ⟨a4, fun c hc => b4 _ (List.mem_map.mpr ⟨c, hc, rfl⟩)⟩, ?_⟩
  have r1 : 0 ≤ m1 := by
    obtain ⟨c, hc, rfl⟩ := List.mem_map.mp a1
    exact (hb c hc).1.1
  have r3 : m3 < 200 := by
    obtain ⟨c, hc, rfl⟩ := List.mem_map.mp a3
    exact (hb c hc).1.2
  have r3' : m1 ≤ m3 := by
    obtain ⟨c, hc, rfl⟩ := List.mem_map.mp a3
    exact b1 _ (List.mem_map.mpr ⟨c, hc, rfl⟩)
  unfold m_read_floor_L3
  rw [hc]
  rw [if_neg (show ¬ (!(some l).isSome) = true from fun z => nomatch z), bs, e1, bs, bs, bs, e2, bs, bs, hm1, bs, hm2, bs, hm3, bs, bs, hm4, bs, bs, bs, bs]
  rw [mulO_ok (by show (-18446744073709551616 : Int) < m3 - m1 + 1; omega) (by show m3 - m1 + 1 < (18446744073709551616 : Int); omega), bs]
  by_cases e : (l.length : Int) = (m3 - m1 + 1) * (m4 - m2 + 1)
  · rw [if_pos e, decide_eq_true e]
    show ((putO pl n (m1, m2, m3 - m1 + 1, m4 - m2 + 1, ())).bind _) = _
    rw [putO_ok hp]
    rfl
  · rw [if_neg e, decide_eq_false e]
    rfl
theorem law_L3 {cells : Dc Str (List Cl)} {n : Str} {c : Cl} {r : List Cl} {pl : Pd} (hc : getD cells.l n = some (c :: r)) (hl : (c :: r).length < 100000) (hp : pl.l.length < 1000000) :
    ∃ w : Nat, 1 ≤ w ∧ w = ((c :: r).filter fun d => decide (d.2.1 = c.2.1)).length ∧
      m__law_read_L3 cells n pl = some (if (c :: r) = gdL c.1 c.2.1 (w : Int) (((c :: r).length / w : Nat) : Int) then .nx ⟨putD pl.l n (c.1, c.2.1, (w : Int), (((c :: r).length / w : Nat) : Int), ())⟩ else .rt none) := by
  obtain ⟨x, y, u⟩ := c
  refine ⟨((((x, y, u) : Cl) :: r).filter fun d => decide (d.2.1 = y)).length, ?_, rfl, ?_⟩
  · rw [List.filter_cons_of_pos (by exact decide_eq_true rfl)]
    exact Nat.succ_le_succ (Nat.zero_le _)
  generalize hw : ((((x, y, u) : Cl) :: r).filter fun d => decide (d.2.1 = y)).length = w
  have w1 : 1 ≤ w := by
    rw [← hw, List.filter_cons_of_pos (by exact decide_eq_true rfl)]
    exact Nat.succ_le_succ (Nat.zero_le _)
  have w2 : w ≤ (((x, y, u) : Cl) :: r).length := by
    rw [← hw]
    exact List.length_filter_le _ _
  have e1 : lcM (fun cell : Cl => (some (decide (cell.2.1 = y)))) (fun cell => (some cell)) (((x, y, u) : Cl) :: r) = some ((((x, y, u) : Cl) :: r).filter fun d => decide (d.2.1 = y)) := by
    rw [lcM_len (by omega), lcGo_if (fun d : Cl => decide (d.2.1 = y)) (fun d : Cl => d) (fun _ _ => rfl) (fun _ _ _ => rfl), List.map_id']
  unfold m__law_read_L3
  rw [hc]
  rw [if_neg (show ¬ (!(some (((x, y, u) : Cl) :: r)).isSome) = true from fun z => nomatch z), bs]
  rw [show atI (((x, y, u) : Cl) :: r) (0 : Int) = some (x, y, u) from atI_nat (j := 0) rfl, bs, bs]
  dsimp only
  rw [bs, e1, bs, bs, bs]
  rw [hw]
  generalize hq : (((x, y, u) : Cl) :: r) = l at *
  have ed : divO (l.length : Int) (w : Int) = some (((l.length / w : Nat)) : Int) := by
    unfold divO
    rw [if_pos ⟨by omega, by omega⟩]
    congr 1
  rw [ed, bs, bs, bs, mulO_ok (by omega) (by omega), bs]
  have hm : w * (l.length / w) ≤ l.length := Nat.mul_div_le _ _
  have hm2 : (w : Int) * ((l.length / w : Nat) : Int) ≤ (l.length : Int) := by
    have := Int.ofNat_le.mpr hm
    rw [Int.natCast_mul] at this
    exact this
  have hm0 : 0 ≤ (w : Int) * ((l.length / w : Nat) : Int) := Int.mul_nonneg (by omega) (Int.natCast_nonneg _)
  rw [rngO_ok (by omega) (by omega) (by omega) (by omega), bs]
  rw [lcM_all (fun k => ((x + k % (w : Int), y + k / (w : Int), ()) : Cl)) (by rw [irange_len]; omega) (fun k _ => by
    rw [modO_ok (by omega), bs]
    unfold divO
    rw [if_pos ⟨by omega, by omega⟩]
    rfl), bs]
  show (if (!decide (l = gdL x y (w : Int) ((l.length / w : Nat) : Int))) = true then _ else _) = _
  by_cases e : l = gdL x y (w : Int) ((l.length / w : Nat) : Int)
  · rw [if_pos e, decide_eq_true e, if_neg (show ¬ (!true) = true from fun z => nomatch z), putO_ok hp]
    rfl
  · rw [if_neg e, decide_eq_false e]
    rfl
theorem L3_al {cells : Dc Str (List Cl)} {W H N : Nat} (hW : W ≤ 200) (hH : H ≤ 200) (h : Cs W H 0 N cells) (hN : N ≤ 40000) {pl : Pd} (hp : pl.l.length < 1000000) (n : Str) :
    Al NR none (fun q => ∃ p, q = ⟨putD pl.l n p⟩) (m_read_floor_L3 cells n pl) (m__law_read_L3 cells n pl) := by
  cases hc : getD cells.l n with
  | none =>
    unfold m_read_floor_L3 m__law_read_L3
    rw [hc]
    exact .rt
  | some l =>
    obtain ⟨v1, v2, v3, v4⟩ := h.v n l hc
    obtain ⟨c, r, rfl⟩ : ∃ c r, l = c :: r := by
      cases l with
      | nil => exact absurd rfl v1
      | cons c r => exact ⟨c, r, rfl⟩
    have hb : ∀ d ∈ c :: r, (0 ≤ d.1 ∧ d.1 < 200) ∧ 0 ≤ d.2.1 ∧ d.2.1 < 200 := fun d hd => by
      obtain ⟨⟨q1, q2⟩, q3, q4⟩ := v4 d hd
      refine ⟨⟨q1, by omega⟩, q3, ?_⟩
      rcases q4 with q4 | ⟨q4, q5⟩ <;> omega
    obtain ⟨m1, m2, m3, m4, ⟨a1, b1⟩, ⟨a2, b2⟩, ⟨a3, b3⟩, ⟨a4, b4⟩, e1⟩ := prog_L3 hc v1 (by omega) hb hp
    obtain ⟨w, w1, ew, e2⟩ := law_L3 hc (by omega) hp
    rw [e1, e2]
    have hlen : 1 ≤ (c :: r).length := by rw [List.length_cons]; omega
    by_cases hg : (c :: r) = gdL c.1 c.2.1 (w : Int) (((c :: r).length / w : Nat) : Int)
    · rw [if_pos hg]
      generalize hh : (c :: r).length / w = q at hg
      have hmem : ∀ d, d ∈ c :: r ↔ inR (c.1, c.2.1, (w : Int), (q : Int), ()) d := fun d => by
        have := gd_mem c.1 c.2.1 (w := (w : Int)) (h := (q : Int)) (by omega) d
        rw [← hg] at this
        exact this
      have hll : (((c :: r).length : Nat) : Int) = (w : Int) * (q : Int) := by
        have e := congrArg List.length hg
        unfold gdL at e
        rw [List.length_map, irange_len] at e
        have : 0 ≤ (w : Int) * (q : Int) := Int.mul_nonneg (by omega) (by omega)
        omega
      have q1 : 1 ≤ (q : Int) := by
        rcases Nat.eq_zero_or_pos q with z | z
        · rw [z] at hll
          simp only [Int.natCast_zero, Int.mul_zero] at hll
          omega
        · omega
      have hin : ∀ a b : Int, c.1 ≤ a → a < c.1 + w → c.2.1 ≤ b → b < c.2.1 + q → (a, b, ()) ∈ c :: r := fun a b h1 h2 h3 h4 => (hmem _).mpr ⟨⟨h1, h2⟩, h3, h4⟩
      have hout : ∀ d ∈ c :: r, (c.1 ≤ d.1 ∧ d.1 < c.1 + w) ∧ c.2.1 ≤ d.2.1 ∧ d.2.1 < c.2.1 + q := fun d hd => (hmem d).mp hd
      have r1 : m1 = c.1 := by
        obtain ⟨d, hd, rfl⟩ := List.mem_map.mp a1
        have := b1 _ (hin c.1 c.2.1 (by omega) (by omega) (by omega) (by omega))
        have this : d.1 ≤ c.1 := this
        have := hout d hd
        omega
      have r2 : m2 = c.2.1 := by
        obtain ⟨d, hd, rfl⟩ := List.mem_map.mp a2
        have := b2 _ (hin c.1 c.2.1 (by omega) (by omega) (by omega) (by omega))
        have this : d.2.1 ≤ c.2.1 := this
        have := hout d hd
        omega
      have r3 : m3 = c.1 + w - 1 := by
        obtain ⟨d, hd, rfl⟩ := List.mem_map.mp a3
        have := b3 _ (hin (c.1 + w - 1) c.2.1 (by omega) (by omega) (by omega) (by omega))
        have this : c.1 + w - 1 ≤ d.1 := this
        have := hout d hd
        omega
      have r4 : m4 = c.2.1 + q - 1 := by
        obtain ⟨d, hd, rfl⟩ := List.mem_map.mp a4
        have := b4 _ (hin c.1 (c.2.1 + q - 1) (by omega) (by omega) (by omega) (by omega))
        have this : c.2.1 + q - 1 ≤ d.2.1 := this
        have := hout d hd
        omega
      subst r1 r2 r3 r4
      rw [show c.1 + (w : Int) - 1 - c.1 + 1 = (w : Int) by omega, show c.2.1 + (q : Int) - 1 - c.2.1 + 1 = (q : Int) by omega, if_pos hll]
      exact .nx ⟨_, rfl⟩
    · rw [if_neg hg, if_neg]
      · exact .rt
      intro hcount
      refine hg ?_
      have hx1 : m1 ≤ m3 := by
        obtain ⟨d, hd, rfl⟩ := List.mem_map.mp a3
        exact b1 _ hd
      have hy1 : m2 ≤ m4 := by
        obtain ⟨d, hd, rfl⟩ := List.mem_map.mp a4
        exact b2 _ hd
      have hsub : ∀ d ∈ c :: r, d ∈ cellsR (m1, m2, m3 - m1 + 1, m4 - m2 + 1, ()) := fun d hd => mem_cells.mpr ⟨⟨b1 d hd, by have := b3 d hd; show d.1 < m1 + (m3 - m1 + 1); omega⟩, b2 d hd, by have := b4 d hd; show d.2.1 < m2 + (m4 - m2 + 1); omega⟩
      have hcl := cells_count (p := (m1, m2, m3 - m1 + 1, m4 - m2 + 1, ())) (by show 0 ≤ m3 - m1 + 1; omega) (by show 0 ≤ m4 - m2 + 1; omega)
      have hcl : ((cellsR (m1, m2, m3 - m1 + 1, m4 - m2 + 1, ())).length : Int) = (m3 - m1 + 1) * (m4 - m2 + 1) := hcl
      have heq : (c :: r) = cellsR (m1, m2, m3 - m1 + 1, m4 - m2 + 1, ()) := sorted_eq v3 (cells_sorted _) fun d => ⟨hsub d, fun hd => by
        by_cases z : d ∈ c :: r
        · exact z
        · have := List.Nodup.length_le_of_subset (List.nodup_cons.mpr ⟨z, sorted_nodup v3⟩) (l₂ := cellsR (m1, m2, m3 - m1 + 1, m4 - m2 + 1, ())) fun y hy => by
            rcases List.mem_cons.mp hy with rfl | hy
            · exact hd
            · exact hsub y hy
          have this : (c :: r).length + 1 ≤ _ := this
          omega⟩
      have ht : (m1, m2, ()) ∈ c :: r := by
        rw [heq]
        exact mem_cells.mpr ⟨⟨by show m1 ≤ m1; omega, by show m1 < m1 + (m3 - m1 + 1); omega⟩, by show m2 ≤ m2; omega, by show m2 < m2 + (m4 - m2 + 1); omega⟩
      have hc0 : c = (m1, m2, ()) := by
        rcases List.mem_cons.mp ht with e | ht
        · exact e.symm
        · have := (List.pairwise_cons.mp v3).1 _ ht
          have c1 := b1 c List.mem_cons_self
          have c2 := b2 c List.mem_cons_self
          rcases this with q | ⟨q, q2⟩
          · have q : c.2.1 < m2 := q
            omega
          · have q2 : c.1 < m1 := q2
            omega
      have hw : (w : Int) = m3 - m1 + 1 := by
        rw [ew, heq]
        have e : c.2.1 = m2 := by rw [hc0]
        rw [e, first_row (by omega)]
        omega
      have hq : (((c :: r).length / w : Nat) : Int) = m4 - m2 + 1 := by
        rw [Int.natCast_ediv, hcount, ← hw, Int.mul_ediv_cancel_left _ (by omega)]
      rw [hq, hw]
      have e1 : c.1 = m1 := by rw [hc0]
      have e2 : c.2.1 = m2 := by rw [hc0]
      rw [e1, e2, gd_cells _ _ _ (by omega)]
      exact heq
/-! texts that are read -/
theorem lenS_len {s : Str} (h : s.length ≤ 1000000) : lenS s = some (s.length : Int) := if_pos h
theorem at0 {α : Type} {xs : List α} {x : α} (h : xs[0]? = some x) : atI xs (0 : Int) = some x := atI_nat h
theorem L1_al {names rows : List Str} (hm : names.length ≤ 6) {W k N : Nat} {row s0 : Str} {d : Dc Str (List Cl)} (h0 : rows[0]? = some s0) (hs0 : s0.length = W) (hW : 1 ≤ W) (hW2 : W ≤ 100000) (hr : row.length = W) (hN : N + W < 900000) (h : Cs W k 0 N d) :
    Al NR none (Cs W (k + 1) 0 (N + W)) (m_read_floor_L1 (Fz.mk names) ((k : Int), row, ()) d) (m__law_read_L1 (Fz.mk names) rows ((k : Int), row, ()) d) := by
  unfold m_read_floor_L1 m__law_read_L1
  dsimp only
  have e1 : row ≠ "" := fun z => by
    rw [z] at hr
    have : 0 = W := hr
    omega
  rw [decide_eq_false e1, if_neg Bool.false_ne_true, lenS_len (by omega), bs, at0 h0, bs, lenS_len (by omega), bs, bs, hr, hs0, decide_eq_true rfl]
  have q := row_al (k := k) hm hr hN h
  rw [if_neg (show ¬ (!true) = true from fun z => nomatch z)]
  generalize forC (m_read_floor_L2 (Fz.mk names) (k : Int)) (enumI (sgn row)) d = a at q
  generalize forC (m__law_read_L2 (Fz.mk names) (k : Int)) (enumI (sgn row)) d = b at q
  cases q with
  | nx h => exact .nx h
  | rt => exact .rt
theorem L1_bad {names rows : List Str} {k : Int} {row s0 : Str} {d : Dc Str (List Cl)} (h0 : rows[0]? = some s0) (hl0 : s0.length ≤ 1000000) (hl : row.length ≤ 1000000) (hb : row = "" ∨ row.length ≠ s0.length) :
    m__law_read_L1 (Fz.mk names) rows (k, row, ()) d = some (.rt none) := by
  unfold m__law_read_L1
  dsimp only
  by_cases e : row = ""
  · rw [decide_eq_true e]
    rfl
  · rw [decide_eq_false e, if_neg Bool.false_ne_true, lenS_len hl, bs, at0 h0, bs, lenS_len hl0, bs, bs]
    have e2 : ¬ ((row.length : Int) = (s0.length : Int)) := fun z => by
      rcases hb with hb | hb
      · exact e hb
      · omega
    rw [decide_eq_false e2]
    rfl
def badR (s0 x : Str) : Bool := decide (x = "") || !decide ((x.length : Int) = (s0.length : Int))
theorem rowP {rows : List Str} {s0 : Str} (h0 : rows[0]? = some s0) (hl : ∀ r ∈ rows, r.length ≤ 1000000) {x : Str} (hx : x ∈ rows) : m_rows_of_floor_L1 rows x () = some (if badR s0 x = true then .rt (Er.ex ⟨"NoRead", []⟩) else .nx ()) := by
  unfold m_rows_of_floor_L1 badR
  by_cases e : x = ""
  · rw [decide_eq_true e]
    rfl
  · rw [decide_eq_false e, if_neg Bool.false_ne_true, lenS_len (hl x hx), bs, at0 h0, bs, lenS_len (hl s0 (List.mem_of_getElem? h0)), bs, bs, Bool.false_or]
    cases (!decide ((x.length : Int) = (s0.length : Int))) <;> rfl
theorem rowsP {t : Str} {rows : List Str} {s0 : Str} (hs : splitO t "\n" = some rows) (h0 : rows[0]? = some s0) (hl : ∀ r ∈ rows, r.length ≤ 1000000) :
    m_rows_of_floor (upD t) = some (if 200 < rows.length ∨ 200 < s0.length ∨ rows.any (badR s0) = true then Er.ex ⟨"NoRead", []⟩ else Er.ok rows) := by
  unfold m_rows_of_floor
  rw [if_neg (show ¬ (!(isiD (upD t) "str")) = true from fun z => nomatch z)]
  show ((some t).bind _) = _
  rw [bs, hs, bs, bs]
  by_cases c1 : 200 < rows.length
  · rw [decide_eq_true (show (200 : Int) < (rows.length : Int) by omega), if_pos (show 200 < rows.length ∨ 200 < s0.length ∨ rows.any (badR s0) = true from .inl c1)]
    rfl
  · rw [decide_eq_false (show ¬ (200 : Int) < (rows.length : Int) by omega), if_neg Bool.false_ne_true, at0 h0, bs, lenS_len (hl s0 (List.mem_of_getElem? h0)), bs, bs]
    by_cases c2 : 200 < s0.length
    · rw [decide_eq_true (show (200 : Int) < (s0.length : Int) by omega), if_pos (show 200 < rows.length ∨ 200 < s0.length ∨ rows.any (badR s0) = true from .inr (.inl c2))]
      rfl
    · rw [decide_eq_false (show ¬ (200 : Int) < (s0.length : Int) by omega), if_neg Bool.false_ne_true]
      rw [forC_any (badR s0) fun x hx => rowP h0 hl hx]
      by_cases c3 : rows.any (badR s0) = true
      · rw [if_pos c3, if_pos (show 200 < rows.length ∨ 200 < s0.length ∨ rows.any (badR s0) = true from .inr (.inr c3))]
        rfl
      · rw [if_neg c3, if_neg]
        · rfl
        · rintro (z | z | z)
          · exact c1 z
          · exact c2 z
          · exact c3 z
theorem putD_keys {β : Type} (l : List (Str × β)) (n : Str) (y : β) (h : (l.map (·.1)).Nodup) : ((putD l n y).map (·.1)).Nodup := by
  by_cases z : n ∈ l.map (·.1)
  · unfold putD
    split
    · rw [List.map_map]
      have e : (((fun kv : Str × β => kv.1) ∘ fun kv => if kv.1 = n then (kv.1, y) else kv)) = fun kv => kv.1 := funext fun kv => by
        show (if kv.1 = n then (kv.1, y) else kv).1 = kv.1
        by_cases e : kv.1 = n
        · rw [if_pos e]
        · rw [if_neg e]
      rw [e]
      exact h
    · rename_i q
      obtain ⟨kv, hkv, rfl⟩ := List.mem_map.mp z
      refine absurd ?_ q
      show ((l.find? _).map _).isSome = true
      rw [Option.isSome_map, List.find?_isSome]
      exact ⟨kv, hkv, decide_eq_true rfl⟩
  · rw [putD_new z, List.map_append]
    exact List.nodup_append.mpr ⟨h, by simp, fun a ha b hb e => z (by
      rw [List.map_singleton, List.mem_singleton] at hb
      have hb : b = n := hb
      rw [← hb, ← e]
      exact ha)⟩
theorem join_size (c : Nat) : ∀ (x : Str) (xs : List Str), (Str.join ⟨#[c]⟩ (x :: xs)).length = ((x :: xs).map (·.length)).sum + xs.length
  | x, [] => by
    show x.length = x.length + 0 + 0
    omega
  | x, y :: r => by
    have ih := join_size c y r
    have e := congrArg List.length (join_two (c := c) x y r)
    rw [List.length_append, List.length_cons, Array.length_toList, Array.length_toList, Array.length_toList] at e
    show (Str.join ⟨#[c]⟩ (x :: y :: r)).cps.size = _
    rw [e, List.map_cons, List.sum_cons, List.length_cons]
    have ih : (Str.join ⟨#[c]⟩ (y :: r)).cps.size = _ := ih
    rw [ih]
    show x.length + _ = _
    omega
theorem join_count (c : Nat) : ∀ (x : Str) (xs : List Str), (∀ p ∈ x :: xs, c ∉ p.cps.toList) → (Str.join ⟨#[c]⟩ (x :: xs)).cps.toList.count c = xs.length
  | x, [], h => List.count_eq_zero.mpr (h x List.mem_cons_self)
  | x, y :: r, h => by
    have ih := join_count c y r fun p hp => h p (List.mem_cons_of_mem _ hp)
    rw [join_two, List.count_append, List.count_cons_self, ih, List.count_eq_zero.mpr (h x List.mem_cons_self), List.length_cons]
    omega
theorem sum_ge {xs : List Nat} {x : Nat} (h : x ∈ xs) : x ≤ xs.sum := by
  induction xs with
  | nil => exact absurd h List.not_mem_nil
  | cons y ys ih =>
    rw [List.sum_cons]
    rcases List.mem_cons.mp h with rfl | h
    · omega
    · have := ih h
      omega
/-- what a text's rows are -/
theorem rows_facts (t : Str) : ∃ s0 r, Txt.split t "\n" = s0 :: r ∧ t.length = ((s0 :: r).map (·.length)).sum + r.length ∧ t.cps.toList.count 10 = r.length := by
  have hj : Str.join ⟨#[10]⟩ (Txt.split t "\n") = t := PySem.StrLaws.join_split t "\n"
  have hp := PyProof.Rows.split_pos t ("\n" : Str)
  have hf : ∀ p ∈ Txt.split t ("\n" : Str), 10 ∉ p.cps.toList := PySem.StrLaws.split_free t 10
  cases e : Txt.split t "\n" with
  | nil => rw [e] at hp; cases hp
  | cons s0 r =>
    rw [e] at hj hf
    refine ⟨s0, r, rfl, ?_, ?_⟩
    · have := join_size 10 s0 r
      rw [hj] at this
      exact this
    · have := join_count 10 s0 r hf
      rw [hj] at this
      exact this
/-- a text that is small enough -/
structure Fit (t : Str) : Prop where
  len : t.length ≤ 300
  b : t.length ≤ 19 * t.cps.toList.count 10 + 40
  nl : t.cps.toList.count 10 ≤ 20
theorem read_rel {names : List Str} (hm : names.length ≤ 6) {t : Str} (ht : Fit t) :
    (∃ d : Pd, m__law_read (upD t) (Fz.mk names) = some (some d) ∧ m_read_floor (upD t) (Fz.mk names) = some (.ok d) ∧ (d.l.map (·.1)).Nodup) ∨ (m__law_read (upD t) (Fz.mk names) = some none ∧ m_read_floor (upD t) (Fz.mk names) = some NR) := by
  obtain ⟨s0, r, er, hlen, hcnt⟩ := rows_facts t
  obtain ⟨t1, t2, t3⟩ := ht
  have hs : splitO t "\n" = some (s0 :: r) := by
    unfold splitO
    rw [if_pos ⟨by decide, by omega⟩, er]
  have h0 : (s0 :: r)[0]? = some s0 := rfl
  have hle : ∀ x ∈ s0 :: r, x.length ≤ 300 := fun x hx => by
    have := sum_ge (List.mem_map.mpr ⟨x, hx, rfl⟩ : x.length ∈ (s0 :: r).map (·.length))
    omega
  have hP := rowsP hs h0 fun x hx => Nat.le_trans (hle x hx) (by omega)
  have hn : (s0 :: r).length = r.length + 1 := rfl
  unfold m__law_read m_read_floor
  rw [hP]
  rw [if_neg (show ¬ (!(isiD (upD t) "str")) = true from fun z => nomatch z)]
  show (∃ d : Pd, ((some t).bind _) = _ ∧ _) ∨ (((some t).bind _) = _ ∧ _)
  rw [bs, hs, bs, bs]
  generalize hrows : s0 :: r = rows at *
  by_cases u : 1 ≤ s0.length ∧ ∀ x ∈ rows, x.length = s0.length
  · obtain ⟨w1, hu⟩ := u
    have hsum : (rows.map (·.length)).sum = rows.length * s0.length := sum_const hu
    have hW : s0.length ≤ 38 + 18 := by
      have e : rows.length * s0.length ≤ 18 * rows.length + 22 + 18 := by omega
      have h1 : 1 ≤ rows.length := by omega
      refine Nat.le_of_not_lt fun z => ?_
      have : rows.length * 57 ≤ rows.length * s0.length := Nat.mul_le_mul_left _ (by omega)
      omega
    rw [if_neg (show ¬ (200 < rows.length ∨ 200 < s0.length ∨ rows.any (badR s0) = true) from fun z => by
      rcases z with z | z | z
      · omega
      · omega
      · obtain ⟨x, hx, q⟩ := List.any_eq_true.mp z
        unfold badR at q
        have hxl := hu x hx
        have e1 : x ≠ "" := fun z => by
          rw [z] at hxl
          have : 0 = s0.length := hxl
          omega
        rw [decide_eq_false e1, hxl, decide_eq_true rfl] at q
        cases q)]
    have hHW : rows.length * s0.length ≤ 21 * 56 := Nat.mul_le_mul (by omega) (by omega)
    have A := forC_al (f := m_read_floor_L1 (Fz.mk names)) (g := m__law_read_L1 (Fz.mk names) rows) (r1 := NR) (r2 := none) (fun i d => Cs s0.length i 0 (i * s0.length) d) (xs := enumI rows) (n := 0) (s := Dc.mk []) ⟨by simp, fun n l hl => by cases hl⟩ (fun i hi s hI => by
      rw [Nat.zero_add] at hI ⊢
      rw [enumI_at]
      have hi2 : i < rows.length := by rw [enumI_len] at hi; exact hi
      have : i * s0.length ≤ rows.length * s0.length := Nat.mul_le_mul_right _ (by omega)
      rw [Nat.succ_mul]
      exact L1_al hm h0 rfl w1 (by omega) (hu _ (List.getElem_mem hi2)) (by omega) hI)
    rw [bs]
    dsimp only
    generalize forC (m_read_floor_L1 (Fz.mk names)) (enumI rows) (Dc.mk []) = a at A
    generalize forC (m__law_read_L1 (Fz.mk names) rows) (enumI rows) (Dc.mk []) = b at A
    cases A with
    | rt => exact .inr ⟨rfl, rfl⟩
    | @nx cells hc =>
      rw [bs, bs]
      rw [Nat.zero_add, enumI_len] at hc
      have B := forC_al (f := m_read_floor_L3 cells) (g := m__law_read_L3 cells) (r1 := NR) (r2 := none) (fun i (q : Pd) => q.l.length ≤ i ∧ (q.l.map (·.1)).Nodup) (xs := names) (n := 0) (s := Dc.mk []) ⟨Nat.le_refl _, List.nodup_nil⟩ (fun i hi s hI => by
        refine al_mono (L3_al (by omega) (by omega) hc (by omega) (by have := hI.1; omega) _) fun q hq => ?_
        obtain ⟨p, rfl⟩ := hq
        exact ⟨by have := len_put s.l names[i] p; have := hI.1; show (putD s.l names[i] p).length ≤ _; omega, putD_keys _ _ _ hI.2⟩)
      show (∃ d : Pd, ((forC (m__law_read_L3 cells) names (Dc.mk [])).bind _) = _ ∧ ((forC (m_read_floor_L3 cells) names (Dc.mk [])).bind _) = _ ∧ _) ∨ (((forC (m__law_read_L3 cells) names (Dc.mk [])).bind _) = _ ∧ ((forC (m_read_floor_L3 cells) names (Dc.mk [])).bind _) = _)
      generalize forC (m_read_floor_L3 cells) names (Dc.mk []) = a at B
      generalize forC (m__law_read_L3 cells) names (Dc.mk []) = b at B
      cases B with
      | rt => exact .inr ⟨rfl, rfl⟩
      | @nx d hd => exact .inl ⟨d, rfl, rfl, hd.2⟩
  · have hbad : ∃ x ∈ rows, x = "" ∨ x.length ≠ s0.length := by
      refine Classical.byContradiction fun z => u ?_
      have z2 : ∀ x ∈ rows, ¬ (x = "") ∧ x.length = s0.length := fun x hx => ⟨fun e => z ⟨x, hx, .inl e⟩, Classical.byContradiction fun e => z ⟨x, hx, .inr e⟩⟩
      refine ⟨?_, fun x hx => (z2 x hx).2⟩
      have hs0 : s0 ∈ rows := List.mem_of_getElem? h0
      rcases Nat.eq_zero_or_pos s0.length with e | e
      · refine absurd ?_ (z2 s0 hs0).1
        obtain ⟨cs⟩ := s0
        have e : cs.size = 0 := e
        rw [Array.size_eq_zero_iff.mp e]
        rfl
      · exact e
    refine .inr ⟨?_, ?_⟩
    · -- the first that is amiss
      have hex : ∃ j : Nat, ∃ x, rows[j]? = some x ∧ (x = "" ∨ x.length ≠ s0.length) := by
        obtain ⟨x, hx, q⟩ := hbad
        obtain ⟨j, hj⟩ := List.getElem?_of_mem hx
        exact ⟨j, x, hj, q⟩
      obtain ⟨j, ⟨x, hj, q⟩, hmin⟩ : ∃ j : Nat, (∃ x, rows[j]? = some x ∧ (x = "" ∨ x.length ≠ s0.length)) ∧ ∀ i, i < j → ¬ ∃ x, rows[i]? = some x ∧ (x = "" ∨ x.length ≠ s0.length) := by
        obtain ⟨j, hj⟩ := hex
        induction j using Nat.strongRecOn with
        | _ j ih =>
          by_cases z : ∃ i, i < j ∧ ∃ x, rows[i]? = some x ∧ (x = "" ∨ x.length ≠ s0.length)
          · obtain ⟨i, hi, q⟩ := z
            exact ih i hi q
          · exact ⟨j, hj, fun i hi q => z ⟨i, hi, q⟩⟩
      have hjl : j < rows.length := (List.getElem?_eq_some_iff.mp hj).1
      have B := forC_ok (g := m__law_read_L1 (Fz.mk names) rows) (r := none) (fun i d => i ≤ j ∧ Cs s0.length i 0 (i * s0.length) d) (xs := enumI rows) (n := 0) (s := Dc.mk []) ⟨Nat.zero_le _, by simp, fun n l hl => by cases hl⟩ (fun i hi s hI => by
        rw [Nat.zero_add] at hI ⊢
        rw [enumI_at]
        have hi2 : i < rows.length := by rw [enumI_len] at hi; exact hi
        have hg : rows[i]? = some (rows[i]'hi2) := List.getElem?_eq_getElem hi2
        obtain ⟨hij, hcs⟩ := hI
        rcases Nat.eq_or_lt_of_le hij with e | e
        · subst e
          rw [hj] at hg
          have e2 := Option.some.inj hg
          rw [← e2]
          exact .inl (L1_bad h0 (Nat.le_trans (hle s0 (List.mem_of_getElem? h0)) (by omega)) (Nat.le_trans (hle x (List.mem_of_getElem? hj)) (by omega)) q)
        · have hno := hmin i e
          have hgood : ¬ (rows[i]'hi2 = "") ∧ (rows[i]'hi2).length = s0.length := ⟨fun z => hno ⟨_, hg, .inl z⟩, Classical.byContradiction fun z => hno ⟨_, hg, .inr z⟩⟩
          have w1 : 1 ≤ s0.length := by
            rcases Nat.eq_zero_or_pos s0.length with e3 | e3
            · refine absurd ?_ (fun z : s0 = "" => hmin 0 (by omega) ⟨s0, h0, .inl z⟩)
              obtain ⟨cs⟩ := s0
              have e3 : cs.size = 0 := e3
              rw [Array.size_eq_zero_iff.mp e3]
              rfl
            · exact e3
          have hs0l := hle s0 (List.mem_of_getElem? h0)
          have : i * s0.length ≤ 20 * 300 := Nat.mul_le_mul (by omega) hs0l
          rcases al_ok (L1_al (names := names) hm h0 rfl w1 (by omega) hgood.2 (by omega) hcs) with z | ⟨s1, z, q1⟩
          · exact .inl z
          · refine .inr ⟨s1, z, by omega, ?_⟩
            rw [Nat.succ_mul]
            exact q1)
      rcases B with e | ⟨s1, e, q1, _⟩
      · rw [e]
        rfl
      · rw [Nat.zero_add, enumI_len] at q1
        omega
    · rw [if_pos]
      · rfl
      · refine .inr (.inr (List.any_eq_true.mpr ?_))
        obtain ⟨x, hx, q⟩ := hbad
        refine ⟨x, hx, ?_⟩
        unfold badR
        rw [Bool.or_eq_true]
        rcases q with q | q
        · exact .inl (decide_eq_true q)
        · refine .inr ?_
          rw [decide_eq_false (by omega)]
          rfl
/-! a text spoiled -/
def mkS (l : List Nat) : Str := ⟨l.toArray⟩
theorem mk_list (l : List Nat) : (mkS l).cps.toList = l := rfl
theorem mk_len (l : List Nat) : (mkS l).length = l.length := rfl
theorem lst_len (z : Str) : z.cps.toList.length = z.length := Array.length_toList
theorem cut_pre {z : Str} (hl : z.length ≤ 1000) (k : Nat) : cutSO z none (some (k : Int)) = some (mkS (z.cps.toList.take k)) := by
  have : cutSO z none (some (k : Int)) = some (cutS z none (some (k : Int))) := if_pos (by omega)
  rw [this]
  exact congrArg some (congrArg mkS (cut_to z.cps.toList k))
theorem cut_suf {z : Str} (hl : z.length ≤ 1000) (k : Nat) : cutSO z (some (k : Int)) none = some (mkS (z.cps.toList.drop k)) := by
  have : cutSO z (some (k : Int)) none = some (cutS z (some (k : Int)) none) := if_pos (by omega)
  rw [this]
  exact congrArg some (congrArg mkS (cut_from z.cps.toList k))
theorem addS_ok {x y : Str} (h : x.length + y.length ≤ 1000000) : addS x y = some (x ++ y) := if_pos h
theorem app_list (x y : Str) : (x ++ y).cps.toList = x.cps.toList ++ y.cps.toList := by
  show (x.cps ++ y.cps).toList = _
  simp
structure Fl0 (l : List Nat) : Prop where
  len : l.length ≤ 300
  b : l.length ≤ 19 * l.count 10 + 40
  nl : l.count 10 ≤ 20
theorem fit_of {s : Str} (h : Fl0 s.cps.toList) : Fit s := ⟨by rw [← lst_len]; exact h.len, by rw [← lst_len]; exact h.b, h.nl⟩
structure Txt0 (T : Str) (rows : List Str) : Prop where
  ne : rows ≠ []
  few : rows.length ≤ 12
  len : ∀ r ∈ rows, r.length ≤ 18
  free : ∀ r ∈ rows, 10 ∉ r.cps.toList
  is : T = Str.join "\n" rows
  pos : 1 ≤ T.length
theorem sum_le {xs : List Nat} {b : Nat} (h : ∀ x ∈ xs, x ≤ b) : xs.sum ≤ xs.length * b := by
  induction xs with
  | nil => exact Nat.zero_le _
  | cons y ys ih =>
    rw [List.sum_cons, List.length_cons, Nat.succ_mul]
    have := ih fun x hx => h x (List.mem_cons_of_mem _ hx)
    have := h y List.mem_cons_self
    omega
theorem join_fl {x : Str} {r : List Str} (hn : r.length ≤ 13) (hl : ∀ p ∈ x :: r, p.length ≤ 18) (hf : ∀ p ∈ x :: r, 10 ∉ p.cps.toList) : (Str.join "\n" (x :: r)).cps.toList.count 10 = r.length ∧ (Str.join "\n" (x :: r)).length ≤ 19 * r.length + 18 := by
  refine ⟨join_count 10 x r hf, ?_⟩
  have e : (Str.join "\n" (x :: r)).length = _ := join_size 10 x r
  have := sum_le (xs := (x :: r).map (·.length)) (b := 18) fun n hn => by
    obtain ⟨p, hp, rfl⟩ := List.mem_map.mp hn
    exact hl p hp
  rw [List.length_map, List.length_cons] at this
  omega
theorem join_fit {rs : List Str} (hn : rs.length ≤ 14) (hl : ∀ p ∈ rs, p.length ≤ 18) (hf : ∀ p ∈ rs, 10 ∉ p.cps.toList) : Fit (Str.join "\n" rs) := by
  cases rs with
  | nil => exact ⟨by decide +kernel, by decide +kernel, by decide +kernel⟩
  | cons x r =>
    rw [List.length_cons] at hn
    obtain ⟨a, b⟩ := join_fl (by omega) hl hf
    exact ⟨by omega, by rw [a]; omega, by omega⟩
theorem Txt0.facts {T : Str} {rows : List Str} (h : Txt0 T rows) : T.cps.toList.count 10 ≤ 11 ∧ T.length ≤ 19 * T.cps.toList.count 10 + 18 ∧ splitO T "\n" = some rows := by
  obtain ⟨x, r, e⟩ : ∃ x r, rows = x :: r := by
    cases rows with
    | nil => exact absurd rfl h.ne
    | cons x r => exact ⟨x, r, rfl⟩
  have hfew := h.few
  have hl := h.len
  have hf := h.free
  have hi := h.is
  have hne := h.ne
  subst e
  rw [List.length_cons] at hfew
  obtain ⟨a, b⟩ := join_fl (by omega) hl hf
  rw [← hi] at a b
  refine ⟨by omega, by rw [a]; exact b, ?_⟩
  unfold splitO
  rw [if_pos ⟨by decide, by omega⟩, hi]
  exact congrArg some (split_join (c := 10) hne hf)
theorem count_cut (l : List Nat) (a b : Nat) (h : a ≤ b) (hb : b ≤ a + 1) : l.count 10 ≤ (l.take a).count 10 + (l.drop b).count 10 + 1 ∧ (l.take a).count 10 + (l.drop b).count 10 ≤ l.count 10 := by
  have e := congrArg (List.count 10) (List.take_append_drop a l)
  rw [List.count_append] at e
  rcases Nat.eq_or_lt_of_le h with z | z
  · subst z
    omega
  · have z : b = a + 1 := by omega
    subst z
    have e2 := congrArg (List.count 10) (List.take_append_drop 1 (l.drop a))
    rw [List.count_append, List.drop_drop] at e2
    have e3 : ((l.drop a).take 1).count 10 ≤ 1 := Nat.le_trans List.count_le_length (by rw [List.length_take]; omega)
    omega
theorem str_opt {s : Str} (h : Fit s) : (∃ s2, upD s = upD s2 ∧ Fit s2) ∨ isiD (upD s) "str" = false := .inl ⟨s, rfl, h⟩
theorem spoiled_ok {T : Str} {rows : List Str} (h : Txt0 T rows) (n o : Int) : ∃ x, m__law_spoiled T n o = some x ∧ ((∃ s, x = upD s ∧ Fit s) ∨ isiD x "str" = false) := by
  obtain ⟨t1, t2, t3⟩ := h.facts
  have hpos := h.pos
  have hTl : T.length ≤ 227 := by omega
  have hr1 : 1 ≤ rows.length := List.length_pos_iff.mpr h.ne
  have hfew := h.few
  have hlst := lst_len T
  obtain ⟨a, ha⟩ := Int.eq_ofNat_of_zero_le (Int.emod_nonneg o (show (T.length : Int) ≠ 0 by omega))
  have ha2 := Int.emod_lt_of_pos o (show 0 < (T.length : Int) by omega)
  obtain ⟨b, hb⟩ := Int.eq_ofNat_of_zero_le (Int.emod_nonneg o (show (rows.length : Int) ≠ 0 by omega))
  have hb2 := Int.emod_lt_of_pos o (show 0 < (rows.length : Int) by omega)
  have eP := cut_pre (z := T) (by omega) a
  have eS := cut_suf (z := T) (by omega) a
  have eS1 := cut_suf (z := T) (by omega) (a + 1)
  have ia : (((a + 1 : Nat)) : Int) = (a : Int) + 1 := by omega
  have ib : (((b + 1 : Nat)) : Int) = (b : Int) + 1 := by omega
  rw [ia] at eS1
  have n0 := Int.emod_nonneg (n / 8) (show (10 : Int) ≠ 0 by decide)
  have n1 := Int.emod_lt_of_pos (n / 8) (show (0 : Int) < 10 by decide)
  have n2 := Int.emod_nonneg (n / 8) (show (4 : Int) ≠ 0 by decide)
  have n3 := Int.emod_lt_of_pos (n / 8) (show (0 : Int) < 4 by decide)
  have n4 := Int.emod_nonneg (n / 8) (show (6 : Int) ≠ 0 by decide)
  have n5 := Int.emod_lt_of_pos (n / 8) (show (0 : Int) < 6 by decide)
  have ltk : (T.cps.toList.take a).length = a := by rw [List.length_take, hlst]; omega
  have ldr : ∀ k, (T.cps.toList.drop k).length = T.length - k := fun k => by rw [List.length_drop, hlst]
  unfold m__law_spoiled
  rw [lenS_len (by omega), bs, modO_ok (by omega), bs, bs, t3, bs, bs, modO_ok (by omega), bs, bs, ha, hb]
  by_cases c1 : n % 8 < 3
  · rw [if_pos (decide_eq_true c1), eP, bs]
    obtain ⟨c, hc, _, _⟩ := ixS_ok (s := "abcdef.g7A") (i := n / 8 % 10) (by decide +kernel) n0 (by show n / 8 % 10 < 10; omega) (by decide +kernel)
    rw [hc, bs, addS_ok (by rw [mk_len, ltk]; show a + 1 ≤ _; omega), bs, eS1, bs, addS_ok (by rw [len_app, mk_len, mk_len, ltk, ldr]; show a + 1 + _ ≤ _; omega), bs]
    refine ⟨_, rfl, str_opt (fit_of ?_)⟩
    rw [app_list, app_list, mk_list, mk_list]
    obtain ⟨q1, q2⟩ := count_cut T.cps.toList a (a + 1) (by omega) (by omega)
    have hc1 : (([c] : List Nat)).count 10 ≤ 1 := List.count_le_length
    have e1 : (T.cps.toList.take a ++ (⟨#[c]⟩ : Str).cps.toList ++ T.cps.toList.drop (a + 1)).length = T.length := by
      rw [List.length_append, List.length_append, ltk, ldr]
      show a + 1 + _ = _
      omega
    have e2 : (T.cps.toList.take a ++ (⟨#[c]⟩ : Str).cps.toList ++ T.cps.toList.drop (a + 1)).count 10 = (T.cps.toList.take a).count 10 + ([c] : List Nat).count 10 + (T.cps.toList.drop (a + 1)).count 10 := by
      rw [List.count_append, List.count_append]
    exact ⟨by omega, by omega, by omega⟩
  rw [if_neg (show ¬ decide (n % 8 < 3) = true from fun z => c1 (of_decide_eq_true z))]
  by_cases c2 : n % 8 = 3
  · rw [if_pos (decide_eq_true c2), eP, bs]
    obtain ⟨z, ez, hz⟩ := atI_some (xs := ([("#" : Str), ("\n" : Str), (" " : Str), ("." : Str)] : List Str)) (i := n / 8 % 4) n2 (by show n / 8 % 4 < 4; omega)
    have hz1 : z.length = 1 := by
      have := List.mem_of_getElem? hz
      simp only [List.mem_cons, List.not_mem_nil, or_false] at this
      rcases this with rfl | rfl | rfl | rfl <;> decide +kernel
    rw [ez, bs, addS_ok (by rw [mk_len, ltk]; omega), bs, eS, bs, addS_ok (by rw [len_app, mk_len, mk_len, ltk, ldr]; omega), bs]
    refine ⟨_, rfl, str_opt (fit_of ?_)⟩
    rw [app_list, app_list, mk_list, mk_list]
    obtain ⟨q1, q2⟩ := count_cut T.cps.toList a a (by omega) (by omega)
    have e := congrArg (List.count 10) (List.take_append_drop a T.cps.toList)
    rw [List.count_append] at e
    have hc1 : z.cps.toList.count 10 ≤ 1 := Nat.le_trans List.count_le_length (by rw [lst_len]; omega)
    have e1 : (T.cps.toList.take a ++ z.cps.toList ++ T.cps.toList.drop a).length = T.length + 1 := by
      rw [List.length_append, List.length_append, ltk, ldr, lst_len]
      omega
    have e2 : (T.cps.toList.take a ++ z.cps.toList ++ T.cps.toList.drop a).count 10 = (T.cps.toList.take a).count 10 + z.cps.toList.count 10 + (T.cps.toList.drop a).count 10 := by
      rw [List.count_append, List.count_append]
    exact ⟨by omega, by omega, by omega⟩
  rw [if_neg (show ¬ decide (n % 8 = 3) = true from fun z => c2 (of_decide_eq_true z))]
  by_cases c3 : n % 8 = 4
  · rw [if_pos (decide_eq_true c3), eP, bs, eS1, bs, addS_ok (by rw [mk_len, mk_len, ltk, ldr]; omega), bs]
    refine ⟨_, rfl, str_opt (fit_of ?_)⟩
    rw [app_list, mk_list, mk_list]
    obtain ⟨q1, q2⟩ := count_cut T.cps.toList a (a + 1) (by omega) (by omega)
    have e1 : (T.cps.toList.take a ++ T.cps.toList.drop (a + 1)).length = T.length - 1 := by
      rw [List.length_append, ltk, ldr]
      omega
    have e2 : (T.cps.toList.take a ++ T.cps.toList.drop (a + 1)).count 10 = (T.cps.toList.take a).count 10 + (T.cps.toList.drop (a + 1)).count 10 := List.count_append
    exact ⟨by omega, by omega, by omega⟩
  rw [if_neg (show ¬ decide (n % 8 = 4) = true from fun z => c3 (of_decide_eq_true z))]
  have jok : ∀ rs : List Str, rs.length ≤ 14 → (∀ p ∈ rs, p ∈ rows) → joinO ("\n" : Str) rs = some (Str.join "\n" rs) ∧ Fit (Str.join "\n" rs) := fun rs hl hm => by
    refine ⟨joinO_ok ?_, join_fit hl (fun p hp => h.len p (hm p hp)) fun p hp => h.free p (hm p hp)⟩
    have := sum_le (xs := rs.map (·.length)) (b := 18) fun n hn => by
      obtain ⟨p, hp, rfl⟩ := List.mem_map.mp hn
      exact h.len p (hm p hp)
    rw [List.length_map] at this
    show _ + rs.length * 1 ≤ _
    omega
  by_cases c4 : n % 8 = 5
  · rw [if_pos (decide_eq_true c4)]
    have e1 : cut rows none (some (b : Int)) = rows.take b := cut_to rows b
    have e2 : cut rows (some ((b : Int) + 1)) none = rows.drop (b + 1) := by
      rw [← ib]
      exact cut_from rows (b + 1)
    rw [e1, e2]
    have hl : (rows.take b).length + (rows.drop (b + 1)).length ≤ 14 := by rw [List.length_take, List.length_drop]; omega
    have ec : catO (rows.take b) (rows.drop (b + 1)) = some (rows.take b ++ rows.drop (b + 1)) := if_pos (by omega)
    obtain ⟨ej, hj⟩ := jok (rows.take b ++ rows.drop (b + 1)) (by rw [List.length_append]; exact hl) fun p hp => by
      rcases List.mem_append.mp hp with z | z
      · exact List.mem_of_mem_take z
      · exact List.mem_of_mem_drop z
    rw [ec, bs, ej, bs]
    exact ⟨_, rfl, str_opt hj⟩
  rw [if_neg (show ¬ decide (n % 8 = 5) = true from fun z => c4 (of_decide_eq_true z))]
  by_cases c5 : n % 8 = 6
  · rw [if_pos (decide_eq_true c5)]
    have e1 : cut rows none (some ((b : Int) + 1)) = rows.take (b + 1) := by
      rw [← ib]
      exact cut_to rows (b + 1)
    have e2 : cut rows (some (b : Int)) none = rows.drop b := cut_from rows b
    rw [e1, e2]
    have hl : (rows.take (b + 1)).length + (rows.drop b).length ≤ 14 := by rw [List.length_take, List.length_drop]; omega
    have ec : catO (rows.take (b + 1)) (rows.drop b) = some (rows.take (b + 1) ++ rows.drop b) := if_pos (by omega)
    obtain ⟨ej, hj⟩ := jok (rows.take (b + 1) ++ rows.drop b) (by rw [List.length_append]; exact hl) fun p hp => by
      rcases List.mem_append.mp hp with z | z
      · exact List.mem_of_mem_take z
      · exact List.mem_of_mem_drop z
    rw [ec, bs, ej, bs]
    exact ⟨_, rfl, str_opt hj⟩
  rw [if_neg (show ¬ decide (n % 8 = 6) = true from fun z => c5 (of_decide_eq_true z))]
  rw [addS_ok (by show T.length + 1 ≤ _; omega), bs, addS_ok (by show 1 + T.length ≤ _; omega), bs]
  obtain ⟨x, ex, hx⟩ := atI_some (xs := ([(upD (T ++ ("\n" : Str))), (upD (("\n" : Str) ++ T)), (upD ("" : Str)), (upD Nn.nn), (upD (7 : Int)), (upD rows)] : List Dy)) (i := n / 8 % 6) n4 (by show n / 8 % 6 < 6; omega)
  rw [ex, bs]
  refine ⟨x, rfl, ?_⟩
  have hm := List.mem_of_getElem? hx
  simp only [List.mem_cons, List.not_mem_nil, or_false] at hm
  have hnl : ("\n" : Str).cps.toList = [10] := by decide +kernel
  rcases hm with rfl | rfl | rfl | rfl | rfl | rfl
  · refine str_opt (fit_of ?_)
    rw [app_list, hnl]
    have e1 : (T.cps.toList ++ [10]).length = T.length + 1 := by rw [List.length_append, lst_len]; rfl
    have e2 : (T.cps.toList ++ [10]).count 10 = T.cps.toList.count 10 + 1 := List.count_append
    exact ⟨by omega, by omega, by omega⟩
  · refine str_opt (fit_of ?_)
    rw [app_list, hnl]
    have e1 : ([10] ++ T.cps.toList).length = T.length + 1 := by rw [List.length_append, lst_len]; show 1 + _ = _; omega
    have e2 : ([10] ++ T.cps.toList).count 10 = 1 + T.cps.toList.count 10 := List.count_append
    exact ⟨by omega, by omega, by omega⟩
  · exact str_opt ⟨by decide +kernel, by decide +kernel, by decide +kernel⟩
  · exact .inr rfl
  · exact .inr rfl
  · exact .inr rfl
/-! the board -/
def blk : List Nat → Nat → Nat
  | [], _ => 0
  | w :: ws, c => if c < w then 0 else 1 + blk ws (c - w)
def off (ws : List Nat) (k : Nat) : Nat := (ws.take k).sum
theorem off_z (ws : List Nat) : off ws 0 = 0 := by
  unfold off
  rw [List.take_zero]
  rfl
theorem off_s (w : Nat) (ws : List Nat) (k : Nat) : off (w :: ws) (k + 1) = w + off ws k := by
  unfold off
  rw [List.take_succ_cons, List.sum_cons]
theorem blk_lt : ∀ {ws : List Nat} {c : Nat}, c < ws.sum → blk ws c < ws.length
  | [], c, h => by simp at h
  | w :: ws, c, h => by
    rw [List.sum_cons] at h
    unfold blk
    rw [List.length_cons]
    by_cases e : c < w
    · rw [if_pos e]
      omega
    · rw [if_neg e]
      have := blk_lt (ws := ws) (c := c - w) (by omega)
      omega
/-- which block a place is in -/
theorem blk_in : ∀ {ws : List Nat} {c k w : Nat}, ws[k]? = some w → off ws k ≤ c → c < off ws k + w → blk ws c = k
  | [], c, k, w, h, _, _ => by simp at h
  | v :: ws, c, 0, w, h, h1, h2 => by
    rw [off_z] at h2
    cases Option.some.inj h
    unfold blk
    rw [if_pos (by omega)]
  | v :: ws, c, k + 1, w, h, h1, h2 => by
    have h : ws[k]? = some w := h
    rw [off_s] at h1 h2
    unfold blk
    rw [if_neg (by omega), blk_in h (c := c - v) (by omega) (by omega)]
    omega
theorem in_blk : ∀ {ws : List Nat} {c : Nat}, c < ws.sum → ∃ w, ws[blk ws c]? = some w ∧ off ws (blk ws c) ≤ c ∧ c < off ws (blk ws c) + w
  | [], c, h => by simp at h
  | v :: ws, c, h => by
    rw [List.sum_cons] at h
    unfold blk
    by_cases e : c < v
    · rw [if_pos e, off_z]
      exact ⟨v, rfl, Nat.zero_le _, by omega⟩
    · rw [if_neg e]
      obtain ⟨w, a, b, d⟩ := in_blk (ws := ws) (c := c - v) (by omega)
      rw [Nat.add_comm 1, off_s]
      exact ⟨w, a, by omega, by omega⟩
theorem off_le : ∀ {ws : List Nat} {k w : Nat}, ws[k]? = some w → off ws k + w ≤ ws.sum
  | [], k, w, h => by simp at h
  | v :: ws, 0, w, h => by
    cases Option.some.inj h
    rw [off_z, List.sum_cons]
    omega
  | v :: ws, k + 1, w, h => by
    have h : ws[k]? = some w := h
    have := off_le h
    rw [off_s, List.sum_cons]
    omega
/-- blocks drawn out, as places -/
theorem rep_blk {α : Type} (d : α) : ∀ {ws : List Nat} {as : List α}, as.length = ws.length → (List.zip as ws).flatMap (fun p => List.replicate p.2 p.1) = (List.range ws.sum).map fun c => as.getD (blk ws c) d
  | [], [], _ => rfl
  | [], _ :: _, h => by simp at h
  | _ :: _, [], h => by simp at h
  | w :: ws, a :: as, h => by
    rw [List.zip_cons_cons, List.flatMap_cons, rep_blk d (ws := ws) (as := as) (by simpa using h), List.sum_cons, List.range_add, List.map_append, List.map_map]
    congr 1
    · refine List.ext_getElem? fun i => ?_
      rw [List.getElem?_map]
      by_cases hi : i < w
      · rw [List.getElem?_replicate, if_pos hi, List.getElem?_range hi]
        show some a = some ((a :: as).getD (blk (w :: ws) i) d)
        unfold blk
        rw [if_pos hi]
        rfl
      · rw [List.getElem?_replicate, if_neg hi, List.getElem?_eq_none (by rw [List.length_range]; omega)]
        rfl
    · refine List.map_congr_left fun c hc => ?_
      show as.getD (blk ws c) d = (a :: as).getD (blk (w :: ws) (w + c)) d
      have e : blk (w :: ws) (w + c) = 1 + blk ws c := by
        show (if w + c < w then 0 else 1 + blk ws (w + c - w)) = _
        rw [if_neg (by omega), Nat.add_sub_cancel_left]
      rw [e, Nat.add_comm]
      rfl
theorem mul6 (c : Nat) {n : Int} (h0 : 1 ≤ n) (h1 : n ≤ 6) : mulS ⟨#[c]⟩ n = some (mkS (List.replicate n.toNat c)) := by
  unfold mulS
  rw [if_pos ⟨(show 1 ≤ 10000 by decide), by omega, by omega⟩]
  rcases (show n = 1 ∨ n = 2 ∨ n = 3 ∨ n = 4 ∨ n = 5 ∨ n = 6 by omega) with rfl | rfl | rfl | rfl | rfl | rfl <;> rfl
def sgnOf (s : Str) : List Nat := s.cps.toList
/-- what a band's row is -/
def rowT (ws : List Nat) (ks : List Str) : Str := Str.join "" ((List.zip ks ws).map fun p => mkS (List.replicate p.2 ((p.1).cps.getD 0 0)))
theorem join_flat : ∀ xs : List Str, (Str.join "" xs).cps.toList = xs.flatMap fun x => x.cps.toList
  | [] => by
    show (#[] : Array Nat).toList = []
    rfl
  | x :: xs => by rw [join_cons0, List.flatMap_cons, join_flat xs]
theorem str_ext {x y : Str} (h : x.cps.toList = y.cps.toList) : x = y := by
  obtain ⟨a⟩ := x
  obtain ⟨b⟩ := y
  congr 1
  exact Array.toList_inj.mp h
theorem one_list {x : Str} (h : One x) : x.cps.toList = [x.cps.getD 0 0] := by
  obtain ⟨c, rfl, _⟩ := h
  rfl
theorem flat_congr {α β : Type} {f g : α → List β} : ∀ {xs : List α}, (∀ x ∈ xs, f x = g x) → xs.flatMap f = xs.flatMap g
  | [], _ => rfl
  | x :: xs, h => by rw [List.flatMap_cons, List.flatMap_cons, h x List.mem_cons_self, flat_congr fun y hy => h y (List.mem_cons_of_mem _ hy)]
theorem rep_flat {x : Str} (h : One x) : ∀ n : Nat, (List.replicate n x).flatMap (fun y => y.cps.toList) = List.replicate n (x.cps.getD 0 0)
  | 0 => rfl
  | n + 1 => by
    rw [List.replicate_succ, List.flatMap_cons, rep_flat h n, one_list h]
    rfl
theorem rowT_is {ws : List Nat} {ks : List Str} (hl : ks.length = ws.length) (ho : ∀ k ∈ ks, One k) : rowT ws ks = Str.join "" ((List.range ws.sum).map fun c => ks.getD (blk ws c) ".") := by
  refine str_ext ?_
  unfold rowT
  rw [join_flat, join_flat, ← rep_blk ("." : Str) hl, List.flatMap_assoc, List.flatMap_map]
  refine flat_congr fun p hp => ?_
  rw [rep_flat (ho p.1 (List.of_mem_zip hp).1)]
  rfl
/-! signs of the blocks, in their order -/
abbrev Jk := Nat × Nat
structure Pl (A : Nat) (Q : List Jk) (kss : List (List Str)) : Prop where
  len : ∀ ks ∈ kss, ks.length = A
  nd : Q.Nodup
  in_ : ∀ p ∈ Q, p.1 < kss.length ∧ p.2 < A
  is : ∀ (j : Nat) (ks : List Str), kss[j]? = some ks → ∀ (k : Nat) (s : Str), ks[k]? = some s → (∃ i, Q[i]? = some (j, k) ∧ s = sgK i) ∨ ((j, k) ∉ Q ∧ s = ".")
  few : Q.length ≤ kss.length * A
/-- within a band -/
structure Pk (A j k : Nat) (Q : List Jk) (kss : List (List Str)) (ks : List Str) : Prop where
  len : ks.length = k
  nd : Q.Nodup
  in_ : ∀ p ∈ Q, (p.1 < j ∨ p.1 = j ∧ p.2 < k) ∧ p.2 < A
  old : ∀ (i : Nat) (l : List Str), kss[i]? = some l → ∀ (k : Nat) (s : Str), l[k]? = some s → (∃ n, Q[n]? = some (i, k) ∧ s = sgK n) ∨ ((i, k) ∉ Q ∧ s = ".")
  is : ∀ (k : Nat) (s : Str), ks[k]? = some s → (∃ i, Q[i]? = some (j, k) ∧ s = sgK i) ∨ ((j, k) ∉ Q ∧ s = ".")
  few : Q.length ≤ j * A + k
theorem Pk.dot {A j k : Nat} {Q : List Jk} {kss : List (List Str)} {ks : List Str} (h : Pk A j k Q kss ks) : Pk A j (k + 1) Q kss (ks ++ [("." : Str)]) where
  len := by rw [List.length_append, h.len]; rfl
  nd := h.nd
  in_ p hp := ⟨by have := (h.in_ p hp).1; omega, (h.in_ p hp).2⟩
  old := h.old
  is i s hs := by
    rcases Nat.lt_or_ge i k with e | e
    · rw [List.getElem?_append_left (by rw [h.len]; exact e)] at hs
      exact h.is i s hs
    · have hi : i < (ks ++ [("." : Str)]).length := (List.getElem?_eq_some_iff.mp hs).1
      rw [List.length_append, h.len, List.length_singleton] at hi
      have e2 : i = k := by omega
      subst e2
      rw [List.getElem?_append_right (by rw [h.len]; exact Nat.le_refl _), h.len, Nat.sub_self] at hs
      cases Option.some.inj hs
      refine .inr ⟨fun z => ?_, rfl⟩
      have := (h.in_ _ z).1
      omega
  few := Nat.le_succ_of_le h.few
theorem Pk.put {A j k : Nat} {Q : List Jk} {kss : List (List Str)} {ks : List Str} (h : Pk A j k Q kss ks) (hk : k < A) (hj : kss.length = j) : Pk A j (k + 1) (Q ++ [(j, k)]) kss (ks ++ [sgK Q.length]) where
  len := by rw [List.length_append, h.len]; rfl
  nd := List.nodup_append.mpr ⟨h.nd, by simp, fun a ha b hb e => by
    rw [List.mem_singleton] at hb
    subst hb
    subst e
    have := (h.in_ _ ha).1
    omega⟩
  in_ p hp := by
    rcases List.mem_append.mp hp with hp | hp
    · exact ⟨by have := (h.in_ p hp).1; omega, (h.in_ p hp).2⟩
    · rw [List.mem_singleton] at hp
      subst hp
      exact ⟨.inr ⟨rfl, Nat.lt_succ_self _⟩, hk⟩
  old i l hl k2 s hs := by
    rcases h.old i l hl k2 s hs with ⟨n, e, q⟩ | ⟨e, q⟩
    · exact .inl ⟨n, by rw [List.getElem?_append_left (List.getElem?_eq_some_iff.mp e).1]; exact e, q⟩
    · refine .inr ⟨fun z => ?_, q⟩
      rcases List.mem_append.mp z with z | z
      · exact e z
      · rw [List.mem_singleton] at z
        have z1 : i = j := congrArg (fun p : Jk => p.1) z
        have := (List.getElem?_eq_some_iff.mp hl).1
        omega
  is i s hs := by
    rcases Nat.lt_or_ge i k with e | e
    · rw [List.getElem?_append_left (by rw [h.len]; exact e)] at hs
      rcases h.is i s hs with ⟨n, e1, q⟩ | ⟨e1, q⟩
      · exact .inl ⟨n, by rw [List.getElem?_append_left (List.getElem?_eq_some_iff.mp e1).1]; exact e1, q⟩
      · refine .inr ⟨fun z => ?_, q⟩
        rcases List.mem_append.mp z with z | z
        · exact e1 z
        · rw [List.mem_singleton] at z
          have z1 : i = k := congrArg (fun p : Jk => p.2) z
          omega
    · have hi : i < (ks ++ [sgK Q.length]).length := (List.getElem?_eq_some_iff.mp hs).1
      rw [List.length_append, h.len, List.length_singleton] at hi
      have e2 : i = k := by omega
      subst e2
      rw [List.getElem?_append_right (by rw [h.len]; exact Nat.le_refl _), h.len, Nat.sub_self] at hs
      cases Option.some.inj hs
      exact .inl ⟨Q.length, by rw [List.getElem?_append_right (Nat.le_refl _), Nat.sub_self]; rfl, rfl⟩
  few := by
    rw [List.length_append, List.length_singleton]
    have := h.few
    omega
theorem Pl.start {A : Nat} {Q : List Jk} {kss : List (List Str)} (h : Pl A Q kss) : Pk A kss.length 0 Q kss [] where
  len := rfl
  nd := h.nd
  in_ p hp := ⟨.inl (h.in_ p hp).1, (h.in_ p hp).2⟩
  old := h.is
  is k s hs := by simp at hs
  few := h.few
theorem Pk.fin {A : Nat} {Q : List Jk} {kss : List (List Str)} {ks : List Str} (h : Pk A kss.length A Q kss ks) (hl : ∀ k ∈ kss, k.length = A) : Pl A Q (kss ++ [ks]) where
  len l hl2 := by
    rcases List.mem_append.mp hl2 with z | z
    · exact hl l z
    · rw [List.mem_singleton] at z
      rw [z, h.len]
  nd := h.nd
  in_ p hp := ⟨by have := (h.in_ p hp).1; rw [List.length_append, List.length_singleton]; omega, (h.in_ p hp).2⟩
  is j l hj k s hs := by
    rcases Nat.lt_or_ge j kss.length with e | e
    · rw [List.getElem?_append_left e] at hj
      exact h.old j l hj k s hs
    · have hi : j < (kss ++ [ks]).length := (List.getElem?_eq_some_iff.mp hj).1
      rw [List.length_append, List.length_singleton] at hi
      have e2 : j = kss.length := by omega
      subst e2
      rw [List.getElem?_append_right (Nat.le_refl _), Nat.sub_self] at hj
      cases Option.some.inj hj
      exact h.is k s hs
  few := by
    rw [List.length_append, List.length_singleton, Nat.succ_mul]
    exact h.few
theorem abc_at : ∀ i : Fin 6, ixS ("abcdef" : Str) (i.val : Int) = some (sgK i.val) := by decide +kernel
/-- one band's signs -/
theorem band_ok {some_ : List Int} {A D : Nat} {Q : List Jk} {kss : List (List Str)} (h7 : some_.length = 9) (hA : A ≤ 3) (hD : D ≤ 2) (hj : kss.length < D) (h : Pl A Q kss) :
    ∃ Q' ks, forS (m__law_board_L2 some_ (A : Int) (D : Int) (kss.length : Int)) (irange 0 (A : Int)) ((Q.length : Int), []) = some ((Q'.length : Int), ks) ∧ Pl A Q' (kss ++ [ks]) := by
  obtain ⟨⟨n, ks⟩, e, Q', hn, hp⟩ := forS_ix (f := m__law_board_L2 some_ (A : Int) (D : Int) (kss.length : Int)) (xs := irange 0 (A : Int)) (fun k (s : Int × List Str) => ∃ Q' : List Jk, s.1 = (Q'.length : Int) ∧ Pk A kss.length k Q' kss s.2) (s := ((Q.length : Int), [])) ⟨Q, rfl, h.start⟩ (fun k hk s hs => by
    obtain ⟨n, ks⟩ := s
    obtain ⟨Q', hn, hp⟩ := hs
    have hn : n = (Q'.length : Int) := hn
    subst hn
    have hkA : k < A := by
      rw [irange_len] at hk
      omega
    have ei : (irange 0 (A : Int))[k] = (k : Int) := by
      simp [irange]
    rw [ei]
    have hq : Q'.length < 6 := by
      have := hp.few
      have : kss.length * A ≤ 1 * A := Nat.mul_le_mul_right _ (by omega)
      omega
    have hkl : ks.length < 1000000 := by rw [hp.len]; omega
    unfold m__law_board_L2
    dsimp only
    obtain ⟨v, ev, _⟩ := atI_some (xs := some_) (i := (7 : Int)) (by decide) (by rw [h7]; decide)
    have ed : divO v ((((kss.length : Int) * 3) + (k : Int)) + 1) = some (v / ((((kss.length : Int) * 3) + (k : Int)) + 1)) := if_pos ⟨by omega, by omega⟩
    rw [ev, bs, ed, bs]
    have em : mulO ((D : Int) - (kss.length : Int)) (A : Int) = some (((D : Int) - (kss.length : Int)) * (A : Int)) := mulO_ok (by omega) (by omega)
    obtain ⟨b, eb⟩ : ∃ b : Bool, (if (decide ((v / ((((kss.length : Int) * 3) + (k : Int)) + 1)) % 4 = 0)) = true then ((mulO ((D : Int) - (kss.length : Int)) (A : Int)).bind fun m_ => some (decide ((2 : Int) < ((Q'.length : Int) + m_)))) else some false) = some b := by
      rw [em, bs]
      split
      · exact ⟨_, rfl⟩
      · exact ⟨_, rfl⟩
    rw [eb, bs]
    cases b with
    | true =>
      rw [if_pos rfl, appO_ok hkl, bs]
      exact ⟨_, rfl, Q', rfl, hp.dot⟩
    | false =>
      rw [if_neg Bool.false_ne_true, show ixS ("abcdef" : Str) (Q'.length : Int) = some (sgK Q'.length) from abc_at ⟨Q'.length, hq⟩, bs, appO_ok hkl, bs, bs]
      refine ⟨_, rfl, Q' ++ [(kss.length, k)], ?_, hp.put hkA rfl⟩
      rw [List.length_append, List.length_singleton]
      show (Q'.length : Int) + 1 = ((Q'.length + 1 : Nat) : Int)
      omega)
  have hn : n = (Q'.length : Int) := hn
  subst hn
  rw [irange_len] at hp
  have hp : Pk A kss.length ((A : Int) - 0).toNat Q' kss ks := hp
  rw [show ((A : Int) - 0).toNat = A by omega] at hp
  exact ⟨Q', ks, e, hp.fin h.len⟩
/-! the whole board -/
def wAt (xs : List Int) (k : Nat) : Nat := (1 + xs.getD (1 + k) 0 % 6).toNat
def wsOf (xs : List Int) (A : Nat) : List Nat := (List.range A).map (wAt xs)
theorem wAt_in (xs : List Int) (k : Nat) : 1 ≤ wAt xs k ∧ wAt xs k ≤ 6 := by
  unfold wAt
  omega
theorem ws_at {xs : List Int} {A k : Nat} (h : k < A) : (wsOf xs A)[k]? = some (wAt xs k) := by
  unfold wsOf
  rw [List.getElem?_map, List.getElem?_range h]
  rfl
theorem ws_len (xs : List Int) (A : Nat) : (wsOf xs A).length = A := by
  unfold wsOf
  rw [List.length_map, List.length_range]
theorem ws_in {xs : List Int} {A w : Nat} (h : w ∈ wsOf xs A) : 1 ≤ w ∧ w ≤ 6 := by
  obtain ⟨k, _, rfl⟩ := List.mem_map.mp h
  exact wAt_in xs k
theorem ws_sum (xs : List Int) (A : Nat) : (wsOf xs A).sum ≤ A * 6 := by
  have := sum_le (xs := wsOf xs A) (b := 6) fun w hw => (ws_in hw).2
  rw [ws_len] at this
  exact this
theorem ws_pos (xs : List Int) {A : Nat} (h : 1 ≤ A) : 1 ≤ (wsOf xs A).sum := by
  have h0 := ws_at (xs := xs) (A := A) (k := 0) h
  have := sum_ge (List.mem_of_getElem? h0)
  have := (wAt_in xs 0).1
  omega
theorem getD_at {xs : List Int} {k : Nat} {v : Int} (h : xs[k]? = some v) : xs.getD k 0 = v := by
  rw [List.getD_eq_getElem?_getD, h]
  rfl
theorem zip_snoc {α β : Type} : ∀ {as : List α} {bs : List β} {a : α} {b : β}, bs[as.length]? = some b → List.zip (as ++ [a]) bs = List.zip as bs ++ [(a, b)]
  | [], b :: bs, a, b2, h => by
    cases Option.some.inj h
    rfl
  | [], [], a, b2, h => by simp at h
  | x :: as, [], a, b, h => by simp at h
  | x :: as, y :: bs, a, b, h => by
    have h : bs[as.length]? = some b := h
    show (x, y) :: List.zip (as ++ [a]) bs = _
    rw [zip_snoc h]
    rfl
theorem rep_one {α : Type} (x : α) : ∀ n : Nat, (List.replicate n [x]).flatten = List.replicate n x
  | 0 => rfl
  | n + 1 => by
    rw [List.replicate_succ, List.flatten_cons, rep_one x n]
    rfl
def rowsOf (ws hs : List Nat) (kss : List (List Str)) : List Str := (List.zip kss hs).flatMap fun p => List.replicate p.2 (rowT ws p.1)
theorem Pl.one {A : Nat} {Q : List Jk} {kss : List (List Str)} (h : Pl A Q kss) (hq : Q.length ≤ 60) {ks : List Str} (hk : ks ∈ kss) {s : Str} (hs : s ∈ ks) : One s := by
  obtain ⟨j, hj⟩ := List.getElem?_of_mem hk
  obtain ⟨k, hk⟩ := List.getElem?_of_mem hs
  rcases h.is j ks hj k s hk with ⟨i, e, rfl⟩ | ⟨_, rfl⟩
  · have := (List.getElem?_eq_some_iff.mp e).1
    exact one_sg (by omega)
  · exact one_dot
theorem row_text {some_ : List Int} {A : Nat} {ks : List Str} (h9 : some_.length = 9) (hA : A ≤ 3) (hl : ks.length = A) (ho : ∀ s ∈ ks, One s) :
    ∃ zs, lcM (fun _ => some true) (fun k_187 => ((atI ks k_187).bind fun i_189 => (atI some_ ((1 : Int) + k_187)).bind fun i_190 => (mulS i_189 ((1 : Int) + (i_190 % (6 : Int)))).bind fun t_191 => some t_191)) (irange 0 (A : Int)) = some zs ∧ joinO ("" : Str) zs = some (rowT (wsOf some_ A) ks) := by
  refine ⟨(irange 0 (A : Int)).map fun k => mkS (List.replicate (wAt some_ k.toNat) ((ks.getD k.toNat ".").cps.getD 0 0)), ?_, ?_⟩
  · refine lcM_all _ (by rw [irange_len]; omega) fun k hk => ?_
    obtain ⟨k0, k1⟩ := mem_irange.mp hk
    obtain ⟨i, rfl⟩ := Int.eq_ofNat_of_zero_le k0
    have hi : i < ks.length := by omega
    have eg : ks[i]? = some ks[i] := List.getElem?_eq_getElem hi
    have h2 : 1 + i < some_.length := by omega
    have ev : some_[1 + i]? = some some_[1 + i] := List.getElem?_eq_getElem h2
    rw [atI_nat eg, bs, show (1 : Int) + (i : Int) = ((1 + i : Nat) : Int) by omega, atI_nat ev, bs]
    obtain ⟨c, ec, _⟩ := ho ks[i] (List.getElem_mem hi)
    rw [ec, mul6 c (by omega) (by omega), bs]
    congr 2
    show _ = List.replicate (wAt some_ i) ((ks.getD i ".").cps.getD 0 0)
    have e1 : ks.getD i "." = ⟨#[c]⟩ := by
      rw [List.getD_eq_getElem?_getD, eg, ec]
      rfl
    have e2 : wAt some_ i = (1 + some_[1 + i] % 6).toNat := by
      unfold wAt
      rw [getD_at ev]
    rw [e1, e2]
    rfl
  · have ez : ((irange 0 (A : Int)).map fun k => mkS (List.replicate (wAt some_ k.toNat) ((ks.getD k.toNat ".").cps.getD 0 0))) = (List.zip ks (wsOf some_ A)).map fun p => mkS (List.replicate p.2 ((p.1).cps.getD 0 0)) := by
      refine List.ext_getElem? fun i => ?_
      rw [List.getElem?_map, List.getElem?_map]
      by_cases hi : i < A
      · have e1 : (irange 0 (A : Int))[i]? = some (i : Int) := by
          rw [ir_at (by omega)]
          congr 1
          omega
        have eg : ks[i]? = some ks[i] := List.getElem?_eq_getElem (by omega)
        have e2 : (List.zip ks (wsOf some_ A))[i]? = some (ks[i], wAt some_ i) := by
          rw [List.getElem?_zip_eq_some]
          exact ⟨eg, ws_at hi⟩
        rw [e1, e2]
        show some (mkS (List.replicate (wAt some_ i) ((ks.getD i ".").cps.getD 0 0))) = _
        rw [List.getD_eq_getElem?_getD, eg]
        rfl
      · rw [List.getElem?_eq_none (by rw [irange_len]; omega), List.getElem?_eq_none (by rw [List.length_zip, hl]; omega)]
        rfl
    rw [ez]
    refine joinO_ok ?_
    have := sum_le (xs := ((List.zip ks (wsOf some_ A)).map fun p => mkS (List.replicate p.2 ((p.1).cps.getD 0 0))).map (·.length)) (b := 6) fun n hn => by
      obtain ⟨s, hs, rfl⟩ := List.mem_map.mp hn
      obtain ⟨p, hp, rfl⟩ := List.mem_map.mp hs
      rw [mk_len, List.length_replicate]
      exact (ws_in (List.of_mem_zip hp).2).2
    rw [List.length_map, List.length_map, List.length_zip, hl] at this
    show _ + _ * 0 ≤ _
    omega
theorem rowsOf_len (ws hs : List Nat) (kss : List (List Str)) (h : ∀ x ∈ hs, x ≤ 6) : (rowsOf ws hs kss).length ≤ kss.length * 6 := by
  unfold rowsOf
  rw [List.length_flatMap]
  have := sum_le (xs := (List.zip kss hs).map fun p => (List.replicate p.2 (rowT ws p.1)).length) (b := 6) fun n hn => by
    obtain ⟨p, hp, rfl⟩ := List.mem_map.mp hn
    rw [List.length_replicate]
    exact h _ (List.of_mem_zip hp).2
  rw [List.length_map, List.length_zip] at this
  have : min kss.length hs.length * 6 ≤ kss.length * 6 := Nat.mul_le_mul_right _ (Nat.min_le_left _ _)
  omega
theorem bands_ok {some_ more : List Int} {A D : Nat} (h9 : some_.length = 9) (m9 : more.length = 9) (hA : A ≤ 3) (hD : D ≤ 2) :
    ∃ Q kss, forS (m__law_board_L1 some_ more (A : Int) (D : Int)) (irange 0 (D : Int)) ([], 0) = some (rowsOf (wsOf some_ A) (wsOf more D) kss, (Q.length : Int)) ∧ kss.length = D ∧ Pl A Q kss := by
  obtain ⟨⟨rows, n⟩, e, Q, kss, h1, h2, h3, h4⟩ := forS_ix (f := m__law_board_L1 some_ more (A : Int) (D : Int)) (xs := irange 0 (D : Int)) (fun j (s : List Str × Int) => ∃ (Q : List Jk) (kss : List (List Str)), kss.length = j ∧ s.2 = (Q.length : Int) ∧ Pl A Q kss ∧ s.1 = rowsOf (wsOf some_ A) (wsOf more D) kss) (s := ([], 0)) ⟨[], [], rfl, rfl, ⟨(fun _ h => nomatch h), List.nodup_nil, (fun _ h => nomatch h), fun j ks h => by simp at h, Nat.zero_le _⟩, rfl⟩ (fun j hj s hs => by
    obtain ⟨rows, n⟩ := s
    obtain ⟨Q, kss, h1, h2, h3, h4⟩ := hs
    have h2 : n = (Q.length : Int) := h2
    have h4 : rows = rowsOf (wsOf some_ A) (wsOf more D) kss := h4
    subst h1 h2 h4
    have hjD : kss.length < D := by
      rw [irange_len] at hj
      omega
    have ei : (irange 0 (D : Int))[kss.length] = (kss.length : Int) := by simp [irange]
    rw [ei]
    obtain ⟨Q', ks, eb, hp⟩ := band_ok h9 hA hD hjD h3
    have hks : ks ∈ kss ++ [ks] := by simp
    have hq : Q'.length ≤ 60 := by
      have := hp.few
      rw [List.length_append, List.length_singleton] at this
      have : (kss.length + 1) * A ≤ 2 * 3 := Nat.mul_le_mul (by omega) (by omega)
      omega
    obtain ⟨zs, ez, ej⟩ := row_text h9 hA (hp.len ks hks) fun s hs => hp.one hq hks hs
    unfold m__law_board_L1
    dsimp only
    rw [bs, rngO_ok (by omega) (by omega) (by omega) (by omega), bs, eb, bs]
    dsimp only
    rw [bs, ez, bs, ej, bs, bs]
    have h2 : 1 + kss.length < more.length := by omega
    have ev : more[1 + kss.length]? = some more[1 + kss.length] := List.getElem?_eq_getElem h2
    rw [show (1 : Int) + (kss.length : Int) = ((1 + kss.length : Nat) : Int) by omega, atI_nat ev, bs]
    have ew : (1 + more[1 + kss.length] % 6).toNat = wAt more kss.length := by
      unfold wAt
      rw [getD_at ev]
    have er : repO ([rowT (wsOf some_ A) ks] : List Str) (1 + more[1 + kss.length] % 6) = some (List.replicate (wAt more kss.length) (rowT (wsOf some_ A) ks)) := by
      unfold repO
      rw [if_pos ⟨by omega, by omega, by rw [List.length_singleton]; omega⟩, rep_one, ew]
    have hrl := rowsOf_len (wsOf some_ A) (wsOf more D) kss fun x hx => (ws_in hx).2
    have hw6 := (wAt_in more kss.length).2
    have ec : catO (rowsOf (wsOf some_ A) (wsOf more D) kss) (List.replicate (wAt more kss.length) (rowT (wsOf some_ A) ks)) = some (rowsOf (wsOf some_ A) (wsOf more D) kss ++ List.replicate (wAt more kss.length) (rowT (wsOf some_ A) ks)) := if_pos (by rw [List.length_replicate]; omega)
    rw [er, bs, ec, bs, bs]
    refine ⟨_, rfl, Q', kss ++ [ks], ?_, rfl, hp, ?_⟩
    · rw [List.length_append]
      rfl
    · show _ = rowsOf _ _ _
      unfold rowsOf
      rw [zip_snoc (b := wAt more kss.length) (ws_at hjD), List.flatMap_append]
      congr 1
      rw [List.flatMap_cons, List.flatMap_nil, List.append_nil])
  have h2 : n = (Q.length : Int) := h2
  have h4 : rows = rowsOf (wsOf some_ A) (wsOf more D) kss := h4
  subst h2 h4
  rw [irange_len] at h1
  exact ⟨Q, kss, e, by omega, h3⟩
/-- the sign of a cell -/
def Gb (ws hs : List Nat) (kss : List (List Str)) (c : Cl) : Str := (kss.getD (blk hs c.2.1.toNat) []).getD (blk ws c.1.toNat) "."
theorem irange_nat (n : Nat) : irange 0 (n : Int) = (List.range n).map fun k : Nat => (k : Int) := by
  unfold irange
  rw [show ((n : Int) - 0).toNat = n by omega]
  exact List.map_congr_left fun k _ => Int.zero_add _
theorem kss_at {A : Nat} {Q : List Jk} {kss : List (List Str)} {ws hs : List Nat} (h : Pl A Q kss) (hl : ws.length = A) (hk : kss.length = hs.length) {x y : Nat} (hx : x < ws.sum) (hy : y < hs.sum) :
    ∃ ks s, kss[blk hs y]? = some ks ∧ ks[blk ws x]? = some s ∧ ks ∈ kss ∧ Gb ws hs kss ((x : Int), (y : Int), ()) = s := by
  have h1 : blk hs y < kss.length := by
    rw [hk]
    exact blk_lt hy
  have e1 : kss[blk hs y]? = some kss[blk hs y] := List.getElem?_eq_getElem h1
  have hm := List.getElem_mem h1
  have h2 : blk ws x < (kss[blk hs y]).length := by
    rw [h.len _ hm, ← hl]
    exact blk_lt hx
  have e2 : (kss[blk hs y])[blk ws x]? = some (kss[blk hs y])[blk ws x] := List.getElem?_eq_getElem h2
  refine ⟨_, _, e1, e2, hm, ?_⟩
  unfold Gb
  show (kss.getD (blk hs y) []).getD (blk ws x) "." = _
  rw [List.getD_eq_getElem?_getD, List.getD_eq_getElem?_getD, e1]
  show ((kss[blk hs y])[blk ws x]?).getD "." = _
  rw [e2]
  rfl
theorem rows_are {A : Nat} {Q : List Jk} {kss : List (List Str)} {ws hs : List Nat} (h : Pl A Q kss) (hq : Q.length ≤ 60) (hl : ws.length = A) (hk : kss.length = hs.length) : rowsOf ws hs kss = rowsS (ws.sum : Int) (hs.sum : Int) (Gb ws hs kss) := by
  have e1 : rowsOf ws hs kss = ((List.zip kss hs).flatMap fun p => List.replicate p.2 p.1).map (rowT ws) := by
    unfold rowsOf
    rw [List.map_flatMap]
    exact flat_congr fun p _ => (List.map_replicate).symm
  rw [e1, rep_blk [] hk, List.map_map]
  unfold rowsS
  rw [irange_nat, List.map_map]
  refine List.map_congr_left fun y hy => ?_
  have hy := List.mem_range.mp hy
  have h1 : blk hs y < kss.length := by
    rw [hk]
    exact blk_lt hy
  have e2 : kss.getD (blk hs y) [] = kss[blk hs y] := by
    rw [List.getD_eq_getElem?_getD, List.getElem?_eq_getElem h1]
    rfl
  show rowT ws (kss.getD (blk hs y) []) = Str.join "" (rowG _ _ (y : Int))
  rw [e2, rowT_is (by rw [h.len _ (List.getElem_mem h1), hl]) fun s hs => h.one hq (List.getElem_mem h1) hs]
  congr 1
  unfold rowG
  rw [irange_nat, List.map_map]
  refine List.map_congr_left fun x _ => ?_
  show (kss[blk hs y]).getD (blk ws x) "." = (kss.getD (blk hs y) []).getD (blk ws x) "."
  rw [e2]
/-! the places of the signs -/
def pj (ws hs : List Nat) (p : Jk) : P4 := ((off ws p.2 : Int), (off hs p.1 : Int), (ws.getD p.2 0 : Int), (hs.getD p.1 0 : Int), ())
def plOf (ws hs : List Nat) (names : List Str) (Q : List Jk) (n : Str) : P4 := ((getD (names.zip (Q.map (pj ws hs))) n).getD (0, 0, 0, 0, ()))
theorem getD_zip : ∀ {ns : List Str} {L : List P4} {i : Nat} {n : Str} {p : P4}, ns[i]? = some n → L[i]? = some p → ns.Nodup → getD (ns.zip L) n = some p
  | [], _, _, _, _, h, _, _ => by simp at h
  | _ :: _, [], _, _, _, _, h, _ => by simp at h
  | m :: ns, q :: L, 0, n, p, h1, h2, _ => by
    cases Option.some.inj h1
    cases Option.some.inj h2
    exact getD_pos rfl
  | m :: ns, q :: L, i + 1, n, p, h1, h2, nd => by
    have nd := List.nodup_cons.mp nd
    have h1 : ns[i]? = some n := h1
    show getD ((m, q) :: ns.zip L) n = some p
    rw [getD_neg (p := (m, q)) (fun z => nd.1 (show m ∈ ns from (show m = n from z) ▸ List.mem_of_getElem? h1))]
    exact getD_zip h1 h2 nd.2
theorem pl_at {ws hs : List Nat} {names : List Str} {Q : List Jk} (nd : names.Nodup) {i : Nat} {n : Str} {p : Jk} (h1 : names[i]? = some n) (h2 : Q[i]? = some p) : plOf ws hs names Q n = pj ws hs p := by
  unfold plOf
  rw [getD_zip h1 (L := Q.map (pj ws hs)) (p := pj ws hs p) (by rw [List.getElem?_map, h2]; rfl) nd]
  rfl
theorem natD {ws : List Nat} {k w : Nat} (h : ws[k]? = some w) : ws.getD k 0 = w := by
  rw [List.getD_eq_getElem?_getD, h]
  rfl
theorem board_floor {A : Nat} {Q : List Jk} {kss : List (List Str)} {ws hs : List Nat} {names : List Str} (h : Pl A Q kss) (hq : Q.length ≤ 60) (hl : ws.length = A) (hk : kss.length = hs.length) (nd : names.Nodup) (hn : names.length = Q.length)
    (w0 : 1 ≤ ws.sum) (w1 : ws.sum ≤ 200) (h0 : 1 ≤ hs.sum) (h1 : hs.sum ≤ 200) (wp : ∀ w ∈ ws, 1 ≤ w) (hp : ∀ w ∈ hs, 1 ≤ w) : ∃ d, m_read_floor (upD (Str.join "\n" (rowsOf ws hs kss))) (Fz.mk names) = some (Er.ok d) := by
  rw [rows_are h hq hl hk]
  have pin : ∀ (i : Nat) (n : Str) (p : Jk), names[i]? = some n → Q[i]? = some p → Pin (ws.sum : Int) (hs.sum : Int) (plOf ws hs names Q n) ∧ ∃ a b : Nat, ws[p.2]? = some a ∧ hs[p.1]? = some b ∧ plOf ws hs names Q n = ((off ws p.2 : Int), (off hs p.1 : Int), (a : Int), (b : Int), ()) := fun i n p e1 e2 => by
    obtain ⟨q1, q2⟩ := h.in_ p (List.mem_of_getElem? e2)
    have ea : ws[p.2]? = some (ws[p.2]'(by omega)) := List.getElem?_eq_getElem (by omega)
    have eb : hs[p.1]? = some (hs[p.1]'(by omega)) := List.getElem?_eq_getElem (by omega)
    have e3 : plOf ws hs names Q n = ((off ws p.2 : Int), (off hs p.1 : Int), ((ws[p.2]'(by omega) : Nat) : Int), ((hs[p.1]'(by omega) : Nat) : Int), ()) := by
      rw [pl_at nd e1 e2]
      unfold pj
      rw [natD ea, natD eb]
    have o1 := off_le ea
    have o2 := off_le eb
    have o3 := wp _ (List.mem_of_getElem? ea)
    have o4 := hp _ (List.mem_of_getElem? eb)
    refine ⟨?_, _, _, ea, eb, e3⟩
    rw [e3]
    exact ⟨Int.natCast_nonneg _, Int.natCast_nonneg _, (by show (1 : Int) ≤ ((ws[p.2]'(by omega) : Nat) : Int); omega), (by show (1 : Int) ≤ ((hs[p.1]'(by omega) : Nat) : Int); omega), (by show (off ws p.2 : Int) + ((ws[p.2]'(by omega) : Nat) : Int) ≤ (ws.sum : Int); omega), (by show (off hs p.1 : Int) + ((hs[p.1]'(by omega) : Nat) : Int) ≤ (hs.sum : Int); omega)⟩
  have qat : ∀ (i : Nat) (n : Str), names[i]? = some n → ∃ p, Q[i]? = some p := fun i n e => by
    have := (List.getElem?_eq_some_iff.mp e).1
    exact ⟨_, List.getElem?_eq_getElem (by omega)⟩
  have fl : Fl1 (ws.sum : Int) (hs.sum : Int) (Gb ws hs kss) := ⟨by omega, by omega, by omega, by omega, fun c hc => by
    obtain ⟨⟨c1, c2⟩, c3, c4⟩ := hc
    obtain ⟨x, y, u⟩ := c
    obtain ⟨x, rfl⟩ := Int.eq_ofNat_of_zero_le (show 0 ≤ x from c1)
    obtain ⟨y, rfl⟩ := Int.eq_ofNat_of_zero_le (show 0 ≤ y from c3)
    have c2 : (x : Int) < (ws.sum : Int) := c2
    have c4 : (y : Int) < (hs.sum : Int) := c4
    obtain ⟨ks, s, e1, e2, e3, e4⟩ := kss_at h hl hk (x := x) (y := y) (by omega) (by omega)
    show One (Gb ws hs kss ((x : Int), (y : Int), ()))
    rw [e4]
    exact h.one hq e3 (List.mem_of_getElem? e2)⟩
  refine ⟨_, read_floor_ok (sk := names) (pl := plOf ws hs names Q) fl (by omega) nd (fun n hn2 => ?_) (fun c hc => ?_)⟩
  · obtain ⟨i, e1⟩ := List.getElem?_of_mem hn2
    obtain ⟨p, e2⟩ := qat i n e1
    exact (pin i n p e1 e2).1
  · obtain ⟨⟨c1, c2⟩, c3, c4⟩ := hc
    obtain ⟨x, y, u⟩ := c
    obtain ⟨x, rfl⟩ := Int.eq_ofNat_of_zero_le (show 0 ≤ x from c1)
    obtain ⟨y, rfl⟩ := Int.eq_ofNat_of_zero_le (show 0 ≤ y from c3)
    have c2 : (x : Int) < (ws.sum : Int) := c2
    have c4 : (y : Int) < (hs.sum : Int) := c4
    obtain ⟨ks, s, e1, e2, e3, e4⟩ := kss_at h hl hk (x := x) (y := y) (by omega) (by omega)
    have e4 : Gb ws hs kss ((x : Int), (y : Int), u) = s := e4
    constructor
    · intro i n hi hin
      obtain ⟨p, hp2⟩ := qat i n hi
      obtain ⟨_, a, b, ea, eb, ep⟩ := pin i n p hi hp2
      rw [ep] at hin
      obtain ⟨⟨i1, i2⟩, i3, i4⟩ := hin
      have i1 : (off ws p.2 : Int) ≤ (x : Int) := i1
      have i2 : (x : Int) < (off ws p.2 : Int) + (a : Int) := i2
      have i3 : (off hs p.1 : Int) ≤ (y : Int) := i3
      have i4 : (y : Int) < (off hs p.1 : Int) + (b : Int) := i4
      have b1 := blk_in ea (c := x) (by omega) (by omega)
      have b2 := blk_in eb (c := y) (by omega) (by omega)
      rw [e4]
      rcases h.is _ _ e1 _ _ e2 with ⟨m, em, es⟩ | ⟨em, _⟩
      · rw [b1, b2] at em
        have hm : m = i := by
          obtain ⟨g1, g2⟩ := List.getElem?_eq_some_iff.mp em
          obtain ⟨g3, g4⟩ := List.getElem?_eq_some_iff.mp hp2
          rcases Nat.lt_trichotomy m i with z | z | z
          · exact ((List.pairwise_iff_getElem.mp h.nd) m i g1 g3 z (by rw [g2, g4])).elim
          · exact z
          · exact ((List.pairwise_iff_getElem.mp h.nd) i m g3 g1 z (by rw [g2, g4])).elim
        rw [es, hm]
      · rw [b1, b2] at em
        exact absurd (List.mem_of_getElem? hp2) em
    · intro hno
      rw [e4]
      rcases h.is _ _ e1 _ _ e2 with ⟨m, em, es⟩ | ⟨_, es⟩
      · have hml := (List.getElem?_eq_some_iff.mp em).1
        have en : names[m]? = some (names[m]'(by omega)) := List.getElem?_eq_getElem (by omega)
        obtain ⟨_, a, b, ea, eb, ep⟩ := pin m _ _ en em
        refine absurd ?_ (hno _ (List.mem_of_getElem? en))
        rw [ep]
        obtain ⟨w, g1, g2, g3⟩ := in_blk (ws := ws) (c := x) (by omega)
        obtain ⟨v, g4, g5, g6⟩ := in_blk (ws := hs) (c := y) (by omega)
        have ea : ws[blk ws x]? = some a := ea
        have eb : hs[blk hs y]? = some b := eb
        rw [g1] at ea
        rw [g4] at eb
        have ea := Option.some.inj ea
        have eb := Option.some.inj eb
        exact ⟨⟨(by show (off ws (blk ws x) : Int) ≤ (x : Int); omega), (by show (x : Int) < (off ws (blk ws x) : Int) + (a : Int); omega)⟩, (by show (off hs (blk hs y) : Int) ≤ (y : Int); omega), (by show (y : Int) < (off hs (blk hs y) : Int) + (b : Int); omega)⟩
      · exact es
theorem cell_at {ns : List Int} (k : Int) (h0 : 0 ≤ k) : ∃ c, m__law_cell_at (Fz.mk ns) k = some c := by
  unfold m__law_cell_at
  by_cases h : k < (ns.length : Int)
  · obtain ⟨x, e, _⟩ := atI_some (xs := ns) h0 h
    exact ⟨x, by rw [if_pos (decide_eq_true h), e]; rfl⟩
  · exact ⟨0, by rw [if_neg (by simpa using h)]⟩
theorem numbers_ok (cell many : Int) (h0 : 0 ≤ many) (hm : many ≤ 1000) : ∃ f, m__law_numbers cell many = some f ∧ f.length = many.toNat := by
  unfold m__law_numbers
  simp only [bs]
  by_cases hc : 0 ≤ cell - 1000000000000000000
  · rw [decide_eq_true hc]
    simp only [if_true]
    rw [rngO_ok (by omega) (by omega) (by omega) (by omega)]
    simp only [bs]
    obtain ⟨⟨n, f⟩, e, h⟩ := forS_inv (f := m__law_numbers_L1) (fun rest s => s.2.length + rest.length = many.toNat) (xs := irange 0 many) (s := (cell - 1000000000000000000, [])) (by rw [irange_len]; simp) (fun x rest s hs => by
      obtain ⟨n, f⟩ := s
      have hs : f.length + (rest.length + 1) = many.toNat := hs
      refine ⟨(n / 5040, f ++ [n % 5040]), ?_, ?_⟩
      · unfold m__law_numbers_L1
        simp only [appO_ok (show f.length < 1000000 by omega), bs]
      · show (f ++ [n % 5040]).length + rest.length = _
        rw [List.length_append, List.length_singleton]
        omega)
    rw [e]
    exact ⟨f, rfl, h⟩
  · rw [decide_eq_false hc]
    simp only [Bool.false_eq_true, if_false, bs]
    rw [rngO_ok (by omega) (by omega) (by omega) (by omega)]
    simp only [bs]
    obtain ⟨⟨n, f⟩, e, h⟩ := forS_inv (f := m__law_numbers_L2) (fun rest s => s.2.length + rest.length = many.toNat + 1) (xs := irange 0 (many + 1)) (s := (cell % 2147483647, [])) (by rw [irange_len]; show 0 + _ = _; omega) (fun x rest s hs => by
      obtain ⟨n, f⟩ := s
      have hs : f.length + (rest.length + 1) = many.toNat + 1 := hs
      refine ⟨((n + x + 1) * 48271 % 2147483647, f ++ [((n + x + 1) * 48271 % 2147483647) * 69621 % 2147483629]), ?_, ?_⟩
      · unfold m__law_numbers_L2
        simp only [appO_ok (show f.length < 1000000 by omega), bs]
      · show (f ++ [((n + x + 1) * 48271 % 2147483647) * 69621 % 2147483629]).length + rest.length = _
        rw [List.length_append, List.length_singleton]
        omega)
    rw [e]
    simp only [bs]
    rw [show cut f (some (1 : Int)) none = f.drop 1 from cut_from f 1]
    have h : f.length + 0 = many.toNat + 1 := h
    exact ⟨_, rfl, by rw [List.length_drop]; omega⟩
/-! the law -/
def SIX : List Str := [("ann" : Str), ("bo" : Str), ("cyd" : Str), ("dan" : Str), ("eve" : Str), ("fay" : Str)]
theorem six_nd : SIX.Nodup := by decide +kernel
theorem qeD_ok {β : Type} [Rp β] [Qe β] {a b : Dc Str β} (hl : a.l.length = b.l.length) (h : ∀ kv ∈ a.l, ∃ y, getD b.l kv.1 = some y ∧ Qe.qe kv.2 y = true) : Qe.qe a b = true := by
  show (decide (a.l.length = b.l.length) && a.l.all _) = true
  rw [Bool.and_eq_true]
  refine ⟨decide_eq_true hl, List.all_eq_true.mpr fun kv hkv => ?_⟩
  obtain ⟨y, e, q⟩ := h kv hkv
  show (match getD b.l kv.1 with | some y => Qe.qe kv.2 y | none => false) = true
  rw [e]
  exact q
theorem qeP4 (p : P4) : Qe.qe p p = true := by
  obtain ⟨a, b, c, d, u⟩ := p
  show (decide (a = a) && (decide (b = b) && (decide (c = c) && (decide (d = d) && true)))) = true
  rw [decide_eq_true rfl, decide_eq_true rfl, decide_eq_true rfl, decide_eq_true rfl]
  rfl
theorem getD_of_mem {β : Type} : ∀ {l : List (Str × β)} {n : Str} {y : β}, (l.map (·.1)).Nodup → (n, y) ∈ l → getD l n = some y
  | [], _, _, _, h => absurd h List.not_mem_nil
  | kv :: r, n, y, nd, h => by
    rw [List.map_cons, List.nodup_cons] at nd
    rcases List.mem_cons.mp h with e | h
    · rw [← e]
      exact getD_pos rfl
    · rw [getD_neg]
      · exact getD_of_mem nd.2 h
      · intro z
        exact nd.1 (z ▸ List.mem_map.mpr ⟨(n, y), h, rfl⟩)
theorem qe_self {d : Pd} (nd : (d.l.map (·.1)).Nodup) : Qe.qe d d = true :=
  qeD_ok rfl fun kv hkv => ⟨kv.2, getD_of_mem nd hkv, qeP4 _⟩
abbrev Sd := Sum Pd Bool
theorem told_ok {x : Dy} {names : List Str} {d : Pd} (h : m_read_floor x (Fz.mk names) = some (.ok d)) : m__law_told x (Fz.mk names) = some (Sum.inl d) := by
  unfold m__law_told
  rw [h, bs, bs]
theorem told_no {x : Dy} {names : List Str} (h : m_read_floor x (Fz.mk names) = some NR) : m__law_told x (Fz.mk names) = some (Sum.inr true) := by
  unfold m__law_told
  rw [h]
  rfl
/-- told and read go together -/
theorem both {x : Dy} {names : List Str} (hm : names.length ≤ 6) (hx : (∃ s, x = upD s ∧ Fit s) ∨ isiD x "str" = false) :
    (∃ d : Pd, m__law_read x (Fz.mk names) = some (some d) ∧ m__law_told x (Fz.mk names) = some (Sum.inl d) ∧ Qe.qe d d = true) ∨ (m__law_read x (Fz.mk names) = some none ∧ m__law_told x (Fz.mk names) = some (Sum.inr true)) := by
  rcases hx with ⟨s, rfl, hs⟩ | hx
  · rcases read_rel hm hs with ⟨d, h1, h2, h3⟩ | ⟨h1, h2⟩
    · exact .inl ⟨d, h1, told_ok h2, qe_self h3⟩
    · exact .inr ⟨h1, told_no h2⟩
  · refine .inr ⟨?_, told_no ?_⟩
    · unfold m__law_read
      rw [hx]
      rfl
    · have e : m_rows_of_floor x = some (Er.ex ⟨"NoRead", []⟩) := by
        unfold m_rows_of_floor
        rw [hx]
        rfl
      unfold m_read_floor
      rw [e]
      rfl
theorem board_ok (c0 c1 : Int) : ∃ (T : Str) (rows : List Str) (many : Nat) (names : List Str), m__law_board c0 c1 = some (T, ((many : Nat) : Int), ()) ∧ Txt0 T rows ∧ names = SIX.take many ∧ many ≤ 6 ∧ Fit T ∧ ∃ d, m_read_floor (upD T) (Fz.mk names) = some (Er.ok d) := by
  obtain ⟨some_, e1, l1⟩ := numbers_ok c0 9 (by decide) (by decide)
  obtain ⟨more, e2, l2⟩ := numbers_ok c1 9 (by decide) (by decide)
  have l1 : some_.length = 9 := l1
  have l2 : more.length = 9 := l2
  obtain ⟨v, ev, _⟩ := atI_some (xs := some_) (i := (0 : Int)) (by decide) (by rw [l1]; decide)
  obtain ⟨u, eu, _⟩ := atI_some (xs := more) (i := (0 : Int)) (by decide) (by rw [l2]; decide)
  obtain ⟨A, hA⟩ := Int.eq_ofNat_of_zero_le (show 0 ≤ 1 + v % 3 by omega)
  obtain ⟨D, hD⟩ := Int.eq_ofNat_of_zero_le (show 0 ≤ 1 + u % 2 by omega)
  have a1 : 1 ≤ A ∧ A ≤ 3 := by omega
  have d1 : 1 ≤ D ∧ D ≤ 2 := by omega
  obtain ⟨Q, kss, eb, hk, hp⟩ := bands_ok l1 l2 a1.2 d1.2
  have hq : Q.length ≤ 6 := by
    have := hp.few
    rw [hk] at this
    have : D * A ≤ 2 * 3 := Nat.mul_le_mul d1.2 a1.2
    omega
  have wsl := ws_len some_ A
  have hsl := ws_len more D
  have s1 := ws_sum some_ A
  have s2 := ws_sum more D
  have p1 := ws_pos some_ a1.1
  have p2 := ws_pos more d1.1
  have hrows := rows_are hp (by omega) wsl (hk.trans hsl.symm)
  have fl1 : ∀ r ∈ rowsOf (wsOf some_ A) (wsOf more D) kss, r.length ≤ 18 ∧ 10 ∉ r.cps.toList := fun r hr => by
    rw [hrows] at hr
    have fl : Fl1 ((wsOf some_ A).sum : Int) ((wsOf more D).sum : Int) (Gb (wsOf some_ A) (wsOf more D) kss) := ⟨by omega, by omega, by omega, by omega, fun c hc => by
      obtain ⟨⟨c1, c2⟩, c3, c4⟩ := hc
      obtain ⟨x, y, u⟩ := c
      obtain ⟨x, rfl⟩ := Int.eq_ofNat_of_zero_le (show 0 ≤ x from c1)
      obtain ⟨y, rfl⟩ := Int.eq_ofNat_of_zero_le (show 0 ≤ y from c3)
      have c2 : (x : Int) < ((wsOf some_ A).sum : Int) := c2
      have c4 : (y : Int) < ((wsOf more D).sum : Int) := c4
      obtain ⟨ks, s, e1, e2, e3, e4⟩ := kss_at hp wsl (hk.trans hsl.symm) (x := x) (y := y) (by omega) (by omega)
      show One (Gb _ _ kss ((x : Int), (y : Int), ()))
      rw [e4]
      exact hp.one (by omega) e3 (List.mem_of_getElem? e2)⟩
    obtain ⟨q1, q2⟩ := rows_each fl hr
    exact ⟨by omega, q2⟩
  have hlen : (rowsOf (wsOf some_ A) (wsOf more D) kss).length = (wsOf more D).sum := by
    rw [hrows, rows_len]
    omega
  have hne : rowsOf (wsOf some_ A) (wsOf more D) kss ≠ [] := fun z => by
    rw [z] at hlen
    have : 0 = (wsOf more D).sum := hlen
    omega
  have hpos : 1 ≤ (Str.join "\n" (rowsOf (wsOf some_ A) (wsOf more D) kss)).length := by
    cases e : rowsOf (wsOf some_ A) (wsOf more D) kss with
    | nil => exact absurd e hne
    | cons x r =>
      have hx : x.length = (wsOf some_ A).sum := by
        have hx : x ∈ rowsOf (wsOf some_ A) (wsOf more D) kss := by rw [e]; exact List.mem_cons_self
        rw [hrows] at hx
        obtain ⟨y, hy, rfl⟩ := List.mem_map.mp hx
        have fl : Fl1 ((wsOf some_ A).sum : Int) ((wsOf more D).sum : Int) (Gb (wsOf some_ A) (wsOf more D) kss) := ⟨by omega, by omega, by omega, by omega, fun c hc => by
          obtain ⟨⟨c1, c2⟩, c3, c4⟩ := hc
          obtain ⟨x, y, u⟩ := c
          obtain ⟨x, rfl⟩ := Int.eq_ofNat_of_zero_le (show 0 ≤ x from c1)
          obtain ⟨y, rfl⟩ := Int.eq_ofNat_of_zero_le (show 0 ≤ y from c3)
          have c2 : (x : Int) < ((wsOf some_ A).sum : Int) := c2
          have c4 : (y : Int) < ((wsOf more D).sum : Int) := c4
          obtain ⟨ks, s, e1, e2, e3, e4⟩ := kss_at hp wsl (hk.trans hsl.symm) (x := x) (y := y) (by omega) (by omega)
          show One (Gb _ _ kss ((x : Int), (y : Int), ()))
          rw [e4]
          exact hp.one (by omega) e3 (List.mem_of_getElem? e2)⟩
        have := (rows_each fl hx).1
        omega
      have e2 : (Str.join "\n" (x :: r)).length = _ := join_size 10 x r
      rw [e2, List.map_cons, List.sum_cons, hx]
      omega
  have t0 : Txt0 (Str.join "\n" (rowsOf (wsOf some_ A) (wsOf more D) kss)) (rowsOf (wsOf some_ A) (wsOf more D) kss) := ⟨hne, by rw [hlen]; omega, fun r hr => (fl1 r hr).1, fun r hr => (fl1 r hr).2, rfl, hpos⟩
  refine ⟨_, _, Q.length, SIX.take Q.length, ?_, t0, rfl, hq, ?_, ?_⟩
  · unfold m__law_board
    rw [e1, bs, bs, e2, bs, bs, ev, bs, bs, eu, bs, bs, bs, bs, hA, hD, rngO_ok (by omega) (by omega) (by omega) (by omega), bs, eb, bs]
    dsimp only
    rw [joinO_ok (by
      have := sum_le (xs := (rowsOf (wsOf some_ A) (wsOf more D) kss).map (·.length)) (b := 18) fun n hn => by
        obtain ⟨p, hp, rfl⟩ := List.mem_map.mp hn
        exact (fl1 p hp).1
      rw [List.length_map, hlen] at this
      rw [hlen]
      show _ + _ * 1 ≤ _
      omega), bs]
  · obtain ⟨f1, f2, _⟩ := t0.facts
    exact ⟨by omega, by omega, by omega⟩
  · refine board_floor hp (by omega) wsl (hk.trans hsl.symm) ((List.take_sublist _ _).nodup six_nd) ?_ p1 (by omega) p2 (by omega) (fun w hw => (ws_in hw).1) fun w hw => (ws_in hw).1
    rw [List.length_take]
    show min Q.length 6 = _
    omega
theorem law_main (ns : List Int) (hl : ns.length ≤ 63) : m_law (Fz.mk ns) = some true := by
  obtain ⟨c0, e0⟩ := cell_at (ns := ns) 0 (by omega)
  obtain ⟨c1, e1⟩ := cell_at (ns := ns) 1 (by omega)
  obtain ⟨T, rows, many, names, eb, t0, hn, hm, hf, d0, hd0⟩ := board_ok c0 c1
  have hn6 : names.length ≤ 6 := by
    rw [hn, List.length_take]
    show min many 6 ≤ 6
    omega
  unfold m_law
  rw [e0, bs, e1, bs, eb, bs, bs]
  dsimp only
  have ec : cut ([("ann" : Str), ("bo" : Str), ("cyd" : Str), ("dan" : Str), ("eve" : Str), ("fay" : Str)] : List Str) none (some ((many : Nat) : Int)) = names := by
    rw [hn]
    exact cut_to SIX many
  rw [ec, bs]
  have hfirst : m__law_told (upD T) (Fz.mk names) = some (Sum.inl d0) := told_ok hd0
  obtain ⟨hr, hq⟩ : m__law_read (upD T) (Fz.mk names) = some (some d0) ∧ Qe.qe d0 d0 = true := by
    rcases both hn6 (.inl ⟨T, rfl, hf⟩) with ⟨d, h1, h2, h3⟩ | ⟨h1, h2⟩
    · rw [hfirst] at h2
      have e := Sum.inl.inj (Option.some.inj h2)
      subst e
      exact ⟨h1, h3⟩
    · rw [hfirst] at h2
      cases Option.some.inj h2
  have eb1 : (if (decide ((0 : Int) < ((many : Nat) : Int))) = true then ((m__law_told (upD T) (Fz.mk names)).bind fun r_354 => (m__law_read (upD T) (Fz.mk names)).bind fun r_355 => (r_355).bind fun s_356 => (sumL r_354).bind fun su_357 => some (!Qe.qe su_357 s_356)) else some false) = some false := by
    rw [hfirst, bs, hr, bs, bs, show sumL (Sum.inl d0 : Sd) = some d0 from rfl, bs, hq]
    split <;> rfl
  rw [eb1, bs, if_neg Bool.false_ne_true]
  rw [forC_all (fun x hx => by
    obtain ⟨nums, en, ln⟩ := numbers_ok x 3 (by decide) (by decide)
    have ln : nums.length = 3 := ln
    obtain ⟨n0, k0, _⟩ := atI_some (xs := nums) (i := (0 : Int)) (by decide) (by rw [ln]; decide)
    obtain ⟨n1, k1, _⟩ := atI_some (xs := nums) (i := (1 : Int)) (by decide) (by rw [ln]; decide)
    obtain ⟨n2, k2, _⟩ := atI_some (xs := nums) (i := (2 : Int)) (by decide) (by rw [ln]; decide)
    obtain ⟨y, ey, hy⟩ := spoiled_ok t0 n0 n1
    unfold m_law_L1
    rw [en, bs, bs, k0, bs, k1, bs, ey, bs, bs, bs, k2, bs]
    have s6 : ∀ (lo hi : Option Int), (cut SIX lo hi).length ≤ 6 := fun lo hi => cut_len SIX lo hi
    obtain ⟨l1, h1, g1⟩ : ∃ l1 : List Str, (if (decide ((n2 % (8 : Int)) = (0 : Int))) = true then ((some (cut ([("ann" : Str), ("bo" : Str), ("cyd" : Str), ("dan" : Str), ("eve" : Str), ("fay" : Str)] : List Str) none (some (min (6 : Int) (((many : Nat) : Int) + (1 : Int)))))).bind fun told_here_378 => some told_here_378) else (some names)) = some l1 ∧ l1.length ≤ 6 := by
      split
      · exact ⟨_, rfl, s6 _ _⟩
      · exact ⟨_, rfl, hn6⟩
    rw [h1, bs, bs]
    obtain ⟨l2, h2, g2⟩ : ∃ l2 : List Str, (if (decide ((n2 % (8 : Int)) = (1 : Int))) = true then ((some (cut names none (some (-(1 : Int))))).bind fun told_here_384 => some told_here_384) else (some l1)) = some l2 ∧ l2.length ≤ 6 := by
      split
      · exact ⟨_, rfl, Nat.le_trans (cut_len _ _ _) hn6⟩
      · exact ⟨_, rfl, g1⟩
    rw [h2, bs]
    rcases both g2 hy with ⟨d, q1, q2, q3⟩ | ⟨q1, q2⟩
    · rw [q1, bs, bs, q2, bs, bs]
      rw [if_neg (show ¬ (some d).isNone = true from fun z => nomatch z), bs, if_neg Bool.false_ne_true, if_pos (show (some d).isSome = true from rfl), bs, show sumL (Sum.inl d : Sd) = some d from rfl, bs, q3, bs, bs]
      rfl
    · rw [q1, bs, bs, q2, bs, bs]
      rfl)]
  rfl
end Wk91
set_option synthInstance.maxHeartbeats 4000000
set_option synthInstance.maxSize 20000
open PySem PySem.W PyProof.Rows in
set_option maxRecDepth 100000 in
set_option maxHeartbeats 0 in
theorem PySem.Challenge.cw_boxgalley_k91_what_is_no_floor_holds : PySem.Challenge.rw_boxgalley_k91_what_is_no_floor.Holds := by
  w_on; o_law; k_head; (case hw => w_witness2)
  k_fill
  refine L2.walk_of (l := PySem.Challenge.rw_boxgalley_k91_what_is_no_floor) (n := 63) (k := 4) (x := "_law_script") (CX := fun _ => L2.CX0) (sp := fun w => Wk91.spLaw _) rfl (by decide) rfl ⟨rfl, by decide, by decide⟩ (fun w h Y => PySem.W.kIn_of Y) ?F (fun _ _ a ns hl _ hS => ⟨a, ns, rfl, hS, hl, fun _ => rfl⟩) (fun _ _ _ _ _ h => h)
  case F =>
    intro w mg fa h KX G hmg
    refine' Wk91.all_mk Wk91.law_main KX G hmg ?a_rows_of_floor ?l_rows_of_floor ?c_rows_of_floor ?k_rows_of_floor ?a_read_floor ?l_read_floor ?c_read_floor ?k_read_floor ?a__law_cell_at ?l__law_cell_at ?c__law_cell_at ?k__law_cell_at ?a__law_numbers ?l__law_numbers ?c__law_numbers ?k__law_numbers ?a__law_board ?l__law_board ?c__law_board ?k__law_board ?a__law_read ?l__law_read ?c__law_read ?k__law_read ?a__law_spoiled ?l__law_spoiled ?c__law_spoiled ?k__law_spoiled ?a__law_told ?l__law_told ?c__law_told ?k__law_told ?a_law ?l_law ?c_law ?k_law ?aC_NoRead ?aC_BoxError ?aC_NoFloor ?aC_NoTree ?xP_NoRead ?kc_NoRead ?su_NoRead_BaseException ?ty_NoRead ?fi_NoRead_getattribute ?fi_NoRead_getattr ?is_NoRead ?fi_NoRead_class ?spc ?tkc ?mro_NoRead ?su_NoRead_BoxError ?su_NoRead_NoRead ?is_BoxError ?ty_BoxError ?su_NoRead_NoFloor ?is_NoFloor ?ty_NoFloor ?su_NoRead_NoTree ?is_NoTree ?ty_NoTree ?z_enumerate ?z_isinstance ?z_len ?z_list ?z_max ?z_min ?z_range ?z_str ?ki_MOST ?ki_FREE ?ki_SIGNS
    (case a_rows_of_floor => k_is)
    (case l_rows_of_floor => k_is)
    (case c_rows_of_floor => k_is)
    (case k_rows_of_floor => k_is)
    (case a_read_floor => k_is)
    (case l_read_floor => k_is)
    (case c_read_floor => k_is)
    (case k_read_floor => k_is)
    (case a__law_cell_at => k_is)
    (case l__law_cell_at => k_is)
    (case c__law_cell_at => k_is)
    (case k__law_cell_at => k_is)
    (case a__law_numbers => k_is)
    (case l__law_numbers => k_is)
    (case c__law_numbers => k_is)
    (case k__law_numbers => k_is)
    (case a__law_board => k_is)
    (case l__law_board => k_is)
    (case c__law_board => k_is)
    (case k__law_board => k_is)
    (case a__law_read => k_is)
    (case l__law_read => k_is)
    (case c__law_read => k_is)
    (case k__law_read => k_is)
    (case a__law_spoiled => k_is)
    (case l__law_spoiled => k_is)
    (case c__law_spoiled => k_is)
    (case k__law_spoiled => k_is)
    (case a__law_told => k_is)
    (case l__law_told => k_is)
    (case c__law_told => k_is)
    (case k__law_told => k_is)
    (case a_law => k_is)
    (case l_law => k_is)
    (case c_law => k_is)
    (case k_law => k_is)
    (case aC_NoRead => k_is)
    (case aC_BoxError => k_is)
    (case aC_NoFloor => k_is)
    (case aC_NoTree => k_is)
    (case xP_NoRead => k_exc)
    (case kc_NoRead => k_is)
    (case su_NoRead_BaseException => k_is)
    (case ty_NoRead => k_is)
    (case fi_NoRead_getattribute => k_is)
    (case fi_NoRead_getattr => k_is)
    (case is_NoRead => k_is)
    (case fi_NoRead_class => k_is)
    (case spc => k_is)
    (case tkc => k_is)
    (case mro_NoRead => k_is)
    (case su_NoRead_BoxError => k_is)
    (case su_NoRead_NoRead => k_is)
    (case is_BoxError => k_is)
    (case ty_BoxError => k_is)
    (case su_NoRead_NoFloor => k_is)
    (case is_NoFloor => k_is)
    (case ty_NoFloor => k_is)
    (case su_NoRead_NoTree => k_is)
    (case is_NoTree => k_is)
    (case ty_NoTree => k_is)
    (case z_enumerate => k_is)
    (case z_isinstance => k_is)
    (case z_len => k_is)
    (case z_list => k_is)
    (case z_max => k_is)
    (case z_min => k_is)
    (case z_range => k_is)
    (case z_str => k_is)
    (case ki_MOST => k_is)
    (case ki_FREE => k_is)
    (case ki_SIGNS => k_is)
