import PyProof.Rows.All
import Wide.All
import OpenK.AllK
import Wide.FinOn
import HandS.ForMost
import HandS.Evl
import HandS.Wide
import HandS.IsInst
import HandS.SortInts
import HandS.TupAny
import HandS.Dict
import KE.SortData
import HandS.Style
import HandS.More
import HandS.Sort
import HandS.StrMore
import PyProof.SumAny
import KE.DataCmp
import KE.DataMinMax
import PyProof.StrBlock2
import KE.KDictPairs
import KE.KDictCopyH
import HandS.DictComp
import HandS.Iter
import HandS.OwnEq
import HandS.DeepEq
import PyProof.NeKinds
import PyProof.DictUpdate
import HandS.Text
import KE.KEqNest
import KE.KDictList
import PySem.Challenge.RW_boxgalley_k05_whole_shares_checked
set_option Elab.async false
set_option linter.all false
set_option maxRecDepth 100000
set_option maxHeartbeats 2000000
/-! Wk: typed mirrors over the hand layer: what a value stands for, a state by slots and owned objects, one rule a construct. -/
namespace Wk
open PySem PySem.Spec L2 Evl

abbrev Fg := PySem.W.Frag
def isDk : HO → Prop
  | .dK _ => True
  | .dT _ => True
  | _ => False
/-- all that stood stands; a dict may be locked, or set free again -/
def Sw (H H' : Hp) : Prop := ∀ q u, H q = some u → H' q = some u ∨ ∃ o w, isDk w ∧ ((u = w ∧ H' q = some (.frz o w)) ∨ (u = .frz o w ∧ H' q = some w))
theorem Sw.of {H H' : Hp} (e : Ex H H') : Sw H H' := fun q u h => .inl (e q u h)
theorem Sw.keep {H H' : Hp} (e : Sw H H') {q : Addr} {u : HO} (h : H q = some u) (n1 : ¬ isDk u) (n2 : ∀ o w, u ≠ .frz o w) : H' q = some u := by
  rcases e q u h with h | ⟨o, w, hw, ⟨rfl, _⟩ | ⟨h, _⟩⟩
  · exact h
  · exact absurd hw n1
  · exact absurd h (n2 o w)
theorem Sw.lst {H H' : Hp} (e : Sw H H') {q : Addr} {vs : List V} (h : H q = some (.lst vs)) : H' q = some (.lst vs) := e.keep h (fun z => z) (fun _ _ z => nomatch z)
theorem Sw.tup {H H' : Hp} (e : Sw H H') {q : Addr} {vs : List V} (h : H q = some (.tup vs)) : H' q = some (.tup vs) := e.keep h (fun z => z) (fun _ _ z => nomatch z)
theorem Sw.rdl {H H' : Hp} (e : Sw H H') {q : Addr} {u : HO} (h : Rd H q u) (n1 : ¬ isDk u) (n2 : ∀ o w, u ≠ .frz o w) : Rd H' q u := by
  rcases h with h | ⟨o, h⟩
  · exact .inl (e.keep h n1 n2)
  · rcases e q _ h with h | ⟨o2, w, hw, ⟨z, _⟩ | ⟨h, h2⟩⟩
    · exact .inr ⟨o, h⟩
    · subst z
      exact False.elim hw
    · cases h
      exact absurd hw n1
theorem Sw.rd {H H' : Hp} (e : Sw H H') {q : Addr} {u : HO} (h : Rd H q u) (n1 : isDk u) : Rd H' q u := by
  have n2 : ∀ o w, u ≠ .frz o w := fun o w z => by
    subst z
    exact n1
  rcases h with h | ⟨o, h⟩
  · rcases e q _ h with h | ⟨o2, w, hw, ⟨rfl, h⟩ | ⟨h, _⟩⟩
    · exact .inl h
    · exact .inr ⟨o2, h⟩
    · exact absurd h (n2 _ _)
  · rcases e q _ h with h | ⟨o2, w, hw, ⟨z, _⟩ | ⟨h, h2⟩⟩
    · exact .inr ⟨o, h⟩
    · subst z
      exact False.elim hw
    · cases h
      exact .inl h2
theorem Sw.l {K : Fg} {H H' : Hp} (e : Sw H H') {a : Addr} {xs : List V} (h : SqL K H a xs) : SqL K H' a xs := by
  rcases h with h | h
  · exact .inl (e.rdl h (fun z => z) (fun _ _ z => nomatch z))
  · exact .inr h
theorem Sw.t {K : Fg} {H H' : Hp} (e : Sw H H') {a : Addr} {xs : List V} (h : SqT K H a xs) : SqT K H' a xs := by
  rcases h with h | h
  · exact .inl (e.rdl h (fun z => z) (fun _ _ z => nomatch z))
  · exact .inr h
/-- v stands for a, by what is known in H -/
class Rp (α : Type) where
  rep : Fg → Hp → V → α → Prop
  swap : ∀ {K : Fg} {H H' : Hp} {v : V} {a : α}, Sw H H' → rep K H v a → rep K H' v a
theorem Rp.mono {α : Type} [i : Rp α] {K : Fg} {H H' : Hp} {v : V} {a : α} (e : Ex H H') (h : Rp.rep K H v a) : Rp.rep K H' v a := i.swap (.of e) h
/-- the places of a tuple | the arguments of a call -/
class Tp (τ : Type) where
  n : Nat
  rept : Fg → Hp → List V → τ → Prop
  len : ∀ {K : Fg} {H : Hp} {vs : List V} {t : τ}, rept K H vs t → vs.length = n
  swap : ∀ {K : Fg} {H H' : Hp} {vs : List V} {t : τ}, Sw H H' → rept K H vs t → rept K H' vs t
theorem Tp.mono {τ : Type} [i : Tp τ] {K : Fg} {H H' : Hp} {vs : List V} {t : τ} (e : Ex H H') (h : Tp.rept K H vs t) : Tp.rept K H' vs t := i.swap (.of e) h
abbrev rep {α : Type} [Rp α] (K : Fg) (H : Hp) (v : V) (a : α) : Prop := Rp.rep K H v a
abbrev rept {τ : Type} [Tp τ] (K : Fg) (H : Hp) (vs : List V) (t : τ) : Prop := Tp.rept K H vs t
/-- what needs no heap -/
class Fl (α : Type) [Rp α] where
  toV : α → V
  iff : ∀ {K : Fg} {H : Hp} {v : V} {a : α}, Rp.rep K H v a ↔ v = toV a

inductive Nn where | nn
  deriving DecidableEq
instance rpInt : Rp Int := { rep := fun _ _ v a => v = .int a, swap := fun _ h => h }
instance : Fl Int := { toV := V.int, iff := Iff.rfl }
instance rpBool : Rp Bool := { rep := fun _ _ v a => v = .bl a, swap := fun _ h => h }
instance : Fl Bool := { toV := V.bl, iff := Iff.rfl }
instance rpStr : Rp Str := { rep := fun _ _ v a => v = .str a, swap := fun _ h => h }
instance : Fl Str := { toV := V.str, iff := Iff.rfl }
instance rpNn : Rp Nn := { rep := fun _ _ v _ => v = .non, swap := fun _ h => h }
instance : Fl Nn := { toV := fun _ => V.non, iff := Iff.rfl }
/-- None, or something -/
instance {α : Type} [Rp α] : Rp (Option α) where
  rep K H v a := match a with | none => v = .non | some x => v ≠ .non ∧ rep K H v x
  swap {K H H' v a} e h := match a, h with
    | none, h => h
    | some _, h => ⟨h.1, Rp.swap e h.2⟩

theorem paired_mono {α : Type} [Rp α] {K : Fg} {H H' : Hp} (e : Ex H H') {vs : List V} {xs : List α} (h : Paired (rep K H) vs xs) : Paired (rep K H') vs xs :=
  Paired.mapP h fun _ _ q => Rp.mono e q
theorem paired_swap {α : Type} [Rp α] {K : Fg} {H H' : Hp} (e : Sw H H') {vs : List V} {xs : List α} (h : Paired (rep K H) vs xs) : Paired (rep K H') vs xs :=
  Paired.mapP h fun _ _ q => Rp.swap e q
/-- a list that stands exactly so -/
instance {α : Type} [Rp α] : Rp (List α) where
  rep K H v xs := ∃ p vs, v = .ref p ∧ H p = some (.lst vs) ∧ Paired (rep K H) vs xs
  swap e h := by
    obtain ⟨p, vs, h1, h2, h3⟩ := h
    exact ⟨p, vs, h1, e.lst h2, paired_swap e h3⟩
/-- a list that is read (the script, a list of the top) -/
structure Fz (α : Type) where
  l : List α
instance {α : Type} [Rp α] : Rp (Fz α) where
  rep K H v xs := ∃ p vs, v = .ref p ∧ SqL K H p vs ∧ Paired (rep K H) vs xs.l
  swap e h := by
    obtain ⟨p, vs, h1, h2, h3⟩ := h
    exact ⟨p, vs, h1, e.l h2, paired_swap e h3⟩
/-- a tuple of the top -/
structure Kt (α : Type) where
  l : List α
instance {α : Type} [Rp α] : Rp (Kt α) where
  rep K H v xs := ∃ p vs, v = .ref p ∧ SqT K H p vs ∧ Paired (rep K H) vs xs.l
  swap e h := by
    obtain ⟨p, vs, h1, h2, h3⟩ := h
    exact ⟨p, vs, h1, e.t h2, paired_swap e h3⟩
/-- a tuple of alike things, of any length -/
structure Tu (α : Type) where
  l : List α
  deriving DecidableEq
instance {α : Type} [Rp α] : Rp (Tu α) where
  rep K H v xs := ∃ p vs, v = .ref p ∧ H p = some (.tup vs) ∧ Paired (rep K H) vs xs.l
  swap e h := by
    obtain ⟨p, vs, h1, h2, h3⟩ := h
    exact ⟨p, vs, h1, e.tup h2, paired_swap e h3⟩
instance : Tp Unit where
  n := 0
  rept _ _ vs _ := vs = []
  len h := by rw [h]; rfl
  swap _ h := h
instance {α τ : Type} [Rp α] [Tp τ] : Tp (α × τ) where
  n := Tp.n τ + 1
  rept K H vs t := ∃ v r, vs = v :: r ∧ rep K H v t.1 ∧ rept K H r t.2
  len h := by
    obtain ⟨v, r, h1, h2, h3⟩ := h
    rw [h1, List.length_cons, Tp.len h3]
  swap e h := by
    obtain ⟨v, r, h1, h2, h3⟩ := h
    exact ⟨v, r, h1, Rp.swap e h2, Tp.swap e h3⟩
/-- a tuple: (a, (b, (c, ()))) -/
instance {α τ : Type} [Rp α] [Tp τ] : Rp (α × τ) where
  rep K H v t := ∃ p vs, v = .ref p ∧ H p = some (.tup vs) ∧ rept K H vs t
  swap e h := by
    obtain ⟨p, vs, h1, h2, h3⟩ := h
    exact ⟨p, vs, h1, e.tup h2, Tp.swap e h3⟩

/-! ### the state -/
inductive Sl : Type 1 where
  | any
  | val (α : Type) (i : Rp α) (x : α)
  | at (p : Addr)
def sv {α : Type} [i : Rp α] (x : α) : Sl := .val α i x
def Sl.ok (K : Fg) (Kn : Hp) : Sl → Option V → Prop
  | .any, _ => True
  | .val _ i x, o => ∃ v, o = some v ∧ i.rep K Kn v x
  | .at p, o => o = some (.ref p)
def SlsOk (K : Fg) (Kn : Hp) : List Sl → St → Prop
  | [], [] => True
  | s :: ss, o :: os => s.ok K Kn o ∧ SlsOk K Kn ss os
  | _, _ => False
theorem Sl.ok_mono {K : Fg} {H H' : Hp} (e : Ex H H') : ∀ {s : Sl} {o : Option V}, s.ok K H o → s.ok K H' o
  | .any, _, _ => trivial
  | .val _ i _, _, ⟨v, h1, h2⟩ => ⟨v, h1, i.swap (.of e) h2⟩
  | .at _, _, h => h
theorem SlsOk.mono {K : Fg} {H H' : Hp} (e : Ex H H') : ∀ {ss : List Sl} {σ : St}, SlsOk K H ss σ → SlsOk K H' ss σ
  | [], [], _ => trivial
  | _ :: _, _ :: _, h => ⟨Sl.ok_mono e h.1, SlsOk.mono e h.2⟩
theorem Sl.ok_swap {K : Fg} {H H' : Hp} (e : Sw H H') : ∀ {s : Sl} {o : Option V}, s.ok K H o → s.ok K H' o
  | .any, _, _ => trivial
  | .val _ i _, _, ⟨v, h1, h2⟩ => ⟨v, h1, i.swap e h2⟩
  | .at _, _, h => h
theorem SlsOk.swap {K : Fg} {H H' : Hp} (e : Sw H H') : ∀ {ss : List Sl} {σ : St}, SlsOk K H ss σ → SlsOk K H' ss σ
  | [], [], _ => trivial
  | _ :: _, _ :: _, h => ⟨Sl.ok_swap e h.1, SlsOk.swap e h.2⟩
theorem SlsOk.get {K : Fg} {H : Hp} : ∀ {ss : List Sl} {σ : St} {i : Nat} {s : Sl}, SlsOk K H ss σ → ss[i]? = some s → ∃ o, σ[i]? = some o ∧ s.ok K H o
  | _ :: _, o :: _, 0, _, h, e => by
    cases Option.some.inj e
    exact ⟨o, rfl, h.1⟩
  | _ :: ss, _ :: os, i + 1, s, h, e => SlsOk.get (ss := ss) (σ := os) (i := i) h.2 e
theorem SlsOk.set {K : Fg} {H : Hp} {s : Sl} {o : Option V} (hs : s.ok K H o) : ∀ {ss : List Sl} {σ : St} (i : Nat), SlsOk K H ss σ → SlsOk K H (ss.set i s) (σ.set i o)
  | [], [], _, _ => trivial
  | _ :: _, _ :: _, 0, h => ⟨hs, h.2⟩
  | _ :: _, _ :: _, i + 1, h => ⟨h.1, SlsOk.set hs i h.2⟩
/-- less is known -/
inductive SlLe : List Sl → List Sl → Prop
  | nil : SlLe [] []
  | keep {s : Sl} {a b : List Sl} : SlLe a b → SlLe (s :: a) (s :: b)
  | drop {s : Sl} {a b : List Sl} : SlLe a b → SlLe (s :: a) (.any :: b)
theorem SlLe.refl : ∀ (a : List Sl), SlLe a a
  | [] => .nil
  | _ :: r => .keep (SlLe.refl r)
theorem SlsOk.le {K : Fg} {H : Hp} : ∀ {a b : List Sl} {σ : St}, SlLe a b → SlsOk K H a σ → SlsOk K H b σ
  | _, _, [], .nil, _ => trivial
  | _, _, _ :: _, .keep l, h => ⟨h.1, SlsOk.le l h.2⟩
  | _, _, _ :: _, .drop l, h => ⟨trivial, SlsOk.le l h.2⟩

/-- what an object stands for, by what is known in H -/
class Ob (γ : Type) where
  ob : Fg → Hp → HO → γ → Prop
  swap : ∀ {K : Fg} {H H' : Hp} {o : HO} {x : γ}, Sw H H' → ob K H o x → ob K H' o x
theorem Ob.mono {γ : Type} [i : Ob γ] {K : Fg} {H H' : Hp} {o : HO} {x : γ} (e : Ex H H') (h : Ob.ob K H o x) : Ob.ob K H' o x := i.swap (.of e) h
/-- an object of one's own, that may change -/
inductive Ow : Type 1 where
  | lst (p : Addr) (α : Type) (i : Rp α) (xs : List α)
  | obj (p : Addr) (γ : Type) (i : Ob γ) (x : γ)
def oo {γ : Type} [i : Ob γ] (p : Addr) (x : γ) : Ow := .obj p γ i x
def ol {α : Type} [i : Rp α] (p : Addr) (xs : List α) : Ow := .lst p α i xs
def Ow.ad : Ow → Addr
  | .lst p _ _ _ => p
  | .obj p _ _ _ => p
def Ow.ok (K : Fg) (Kn H : Hp) : Ow → Prop
  | .lst p _ i xs => ∃ vs, H p = some (.lst vs) ∧ Paired (i.rep K Kn) vs xs
  | .obj p _ i x => ∃ o, H p = some o ∧ i.ob K Kn o x
theorem Ow.ok_swap {K : Fg} {Kn Kn' H H' : Hp} (e : Sw Kn Kn') : ∀ {o : Ow}, H' o.ad = H o.ad → o.ok K Kn H → o.ok K Kn' H'
  | .lst _ _ i _, eh, ⟨vs, h1, h2⟩ => ⟨vs, eh.trans h1, Paired.mapP h2 fun _ _ q => i.swap e q⟩
  | .obj _ _ i _, eh, ⟨o, h1, h2⟩ => ⟨o, eh.trans h1, i.swap e h2⟩
theorem Ow.ok_mono {K : Fg} {Kn Kn' H H' : Hp} (e : Ex Kn Kn') {o : Ow} (eh : H' o.ad = H o.ad) (h : o.ok K Kn H) : o.ok K Kn' H' := Ow.ok_swap (.of e) eh h
theorem ne_none_of {H : Hp} {p : Addr} {o : HO} (h : H p = some o) : H p ≠ none := fun z => by
  rw [h] at z
  cases z
theorem Ow.there {K : Fg} {Kn H : Hp} : ∀ {o : Ow}, o.ok K Kn H → H o.ad ≠ none
  | .lst p _ _ _, h => by
    obtain ⟨vs, h, _⟩ := h
    exact ne_none_of (show H p = some (.lst vs) from h)
  | .obj p _ _ _, h => by
    obtain ⟨o, h, _⟩ := h
    exact ne_none_of (show H p = some o from h)
structure OwsOk (K : Fg) (F Kn H : Hp) (ow : List Ow) : Prop where
  each : ∀ o ∈ ow, F o.ad = none ∧ Kn o.ad = none ∧ o.ok K Kn H
  nd : (ow.map Ow.ad).Nodup

/-- the state: F stands untouched, Kn is known (by and by more), the slots, the objects of one's own -/
structure S (K : Fg) (F Kn0 : Hp) (sl : List Sl) (ow : List Ow) (σ : St) (Kn H : Hp) : Prop where
  e0 : Ex Kn0 Kn
  ek : Ex Kn H
  ef : Ex F H
  sep : ∀ p, F p ≠ none → Kn0 p = none → Kn p = none
  sl : SlsOk K Kn sl σ
  ow : OwsOk K F Kn H ow

/-- growth: nothing that stood is touched, nothing that stood unknown is known -/
structure Gr (Kn H Kn' H' : Hp) : Prop where
  kk : Ex Kn Kn'
  hh : Ex H H'
  kh : Ex Kn' H'
  sp : ∀ p, H p ≠ none → Kn p = none → Kn' p = none
theorem Gr.refl {Kn H : Hp} (e : Ex Kn H) : Gr Kn H Kn H := ⟨Ex.refl _, Ex.refl _, e, fun _ _ h => h⟩
theorem Ex.nn {H H' : Hp} (e : Ex H H') {p : Addr} (h : H p ≠ none) : H' p ≠ none := by
  cases q : H p with
  | none => exact absurd q h
  | some o => exact ne_none_of (e _ _ q)
theorem Ex.at_eq {H H' : Hp} (e : Ex H H') {p : Addr} (h : H p ≠ none) : H' p = H p := by
  cases q : H p with
  | none => exact absurd q h
  | some o => exact e _ _ q
theorem Gr.trans {Kn H Kn1 H1 Kn2 H2 : Hp} (a : Gr Kn H Kn1 H1) (b : Gr Kn1 H1 Kn2 H2) : Gr Kn H Kn2 H2 :=
  ⟨a.kk.trans b.kk, a.hh.trans b.hh, b.kh, fun p h1 h2 => b.sp p (Ex.nn a.hh h1) (a.sp p h1 h2)⟩
/-- a new object, known -/
theorem Gr.new {Kn H : Hp} {p : Addr} {o : HO} (e : Ex Kn H) (hp : H p = none) : Gr Kn H (upd Kn p o) (upd H p o) := by
  have kp : Kn p = none := fresh_back e hp
  refine ⟨Ex.new kp, Ex.new hp, fun a u h => ?_, fun q h1 h2 => ?_⟩
  · by_cases hq : a = p
    · subst hq
      rw [upd_same] at h ⊢
      exact h
    · rw [upd_ne hq] at h ⊢
      exact e _ _ h
  · have hq : q ≠ p := fun z => by
      subst z
      exact h1 hp
    rw [upd_ne hq]
    exact h2
/-- a new object, not known yet -/
theorem Gr.newU {Kn H : Hp} {p : Addr} {o : HO} (e : Ex Kn H) (hp : H p = none) : Gr Kn H Kn (upd H p o) :=
  ⟨Ex.refl _, Ex.new hp, e.trans (Ex.new hp), fun _ _ h2 => h2⟩
/-- what was new is known from now on -/
theorem Gr.know {Kn H Kn' H' : Hp} {p : Addr} {o : HO} (g : Gr Kn H Kn' H') (hp : H p = none) (kp : Kn' p = none) (hp' : H' p = some o) : Gr Kn H (upd Kn' p o) H' :=
  ⟨g.kk.trans (Ex.new kp), g.hh, fun a u h => by
    by_cases hq : a = p
    · subst hq
      rw [upd_same] at h
      rw [← h]
      exact hp'
    · rw [upd_ne hq] at h
      exact g.kh _ _ h, fun q h1 h2 => by
    have hq : q ≠ p := fun z => by
      subst z
      exact h1 hp
    rw [upd_ne hq]
    exact g.sp q h1 h2⟩

section
variable {K : Fg} {F Kn0 : Hp} {sl sl' : List Sl} {ow ow' : List Ow} {σ : St} {Kn H Kn' H' : Hp}
theorem S.grow (s : S K F Kn0 sl ow σ Kn H) (g : Gr Kn H Kn' H') : S K F Kn0 sl ow σ Kn' H' :=
  ⟨s.e0.trans g.kk, g.kh, s.ef.trans g.hh, fun p h1 h2 => g.sp p (Ex.nn s.ef h1) (s.sep p h1 h2), s.sl.mono g.kk,
    ⟨fun o ho => by
      obtain ⟨h1, h2, h3⟩ := s.ow.each o ho
      have h4 := Ow.there h3
      exact ⟨h1, g.sp _ h4 h2, Ow.ok_mono g.kk (Ex.at_eq g.hh h4) h3⟩, s.ow.nd⟩⟩
theorem S.le (s : S K F Kn0 sl ow σ Kn H) (l : SlLe sl sl') : S K F Kn0 sl' ow σ Kn H := ⟨s.e0, s.ek, s.ef, s.sep, s.sl.le l, s.ow⟩
theorem S.set (s : S K F Kn0 sl ow σ Kn H) {x : Sl} {o : Option V} (i : Nat) (h : x.ok K Kn o) : S K F Kn0 (sl.set i x) ow (σ.set i o) Kn H :=
  ⟨s.e0, s.ek, s.ef, s.sep, SlsOk.set h i s.sl, s.ow⟩
theorem S.setv (s : S K F Kn0 sl ow σ Kn H) {α : Type} [Rp α] {x : α} {v : V} (i : Nat) (h : rep K Kn v x) : S K F Kn0 (sl.set i (sv x)) ow (σ.set i (some v)) Kn H :=
  s.set i ⟨v, rfl, h⟩
/-- some objects are not named any more -/
theorem S.sub (s : S K F Kn0 sl ow σ Kn H) (l : ow'.Sublist ow) : S K F Kn0 sl ow' σ Kn H :=
  ⟨s.e0, s.ek, s.ef, s.sep, s.sl, ⟨fun o ho => s.ow.each o (l.subset ho), s.ow.nd.sublist (l.map _)⟩⟩
theorem S.fin (s : S K F Kn0 sl ow σ Kn H) : S K F Kn0 [] ow [] Kn H := ⟨s.e0, s.ek, s.ef, s.sep, trivial, s.ow⟩
end

/-! ### the judgements -/
section
variable (K : Fg) (F Kn0 : Hp) (sl : List Sl) (ow : List Ow)
def EV {α : Type} [Rp α] (te : TE) (x : α) : Prop := ∀ σ Kn H, S K F Kn0 sl ow σ Kn H → ∀ Q : VK, (∀ v Kn' H', Gr Kn H Kn' H' → rep K Kn' v x → Q v H') → te σ H Q
/-- a new list -/
def EN {α : Type} [Rp α] (te : TE) (xs : List α) : Prop := ∀ σ Kn H, S K F Kn0 sl ow σ Kn H → ∀ Q : VK,
  (∀ p ws Kn' H', Gr Kn H Kn' H' → H p = none → Kn' p = none → H' p = some (.lst ws) → Paired (rep K Kn') ws xs → Q (.ref p) H') → te σ H Q
/-- what is changed on the way is told: ow, then ow' -/
def EM {α : Type} [Rp α] (te : TE) (ow' : List Ow) (x : α) : Prop := ∀ σ Kn H, S K F Kn0 sl ow σ Kn H → ∀ Q : VK,
  (∀ v Kn' H', Ex Kn Kn' → S K F Kn0 sl ow' σ Kn' H' → rep K Kn' v x → Q v H') → te σ H Q
def ENM {α : Type} [Rp α] (te : TE) (ow' : List Ow) (xs : List α) : Prop := ∀ σ Kn H, S K F Kn0 sl ow σ Kn H → ∀ Q : VK,
  (∀ p ws Kn' H', Ex Kn Kn' → S K F Kn0 sl ow' σ Kn' H' → F p = none → Kn' p = none → (∀ o ∈ ow', o.ad ≠ p) → H' p = some (.lst ws) → Paired (rep K Kn') ws xs → Q (.ref p) H') → te σ H Q
def ET (tt : TT) (b : Bool) : Prop := ∀ σ Kn H, S K F Kn0 sl ow σ Kn H → ∀ Q : Bool → Hp → Prop, (∀ Kn' H', Gr Kn H Kn' H' → Q b H') → tt σ H Q
def EA {τ : Type} [Tp τ] (ta : TA) (t : τ) : Prop := ∀ σ Kn H, S K F Kn0 sl ow σ Kn H → ∀ Q : List V → Hp → Prop, (∀ vs Kn' H', Gr Kn H Kn' H' → rept K Kn' vs t → Q vs H') → ta σ H Q
def EAM {τ : Type} [Tp τ] (ta : TA) (ow' : List Ow) (t : τ) : Prop := ∀ σ Kn H, S K F Kn0 sl ow σ Kn H → ∀ Q : List V → Hp → Prop,
  (∀ vs Kn' H', Ex Kn Kn' → S K F Kn0 sl ow' σ Kn' H' → rept K Kn' vs t → Q vs H') → ta σ H Q
def SB (D : Ends) (ts : TS) : Prop := ∀ σ Kn H, S K F Kn0 sl ow σ Kn H → ts D σ H
/-- what is wanted of a return -/
def RT (R : VK) {α : Type} [Rp α] (x : α) : Prop := ∀ v Kn H, S K F Kn0 [] ow [] Kn H → rep K Kn v x → R v H
def RN (R : VK) {α : Type} [Rp α] (xs : List α) : Prop := ∀ p ws Kn H, S K F Kn0 [] ow [] Kn H → F p = none → Kn p = none → H p = some (.lst ws) → Paired (rep K Kn) ws xs → R (.ref p) H
end

section
variable {K : Fg} {F Kn0 : Hp} {sl sl' : List Sl} {ow ow1 ow2 : List Ow} {α β γ : Type} [Rp α] [Rp β] [Rp γ] {ta tb te : TE} {x : α} {y : β} {z : γ}
theorem EN.ev {xs : List α} (h : EN K F Kn0 sl ow te xs) : EV K F Kn0 sl ow te xs := fun σ Kn H s Q q => h σ Kn H s Q fun p ws Kn' H' g hp kp hw r =>
  q _ (upd Kn' p (.lst ws)) H' (g.know hp kp hw) ⟨p, ws, rfl, upd_same, paired_mono (Ex.new kp) r⟩
theorem EV.em (h : EV K F Kn0 sl ow te x) : EM K F Kn0 sl ow te ow x := fun σ Kn H s Q q => h σ Kn H s Q fun v Kn' H' g r => q v Kn' H' g.kk (s.grow g) r
theorem owned_ne {σ : St} {Kn H : Hp} (s : S K F Kn0 sl ow σ Kn H) {p : Addr} (hp : H p = none) : ∀ o ∈ ow, o.ad ≠ p := fun o ho z => by
  have := Ow.there (s.ow.each o ho).2.2
  rw [z] at this
  exact this hp
theorem EN.em {xs : List α} (h : EN K F Kn0 sl ow te xs) : ENM K F Kn0 sl ow te ow xs := fun σ Kn H s Q q => h σ Kn H s Q fun p ws Kn' H' g hp kp hw r =>
  q p ws Kn' H' g.kk (s.grow g) (fresh_back s.ef hp) kp (owned_ne s hp) hw r
theorem S.know {σ : St} {Kn H : Hp} (s : S K F Kn0 sl ow σ Kn H) {p : Addr} {o : HO} (fp : F p = none) (kp : Kn p = none) (no : ∀ o ∈ ow, o.ad ≠ p) (hp : H p = some o) : S K F Kn0 sl ow σ (upd Kn p o) H :=
  ⟨s.e0.trans (Ex.new kp), fun a u h => by
    by_cases hq : a = p
    · subst hq
      rw [upd_same] at h
      rw [← h]
      exact hp
    · rw [upd_ne hq] at h
      exact s.ek _ _ h, s.ef, fun q h1 h2 => by
    have hq : q ≠ p := fun z => by
      subst z
      exact h1 fp
    rw [upd_ne hq]
    exact s.sep q h1 h2, s.sl.mono (Ex.new kp), ⟨fun o ho => by
      obtain ⟨h1, h2, h3⟩ := s.ow.each o ho
      exact ⟨h1, by rw [upd_ne (no o ho)]; exact h2, Ow.ok_mono (Ex.new kp) rfl h3⟩, s.ow.nd⟩⟩
theorem ENM.em {xs : List α} (h : ENM K F Kn0 sl ow te ow1 xs) : EM K F Kn0 sl ow te ow1 xs := fun σ Kn H s Q q => h σ Kn H s Q fun p ws Kn' H' e s' fp kp no hw r =>
  q _ (upd Kn' p (.lst ws)) H' (e.trans (Ex.new kp)) (s'.know fp kp no hw) ⟨p, ws, rfl, upd_same, paired_mono (Ex.new kp) r⟩
theorem EV.cast {x' : α} (h : EV K F Kn0 sl ow te x) (e : x = x') : EV K F Kn0 sl ow te x' := e ▸ h
theorem ET.cast {tt : TT} {b b' : Bool} (h : ET K F Kn0 sl ow tt b) (e : b = b') : ET K F Kn0 sl ow tt b' := e ▸ h
end
end Wk
/-! Wk2: rules for expressions -/
namespace Wk
open PySem PySem.Spec L2 Evl
section
variable {K : Fg} {F Kn0 : Hp} {sl sl' : List Sl} {ow ow1 ow2 : List Ow} {α β γ τ : Type} [Rp α] [Rp β] [Rp γ] [Tp τ] {ta tb te : TE} {x : α} {y : β} {z : γ}

theorem paired_fl {α : Type} [Rp α] [Fl α] {H : Hp} : ∀ {vs : List V} {xs : List α}, Paired (rep K H) vs xs → vs = xs.map Fl.toV
  | _, _, .nil => rfl
  | _, _, .cons h t => by rw [List.map_cons, ← paired_fl t, Fl.iff.mp h]
theorem fl_paired {α : Type} [Rp α] [Fl α] {H : Hp} : ∀ (xs : List α), Paired (rep K H) (xs.map Fl.toV) xs
  | [] => .nil
  | _ :: t => .cons (Fl.iff.mpr rfl) (fl_paired t)
theorem paired_len {H : Hp} {vs : List V} {xs : List α} (h : Paired (rep K H) vs xs) : vs.length = xs.length := Paired.length h
theorem paired_at {F : V → α → Prop} : ∀ {vs : List V} {xs : List α}, Paired F vs xs → ∀ {j : Nat} {a : α}, xs[j]? = some a → ∃ v, vs[j]? = some v ∧ F v a
  | _, _, .nil, _, _, e => by simp at e
  | _, _, .cons r _, 0, _, e => by
    simp at e
    subst e
    exact ⟨_, rfl, r⟩
  | _, _, .cons _ t, j + 1, a, e => by
    obtain ⟨v, h1, h2⟩ := paired_at t (j := j) (a := a) (by simpa using e)
    exact ⟨v, by simpa using h1, h2⟩
theorem paired_append {F : V → α → Prop} : ∀ {vs ws : List V} {xs ys : List α}, Paired F vs xs → Paired F ws ys → Paired F (vs ++ ws) (xs ++ ys)
  | _, _, _, _, .nil, h => h
  | _, _, _, _, .cons r t, h => .cons r (paired_append t h)
theorem paired_drop {F : V → α → Prop} : ∀ {vs : List V} {xs : List α} (n : Nat), Paired F vs xs → Paired F (vs.drop n) (xs.drop n)
  | _, _, 0, h => h
  | _, _, _ + 1, .nil => .nil
  | _, _, n + 1, .cons _ t => paired_drop n t
theorem paired_take {F : V → α → Prop} : ∀ {vs : List V} {xs : List α} (n : Nat), Paired F vs xs → Paired F (vs.take n) (xs.take n)
  | _, _, 0, _ => .nil
  | _, _, _ + 1, .nil => .nil
  | _, _, n + 1, .cons r t => .cons r (paired_take n t)
theorem paired_set {F : V → α → Prop} {v : V} {a : α} (h : F v a) : ∀ {vs : List V} {xs : List α} (n : Nat), Paired F vs xs → Paired F (vs.set n v) (xs.set n a)
  | _, _, _, .nil => .nil
  | _, _, 0, .cons _ t => .cons h t
  | _, _, n + 1, .cons r t => .cons r (paired_set h n t)
theorem paired_atI {H : Hp} {vs : List V} {xs : List α} (h : Paired (rep K H) vs xs) {i : Int} {a : α} (e : atI xs i = some a) : ∃ v, atI vs i = some v ∧ rep K H v a := by
  unfold atI at e ⊢
  rw [paired_len h]
  cases q : ixN xs.length i with
  | none => rw [q] at e; cases e
  | some j =>
    rw [q] at e
    exact paired_at h e

/-! ### results of rules by values -/
def RS (K : Fg) (Kn H : Hp) (Q : VK) (z : γ) : Prop := ∀ u Kn' H', Gr Kn H Kn' H' → rep K Kn' u z → Q u H'
def RL (K : Fg) (Kn H : Hp) (Q : VK) (zs : List γ) : Prop := ∀ p ws Kn' H', Gr Kn H Kn' H' → H p = none → Kn' p = none → H' p = some (.lst ws) → Paired (rep K Kn') ws zs → Q (.ref p) H'
theorem RS.rl {Kn H : Hp} {Q : VK} {zs : List γ} (h : RS K Kn H Q zs) : RL K Kn H Q zs := fun p ws Kn' H' g hp kp hw r =>
  h _ (upd Kn' p (.lst ws)) H' (g.know hp kp hw) ⟨p, ws, rfl, upd_same, paired_mono (Ex.new kp) r⟩
theorem RS.fl {γ : Type} [Rp γ] [Fl γ] {z : γ} {Kn H : Hp} {Q : VK} (h : RS K Kn H Q z) (e : Ex Kn H) : Q (Fl.toV z) H := h _ Kn H (Gr.refl e) (Fl.iff.mpr rfl)
theorem RS.at {Kn H : Hp} {Q : VK} {z : γ} (h : RS K Kn H Q z) (e : Ex Kn H) {v : V} (r : rep K Kn v z) : Q v H := h _ Kn H (Gr.refl e) r

def R1V (r : V → Hp → VK → Prop) (x : α) (z : γ) : Prop := ∀ (K : Fg) Kn H v, Ex Kn H → rep K Kn v x → ∀ Q, RS K Kn H Q z → r v H Q
def R2V (K : Fg) (r : R2) (x : α) (y : β) (z : γ) : Prop := ∀ Kn H v w, Ex Kn H → rep K Kn v x → rep K Kn w y → ∀ Q, RS K Kn H Q z → r v w H Q
def R2L (K : Fg) (r : R2) (x : α) (y : β) (zs : List γ) : Prop := ∀ Kn H v w, Ex Kn H → rep K Kn v x → rep K Kn w y → ∀ Q, RL K Kn H Q zs → r v w H Q
def RCV (K : Fg) (r : List V → Hp → VK → Prop) (t : τ) (z : γ) : Prop := ∀ Kn H vs, Ex Kn H → rept K Kn vs t → ∀ Q, RS K Kn H Q z → r vs H Q
def RCL (K : Fg) (r : List V → Hp → VK → Prop) (t : τ) (zs : List γ) : Prop := ∀ Kn H vs, Ex Kn H → rept K Kn vs t → ∀ Q, RL K Kn H Q zs → r vs H Q

/-! ### names, constants, operators -/
theorem ev_var {i : Nat} (h : sl[i]? = some (sv x)) : EV K F Kn0 sl ow (tVar i) x := fun σ Kn H s Q q => by
  obtain ⟨o, h1, v, h2, h3⟩ := s.sl.get h
  exact ⟨v, by rw [h1, h2], q v Kn H (Gr.refl s.ek) h3⟩
theorem ev_c {γ : Type} [Rp γ] [Fl γ] (z : γ) {v : V} (e : v = Fl.toV z := by rfl) : EV K F Kn0 sl ow (tC v) z := fun σ Kn H s Q q => q v Kn H (Gr.refl s.ek) (Fl.iff.mpr e)
theorem ev_none : EV K F Kn0 sl ow (tC .non) (none : Option α) := fun σ Kn H s Q q => q .non Kn H (Gr.refl s.ek) rfl
theorem ev_un {r : V → Hp → VK → Prop} (ha : EV K F Kn0 sl ow ta x) (hr : R1V r x z) : EV K F Kn0 sl ow (tUn r ta) z := fun σ Kn H s Q q =>
  ha σ Kn H s _ fun v Kn1 H1 g1 r1 => hr K Kn1 H1 v g1.kh r1 Q fun u Kn' H' g' r' => q u Kn' H' (g1.trans g') r'
theorem ev_op {r : R2} (ha : EV K F Kn0 sl ow ta x) (hb : EV K F Kn0 sl ow tb y) (hr : R2V K r x y z) : EV K F Kn0 sl ow (tOp r ta tb) z := fun σ Kn H s Q q =>
  ha σ Kn H s _ fun v Kn1 H1 g1 r1 => hb σ Kn1 H1 (s.grow g1) _ fun w Kn2 H2 g2 r2 => hr Kn2 H2 v w g2.kh (Rp.mono g2.kk r1) r2 Q fun u Kn' H' g' r' => q u Kn' H' ((g1.trans g2).trans g') r'
theorem en_op {r : R2} {zs : List γ} (ha : EV K F Kn0 sl ow ta x) (hb : EV K F Kn0 sl ow tb y) (hr : R2L K r x y zs) : EN K F Kn0 sl ow (tOp r ta tb) zs := fun σ Kn H s Q q =>
  ha σ Kn H s _ fun v Kn1 H1 g1 r1 => hb σ Kn1 H1 (s.grow g1) _ fun w Kn2 H2 g2 r2 => hr Kn2 H2 v w g2.kh (Rp.mono g2.kk r1) r2 Q fun p ws Kn' H' g' hp kp hw r' =>
    q p ws Kn' H' ((g1.trans g2).trans g') (fresh_back (g1.trans g2).hh hp) kp hw r'
theorem em_op {r : R2} (ha : EM K F Kn0 sl ow ta ow1 x) (hb : EM K F Kn0 sl ow1 tb ow2 y) (hr : R2V K r x y z) : EM K F Kn0 sl ow (tOp r ta tb) ow2 z := fun σ Kn H s Q q =>
  ha σ Kn H s _ fun v Kn1 H1 e1 s1 r1 => hb σ Kn1 H1 s1 _ fun w Kn2 H2 e2 s2 r2 => hr Kn2 H2 v w s2.ek (Rp.mono e2 r1) r2 Q fun u Kn' H' g' r' => q u Kn' H' ((e1.trans e2).trans g'.kk) (s2.grow g') r'
theorem r2_I0 {γ : Type} [Rp γ] [Fl γ] {z : γ} {g : Int → Int → V} {i j : Int} (e : g i j = Fl.toV z := by rfl) : R2V K (rI0 g) i j z := fun Kn H v w ek h1 h2 Q q => ⟨i, j, h1, h2, e ▸ q.fl ek⟩
theorem r2_I {γ : Type} [Rp γ] [Fl γ] {z : γ} {C : Int → Int → Prop} {g : Int → Int → V} {i j : Int} (c : C i j) (e : g i j = Fl.toV z := by rfl) : R2V K (rI C g) i j z := fun Kn H v w ek h1 h2 Q q => ⟨i, j, h1, h2, c, e ▸ q.fl ek⟩
theorem r1_neg {i : Int} : R1V (rU fun i => .int (-i)) i (-i) := fun K Kn H v ek h1 Q q => ⟨i, h1, q.fl ek⟩
theorem r2_eqI {i j : Int} : R2V K rEq i j (decide (i = j)) := fun Kn H v w ek h1 h2 Q q => by
  cases h1
  cases h2
  refine ⟨rfl, ?_⟩
  have e : decide (V.int i = V.int j) = decide (i = j) := by simp
  rw [e]
  exact q.fl ek
theorem r2_neI {i j : Int} : R2V K rNe i j (!decide (i = j)) := fun Kn H v w ek h1 h2 Q q => by
  cases h1
  cases h2
  refine ⟨rfl, ?_⟩
  have e : decide (V.int i = V.int j) = decide (i = j) := by simp
  rw [e]
  exact q.fl ek
theorem r2_eqS {i j : Str} : R2V K rEq i j (decide (i = j)) := fun Kn H v w ek h1 h2 Q q => by
  cases h1
  cases h2
  refine ⟨rfl, ?_⟩
  have e : decide (V.str i = V.str j) = decide (i = j) := by simp
  rw [e]
  exact q.fl ek
theorem r2_neS {i j : Str} : R2V K rNe i j (!decide (i = j)) := fun Kn H v w ek h1 h2 Q q => by
  cases h1
  cases h2
  refine ⟨rfl, ?_⟩
  have e : decide (V.str i = V.str j) = decide (i = j) := by simp
  rw [e]
  exact q.fl ek
theorem r2_eqB {i j : Bool} : R2V K rEq i j (decide (i = j)) := fun Kn H v w ek h1 h2 Q q => by
  cases h1
  cases h2
  refine ⟨rfl, ?_⟩
  have e : decide (V.bl i = V.bl j) = decide (i = j) := by simp
  rw [e]
  exact q.fl ek

/-! ### arguments, tuples, lists -/
theorem ea_nil : EA K F Kn0 sl ow tNil () := fun σ Kn H s Q q => q [] Kn H (Gr.refl s.ek) rfl
theorem ea_cons {tr : TA} {t : τ} (h : EV K F Kn0 sl ow ta x) (hr : EA K F Kn0 sl ow tr t) : EA K F Kn0 sl ow (tCons ta tr) (x, t) := fun σ Kn H s Q q =>
  h σ Kn H s _ fun v Kn1 H1 g1 r1 => hr σ Kn1 H1 (s.grow g1) _ fun vs Kn2 H2 g2 r2 => q _ Kn2 H2 (g1.trans g2) ⟨v, vs, rfl, Rp.mono g2.kk r1, r2⟩
theorem eam_nil : EAM K F Kn0 sl ow tNil ow () := fun σ Kn H s Q q => q [] Kn H (Ex.refl _) s rfl
theorem eam_cons {tr : TA} {t : τ} (h : EM K F Kn0 sl ow ta ow1 x) (hr : EAM K F Kn0 sl ow1 tr ow2 t) : EAM K F Kn0 sl ow (tCons ta tr) ow2 (x, t) := fun σ Kn H s Q q =>
  h σ Kn H s _ fun v Kn1 H1 e1 s1 r1 => hr σ Kn1 H1 s1 _ fun vs Kn2 H2 e2 s2 r2 => q _ Kn2 H2 (e1.trans e2) s2 ⟨v, vs, rfl, Rp.mono e2 r1, r2⟩
theorem EA.eam {ta : TA} {t : τ} (h : EA K F Kn0 sl ow ta t) : EAM K F Kn0 sl ow ta ow t := fun σ Kn H s Q q => h σ Kn H s Q fun vs Kn' H' g r => q vs Kn' H' g.kk (s.grow g) r
/-- alike things -/
def EL {α : Type} [Rp α] (K : Fg) (F Kn0 : Hp) (sl : List Sl) (ow : List Ow) (ta : TA) (xs : List α) : Prop := ∀ σ Kn H, S K F Kn0 sl ow σ Kn H → ∀ Q : List V → Hp → Prop, (∀ vs Kn' H', Gr Kn H Kn' H' → Paired (rep K Kn') vs xs → Q vs H') → ta σ H Q
def ELM {α : Type} [Rp α] (K : Fg) (F Kn0 : Hp) (sl : List Sl) (ow : List Ow) (ta : TA) (ow' : List Ow) (xs : List α) : Prop := ∀ σ Kn H, S K F Kn0 sl ow σ Kn H → ∀ Q : List V → Hp → Prop, (∀ vs Kn' H', Ex Kn Kn' → S K F Kn0 sl ow' σ Kn' H' → Paired (rep K Kn') vs xs → Q vs H') → ta σ H Q
theorem el_nil : EL K F Kn0 sl ow tNil ([] : List α) := fun σ Kn H s Q q => q [] Kn H (Gr.refl s.ek) .nil
theorem el_cons {tr : TA} {xs : List α} (h : EV K F Kn0 sl ow ta x) (hr : EL K F Kn0 sl ow tr xs) : EL K F Kn0 sl ow (tCons ta tr) (x :: xs) := fun σ Kn H s Q q =>
  h σ Kn H s _ fun v Kn1 H1 g1 r1 => hr σ Kn1 H1 (s.grow g1) _ fun vs Kn2 H2 g2 r2 => q _ Kn2 H2 (g1.trans g2) (.cons (Rp.mono g2.kk r1) r2)
theorem elm_nil : ELM K F Kn0 sl ow tNil ow ([] : List α) := fun σ Kn H s Q q => q [] Kn H (Ex.refl _) s .nil
theorem elm_cons {tr : TA} {xs : List α} (h : EM K F Kn0 sl ow ta ow1 x) (hr : ELM K F Kn0 sl ow1 tr ow2 xs) : ELM K F Kn0 sl ow (tCons ta tr) ow2 (x :: xs) := fun σ Kn H s Q q =>
  h σ Kn H s _ fun v Kn1 H1 e1 s1 r1 => hr σ Kn1 H1 s1 _ fun vs Kn2 H2 e2 s2 r2 => q _ Kn2 H2 (e1.trans e2) s2 (.cons (Rp.mono e2 r1) r2)
theorem le_line {n : Nat} (h : n ≤ 1000000) : n ≤ sizeLine := Nat.le_trans h (by decide)
theorem lt_line {n : Nat} (h : n < 1000000) : n < sizeLine := Nat.lt_of_lt_of_le h (by decide)
theorem en_lst {ta : TA} {xs : List α} (h : EL K F Kn0 sl ow ta xs) (hz : xs.length ≤ 1000000 := by exact Nat.le_of_ble_eq_true rfl) : EN K F Kn0 sl ow (tLst ta) xs := fun σ Kn H s Q q =>
  h σ Kn H s _ fun vs Kn1 H1 g1 r1 => ⟨by rw [paired_len r1]; exact le_line hz, fun p hp => q p vs Kn1 _ (g1.trans (Gr.newU g1.kh hp)) (fresh_back g1.hh hp) (fresh_back g1.kh hp) upd_same r1⟩
theorem enm_lst {ta : TA} {xs : List α} (h : ELM K F Kn0 sl ow ta ow1 xs) (hz : xs.length ≤ 1000000 := by exact Nat.le_of_ble_eq_true rfl) : ENM K F Kn0 sl ow (tLst ta) ow1 xs := fun σ Kn H s Q q =>
  h σ Kn H s _ fun vs Kn1 H1 e1 s1 r1 => ⟨by rw [paired_len r1]; exact le_line hz, fun p hp =>
    q p vs Kn1 _ e1 (s1.grow (Gr.newU s1.ek hp)) (fresh_back s1.ef hp) (fresh_back s1.ek hp) (owned_ne s1 hp) upd_same r1⟩
theorem ev_tup {ta : TA} {t : α × τ} (h : EA K F Kn0 sl ow ta t) (hz : Tp.n (α × τ) ≤ 1000000 := by decide) : EV K F Kn0 sl ow (tTup ta) t := fun σ Kn H s Q q =>
  h σ Kn H s _ fun vs Kn1 H1 g1 r1 => ⟨by rw [Tp.len r1]; exact le_line hz, fun p hp =>
    q _ (upd Kn1 p (.tup vs)) _ (g1.trans (Gr.new g1.kh hp)) ⟨p, vs, rfl, upd_same, Tp.mono (Gr.new g1.kh hp).kk r1⟩⟩
theorem em_tup {ta : TA} {t : α × τ} (h : EAM K F Kn0 sl ow ta ow1 t) (hz : Tp.n (α × τ) ≤ 1000000 := by decide) : EM K F Kn0 sl ow (tTup ta) ow1 t := fun σ Kn H s Q q =>
  h σ Kn H s _ fun vs Kn1 H1 e1 s1 r1 => ⟨by rw [Tp.len r1]; exact le_line hz, fun p hp =>
    q _ (upd Kn1 p (.tup vs)) _ (e1.trans (Gr.new s1.ek hp).kk) (s1.grow (Gr.new s1.ek hp)) ⟨p, vs, rfl, upd_same, Tp.mono (Gr.new s1.ek hp).kk r1⟩⟩
theorem ev_tuH {ta : TA} {xs : List α} (h : EL K F Kn0 sl ow ta xs) (hz : xs.length ≤ 1000000 := by exact Nat.le_of_ble_eq_true rfl) : EV K F Kn0 sl ow (tTup ta) (Tu.mk xs) := fun σ Kn H s Q q =>
  h σ Kn H s _ fun vs Kn1 H1 g1 r1 => ⟨by rw [paired_len r1]; exact le_line hz, fun p hp =>
    q _ (upd Kn1 p (.tup vs)) _ (g1.trans (Gr.new g1.kh hp)) ⟨p, vs, rfl, upd_same, paired_mono (Gr.new g1.kh hp).kk r1⟩⟩

/-! ### built-ins, defs -/
theorem ev_cb {r : List V → Hp → VK → Prop} {ta : TA} {t : τ} (h : EA K F Kn0 sl ow ta t) (hr : RCV K r t z) : EV K F Kn0 sl ow (tCB r ta) z := fun σ Kn H s Q q =>
  h σ Kn H s _ fun vs Kn1 H1 g1 r1 => hr Kn1 H1 vs g1.kh r1 Q fun u Kn' H' g' r' => q u Kn' H' (g1.trans g') r'
theorem en_cb {r : List V → Hp → VK → Prop} {ta : TA} {t : τ} {zs : List γ} (h : EA K F Kn0 sl ow ta t) (hr : RCL K r t zs) : EN K F Kn0 sl ow (tCB r ta) zs := fun σ Kn H s Q q =>
  h σ Kn H s _ fun vs Kn1 H1 g1 r1 => hr Kn1 H1 vs g1.kh r1 Q fun p ws Kn' H' g' hp kp hw r' => q p ws Kn' H' (g1.trans g') (fresh_back g1.hh hp) kp hw r'
theorem em_cb {r : List V → Hp → VK → Prop} {ta : TA} {t : τ} (h : EAM K F Kn0 sl ow ta ow1 t) (hr : RCV K r t z) : EM K F Kn0 sl ow (tCB r ta) ow1 z := fun σ Kn H s Q q =>
  h σ Kn H s _ fun vs Kn1 H1 e1 s1 r1 => hr Kn1 H1 vs s1.ek r1 Q fun u Kn' H' g' r' => q u Kn' H' (e1.trans g'.kk) (s1.grow g') r'
theorem one_arg {Kn : Hp} {vs : List V} {x : α} (h : rept K Kn vs (x, ())) : ∃ v, vs = [v] ∧ rep K Kn v x := by
  obtain ⟨v, r, rfl, h1, h2⟩ := h
  cases h2
  exact ⟨v, rfl, h1⟩
theorem two_args {Kn : Hp} {vs : List V} {x : α} {y : β} (h : rept K Kn vs (x, y, ())) : ∃ v w, vs = [v, w] ∧ rep K Kn v x ∧ rep K Kn w y := by
  obtain ⟨v, r, rfl, h1, h2⟩ := h
  obtain ⟨w, rfl, h3⟩ := one_arg h2
  exact ⟨v, w, rfl, h1, h3⟩
theorem rc_max {i j : Int} : RCV K (fun xs H Q => ∃ i j, xs = [.int i, .int j] ∧ Q (.int (if j > i then j else i)) H) (i, j, ()) (max i j) := fun Kn H vs ek h Q q => by
  obtain ⟨v, w, rfl, h1, h2⟩ := two_args h
  cases h1
  cases h2
  refine ⟨i, j, rfl, ?_⟩
  have e : (if j > i then j else i) = max i j := by split <;> omega
  rw [e]
  exact q.fl ek
theorem rc_min {i j : Int} : RCV K (fun xs H Q => ∃ i j, xs = [.int i, .int j] ∧ Q (.int (if j < i then j else i)) H) (i, j, ()) (min i j) := fun Kn H vs ek h Q q => by
  obtain ⟨v, w, rfl, h1, h2⟩ := two_args h
  cases h1
  cases h2
  refine ⟨i, j, rfl, ?_⟩
  have e : (if j < i then j else i) = min i j := by split <;> omega
  rw [e]
  exact q.fl ek
theorem rc_abs {i : Int} : RCV K (fun xs H Q => ∃ i, xs = [.int i] ∧ Q (.int (if i < 0 then -i else i)) H) (i, ()) ((i.natAbs : Int)) := fun Kn H vs ek h Q q => by
  obtain ⟨v, rfl, h1⟩ := one_arg h
  cases h1
  refine ⟨i, rfl, ?_⟩
  have e : (if i < 0 then -i else i) = (i.natAbs : Int) := by split <;> omega
  rw [e]
  exact q.fl ek
theorem rc_len {xs : List α} : RCV K (fun xs H Q => ∃ p ys, xs = [.ref p] ∧ (SqL K H p ys ∨ SqT K H p ys) ∧ Q (.int ys.length) H) (xs, ()) (xs.length : Int) := fun Kn H vs ek h Q q => by
  obtain ⟨v, rfl, p, ws, rfl, h1, h2⟩ := one_arg h
  refine ⟨p, ws, rfl, .inl (sq_of (ek _ _ h1)), ?_⟩
  rw [paired_len h2]
  exact q.fl ek
theorem rc_lenF {xs : Fz α} : RCV K (fun xs H Q => ∃ p ys, xs = [.ref p] ∧ (SqL K H p ys ∨ SqT K H p ys) ∧ Q (.int ys.length) H) (xs, ()) (xs.l.length : Int) := fun Kn H vs ek h Q q => by
  obtain ⟨v, rfl, p, ws, rfl, h1, h2⟩ := one_arg h
  refine ⟨p, ws, rfl, .inl (ex_l ek h1), ?_⟩
  rw [paired_len h2]
  exact q.fl ek
theorem rc_lenT {xs : Tu α} : RCV K (fun xs H Q => ∃ p ys, xs = [.ref p] ∧ (SqL K H p ys ∨ SqT K H p ys) ∧ Q (.int ys.length) H) (xs, ()) (xs.l.length : Int) := fun Kn H vs ek h Q q => by
  obtain ⟨v, rfl, p, ws, rfl, h1, h2⟩ := one_arg h
  refine ⟨p, ws, rfl, .inr (st_of (ek _ _ h1)), ?_⟩
  rw [paired_len h2]
  exact q.fl ek
theorem rc_lenP {t : α × τ} : RCV K (fun xs H Q => ∃ p ys, xs = [.ref p] ∧ (SqL K H p ys ∨ SqT K H p ys) ∧ Q (.int ys.length) H) (t, ()) ((Tp.n (α × τ) : Nat) : Int) := fun Kn H vs ek h Q q => by
  obtain ⟨v, rfl, p, ws, rfl, h1, h2⟩ := one_arg h
  refine ⟨p, ws, rfl, .inr (st_of (ek _ _ h1)), ?_⟩
  rw [Tp.len h2]
  exact q.fl ek
theorem rc_sum {xs : List Int} : RCV K (rSum K) (xs, ()) xs.sum := fun Kn H vs ek h Q q => by
  obtain ⟨v, rfl, p, ws, rfl, h1, h2⟩ := one_arg h
  have e := paired_fl h2
  subst e
  exact ⟨p, xs, rfl, sq_of (ek _ _ h1), q.fl ek⟩
theorem rc_all {xs : List Bool} : RCV K (rAll K) (xs, ()) (xs.all id) := fun Kn H vs ek h Q q => by
  obtain ⟨v, rfl, p, ws, rfl, h1, h2⟩ := one_arg h
  have e := paired_fl h2
  subst e
  exact ⟨p, xs, rfl, sq_of (ek _ _ h1), q.fl ek⟩
theorem rc_any {xs : List Bool} : RCV K (rAny K) (xs, ()) (xs.any id) := fun Kn H vs ek h Q q => by
  obtain ⟨v, rfl, p, ws, rfl, h1, h2⟩ := one_arg h
  have e := paired_fl h2
  subst e
  exact ⟨p, xs, rfl, sq_of (ek _ _ h1), q.fl ek⟩
theorem rc_list {xs : List α} : RCL K (fun xs H Q => ∃ p ys, xs = [.ref p] ∧ (SqL K H p ys ∨ SqT K H p ys) ∧ ∀ l, H l = none → Q (.ref l) (upd H l (.lst ys))) (xs, ()) xs := fun Kn H vs ek h Q q => by
  obtain ⟨v, rfl, p, ws, rfl, h1, h2⟩ := one_arg h
  exact ⟨p, ws, rfl, .inl (sq_of (ek _ _ h1)), fun l hl => q l ws Kn _ (Gr.newU ek hl) hl (fresh_back ek hl) upd_same h2⟩
theorem rc_listF {xs : Fz α} : RCL K (fun xs H Q => ∃ p ys, xs = [.ref p] ∧ (SqL K H p ys ∨ SqT K H p ys) ∧ ∀ l, H l = none → Q (.ref l) (upd H l (.lst ys))) (xs, ()) xs.l := fun Kn H vs ek h Q q => by
  obtain ⟨v, rfl, p, ws, rfl, h1, h2⟩ := one_arg h
  exact ⟨p, ws, rfl, .inl (ex_l ek h1), fun l hl => q l ws Kn _ (Gr.newU ek hl) hl (fresh_back ek hl) upd_same h2⟩
theorem rc_listT {xs : Tu α} : RCL K (fun xs H Q => ∃ p ys, xs = [.ref p] ∧ (SqL K H p ys ∨ SqT K H p ys) ∧ ∀ l, H l = none → Q (.ref l) (upd H l (.lst ys))) (xs, ()) xs.l := fun Kn H vs ek h Q q => by
  obtain ⟨v, rfl, p, ws, rfl, h1, h2⟩ := one_arg h
  exact ⟨p, ws, rfl, .inr (st_of (ek _ _ h1)), fun l hl => q l ws Kn _ (Gr.newU ek hl) hl (fresh_back ek hl) upd_same h2⟩
theorem rc_tuple {xs : List α} : RCV K (fun xs H Q => ∃ p ys, xs = [.ref p] ∧ ((SqL K H p ys ∧ ∀ l, H l = none → Q (.ref l) (upd H l (.tup ys))) ∨ (SqT K H p ys ∧ Q (.ref p) H))) (xs, ()) (Tu.mk xs) := fun Kn H vs ek h Q q => by
  obtain ⟨v, rfl, p, ws, rfl, h1, h2⟩ := one_arg h
  exact ⟨p, ws, rfl, .inl ⟨sq_of (ek _ _ h1), fun l hl => q _ (upd Kn l (.tup ws)) _ (Gr.new ek hl) ⟨l, ws, rfl, upd_same, paired_mono (Gr.new ek hl).kk h2⟩⟩⟩
end

/-! ### items, slices -/
section
variable {K : Fg} {F Kn0 : Hp} {sl sl' : List Sl} {ow ow1 ow2 : List Ow} {α β γ τ : Type} [Rp α] [Rp β] [Rp γ] [Tp τ] {ta tb te : TE}
theorem r2_ixL {xs : List α} {i : Int} {z : α} (h : atI xs i = some z) : R2V K (rIxL K) xs i z := fun Kn H v w ek h1 h2 Q q => by
  obtain ⟨p, ws, rfl, h3, h4⟩ := h1
  cases h2
  obtain ⟨u, e, r⟩ := paired_atI h4 h
  exact ⟨p, ws, i, u, rfl, rfl, sq_of (ek _ _ h3), e, q.at ek r⟩
theorem r2_ixF {xs : Fz α} {i : Int} {z : α} (h : atI xs.l i = some z) : R2V K (rIxL K) xs i z := fun Kn H v w ek h1 h2 Q q => by
  obtain ⟨p, ws, rfl, h3, h4⟩ := h1
  cases h2
  obtain ⟨u, e, r⟩ := paired_atI h4 h
  exact ⟨p, ws, i, u, rfl, rfl, ex_l ek h3, e, q.at ek r⟩
theorem r2_ixU {xs : Tu α} {i : Int} {z : α} (h : atI xs.l i = some z) : R2V K (rIxT K) xs i z := fun Kn H v w ek h1 h2 Q q => by
  obtain ⟨p, ws, rfl, h3, h4⟩ := h1
  cases h2
  obtain ⟨u, e, r⟩ := paired_atI h4 h
  exact ⟨p, ws, i, u, rfl, rfl, st_of (ek _ _ h3), e, q.at ek r⟩
theorem r2_ixK {xs : Kt α} {i : Int} {z : α} (h : atI xs.l i = some z) : R2V K (rIxT K) xs i z := fun Kn H v w ek h1 h2 Q q => by
  obtain ⟨p, ws, rfl, h3, h4⟩ := h1
  cases h2
  obtain ⟨u, e, r⟩ := paired_atI h4 h
  exact ⟨p, ws, i, u, rfl, rfl, ex_t ek h3, e, q.at ek r⟩
/-- the n-th place of a tuple -/
inductive At : {τ : Type} → [Tp τ] → Nat → {α : Type} → [Rp α] → τ → α → Prop
  | z {α τ : Type} [Rp α] [Tp τ] (x : α) (t : τ) : At 0 (x, t) x
  | s {α β τ : Type} [Rp α] [Rp β] [Tp τ] {n : Nat} (x : α) {t : τ} {y : β} : At n t y → At (n + 1) (x, t) y
theorem At.get {K : Fg} {H : Hp} {τ : Type} [i : Tp τ] {n : Nat} {α : Type} [j : Rp α] {t : τ} {a : α} (h : At n t a) : ∀ {vs : List V}, rept K H vs t → ∃ v, vs[n]? = some v ∧ rep K H v a := by
  induction h with
  | z x t =>
    intro vs r
    obtain ⟨v, r, rfl, h1, h2⟩ := r
    exact ⟨v, rfl, h1⟩
  | s x _ ih =>
    intro vs r
    obtain ⟨v, r, rfl, h1, h2⟩ := r
    obtain ⟨w, e, h3⟩ := ih h2
    exact ⟨w, e, h3⟩
theorem r2_tix {t : α × τ} {n : Nat} {z : γ} (h : At n t z) : R2V K (rIxT K) t (n : Int) z := fun Kn H v w ek h1 h2 Q q => by
  obtain ⟨p, ws, rfl, h3, h4⟩ := h1
  cases h2
  obtain ⟨u, e, r⟩ := h.get h4
  exact ⟨p, ws, n, u, rfl, rfl, st_of (ek _ _ h3), atI_nat e, q.at ek r⟩
/-- one sign of a text -/
def ixS (z : Str) (i : Int) : Option Str := if z.length ≤ 100000 then (atI z.cps.toList i).map (fun c => ⟨#[c]⟩) else none
theorem r2_ixS {x : Str} {i : Int} {z : Str} (h : ixS x i = some z) : R2V K rIxS x i z := fun Kn H v w ek h1 h2 Q q => by
  cases h1
  cases h2
  unfold ixS at h
  split at h
  · rename_i hl
    cases e : atI x.cps.toList i with
    | none => rw [e] at h; cases h
    | some c =>
      rw [e] at h
      cases h
      exact ⟨x, i, c, rfl, rfl, le_line (by omega), e, q.fl ek⟩
  · cases h
def cut {α : Type} (xs : List α) (lo hi : Option Int) : List α := (xs.drop (HT.sIx xs.length 0 lo)).take (HT.sIx xs.length xs.length hi - HT.sIx xs.length 0 lo)
theorem paired_cut {F : V → α → Prop} {vs : List V} {xs : List α} (h : Paired F vs xs) (lo hi : Option Int) : Paired F (cutV vs lo hi) (cut xs lo hi) := by
  unfold cutV cut
  rw [Paired.length h]
  exact paired_take _ (paired_drop _ h)
def EO (K : Fg) (F Kn0 : Hp) (sl : List Sl) (ow : List Ow) (to : TO) (o : Option Int) : Prop := ∀ σ Kn H, S K F Kn0 sl ow σ Kn H → ∀ Q : Option Int → Hp → Prop, (∀ Kn' H', Gr Kn H Kn' H' → Q o H') → to σ H Q
theorem eo_none : EO K F Kn0 sl ow tNoPart none := fun σ Kn H s Q q => q Kn H (Gr.refl s.ek)
theorem eo_some {i : Int} (h : EV K F Kn0 sl ow te i) : EO K F Kn0 sl ow (tPart te) (some i) := fun σ Kn H s Q q => h σ Kn H s _ fun v Kn1 H1 g1 r1 => ⟨i, r1, q Kn1 H1 g1⟩
theorem en_sl {xs : List α} {tl th : TO} {lo hi : Option Int} (h : EV K F Kn0 sl ow te xs) (hl : EO K F Kn0 sl ow tl lo) (hh : EO K F Kn0 sl ow th hi) : EN K F Kn0 sl ow (tSl (rSlL K) te tl th) (cut xs lo hi) := fun σ Kn H s Q q =>
  h σ Kn H s _ fun v Kn1 H1 g1 r1 => hl σ Kn1 H1 (s.grow g1) _ fun Kn2 H2 g2 => hh σ Kn2 H2 ((s.grow g1).grow g2) _ fun Kn3 H3 g3 => by
    obtain ⟨p, ws, rfl, h3, h4⟩ := r1
    have g : Gr Kn H Kn3 H3 := (g1.trans g2).trans g3
    have e13 : Ex Kn1 Kn3 := g2.kk.trans g3.kk
    exact ⟨p, ws, rfl, sq_of (g3.kh _ _ (e13 _ _ h3)), fun l hl => q l _ Kn3 _ (g.trans (Gr.newU g3.kh hl)) (fresh_back g.hh hl) (fresh_back g3.kh hl) upd_same (paired_cut (paired_mono e13 h4) lo hi)⟩
theorem en_slF {xs : Fz α} {tl th : TO} {lo hi : Option Int} (h : EV K F Kn0 sl ow te xs) (hl : EO K F Kn0 sl ow tl lo) (hh : EO K F Kn0 sl ow th hi) : EN K F Kn0 sl ow (tSl (rSlL K) te tl th) (cut xs.l lo hi) := fun σ Kn H s Q q =>
  h σ Kn H s _ fun v Kn1 H1 g1 r1 => hl σ Kn1 H1 (s.grow g1) _ fun Kn2 H2 g2 => hh σ Kn2 H2 ((s.grow g1).grow g2) _ fun Kn3 H3 g3 => by
    obtain ⟨p, ws, rfl, h3, h4⟩ := r1
    have g : Gr Kn H Kn3 H3 := (g1.trans g2).trans g3
    have e13 : Ex Kn1 Kn3 := g2.kk.trans g3.kk
    exact ⟨p, ws, rfl, ex_l (e13.trans g3.kh) h3, fun l hl => q l _ Kn3 _ (g.trans (Gr.newU g3.kh hl)) (fresh_back g.hh hl) (fresh_back g3.kh hl) upd_same (paired_cut (paired_mono e13 h4) lo hi)⟩
theorem r2_cat {xs ys : List α} (hz : xs.length + ys.length ≤ 1000000) : R2L K rCat xs ys (xs ++ ys) := fun Kn H v w ek h1 h2 Q q => by
  obtain ⟨p, ws, rfl, h3, h4⟩ := h1
  obtain ⟨p2, ws2, rfl, h5, h6⟩ := h2
  exact ⟨p, p2, ws, ws2, rfl, rfl, ek _ _ h3, ek _ _ h5, by rw [paired_len h4, paired_len h6]; exact le_line hz, fun l hl =>
    q l _ Kn _ (Gr.newU ek hl) hl (fresh_back ek hl) upd_same (paired_append h4 h6)⟩

/-! ### tests -/
variable {t u : TT} {a b c : Bool}
theorem et_test (h : EV K F Kn0 sl ow te b) : ET K F Kn0 sl ow (tTest te) b := fun σ Kn H s Q q => h σ Kn H s _ fun v Kn' H' g r => ⟨b, r, q Kn' H' g⟩
theorem et_B (h : EV K F Kn0 sl ow te b) : ET K F Kn0 sl ow (tB te) b := fun σ Kn H s Q q => h σ Kn H s _ fun v Kn' H' g r => ⟨b, r, q Kn' H' g⟩
theorem et_not (h : ET K F Kn0 sl ow t b) : ET K F Kn0 sl ow (tNot t) (!b) := fun σ Kn H s Q q => h σ Kn H s _ fun Kn' H' g => q Kn' H' g
theorem et_and (h1 : ET K F Kn0 sl ow t a) (h2 : a = true → ET K F Kn0 sl ow u b) : ET K F Kn0 sl ow (tAnd t u) (a && b) := fun σ Kn H s Q q => h1 σ Kn H s _ fun Kn1 H1 g1 => by
  cases a with
  | true => exact iteT (h2 rfl σ Kn1 H1 (s.grow g1) Q fun Kn2 H2 g2 => q Kn2 H2 (g1.trans g2))
  | false => exact iteF (q Kn1 H1 g1)
theorem et_or (h1 : ET K F Kn0 sl ow t a) (h2 : a = false → ET K F Kn0 sl ow u b) : ET K F Kn0 sl ow (tOr t u) (a || b) := fun σ Kn H s Q q => h1 σ Kn H s _ fun Kn1 H1 g1 => by
  cases a with
  | true => exact iteT (q Kn1 H1 g1)
  | false => exact iteF (h2 rfl σ Kn1 H1 (s.grow g1) Q fun Kn2 H2 g2 => q Kn2 H2 (g1.trans g2))
theorem et_andO {m : Option Bool} (h : (if a = true then m else some false) = some c) (h1 : ET K F Kn0 sl ow t a) (h2 : ∀ b, a = true → m = some b → ET K F Kn0 sl ow u b) : ET K F Kn0 sl ow (tAnd t u) c := fun σ Kn H s Q q => h1 σ Kn H s _ fun Kn1 H1 g1 => by
  cases a with
  | true => exact iteT (h2 c rfl h σ Kn1 H1 (s.grow g1) Q fun Kn2 H2 g2 => q Kn2 H2 (g1.trans g2))
  | false =>
    cases h
    exact iteF (q Kn1 H1 g1)
theorem et_orO {m : Option Bool} (h : (if a = true then some true else m) = some c) (h1 : ET K F Kn0 sl ow t a) (h2 : ∀ b, a = false → m = some b → ET K F Kn0 sl ow u b) : ET K F Kn0 sl ow (tOr t u) c := fun σ Kn H s Q q => h1 σ Kn H s _ fun Kn1 H1 g1 => by
  cases a with
  | false => exact iteF (h2 c rfl h σ Kn1 H1 (s.grow g1) Q fun Kn2 H2 g2 => q Kn2 H2 (g1.trans g2))
  | true =>
    cases h
    exact iteT (q Kn1 H1 g1)
theorem ev_andO {m : Option Bool} (h : (if a = true then m else some false) = some c) (h1 : EV K F Kn0 sl ow ta a) (h2 : ∀ b, a = true → m = some b → EV K F Kn0 sl ow tb b) : EV K F Kn0 sl ow (tAndV ta tb) c := fun σ Kn H s Q q => h1 σ Kn H s _ fun v Kn1 H1 g1 r1 => ⟨a, r1, by
  cases a with
  | true => exact iteT (h2 c rfl h σ Kn1 H1 (s.grow g1) Q fun v Kn2 H2 g2 r2 => q v Kn2 H2 (g1.trans g2) r2)
  | false =>
    cases h
    exact iteF (q _ Kn1 H1 g1 rfl)⟩
theorem ev_orO {m : Option Bool} (h : (if a = true then some true else m) = some c) (h1 : EV K F Kn0 sl ow ta a) (h2 : ∀ b, a = false → m = some b → EV K F Kn0 sl ow tb b) : EV K F Kn0 sl ow (tOrV ta tb) c := fun σ Kn H s Q q => h1 σ Kn H s _ fun v Kn1 H1 g1 r1 => ⟨a, r1, by
  cases a with
  | false => exact iteF (h2 c rfl h σ Kn1 H1 (s.grow g1) Q fun v Kn2 H2 g2 r2 => q v Kn2 H2 (g1.trans g2) r2)
  | true =>
    cases h
    exact iteT (q _ Kn1 H1 g1 rfl)⟩
theorem ev_andV (h1 : EV K F Kn0 sl ow ta a) (h2 : a = true → EV K F Kn0 sl ow tb b) : EV K F Kn0 sl ow (tAndV ta tb) (a && b) := fun σ Kn H s Q q => h1 σ Kn H s _ fun v Kn1 H1 g1 r1 => ⟨a, r1, by
  cases a with
  | true => exact iteT (h2 rfl σ Kn1 H1 (s.grow g1) Q fun v Kn2 H2 g2 r2 => q v Kn2 H2 (g1.trans g2) r2)
  | false => exact iteF (q _ Kn1 H1 g1 rfl)⟩
theorem ev_orV (h1 : EV K F Kn0 sl ow ta a) (h2 : a = false → EV K F Kn0 sl ow tb b) : EV K F Kn0 sl ow (tOrV ta tb) (a || b) := fun σ Kn H s Q q => h1 σ Kn H s _ fun v Kn1 H1 g1 r1 => ⟨a, r1, by
  cases a with
  | false => exact iteF (h2 rfl σ Kn1 H1 (s.grow g1) Q fun v Kn2 H2 g2 r2 => q v Kn2 H2 (g1.trans g2) r2)
  | true => exact iteT (q _ Kn1 H1 g1 rfl)⟩
theorem ev_notV (h1 : EV K F Kn0 sl ow ta a) : EV K F Kn0 sl ow (tNotV ta) (!a) := fun σ Kn H s Q q => h1 σ Kn H s _ fun v Kn1 H1 g1 r1 => ⟨a, r1, q _ Kn1 H1 g1 rfl⟩
theorem ev_if {x y : α} (h : ET K F Kn0 sl ow t b) (h1 : b = true → EV K F Kn0 sl ow ta x) (h2 : b = false → EV K F Kn0 sl ow tb y) : EV K F Kn0 sl ow (tIf t ta tb) (if b = true then x else y) := fun σ Kn H s Q q => h σ Kn H s _ fun Kn1 H1 g1 => by
  cases b with
  | true => exact iteT (h1 rfl σ Kn1 H1 (s.grow g1) Q fun v Kn2 H2 g2 r2 => q v Kn2 H2 (g1.trans g2) r2)
  | false => exact iteF (h2 rfl σ Kn1 H1 (s.grow g1) Q fun v Kn2 H2 g2 r2 => q v Kn2 H2 (g1.trans g2) r2)
theorem ev_ifO {m n : Option α} {z : α} (hz : (if b = true then m else n) = some z) (h : ET K F Kn0 sl ow t b) (h1 : ∀ x, b = true → m = some x → EV K F Kn0 sl ow ta x) (h2 : ∀ y, b = false → n = some y → EV K F Kn0 sl ow tb y) : EV K F Kn0 sl ow (tIf t ta tb) z := fun σ Kn H s Q q => h σ Kn H s _ fun Kn1 H1 g1 => by
  cases b with
  | true => exact iteT (h1 z rfl hz σ Kn1 H1 (s.grow g1) Q fun v Kn2 H2 g2 r2 => q v Kn2 H2 (g1.trans g2) r2)
  | false => exact iteF (h2 z rfl hz σ Kn1 H1 (s.grow g1) Q fun v Kn2 H2 g2 r2 => q v Kn2 H2 (g1.trans g2) r2)
/-- truth of a list -/
theorem et_truL {xs : List α} (h : EV K F Kn0 sl ow ta xs) : ET K F Kn0 sl ow (fun σ H Q => ta σ H fun x H' => ∃ k, TruV K x H' k ∧ Q k H') (!xs.isEmpty) := fun σ Kn H s Q q => h σ Kn H s _ fun v Kn1 H1 g1 r1 => by
  obtain ⟨p, ws, rfl, h3, h4⟩ := r1
  refine ⟨_, .inl ⟨ws, sq_of (g1.kh _ _ h3), rfl⟩, ?_⟩
  have e : (!ws.isEmpty) = !xs.isEmpty := by
    cases h4 <;> rfl
  rw [e]
  exact q Kn1 H1 g1
end
end Wk
/-! Wk3: calls, statements, loops, comprehensions -/
namespace Wk
open PySem PySem.Spec L2 Evl

/-! ### promises -/
section
variable {α τ : Type} [Rp α] [Tp τ]
/-- a def that changes nothing: it tells f of its arguments -/
def PF (K : Fg) (f : τ → Option α) : Sp := fun vs H Q _ => ∃ Kn t r, Ex Kn H ∧ rept K Kn vs t ∧ f t = some r ∧ RS K Kn H Q r
/-- .. a new list -/
def PL (K : Fg) (f : τ → Option (List α)) : Sp := fun vs H Q _ => ∃ Kn t r, Ex Kn H ∧ rept K Kn vs t ∧ f t = some r ∧ RL K Kn H Q r
/-- its first argument is a list that it changes -/
def PM {β : Type} [Rp β] (K : Fg) (f : List β → τ → Option (α × List β)) : Sp := fun vs H Q _ => ∃ Kn p ws rest t xs r xs', vs = .ref p :: rest ∧ Ex Kn H ∧ Kn p = none ∧ H p = some (.lst ws) ∧ Paired (rep K Kn) ws xs ∧ rept K Kn rest t ∧ f xs t = some (r, xs') ∧
  ∀ v Kn' H' ws', Ex Kn Kn' → Ex Kn' H' → (∀ q, q ≠ p → H q ≠ none → H' q = H q) → (∀ q, H q ≠ none → Kn q = none → Kn' q = none) → H' p = some (.lst ws') → Paired (rep K Kn') ws' xs' → rep K Kn' v r → Q v H'
end
section
variable {K : Fg} {F Kn0 : Hp} {sl sl' : List Sl} {ow ow1 ow2 : List Ow} {α β γ τ : Type} [Rp α] [Rp β] [Rp γ] [Tp τ] {ta : TA} {te : TE} {t : τ} {E : XK}
theorem ev_call {f : τ → Option α} {r : α} (h : EA K F Kn0 sl ow ta t) (hf : f t = some r) : EV K F Kn0 sl ow (tCall (PF K f) [] E ta) r := fun σ Kn H s Q q =>
  h σ Kn H s _ fun vs Kn1 H1 g1 r1 => by
    show PF K f (vs ++ []) H1 Q E
    rw [List.append_nil]
    exact ⟨Kn1, t, r, g1.kh, r1, hf, fun u Kn' H' g' r' => q u Kn' H' (g1.trans g') r'⟩
theorem en_call {f : τ → Option (List α)} {r : List α} (h : EA K F Kn0 sl ow ta t) (hf : f t = some r) : EN K F Kn0 sl ow (tCall (PL K f) [] E ta) r := fun σ Kn H s Q q =>
  h σ Kn H s _ fun vs Kn1 H1 g1 r1 => by
    show PL K f (vs ++ []) H1 Q E
    rw [List.append_nil]
    exact ⟨Kn1, t, r, g1.kh, r1, hf, fun p ws Kn' H' g' hp kp hw r' => q p ws Kn' H' (g1.trans g') (fresh_back g1.hh hp) kp hw r'⟩
theorem em_call {f : τ → Option α} {r : α} (h : EAM K F Kn0 sl ow ta ow1 t) (hf : f t = some r) : EM K F Kn0 sl ow (tCall (PF K f) [] E ta) ow1 r := fun σ Kn H s Q q =>
  h σ Kn H s _ fun vs Kn1 H1 e1 s1 r1 => by
    show PF K f (vs ++ []) H1 Q E
    rw [List.append_nil]
    exact ⟨Kn1, t, r, s1.ek, r1, hf, fun u Kn' H' g' r' => q u Kn' H' (e1.trans g'.kk) (s1.grow g') r'⟩
theorem enm_call {f : τ → Option (List α)} {r : List α} (h : EAM K F Kn0 sl ow ta ow1 t) (hf : f t = some r) : ENM K F Kn0 sl ow (tCall (PL K f) [] E ta) ow1 r := fun σ Kn H s Q q =>
  h σ Kn H s _ fun vs Kn1 H1 e1 s1 r1 => by
    show PL K f (vs ++ []) H1 Q E
    rw [List.append_nil]
    exact ⟨Kn1, t, r, s1.ek, r1, hf, fun p ws Kn' H' g' hp kp hw r' => q p ws Kn' H' (e1.trans g'.kk) (s1.grow g') (fresh_back s1.ef hp) kp (owned_ne s1 hp) hw r'⟩
theorem ow_at {ow : List Ow} (h : (ow.map Ow.ad).Nodup) {i j : Nat} {o u : Ow} (hi : ow[i]? = some o) (hj : ow[j]? = some u) (e : o.ad = u.ad) : i = j := by
  have a1 : (ow.map Ow.ad)[i]? = some o.ad := by rw [List.getElem?_map, hi]; rfl
  have a2 : (ow.map Ow.ad)[j]? = some o.ad := by rw [List.getElem?_map, hj, e]; rfl
  exact nd_ix h a1 a2
/-- the object at place j is another one now, all else as it was -/
theorem S.write {σ : L2.St} {Kn H Kn' H' : Hp} {p : Addr} {xs xs' : List β} {ws : List V} {j : Nat} (s : S K F Kn0 sl ow σ Kn H) (hj : ow[j]? = some (ol p xs)) (kk : Ex Kn Kn') (kh : Ex Kn' H')
    (hq : ∀ q, q ≠ p → H q ≠ none → H' q = H q) (sp : ∀ q, H q ≠ none → Kn q = none → Kn' q = none) (hp : H' p = some (.lst ws)) (r : Paired (rep K Kn') ws xs') : S K F Kn0 sl (ow.set j (ol p xs')) σ Kn' H' := by
  obtain ⟨f1, f2, f3⟩ := s.ow.each _ (List.mem_of_getElem? hj)
  have f1 : F p = none := f1
  have f2 : Kn p = none := f2
  have f4 : H p ≠ none := Ow.there f3
  have jl : j < ow.length := (List.getElem?_eq_some_iff.mp hj).1
  refine ⟨s.e0.trans kk, kh, fun a u h => ?_, fun a h1 h2 => sp a (Ex.nn s.ef h1) (s.sep a h1 h2), s.sl.mono kk, ⟨fun o ho => ?_, ?_⟩⟩
  · have hne : a ≠ p := fun z => by rw [z, f1] at h; cases h
    rw [hq a hne (ne_none_of (s.ef _ _ h))]
    exact s.ef _ _ h
  · obtain ⟨i, hi⟩ := List.getElem?_of_mem ho
    by_cases e : i = j
    · subst e
      rw [List.getElem?_set_self jl] at hi
      cases hi
      exact ⟨f1, sp p f4 f2, ws, hp, r⟩
    · rw [List.getElem?_set_ne (Ne.symm e)] at hi
      obtain ⟨h1, h2, h3⟩ := s.ow.each o (List.mem_of_getElem? hi)
      have h4 := Ow.there h3
      have hne : o.ad ≠ p := fun z => e (ow_at s.ow.nd hi hj z)
      exact ⟨h1, sp _ h4 h2, Ow.ok_mono kk (hq _ hne h4) h3⟩
  · have e : (ow.set j (ol p xs')).map Ow.ad = ow.map Ow.ad := by
      rw [List.map_set]
      refine List.ext_getElem? fun i => ?_
      by_cases e : j = i
      · subst e
        rw [List.getElem?_set_self (by rw [List.length_map]; exact jl), List.getElem?_map, hj]
        rfl
      · rw [List.getElem?_set_ne e]
    rw [e]
    exact s.ow.nd
theorem em_callM {f : List β → τ → Option (α × List β)} {r : α} {i j : Nat} {p : Addr} {xs xs' : List β} (hi : sl[i]? = some (.at p)) (h : EAM K F Kn0 sl ow ta ow1 t) (hj : ow1[j]? = some (ol p xs)) (hf : f xs t = some (r, xs')) :
    EM K F Kn0 sl ow (tCall (PM K f) [] E (tCons (tVar i) ta)) (ow1.set j (ol p xs')) r := fun σ Kn H s Q q => by
  obtain ⟨o, h1, h2⟩ := s.sl.get hi
  refine ⟨.ref p, by rw [h1]; exact congrArg some h2, h σ Kn H s _ fun vs Kn1 H1 e1 s1 r1 => ?_⟩
  show PM K f ((.ref p :: vs) ++ []) H1 Q E
  rw [List.append_nil]
  obtain ⟨f1, f2, ws, f3, f4⟩ := s1.ow.each _ (List.mem_of_getElem? hj)
  exact ⟨Kn1, p, ws, vs, t, xs, r, xs', rfl, s1.ek, f2, f3, f4, r1, hf, fun v Kn' H' ws' kk kh hq sp hp rr rv => q v Kn' H' (e1.trans kk) (s1.write hj kk kh hq sp hp rr) rv⟩
end

/-! ### statements -/
section
variable (K : Fg) (F Kn0 : Hp) (sl : List Sl) (ow : List Ow)
def SN (D : Ends) : Prop := ∀ σ Kn H, S K F Kn0 sl ow σ Kn H → D.nx σ H
def SC (D : Ends) : Prop := ∀ σ Kn H, S K F Kn0 sl ow σ Kn H → D.ct σ H
def SK (D : Ends) : Prop := ∀ σ Kn H, S K F Kn0 sl ow σ Kn H → D.bk σ H
end
section
variable {K : Fg} {F Kn0 : Hp} {sl sl' : List Sl} {ow ow0 ow1 ow2 : List Ow} {α β γ τ : Type} [Rp α] [Rp β] [Rp γ] [Tp τ] {ta tb te : TE} {x : α} {D : Ends} {t u tz : TS} {tt : TT} {b : Bool} {i j : Nat} {p : Addr}
theorem SB.seq (h : SB K F Kn0 sl ow { D with nx := tz D } t) : SB K F Kn0 sl ow D (tSeq t tz) := h
theorem SB.le (h : SB K F Kn0 sl' ow D t) (l : SlLe sl sl') : SB K F Kn0 sl ow D t := fun σ Kn H s => h σ Kn H (s.le l)
theorem SB.sub (h : SB K F Kn0 sl ow1 D t) (l : ow1.Sublist ow) : SB K F Kn0 sl ow D t := fun σ Kn H s => h σ Kn H (s.sub l)
theorem SN.le (h : SN K F Kn0 sl' ow D) (l : SlLe sl sl') : SN K F Kn0 sl ow D := fun σ Kn H s => h σ Kn H (s.le l)
theorem SN.sub (h : SN K F Kn0 sl ow1 D) (l : ow1.Sublist ow) : SN K F Kn0 sl ow D := fun σ Kn H s => h σ Kn H (s.sub l)
theorem EN.le {xs : List α} (h : EN K F Kn0 sl' ow te xs) (l : SlLe sl sl') : EN K F Kn0 sl ow te xs := fun σ Kn H s => h σ Kn H (s.le l)
theorem EV.le (h : EV K F Kn0 sl' ow te x) (l : SlLe sl sl') : EV K F Kn0 sl ow te x := fun σ Kn H s => h σ Kn H (s.le l)
theorem sb_nx (k : SN K F Kn0 sl ow D) : SB K F Kn0 sl ow D tNext := k
theorem sb_ct (k : SC K F Kn0 sl ow D) : SB K F Kn0 sl ow D tCont := k
theorem sb_bk (k : SK K F Kn0 sl ow D) : SB K F Kn0 sl ow D tBreak := k
theorem sb_asg (hs : sl.set i (sv x) = sl') (h : EV K F Kn0 sl ow te x) (k : SN K F Kn0 sl' ow D) : SB K F Kn0 sl ow D (tAsg te (gName i)) := fun σ Kn H s =>
  h σ Kn H s _ fun v Kn1 H1 g1 r1 => k _ Kn1 H1 (hs ▸ (s.grow g1).setv i r1)
theorem sb_asgM (hs : sl.set i (sv x) = sl') (h : EM K F Kn0 sl ow te ow1 x) (k : SN K F Kn0 sl' ow1 D) : SB K F Kn0 sl ow D (tAsg te (gName i)) := fun σ Kn H s =>
  h σ Kn H s _ fun v Kn1 H1 e1 s1 r1 => k _ Kn1 H1 (hs ▸ s1.setv i r1)
/-- a new object is one's own -/
theorem S.own {σ : L2.St} {Kn H : Hp} {xs : List α} {ws : List V} (s : S K F Kn0 sl ow σ Kn H) (fp : F p = none) (kp : Kn p = none) (no : ∀ o ∈ ow, o.ad ≠ p) (hp : H p = some (.lst ws)) (r : Paired (rep K Kn) ws xs) : S K F Kn0 sl (ol p xs :: ow) σ Kn H :=
  ⟨s.e0, s.ek, s.ef, s.sep, s.sl, ⟨fun o ho => by
    rcases List.mem_cons.mp ho with rfl | ho
    · exact ⟨fp, kp, ws, hp, r⟩
    · exact s.ow.each o ho, List.nodup_cons.mpr ⟨fun h => by
      obtain ⟨o, ho, e⟩ := List.mem_map.mp h
      exact no o ho e, s.ow.nd⟩⟩⟩
theorem S.seta {σ : L2.St} {Kn H : Hp} (s : S K F Kn0 sl ow σ Kn H) (i : Nat) : S K F Kn0 (sl.set i (.at p)) ow (σ.set i (some (.ref p))) Kn H := s.set i rfl
theorem sb_asgO {xs : List α} {sl' : Addr → List Sl} (hs : ∀ p, sl.set i (.at p) = sl' p) (h : EN K F Kn0 sl ow te xs) (k : ∀ p, SN K F Kn0 (sl' p) (ol p xs :: ow) D) : SB K F Kn0 sl ow D (tAsg te (gName i)) := fun σ Kn H s =>
  h σ Kn H s _ fun p ws Kn1 H1 g1 hp kp hw r1 => k p _ Kn1 H1 (hs p ▸ ((s.grow g1).own (fresh_back s.ef hp) kp (owned_ne s hp) hw r1).seta i)
theorem sb_asgOM {xs : List α} {sl' : Addr → List Sl} (hs : ∀ p, sl.set i (.at p) = sl' p) (h : ENM K F Kn0 sl ow te ow1 xs) (k : ∀ p, SN K F Kn0 (sl' p) (ol p xs :: ow1) D) : SB K F Kn0 sl ow D (tAsg te (gName i)) := fun σ Kn H s =>
  h σ Kn H s _ fun p ws Kn1 H1 e1 s1 fp kp no hw r1 => k p _ Kn1 H1 (hs p ▸ (s1.own fp kp no hw r1).seta i)
theorem sb_aug {a c : Int} {f : Int → Int → Int} (hi : sl[i]? = some (sv a)) (hs : sl.set i (sv (f a c)) = sl') (h : EV K F Kn0 sl ow te c) (k : SN K F Kn0 sl' ow D) : SB K F Kn0 sl ow D (tAug i te (ipI f)) := fun σ Kn H s => by
  obtain ⟨o, h1, v, h2, h3⟩ := s.sl.get hi
  cases h3
  exact ⟨.int a, by rw [h1, h2], h σ Kn H s _ fun v Kn1 H1 g1 r1 => ⟨a, c, rfl, r1, k _ Kn1 H1 (hs ▸ (s.grow g1).setv (x := f a c) i rfl)⟩⟩
theorem sb_drop (h : EV K F Kn0 sl ow te x) (k : SN K F Kn0 sl ow D) : SB K F Kn0 sl ow D (tDrop te) := fun σ Kn H s => h σ Kn H s _ fun v Kn1 H1 g1 r1 => k _ Kn1 H1 (s.grow g1)
theorem sb_dropM (h : EM K F Kn0 sl ow te ow1 x) (k : SN K F Kn0 sl ow1 D) : SB K F Kn0 sl ow D (tDrop te) := fun σ Kn H s => h σ Kn H s _ fun v Kn1 H1 e1 s1 r1 => k _ Kn1 H1 s1
theorem upd_in {Kn H : Hp} {o : HO} (ek : Ex Kn H) (kp : Kn p = none) : Ex Kn (upd H p o) := fun a u h => by
  have hq : a ≠ p := fun z => by rw [z, kp] at h; cases h
  rw [upd_ne hq]
  exact ek _ _ h
/-- found.append(e) -/
theorem sb_app {xs : List α} (hi : sl[i]? = some (.at p)) (hj : ow[j]? = some (ol p xs)) (h : EV K F Kn0 sl ow te x) (hz : xs.length < 1000000) (k : SN K F Kn0 sl (ow.set j (ol p (xs ++ [x]))) D) :
    SB K F Kn0 sl ow D (tDrop (tBM K "list" rAppend (tVar i) (tCons te tNil))) := fun σ Kn H s => by
  obtain ⟨o, h1, h2⟩ := s.sl.get hi
  obtain ⟨f1, f2, ws, f3, f4⟩ := s.ow.each _ (List.mem_of_getElem? hj)
  refine ⟨.ref p, by rw [h1]; exact congrArg some h2, Or.inl ⟨rfl, ws, sq_of f3⟩, h σ Kn H s _ fun v Kn1 H1 g1 r1 => ?_⟩
  refine ⟨p, ws, v, rfl, rfl, g1.hh _ _ f3, by rw [paired_len f4]; exact lt_line hz, k _ Kn1 _ ?_⟩
  have kp1 : Kn1 p = none := g1.sp p (ne_none_of f3) f2
  exact (s.grow g1).write hj (Ex.refl _) (upd_in g1.kh kp1) (fun q hq _ => upd_ne hq) (fun _ _ h => h) upd_same (paired_append (paired_mono g1.kk f4) (.cons r1 .nil))
theorem sb_appM {xs : List α} (hi : sl[i]? = some (.at p)) (hi0 : ow[j]? = some (ol p xs)) (h : EM K F Kn0 sl ow te ow1 x) (hj : ow1[j]? = some (ol p xs)) (hz : xs.length < 1000000) (k : SN K F Kn0 sl (ow1.set j (ol p (xs ++ [x]))) D) :
    SB K F Kn0 sl ow D (tDrop (tBM K "list" rAppend (tVar i) (tCons te tNil))) := fun σ Kn H s => by
  obtain ⟨o, h1, h2⟩ := s.sl.get hi
  obtain ⟨_, _, ws0, f0, _⟩ := s.ow.each _ (List.mem_of_getElem? hi0)
  refine ⟨.ref p, by rw [h1]; exact congrArg some h2, Or.inl ⟨rfl, ws0, sq_of f0⟩, h σ Kn H s _ fun v Kn1 H1 e1 s1 r1 => ?_⟩
  obtain ⟨f1, f2, ws, f3, f4⟩ := s1.ow.each _ (List.mem_of_getElem? hj)
  refine ⟨p, ws, v, rfl, rfl, f3, by rw [paired_len f4]; exact lt_line hz, k _ Kn1 _ ?_⟩
  exact s1.write hj (Ex.refl _) (upd_in s1.ek f2) (fun q hq _ => upd_ne hq) (fun _ _ h => h) upd_same (paired_append f4 (.cons r1 .nil))
/-- the place of a written index -/
def setI {α : Type} (xs : List α) (i : Int) (x : α) : Option (List α) := (ixN xs.length i).map fun j => xs.set j x
/-- found[e] = x -/
theorem sb_setI {xs xs' : List α} {n : Int} (hi : sl[i]? = some (.at p)) (hj : ow[j]? = some (ol p xs)) (h : EV K F Kn0 sl ow te x) (hn : EV K F Kn0 sl ow tb n) (hx : setI xs n x = some xs') (k : SN K F Kn0 sl (ow.set j (ol p xs')) D) :
    SB K F Kn0 sl ow D (tAsg te (gSub (tVar i) tb rSetL)) := fun σ Kn H s => h σ Kn H s _ fun v Kn1 H1 g1 r1 => by
  obtain ⟨o, h1, h2⟩ := s.sl.get hi
  refine ⟨.ref p, by rw [h1]; exact congrArg some h2, hn σ Kn1 H1 (s.grow g1) _ fun w Kn2 H2 g2 r2 => ?_⟩
  have s2 := (s.grow g1).grow g2
  obtain ⟨f1, f2, ws, f3, f4⟩ := s2.ow.each _ (List.mem_of_getElem? hj)
  unfold setI at hx
  cases e : ixN xs.length n with
  | none => rw [e] at hx; cases hx
  | some m =>
    rw [e] at hx
    cases hx
    cases r2
    refine ⟨p, ws, n, m, rfl, rfl, f3, by rw [paired_len f4]; exact e, k _ Kn2 _ ?_⟩
    exact s2.write hj (Ex.refl _) (upd_in g2.kh f2) (fun q hq _ => upd_ne hq) (fun _ _ h => h) upd_same (paired_set (Rp.mono g2.kk r1) m f4)
/-- from now on it is known and stays as it is -/
theorem sb_freeze {xs : List α} (hi : sl[i]? = some (.at p)) (hj : ow[j]? = some (ol p xs)) (hs : sl.set i (sv xs) = sl') (ho : ow.eraseIdx j = ow1) (k : SB K F Kn0 sl' ow1 D t) : SB K F Kn0 sl ow D t := fun σ Kn H s => by
  obtain ⟨o, h1, h2⟩ := s.sl.get hi
  have h2 : o = some (.ref p) := h2
  obtain ⟨f1, f2, ws, f3, f4⟩ := s.ow.each _ (List.mem_of_getElem? hj)
  have hsub : ow1.Sublist ow := ho ▸ List.eraseIdx_sublist ow j
  have s1 := s.sub hsub
  have no : ∀ o ∈ ow1, o.ad ≠ p := fun o hm z => by
    have hnd := s.ow.nd
    subst ho
    obtain ⟨m, hm'⟩ := List.getElem?_of_mem hm
    rw [List.getElem?_eraseIdx] at hm'
    split at hm'
    · rename_i hlt
      have := ow_at hnd hm' hj z
      omega
    · rename_i hge
      have := ow_at hnd hm' hj z
      omega
  have s2 := s1.know (o := .lst ws) f1 f2 no f3
  have hσ : σ.set i o = σ := by
    refine List.ext_getElem? fun m => ?_
    by_cases e : i = m
    · subst e
      rw [List.getElem?_set_self (List.getElem?_eq_some_iff.mp h1).1, h1]
    · rw [List.getElem?_set_ne e]
  have s3 := s2.set (x := sv xs) (o := o) i ⟨.ref p, h2, p, ws, rfl, upd_same, paired_mono (Ex.new f2) f4⟩
  rw [hs, hσ] at s3
  exact k σ _ H s3
theorem sb_if (h : ET K F Kn0 sl ow tt b) (h1 : b = true → SB K F Kn0 sl ow D t) (h2 : b = false → SB K F Kn0 sl ow D u) : SB K F Kn0 sl ow D (tIfS tt t u) := fun σ Kn H s => h σ Kn H s _ fun Kn1 H1 g1 => by
  cases b with
  | true => exact iteT (h1 rfl σ Kn1 H1 (s.grow g1))
  | false => exact iteF (h2 rfl σ Kn1 H1 (s.grow g1))
theorem sb_cut (h : SB K F Kn0 sl ow { D with nx := fun σ H => ∃ Kn, S K F Kn0 sl' ow1 σ Kn H } t) (k : SB K F Kn0 sl' ow1 D tz) : SB K F Kn0 sl ow D (tCut t tz) := fun σ Kn H s => ⟨_, h σ Kn H s, fun σ' H' ⟨Kn', s'⟩ => k σ' Kn' H' s'⟩
theorem sn_mid (l : SlLe sl sl') (l2 : ow1.Sublist ow) : SN K F Kn0 sl ow { D with nx := fun σ H => ∃ Kn, S K F Kn0 sl' ow1 σ Kn H } := fun σ Kn H s => ⟨Kn, (s.le l).sub l2⟩
/-- returns -/
theorem sb_ret {R : VK} (h : EV K F Kn0 sl ow te x) (q : RT K F Kn0 ow0 R x) (l : ow0.Sublist ow) (hR : D.rt = R := by rfl) : SB K F Kn0 sl ow D (tRet te) := fun σ Kn H s => by
  subst hR
  exact h σ Kn H s _ fun v Kn1 H1 g1 r1 => q v Kn1 H1 ((s.grow g1).sub l).fin r1
theorem sb_retM {R : VK} (h : EM K F Kn0 sl ow te ow1 x) (q : RT K F Kn0 ow0 R x) (l : ow0.Sublist ow1) (hR : D.rt = R := by rfl) : SB K F Kn0 sl ow D (tRet te) := fun σ Kn H s => by
  subst hR
  exact h σ Kn H s _ fun v Kn1 H1 e1 s1 r1 => q v Kn1 H1 (s1.sub l).fin r1
theorem sb_retL {R : VK} {xs : List α} (h : EN K F Kn0 sl ow te xs) (q : RN K F Kn0 ow0 R xs) (l : ow0.Sublist ow) (hR : D.rt = R := by rfl) : SB K F Kn0 sl ow D (tRet te) := fun σ Kn H s => by
  subst hR
  exact h σ Kn H s _ fun p ws Kn1 H1 g1 hp kp hw r1 => q p ws Kn1 H1 ((s.grow g1).sub l).fin (fresh_back s.ef hp) kp hw r1
/-- a list of one's own is told -/
theorem sb_retO {R : VK} {xs : List α} (hi : sl[i]? = some (.at p)) (hj : ow[j]? = some (ol p xs)) (q : RN K F Kn0 ow0 R xs) (l : ow0.Sublist ow) (hR : D.rt = R := by rfl) : SB K F Kn0 sl ow D (tRet (tVar i)) := fun σ Kn H s => by
  subst hR
  obtain ⟨o, h1, h2⟩ := s.sl.get hi
  obtain ⟨f1, f2, ws, f3, f4⟩ := s.ow.each _ (List.mem_of_getElem? hj)
  exact ⟨.ref p, by rw [h1]; exact congrArg some h2, q p ws Kn H (s.sub l).fin f1 f2 f3 f4⟩
theorem SB.seqB (h : (∀ sl' ow', SB K F Kn0 sl' ow' D tz → SN K F Kn0 sl' ow' { D with nx := tz D }) → SB K F Kn0 sl ow { D with nx := tz D } t) : SB K F Kn0 sl ow D (tSeq t tz) := h fun _ _ k => k
theorem SB.cutB (h : (∀ sl2 ow2, SlLe sl2 sl' → ow1.Sublist ow2 → SN K F Kn0 sl2 ow2 { D with nx := fun σ H => ∃ Kn, S K F Kn0 sl' ow1 σ Kn H }) → SB K F Kn0 sl ow { D with nx := fun σ H => ∃ Kn, S K F Kn0 sl' ow1 σ Kn H } t) (k : SB K F Kn0 sl' ow1 D tz) : SB K F Kn0 sl ow D (tCut t tz) :=
  sb_cut (h fun _ _ l l2 => sn_mid l l2) k
end

/-! ### targets -/
section
variable {α β τ : Type} [Rp α] [Rp β] [Tp τ] {sl sl' sl2 : List Sl} {K : Fg}
theorem wipe_set : ∀ {vs : List Nat} {i : Nat} {o : Option V} {σ : L2.St}, i ∈ vs → wipe (σ.set i o) vs = wipe σ vs
  | v :: vs, i, o, σ, h => by
    by_cases e : i ∈ vs
    · unfold wipe
      rw [wipe_set e]
    · have hv : i = v := (List.mem_cons.mp h).resolve_right e
      subst hv
      have w : ∀ (vs : List Nat) (σ : L2.St), i ∉ vs → wipe (σ.set i o) vs = (wipe σ vs).set i o := by
        intro vs
        induction vs with
        | nil => intro σ _; rfl
        | cons a r ih =>
          intro σ hn
          show (wipe (σ.set i o) r).set a none = ((wipe σ r).set a none).set i o
          rw [ih σ (fun z => hn (List.mem_cons_of_mem _ z)), List.set_comm]
          exact fun z => hn (by rw [z]; exact List.mem_cons_self)
      show (wipe (σ.set i o) vs).set i none = (wipe σ vs).set i none
      rw [w vs σ e, List.set_set]
def GT (K : Fg) (g : TG) (sl sl' : List Sl) (js : List Nat) (x : α) : Prop := ∀ σ Kn H v, SlsOk K Kn sl σ → Ex Kn H → rep K Kn v x → ∀ Q : L2.St → Hp → Prop, (∀ σ', SlsOk K Kn sl' σ' → (∀ vs, (∀ j ∈ js, j ∈ vs) → wipe σ' vs = wipe σ vs) → Q σ' H) → g v σ H Q
def GTs (K : Fg) (g : TGs) (sl sl' : List Sl) (js : List Nat) (t : τ) : Prop := ∀ σ Kn H vs, SlsOk K Kn sl σ → Ex Kn H → rept K Kn vs t → ∀ Q : L2.St → Hp → Prop, (∀ σ', SlsOk K Kn sl' σ' → (∀ vs, (∀ j ∈ js, j ∈ vs) → wipe σ' vs = wipe σ vs) → Q σ' H) → g vs σ H Q
theorem gt_name {i : Nat} {x : α} (hs : sl.set i (sv x) = sl') : GT K (gName i) sl sl' [i] x := fun σ Kn H v s ek r Q q => q _ (hs ▸ SlsOk.set (s := sv x) ⟨v, rfl, r⟩ i s) fun vs h => wipe_set (h i (by simp))
theorem gts_nil : GTs K gNil sl sl [] () := fun σ Kn H vs s ek r Q q => ⟨r, q σ s fun _ _ => rfl⟩
theorem gts_cons {g : TG} {gs : TGs} {js ks : List Nat} {x : α} {t : τ} (h1 : GT K g sl sl' js x) (h2 : GTs K gs sl' sl2 ks t) : GTs K (gCons g gs) sl sl2 (js ++ ks) (x, t) := fun σ Kn H vs s ek r Q q => by
  obtain ⟨v, rest, rfl, r1, r2⟩ := r
  exact ⟨v, rest, rfl, h1 σ Kn H v s ek r1 _ fun σ1 s1 w1 => h2 σ1 Kn H rest s1 ek r2 _ fun σ2 s2 w2 => q σ2 s2 fun vs h => (w2 vs fun j hj => h j (List.mem_append_right _ hj)).trans (w1 vs fun j hj => h j (List.mem_append_left _ hj))⟩
theorem gt_tup {gs : TGs} {js : List Nat} {n : Nat} {t : α × τ} (h : GTs K gs sl sl' js t) (hn : Tp.n (α × τ) = n := by rfl) : GT K (gTup K n gs) sl sl' js t := fun σ Kn H v s ek r Q q => by
  obtain ⟨p, ws, rfl, h1, h2⟩ := r
  exact ⟨p, ws, rfl, st_of (ek _ _ h1), (Tp.len h2).trans hn, h σ Kn H ws s ek h2 Q q⟩
end
section
variable {K : Fg} {F Kn0 : Hp} {sl sl' : List Sl} {ow ow1 : List Ow} {α : Type} [Rp α] {te : TE} {x : α} {D : Ends} {g : TG} {js : List Nat}
/-- a, b = e -/
theorem sb_unp (h : EV K F Kn0 sl ow te x) (hg : GT K g sl sl' js x) (k : SN K F Kn0 sl' ow D) : SB K F Kn0 sl ow D (tAsg te g) := fun σ Kn H s =>
  h σ Kn H s _ fun v Kn1 H1 g1 r1 => by
    have s1 := s.grow g1
    exact hg σ Kn1 H1 v s1.sl s1.ek r1 _ fun σ' h' _ => k σ' Kn1 H1 ⟨s1.e0, s1.ek, s1.ef, s1.sep, h', s1.ow⟩
theorem sb_unpM (h : EM K F Kn0 sl ow te ow1 x) (hg : GT K g sl sl' js x) (k : SN K F Kn0 sl' ow1 D) : SB K F Kn0 sl ow D (tAsg te g) := fun σ Kn H s =>
  h σ Kn H s _ fun v Kn1 H1 e1 s1 r1 => hg σ Kn1 H1 v s1.sl s1.ek r1 _ fun σ' h' _ => k σ' Kn1 H1 ⟨s1.e0, s1.ek, s1.ef, s1.sep, h', s1.ow⟩
/-- a, b = e1, e2 -/
theorem sb_par {α β : Type} [Rp α] [Rp β] {ta : TA} {i j : Nat} {x : α} {y : β} (hs : (sl.set i (sv x)).set j (sv y) = sl') (h : EA K F Kn0 sl ow ta (x, y, ())) (k : SN K F Kn0 sl' ow D) : SB K F Kn0 sl ow D (tPar i j ta) := fun σ Kn H s =>
  h σ Kn H s _ fun vs Kn1 H1 g1 r1 => by
    obtain ⟨v, w, rfl, h1, h2⟩ := two_args r1
    exact ⟨v, w, rfl, k _ Kn1 H1 (hs ▸ ((s.grow g1).setv i h1).setv j h2)⟩
end

/-! ### what is walked -/
def WK {β : Type} [Rp β] (K : Fg) (Kn1 : Hp) (J : It) (xs : List β) : Prop := ∀ i Kn' H', Ex Kn1 Kn' → Ex Kn' H' →
  (∀ x, xs[i]? = some x → J.go i H' ∧ ∀ v H2, J.yld i H' v H2 → ∃ Kn2, Gr Kn' H' Kn2 H2 ∧ rep K Kn2 v x) ∧ (xs.length ≤ i → J.stop i H')
section
variable (K : Fg) (F Kn0 : Hp) (sl : List Sl) (ow : List Ow)
def IT {β : Type} [Rp β] (wi : TI) (xs : List β) : Prop := ∀ σ Kn H, S K F Kn0 sl ow σ Kn H → ∀ R : It → Hp → Prop, (∀ J Kn1 H1, Gr Kn H Kn1 H1 → WK K Kn1 J xs → R J H1) → wi σ H R
def ITM {β : Type} [Rp β] (wi : TI) (ow' : List Ow) (xs : List β) : Prop := ∀ σ Kn H, S K F Kn0 sl ow σ Kn H → ∀ R : It → Hp → Prop, (∀ J Kn1 H1, Ex Kn Kn1 → S K F Kn0 sl ow' σ Kn1 H1 → WK K Kn1 J xs → R J H1) → wi σ H R
end
/-- lo, lo + 1 .. below hi -/
def irange (lo hi : Int) : List Int := (List.range (hi - lo).toNat).map fun (k : Nat) => lo + (k : Int)
def rngO (lo hi : Int) : Option (List Int) := if -1000000000000 ≤ lo ∧ lo ≤ 1000000000000 ∧ -1000000000000 ≤ hi ∧ hi ≤ 1000000000000 then some (irange lo hi) else none
def enumI {α : Type} (xs : List α) : List (Int × α × Unit) := xs.mapIdx fun i x => ((i : Int), x, ())
def zipI {α β : Type} (xs : List α) (ys : List β) : List (α × β × Unit) := List.zipWith (fun a b => (a, b, ())) xs ys
section
variable {K : Fg} {F Kn0 : Hp} {sl sl' : List Sl} {ow ow1 : List Ow} {α β : Type} [Rp α] [Rp β] {te : TE} {ta : TA}
theorem IT.m {wi : TI} {xs : List β} (h : IT K F Kn0 sl ow wi xs) : ITM K F Kn0 sl ow wi ow xs := fun σ Kn H s R q => h σ Kn H s R fun J Kn1 H1 g w => q J Kn1 H1 g.kk (s.grow g) w
theorem wk_list {Kn1 : Hp} {p : Addr} {ws : List V} {xs : List α} (h : SqL K Kn1 p ws) (r : Paired (rep K Kn1) ws xs) : WK K Kn1 (Itl K p) xs := fun i Kn' H' e1 e2 => by
  have hq : SqL K H' p ws := ex_l (e1.trans e2) h
  refine ⟨fun x hx => ?_, fun hl => ⟨ws, hq, by rw [paired_len r]; exact hl⟩⟩
  obtain ⟨v, hv, rv⟩ := paired_at r hx
  refine ⟨⟨ws, v, hq, hv⟩, fun u H2 hy => ?_⟩
  obtain ⟨rfl, f⟩ := hy
  have : v = u := Option.some.inj (hv.symm.trans (f ws hq))
  subst this
  exact ⟨Kn', Gr.refl e2, Rp.mono e1 rv⟩
theorem it_list {xs : List α} (h : EV K F Kn0 sl ow te xs) : IT K F Kn0 sl ow (iList K te) xs := fun σ Kn H s R q => h σ Kn H s _ fun v Kn1 H1 g1 r1 => by
  obtain ⟨p, ws, rfl, h3, h4⟩ := r1
  exact ⟨p, rfl, ⟨ws, sq_of (g1.kh _ _ h3)⟩, q _ Kn1 H1 g1 (wk_list (sq_of h3) h4)⟩
theorem it_listF {xs : Fz α} (h : EV K F Kn0 sl ow te xs) : IT K F Kn0 sl ow (iList K te) xs.l := fun σ Kn H s R q => h σ Kn H s _ fun v Kn1 H1 g1 r1 => by
  obtain ⟨p, ws, rfl, h3, h4⟩ := r1
  exact ⟨p, rfl, ⟨ws, ex_l g1.kh h3⟩, q _ Kn1 H1 g1 (wk_list h3 h4)⟩
theorem itm_list {xs : List α} (h : ENM K F Kn0 sl ow te ow1 xs) : ITM K F Kn0 sl ow (iList K te) ow1 xs := fun σ Kn H s R q => h σ Kn H s _ fun p ws Kn1 H1 e1 s1 fp kp no hw r1 => by
  have s2 := s1.know (o := .lst ws) fp kp no hw
  exact ⟨p, rfl, ⟨ws, sq_of hw⟩, q _ _ H1 (e1.trans (Ex.new kp)) s2 (wk_list (sq_of upd_same) (paired_mono (Ex.new kp) r1))⟩
theorem it_tup {xs : Tu α} (h : EV K F Kn0 sl ow te xs) : IT K F Kn0 sl ow (iTup K te) xs.l := fun σ Kn H s R q => h σ Kn H s _ fun v Kn1 H1 g1 r1 => by
  obtain ⟨p, ws, rfl, h3, h4⟩ := r1
  refine ⟨p, rfl, ⟨ws, st_of (g1.kh _ _ h3)⟩, q _ Kn1 H1 g1 fun i Kn' H' e1 e2 => ?_⟩
  have hq : SqT K H' p ws := st_of ((e1.trans e2) _ _ h3)
  refine ⟨fun x hx => ?_, fun hl => ⟨ws, hq, by rw [paired_len h4]; exact hl⟩⟩
  obtain ⟨v, hv, rv⟩ := paired_at h4 hx
  refine ⟨⟨ws, v, hq, hv⟩, fun u H2 hy => ?_⟩
  obtain ⟨rfl, f⟩ := hy
  have : v = u := Option.some.inj (hv.symm.trans (f ws hq))
  subst this
  exact ⟨Kn', Gr.refl e2, Rp.mono e1 rv⟩
theorem wk_range {Kn1 : Hp} (lo hi : Int) : WK K Kn1 (Itr lo (hi - lo).toNat) (irange lo hi) := fun i Kn' H' e1 e2 => by
  refine ⟨fun x hx => ?_, fun hl => ?_⟩
  · unfold irange at hx
    rw [List.getElem?_map] at hx
    cases q : (List.range (hi - lo).toNat)[i]? with
    | none => rw [q] at hx; cases hx
    | some m =>
      rw [q] at hx
      obtain ⟨hlt, he⟩ := List.getElem?_eq_some_iff.mp q
      rw [List.getElem_range] at he
      rw [List.length_range] at hlt
      subst he
      cases hx
      refine ⟨hlt, fun v H2 hy => ?_⟩
      obtain ⟨rfl, rfl⟩ := hy
      exact ⟨Kn', Gr.refl e2, rfl⟩
  · unfold irange at hl
    rw [List.length_map, List.length_range] at hl
    exact hl
theorem it_rng1 {n : Int} {xs : List Int} (h : EA K F Kn0 sl ow ta (n, ())) (hx : rngO 0 n = some xs) : IT K F Kn0 sl ow (iRng1 ta) xs := fun σ Kn H s R q => h σ Kn H s _ fun vs Kn1 H1 g1 r1 => by
  obtain ⟨v, rfl, h1⟩ := one_arg r1
  cases h1
  unfold rngO at hx
  split at hx
  · rename_i hb
    cases hx
    refine ⟨n, rfl, by omega, by omega, q _ Kn1 H1 g1 ?_⟩
    have w := wk_range (K := K) (Kn1 := Kn1) 0 n
    rw [Int.sub_zero] at w
    exact w
  · cases hx
theorem itm_rng1 {n : Int} {xs : List Int} (h : EAM K F Kn0 sl ow ta ow1 (n, ())) (hx : rngO 0 n = some xs) : ITM K F Kn0 sl ow (iRng1 ta) ow1 xs := fun σ Kn H s R q => h σ Kn H s _ fun vs Kn1 H1 e1 s1 r1 => by
  obtain ⟨v, rfl, h1⟩ := one_arg r1
  cases h1
  unfold rngO at hx
  split at hx
  · rename_i hb
    cases hx
    refine ⟨n, rfl, by omega, by omega, q _ Kn1 H1 e1 s1 ?_⟩
    have w := wk_range (K := K) (Kn1 := Kn1) 0 n
    rw [Int.sub_zero] at w
    exact w
  · cases hx
theorem it_rng2 {lo n : Int} {xs : List Int} (h : EA K F Kn0 sl ow ta (lo, n, ())) (hx : rngO lo n = some xs) : IT K F Kn0 sl ow (iRng2 ta) xs := fun σ Kn H s R q => h σ Kn H s _ fun vs Kn1 H1 g1 r1 => by
  obtain ⟨v, w, rfl, h1, h2⟩ := two_args r1
  cases h1
  cases h2
  unfold rngO at hx
  split at hx
  · rename_i hb
    cases hx
    exact ⟨lo, n, rfl, ⟨by omega, by omega, by omega, by omega⟩, q _ Kn1 H1 g1 (wk_range lo n)⟩
  · cases hx
theorem enum_get {xs : List α} {i : Nat} {y : Int × α × Unit} (h : (enumI xs)[i]? = some y) : ∃ x, xs[i]? = some x ∧ y = ((i : Int), x, ()) := by
  unfold enumI at h
  rw [List.getElem?_mapIdx] at h
  cases q : xs[i]? with
  | none => rw [q] at h; cases h
  | some x => rw [q] at h; cases h; exact ⟨x, rfl, rfl⟩
theorem wk_enum {Kn1 : Hp} {p : Addr} {ws : List V} {xs : List α} (h : SqL K Kn1 p ws) (r : Paired (rep K Kn1) ws xs) : WK K Kn1 (Ite K p) (enumI xs) := fun i Kn' H' e1 e2 => by
  have hq : SqL K H' p ws := ex_l (e1.trans e2) h
  refine ⟨fun y hy => ?_, fun hl => ⟨ws, hq, by rw [paired_len r]; simpa [enumI] using hl⟩⟩
  obtain ⟨x, hx, rfl⟩ := enum_get hy
  obtain ⟨v, hv, rv⟩ := paired_at r hx
  refine ⟨⟨ws, v, hq, hv⟩, fun u H2 hy => ?_⟩
  obtain ⟨T, z, rfl, hT, rfl, f⟩ := hy
  have : v = z := Option.some.inj (hv.symm.trans (f ws hq))
  subst this
  have g : Gr Kn' H' (upd Kn' T (.tup [.int (i : Nat), v])) (upd H' T (.tup [.int (i : Nat), v])) := Gr.new e2 hT
  exact ⟨_, g, T, _, rfl, upd_same, .int (i : Nat), [v], rfl, rfl, v, [], rfl, Rp.mono (e1.trans g.kk) rv, rfl⟩
theorem it_enum {xs : List α} (h : EA K F Kn0 sl ow ta (xs, ())) : IT K F Kn0 sl ow (iEnum K ta) (enumI xs) := fun σ Kn H s R q => h σ Kn H s _ fun vs Kn1 H1 g1 r1 => by
  obtain ⟨v, rfl, p, ws, rfl, h3, h4⟩ := one_arg r1
  exact ⟨p, ws, rfl, sq_of (g1.kh _ _ h3), q _ Kn1 H1 g1 (wk_enum (sq_of h3) h4)⟩
theorem zip_get {xs : List α} {ys : List β} {i : Nat} {z : α × β × Unit} (h : (zipI xs ys)[i]? = some z) : ∃ x y, xs[i]? = some x ∧ ys[i]? = some y ∧ z = (x, y, ()) := by
  unfold zipI at h
  rw [List.getElem?_zipWith] at h
  cases q : xs[i]? with
  | none => rw [q] at h; simp at h
  | some x =>
    cases q2 : ys[i]? with
    | none => rw [q, q2] at h; simp at h
    | some y =>
      rw [q, q2] at h
      simp at h
      exact ⟨x, y, rfl, rfl, h.symm⟩
theorem it_zip {xs : List α} {ys : List β} (h : EA K F Kn0 sl ow ta (xs, ys, ())) : IT K F Kn0 sl ow (iZip K ta) (zipI xs ys) := fun σ Kn H s R q => h σ Kn H s _ fun vs Kn1 H1 g1 r1 => by
  obtain ⟨v, w, rfl, ⟨p, ws, rfl, h3, h4⟩, ⟨p2, ws2, rfl, h5, h6⟩⟩ := two_args r1
  refine ⟨p, p2, ws, ws2, rfl, sq_of (g1.kh _ _ h3), sq_of (g1.kh _ _ h5), q _ Kn1 H1 g1 fun i Kn' H' e1 e2 => ?_⟩
  have hq : SqL K H' p ws := sq_of ((e1.trans e2) _ _ h3)
  have hq2 : SqL K H' p2 ws2 := sq_of ((e1.trans e2) _ _ h5)
  refine ⟨fun y hy => ?_, fun hl => ⟨ws, ws2, hq, hq2, ?_⟩⟩
  · obtain ⟨x, y, hx, hy2, rfl⟩ := zip_get hy
    obtain ⟨v, hv, rv⟩ := paired_at h4 hx
    obtain ⟨v2, hv2, rv2⟩ := paired_at h6 hy2
    refine ⟨⟨ws, ws2, v, v2, hq, hq2, hv, hv2⟩, fun u H2 hy => ?_⟩
    obtain ⟨T, z, z2, rfl, hT, rfl, f, f2⟩ := hy
    have e3 : v = z := Option.some.inj (hv.symm.trans (f ws hq))
    have e4 : v2 = z2 := Option.some.inj (hv2.symm.trans (f2 ws2 hq2))
    subst e3
    subst e4
    have g : Gr Kn' H' (upd Kn' T (.tup [v, v2])) (upd H' T (.tup [v, v2])) := Gr.new e2 hT
    exact ⟨_, g, T, _, rfl, upd_same, v, [v2], rfl, Rp.mono (e1.trans g.kk) rv, v2, [], rfl, Rp.mono (e1.trans g.kk) rv2, rfl⟩
  · rw [paired_len h4, paired_len h6]
    simp [zipI] at hl
    omega
end

/-! ### loops -/
structure Bs (F Kn0 Kn1 : Hp) : Prop where
  e : Ex Kn0 Kn1
  sp : ∀ p, F p ≠ none → Kn0 p = none → Kn1 p = none
section
variable {K : Fg} {F Kn0 Kn1 : Hp} {sl sl' : List Sl} {ow ow0 ow1 : List Ow} {α β γ : Type} [Rp α] [Rp β] [Rp γ] {D : Ends} {σ : L2.St} {Kn H : Hp}
theorem Bs.refl : Bs F Kn0 Kn0 := ⟨Ex.refl _, fun _ _ h => h⟩
theorem S.bs (s : S K F Kn0 sl ow σ Kn H) : Bs F Kn0 Kn := ⟨s.e0, s.sep⟩
theorem S.rebase (s : S K F Kn0 sl ow σ Kn H) : S K F Kn sl ow σ Kn H := ⟨Ex.refl _, s.ek, s.ef, fun _ _ h => h, s.sl, s.ow⟩
theorem S.unbase (b : Bs F Kn0 Kn1) (s : S K F Kn1 sl ow σ Kn H) : S K F Kn0 sl ow σ Kn H := ⟨b.e.trans s.e0, s.ek, s.ef, fun p h1 h2 => s.sep p h1 (b.sp p h1 h2), s.sl, s.ow⟩
theorem RT.base {R : VK} {x : α} (q : RT K F Kn0 ow R x) (b : Bs F Kn0 Kn1) : RT K F Kn1 ow R x := fun v Kn H s => q v Kn H (s.unbase b)
theorem RN.base {R : VK} {xs : List α} (q : RN K F Kn0 ow R xs) (b : Bs F Kn0 Kn1) : RN K F Kn1 ow R xs := fun p ws Kn H s => q p ws Kn H (s.unbase b)
theorem SN.base (q : SN K F Kn0 sl ow D) (b : Bs F Kn0 Kn1) : SN K F Kn1 sl ow D := fun σ Kn H s => q σ Kn H (s.unbase b)
theorem sb_for {wi : TI} {g : TG} {tb : TS} {Sx : Type} {xs : List β} (slx : Sx → List Sl) (owx : Sx → List Ow) (gx : β → Sx → List Sl) (js : List Nat) (P : List β → Sx → Prop) (s0 : Sx) (hi : ITM K F Kn0 sl ow wi ow1 xs) (h0 : P xs s0) (le : SlLe sl (slx s0)) (eo : (owx s0).Sublist ow1)
    (hg : ∀ x s, GT K g (slx s) (gx x s) js x)
    (step : ∀ Kn1, Bs F Kn0 Kn1 → ∀ x rest s, P (x :: rest) s → ∀ N : L2.St → Hp → Prop, (∀ s', P rest s' → ∀ σ Kn H, S K F Kn1 (slx s') (owx s') σ Kn H → N σ H) → SB K F Kn1 (gx x s) (owx s) { D with nx := N, ct := N, bk := D.nx } tb)
    (done : ∀ s, P [] s → SN K F Kn0 (slx s) (owx s) D) : SB K F Kn0 sl ow D (tFor wi g tb) := fun σ Kn H s =>
  hi σ Kn H s _ fun J Kn1 H1 e1 s1 w => by
    have b : Bs F Kn0 Kn1 := s1.bs
    refine ⟨fun i m σ H => i + m = xs.length ∧ ∃ Kn s, P (xs.drop i) s ∧ S K F Kn1 (slx s) (owx s) σ Kn H, ⟨xs.length, by omega, Kn1, s0, h0, (s1.rebase.le le).sub eo⟩, fun i m σ H hW => ?_⟩
    obtain ⟨em, Kn, s, hP, hS⟩ := hW
    by_cases hlt : i < xs.length
    · have hx : xs[i]? = some xs[i] := List.getElem?_eq_getElem hlt
      have hd : xs.drop i = xs[i] :: xs.drop (i + 1) := List.drop_eq_getElem_cons hlt
      rw [hd] at hP
      obtain ⟨go, yl⟩ := (w i Kn H hS.e0 hS.ek).1 _ hx
      refine .inr ⟨go, fun σ' H' => ∃ Kn s, P (xs.drop (i + 1)) s ∧ S K F Kn1 (slx s) (owx s) σ' Kn H', fun σ' H' ⟨Kn', s', h1, h2⟩ => ⟨m - 1, by omega, by omega, Kn', s', h1, h2⟩, fun v H' hy => ?_⟩
      obtain ⟨Kn2, g2, rv⟩ := yl v H' hy
      have hS2 := hS.grow g2
      refine hg _ s σ Kn2 H' v hS2.sl hS2.ek rv _ fun σ2 h2 _ => ?_
      exact step Kn1 b _ _ s hP _ (fun s' hs' σ Kn H hS' => ⟨Kn, s', hs', hS'⟩) σ2 Kn2 H' ⟨hS2.e0, hS2.ek, hS2.ef, hS2.sep, h2, hS2.ow⟩
    · have hd : xs.drop i = [] := List.drop_eq_nil_of_le (by omega)
      rw [hd] at hP
      exact .inl ⟨(w i Kn H hS.e0 hS.ek).2 (by omega), done s hP σ Kn H (hS.unbase b)⟩
theorem sb_while {tt : TT} {tb : TS} {Sx : Type} (slx : Sx → List Sl) (owx : Sx → List Ow) (P : Nat → Sx → Prop) (n0 : Nat) (s0 : Sx) (h0 : P n0 s0) (le : SlLe sl (slx s0)) (eo : (owx s0).Sublist ow)
    (step : ∀ n s, P n s → ∃ b, ET K F Kn0 (slx s) (owx s) tt b ∧
      (b = true → ∀ N : L2.St → Hp → Prop, (∀ m s', m < n → P m s' → ∀ σ Kn H, S K F Kn0 (slx s') (owx s') σ Kn H → N σ H) → SB K F Kn0 (slx s) (owx s) { D with nx := N, ct := N, bk := D.nx } tb) ∧ (b = false → SN K F Kn0 (slx s) (owx s) D)) :
    SB K F Kn0 sl ow D (tWhile tt tb) := fun σ Kn H s => by
  refine ⟨fun n σ H => ∃ Kn s, P n s ∧ S K F Kn0 (slx s) (owx s) σ Kn H, ⟨n0, Kn, s0, h0, (s.le le).sub eo⟩, fun n σ H hW => ?_⟩
  obtain ⟨Kn, s, hP, hS⟩ := hW
  obtain ⟨b, h1, h2, h3⟩ := step n s hP
  refine h1 σ Kn H hS _ fun Kn1 H1 g1 => ?_
  cases b with
  | true => exact iteT ⟨fun σ H => ∃ m Kn s, m < n ∧ P m s ∧ S K F Kn0 (slx s) (owx s) σ Kn H, fun σ' H' ⟨m, Kn', s', hm, hp, hs⟩ => ⟨m, hm, Kn', s', hp, hs⟩, h2 rfl _ (fun m s' hm hp σ Kn H hs => ⟨m, Kn, s', hm, hp, hs⟩) σ Kn1 H1 (hS.grow g1)⟩
  | false => exact iteF (h3 rfl σ Kn1 H1 (hS.grow g1))
end

/-! ### comprehensions -/
def lcGo {β γ : Type} (c : β → Option Bool) (f : β → Option γ) : List β → Option (List γ)
  | [] => some []
  | x :: xs => (c x).bind fun b => if b = true then (f x).bind fun z => (lcGo c f xs).bind fun zs => some (z :: zs) else lcGo c f xs
def lcM {β γ : Type} (c : β → Option Bool) (f : β → Option γ) (xs : List β) : Option (List γ) := if xs.length < 1000000 then lcGo c f xs else none
def lcSGo {β γ Sx : Type} (f : β → Sx → Option (γ × Sx)) : List β → Sx → Option (List γ × Sx)
  | [], s => some ([], s)
  | x :: xs, s => (f x s).bind fun r => (lcSGo f xs r.2).bind fun q => some (r.1 :: q.1, q.2)
def lcS {β γ Sx : Type} (f : β → Sx → Option (γ × Sx)) (xs : List β) (s : Sx) : Option (List γ × Sx) := if xs.length < 1000000 then lcSGo f xs s else none
section
variable {K : Fg} {F Kn0 : Hp} {sl sl' : List Sl} {ow ow0 ow1 : List Ow} {α β γ : Type} [Rp α] [Rp β] [Rp γ] {σ : L2.St} {Kn H : Hp} {tt : TT} {te : TE} {wi : TI} {g : TG} {vs js : List Nat}
theorem bind_some {α β : Type} {m : Option α} {f : α → Option β} {r : β} (h : m.bind f = some r) : ∃ a, m = some a ∧ f a = some r := by
  cases m with
  | none => cases h
  | some a => exact ⟨a, rfl, h⟩
theorem SlsOk.wipe : ∀ {vs : List Nat} {Kn : Hp} {sl : List Sl} {σ : L2.St}, (∀ j ∈ vs, sl[j]? = some .any) → SlsOk K Kn sl σ → SlsOk K Kn sl (wipe σ vs)
  | [], _, _, _, _, h => h
  | v :: vs, Kn, sl, σ, hv, h => by
    have h1 := SlsOk.wipe (vs := vs) (fun j hj => hv j (List.mem_cons_of_mem _ hj)) h
    have h2 := SlsOk.set (K := K) (H := Kn) (s := .any) (o := none) trivial v h1
    have e : sl.set v .any = sl := by
      refine List.ext_getElem? fun m => ?_
      have hm := hv v List.mem_cons_self
      by_cases q : v = m
      · subst q
        rw [List.getElem?_set_self (List.getElem?_eq_some_iff.mp hm).1, hm]
      · rw [List.getElem?_set_ne q]
    rw [e] at h2
    exact h2
theorem S.wipe (s : S K F Kn0 sl ow σ Kn H) (hv : ∀ j ∈ vs, sl[j]? = some .any) : S K F Kn0 sl ow (wipe σ vs) Kn H := ⟨s.e0, s.ek, s.ef, s.sep, s.sl.wipe hv, s.ow⟩
theorem Gr.mut {Kn' H' : Hp} {p : Addr} {o : HO} (g : Gr Kn H Kn' H') (hp : H p = none) (kp : Kn' p = none) : Gr Kn H Kn' (upd H' p o) :=
  ⟨g.kk, Ex.mut g.hh hp, upd_in g.kh kp, g.sp⟩
theorem S.slots {σ2 : L2.St} (s : S K F Kn0 sl ow σ Kn H) (h : SlsOk K Kn sl' σ2) : S K F Kn0 sl' ow σ2 Kn H := ⟨s.e0, s.ek, s.ef, s.sep, h, s.ow⟩
theorem en_lc {xs : List β} {zs : List γ} {c : β → Option Bool} {f : β → Option γ} (gx : β → List Sl) (hm : lcM c f xs = some zs) (hi : IT K F Kn0 sl ow wi xs) (hv : ∀ j ∈ vs, sl[j]? = some .any) (hg : ∀ x, GT K g sl (gx x) js x) (hj : ∀ j ∈ js, j ∈ vs)
    (ht : ∀ p (acc : List γ) x b, c x = some b → ET K F Kn0 (gx x) (ol p acc :: ow) tt b) (he : ∀ p (acc : List γ) x z, c x = some true → f x = some z → EV K F Kn0 (gx x) (ol p acc :: ow) te z) :
    EN K F Kn0 sl ow (tLc wi g tt te vs) zs := fun σ Kn H s Q q => by
  unfold lcM at hm
  split at hm
  case isFalse => cases hm
  rename_i hlen
  refine hi σ Kn H s _ fun J Kn1 H1 g1 w D hD => ?_
  have s1 := s.grow g1
  have kD : Kn1 D = none := fresh_back s1.ek hD
  have fD : F D = none := fresh_back s1.ef hD
  refine ⟨fun i m H' => i + m = xs.length ∧ ∃ Kn' ws acc rest, Gr Kn1 H1 Kn' H' ∧ Kn' D = none ∧ H' D = some (.lst ws) ∧ Paired (rep K Kn') ws acc ∧ acc.length ≤ i ∧ lcGo c f (xs.drop i) = some rest ∧ acc ++ rest = zs,
    ⟨xs.length, by omega, Kn1, [], [], zs, (Gr.newU g1.kh hD), kD, upd_same, .nil, Nat.le_refl _, hm, rfl⟩, fun i m H' hW => ?_⟩
  obtain ⟨em, Kn', ws, acc, rest, gr, kD', hD', rp, hal, hrest, hz⟩ := hW
  have s' : S K F Kn0 sl (ol D acc :: ow) σ Kn' H' := (s1.grow gr).own fD kD' (owned_ne s1 hD) hD' rp
  by_cases hlt : i < xs.length
  · have hx : xs[i]? = some xs[i] := List.getElem?_eq_getElem hlt
    have hd : xs.drop i = xs[i] :: xs.drop (i + 1) := List.drop_eq_getElem_cons hlt
    rw [hd] at hrest
    obtain ⟨b, hb, hrest⟩ := bind_some hrest
    obtain ⟨go, yl⟩ := (w i Kn' H' gr.kk gr.kh).1 _ hx
    refine .inr ⟨go, fun H'' => ∃ Kn' ws acc rest, Gr Kn1 H1 Kn' H'' ∧ Kn' D = none ∧ H'' D = some (.lst ws) ∧ Paired (rep K Kn') ws acc ∧ acc.length ≤ i + 1 ∧ lcGo c f (xs.drop (i + 1)) = some rest ∧ acc ++ rest = zs, fun H'' h => ⟨m - 1, by omega, by omega, h⟩, fun v H2 hy => ?_⟩
    obtain ⟨Kn2, g2, rv⟩ := yl v H2 hy
    have s2 := (s'.grow g2).wipe hv
    refine hg _ _ Kn2 H2 v s2.sl s2.ek rv _ fun σ3 h3 hw3 => ?_
    have s3 := s2.slots h3
    have hDn : H' D ≠ none := ne_none_of hD'
    refine ⟨(hw3 vs hj).trans ?_, ht D acc _ b hb σ3 Kn2 H2 s3 _ fun Kn3 H3 g3 => ?_⟩
    · have ww : ∀ (vs us : List Nat) (σ : L2.St), (∀ j ∈ vs, j ∈ us) → L2.wipe (L2.wipe σ vs) us = L2.wipe σ us := by
        intro vs
        induction vs with
        | nil => intro us σ _; rfl
        | cons a r ih =>
          intro us σ hh
          show L2.wipe ((L2.wipe σ r).set a none) us = L2.wipe σ us
          rw [wipe_set (hh a List.mem_cons_self)]
          exact ih us σ fun j hj => hh j (List.mem_cons_of_mem _ hj)
      exact ww vs vs σ fun _ h => h
    · have g123 : Gr Kn1 H1 Kn3 H3 := (gr.trans g2).trans g3
      have kD3 : Kn3 D = none := (g2.trans g3).sp D hDn kD'
      have hD3 : H3 D = some (.lst ws) := (g2.trans g3).hh _ _ hD'
      cases b with
      | true =>
        obtain ⟨z, hfz, hrest⟩ := bind_some (show (f xs[i]).bind _ = some rest from hrest)
        obtain ⟨zs', hzs, hrest⟩ := bind_some hrest
        cases hrest
        refine iteT (he D acc _ z hb hfz σ3 Kn3 H3 (s3.grow g3) _ fun y Kn4 H4 g4 ry => ?_)
        have g234 := (g2.trans g3).trans g4
        have kD4 : Kn4 D = none := g4.sp D (ne_none_of hD3) kD3
        refine ⟨ws, g4.hh _ _ hD3, by rw [paired_len rp]; exact lt_line (by omega), Kn4, ws ++ [y], acc ++ [z], zs', (gr.trans g234).mut hD kD4, kD4, upd_same, paired_append (paired_mono g234.kk rp) (.cons ry .nil), ?_, hzs, ?_⟩
        · rw [List.length_append, List.length_singleton]; omega
        · rw [List.append_assoc]; exact hz
      | false =>
        have hrest : lcGo c f (xs.drop (i + 1)) = some rest := hrest
        exact iteF ⟨Kn3, ws, acc, rest, g123, kD3, hD3, paired_mono (g2.trans g3).kk rp, by omega, hrest, hz⟩
  · have hd : xs.drop i = [] := List.drop_eq_nil_of_le (by omega)
    rw [hd] at hrest
    cases hrest
    rw [List.append_nil] at hz
    subst hz
    exact .inl ⟨(w i Kn' H' gr.kk gr.kh).2 (by omega), q D ws Kn' H' (g1.trans gr) (fresh_back g1.hh hD) kD' hD' rp⟩
theorem et_yes : ET K F Kn0 sl ow tYes true := fun σ Kn H s Q q => q Kn H (Gr.refl s.ek)
/-- what changes on the way: owx -/
theorem enm_lc {Sx : Type} {xs : List β} {zs : List γ} {f : β → Sx → Option (γ × Sx)} (owx : Sx → List Ow) (gx : β → List Sl) (s0 s9 : Sx) (hm : lcS f xs s0 = some (zs, s9)) (hi : ITM K F Kn0 sl ow wi (owx s0) xs) (hv : ∀ j ∈ vs, sl[j]? = some .any) (hg : ∀ x, GT K g sl (gx x) js x) (hj : ∀ j ∈ js, j ∈ vs)
    (he : ∀ Kn1, Bs F Kn0 Kn1 → ∀ p (acc : List γ) x s z s', f x s = some (z, s') → EM K F Kn1 (gx x) (ol p acc :: owx s) te (ol p acc :: owx s') z) :
    ENM K F Kn0 sl ow (tLc wi g tYes te vs) (owx s9) zs := fun σ Kn H s Q q => by
  unfold lcS at hm
  split at hm
  case isFalse => cases hm
  rename_i hlen
  refine hi σ Kn H s _ fun J Kn1 H1 e1 s1 w D hD => ?_
  have kD : Kn1 D = none := fresh_back s1.ek hD
  have fD : F D = none := fresh_back s1.ef hD
  have b1 : Bs F Kn0 Kn1 := s1.bs
  refine ⟨fun i m H' => i + m = xs.length ∧ ∃ Kn' st acc rest, S K F Kn1 sl (ol D acc :: owx st) σ Kn' H' ∧ acc.length ≤ i ∧ lcSGo f (xs.drop i) st = some (rest, s9) ∧ acc ++ rest = zs,
    ⟨xs.length, by omega, Kn1, s0, [], zs, ?_, Nat.le_refl _, hm, rfl⟩, fun i m H' hW => ?_⟩
  · have s2 := s1.rebase.grow (Gr.newU (o := .lst []) s1.ek hD)
    exact s2.own fD kD (owned_ne s1 hD) upd_same .nil
  obtain ⟨em, Kn', st, acc, rest, s', hal, hrest, hz⟩ := hW
  obtain ⟨_, kD', ws, hD', rp⟩ := s'.ow.each (ol D acc) List.mem_cons_self
  have hD' : H' D = some (.lst ws) := hD'
  by_cases hlt : i < xs.length
  · have hx : xs[i]? = some xs[i] := List.getElem?_eq_getElem hlt
    have hd : xs.drop i = xs[i] :: xs.drop (i + 1) := List.drop_eq_getElem_cons hlt
    rw [hd] at hrest
    obtain ⟨⟨z, st'⟩, hf, hrest⟩ := bind_some hrest
    obtain ⟨⟨zs', s9'⟩, hzs, hrest⟩ := bind_some hrest
    have h9 := Option.some.inj hrest
    have h91 : z :: zs' = rest := congrArg Prod.fst h9
    have h92 : s9' = s9 := congrArg Prod.snd h9
    rw [h92] at hzs
    subst h91
    obtain ⟨go, yl⟩ := (w i Kn' H' s'.e0 s'.ek).1 _ hx
    refine .inr ⟨go, fun H'' => ∃ Kn' st acc rest, S K F Kn1 sl (ol D acc :: owx st) σ Kn' H'' ∧ acc.length ≤ i + 1 ∧ lcSGo f (xs.drop (i + 1)) st = some (rest, s9) ∧ acc ++ rest = zs, fun H'' h => ⟨m - 1, by omega, by omega, h⟩, fun v H2 hy => ?_⟩
    obtain ⟨Kn2, g2, rv⟩ := yl v H2 hy
    have s2 := (s'.grow g2).wipe hv
    refine hg _ _ Kn2 H2 v s2.sl s2.ek rv _ fun σ3 h3 hw3 => ?_
    have s3 := s2.slots h3
    refine ⟨(hw3 vs hj).trans ?_, ?_⟩
    · have ww : ∀ (vs us : List Nat) (σ : L2.St), (∀ j ∈ vs, j ∈ us) → L2.wipe (L2.wipe σ vs) us = L2.wipe σ us := by
        intro vs
        induction vs with
        | nil => intro us σ _; rfl
        | cons a r ih =>
          intro us σ hh
          show L2.wipe ((L2.wipe σ r).set a none) us = L2.wipe σ us
          rw [wipe_set (hh a List.mem_cons_self)]
          exact ih us σ fun j hj => hh j (List.mem_cons_of_mem _ hj)
      exact ww vs vs σ fun _ h => h
    · unfold tYes
      refine iteT ?_
      refine he Kn1 b1 D acc _ st z st' hf σ3 Kn2 H2 s3 _ fun y Kn4 H4 e4 s4 ry => ?_
      obtain ⟨_, kD4, ws4, hD4, rp4⟩ := s4.ow.each (ol D acc) List.mem_cons_self
      have kD4 : Kn4 D = none := kD4
      have s5 : S K F Kn1 (gx xs[i]) (ol D (acc ++ [z]) :: owx st') σ3 Kn4 (upd H4 D (.lst (ws4 ++ [y]))) := s4.write (j := 0) (xs' := acc ++ [z]) rfl (Ex.refl _) (upd_in s4.ek kD4) (fun q hq _ => upd_ne hq) (fun _ _ h => h) upd_same (paired_append rp4 (.cons ry .nil))
      have hsl : SlsOk K Kn4 sl σ := s'.sl.mono (g2.kk.trans e4)
      refine ⟨ws4, hD4, by rw [paired_len rp4]; exact lt_line (by omega), Kn4, st', acc ++ [z], zs', s5.slots hsl, ?_, hzs, ?_⟩
      · rw [List.length_append, List.length_singleton]; omega
      · rw [List.append_assoc]; exact hz
  · have hd : xs.drop i = [] := List.drop_eq_nil_of_le (by omega)
    rw [hd] at hrest
    have h9 := Option.some.inj hrest
    have h91 : [] = rest := congrArg Prod.fst h9
    have h92 : st = s9 := congrArg Prod.snd h9
    subst h91
    subst h92
    rw [List.append_nil] at hz
    subst hz
    have no : ∀ o ∈ owx st, o.ad ≠ D := fun o ho z => (List.nodup_cons.mp s'.ow.nd).1 (List.mem_map.mpr ⟨o, ho, z⟩)
    exact .inl ⟨(w i Kn' H' s'.e0 s'.ek).2 (by omega), q D ws Kn' H' (e1.trans s'.e0) ((s'.unbase b1).sub (List.sublist_cons_self _ _)) fD kD' no hD' rp⟩
end
end Wk
/-! Wk4: loops as functions, == of data, kinds, lists of one's own that are read -/
namespace Wk
open PySem PySem.Spec L2 Evl

/-! ### the mirrors' words -/
inductive Ctl (Sx R : Type) where
  | nx (s : Sx)
  | bk (s : Sx)
  | rt (r : R)
def forS {β Sx : Type} (f : β → Sx → Option Sx) : List β → Sx → Option Sx
  | [], s => some s
  | x :: xs, s => (f x s).bind (forS f xs)
def forC {β Sx R : Type} (f : β → Sx → Option (Ctl Sx R)) : List β → Sx → Option (Ctl Sx R)
  | [], s => some (.nx s)
  | x :: xs, s => (f x s).bind fun c => match c with
    | .nx s' => forC f xs s'
    | .bk s' => some (.nx s')
    | .rt r => some (.rt r)
def whileS {Sx : Type} (c : Sx → Option Bool) (f : Sx → Option Sx) : Nat → Sx → Option Sx
  | 0, _ => none
  | n + 1, s => (c s).bind fun b => if b = true then (f s).bind (whileS c f n) else some s
def whileC {Sx R : Type} (c : Sx → Option Bool) (f : Sx → Option (Ctl Sx R)) : Nat → Sx → Option (Ctl Sx R)
  | 0, _ => none
  | n + 1, s => (c s).bind fun b => if b = true then (f s).bind fun c' => match c' with
    | .nx s' => whileC c f n s'
    | .bk s' => some (.nx s')
    | .rt r => some (.rt r) else some (.nx s)
theorem whileS_more {Sx : Type} {c : Sx → Option Bool} {f : Sx → Option Sx} : ∀ {n m : Nat} {s r : Sx}, whileS c f n s = some r → n ≤ m → whileS c f m s = some r
  | 0, _, _, _, h, _ => by cases h
  | n + 1, 0, _, _, _, h => absurd h (Nat.not_succ_le_zero _)
  | n + 1, m + 1, s, r, h, hm => by
    unfold whileS at h ⊢
    cases e : c s with
    | none => rw [e] at h; cases h
    | some b =>
      rw [e] at h
      cases b with
      | false => exact h
      | true =>
        have h : ((f s).bind (whileS c f n)) = some r := h
        show ((f s).bind (whileS c f m)) = some r
        cases e2 : f s with
        | none => rw [e2] at h; cases h
        | some s' =>
          rw [e2] at h
          exact whileS_more (show whileS c f n s' = some r from h) (Nat.le_of_succ_le_succ hm)
theorem whileC_more {Sx R : Type} {c : Sx → Option Bool} {f : Sx → Option (Ctl Sx R)} : ∀ {n m : Nat} {s : Sx} {r : Ctl Sx R}, whileC c f n s = some r → n ≤ m → whileC c f m s = some r
  | 0, _, _, _, h, _ => by cases h
  | n + 1, 0, _, _, _, h => absurd h (Nat.not_succ_le_zero _)
  | n + 1, m + 1, s, r, h, hm => by
    unfold whileC at h ⊢
    cases e : c s with
    | none => rw [e] at h; cases h
    | some b =>
      rw [e] at h
      cases b with
      | false => exact h
      | true =>
        have h : ((f s).bind _) = some r := h
        show ((f s).bind _) = some r
        cases e2 : f s with
        | none => rw [e2] at h; cases h
        | some k =>
          rw [e2] at h
          cases k with
          | nx s' => exact whileC_more (show whileC c f n s' = some r from h) (Nat.le_of_succ_le_succ hm)
          | bk _ => exact h
          | rt _ => exact h
/-- a while, for as many turns as it takes -/
noncomputable def whileF {Sx : Type} (c : Sx → Option Bool) (f : Sx → Option Sx) (s : Sx) : Option Sx := by
  classical exact if h : ∃ n r, whileS c f n s = some r then some h.choose_spec.choose else none
theorem whileF_some {Sx : Type} {c : Sx → Option Bool} {f : Sx → Option Sx} {s r : Sx} (h : whileF c f s = some r) : ∃ n, whileS c f n s = some r := by
  unfold whileF at h
  split at h
  · rename_i he
    refine ⟨he.choose, ?_⟩
    rw [← Option.some.inj h]
    exact he.choose_spec.choose_spec
  · cases h
theorem whileF_of {Sx : Type} {c : Sx → Option Bool} {f : Sx → Option Sx} {n : Nat} {s r : Sx} (h : whileS c f n s = some r) : whileF c f s = some r := by
  have he : ∃ n r, whileS c f n s = some r := ⟨n, r, h⟩
  unfold whileF
  rw [dif_pos he]
  have h2 := he.choose_spec.choose_spec
  have a := whileS_more h (Nat.le_max_left n he.choose)
  have b := whileS_more h2 (Nat.le_max_right n he.choose)
  exact b.symm.trans a
noncomputable def whileCF {Sx R : Type} (c : Sx → Option Bool) (f : Sx → Option (Ctl Sx R)) (s : Sx) : Option (Ctl Sx R) := by
  classical exact if h : ∃ n r, whileC c f n s = some r then some h.choose_spec.choose else none
theorem whileCF_some {Sx R : Type} {c : Sx → Option Bool} {f : Sx → Option (Ctl Sx R)} {s : Sx} {r : Ctl Sx R} (h : whileCF c f s = some r) : ∃ n, whileC c f n s = some r := by
  unfold whileCF at h
  split at h
  · rename_i he
    refine ⟨he.choose, ?_⟩
    rw [← Option.some.inj h]
    exact he.choose_spec.choose_spec
  · cases h
theorem whileCF_of {Sx R : Type} {c : Sx → Option Bool} {f : Sx → Option (Ctl Sx R)} {n : Nat} {s : Sx} {r : Ctl Sx R} (h : whileC c f n s = some r) : whileCF c f s = some r := by
  have he : ∃ n r, whileC c f n s = some r := ⟨n, r, h⟩
  unfold whileCF
  rw [dif_pos he]
  have h2 := he.choose_spec.choose_spec
  have a := whileC_more h (Nat.le_max_left n he.choose)
  have b := whileC_more h2 (Nat.le_max_right n he.choose)
  exact b.symm.trans a
def appO {α : Type} (xs : List α) (x : α) : Option (List α) := if xs.length < 1000000 then some (xs ++ [x]) else none
def modO (i j : Int) : Option Int := if 0 < j then some (i % j) else none
def divO (i j : Int) : Option Int := if 0 < j ∧ j < 18446744073709551616 then some (i / j) else none
def mulO (i j : Int) : Option Int := if -18446744073709551616 < i ∧ i < 18446744073709551616 then some (i * j) else none
def catO {α : Type} (xs ys : List α) : Option (List α) := if xs.length + ys.length ≤ 1000000 then some (xs ++ ys) else none
theorem appO_some {α : Type} {xs ys : List α} {x : α} (h : appO xs x = some ys) : xs.length < 1000000 ∧ ys = xs ++ [x] := by
  unfold appO at h
  split at h
  · exact ⟨by assumption, (Option.some.inj h).symm⟩
  · cases h
theorem appO_ok {α : Type} {xs : List α} {x : α} (h : xs.length < 1000000) : appO xs x = some (xs ++ [x]) := if_pos h
theorem modO_ok {i j : Int} (h : 0 < j) : modO i j = some (i % j) := if_pos h
theorem divO_ok {i j : Int} (h : 0 < j) (h2 : j < 18446744073709551616) : divO i j = some (i / j) := if_pos ⟨h, h2⟩
theorem mulO_ok {i j : Int} (h : -18446744073709551616 < i) (h2 : i < 18446744073709551616) : mulO i j = some (i * j) := if_pos ⟨h, h2⟩
theorem catO_ok {α : Type} {xs ys : List α} (h : xs.length + ys.length ≤ 1000000) : catO xs ys = some (xs ++ ys) := if_pos h

section
variable {K : Fg} {F Kn0 : Hp} {sl sl' : List Sl} {ow ow0 ow1 ow2 : List Ow} {α β γ τ : Type} [Rp α] [Rp β] [Rp γ] [Tp τ] {ta tb te : TE} {x : α} {D : Ends} {t u tz : TS} {tt : TT} {b : Bool} {i j : Nat} {p : Addr}
theorem SB.sn (h : SB K F Kn0 sl ow D tz) : SN K F Kn0 sl ow { D with nx := tz D } := h
theorem r2_modO {i j z : Int} (h : modO i j = some z) : R2V K (rI (fun _ j => 0 < j) fun i j => .int (i % j)) i j z := by
  unfold modO at h
  split at h
  · cases h
    exact r2_I (by assumption)
  · cases h
theorem r2_divO {i j z : Int} (h : divO i j = some z) : R2V K (rI CDivW fun i j => .int (i / j)) i j z := by
  unfold divO at h
  split at h
  · rename_i hb
    cases h
    exact r2_I (wide_div (b := 64) hb.1 (by omega) (by decide) (by decide))
  · cases h
theorem r2_mulO {i j z : Int} (h : mulO i j = some z) : R2V K (rI CMul fun i j => .int (i * j)) i j z := by
  unfold mulO at h
  split at h
  · rename_i hb
    cases h
    exact r2_I (.inl ⟨by omega, by omega⟩)
  · cases h
theorem r2_catO {xs ys zs : List α} (h : catO xs ys = some zs) : R2L K rCat xs ys zs := by
  unfold catO at h
  split at h
  · cases h
    exact r2_cat (by assumption)
  · cases h
theorem sb_appO {xs xs' : List α} (hi : sl[i]? = some (.at p)) (hj : ow[j]? = some (ol p xs)) (h : EV K F Kn0 sl ow te x) (hx : appO xs x = some xs') (ho : ow.set j (ol p xs') = ow1) (k : SN K F Kn0 sl ow1 D) :
    SB K F Kn0 sl ow D (tDrop (tBM K "list" rAppend (tVar i) (tCons te tNil))) := by
  obtain ⟨h1, rfl⟩ := appO_some hx
  subst ho
  exact sb_app hi hj h h1 k
theorem sb_appOM {xs xs' : List α} (hi : sl[i]? = some (.at p)) (hi0 : ow[j]? = some (ol p xs)) (h : EM K F Kn0 sl ow te ow1 x) (hj : ow1[j]? = some (ol p xs)) (hx : appO xs x = some xs') (ho : ow1.set j (ol p xs') = ow2) (k : SN K F Kn0 sl ow2 D) :
    SB K F Kn0 sl ow D (tDrop (tBM K "list" rAppend (tVar i) (tCons te tNil))) := by
  obtain ⟨h1, rfl⟩ := appO_some hx
  subst ho
  exact sb_appM hi hi0 h hj h1 k
theorem sb_setO {xs xs' : List α} {n : Int} (hi : sl[i]? = some (.at p)) (hj : ow[j]? = some (ol p xs)) (h : EV K F Kn0 sl ow te x) (hn : EV K F Kn0 sl ow tb n) (hx : setI xs n x = some xs') (ho : ow.set j (ol p xs') = ow1) (k : SN K F Kn0 sl ow1 D) :
    SB K F Kn0 sl ow D (tAsg te (gSub (tVar i) tb rSetL)) := by
  subst ho
  exact sb_setI hi hj h hn hx k

/-! ### lists of one's own, read -/
theorem S.borrow {σ : L2.St} {Kn H : Hp} {xs : List α} (s : S K F Kn0 sl ow σ Kn H) (hi : sl[i]? = some (.at p)) (hj : ow[j]? = some (ol p xs)) : ∃ ws, Kn p = none ∧ H p = some (.lst ws) ∧ S K F Kn0 (sl.set i (sv xs)) (ow.eraseIdx j) σ (upd Kn p (.lst ws)) H := by
  obtain ⟨o, h1, h2⟩ := s.sl.get hi
  have h2 : o = some (.ref p) := h2
  obtain ⟨f1, f2, ws, f3, f4⟩ := s.ow.each _ (List.mem_of_getElem? hj)
  have s1 := s.sub (List.eraseIdx_sublist ow j)
  have no : ∀ o ∈ ow.eraseIdx j, o.ad ≠ p := fun o hm z => by
    obtain ⟨m, hm'⟩ := List.getElem?_of_mem hm
    rw [List.getElem?_eraseIdx] at hm'
    split at hm'
    · have := ow_at s.ow.nd hm' hj z
      omega
    · have := ow_at s.ow.nd hm' hj z
      omega
  have s2 := s1.know (o := .lst ws) f1 f2 no f3
  have hσ : σ.set i o = σ := by
    refine List.ext_getElem? fun m => ?_
    by_cases e : i = m
    · subst e
      rw [List.getElem?_set_self (List.getElem?_eq_some_iff.mp h1).1, h1]
    · rw [List.getElem?_set_ne e]
  have s3 := s2.set (x := sv xs) (o := o) i ⟨.ref p, h2, p, ws, rfl, upd_same, paired_mono (Ex.new f2) f4⟩
  rw [hσ] at s3
  exact ⟨ws, f2, f3, s3⟩
theorem ev_bor {γ : Type} [Rp γ] [Fl γ] {z : γ} {xs : List α} (hi : sl[i]? = some (.at p)) (hj : ow[j]? = some (ol p xs)) (hs : sl.set i (sv xs) = sl') (ho : ow.eraseIdx j = ow1) (h : EV K F Kn0 sl' ow1 te z) : EV K F Kn0 sl ow te z := fun σ Kn H s Q q => by
  obtain ⟨ws, kp, hp, s1⟩ := s.borrow hi hj
  subst hs
  subst ho
  exact h σ _ H s1 Q fun v Kn' H' g r => q v Kn H' ⟨Ex.refl _, g.hh, s.ek.trans g.hh, fun _ _ h => h⟩ (Fl.iff.mpr (Fl.iff.mp r))
theorem et_bor {xs : List α} (hi : sl[i]? = some (.at p)) (hj : ow[j]? = some (ol p xs)) (hs : sl.set i (sv xs) = sl') (ho : ow.eraseIdx j = ow1) (h : ET K F Kn0 sl' ow1 tt b) : ET K F Kn0 sl ow tt b := fun σ Kn H s Q q => by
  obtain ⟨ws, kp, hp, s1⟩ := s.borrow hi hj
  subst hs
  subst ho
  exact h σ _ H s1 Q fun Kn' H' g => q Kn H' ⟨Ex.refl _, g.hh, s.ek.trans g.hh, fun _ _ h => h⟩
theorem ev_ixO {xs : List α} {n : Int} {z : α} (hi : sl[i]? = some (.at p)) (hj : ow[j]? = some (ol p xs)) (hn : EV K F Kn0 sl ow tb n) (hz : atI xs n = some z) : EV K F Kn0 sl ow (tOp (rIxL K) (tVar i) tb) z := fun σ Kn H s Q q => by
  obtain ⟨o, h1, h2⟩ := s.sl.get hi
  obtain ⟨f1, f2, ws, f3, f4⟩ := s.ow.each _ (List.mem_of_getElem? hj)
  refine ⟨.ref p, by rw [h1]; exact congrArg some h2, hn σ Kn H s _ fun v Kn1 H1 g1 r1 => ?_⟩
  cases r1
  obtain ⟨u, e, r⟩ := paired_atI f4 hz
  exact ⟨p, ws, n, u, rfl, rfl, sq_of (g1.hh _ _ f3), e, q u Kn1 H1 g1 (Rp.mono g1.kk r)⟩
theorem en_slO {xs : List α} {tl th : TO} {lo hi : Option Int} (hx : sl[i]? = some (.at p)) (hj : ow[j]? = some (ol p xs)) (hl : EO K F Kn0 sl ow tl lo) (hh : EO K F Kn0 sl ow th hi) : EN K F Kn0 sl ow (tSl (rSlL K) (tVar i) tl th) (cut xs lo hi) := fun σ Kn H s Q q => by
  obtain ⟨o, h1, h2⟩ := s.sl.get hx
  obtain ⟨f1, f2, ws, f3, f4⟩ := s.ow.each _ (List.mem_of_getElem? hj)
  refine ⟨.ref p, by rw [h1]; exact congrArg some h2, hl σ Kn H s _ fun Kn2 H2 g2 => hh σ Kn2 H2 (s.grow g2) _ fun Kn3 H3 g3 => ?_⟩
  have g := g2.trans g3
  exact ⟨p, ws, rfl, sq_of (g.hh _ _ f3), fun l hl => q l _ Kn3 _ (g.trans (Gr.newU g3.kh hl)) (fresh_back g.hh hl) (fresh_back g3.kh hl) upd_same (paired_cut (paired_mono g.kk f4) lo hi)⟩
end

/-! ### == -/
class Pd (α : Type) [Rp α] where
  toD : α → PyData
  dp : Nat
  isD : ∀ {K : Fg} {H : Hp} {v : V} {a : α}, rep K H v a → Dp K H v (toD a)
  dep : ∀ a, (toD a).depth ≤ dp
  eqd : ∀ a b : α, PyData.eqv (toD a) (toD b) = true ↔ a = b
class Pq (τ : Type) [Tp τ] where
  toDs : τ → List PyData
  dp : Nat
  isD : ∀ {K : Fg} {H : Hp} {vs : List V} {a : τ}, rept K H vs a → DpAll K H vs (toDs a)
  dep : ∀ a, PyData.depthAll (toDs a) ≤ dp
  eqd : ∀ a b : τ, PyData.eqvAll (toDs a) (toDs b) = true ↔ a = b
def okD {α : Type} [Rp α] [Pd α] (a : α) : Bool := (Pd.toD a).canLay0
instance : Pd Int := { toD := .int, dp := 0, isD := fun h => by cases h; exact .int _, dep := fun a => Nat.le_refl _, eqd := fun a b => by simp [PyData.eqv] }
instance : Pd Bool := { toD := .bool, dp := 0, isD := fun h => by cases h; exact .bl _, dep := fun a => Nat.le_refl _, eqd := fun a b => by simp [PyData.eqv] }
instance : Pd Str := { toD := .str, dp := 0, isD := fun h => by cases h; exact .str _, dep := fun a => Nat.le_refl _, eqd := fun a b => by simp [PyData.eqv] }
theorem eqvAll_map {α : Type} [Rp α] [Pd α] : ∀ (xs ys : List α), PyData.eqvAll (xs.map Pd.toD) (ys.map Pd.toD) = true ↔ xs = ys
  | [], [] => by simp [PyData.eqvAll]
  | [], y :: ys => by simp [PyData.eqvAll]
  | x :: xs, [] => by simp [PyData.eqvAll]
  | x :: xs, y :: ys => by
    simp only [List.map_cons, PyData.eqvAll, Bool.and_eq_true, Pd.eqd, eqvAll_map xs ys, List.cons.injEq]
theorem depthAll_map {α : Type} [Rp α] [Pd α] : ∀ (xs : List α), PyData.depthAll (xs.map Pd.toD) ≤ Pd.dp α
  | [] => Nat.zero_le _
  | x :: xs => by
    simp only [List.map_cons, PyData.depthAll]
    exact Nat.max_le.mpr ⟨Pd.dep x, depthAll_map xs⟩
theorem dpAll_of {α : Type} [Rp α] [Pd α] {K : Fg} {H : Hp} : ∀ {vs : List V} {xs : List α}, Paired (rep K H) vs xs → DpAll K H vs (xs.map Pd.toD)
  | _, _, .nil => .nil
  | _, _, .cons r t => .cons (Pd.isD r) (dpAll_of t)
instance {α : Type} [Rp α] [Pd α] : Pd (List α) where
  toD xs := .list (xs.map Pd.toD)
  dp := Pd.dp α + 1
  isD h := by
    obtain ⟨p, vs, rfl, h1, h2⟩ := h
    exact .lst (sq_of h1) (dpAll_of h2)
  dep a := by
    simp only [PyData.depth]
    exact Nat.succ_le_succ (depthAll_map a)
  eqd a b := by
    simp only [PyData.eqv]
    exact eqvAll_map a b
instance {α : Type} [Rp α] [Pd α] : Pd (Tu α) where
  toD xs := .tuple (xs.l.map Pd.toD)
  dp := Pd.dp α + 1
  isD h := by
    obtain ⟨p, vs, rfl, h1, h2⟩ := h
    exact .tup (st_of h1) (dpAll_of h2)
  dep a := by
    simp only [PyData.depth]
    exact Nat.succ_le_succ (depthAll_map a.l)
  eqd a b := by
    simp only [PyData.eqv]
    rw [eqvAll_map]
    cases a
    cases b
    simp
instance : Pq Unit where
  toDs _ := []
  dp := 0
  isD h := by cases h; exact .nil
  dep _ := Nat.le_refl _
  eqd _ _ := by simp [PyData.eqvAll]
instance {α τ : Type} [Rp α] [Tp τ] [Pd α] [Pq τ] : Pq (α × τ) where
  toDs t := Pd.toD t.1 :: Pq.toDs t.2
  dp := max (Pd.dp α) (Pq.dp τ)
  isD h := by
    obtain ⟨v, r, rfl, h1, h2⟩ := h
    exact .cons (Pd.isD h1) (Pq.isD h2)
  dep a := by
    simp only [PyData.depthAll]
    exact Nat.max_le.mpr ⟨Nat.le_trans (Pd.dep _) (Nat.le_max_left _ _), Nat.le_trans (Pq.dep _) (Nat.le_max_right _ _)⟩
  eqd a b := by
    simp only [PyData.eqvAll, Bool.and_eq_true, Pd.eqd, Pq.eqd]
    constructor
    · rintro ⟨h1, h2⟩
      exact Prod.ext h1 h2
    · rintro rfl
      exact ⟨rfl, rfl⟩
instance {α τ : Type} [Rp α] [Tp τ] [Pd α] [Pq τ] : Pd (α × τ) where
  toD t := .tuple (Pq.toDs t)
  dp := Pq.dp (α × τ) + 1
  isD h := by
    obtain ⟨p, vs, rfl, h1, h2⟩ := h
    exact .tup (st_of h1) (Pq.isD h2)
  dep a := by
    simp only [PyData.depth]
    exact Nat.succ_le_succ (Pq.dep a)
  eqd a b := by
    simp only [PyData.eqv]
    exact Pq.eqd a b
/-- the same kind on both sides -/
def eqO {α : Type} [Rp α] [Pd α] [DecidableEq α] (a b : α) : Option Bool := if (okD a && okD b && decide (Pd.dp α ≤ 64)) = true then some (decide (a = b)) else none
def neO {α : Type} [Rp α] [Pd α] [DecidableEq α] (a b : α) : Option Bool := if (okD a && okD b && decide (Pd.dp α ≤ 64)) = true then some (!decide (a = b)) else none
section
variable {K : Fg} {α : Type} [Rp α] [Pd α] [DecidableEq α]
theorem shaped_of {a : α} (h : okD a = true) (h2 : Pd.dp α ≤ 64) : SeqAt.shaped (Pd.toD a) = true := by
  unfold SeqAt.shaped
  rw [Bool.and_eq_true]
  exact ⟨h, decide_eq_true (Nat.le_trans (Pd.dep a) h2)⟩
theorem eqv_dec (a b : α) : PyData.eqv (Pd.toD a) (Pd.toD b) = decide (a = b) := by
  by_cases h : a = b
  · rw [decide_eq_true h]
    exact (Pd.eqd a b).mpr h
  · rw [decide_eq_false h]
    cases e : PyData.eqv (Pd.toD a) (Pd.toD b) with
    | false => rfl
    | true => exact absurd ((Pd.eqd a b).mp e) h
theorem dp_mono {H H' : Hp} (e : Ex H H') : ∀ {v : V} {d : PyData}, Dp K H v d → Dp K H' v d := fun h =>
  Dp.rec (motive_1 := fun v d _ => Dp K H' v d) (motive_2 := fun vs ds _ => DpAll K H' vs ds) .non .bl .int .str (fun s _ ih => .lst (ex_l e s) ih) (fun s _ ih => .tup (ex_t e s) ih) .nil (fun _ _ h1 h2 => .cons h1 h2) h
theorem r2_eqO {a b : α} {c : Bool} (h : eqO a b = some c) : R2V K (rEqD K) a b c := fun Kn H v w ek h1 h2 Q q => by
  unfold eqO at h
  split at h
  · rename_i hb
    rw [Bool.and_eq_true, Bool.and_eq_true] at hb
    cases h
    refine ⟨Pd.toD a, Pd.toD b, dp_mono ek (Pd.isD h1), dp_mono ek (Pd.isD h2), shaped_of hb.1.1 (of_decide_eq_true hb.2), shaped_of hb.1.2 (of_decide_eq_true hb.2), ?_⟩
    rw [eqv_dec]
    exact q.fl ek
  · cases h
theorem r2_neO {a b : α} {c : Bool} (h : neO a b = some c) : R2V K (rNeD K) a b c := fun Kn H v w ek h1 h2 Q q => by
  unfold neO at h
  split at h
  · rename_i hb
    rw [Bool.and_eq_true, Bool.and_eq_true] at hb
    cases h
    refine ⟨Pd.toD a, Pd.toD b, dp_mono ek (Pd.isD h1), dp_mono ek (Pd.isD h2), shaped_of hb.1.1 (of_decide_eq_true hb.2), shaped_of hb.1.2 (of_decide_eq_true hb.2), ?_⟩
    rw [eqv_dec]
    exact q.fl ek
  · cases h
/-- data without texts: always -/
class Pt (α : Type) [Rp α] [Pd α] : Prop where
  ok : ∀ a : α, okD a = true
class Pu (τ : Type) [Tp τ] [Pq τ] : Prop where
  ok : ∀ a : τ, PyData.canLayAll0 (Pq.toDs a) = true
instance : Pt Int := ⟨fun _ => rfl⟩
instance : Pt Bool := ⟨fun _ => rfl⟩
theorem canLayAll_map {α : Type} [Rp α] [Pd α] : ∀ (xs : List α), (∀ x ∈ xs, okD x = true) → PyData.canLayAll0 (xs.map Pd.toD) = true
  | [], _ => by simp [PyData.canLayAll0]
  | x :: xs, h => by
    simp only [List.map_cons, PyData.canLayAll0, Bool.and_eq_true]
    exact ⟨h x List.mem_cons_self, canLayAll_map xs fun y hy => h y (List.mem_cons_of_mem _ hy)⟩
theorem okD_list {α : Type} [Rp α] [Pd α] {xs : List α} (h : ∀ x ∈ xs, okD x = true) : okD xs = true := by
  show PyData.canLay0 (.list _) = true
  simp only [PyData.canLay0]
  exact canLayAll_map xs h
theorem okD_tu {α : Type} [Rp α] [Pd α] {xs : Tu α} (h : ∀ x ∈ xs.l, okD x = true) : okD xs = true := by
  show PyData.canLay0 (.tuple _) = true
  simp only [PyData.canLay0]
  exact canLayAll_map xs.l h
theorem okD_pair {α τ : Type} [Rp α] [Tp τ] [Pd α] [Pq τ] {t : α × τ} (h : okD t.1 = true) (h2 : PyData.canLayAll0 (Pq.toDs t.2) = true) : okD t = true := by
  show PyData.canLay0 (.tuple (Pd.toD t.1 :: Pq.toDs t.2)) = true
  simp only [PyData.canLay0, PyData.canLayAll0, Bool.and_eq_true]
  exact ⟨h, h2⟩
theorem okDs_cons {α τ : Type} [Rp α] [Tp τ] [Pd α] [Pq τ] {t : α × τ} (h : okD t.1 = true) (h2 : PyData.canLayAll0 (Pq.toDs t.2) = true) : PyData.canLayAll0 (Pq.toDs t) = true := by
  show PyData.canLayAll0 (Pd.toD t.1 :: Pq.toDs t.2) = true
  simp only [PyData.canLayAll0, Bool.and_eq_true]
  exact ⟨h, h2⟩
instance {α : Type} [Rp α] [Pd α] [Pt α] : Pt (List α) := ⟨fun _ => okD_list fun x _ => Pt.ok x⟩
instance {α : Type} [Rp α] [Pd α] [Pt α] : Pt (Tu α) := ⟨fun _ => okD_tu fun x _ => Pt.ok x⟩
instance : Pu Unit := ⟨fun _ => rfl⟩
instance {α τ : Type} [Rp α] [Tp τ] [Pd α] [Pq τ] [Pt α] [Pu τ] : Pu (α × τ) := ⟨fun _ => okDs_cons (Pt.ok _) (Pu.ok _)⟩
instance {α τ : Type} [Rp α] [Tp τ] [Pd α] [Pq τ] [Pt α] [Pu τ] : Pt (α × τ) := ⟨fun _ => okD_pair (Pt.ok _) (Pu.ok _)⟩
theorem r2_eqT [Pt α] {a b : α} (hd : Pd.dp α ≤ 64 := by decide) : R2V K (rEqD K) a b (decide (a = b)) := r2_eqO (by
  unfold eqO
  rw [Pt.ok a, Pt.ok b, decide_eq_true hd]
  rfl)
theorem r2_neT [Pt α] {a b : α} (hd : Pd.dp α ≤ 64 := by decide) : R2V K (rNeD K) a b (!decide (a = b)) := r2_neO (by
  unfold neO
  rw [Pt.ok a, Pt.ok b, decide_eq_true hd]
  rfl)
theorem eqO_ok {a b : α} (h1 : okD a = true) (h2 : okD b = true) (hd : Pd.dp α ≤ 64 := by decide) : eqO a b = some (decide (a = b)) := by
  unfold eqO
  rw [h1, h2, decide_eq_true hd]
  rfl
theorem neO_ok {a b : α} (h1 : okD a = true) (h2 : okD b = true) (hd : Pd.dp α ≤ 64 := by decide) : neO a b = some (!decide (a = b)) := by
  unfold neO
  rw [h1, h2, decide_eq_true hd]
  rfl
end

/-! ### isinstance -/
structure TyN where
  n : String
instance rpTyN : Rp TyN := { rep := fun _ _ v a => v = .ty a.n, swap := fun _ h => h }
instance : Fl TyN := { toV := fun a => V.ty a.n, iff := Iff.rfl }
class Tn (α : Type) [Rp α] where
  nm : String
  is : ∀ {K : Fg} {H : Hp} {v : V} {a : α}, rep K H v a → TyX K H v (.type nm)
instance : Tn Int := ⟨"int", fun h => by cases h; exact .base (.int _)⟩
instance : Tn Bool := ⟨"bool", fun h => by cases h; exact .base (.bl _)⟩
instance : Tn Str := ⟨"str", fun h => by cases h; exact .base (.str _)⟩
instance : Tn Nn := ⟨"NoneType", fun h => by cases h; exact .base .non⟩
instance {α : Type} [Rp α] : Tn (List α) := ⟨"list", fun h => by
  obtain ⟨p, vs, rfl, h1, _⟩ := h
  exact .base (.lst h1)⟩
instance {α : Type} [Rp α] : Tn (Tu α) := ⟨"tuple", fun h => by
  obtain ⟨p, vs, rfl, h1, _⟩ := h
  exact .base (.tup h1)⟩
instance {α τ : Type} [Rp α] [Tp τ] : Tn (α × τ) := ⟨"tuple", fun h => by
  obtain ⟨p, vs, rfl, h1, _⟩ := h
  exact .base (.tup h1)⟩
theorem rc_isi {K : Fg} {α : Type} [Rp α] [Tn α] {x : α} {n : String} {b : Bool} (h : kitB (Tn.nm α) n = some b) : RCV K (rIsi K) (x, TyN.mk n, ()) b := fun Kn H vs ek hr Q q => by
  obtain ⟨v, w, rfl, h1, h2⟩ := two_args hr
  cases h2
  refine ⟨v, .ty n, .type (Tn.nm α), .type n, b, rfl, .ty n, ?_, kit_ty h, q.fl ek⟩
  exact Tn.is (Rp.mono ek h1)

/-! ### great divisors -/
theorem r2_divW {K : Fg} {i j : Int} {b : Nat} (h : 0 < j) (hb : j.natAbs < 2 ^ b) (h0 : 0 < b) (h9 : b ≤ 9000) : R2V K (rI CDivW fun i j => .int (i / j)) i j (i / j) := r2_I (wide_div h hb h0 h9)

/-! ### sorted of whole numbers -/
def srt (xs : List Int) : List Int := xs.mergeSort fun a b => decide (a ≤ b)
theorem srt_perm (xs : List Int) : (srt xs).Perm xs := List.mergeSort_perm xs _
theorem srt_pw (xs : List Int) : (srt xs).Pairwise (· ≤ ·) := by
  have h := List.pairwise_mergeSort (le := fun a b => decide (a ≤ b)) (fun a b c h1 h2 => by
    have h1 := of_decide_eq_true h1
    have h2 := of_decide_eq_true h2
    exact decide_eq_true (by omega)) (fun a b => by
    rcases Int.le_total a b with h | h
    · rw [decide_eq_true h]; rfl
    · rw [decide_eq_true h]; exact Bool.or_true _) xs
  exact h.imp fun h => of_decide_eq_true h
theorem srt_one {xs ys : List Int} (p : ys.Perm xs) (s : ys.Pairwise (· ≤ ·)) : ys = srt xs :=
  List.Perm.eq_of_pairwise (le := fun a b : Int => a ≤ b) (fun a b _ _ h1 h2 => Int.le_antisymm h1 h2) s (srt_pw xs) (p.trans (srt_perm xs).symm)
theorem rc_sorted {K : Fg} {xs : List Int} : RCL K (rSortedI K) (xs, ()) (srt xs) := fun Kn H vs ek h Q q => by
  obtain ⟨v, rfl, p, ws, rfl, h1, h2⟩ := one_arg h
  have e := paired_fl h2
  subst e
  refine ⟨p, xs, rfl, sq_of (ek _ _ h1), fun ns' l pm pw hl => ?_⟩
  rw [srt_one pm pw]
  exact q l _ Kn _ (Gr.newU ek hl) hl (fresh_back ek hl) upd_same (fl_paired (srt xs))
end Wk

namespace Wk
open PySem PySem.Spec L2 Evl
section
variable {K : Fg} {F Kn0 : Hp} {sl sl' : List Sl} {ow ow0 ow1 ow2 : List Ow} {α β γ τ : Type} [Rp α] [Rp β] [Rp γ] [Tp τ] {ta tb te : TE} {x : α} {D : Ends} {t u tz : TS} {tt : TT} {b : Bool} {i j : Nat} {p : Addr}
theorem ev_int (n : Int) : EV K F Kn0 sl ow (tC (.int n)) n := ev_c n
theorem ev_bool (n : Bool) : EV K F Kn0 sl ow (tC (.bl n)) n := ev_c n
theorem ev_str (n : Str) : EV K F Kn0 sl ow (tC (.str n)) n := ev_c n
theorem ev_nn : EV K F Kn0 sl ow (tC .non) Nn.nn := ev_c Nn.nn
theorem ev_ty (n : String) : EV K F Kn0 sl ow (tC (.ty n)) (TyN.mk n) := ev_c (TyN.mk n)
variable {m n : Int}
theorem r2_add : R2V K (rI0 fun i j => .int (i + j)) m n (m + n) := r2_I0
theorem r2_sub : R2V K (rI0 fun i j => .int (i - j)) m n (m - n) := r2_I0
theorem r2_lt : R2V K (rI0 fun i j => .bl (decide (i < j))) m n (decide (m < n)) := r2_I0
theorem r2_le : R2V K (rI0 fun i j => .bl (decide (i ≤ j))) m n (decide (m ≤ n)) := r2_I0
theorem r2_gt : R2V K (rI0 fun i j => .bl (decide (j < i))) m n (decide (n < m)) := r2_I0
theorem r2_ge : R2V K (rI0 fun i j => .bl (decide (j ≤ i))) m n (decide (n ≤ m)) := r2_I0
theorem r2_mod (h : 0 < n := by decide) : R2V K (rI (fun _ j => 0 < j) fun i j => .int (i % j)) m n (m % n) := r2_I h
theorem r2_div (h : 0 < n ∧ n < 1073741824 := by decide) : R2V K (rI CDiv fun i j => .int (i / j)) m n (m / n) := r2_I h
theorem r2_mulr (h : -18446744073709551616 < n ∧ n < 18446744073709551616 := by decide) : R2V K (rI CMul fun i j => .int (i * j)) m n (m * n) := r2_I (.inr ⟨by omega, by omega⟩)
theorem r2_mull (h : -18446744073709551616 < m ∧ m < 18446744073709551616 := by decide) : R2V K (rI CMul fun i j => .int (i * j)) m n (m * n) := r2_I (.inl ⟨by omega, by omega⟩)
theorem r2_divw (h : 0 < n ∧ n < 18446744073709551616 := by decide) : R2V K (rI CDivW fun i j => .int (i / j)) m n (m / n) := r2_divW h.1 (b := 64) (by omega) (by decide) (by decide)
theorem r2_pow {r : Int} (h : 0 ≤ n ∧ n ≤ 1000000 ∧ m.natAbs < 18446744073709551616 := by decide) (e : m ^ n.toNat = r := by decide) : R2V K (rI CPow fun i j => .int (i ^ j.toNat)) m n r := e ▸ r2_I ⟨h.1, h.2.1, by omega⟩
theorem EN.cast {xs ys : List α} (h : EN K F Kn0 sl ow te xs) (e : xs = ys) : EN K F Kn0 sl ow te ys := e ▸ h
theorem EM.cast {y : α} (h : EM K F Kn0 sl ow te ow1 x) (e : x = y) : EM K F Kn0 sl ow te ow1 y := e ▸ h
theorem ENM.cast {xs ys : List α} (h : ENM K F Kn0 sl ow te ow1 xs) (e : xs = ys) : ENM K F Kn0 sl ow te ow1 ys := e ▸ h
theorem SB.is (h1 : sl = sl') (h2 : ow = ow1) (h : SB K F Kn0 sl' ow1 D t) : SB K F Kn0 sl ow D t := by subst h1; subst h2; exact h
theorem EV.is (h1 : sl = sl') (h : EV K F Kn0 sl' ow te x) : EV K F Kn0 sl ow te x := by subst h1; exact h
theorem EM.is (h1 : sl = sl') (h2 : ow = ow2) (h3 : ow1 = ow0) (h : EM K F Kn0 sl' ow2 te ow0 x) : EM K F Kn0 sl ow te ow1 x := by subst h1; subst h2; subst h3; exact h
theorem ET.is (h1 : sl = sl') (h : ET K F Kn0 sl' ow tt b) : ET K F Kn0 sl ow tt b := by subst h1; exact h
theorem ite_t {γ : Type} {b : Bool} {A B : Option γ} {r : γ} (hb : b = true) (h : (if b = true then A else B) = some r) : A = some r := by rw [if_pos hb] at h; exact h
theorem ite_f {γ : Type} {b : Bool} {A B : Option γ} {r : γ} (hb : b = false) (h : (if b = true then A else B) = some r) : B = some r := by rw [if_neg (by rw [hb]; exact Bool.false_ne_true)] at h; exact h
def anyAt (sl : List Sl) (vs : List Nat) : Bool := vs.all fun j => match sl[j]? with
  | some .any => true
  | _ => false
theorem anyAt_of {sl : List Sl} {vs : List Nat} (h : anyAt sl vs = true) : ∀ j ∈ vs, sl[j]? = some .any := fun j hj => by
  have q := List.all_eq_true.mp h j hj
  cases e : sl[j]? with
  | none => rw [e] at q; cases q
  | some s =>
    rw [e] at q
    cases s with
    | any => rfl
    | val _ _ _ => cases q
    | «at» _ => cases q
theorem sub_of {js vs : List Nat} (h : (js.all fun j => vs.contains j) = true) : ∀ j ∈ js, j ∈ vs := fun j hj => by
  have q := List.all_eq_true.mp h j hj
  simpa using q
theorem sn_end {R : VK} (q : RT K F Kn0 ow0 R Nn.nn) (hd : ∀ σ H, R .non H → D.nx σ H) (l : ow0.Sublist ow) : SN K F Kn0 sl ow D := fun σ Kn H s => hd σ H (q _ Kn H (s.sub l).fin rfl)
def EOM (K : Fg) (F Kn0 : Hp) (sl : List Sl) (ow : List Ow) (to : TO) (ow' : List Ow) (o : Option Int) : Prop := ∀ σ Kn H, S K F Kn0 sl ow σ Kn H → ∀ Q : Option Int → Hp → Prop, (∀ Kn' H', Ex Kn Kn' → S K F Kn0 sl ow' σ Kn' H' → Q o H') → to σ H Q
theorem EO.eom {to : TO} {o : Option Int} (h : EO K F Kn0 sl ow to o) : EOM K F Kn0 sl ow to ow o := fun σ Kn H s Q q => h σ Kn H s Q fun Kn' H' g => q Kn' H' g.kk (s.grow g)
theorem eom_some {i : Int} (h : EM K F Kn0 sl ow te ow1 i) : EOM K F Kn0 sl ow (tPart te) ow1 (some i) := fun σ Kn H s Q q => h σ Kn H s _ fun v Kn1 H1 e1 s1 r1 => ⟨i, r1, q Kn1 H1 e1 s1⟩
theorem enm_sl {ow3 : List Ow} {xs : List α} {tl th : TO} {lo hi : Option Int} (h : EM K F Kn0 sl ow te ow1 xs) (hl : EOM K F Kn0 sl ow1 tl ow2 lo) (hh : EOM K F Kn0 sl ow2 th ow3 hi) : ENM K F Kn0 sl ow (tSl (rSlL K) te tl th) ow3 (cut xs lo hi) := fun σ Kn H s Q q =>
  h σ Kn H s _ fun v Kn1 H1 e1 s1 r1 => hl σ Kn1 H1 s1 _ fun Kn2 H2 e2 s2 => hh σ Kn2 H2 s2 _ fun Kn3 H3 e3 s3 => by
    obtain ⟨p, ws, rfl, h3, h4⟩ := r1
    have e13 : Ex Kn1 Kn3 := e2.trans e3
    exact ⟨p, ws, rfl, sq_of (s3.ek _ _ (e13 _ _ h3)), fun l hl => q l _ Kn3 _ (e1.trans e13) (s3.grow (Gr.newU s3.ek hl)) (fresh_back s3.ef hl) (fresh_back s3.ek hl) (owned_ne s3 hl) upd_same (paired_cut (paired_mono e13 h4) lo hi)⟩
/-- the entry of a def -/
theorem enter {σ : L2.St} {Kn H : Hp} {D : Ends} {t : TS} (ek : Ex Kn H) (hs : SlsOk K Kn sl σ) (h : SB K H Kn sl [] D t) : t D σ H := h σ Kn H ⟨Ex.refl _, ek, Ex.refl _, fun _ _ h => h, hs, ⟨(fun _ h => nomatch h), List.nodup_nil⟩⟩
theorem rt_of {H Kn : Hp} {r : α} {Q : VK} (q : RS K Kn H Q r) : RT K H Kn [] Q r := fun v Kn' H' s rv => q v Kn' H' ⟨s.e0, s.ef, s.ek, s.sep⟩ rv
theorem rn_of {H Kn : Hp} {r : List α} {Q : VK} (q : RL K Kn H Q r) : RN K H Kn [] Q r := fun p ws Kn' H' s fp kp hw rv => q p ws Kn' H' ⟨s.e0, s.ef, s.ek, s.sep⟩ fp kp hw rv
/-- all but p -/
def but (H : Hp) (p : Addr) : Hp := fun a => if a = p then none else H a
theorem enterM {σ : L2.St} {Kn H : Hp} {D : Ends} {t : TS} {p : Addr} {ws : List V} {xs : List α} (ek : Ex Kn H) (kp : Kn p = none) (hp : H p = some (.lst ws)) (r : Paired (rep K Kn) ws xs) (hs : SlsOk K Kn sl σ) (h : SB K (but H p) Kn sl [ol p xs] D t) : t D σ H :=
  h σ Kn H ⟨Ex.refl _, ek, fun a u e => by
    unfold but at e
    split at e
    · cases e
    · exact e, fun _ _ h => h, hs, ⟨fun o ho => by
      cases List.mem_singleton.mp ho
      exact ⟨if_pos rfl, kp, ws, hp, r⟩, List.nodup_cons.mpr ⟨(fun h => nomatch h), List.nodup_nil⟩⟩⟩
theorem rt_ofM {H Kn : Hp} {r : β} {p : Addr} {xs' : List α} {Q : VK} (kp : Kn p = none) (q : ∀ v Kn' H' ws', Ex Kn Kn' → Ex Kn' H' → (∀ q, q ≠ p → H q ≠ none → H' q = H q) → (∀ q, H q ≠ none → Kn q = none → Kn' q = none) → H' p = some (.lst ws') → Paired (rep K Kn') ws' xs' → rep K Kn' v r → Q v H') :
    RT K (but H p) Kn [ol p xs'] Q r := fun v Kn' H' s rv => by
  obtain ⟨_, k1, ws, h1, h2⟩ := s.ow.each (ol p xs') List.mem_cons_self
  refine q v Kn' H' ws s.e0 s.ek (fun a ha hn => ?_) (fun a hn hk => ?_) h1 h2 rv
  · have e : but H p a = H a := if_neg ha
    exact (Ex.at_eq s.ef (by rw [e]; exact hn)).trans e
  · by_cases ha : a = p
    · subst ha
      exact k1
    · exact s.sep a (by unfold but; rw [if_neg ha]; exact hn) hk
end
end Wk

/-! ### rules whose readings name K itself (within comprehensions) -/
namespace Wk
open PySem PySem.Spec L2 Evl
section
variable {X : Cx} {K : Fg}
theorem k_isi (h : X.K = K := by rfl) : CallR X (.builtin "isinstance") (rIsi K) := h ▸ call_isi
theorem k_len (h : X.K = K := by rfl) : CallR X (.builtin "len") (fun xs H Q => ∃ p ys, xs = [.ref p] ∧ (SqL K H p ys ∨ SqT K H p ys) ∧ Q (.int ys.length) H) := h ▸ call_len_seq
theorem k_list (h : X.K = K := by rfl) : CallR X (.type "list") (fun xs H Q => ∃ p ys, xs = [.ref p] ∧ (SqL K H p ys ∨ SqT K H p ys) ∧ ∀ l, H l = none → Q (.ref l) (upd H l (.lst ys))) := h ▸ call_list_of
theorem k_tuple (h : X.K = K := by rfl) : CallR X (.type "tuple") (fun xs H Q => ∃ p ys, xs = [.ref p] ∧ ((SqL K H p ys ∧ ∀ l, H l = none → Q (.ref l) (upd H l (.tup ys))) ∨ (SqT K H p ys ∧ Q (.ref p) H))) := h ▸ call_tuple_of
theorem k_sum (hc : X.calm = true := by rfl) (h : X.K = K := by rfl) : CallR X (.builtin "sum") (rSum K) := h ▸ cr_sum hc
theorem k_any (hc : X.calm = true := by rfl) (h : X.K = K := by rfl) : CallR X (.builtin "any") (rAny K) := h ▸ cr_any hc
theorem k_all (hc : X.calm = true := by rfl) (h : X.K = K := by rfl) : CallR X (.builtin "all") (rAll K) := h ▸ cr_all hc
theorem k_max2 (hc : X.calm = true := by rfl) : CallR X (.builtin "max") (fun xs H Q => ∃ i j, xs = [.int i, .int j] ∧ Q (.int (if j > i then j else i)) H) := call_max2 hc
theorem k_min2 (hc : X.calm = true := by rfl) : CallR X (.builtin "min") (fun xs H Q => ∃ i j, xs = [.int i, .int j] ∧ Q (.int (if j < i then j else i)) H) := call_min2 hc
theorem k_sorted (h : X.K = K := by rfl) : CallR X (.builtin "sorted") (rSortedI K) := h ▸ cr_sortedI
theorem k_ixl (h : X.K = K := by rfl) : IxR X (rIxL K) := h ▸ ix_list
theorem k_ixt (h : X.K = K := by rfl) : IxR X (rIxT K) := h ▸ ix_tup
theorem k_sll (h : X.K = K := by rfl) : SlR X (rSlL K) := h ▸ sl_list
theorem k_eqD (hu : X.A.units + 64 < cLine) (h : X.K = K := by rfl) : OpR X (compareOp .Eq) (rEqD K) := h ▸ op_eqD hu
theorem k_neD (hu : X.A.units + 64 < cLine) (h : X.K = K := by rfl) : OpR X (compareOp .NotEq) (rNeD K) := h ▸ op_neD hu
theorem k_in (h : X.K = K := by rfl) : OpR X (compareOp .In) (rIn K false) := h ▸ op_in_seq
theorem k_notIn (h : X.K = K := by rfl) : OpR X (compareOp .NotIn) (rIn K true) := h ▸ op_notIn_seq
theorem kpg_tup {es : List Expr} {k : Nat} {t : TGs} {n : Nat} {pos : Pos} (hs : PGs X es t) (hc : X.calm = true := by rfl) (h : X.K = K := by rfl)
    (hn : (assignEach es X.env).length = n := by rfl) (hst : (assignEach es X.env).findIdx? (·.1) = none := by rfl) : PG X (.Tuple es k pos) (gTup K n t) := h ▸ pg_tup hc hs hn hst
theorem kpi_list {tg e : Expr} {te : TE} (he : PE X e te) (h : X.K = K := by rfl) : PI X tg e (iList K te) := h ▸ pi_list he
theorem kpi_tup {tg e : Expr} {te : TE} (he : PE X e te) (h : X.K = K := by rfl) : PI X tg e (iTup K te) := h ▸ pi_tup he
theorem kpt_truth {a : Expr} {ta : TE} (ha : PE X a ta) (he : ∀ whole, isTrue a X.env whole = (do let v ← whole; standAt a.pos; holding [v] (truthy v)) := by intro _; rfl) (h : X.K = K := by rfl) : PT X a (fun σ H Q => ta σ H fun x H' => ∃ k, TruV K x H' k ∧ Q k H') := h ▸ pt_truth ha he
end
end Wk
/-! Wk5: in, lists made longer, texts, chains, tuples put together -/
namespace Wk
open PySem PySem.Spec L2 Evl
class Fe (α : Type) [Rp α] [Fl α] [DecidableEq α] : Prop where
  flat : ∀ a : α, flatV (Fl.toV a) = true
  eq : ∀ a b : α, eqV (Fl.toV a) (Fl.toV b) = decide (a = b)
instance : Fe Int := ⟨fun _ => rfl, fun a b => by show (a == b) = decide (a = b); by_cases h : a = b <;> simp [h]⟩
instance : Fe Str := ⟨fun _ => rfl, fun a b => by show (a == b) = decide (a = b); by_cases h : a = b <;> simp [h]⟩
def repO {α : Type} (xs : List α) (k : Int) : Option (List α) := if -1000000000 ≤ k ∧ k ≤ 1000000000 ∧ xs.length * k.toNat ≤ 1000000 then some (List.replicate k.toNat xs).flatten else none
def addS (x y : Str) : Option Str := if x.length + y.length ≤ 1000000 then some (x ++ y) else none
def lenS (x : Str) : Option Int := if x.length ≤ 1000000 then some (x.length : Int) else none
def joinO (a : Str) (ys : List Str) : Option Str := if (ys.map (·.length)).sum + ys.length * a.length ≤ 1000000 then some (Txt.join a ys) else none
def powO (i j : Int) : Option Int := if 0 ≤ j ∧ j ≤ 1000000 ∧ i.natAbs < 18446744073709551616 then some (i ^ j.toNat) else none
section
variable {K : Fg} {F Kn0 : Hp} {sl sl' : List Sl} {ow ow0 ow1 ow2 : List Ow} {α β γ τ : Type} [Rp α] [Rp β] [Rp γ] [Tp τ] {ta tb tc te : TE} {x : α} {y : β} {z : γ} {D : Ends} {t u tz : TS} {tt : TT} {a b : Bool} {i j : Nat} {p : Addr}
theorem any_mem {α : Type} [Rp α] [Fl α] [DecidableEq α] [Fe α] (x : α) : ∀ xs : List α, inV (Fl.toV x) (xs.map Fl.toV) = decide (x ∈ xs)
  | [] => by simp [inV]
  | y :: ys => by
    have ih := any_mem x ys
    unfold inV at ih ⊢
    rw [List.map_cons, List.any_cons, ih, Fe.eq]
    by_cases h : y = x
    · subst h
      simp
    · have h' : ¬ x = y := fun e => h e.symm
      simp [h, h']
theorem all_flat {α : Type} [Rp α] [Fl α] [DecidableEq α] [Fe α] : ∀ xs : List α, (xs.map Fl.toV).all flatV = true
  | [] => rfl
  | y :: ys => by
    rw [List.map_cons, List.all_cons, Fe.flat, all_flat ys]
    rfl
theorem r2_in {α : Type} [Rp α] [Fl α] [DecidableEq α] [Fe α] {x : α} {xs : List α} : R2V K (rIn K false) x xs (decide (x ∈ xs)) := fun Kn H v w ek h1 h2 Q q => by
  obtain ⟨p, ws, rfl, h3, h4⟩ := h2
  have e := paired_fl h4
  subst e
  rw [Fl.iff.mp h1]
  refine ⟨p, _, rfl, .inl (sq_of (ek _ _ h3)), Fe.flat x, all_flat xs, ?_⟩
  rw [any_mem]
  exact q.fl ek
theorem r2_notIn {α : Type} [Rp α] [Fl α] [DecidableEq α] [Fe α] {x : α} {xs : List α} : R2V K (rIn K true) x xs (!decide (x ∈ xs)) := fun Kn H v w ek h1 h2 Q q => by
  obtain ⟨p, ws, rfl, h3, h4⟩ := h2
  have e := paired_fl h4
  subst e
  rw [Fl.iff.mp h1]
  refine ⟨p, _, rfl, .inl (sq_of (ek _ _ h3)), Fe.flat x, all_flat xs, ?_⟩
  rw [any_mem]
  exact q.fl ek
theorem r2_inU {α : Type} [Rp α] [Fl α] [DecidableEq α] [Fe α] {x : α} {xs : Tu α} : R2V K (rIn K false) x xs (decide (x ∈ xs.l)) := fun Kn H v w ek h1 h2 Q q => by
  obtain ⟨p, ws, rfl, h3, h4⟩ := h2
  have e := paired_fl h4
  subst e
  rw [Fl.iff.mp h1]
  refine ⟨p, _, rfl, .inr (st_of (ek _ _ h3)), Fe.flat x, all_flat xs.l, ?_⟩
  rw [any_mem]
  exact q.fl ek
theorem r2_notInU {α : Type} [Rp α] [Fl α] [DecidableEq α] [Fe α] {x : α} {xs : Tu α} : R2V K (rIn K true) x xs (!decide (x ∈ xs.l)) := fun Kn H v w ek h1 h2 Q q => by
  obtain ⟨p, ws, rfl, h3, h4⟩ := h2
  have e := paired_fl h4
  subst e
  rw [Fl.iff.mp h1]
  refine ⟨p, _, rfl, .inr (st_of (ek _ _ h3)), Fe.flat x, all_flat xs.l, ?_⟩
  rw [any_mem]
  exact q.fl ek
theorem paired_rep {F : V → α → Prop} {vs : List V} {xs : List α} (h : Paired F vs xs) : ∀ n : Nat, Paired F (List.replicate n vs).flatten (List.replicate n xs).flatten
  | 0 => .nil
  | n + 1 => by
    rw [List.replicate_succ, List.replicate_succ, List.flatten_cons, List.flatten_cons]
    exact paired_append h (paired_rep h n)
theorem r2_repO {xs zs : List α} {k : Int} (h : repO xs k = some zs) : R2L K rRep xs k zs := fun Kn H v w ek h1 h2 Q q => by
  unfold repO at h
  split at h
  · rename_i hb
    cases h
    obtain ⟨p, ws, rfl, h3, h4⟩ := h1
    cases h2
    refine ⟨p, k, ws, rfl, rfl, ek _ _ h3, by omega, by omega, by rw [paired_len h4]; exact le_line hb.2.2, fun l hl => q l _ Kn _ (Gr.newU ek hl) hl (fresh_back ek hl) upd_same (paired_rep h4 _)⟩
  · cases h
theorem r2_addS {x y z : Str} (h : addS x y = some z) : R2V K (fun x y H Q => ∃ i j, x = .str i ∧ y = .str j ∧ i.length + j.length ≤ sizeLine ∧ Q (.str (i ++ j)) H) x y z := fun Kn H v w ek h1 h2 Q q => by
  unfold addS at h
  split at h
  · rename_i hb
    cases h
    exact ⟨x, y, h1, h2, le_line hb, q.fl ek⟩
  · cases h
theorem rc_lenS {x : Str} {z : Int} (h : lenS x = some z) : RCV K (fun xs H Q => ∃ z, xs = [.str z] ∧ z.length ≤ sizeLine ∧ Q (.int z.length) H) (x, ()) z := fun Kn H vs ek hr Q q => by
  obtain ⟨v, rfl, h1⟩ := one_arg hr
  cases h1
  unfold lenS at h
  split at h
  · rename_i hb
    cases h
    exact ⟨x, rfl, le_line hb, q.fl ek⟩
  · cases h
theorem ev_joinO {s : Str} {ys : List Str} {z : Str} (ha : EV K F Kn0 sl ow ta s) (hb : EV K F Kn0 sl ow tb ys) (h : joinO s ys = some z) :
    EV K F Kn0 sl ow (tM1 (fun x xs H Q => ∃ a p, ∃ ys : List Str, x = .str a ∧ xs = [.ref p] ∧ (SqL K H p (ys.map V.str) ∨ SqT K H p (ys.map V.str)) ∧ (ys.map (·.length)).sum + ys.length * a.length ≤ 16777216 ∧ Q (.str (Txt.join a ys)) H) ta tb) z := fun σ Kn H s' Q q =>
  ha σ Kn H s' _ fun v Kn1 H1 g1 r1 => by
    cases r1
    refine ⟨⟨s, rfl⟩, hb σ Kn1 H1 (s'.grow g1) _ fun w Kn2 H2 g2 r2 => ?_⟩
    obtain ⟨p, ws, rfl, h3, h4⟩ := r2
    have e := paired_fl h4
    subst e
    unfold joinO at h
    split at h
    · rename_i hz
      cases h
      exact ⟨s, p, ys, rfl, rfl, .inl (sq_of (g2.kh _ _ h3)), by omega, q _ Kn2 H2 (g1.trans g2) rfl⟩
    · cases h
theorem rc_intB {x : Bool} : RCV K (fun xs H Q => (∃ i, xs = [.int i] ∧ Q (.int i) H) ∨ ∃ k, xs = [.bl k] ∧ Q (.int (if k then 1 else 0)) H) (x, ()) (if x = true then (1 : Int) else 0) := fun Kn H vs ek hr Q q => by
  obtain ⟨v, rfl, h1⟩ := one_arg hr
  cases h1
  exact .inr ⟨x, rfl, q.fl ek⟩
theorem rc_intI {x : Int} : RCV K (fun xs H Q => (∃ i, xs = [.int i] ∧ Q (.int i) H) ∨ ∃ k, xs = [.bl k] ∧ Q (.int (if k then 1 else 0)) H) (x, ()) x := fun Kn H vs ek hr Q q => by
  obtain ⟨v, rfl, h1⟩ := one_arg hr
  cases h1
  exact .inl ⟨x, rfl, q.fl ek⟩
theorem r2_powO {i j z : Int} (h : powO i j = some z) : R2V K (rI CPow fun i j => .int (i ^ j.toNat)) i j z := by
  unfold powO at h
  split at h
  · rename_i hb
    cases h
    exact r2_I ⟨hb.1, hb.2.1, by omega⟩
  · cases h
/-- x < y < z -/
theorem ev_chain {r r' : R2} (ha : EV K F Kn0 sl ow ta x) (hb : EV K F Kn0 sl ow tb y) (hr : R2V K r x y a) (hc : EV K F Kn0 sl ow tc z) (hr' : R2V K r' y z b) : EV K F Kn0 sl ow (tChain r r' ta tb tc) (a && b) := fun σ Kn H s Q q =>
  ha σ Kn H s _ fun v Kn1 H1 g1 r1 => hb σ Kn1 H1 (s.grow g1) _ fun w Kn2 H2 g2 r2 => hr Kn2 H2 v w g2.kh (Rp.mono g2.kk r1) r2 _ fun u Kn3 H3 g3 r3 => by
    refine ⟨a, r3, ?_⟩
    cases a with
    | true => exact iteT (hc σ Kn3 H3 (((s.grow g1).grow g2).grow g3) _ fun v4 Kn4 H4 g4 r4 => hr' Kn4 H4 w v4 g4.kh (Rp.mono (g3.kk.trans g4.kk) r2) r4 Q fun u5 Kn5 H5 g5 r5 => q u5 Kn5 H5 ((((g1.trans g2).trans g3).trans g4).trans g5) r5)
    | false => exact iteF (q _ Kn3 H3 ((g1.trans g2).trans g3) rfl)
/-- t3 is t1 and t2 put together -/
inductive Ap : {τ1 τ2 τ3 : Type} → [Tp τ1] → [Tp τ2] → [Tp τ3] → τ1 → τ2 → τ3 → Prop
  | z {τ : Type} [Tp τ] (t : τ) : Ap () t t
  | s {α τ1 τ2 τ3 : Type} [Rp α] [Tp τ1] [Tp τ2] [Tp τ3] (x : α) {t1 : τ1} {t2 : τ2} {t3 : τ3} : Ap t1 t2 t3 → Ap (x, t1) t2 (x, t3)
theorem Ap.rept {K : Fg} {H : Hp} {τ1 τ2 τ3 : Type} [i1 : Tp τ1] [i2 : Tp τ2] [i3 : Tp τ3] {t1 : τ1} {t2 : τ2} {t3 : τ3} (h : Ap t1 t2 t3) : ∀ {vs ws : List V}, Wk.rept K H vs t1 → Wk.rept K H ws t2 → Wk.rept K H (vs ++ ws) t3 := by
  induction h with
  | z t =>
    intro vs ws h1 h2
    cases h1
    exact h2
  | s x _ ih =>
    intro vs ws h1 h2
    obtain ⟨v, r, rfl, h3, h4⟩ := h1
    exact ⟨v, r ++ ws, rfl, h3, ih h4 h2⟩
theorem r2_catA {α1 τ1 α2 τ2 α3 τ3 : Type} [Rp α1] [Tp τ1] [Rp α2] [Tp τ2] [Rp α3] [Tp τ3] {t1 : α1 × τ1} {t2 : α2 × τ2} {t3 : α3 × τ3} (h : Ap t1 t2 t3) (hn : Tp.n (α1 × τ1) + Tp.n (α2 × τ2) ≤ 1000 := by decide) : R2V K (rCatA K) t1 t2 t3 := fun Kn H v w ek h1 h2 Q q => by
  obtain ⟨p, vs, rfl, h3, h4⟩ := h1
  obtain ⟨p2, ws, rfl, h5, h6⟩ := h2
  have n1 : vs ≠ [] := by
    obtain ⟨_, _, rfl, _⟩ := h4
    simp
  have n2 : ws ≠ [] := by
    obtain ⟨_, _, rfl, _⟩ := h6
    simp
  refine ⟨p, p2, vs, ws, rfl, rfl, st_of (ek _ _ h3), st_of (ek _ _ h5), ?_, fun e => absurd e n1, fun _ e => absurd e n2, fun _ _ l hl => ?_⟩
  · rw [Tp.len h4, Tp.len h6]
    exact le_line (by omega)
  · exact q _ (upd Kn l (.tup (vs ++ ws))) _ (Gr.new ek hl) ⟨l, _, rfl, upd_same, h.rept (Tp.mono (Gr.new ek hl).kk h4) (Tp.mono (Gr.new ek hl).kk h6)⟩
/-- found.clear() -/
theorem sb_clr {xs : List α} (hi : sl[i]? = some (.at p)) (hj : ow[j]? = some (ol p xs)) (ho : ow.set j (ol p ([] : List α)) = ow1) (k : SN K F Kn0 sl ow1 D) : SB K F Kn0 sl ow D (tDrop (tBM0 K "list" rClear (tVar i))) := fun σ Kn H s => by
  obtain ⟨o, h1, h2⟩ := s.sl.get hi
  obtain ⟨f1, f2, ws, f3, f4⟩ := s.ow.each _ (List.mem_of_getElem? hj)
  subst ho
  refine ⟨.ref p, by rw [h1]; exact congrArg some h2, Or.inl ⟨rfl, ws, sq_of f3⟩, p, ws, rfl, rfl, f3, k _ Kn _ ?_⟩
  exact s.write hj (Ex.refl _) (upd_in s.ek f2) (fun q hq _ => upd_ne hq) (fun _ _ h => h) upd_same .nil
theorem en_listO {xs : List α} (hi : sl[i]? = some (.at p)) (hj : ow[j]? = some (ol p xs)) : EN K F Kn0 sl ow (tCB (fun xs H Q => ∃ p ys, xs = [.ref p] ∧ (SqL K H p ys ∨ SqT K H p ys) ∧ ∀ l, H l = none → Q (.ref l) (upd H l (.lst ys))) (tCons (tVar i) tNil)) xs := fun σ Kn H s Q q => by
  obtain ⟨o, h1, h2⟩ := s.sl.get hi
  obtain ⟨f1, f2, ws, f3, f4⟩ := s.ow.each _ (List.mem_of_getElem? hj)
  exact ⟨.ref p, by rw [h1]; exact congrArg some h2, p, ws, rfl, .inl (sq_of f3), fun l hl => q l ws Kn _ (Gr.newU s.ek hl) hl (fresh_back s.ek hl) upd_same f4⟩
/-- a test that changes something on its way -/
def ETM (K : Fg) (F Kn0 : Hp) (sl : List Sl) (ow : List Ow) (tt : TT) (ow' : List Ow) (b : Bool) : Prop := ∀ σ Kn H, S K F Kn0 sl ow σ Kn H → ∀ Q : Bool → Hp → Prop, (∀ Kn' H', Ex Kn Kn' → S K F Kn0 sl ow' σ Kn' H' → Q b H') → tt σ H Q
theorem ET.etm (h : ET K F Kn0 sl ow tt b) : ETM K F Kn0 sl ow tt ow b := fun σ Kn H s Q q => h σ Kn H s Q fun Kn' H' g => q Kn' H' g.kk (s.grow g)
theorem etm_test (h : EM K F Kn0 sl ow te ow1 b) : ETM K F Kn0 sl ow (tTest te) ow1 b := fun σ Kn H s Q q => h σ Kn H s _ fun v Kn' H' e s' r => ⟨b, r, q Kn' H' e s'⟩
theorem etm_and {t u : TT} (h1 : ETM K F Kn0 sl ow t ow1 a) (h2 : a = true → ET K F Kn0 sl ow1 u b) : ETM K F Kn0 sl ow (tAnd t u) ow1 (a && b) := fun σ Kn H s Q q => h1 σ Kn H s _ fun Kn1 H1 e1 s1 => by
  cases a with
  | true => exact iteT (h2 rfl σ Kn1 H1 s1 Q fun Kn2 H2 g2 => q Kn2 H2 (e1.trans g2.kk) (s1.grow g2))
  | false => exact iteF (q Kn1 H1 e1 s1)
theorem etm_or {t u : TT} (h1 : ETM K F Kn0 sl ow t ow1 a) (h2 : a = false → ET K F Kn0 sl ow1 u b) : ETM K F Kn0 sl ow (tOr t u) ow1 (a || b) := fun σ Kn H s Q q => h1 σ Kn H s _ fun Kn1 H1 e1 s1 => by
  cases a with
  | true => exact iteT (q Kn1 H1 e1 s1)
  | false => exact iteF (h2 rfl σ Kn1 H1 s1 Q fun Kn2 H2 g2 => q Kn2 H2 (e1.trans g2.kk) (s1.grow g2))
theorem sb_ifM {t u : TS} (h : ETM K F Kn0 sl ow tt ow1 b) (h1 : b = true → SB K F Kn0 sl ow1 D t) (h2 : b = false → SB K F Kn0 sl ow1 D u) : SB K F Kn0 sl ow D (tIfS tt t u) := fun σ Kn H s => h σ Kn H s _ fun Kn1 H1 e1 s1 => by
  cases b with
  | true => exact iteT (h1 rfl σ Kn1 H1 s1)
  | false => exact iteF (h2 rfl σ Kn1 H1 s1)
end
section
variable {X : Cx} {K : Fg}
theorem k_catA (h : X.K = K := by rfl) : OpR X (binaryOp .Add) (rCatA K) := h ▸ op_catA
theorem k_join {to te : TE} {o e : Expr} {apos pos : Pos} (ho : PE X o to) (he : PE X e te) (hs : starEach [e] X.env = [(false, eval e X.env)] := by rfl) (hbase : attributeBase o "join" X.env (eval o X.env) = eval o X.env := by rfl) (hline : (apos.endLine == pos.line) = true := by rfl) (h : X.K = K := by rfl) :
    PE X (.Call (.Attribute o "join" apos) [e] [] pos) (tM1 (fun x xs H Q => ∃ a p, ∃ ys : List Str, x = .str a ∧ xs = [.ref p] ∧ (SqL K H p (ys.map V.str) ∨ SqT K H p (ys.map V.str)) ∧ (ys.map (·.length)).sum + ys.length * a.length ≤ 16777216 ∧ Q (.str (Txt.join a ys)) H) to te) := h ▸ pe_join ho he hs hbase hline
end
end Wk
/-! Wk6: dicts. -/
namespace Wk
open PySem PySem.Spec L2 Evl
/-- what may be a key -/
class K1 (α : Type) [Rp α] where
  key : α → Key
  inj : ∀ {a b : α}, key a = key b → a = b
  iff : ∀ {K : Fg} {H : Hp} {v : V} {a : α}, rep K H v a → v = kV (key a)
instance : K1 Int := { key := Sum.inl, inj := fun h => Sum.inl.inj h, iff := fun h => h }
instance : K1 Str := { key := Sum.inr, inj := fun h => Sum.inr.inj h, iff := fun h => h }
class KT1 (τ : Type) [Tp τ] where
  keys : τ → List Key
  inj : ∀ {a b : τ}, keys a = keys b → a = b
  iff : ∀ {K : Fg} {H : Hp} {vs : List V} {a : τ}, rept K H vs a → vs = (keys a).map kV
instance : KT1 Unit := { keys := fun _ => [], inj := fun _ => rfl, iff := fun h => h }
instance {α τ : Type} [Rp α] [Tp τ] [K1 α] [KT1 τ] : KT1 (α × τ) where
  keys t := K1.key t.1 :: KT1.keys t.2
  inj h := Prod.ext (K1.inj (List.cons.inj h).1) (KT1.inj (List.cons.inj h).2)
  iff h := by
    obtain ⟨v, r, h1, h2, h3⟩ := h
    rw [h1, K1.iff h2, KT1.iff h3]
    rfl
class Ky (κ : Type) [Rp κ] where
  kt : Type
  dec : DecidableEq kt
  key : κ → kt
  inj : ∀ {a b : κ}, key a = key b → a = b
  ho : List (kt × V) → HO
  isd : ∀ ws, isDk (ho ws)
  get : ∀ {K : Fg} {Kh H : Hp} {p : Addr} {v : V} {a : κ} {ws : List (kt × V)}, rep K Kh v a → Ex Kh H → Rd H p (ho ws) → DGet H p v (valV ws (key a))
  put : ∀ {K : Fg} {Kh H : Hp} {p : Addr} {v y : V} {a : κ} {ws : List (kt × V)}, rep K Kh v a → Ex Kh H → H p = some (ho ws) → ws.length < sizeLine → DPut H p v y (upd H p (ho (putK ws (key a) y)))
instance {κ : Type} [Rp κ] [Ky κ] : DecidableEq (Ky.kt κ) := Ky.dec
instance {α : Type} [Rp α] [K1 α] : Ky α where
  kt := Key
  dec := inferInstance
  key := K1.key
  inj := K1.inj
  ho := .dK
  isd _ := trivial
  get h _ e := by
    rw [K1.iff h]
    exact .inl ⟨_, _, e, rfl, rfl⟩
  put h _ e l := by
    rw [K1.iff h]
    exact DPut.k e l
instance {α τ : Type} [Rp α] [Tp τ] [KT1 (α × τ)] : Ky (α × τ) where
  kt := List Key
  dec := inferInstance
  key := KT1.keys
  inj := KT1.inj
  ho := .dT
  isd _ := trivial
  get h x e := by
    obtain ⟨p, vs, h1, h2, h3⟩ := h
    rw [h1]
    have h4 := x _ _ h2
    rw [KT1.iff (τ := α × _) h3] at h4
    exact .inr ⟨_, _, _, e, rfl, h4, rfl⟩
  put h x e l := by
    obtain ⟨p, vs, h1, h2, h3⟩ := h
    rw [h1]
    have h4 := x _ _ h2
    rw [KT1.iff (τ := α × _) h3] at h4
    exact DPut.t e h4 l
/-- the table of a dict -/
structure Dc (κ β : Type) where
  l : List (κ × β)
section
variable {κ β : Type} [DecidableEq κ]
def getD (kvs : List (κ × β)) (k : κ) : Option β := (kvs.find? fun kv => decide (kv.1 = k)).map (·.2)
def putD (kvs : List (κ × β)) (k : κ) (y : β) : List (κ × β) := if (getD kvs k).isSome = true then kvs.map (fun kv => if kv.1 = k then (kv.1, y) else kv) else kvs ++ [(k, y)]
def putO (kvs : Dc κ β) (k : κ) (y : β) : Option (Dc κ β) := if kvs.l.length < 1000000 then some ⟨putD kvs.l k y⟩ else none
def mergeD (kvs more : List (κ × β)) : List (κ × β) := more.foldl (fun acc kv => putD acc kv.1 kv.2) kvs
end
section
variable {κ β : Type} [Rp κ] [Ky κ] [Rp β]
abbrev DK (K : Fg) (H : Hp) : List (Ky.kt κ × V) → List (κ × β) → Prop := Paired fun w kv => w.1 = Ky.key kv.1 ∧ rep K H w.2 kv.2
theorem DK.mono {K : Fg} {H H' : Hp} {ws : List (Ky.kt κ × V)} {kvs : List (κ × β)} (e : Ex H H') (h : DK K H ws kvs) : DK K H' ws kvs := Paired.mapP h fun _ _ q => ⟨q.1, Rp.mono e q.2⟩
theorem DK.swap {K : Fg} {H H' : Hp} {ws : List (Ky.kt κ × V)} {kvs : List (κ × β)} (e : Sw H H') (h : DK K H ws kvs) : DK K H' ws kvs := Paired.mapP h fun _ _ q => ⟨q.1, Rp.swap e q.2⟩
instance obDc : Ob (Dc κ β) where
  ob K H o x := ∃ ws, o = Ky.ho (κ := κ) ws ∧ DK K H ws x.l
  swap e h := by
    obtain ⟨ws, h1, h2⟩ := h
    exact ⟨ws, h1, DK.swap e h2⟩
instance rpDc : Rp (Dc κ β) where
  rep K H v x := ∃ p ws, v = .ref p ∧ Rd H p (Ky.ho (κ := κ) ws) ∧ DK K H ws x.l
  swap e h := by
    obtain ⟨p, ws, h1, h2, h3⟩ := h
    exact ⟨p, ws, h1, e.rd h2 (Ky.isd ws), DK.swap e h3⟩
theorem rd_ex {H H' : Hp} (e : Ex H H') {q : Addr} {u : HO} (h : Rd H q u) : Rd H' q u := by
  rcases h with h | ⟨o, h⟩
  · exact .inl (e _ _ h)
  · exact .inr ⟨o, e _ _ h⟩
variable [DecidableEq κ]
theorem DK.get {K : Fg} {H : Hp} {ws : List (Ky.kt κ × V)} {kvs : List (κ × β)} (k : κ) (h : DK K H ws kvs) : (getD kvs k = none ∧ valV ws (Ky.key k) = none) ∨ ∃ y v, getD kvs k = some y ∧ valV ws (Ky.key k) = some v ∧ rep K H v y := by
  unfold DK at h
  induction h with
  | nil => exact .inl ⟨rfl, rfl⟩
  | @cons w kv ws kvs h t ih =>
    unfold getD valV
    by_cases e : kv.1 = k
    · have e2 : w.1 = Ky.key k := h.1.trans (congrArg _ e)
      rw [List.find?_cons_of_pos (by simpa using e), List.find?_cons_of_pos (by simpa using e2)]
      exact .inr ⟨_, _, rfl, rfl, h.2⟩
    · have e2 : ¬ w.1 = Ky.key k := fun z => e (Ky.inj (h.1.symm.trans z))
      rw [List.find?_cons_of_neg (by simpa using e), List.find?_cons_of_neg (by simpa using e2)]
      exact ih
theorem DK.some {K : Fg} {H : Hp} {ws : List (Ky.kt κ × V)} {kvs : List (κ × β)} (k : κ) (h : DK K H ws kvs) : (valV ws (Ky.key k)).isSome = (getD kvs k).isSome := by
  rcases h.get k with ⟨h1, h2⟩ | ⟨y, v, h1, h2, _⟩
  · rw [h1, h2]
    rfl
  · rw [h1, h2]
    rfl
theorem DK.repl {K : Fg} {H : Hp} {ws : List (Ky.kt κ × V)} {kvs : List (κ × β)} (k : κ) {v : V} {y : β} (hv : rep K H v y) (h : DK K H ws kvs) : DK K H (ws.map fun kv => if kv.1 = Ky.key k then (kv.1, v) else kv) (kvs.map fun kv => if kv.1 = k then (kv.1, y) else kv) := by
  unfold DK at h ⊢
  induction h with
  | nil => exact .nil
  | @cons w kv ws kvs h t ih =>
    rw [List.map_cons, List.map_cons]
    refine .cons ?_ ih
    by_cases e : kv.1 = k
    · have e2 : w.1 = Ky.key k := h.1.trans (congrArg _ e)
      rw [if_pos e, if_pos e2]
      exact ⟨h.1, hv⟩
    · have e2 : ¬ w.1 = Ky.key k := fun z => e (Ky.inj (h.1.symm.trans z))
      rw [if_neg e, if_neg e2]
      exact h
theorem Paired.app2 {α β : Type} {R : α → β → Prop} : ∀ {xs xs' : List α} {ys ys' : List β}, Paired R xs ys → Paired R xs' ys' → Paired R (xs ++ xs') (ys ++ ys')
  | _, _, _, _, .nil, h => h
  | _, _, _, _, .cons q t, h => .cons q (Paired.app2 t h)
theorem DK.put {K : Fg} {H : Hp} {ws : List (Ky.kt κ × V)} {kvs : List (κ × β)} (k : κ) {v : V} {y : β} (hv : rep K H v y) (h : DK K H ws kvs) : DK K H (putK ws (Ky.key k) v) (putD kvs k y) := by
  unfold putK putD
  rw [valV_any, h.some k]
  split
  · exact DK.repl k hv h
  · exact Paired.app2 h (.cons ⟨rfl, hv⟩ .nil)
end
section
variable {K : Fg} {F Kn0 : Hp} {sl sl' : List Sl} {ow ow0 ow1 ow2 : List Ow} {κ β γ : Type} [Rp κ] [Ky κ] [DecidableEq κ] [Rp β] [Rp γ] {ta tb te td tk : TE} {k : κ} {x : γ} {D : Ends} {t u tz : TS} {b : Bool} {i j : Nat} {p : Addr}
/-- the object at place j is another one now, all else as it was -/
theorem S.writeG {σ : L2.St} {Kn H Kn' H' : Hp} {o1 o2 : Ow} (s : S K F Kn0 sl ow σ Kn H) (hj : ow[j]? = some o1) (ha : o1.ad = p) (hb : o2.ad = p) (kk : Ex Kn Kn') (kh : Ex Kn' H')
    (hq : ∀ q, q ≠ p → H q ≠ none → H' q = H q) (sp : ∀ q, H q ≠ none → Kn q = none → Kn' q = none) (hp : o2.ok K Kn' H') : S K F Kn0 sl (ow.set j o2) σ Kn' H' := by
  obtain ⟨f1, f2, f3⟩ := s.ow.each _ (List.mem_of_getElem? hj)
  have f4 := Ow.there f3
  rw [ha] at f1 f2 f4
  have jl : j < ow.length := (List.getElem?_eq_some_iff.mp hj).1
  refine ⟨s.e0.trans kk, kh, fun a u h => ?_, fun a h1 h2 => sp a (Ex.nn s.ef h1) (s.sep a h1 h2), s.sl.mono kk, ⟨fun o ho => ?_, ?_⟩⟩
  · have hne : a ≠ p := fun z => by rw [z, f1] at h; cases h
    rw [hq a hne (ne_none_of (s.ef _ _ h))]
    exact s.ef _ _ h
  · obtain ⟨i, hi⟩ := List.getElem?_of_mem ho
    by_cases e : i = j
    · subst e
      rw [List.getElem?_set_self jl] at hi
      cases hi
      rw [hb]
      exact ⟨f1, sp p f4 f2, hp⟩
    · rw [List.getElem?_set_ne (Ne.symm e)] at hi
      obtain ⟨h1, h2, h3⟩ := s.ow.each o (List.mem_of_getElem? hi)
      have h4 := Ow.there h3
      have hne : o.ad ≠ p := fun z => e (ow_at s.ow.nd hi hj (z.trans ha.symm))
      exact ⟨h1, sp _ h4 h2, Ow.ok_mono kk (hq _ hne h4) h3⟩
  · have e : (ow.set j o2).map Ow.ad = ow.map Ow.ad := by
      rw [List.map_set]
      refine List.ext_getElem? fun i => ?_
      by_cases e : j = i
      · subst e
        rw [List.getElem?_set_self (by rw [List.length_map]; exact jl), List.getElem?_map, hj, hb, ← ha]
        rfl
      · rw [List.getElem?_set_ne e]
    rw [e]
    exact s.ow.nd
theorem S.ownG {σ : L2.St} {Kn H : Hp} {o : Ow} (s : S K F Kn0 sl ow σ Kn H) (ha : o.ad = p) (fp : F p = none) (kp : Kn p = none) (no : ∀ o ∈ ow, o.ad ≠ p) (ok : o.ok K Kn H) : S K F Kn0 sl (o :: ow) σ Kn H :=
  ⟨s.e0, s.ek, s.ef, s.sep, s.sl, ⟨fun o ho => by
    rcases List.mem_cons.mp ho with rfl | ho
    · rw [ha]
      exact ⟨fp, kp, ok⟩
    · exact s.ow.each o ho, List.nodup_cons.mpr ⟨fun h => by
      obtain ⟨o, ho, e⟩ := List.mem_map.mp h
      exact no o ho (e.trans ha), s.ow.nd⟩⟩⟩
/-- x = {} -/
theorem sb_dnewK {sl' : Addr → List Sl} (hm : Ky.ho (κ := κ) [] = HO.dK []) (hs : ∀ p, sl.set i (.at p) = sl' p) (k : ∀ p, SN K F Kn0 (sl' p) (oo p (Dc.mk ([] : List (κ × β))) :: ow) D) : SB K F Kn0 sl ow D (tAsg tDNewK (gName i)) := fun σ Kn H s p hp =>
  k p _ Kn _ (hs p ▸ ((s.grow (Gr.newU s.ek hp)).ownG (p := p) (o := oo p (Dc.mk ([] : List (κ × β)))) rfl (fresh_back s.ef hp) (fresh_back s.ek hp) (owned_ne s hp) ⟨_, upd_same, [], hm.symm, .nil⟩).seta i)
theorem sb_dnewT {sl' : Addr → List Sl} (hm : Ky.ho (κ := κ) [] = HO.dT []) (hs : ∀ p, sl.set i (.at p) = sl' p) (k : ∀ p, SN K F Kn0 (sl' p) (oo p (Dc.mk ([] : List (κ × β))) :: ow) D) : SB K F Kn0 sl ow D (tAsg tDNewT (gName i)) := fun σ Kn H s p hp =>
  k p _ Kn _ (hs p ▸ ((s.grow (Gr.newU s.ek hp)).ownG (p := p) (o := oo p (Dc.mk ([] : List (κ × β)))) rfl (fresh_back s.ef hp) (fresh_back s.ek hp) (owned_ne s hp) ⟨_, upd_same, [], hm.symm, .nil⟩).seta i)
/-- d[k] = y -/
theorem sb_dput {y : β} {d d' : Dc κ β} (hi : sl[i]? = some (.at p)) (hj : ow[j]? = some (oo p d)) (h : EV K F Kn0 sl ow te y) (hk : EV K F Kn0 sl ow tk k) (hx : putO d k y = some d') (ho : ow.set j (oo p d') = ow1) (n : SN K F Kn0 sl ow1 D) :
    SB K F Kn0 sl ow D (sDPut (tVar i) tk te) := fun σ Kn H s => h σ Kn H s _ fun v Kn1 H1 g1 r1 => by
  obtain ⟨o, h1, h2⟩ := s.sl.get hi
  refine ⟨.ref p, by rw [h1]; exact congrArg some h2, hk σ Kn1 H1 (s.grow g1) _ fun w Kn2 H2 g2 r2 => ?_⟩
  have s2 := (s.grow g1).grow g2
  obtain ⟨f1, f2, o1, f3, ws, f4, f5⟩ := s2.ow.each _ (List.mem_of_getElem? hj)
  subst f4
  unfold putO at hx
  split at hx
  · case isTrue hl =>
    cases hx
    subst ho
    refine ⟨p, _, rfl, Ky.put r2 s2.ek f3 (by rw [f5.length]; exact lt_line hl), n _ Kn2 _ ?_⟩
    exact s2.writeG hj rfl rfl (Ex.refl _) (upd_in s2.ek f2) (fun q hq _ => upd_ne hq) (fun _ _ h => h) ⟨_, upd_same, _, rfl, DK.put k (Rp.mono g2.kk r1) f5⟩
  · cases hx
/-- k in d -/
theorem ev_dinO {d : Dc κ β} (hi : sl[i]? = some (.at p)) (hj : ow[j]? = some (oo p d)) (hk : EV K F Kn0 sl ow tk k) : EV K F Kn0 sl ow (tDIn tk (tVar i)) (getD d.l k).isSome := fun σ Kn H s Q q => hk σ Kn H s _ fun v Kn1 H1 g1 r1 => by
  have s1 := s.grow g1
  obtain ⟨o, h1, h2⟩ := s1.sl.get hi
  obtain ⟨f1, f2, o1, f3, ws, f4, f5⟩ := s1.ow.each _ (List.mem_of_getElem? hj)
  subst f4
  exact ⟨.ref p, by rw [h1]; exact congrArg some h2, p, _, rfl, Ky.get r1 s1.ek (Rd.of f3), q _ Kn1 H1 g1 (congrArg V.bl (f5.some k))⟩
theorem ev_din {d : Dc κ β} (hd : EV K F Kn0 sl ow td d) (hk : EV K F Kn0 sl ow tk k) : EV K F Kn0 sl ow (tDIn tk td) (getD d.l k).isSome := fun σ Kn H s Q q => hk σ Kn H s _ fun v Kn1 H1 g1 r1 => hd σ Kn1 H1 (s.grow g1) _ fun u Kn2 H2 g2 r2 => by
  obtain ⟨p, ws, e1, e2, f5⟩ := r2
  exact ⟨p, _, e1, Ky.get (Rp.mono g2.kk r1) g2.kh (rd_ex g2.kh e2), q _ Kn2 H2 (g1.trans g2) (congrArg V.bl (f5.some k))⟩
theorem ev_dnotinO {d : Dc κ β} (hi : sl[i]? = some (.at p)) (hj : ow[j]? = some (oo p d)) (hk : EV K F Kn0 sl ow tk k) : EV K F Kn0 sl ow (tDNotIn tk (tVar i)) (!(getD d.l k).isSome) := fun σ Kn H s Q q => hk σ Kn H s _ fun v Kn1 H1 g1 r1 => by
  have s1 := s.grow g1
  obtain ⟨o, h1, h2⟩ := s1.sl.get hi
  obtain ⟨f1, f2, o1, f3, ws, f4, f5⟩ := s1.ow.each _ (List.mem_of_getElem? hj)
  subst f4
  exact ⟨.ref p, by rw [h1]; exact congrArg some h2, p, _, rfl, Ky.get r1 s1.ek (Rd.of f3), q _ Kn1 H1 g1 (congrArg (fun b => V.bl (!b)) (f5.some k))⟩
theorem ev_dnotin {d : Dc κ β} (hd : EV K F Kn0 sl ow td d) (hk : EV K F Kn0 sl ow tk k) : EV K F Kn0 sl ow (tDNotIn tk td) (!(getD d.l k).isSome) := fun σ Kn H s Q q => hk σ Kn H s _ fun v Kn1 H1 g1 r1 => hd σ Kn1 H1 (s.grow g1) _ fun u Kn2 H2 g2 r2 => by
  obtain ⟨p, ws, e1, e2, f5⟩ := r2
  exact ⟨p, _, e1, Ky.get (Rp.mono g2.kk r1) g2.kh (rd_ex g2.kh e2), q _ Kn2 H2 (g1.trans g2) (congrArg (fun b => V.bl (!b)) (f5.some k))⟩
/-- d[k] -/
theorem ev_dgetO {d : Dc κ β} {y : β} (hi : sl[i]? = some (.at p)) (hj : ow[j]? = some (oo p d)) (hk : EV K F Kn0 sl ow tk k) (hy : getD d.l k = some y) : EV K F Kn0 sl ow (tDGet (tVar i) tk) y := fun σ Kn H s Q q => by
  obtain ⟨o, h1, h2⟩ := s.sl.get hi
  refine ⟨.ref p, by rw [h1]; exact congrArg some h2, hk σ Kn H s _ fun v Kn1 H1 g1 r1 => ?_⟩
  have s1 := s.grow g1
  obtain ⟨f1, f2, o1, f3, ws, f4, f5⟩ := s1.ow.each _ (List.mem_of_getElem? hj)
  subst f4
  rcases f5.get k with ⟨h1, h2⟩ | ⟨y2, w, h1, h2, h3⟩
  · rw [h1] at hy
    cases hy
  · rw [h1] at hy
    cases hy
    exact ⟨p, w, rfl, h2 ▸ Ky.get r1 s1.ek (Rd.of f3), q w Kn1 H1 g1 h3⟩
theorem ev_dget {d : Dc κ β} {y : β} (hd : EV K F Kn0 sl ow td d) (hk : EV K F Kn0 sl ow tk k) (hy : getD d.l k = some y) : EV K F Kn0 sl ow (tDGet td tk) y := fun σ Kn H s Q q => hd σ Kn H s _ fun u Kn1 H1 g1 r1 => hk σ Kn1 H1 (s.grow g1) _ fun v Kn2 H2 g2 r2 => by
  obtain ⟨p, ws, e1, e2, f5⟩ := Rp.mono g2.kk r1
  rcases f5.get k with ⟨h1, h2⟩ | ⟨y2, w, h1, h2, h3⟩
  · rw [h1] at hy
    cases hy
  · rw [h1] at hy
    cases hy
    exact ⟨p, w, e1, h2 ▸ Ky.get r2 g2.kh (rd_ex g2.kh e2), q w Kn2 H2 (g1.trans g2) h3⟩
/-- a dict of one's own, lent -/
theorem S.borrowG {σ : L2.St} {Kn H : Hp} {d : Dc κ β} (s : S K F Kn0 sl ow σ Kn H) (hi : sl[i]? = some (.at p)) (hj : ow[j]? = some (oo p d)) : ∃ o, Kn p = none ∧ H p = some o ∧ S K F Kn0 (sl.set i (sv d)) (ow.eraseIdx j) σ (upd Kn p o) H := by
  obtain ⟨o, h1, h2⟩ := s.sl.get hi
  have h2 : o = some (.ref p) := h2
  obtain ⟨f1, f2, ob, f3, f4⟩ := s.ow.each _ (List.mem_of_getElem? hj)
  have s1 := s.sub (List.eraseIdx_sublist ow j)
  have no : ∀ o ∈ ow.eraseIdx j, o.ad ≠ p := fun o hm z => by
    obtain ⟨m, hm'⟩ := List.getElem?_of_mem hm
    rw [List.getElem?_eraseIdx] at hm'
    split at hm'
    · have := ow_at s.ow.nd hm' hj z
      omega
    · have := ow_at s.ow.nd hm' hj z
      omega
  have s2 := s1.know (o := ob) f1 f2 no f3
  have hσ : σ.set i o = σ := by
    refine List.ext_getElem? fun m => ?_
    by_cases e : i = m
    · subst e
      rw [List.getElem?_set_self (List.getElem?_eq_some_iff.mp h1).1, h1]
    · rw [List.getElem?_set_ne e]
  have s3 := s2.set (x := sv d) (o := o) i ⟨.ref p, h2, by
    obtain ⟨ws, rfl, f5⟩ := f4
    exact ⟨p, ws, rfl, Rd.of upd_same, DK.mono (Ex.new f2) f5⟩⟩
  rw [hσ] at s3
  exact ⟨ob, f2, f3, s3⟩
theorem ev_borG [Fl γ] {z : γ} {d : Dc κ β} (hi : sl[i]? = some (.at p)) (hj : ow[j]? = some (oo p d)) (hs : sl.set i (sv d) = sl') (ho : ow.eraseIdx j = ow1) (h : EV K F Kn0 sl' ow1 te z) : EV K F Kn0 sl ow te z := fun σ Kn H s Q q => by
  obtain ⟨ws, kp, hp, s1⟩ := s.borrowG hi hj
  subst hs
  subst ho
  exact h σ _ H s1 Q fun v Kn' H' g r => q v Kn H' ⟨Ex.refl _, g.hh, s.ek.trans g.hh, fun _ _ h => h⟩ (Fl.iff.mpr (Fl.iff.mp r))
theorem et_borG {tt : TT} {d : Dc κ β} (hi : sl[i]? = some (.at p)) (hj : ow[j]? = some (oo p d)) (hs : sl.set i (sv d) = sl') (ho : ow.eraseIdx j = ow1) (h : ET K F Kn0 sl' ow1 tt b) : ET K F Kn0 sl ow tt b := fun σ Kn H s Q q => by
  obtain ⟨ws, kp, hp, s1⟩ := s.borrowG hi hj
  subst hs
  subst ho
  exact h σ _ H s1 Q fun Kn' H' g => q Kn H' ⟨Ex.refl _, g.hh, s.ek.trans g.hh, fun _ _ h => h⟩
end
section
variable {X : Cx} {o i e value : Expr} {pos pos' tpos : Pos} {td ty tv : TE}
theorem k_dget (hu : X.A.units + 64 < cLine) (ho : PE X o td) (hi : PE X i ty) (hs : NoSl i) : PE X (.Subscript o i pos) (tDGet td ty) := pe_dget (by omega) ho hi hs
theorem k_din (hu : X.A.units + 64 < cLine) (hi : PE X i ty) (ho : PE X o td) : PC X .In i o (tDIn ty td) := pc_din (by omega) hi ho
theorem k_dnotin (hu : X.A.units + 64 < cLine) (hi : PE X i ty) (ho : PE X o td) : PC X .NotIn i o (tDNotIn ty td) := pc_dnotin (by omega) hi ho
theorem k_dput (hu : X.A.units + 64 < cLine) (ho : PE X o td) (hi : PE X i ty) (hv : PE X value tv) (hs : swapsWith value (some (.Subscript o i pos')) pos.line X.env = pure false) : PS X (.Assign [.Subscript o i pos'] value pos) (sDPut td ty tv) := ps_dput (by omega) ho hi hv hs
end
/-! ### a new list out of an operation with effects -/
section
variable {K : Fg} {F Kn0 : Hp} {sl : List Sl} {ow ow1 ow2 : List Ow} {α β γ : Type} [Rp α] [Rp β] [Rp γ] {ta tb : TE} {x : α} {y : β}
theorem enm_op {r : R2} {zs : List γ} (ha : EM K F Kn0 sl ow ta ow1 x) (hb : EM K F Kn0 sl ow1 tb ow2 y) (hr : R2L K r x y zs) : ENM K F Kn0 sl ow (tOp r ta tb) ow2 zs := fun σ Kn H s Q q =>
  ha σ Kn H s _ fun v Kn1 H1 e1 s1 r1 => hb σ Kn1 H1 s1 _ fun w Kn2 H2 e2 s2 r2 => hr Kn2 H2 v w s2.ek (Rp.mono e2 r1) r2 Q fun p ws Kn' H' g' hp kp hw r' =>
    q p ws Kn' H' ((e1.trans e2).trans g'.kk) (s2.grow g') (fresh_back s2.ef hp) kp (owned_ne s2 hp) hw r'
end
/-! ### a display -/
section
variable {K : Fg} {F Kn0 : Hp} {sl : List Sl} {ow : List Ow} {κ β : Type} [Rp κ] [K1 κ] [DecidableEq κ] [Rp β] {tk tv : TE} {k : κ} {y : β} {trs : List (TE × TE)} {kvs : List (κ × β)}
def EPs (K : Fg) (F Kn0 : Hp) (sl : List Sl) (ow : List Ow) (trs : List (TE × TE)) (kvs : List (κ × β)) : Prop := ∀ σ Kn H, S K F Kn0 sl ow σ Kn H → ∀ Q : List (V × V) → Hp → Prop,
  (∀ ws Kn' H', Gr Kn H Kn' H' → DK K Kn' ws kvs → Q (ws.map fun w => (kV w.1, w.2)) H') → tPairs trs σ H Q
theorem eps_nil : EPs K F Kn0 sl ow [] ([] : List (κ × β)) := fun σ Kn H s Q q => q [] Kn H (Gr.refl s.ek) .nil
theorem eps_cons (hk : EV K F Kn0 sl ow tk k) (hv : EV K F Kn0 sl ow tv y) (hr : EPs K F Kn0 sl ow trs kvs) : EPs K F Kn0 sl ow ((tk, tv) :: trs) ((k, y) :: kvs) := fun σ Kn H s Q q =>
  hk σ Kn H s _ fun v Kn1 H1 g1 r1 => hv σ Kn1 H1 (s.grow g1) _ fun w Kn2 H2 g2 r2 => hr σ Kn2 H2 ((s.grow g1).grow g2) _ fun ws Kn3 H3 g3 r3 => by
    have e := K1.iff r1
    subst e
    exact q ((K1.key k, w) :: ws) Kn3 H3 ((g1.trans g2).trans g3) (.cons ⟨rfl, Rp.mono g3.kk r2⟩ r3)
theorem DK.merge {K : Fg} {H : Hp} : ∀ {ms : List (Key × V)} {more : List (κ × β)} {ws : List (Key × V)} {kvs : List (κ × β)}, DK K H ms more → DK K H ws kvs → DK K H (mergeK ws ms) (mergeD kvs more) := by
  intro ms more ws kvs h
  unfold DK at h
  induction h generalizing ws kvs with
  | nil => exact fun h => h
  | @cons w kv ms more h t ih =>
    intro q
    refine ih ?_
    show DK K H (putK ws w.1 w.2) (putD kvs kv.1 kv.2)
    rw [h.1]
    exact DK.put kv.1 h.2 q
/-- {..}[k] -/
theorem ev_pick (hp : EPs K F Kn0 sl ow trs kvs) (hk : EV K F Kn0 sl ow tk k) (hl : kvs.length ≤ 15) (hy : getD (mergeD [] kvs) k = some y) : EV K F Kn0 sl ow (tDGet (tDisp trs) tk) y := fun σ Kn H s Q q p hp0 => by
  have g0 : Gr Kn H Kn (upd H p (.dK [])) := Gr.newU s.ek hp0
  refine hp σ Kn _ (s.grow g0) _ fun ws Kn1 H1 g1 r1 => ?_
  have e1 : H1 p = some (.dK []) := g1.hh _ _ upd_same
  have kp : Kn1 p = none := g1.sp p (ne_none_of upd_same) (fresh_back s.ek hp0)
  have g : Gr Kn H Kn1 (upd H1 p (.dK (mergeK [] ws))) := ⟨g1.kk, fun a u h => by
    have hne : a ≠ p := fun z => by rw [z, hp0] at h; cases h
    rw [upd_ne hne]
    exact g1.hh _ _ (by rw [upd_ne hne]; exact h), upd_in g1.kh kp, fun a h1 h2 => g1.sp a (Ex.nn g0.hh h1) h2⟩
  refine ⟨e1, ws, rfl, by rw [r1.length]; exact hl, hk σ Kn1 _ (s.grow g) _ fun v Kn2 H2 g2 r2 => ?_⟩
  have r3 : DK K Kn1 (mergeK [] ws) (mergeD [] kvs) := DK.merge r1 .nil
  rcases r3.get k with ⟨h1, h2⟩ | ⟨y2, w, h1, h2, h3⟩
  · rw [h1] at hy
    cases hy
  · rw [h1] at hy
    cases hy
    exact ⟨p, w, rfl, h2 ▸ Ky.get r2 g2.kh (Rd.of (g2.hh _ _ upd_same)), q w Kn2 H2 (g.trans g2) (Rp.mono g2.kk h3)⟩
end
end Wk
/-! Wsort: sorted of a list of alike data (numbers, texts, tuples of these); sorted of a dict's keys; xs[::-1] -/
namespace L2
open PySem PySem.Spec PyProof.Rows
/-- sorted(xs), xs a list of alike data -/
def rSortedD (K : PySem.W.Frag) : List V → Hp → VK → Prop := fun vs H Q => ∃ (a : Addr) (bs : List (V × PyData)), vs = [V.ref a] ∧ SqL K H a (bs.map (·.1)) ∧ (∀ b ∈ bs, Dp K H b.1 b.2) ∧ PySem.W.AllAlike (bs.map (·.2)) ∧ PySem.W.Sortable (bs.map (·.2)) ∧ bs.length ≤ 1000000 ∧ (∀ b ∈ bs, b.2.depth ≤ 60) ∧
  ∀ p, H p = none → Q (.ref p) (upd H p (.lst ((bs.mergeSort (PySem.W.dataLe false (fun b : V × PyData => b.2))).map (·.1))))
theorem each_vals : ∀ {bs : List (V × PyData)} {us : List Value}, Vals (bs.map (·.1)) us → PySem.W.EachIs (fun v (b : V × PyData) => RelV b.1 v) us bs
  | [], _, h => by
    have h' : Vals [] _ := h
    cases h'
    exact .nil
  | b :: bs, _, h => by
    have h' : Vals (b.1 :: bs.map (·.1)) _ := h
    cases h' with
    | cons r t => exact .cons r (each_vals t)
theorem vals_each : ∀ {bs : List (V × PyData)} {us : List Value}, PySem.W.EachIs (fun v (b : V × PyData) => RelV b.1 v) us bs → Vals (bs.map (·.1)) us
  | _, _, .nil => .nil
  | _, _, .cons r t => .cons r (vals_each t)
theorem each_reads {X : Cx} {pins : List (Addr × Obj)} {σ : St} {H : Hp} {s : Shared} (I : Inv X pins σ H s) : ∀ {bs : List (V × PyData)} {us : List Value}, (∀ b ∈ bs, Dp X.K H b.1 b.2) → PySem.W.EachIs (fun v (b : V × PyData) => RelV b.1 v) us bs → PySem.W.EachIs (fun v (b : V × PyData) => ∃ as, Reads s.heap v b.2 as) us bs
  | _, _, _, .nil => .nil
  | _, _, h, .cons r t => .cons (Dp.reads I _ _ _ (h _ List.mem_cons_self) r) (each_reads I (fun b hb => h b (List.mem_cons_of_mem _ hb)) t)
theorem cr_sortedD {X : Cx} (hu : X.A.units + 64 < cLine) : CallR X (.builtin "sorted") (rSortedD X.K) := by
  intro pins s σ H vs us Q I r h
  obtain ⟨a, bs, rfl, hs, hd, hal, hk, hL, hdp, q⟩ := h
  obtain ⟨its, rv, hl, hz⟩ := I.list hs
  rw [Vals.ref1 r]
  have e := each_vals rv
  have hL' : bs.length ≤ sizeLine := Nat.le_trans hL (by decide)
  refine PySem.W.sorted_data (vs := its) (enc := fun b : V × PyData => b.2) hl.isList e (each_reads I hd e) hal hk hL' (fun b hb => by have := hdp b hb; omega) fun out ho eo => ?_
  obtain ⟨ep, he'⟩ := PyProof.Rows.sortedAll_at s.heap its out.toArray
  have hlen : ((bs.mergeSort (PySem.W.dataLe false (fun b : V × PyData => b.2))).map (·.1)).length ≤ sizeLine := by
    rw [List.length_map, List.length_mergeSort]
    exact hL'
  exact ⟨.ref _, upd H (s.heap.objs.size + 1) (.lst _), I.laid (t' := s.toks) (fun _ _ => PyProof.Rows.sortedAll_old) (Nat.le_succ _) ⟨hlen, out, ep, vals_each eo, he'⟩, rfl, q _ (I.hok.fresh (Nat.le_succ _))⟩
end L2
namespace Wk
open PySem PySem.Spec L2 Evl
/-- alike, one with the other -/
class Al (α : Type) [Rp α] [Pd α] : Prop where
  al : ∀ a b : α, PySem.W.alike (Pd.toD a) (Pd.toD b) = true
class Als (τ : Type) [Tp τ] [Pq τ] : Prop where
  al : ∀ a b : τ, PySem.W.alikeAll (Pq.toDs a) (Pq.toDs b) = true
class So (α : Type) [Rp α] [Pd α] : Prop where
  so : (∀ a : α, ∃ x r, Pd.toD a = .tuple (x :: r)) ∨ ∀ a : α, Pd.toD a ≠ .none ∧ ∀ xs, Pd.toD a ≠ .tuple xs
instance : Al Int := ⟨fun _ _ => rfl⟩
instance : Al Str := ⟨fun _ _ => rfl⟩
instance : Al Bool := ⟨fun _ _ => rfl⟩
instance : Als Unit := ⟨fun _ _ => rfl⟩
instance {α τ : Type} [Rp α] [Tp τ] [Pd α] [Pq τ] [Al α] [Als τ] : Als (α × τ) := ⟨fun a b => by
  show PySem.W.alikeAll (Pd.toD a.1 :: Pq.toDs a.2) (Pd.toD b.1 :: Pq.toDs b.2) = true
  rw [PySem.W.alikeAll, Al.al, Als.al]
  rfl⟩
instance {α τ : Type} [Rp α] [Tp τ] [Pd α] [Pq τ] [Al α] [Als τ] : Al (α × τ) := ⟨fun a b => by
  show PySem.W.alike (.tuple (Pq.toDs a)) (.tuple (Pq.toDs b)) = true
  rw [PySem.W.alike, Als.al]⟩
instance : So Int := ⟨.inr fun a => ⟨(fun h => nomatch h), (fun _ h => nomatch h)⟩⟩
instance : So Str := ⟨.inr fun a => ⟨(fun h => nomatch h), (fun _ h => nomatch h)⟩⟩
instance : So Bool := ⟨.inr fun a => ⟨(fun h => nomatch h), (fun _ h => nomatch h)⟩⟩
instance {α τ : Type} [Rp α] [Tp τ] [Pd α] [Pq τ] : So (α × τ) := ⟨.inl fun a => ⟨_, _, rfl⟩⟩
def leD {α : Type} [Rp α] [Pd α] (a b : α) : Bool := PySem.W.dataLe false (fun c : α => Pd.toD c) a b
def srtD {α : Type} [Rp α] [Pd α] (xs : List α) : List α := xs.mergeSort leD
def srtDO {α : Type} [Rp α] [Pd α] (xs : List α) : Option (List α) := if xs.length ≤ 1000000 ∧ Pd.dp α ≤ 60 then some (srtD xs) else none
theorem paired_zip {α β : Type} {R : α → β → Prop} : ∀ {vs : List α} {xs : List β}, Paired R vs xs → ∃ ps : List (α × β), ps.map (·.1) = vs ∧ ps.map (·.2) = xs ∧ ∀ c ∈ ps, R c.1 c.2
  | _, _, .nil => ⟨[], rfl, rfl, (fun _ h => nomatch h)⟩
  | _, _, .cons r t => by
    obtain ⟨ps, h1, h2, h3⟩ := paired_zip t
    refine ⟨(_, _) :: ps, by rw [List.map_cons, h1], by rw [List.map_cons, h2], fun c hc => ?_⟩
    rcases List.mem_cons.mp hc with rfl | hc
    · exact r
    · exact h3 c hc
theorem zip_paired {α β : Type} {R : α → β → Prop} : ∀ {ps : List (α × β)}, (∀ c ∈ ps, R c.1 c.2) → Paired R (ps.map (·.1)) (ps.map (·.2))
  | [], _ => .nil
  | c :: ps, h => .cons (h c List.mem_cons_self) (zip_paired fun d hd => h d (List.mem_cons_of_mem _ hd))
section
variable {K : Fg} {F Kn0 : Hp} {sl sl' : List Sl} {ow ow1 : List Ow} {α β γ : Type} [Rp α] [Rp β] [Rp γ] {te : TE} {i j : Nat} {p : Addr}
theorem rc_sortD {α : Type} [Rp α] [Pd α] [Al α] [So α] {xs zs : List α} (h : srtDO xs = some zs) : RCL K (rSortedD K) (xs, ()) zs := fun Kn H vs ek hv Q q => by
  unfold srtDO at h
  split at h
  case isFalse => cases h
  rename_i hl
  cases h
  obtain ⟨v, rfl, l, ws, rfl, h1, h2⟩ := one_arg hv
  obtain ⟨ps, e1, e2, e3⟩ := paired_zip h2
  have eb1 : (ps.map fun c => ((c.1, Pd.toD c.2) : V × PyData)).map (·.1) = ws := by
    rw [List.map_map, ← e1]
    rfl
  have lp : ps.length = xs.length := by rw [← e2, List.length_map]
  refine ⟨l, ps.map fun c => (c.1, Pd.toD c.2), rfl, by rw [eb1]; exact sq_of (ek _ _ h1), fun b hb => ?_, ?_, ?_, by rw [List.length_map, lp]; exact hl.1, fun b hb => ?_, fun p hp => ?_⟩
  · obtain ⟨c, hc, rfl⟩ := List.mem_map.mp hb
    exact Pd.isD (Rp.mono ek (e3 c hc))
  · rw [List.map_map]
    exact PySem.W.AllAlike.of fun a b => Al.al _ _
  · rw [List.map_map]
    rcases (So.so : _ ∨ ∀ a : α, _) with h | h
    · exact PySem.W.Sortable.tuples fun c => h _
    · exact PySem.W.Sortable.others fun c => h _
  · obtain ⟨c, hc, rfl⟩ := List.mem_map.mp hb
    exact Nat.le_trans (Pd.dep _) hl.2
  · have m1 : (ps.mergeSort fun a b => leD a.2 b.2).map (fun c => ((c.1, Pd.toD c.2) : V × PyData)) = (ps.map fun c => ((c.1, Pd.toD c.2) : V × PyData)).mergeSort (PySem.W.dataLe false (fun b : V × PyData => b.2)) := List.map_mergeSort fun a _ b _ => rfl
    have m2 : (ps.mergeSort fun a b => leD a.2 b.2).map (·.2) = srtD xs := by
      unfold srtD
      rw [← e2]
      exact List.map_mergeSort fun a _ b _ => rfl
    rw [← m1, List.map_map]
    refine q p _ Kn _ (Gr.newU ek hp) hp (fresh_back ek hp) upd_same ?_
    rw [← m2]
    exact zip_paired fun c hc => e3 c ((List.mergeSort_perm _ _).mem_iff.mp hc)
theorem en_rev {xs : List α} (h : EV K F Kn0 sl ow te xs) : EN K F Kn0 sl ow (tRevL K te) xs.reverse := fun σ Kn H s Q q => h σ Kn H s _ fun v Kn1 H1 g1 r1 => by
  obtain ⟨p, ws, rfl, h3, h4⟩ := r1
  refine ⟨p, ws, rfl, sq_of (g1.kh _ _ h3), fun l hl => q l _ Kn1 _ (g1.trans (Gr.newU g1.kh hl)) (fresh_back g1.hh hl) (fresh_back g1.kh hl) upd_same ?_⟩
  obtain ⟨ps, e1, e2, e3⟩ := paired_zip h4
  rw [← e1, ← e2, ← List.map_reverse, ← List.map_reverse]
  exact zip_paired fun c hc => e3 c (List.mem_reverse.mp hc)
theorem k_sortedD {X : Cx} (hu : X.A.units + 64 < cLine) (h : X.K = K := by rfl) : CallR X (.builtin "sorted") (rSortedD K) := h ▸ cr_sortedD hu
theorem k_revL {X : Cx} {e : Expr} {te : TE} {k : Nat} {p1 p2 p3 pos : Pos} (he : PE X e te) (h : X.K = K := by rfl) : PE X (.Subscript e (.Slice none none (some (.UnaryOp .USub (.Constant (.int 1) k p1) p2)) p3) pos) (tRevL K te) := h ▸ pe_revL he
/-- sorted(d), d a dict with text keys -/
def rSortedK : List V → Hp → VK → Prop := fun xs H Q => ∃ (a : Addr) (kvs : List (Key × V)) (ks : List Str), xs = [.ref a] ∧ Rd H a (.dK kvs) ∧ kvs.map (·.1) = ks.map Sum.inr ∧ ks.length < 64 ∧ ∀ ys p, ys.Perm ks → PyProof.Rows.sortedS ys = true → H p = none → Q (.ref p) (upd H p (.lst (ys.map V.str)))
theorem k_sortedK {X : Cx} (hc : X.calm = true := by rfl) : CallR X (.builtin "sorted") rSortedK := call_sortedD hc
end
end Wk
/-! Wdeal: sum(d.values()), divmod, d[k] += c, xs[i] += c, str(n), zfill, a dict of one's own told -/
namespace L2
open PySem PySem.Spec PyProof.Rows
section
variable {X : Cx}
theorem get_list : PGet X (rIxL X.K) := by
  intro pins s σ H x y v u Q I rx ry h
  obtain ⟨p, xs, i, z, rfl, rfl, hq, he, q⟩ := h
  cases rx
  obtain ⟨t, rfl⟩ := ry
  obtain ⟨its, r, pl, hz⟩ := I.list hq
  obtain ⟨j, h1, h2, h3, h4, h5⟩ := atI_get he
  obtain ⟨w, ew, rw'⟩ := r.get h2
  have hl := r.length
  have hn := line63
  have fin : EP X pins σ Q w s := ⟨z, H, I, rw', q⟩
  by_cases h0 : 0 ≤ i
  · have hj : i.toNat = j := by
      rw [seqIndex_of h0 h5] at h1
      exact Option.some.inj h1
    exact wpAny_getItem_list pl.isList h0 (by omega) (by rw [hj]; simpa using ew) fin
  · have hj : (i + (its.toArray.size : Int)).toNat = j := by
      rw [seqIndex_neg (by omega) h4] at h1
      rw [List.size_toArray, ← hl]
      exact Option.some.inj h1
    exact wpAny_getItem_list_neg pl.isList (by omega) (by rw [List.size_toArray] <;> omega) (by omega) (by rw [hj]; simpa using ew) fin
/-- sum(o.values()), a dict with int values -/
def tSumVals (td : TE) : TE := fun σ H Q => td σ H fun x H1 => ∃ (a : Addr) (kvs : List (Key × V)) (is : List Int), x = V.ref a ∧ Rd H1 a (.dK kvs) ∧ kvs.map (·.2) = is.map V.int ∧ Q (.int is.sum) H1
theorem pre_sum (is : List Int) : ∀ n : Nat, n ≤ is.length → preSum (fun i => is.getD i 0) n = (is.take n).sum
  | 0, _ => rfl
  | n + 1, h => by
    have ih := pre_sum is n (by omega)
    show preSum (fun i => is.getD i 0) n + is.getD n 0 = _
    rw [ih, List.take_succ, List.sum_append, List.getD_eq_getElem?_getD, List.getElem?_eq_getElem (show n < is.length by omega)]
    simp
variable {o : Expr} {p pos apos mpos : Pos} {td : TE}
theorem pe_sumVals (hc : X.calm = true) (hg : Gl X "sum") (hm : X.mg "sum" = none) (hd : PE X o td) (hbase : attributeBase o "values" X.env (eval o X.env) = eval o X.env := by rfl) (hline : (apos.endLine == mpos.line) = true := by rfl)
    (hse : starEach [Expr.Call (.Attribute o "values" apos) [] [] mpos] X.env = [(false, eval (Expr.Call (.Attribute o "values" apos) [] [] mpos) X.env)] := by rfl) :
    PE X (.Call (.Name "sum" p) [.Call (.Attribute o "values" apos) [] [] mpos] [] pos) (tSumVals td) := by
  refine ⟨fun pins s σ H Q I h => ?_⟩
  refine wpAny_Call_Name_kw (ld_blt I hg hm (u := .builtin "sum") (by first | rfl | decide +kernel) ?_ (by first | decide +kernel | decide) (by first | decide +kernel | decide))
  rw [hse]
  refine PySem.callWith_builtin1 (wpAny_Call_method0_late hbase hline (thn (hd.run pins s σ H _ I h) fun v s1 ⟨x, H1, I1, r1, a, kvs, is, ex, ha, hv, q⟩ => ?_))
  subst ex
  obtain rfl : v = Value.ref a := r1
  obtain ⟨_, hsys, vs, rel, dof⟩ := dk_rd I1.hok ha
  obtain ⟨ep, dat⟩ := dof.dictAt
  have dat' := dat
  obtain ⟨ob, es, ho, ex, hdat, hko, hpr, hnd⟩ := dat'
  refine ⟨"dict", "dict.values", F.plainAttrs_dict, F.slot_dict_values, F.type_dict_values, ⟨ob, ho, ex.1⟩, fun b e => ?_, Calls.callWith_builtin rfl (PySem.evalArgs_none ?_)⟩
  · cases e
    exact ⟨ob, ho, ex.2.1⟩
  refine call_meetsIn F.slot_dict_values ⟨ob, ho, ex.1⟩ F.entry_dict_values (F.args_dict_values_1 _) (meets_dict_values (mixKind X.prog X.w) a hsys) ⟨⟨vs, dof⟩, ?_⟩
  have k1 : ∀ b u, s1.heap.get? b = some u → (s1.heap.push { cls := .type "dict_values", data := .fields #[.ref a] }).get? b = some u := fun b u e => Heap.get?_push_of_some _ e
  have dat1 : (s1.heap.push { cls := .type "dict_values", data := .fields #[.ref a] }).DictAt (mixKind X.prog X.w) a vs ep := dat.keep k1
  have hlv : vs.length = is.length := by
    have e1 := congrArg List.length hv
    rw [List.length_map, List.length_map] at e1
    rw [← e1]
    exact (KV.length rel).symm
  have hval : ∀ (i : Nat) (v : Value), (∃ k, vs[i]? = some (k, v)) → ∃ t, v = Value.int (is.getD i 0) t := fun i v ⟨k, hk⟩ => by
    obtain ⟨x, h1, h2⟩ := KV.at' rel hk
    have e1 : (kvs.map (·.2))[i]? = some x := by rw [List.getElem?_map, h1] <;> rfl
    rw [hv, List.getElem?_map] at e1
    obtain ⟨j, hj, e2⟩ := Option.map_eq_some_iff.mp e1
    subst e2
    obtain ⟨t, e3⟩ := h2
    refine ⟨t, ?_⟩
    rw [e3, List.getD_eq_getElem?_getD, hj] <;> rfl
  refine PySem.call_sum_walkAnyS (wpAny_pyIter_values (v := s1.heap.objs.size) (d := a) ⟨_, Heap.get?_push_size _ rfl, rfl, rfl⟩ dat1 ?_)
  have hlt : a < s1.heap.objs.size := Heap.lt_size ho
  have hsz : (s1.heap.push { cls := .type "dict_values", data := .fields #[.ref a] }).objs.size = s1.heap.objs.size + 1 := Heap.size_push _ _
  refine ⟨_, _, _, _, _, _, _, _, rfl, (Walks.dictValues (knd := mixKind X.prog X.w) (A := X.A.in1) (I.ok.hd hc) (s1.heap.push { cls := .type "dict_values", data := .fields #[.ref a] }).objs.size a (by rw [hsz]; exact Nat.ne_of_lt (Nat.lt_succ_of_lt hlt)) vs ep).toS,
    ⟨⟨_, Heap.get?_push_size _ rfl, rfl, rfl⟩, dat1.keep fun b u e => Heap.get?_push_of_some _ e⟩, fun b hb => ?_, hval, fun s' t' hmv => ?_⟩
  · show b < ((s1.heap.push _).push _).objs.size
    rw [Heap.size_push, Heap.size_push]
    rw [hsz] at hb
    rcases List.mem_cons.mp hb with e | hb
    · rw [e]
      exact Nat.lt_succ_self _
    · have e : b = a := List.mem_singleton.mp hb
      rw [e]
      exact Nat.lt_succ_of_lt (Nat.lt_succ_of_lt hlt)
  · have hk : ∀ b u, s1.heap.get? b = some u → s'.heap.get? b = some u := fun b u e => hmv.heap b u (fun hmem => by
      have e1 : b = (s1.heap.push { cls := .type "dict_values", data := .fields #[.ref a] }).objs.size := List.mem_singleton.mp hmem
      have e2 := Heap.lt_size e
      rw [hsz] at e1
      rw [e1] at e2
      exact absurd e2 (Nat.not_lt.mpr (Nat.le_succ _))) (Heap.get?_push_of_some _ (k1 b u e))
    rw [Moved.eq_with hmv]
    have es : preSum (fun i => is.getD i 0) vs.length = is.sum := by
      rw [pre_sum is _ (by omega), hlv, List.take_length]
    refine ⟨.int is.sum, H1, I1.kept (t' := s'.toks) hk, ⟨t', ?_⟩, q⟩
    rw [es]
end
end L2
namespace Wk
open PySem PySem.Spec L2 Evl
theorem leD_total {α : Type} [Rp α] [Pd α] : PySem.W.TotalLe (leD (α := α)) := by
  have h : PySem.W.TotalLe (PySem.W.dataLe false (fun c : α => Pd.toD c)) := by
    unfold PySem.W.dataLe
    exact PySem.W.sortLe_total _ _ _
  exact ⟨fun a b c => h.trans a b c, fun a b => h.total a b⟩
/-- neither less than the other: the same -/
class Ti (α : Type) [Rp α] [Pd α] : Prop where
  ti : ∀ {a b : α}, PySem.W.dataLt (Pd.toD a) (Pd.toD b) = false → PySem.W.dataLt (Pd.toD b) (Pd.toD a) = false → a = b
class Tis (τ : Type) [Tp τ] [Pq τ] : Prop where
  ti : ∀ {a b : τ}, PySem.W.rowLt (Pq.toDs a) (Pq.toDs b) = false → PySem.W.rowLt (Pq.toDs b) (Pq.toDs a) = false → a = b
instance : Ti Int := ⟨fun {a b} h1 h2 => by
  have h1 : PySem.W.dataLt (.int a) (.int b) = false := h1
  have h2 : PySem.W.dataLt (.int b) (.int a) = false := h2
  rw [PySem.W.dataLt_int, decide_eq_false_iff_not] at h1 h2
  omega⟩
instance : Ti Str := ⟨fun {a b} h1 h2 => by
  have h1 : PySem.W.dataLt (.str a) (.str b) = false := h1
  have h2 : PySem.W.dataLt (.str b) (.str a) = false := h2
  rw [PySem.W.dataLt_str, decide_eq_false_iff_not] at h1 h2
  refine PySem.W.str_of_cps ?_
  exact List.le_antisymm (List.not_lt.mp h2) (List.not_lt.mp h1)⟩
instance : Tis Unit := ⟨fun _ _ => rfl⟩
instance {α τ : Type} [Rp α] [Tp τ] [Pd α] [Pq τ] [Al α] [Ti α] [Tis τ] : Tis (α × τ) := ⟨fun {a b} h1 h2 => by
  have h1 : PySem.W.rowLt (Pd.toD a.1 :: Pq.toDs a.2) (Pd.toD b.1 :: Pq.toDs b.2) = false := h1
  have h2 : PySem.W.rowLt (Pd.toD b.1 :: Pq.toDs b.2) (Pd.toD a.1 :: Pq.toDs a.2) = false := h2
  unfold PySem.W.rowLt at h1 h2
  rw [PySem.W.dataLt_cons (Al.al _ _)] at h1 h2
  by_cases e : a.1 = b.1
  · have e1 : PyData.eqv (Pd.toD a.1) (Pd.toD b.1) = true := (Pd.eqd _ _).mpr e
    have e2 : PyData.eqv (Pd.toD b.1) (Pd.toD a.1) = true := (Pd.eqd _ _).mpr e.symm
    rw [if_pos e1] at h1
    rw [if_pos e2] at h2
    exact Prod.ext e (Tis.ti h1 h2)
  · rw [if_neg (fun z => e ((Pd.eqd _ _).mp z))] at h1
    rw [if_neg (fun z => e ((Pd.eqd _ _).mp z).symm)] at h2
    exact absurd (Ti.ti h1 h2) e⟩
instance {α τ : Type} [Rp α] [Tp τ] [Pd α] [Pq τ] [Al α] [Ti α] [Tis τ] : Ti (α × τ) := ⟨fun {a b} h1 h2 => by
  have h1 : PySem.W.dataLt (.tuple (Pq.toDs a)) (.tuple (Pq.toDs b)) = false := h1
  have h2 : PySem.W.dataLt (.tuple (Pq.toDs b)) (.tuple (Pq.toDs a)) = false := h2
  rw [PySem.W.dataLt_tuple] at h1 h2
  exact Tis.ti (τ := α × τ) h1 h2⟩
theorem leD_anti {α : Type} [Rp α] [Pd α] [Ti α] {a b : α} (h1 : leD a b = true) (h2 : leD b a = true) : a = b := by
  have h1 : (!PySem.W.dataLt (Pd.toD b) (Pd.toD a)) = true := h1
  have h2 : (!PySem.W.dataLt (Pd.toD a) (Pd.toD b)) = true := h2
  rw [Bool.not_eq_true'] at h1 h2
  exact Ti.ti h2 h1
theorem srtD_perm {α : Type} [Rp α] [Pd α] (xs : List α) : (srtD xs).Perm xs := List.mergeSort_perm xs _
theorem srtD_pw {α : Type} [Rp α] [Pd α] (xs : List α) : (srtD xs).Pairwise (fun a b => leD a b = true) := List.pairwise_mergeSort (fun a b c => leD_total.trans a b c) (fun a b => by have := leD_total.total a b; simpa using this) xs
theorem srtD_one {α : Type} [Rp α] [Pd α] [Ti α] {xs ys : List α} (p : ys.Perm xs) (s : ys.Pairwise (fun a b => leD a b = true)) : ys = srtD xs :=
  List.Perm.eq_of_pairwise (le := fun a b : α => leD a b = true) (fun a b _ _ h1 h2 => leD_anti h1 h2) s (srtD_pw xs) (p.trans (srtD_perm xs).symm)
theorem leD_str (a b : Str) : leD a b = decide (a.cps.toList ≤ b.cps.toList) := by
  have := congrFun (congrFun (PySem.W.dataLe_str (fun c : Str => c)) a) b
  exact this
theorem sortedS_pw : ∀ (ys : List Str), PyProof.Rows.sortedS ys = true → ys.Pairwise (fun a b => leD a b = true) := by
  have key : ∀ (ys : List Str) (p : Str), PyProof.Rows.risingS p ys = true → (p :: ys).Pairwise (fun a b => leD a b = true) := by
    intro ys
    induction ys with
    | nil => exact fun p _ => List.pairwise_singleton _ _
    | cons y ys ih =>
      intro p h
      have h : (!ltCps y.cps.toList p.cps.toList && PyProof.Rows.risingS y ys) = true := h
      rw [Bool.and_eq_true] at h
      have h2 := ih y h.2
      have h1 : leD p y = true := by
        rw [leD_str, decide_eq_true_eq]
        have := h.1
        rw [PyProof.Rows.ltCps_eq, Bool.not_eq_true', decide_eq_false_iff_not] at this
        exact List.not_lt.mp this
      refine List.pairwise_cons.mpr ⟨fun z hz => ?_, h2⟩
      rcases List.mem_cons.mp hz with rfl | hz
      · exact h1
      · exact leD_total.trans _ _ _ h1 ((List.pairwise_cons.mp h2).1 z hz)
  intro ys h
  match ys, h with
  | [], _ => exact List.Pairwise.nil
  | y :: ys, h => exact key ys y h
/-! rules -/
def skO {β : Type} (d : Dc Str β) : Option (List Str) := if d.l.length < 64 then some (srtD (d.l.map (·.1))) else none
def dmO (a b : Int) : Option (Int × Int × Unit) := if 0 < b ∧ b < 1073741824 then some (a / b, a % b, ()) else none
def strIO (n : Int) : Option Str := if n.natAbs.log2 < 1920 then some ((toString n : String) : Str) else none
def zfO (s : Str) (n : Int) : Option Str := if PadOk n = true then some (Txt.zfill s n) else none
section
variable {K : Fg} {F Kn0 : Hp} {sl sl' : List Sl} {ow ow1 ow2 : List Ow} {α β γ τ : Type} [Rp α] [Rp β] [Rp γ] [Tp τ] {ta : TA} {ta1 tb te ti tk : TE} {D : Ends} {t : TS} {i j : Nat} {p : Addr}
theorem ev_sumVals {d : Dc Str Int} (h : EV K F Kn0 sl ow te d) : EV K F Kn0 sl ow (tSumVals te) (d.l.map (·.2)).sum := fun σ Kn H s Q q => h σ Kn H s _ fun v Kn1 H1 g1 r1 => by
  obtain ⟨p, ws, rfl, h3, h4⟩ := r1
  refine ⟨p, ws, d.l.map (·.2), rfl, rd_ex g1.kh h3, ?_, q _ Kn1 H1 g1 rfl⟩
  unfold DK at h4
  clear h3 q h
  generalize d.l = kvs at h4
  induction h4 with
  | nil => rfl
  | cons r _ ih =>
    rw [List.map_cons, List.map_cons, List.map_cons, ih]
    congr 1
    exact r.2
theorem dk_keys {H : Hp} {ws : List (Key × V)} {kvs : List (Str × β)} (h : DK K H ws kvs) : ws.map (·.1) = (kvs.map (·.1)).map Sum.inr := by
  unfold DK at h
  induction h with
  | nil => rfl
  | cons r _ ih =>
    rw [List.map_cons, List.map_cons, List.map_cons, ih]
    congr 1
    exact r.1
theorem sk_fin {d : Dc Str β} {zs : List Str} (hz : skO d = some zs) {Kn H : Hp} {p : Addr} {ws : List (Key × V)} (ek : Ex Kn H) (hp : Rd H p (.dK ws)) (h4 : DK K Kn ws d.l) {Q : VK} (q : RL K Kn H Q zs) : rSortedK [.ref p] H Q := by
  unfold skO at hz
  split at hz
  case isFalse => cases hz
  rename_i hl
  cases hz
  refine ⟨p, ws, d.l.map (·.1), rfl, hp, dk_keys h4, by rw [List.length_map]; exact hl, fun ys l pm so hl2 => ?_⟩
  have e := srtD_one pm (sortedS_pw ys so)
  subst e
  exact q l _ Kn _ (Gr.newU ek hl2) hl2 (fresh_back ek hl2) upd_same (fl_paired _)
theorem rc_sortK {d : Dc Str β} {zs : List Str} (hz : skO d = some zs) : RCL K rSortedK (d, ()) zs := fun Kn H vs ek hv Q q => by
  obtain ⟨v, rfl, l, ws, rfl, h1, h2⟩ := one_arg hv
  exact sk_fin hz ek (rd_ex ek h1) h2 q
theorem en_sortKO {d : Dc Str β} {zs : List Str} (hi : sl[i]? = some (.at p)) (hj : ow[j]? = some (oo p d)) (hz : skO d = some zs) : EN K F Kn0 sl ow (tCB rSortedK (tCons (tVar i) tNil)) zs := fun σ Kn H s Q q => by
  obtain ⟨o, h1, h2⟩ := s.sl.get hi
  obtain ⟨f1, f2, ob, f3, ws, f4, f5⟩ := s.ow.each _ (List.mem_of_getElem? hj)
  subst f4
  exact ⟨.ref p, by rw [h1]; exact congrArg some h2, sk_fin hz s.ek (Rd.of f3) f5 q⟩
theorem rc_divmod {a b : Int} {r : Int × Int × Unit} (h : dmO a b = some r) : RCV K (fun xs H Q => ∃ i j, xs = [.int i, .int j] ∧ CDiv i j ∧ ∀ p, H p = none → Q (.ref p) (upd H p (.tup [.int (i / j), .int (i % j)]))) (a, b, ()) r := fun Kn H vs ek hv Q q => by
  obtain ⟨v, w, rfl, h1, h2⟩ := two_args hv
  cases h1
  cases h2
  unfold dmO at h
  split at h
  case isFalse => cases h
  rename_i hb
  cases h
  exact ⟨a, b, rfl, hb, fun p hp => q _ _ _ (Gr.new ek hp) ⟨p, _, rfl, upd_same, .int (a / b), _, rfl, rfl, .int (a % b), _, rfl, rfl, rfl⟩⟩
theorem rc_strI {n : Int} {r : Str} (h : strIO n = some r) : RCV K (fun xs H Q => ∃ i, xs = [.int i] ∧ i.natAbs.log2 < 1920 ∧ Q (.str (toString i)) H) (n, ()) r := fun Kn H vs ek hv Q q => by
  obtain ⟨v, rfl, h1⟩ := one_arg hv
  cases h1
  unfold strIO at h
  split at h
  case isFalse => cases h
  rename_i hb
  cases h
  exact ⟨n, rfl, hb, q.fl ek⟩
theorem ev_zfill {x r : Str} {n : Int} (h : EV K F Kn0 sl ow te x) (hn : EV K F Kn0 sl ow tb n) (hz : zfO x n = some r) : EV K F Kn0 sl ow (tBM K "str" (fun x xs H Q => ∃ (a : Str) (i : Int), x = .str a ∧ xs = [.int i] ∧ PadOk i = true ∧ Q (.str (Txt.zfill a i)) H) te (tCons tb tNil)) r := fun σ Kn H s Q q =>
  h σ Kn H s _ fun v Kn1 H1 g1 r1 => by
    cases r1
    refine ⟨rfl, hn σ Kn1 H1 (s.grow g1) _ fun w Kn2 H2 g2 r2 => ?_⟩
    cases r2
    unfold zfO at hz
    split at hz
    case isFalse => cases hz
    rename_i hb
    cases hz
    exact ⟨x, n, rfl, rfl, hb, q _ Kn2 H2 (g1.trans g2) rfl⟩
/-- d[k] += c -/
theorem sb_daug {κ : Type} [Rp κ] [Ky κ] [DecidableEq κ] {d d' : Dc κ Int} {k : κ} {y c : Int} (hi : sl[i]? = some (.at p)) (hj : ow[j]? = some (oo p d)) (hk : EV K F Kn0 sl ow tk k) (hy : getD d.l k = some y) (h : EV K F Kn0 sl ow te c) (hx : putO d k (y + c) = some d') (ho : ow.set j (oo p d') = ow1) (n : SN K F Kn0 sl ow1 D) :
    SB K F Kn0 sl ow D (sDAug (tVar i) tk te L2.rAdd) := fun σ Kn H s => by
  obtain ⟨o, h1, h2⟩ := s.sl.get hi
  refine ⟨.ref p, by rw [h1]; exact congrArg some h2, hk σ Kn H s _ fun w Kn1 H1 g1 r1 => ?_⟩
  have s1 := s.grow g1
  obtain ⟨f1, f2, o1, f3, ws, f4, f5⟩ := s1.ow.each _ (List.mem_of_getElem? hj)
  subst f4
  rcases f5.get k with ⟨q1, q2⟩ | ⟨y2, w2, q1, q2, q3⟩
  · rw [q1] at hy
    cases hy
  · rw [q1] at hy
    cases hy
    refine ⟨p, w2, rfl, q2 ▸ Ky.get r1 s1.ek (Rd.of f3), h σ Kn1 H1 s1 _ fun u Kn2 H2 g2 r2 => ?_⟩
    cases r2
    cases q3
    refine ⟨y, c, rfl, rfl, ?_⟩
    have s2 := s1.grow g2
    have f3' : H2 p = some (Ky.ho ws) := g2.hh _ _ f3
    have f2' : Kn2 p = none := g2.sp p (ne_none_of f3) f2
    unfold putO at hx
    split at hx
    case isFalse => cases hx
    rename_i hl
    cases hx
    subst ho
    refine ⟨_, Ky.put (Rp.mono g2.kk r1) s2.ek f3' (by rw [f5.length]; exact lt_line hl), n _ Kn2 _ ?_⟩
    exact s2.writeG hj rfl rfl (Ex.refl _) (upd_in s2.ek f2') (fun q hq _ => upd_ne hq) (fun _ _ h => h) ⟨_, upd_same, _, rfl, DK.put k rfl (DK.mono g2.kk f5)⟩
/-- xs[n] += c -/
theorem sb_augI {xs xs' : List Int} {n a c : Int} {f : Int → Int → Int} (hi : sl[i]? = some (.at p)) (hj : ow[j]? = some (ol p xs)) (hn : EV K F Kn0 sl ow ti n) (ha : atI xs n = some a) (h : EV K F Kn0 sl ow te c) (hx : setI xs n (f a c) = some xs') (ho : ow.set j (ol p xs') = ow1) (k : SN K F Kn0 sl ow1 D) :
    SB K F Kn0 sl ow D (tAugS (tVar i) ti te (rIxL K) (ipI f) rSetL) := fun σ Kn H s => by
  obtain ⟨o, h1, h2⟩ := s.sl.get hi
  refine ⟨.ref p, by rw [h1]; exact congrArg some h2, hn σ Kn H s _ fun w Kn1 H1 g1 r1 => ?_⟩
  cases r1
  have s1 := s.grow g1
  obtain ⟨f1, f2, ws, f3, f4⟩ := s1.ow.each _ (List.mem_of_getElem? hj)
  obtain ⟨u, e, r⟩ := paired_atI f4 ha
  cases r
  refine ⟨p, ws, n, _, rfl, rfl, sq_of f3, e, h σ Kn1 H1 s1 _ fun v Kn2 H2 g2 r2 => ?_⟩
  cases r2
  refine ⟨a, c, rfl, rfl, ?_⟩
  have s2 := s1.grow g2
  have f3' : H2 p = some (.lst ws) := g2.hh _ _ f3
  have f2' : Kn2 p = none := g2.sp p (ne_none_of f3) f2
  unfold setI at hx
  cases em : ixN xs.length n with
  | none => rw [em] at hx; cases hx
  | some m =>
    rw [em] at hx
    cases hx
    subst ho
    refine ⟨p, ws, n, m, rfl, rfl, f3', by rw [paired_len f4]; exact em, k _ Kn2 _ ?_⟩
    exact s2.write hj (Ex.refl _) (upd_in s2.ek f2') (fun q hq _ => upd_ne hq) (fun _ _ h => h) upd_same (paired_set (show rep K Kn2 (V.int (f a c)) (f a c) from rfl) m (paired_mono g2.kk f4))
/-- a dict of one's own: from now on it is known and stays as it is -/
theorem sb_freezeG {κ : Type} [Rp κ] [Ky κ] [DecidableEq κ] {d : Dc κ β} (hi : sl[i]? = some (.at p)) (hj : ow[j]? = some (oo p d)) (hs : sl.set i (sv d) = sl') (ho : ow.eraseIdx j = ow1) (k : SB K F Kn0 sl' ow1 D t) : SB K F Kn0 sl ow D t := fun σ Kn H s => by
  obtain ⟨ob, kp, hp, s1⟩ := s.borrowG hi hj
  subst hs
  subst ho
  exact k σ _ H s1
theorem k_listGet {X : Cx} (h : X.K = K := by rfl) : PGet X (rIxL K) := h ▸ get_list
end
end Wk
namespace Wk
open PySem PySem.Spec L2 Evl
section
variable {X : Cx} {o i value : Expr} {tpos tpos' : Pos} {td ty tv : TE}
theorem k_daug (hu : X.A.units + 64 < cLine) (ho : PE X o td) (hi : PE X i ty) (hv : PE X value tv) (ha : ∀ ov iv new, augStore i ov iv new = (do holding [new, ov, iv] (setItem ov iv new); release [new, ov, iv] []; pure .next)) : PS X (.AugAssign (.Subscript o i tpos) .Add value tpos') (sDAug td ty tv L2.rAdd) := ps_daug (by omega) ho hi hv in_add ha
end
end Wk
/-! Wbest: max and min of a list of alike data; < and > of alike data; a text many times -/
namespace L2
open PySem PySem.Spec PyProof.Rows
def rBestD (K : PySem.W.Frag) (best : PyData → List PyData → PyData) : List V → Hp → VK → Prop := fun vs H Q => ∃ (a : Addr) (b0 : V × PyData) (bs : List (V × PyData)), vs = [V.ref a] ∧ SqL K H a ((b0 :: bs).map (·.1)) ∧ (∀ b ∈ b0 :: bs, Dp K H b.1 b.2) ∧ PySem.W.AlikeAll ((b0 :: bs).map (·.2)) ∧ PyData.depthAll ((b0 :: bs).map (·.2)) ≤ 60 ∧
  ∀ b ∈ b0 :: bs, b.2 = best b0.2 (bs.map (·.2)) → Q b.1 H
theorem dpAll_of {K : PySem.W.Frag} {H : Hp} : ∀ {bs : List (V × PyData)}, (∀ b ∈ bs, Dp K H b.1 b.2) → DpAll K H (bs.map (·.1)) (bs.map (·.2))
  | [], _ => .nil
  | b :: bs, h => .cons (h b List.mem_cons_self) (dpAll_of fun c hc => h c (List.mem_cons_of_mem _ hc))
theorem best_fin {X : Cx} {pins : List (Addr × Obj)} {σ : St} {H : Hp} {s : Shared} {Q : VK} {bs : List (V × PyData)} {its : List Value} {k : Nat} {v : Value} {d : PyData} {h' : Heap} {tk : Nat} (I : Inv X pins σ H s) (rv : Vals (bs.map (·.1)) its) (hP : its.toArray[k]? = some v)
    (hb : (bs.map (fun b : V × PyData => b.2)).getD k .none = d) (q : ∀ b ∈ bs, b.2 = d → Q b.1 H) (hk : ∀ b o, s.heap.get? b = some o → h'.get? b = some o) : ∃ x H', Inv X pins σ H' { s with heap := h', toks := tk } ∧ RelV x v ∧ Q x H' := by
  have hP : its[k]? = some v := by simpa using hP
  have hl := rv.length
  rw [List.length_map] at hl
  have hlt : k < bs.length := by
    have := (List.getElem?_eq_some_iff.mp hP).1
    omega
  have hx : (bs.map (·.1))[k]? = some (bs[k]).1 := by rw [List.getElem?_map, List.getElem?_eq_getElem hlt]; rfl
  obtain ⟨w, hw, rw'⟩ := rv.get hx
  rw [hP] at hw
  cases hw
  refine ⟨(bs[k]).1, H, I.kept (t' := tk) hk, rw', q _ (List.getElem_mem hlt) ?_⟩
  rw [← hb, List.getD_eq_getElem?_getD, List.getElem?_map, List.getElem?_eq_getElem hlt]
  rfl
theorem cr_maxD {X : Cx} (hc : X.calm = true) (hu : X.A.units + 64 < cLine) : CallR X (.builtin "max") (rBestD X.K PySem.W.maxD) := by
  intro pins s σ H vs us Q I r h
  obtain ⟨a, b0, bs, rfl, hs, hd, hal, hdp, q⟩ := h
  obtain ⟨its, rv, hl, hz⟩ := I.list hs
  rw [Vals.ref1 r]
  obtain ⟨as, hr⟩ := Dp.readsAll I _ _ _ (dpAll_of hd) rv
  have hr' : ReadsAll s.heap its.toArray.toList (b0.2 :: bs.map (·.2)) as := by simpa using hr
  have hn : its.toArray.size = (bs.map (·.2)).length + 1 := PySem.W.readsAll_len hr'
  refine call_max_walkH (PySem.W.iter_listW (A := X.A.in1) (I.ok.hd hc) hl.isList fun s₂ e W st hfp hw hk => ?_)
  refine ⟨_, _, _, _, _, _, _, s.heap, _, rfl, W, st, hfp, by omega, hw, hk, PySem.W.cmpIn_gt (A := X.A.in1) hr' hal (by show X.A.units + 1 + _ < _; exact Nat.lt_of_le_of_lt (Nat.add_le_add_left hdp _) (by omega)), fun v s' hP m => ?_⟩
  obtain ⟨h', tk, rfl, hk'⟩ := PySem.W.moved_old e rfl m
  have e1 : its.toArray.size - 1 = (bs.map (·.2)).length := by omega
  obtain ⟨f1, f2⟩ := PySem.W.argBest_fold (fun a b => PySem.W.dataLt b a) PyData.none b0.2 (bs.map (·.2)) (bs.map (·.2)).length (Nat.le_refl _)
  rw [List.take_length] at f2
  rw [e1] at hP
  rw [← List.map_cons (f := fun b : V × PyData => b.2)] at f1 f2
  have hP : its.toArray[_]? = some v := hP
  exact best_fin I rv hP f2 q hk'
theorem cr_minD {X : Cx} (hc : X.calm = true) (hu : X.A.units + 64 < cLine) : CallR X (.builtin "min") (rBestD X.K PySem.W.minD) := by
  intro pins s σ H vs us Q I r h
  obtain ⟨a, b0, bs, rfl, hs, hd, hal, hdp, q⟩ := h
  obtain ⟨its, rv, hl, hz⟩ := I.list hs
  rw [Vals.ref1 r]
  obtain ⟨as, hr⟩ := Dp.readsAll I _ _ _ (dpAll_of hd) rv
  have hr' : ReadsAll s.heap its.toArray.toList (b0.2 :: bs.map (·.2)) as := by simpa using hr
  have hn : its.toArray.size = (bs.map (·.2)).length + 1 := PySem.W.readsAll_len hr'
  refine call_min_walkH (PySem.W.iter_listW (A := X.A.in1) (I.ok.hd hc) hl.isList fun s₂ e W st hfp hw hk => ?_)
  refine ⟨_, _, _, _, _, _, _, s.heap, _, rfl, W, st, hfp, by omega, hw, hk, PySem.W.cmpIn_lt (A := X.A.in1) hr' hal (by show X.A.units + 1 + _ < _; exact Nat.lt_of_le_of_lt (Nat.add_le_add_left hdp _) (by omega)), fun v s' hP m => ?_⟩
  obtain ⟨h', tk, rfl, hk'⟩ := PySem.W.moved_old e rfl m
  have e1 : its.toArray.size - 1 = (bs.map (·.2)).length := by omega
  obtain ⟨f1, f2⟩ := PySem.W.argBest_fold PySem.W.dataLt PyData.none b0.2 (bs.map (·.2)) (bs.map (·.2)).length (Nat.le_refl _)
  rw [List.take_length] at f2
  rw [e1] at hP
  rw [← List.map_cons (f := fun b : V × PyData => b.2)] at f1 f2
  have hP : its.toArray[_]? = some v := hP
  exact best_fin I rv hP f2 q hk'
/-- < and the like of alike data -/
def rCmpD (K : PySem.W.Frag) (c : PyData → PyData → Bool) : R2 := fun x y H Q => ∃ da db, Dp K H x da ∧ Dp K H y db ∧ PySem.W.alike da db = true ∧ da ≠ .none ∧ da.depth ≤ 60 ∧ Q (.bl (c da db)) H
section
variable {X : Cx}
theorem op_ltD (hu : X.A.units + 64 < cLine) : OpR X (compareOp .Lt) (rCmpD X.K fun a b => PySem.W.dataLt a b) := by
  intro pins s σ H x y v u Q I rx ry h
  obtain ⟨da, db, d1, d2, h1, h2, h3, q⟩ := h
  obtain ⟨as, r1⟩ := Dp.reads I _ _ _ d1 rx
  obtain ⟨bs, r2⟩ := Dp.reads I _ _ _ d2 ry
  exact PySem.W.lt_data r1 r2 h1 h2 (by have := Nat.min_le_left da.depth db.depth; omega) (fin_bl I q rfl)
theorem op_gtD (hu : X.A.units + 64 < cLine) : OpR X (compareOp .Gt) (rCmpD X.K fun a b => PySem.W.dataLt b a) := by
  intro pins s σ H x y v u Q I rx ry h
  obtain ⟨da, db, d1, d2, h1, h2, h3, q⟩ := h
  obtain ⟨as, r1⟩ := Dp.reads I _ _ _ d1 rx
  obtain ⟨bs, r2⟩ := Dp.reads I _ _ _ d2 ry
  exact PySem.W.gt_data r1 r2 h1 h2 (by have := Nat.min_le_left da.depth db.depth; omega) (fin_bl I q rfl)
/-- a text, n times -/
def rMulS : R2 := fun x y H Q => ∃ (t : Str) (n : Int), x = .str t ∧ y = .int n ∧ MulOk t n ∧ Q (.str (Txt.mul t n)) H
theorem op_mulS : OpR X (binaryOp .Mult) rMulS := by
  intro pins s σ H x y v u Q I rx ry h
  obtain ⟨t, n, rfl, rfl, hk, q⟩ := h
  obtain ⟨t1, rfl⟩ := rx
  obtain ⟨t2, rfl⟩ := ry
  exact SB.mul hk fun t' k => ⟨.str (Txt.mul t n), H, I.tok k, ⟨t', rfl⟩, q⟩
end
end L2
namespace Wk
open PySem PySem.Spec L2 Evl
def bestT {α : Type} (lt : α → α → Bool) : List α → Option α
  | [] => none
  | x :: xs => some (xs.foldl (fun a y => if lt y a = true then y else a) x)
def ltD {α : Type} [Rp α] [Pd α] (a b : α) : Bool := PySem.W.dataLt (Pd.toD a) (Pd.toD b)
/-- the least, the greatest, the first where there are more -/
def minT {α : Type} [Rp α] [Pd α] (xs : List α) : Option α := if Pd.dp α ≤ 59 then bestT ltD xs else none
def maxT {α : Type} [Rp α] [Pd α] (xs : List α) : Option α := if Pd.dp α ≤ 59 then bestT (fun a b => ltD b a) xs else none
def mulS (t : Str) (n : Int) : Option Str := if t.length ≤ 10000 ∧ 0 ≤ n ∧ n ≤ 1000 then some (Txt.mul t n) else none
def ltO {α : Type} [Rp α] [Pd α] (a b : α) : Option Bool := if Pd.dp α ≤ 60 then some (ltD a b) else none
theorem toD_inj {α : Type} [Rp α] [Pd α] {a b : α} (h : Pd.toD a = Pd.toD b) : a = b := by
  have := (Pd.eqd a a).mpr rfl
  rw [h] at this
  rw [← h] at this
  have h2 : PyData.eqv (Pd.toD a) (Pd.toD b) = true := by rw [← h]; exact (Pd.eqd a a).mpr rfl
  exact (Pd.eqd _ _).mp h2
theorem fold_toD {α : Type} [Rp α] [Pd α] (g : PyData → PyData → Bool) (f : α → α → Bool) (hf : ∀ a b, f a b = g (Pd.toD a) (Pd.toD b)) : ∀ (xs : List α) (x : α), (xs.map Pd.toD).foldl (fun a y => if g y a = true then y else a) (Pd.toD x) = Pd.toD (xs.foldl (fun a y => if f y a = true then y else a) x)
  | [], _ => rfl
  | y :: ys, x => by
    rw [List.map_cons, List.foldl_cons, List.foldl_cons, ← fold_toD g f hf ys, hf]
    congr 1
    split <;> rfl
theorem depth_all : ∀ (ds : List PyData) (n : Nat), (∀ d ∈ ds, d.depth ≤ n) → PyData.depthAll ds ≤ n
  | [], _, _ => Nat.zero_le _
  | d :: ds, n, h => by
    have := h d List.mem_cons_self
    have := depth_all ds n fun e he => h e (List.mem_cons_of_mem _ he)
    unfold PyData.depthAll
    omega
section
variable {K : Fg} {F Kn0 : Hp} {sl sl' : List Sl} {ow ow1 : List Ow} {α β : Type} [Rp α] [Pd α] [Al α] [So α]
theorem toD_nn (a : α) : Pd.toD a ≠ .none := by
  rcases (So.so : _ ∨ ∀ a : α, _) with h | h
  · obtain ⟨x, r, e⟩ := h a
    rw [e]
    exact fun z => nomatch z
  · exact (h a).1
theorem rc_best {lt : α → α → Bool} {best : PyData → List PyData → PyData} (hb : ∀ (x : α) (xs : List α), best (Pd.toD x) (xs.map Pd.toD) = Pd.toD (xs.foldl (fun a y => if lt y a = true then y else a) x)) {xs : List α} {z : α} (h : (if Pd.dp α ≤ 59 then bestT lt xs else none) = some z) : RCV K (rBestD K best) (xs, ()) z := fun Kn H vs ek hv Q q => by
  split at h
  case isFalse => cases h
  rename_i hl
  obtain ⟨v, rfl, l, ws, rfl, h1, h2⟩ := one_arg hv
  obtain ⟨ps, e1, e2, e3⟩ := paired_zip h2
  cases ps with
  | nil =>
    cases e2
    cases h
  | cons c ps =>
    subst e1
    subst e2
    have h : some _ = some z := h
    cases h
    refine ⟨l, (c.1, Pd.toD c.2), ps.map fun c => (c.1, Pd.toD c.2), rfl, ?_, fun b hb => ?_, ?_, ?_, fun b hm he => ?_⟩
    · have := sq_of (K := K) (ek _ _ h1)
      rw [← List.map_cons (f := fun c : V × α => ((c.1, Pd.toD c.2) : V × PyData)), List.map_map]
      exact this
    · rw [← List.map_cons (f := fun c : V × α => ((c.1, Pd.toD c.2) : V × PyData))] at hb
      obtain ⟨c', hc, rfl⟩ := List.mem_map.mp hb
      exact Pd.isD (Rp.mono ek (e3 c' hc))
    · rw [← List.map_cons (f := fun c : V × α => ((c.1, Pd.toD c.2) : V × PyData)), List.map_map]
      refine ⟨fun d hd e he => ?_, fun d hd => ?_⟩
      · obtain ⟨c1, _, rfl⟩ := List.mem_map.mp hd
        obtain ⟨c2, _, rfl⟩ := List.mem_map.mp he
        exact Al.al _ _
      · obtain ⟨c1, _, rfl⟩ := List.mem_map.mp hd
        exact toD_nn _
    · rw [← List.map_cons (f := fun c : V × α => ((c.1, Pd.toD c.2) : V × PyData)), List.map_map]
      refine depth_all _ _ fun d hd => ?_
      obtain ⟨c1, _, rfl⟩ := List.mem_map.mp hd
      exact Nat.le_trans (Pd.dep _) (by omega)
    · rw [← List.map_cons (f := fun c : V × α => ((c.1, Pd.toD c.2) : V × PyData))] at hm
      obtain ⟨c', hc, rfl⟩ := List.mem_map.mp hm
      have he : Pd.toD c'.2 = best (Pd.toD c.2) ((ps.map fun c => ((c.1, Pd.toD c.2) : V × PyData)).map (·.2)) := he
      have e4 : (ps.map fun c => ((c.1, Pd.toD c.2) : V × PyData)).map (·.2) = (ps.map (·.2)).map Pd.toD := by rw [List.map_map, List.map_map]; rfl
      rw [e4, hb] at he
      have := toD_inj he
      have h5 := e3 c' hc
      rw [this] at h5
      exact q.at ek h5
theorem rc_minT {xs : List α} {z : α} (h : minT xs = some z) : RCV K (rBestD K PySem.W.minD) (xs, ()) z := rc_best (lt := ltD) (fun x xs => fold_toD (fun a b => PySem.W.dataLt a b) ltD (fun _ _ => rfl) xs x) h
theorem rc_maxT {xs : List α} {z : α} (h : maxT xs = some z) : RCV K (rBestD K PySem.W.maxD) (xs, ()) z := rc_best (lt := fun a b => ltD b a) (fun x xs => fold_toD (fun a b => PySem.W.dataLt b a) (fun a b => ltD b a) (fun _ _ => rfl) xs x) h
theorem r2_ltD {a b : α} {r : Bool} (h : ltO a b = some r) : R2V K (rCmpD K fun a b => PySem.W.dataLt a b) a b r := fun Kn H v w ek h1 h2 Q q => by
  unfold ltO at h
  split at h
  case isFalse => cases h
  rename_i hl
  cases h
  exact ⟨_, _, Pd.isD (Rp.mono ek h1), Pd.isD (Rp.mono ek h2), Al.al _ _, toD_nn _, Nat.le_trans (Pd.dep _) hl, q.fl ek⟩
theorem r2_gtD {a b : α} {r : Bool} (h : ltO b a = some r) : R2V K (rCmpD K fun a b => PySem.W.dataLt b a) a b r := fun Kn H v w ek h1 h2 Q q => by
  unfold ltO at h
  split at h
  case isFalse => cases h
  rename_i hl
  cases h
  exact ⟨_, _, Pd.isD (Rp.mono ek h1), Pd.isD (Rp.mono ek h2), Al.al _ _, toD_nn _, Nat.le_trans (Pd.dep _) hl, q.fl ek⟩
theorem r2_mulS {t z : Str} {n : Int} (h : mulS t n = some z) : R2V K rMulS t n z := fun Kn H v w ek h1 h2 Q q => by
  cases h1
  cases h2
  unfold mulS at h
  split at h
  case isFalse => cases h
  rename_i hl
  cases h
  refine ⟨t, n, rfl, rfl, ⟨?_, fun h3 h4 => ?_, fun h3 h4 => ?_⟩, q.fl ek⟩
  · rw [Bool.or_eq_false_iff, decide_eq_false_iff_not, decide_eq_false_iff_not]
    omega
  · have h5 : (9007199254740993 : Int) ≤ (2 ^ 63 - 1) / n := by
      rw [Int.le_ediv_iff_mul_le (by omega)]
      omega
    have := hl.1
    omega
  · unfold Builtin.Str.tooLong
    rw [decide_eq_false_iff_not]
    have a1 : n.toNat ≤ 1000 := by omega
    have : t.length * n.toNat ≤ 10000 * 1000 := Nat.mul_le_mul hl.1 a1
    have l := le_line (n := 1000000) (by omega)
    rw [sizeLine_eq]
    omega
theorem k_maxT {X : Cx} (hc : X.calm = true) (hu : X.A.units + 64 < cLine) (h : X.K = K := by rfl) : CallR X (.builtin "max") (rBestD K PySem.W.maxD) := h ▸ cr_maxD hc hu
theorem k_minT {X : Cx} (hc : X.calm = true) (hu : X.A.units + 64 < cLine) (h : X.K = K := by rfl) : CallR X (.builtin "min") (rBestD K PySem.W.minD) := h ▸ cr_minD hc hu
theorem k_ltD {X : Cx} (hu : X.A.units + 64 < cLine) (h : X.K = K := by rfl) : OpR X (compareOp .Lt) (rCmpD K fun a b => PySem.W.dataLt a b) := h ▸ op_ltD hu
theorem k_gtD {X : Cx} (hu : X.A.units + 64 < cLine) (h : X.K = K := by rfl) : OpR X (compareOp .Gt) (rCmpD K fun a b => PySem.W.dataLt b a) := h ▸ op_gtD hu
end
end Wk
/-! Wupd: dict(pairs) and d.update(d2) with tuple keys. -/
namespace L2
open PySem PySem.Spec PyProof.Rows
def mergeT (kvs more : List (List Key × V)) : List (List Key × V) := more.foldl (fun acc kv => putK acc kv.1 kv.2) kvs
theorem length_mergeT : ∀ (more kvs : List (List Key × V)), (mergeT kvs more).length ≤ kvs.length + more.length
  | [], kvs => Nat.le_refl _
  | p :: r, kvs => by
    have h1 := length_mergeT r (putK kvs p.1 p.2)
    have h2 := length_putK kvs p.1 p.2
    show (mergeT (putK kvs p.1 p.2) r).length ≤ _
    rw [List.length_cons]
    omega
theorem KT.merge {H : Hp} : ∀ {more : List (List Key × V)} {ms : List (List Key × Addr × Value)} {kvs : List (List Key × V)} {xs : List (List Key × Addr × Value)}, KT H more ms → KT H kvs xs → KT H (mergeT kvs more) (storedAllH xs ms) := by
  intro more ms kvs xs r
  unfold KT at r
  induction r generalizing kvs xs with
  | nil => intro q; exact q
  | @cons p q ps qs h t ih =>
    intro r0
    have e : KT H (putK kvs p.1 p.2) (storedH xs q.1 q.2.1 q.2.2) := by
      have := r0.put p.1 h.2.1 h.2.2
      rw [← h.1]
      exact this
    exact ih e
section
variable {X : Cx} {pins : List (Addr × Obj)} {σ : St} {H : Hp} {s : Shared}
theorem pairsT_of (I : Inv X pins σ H s) : ∀ {ps : List Addr} {kvs : List (List Key × V)}, Paired (fun p kv => ∃ b, SqT X.K H p [.ref b, kv.2] ∧ H b = some (.tup (kv.1.map kV))) ps kvs →
    ∃ ms : List (List Key × Addr × Value), KT H kvs ms ∧ ms.length = ps.length ∧ ∀ (j : Nat) (m : List Key × Addr × Value), ms[j]? = some m → ∃ p : Addr, ps[j]? = some p ∧ IsTup s.heap p #[.ref m.2.1, m.2.2]
  | _, _, .nil => ⟨[], .nil, rfl, fun j q e => by simp at e⟩
  | _, _, .cons (a := p) (b := kv) h t => by
    obtain ⟨ms, r, hl, hp⟩ := pairsT_of I t
    obtain ⟨b, h1, h2⟩ := h
    obtain ⟨its, rv, ht, _⟩ := I.tuple h1
    obtain ⟨u, y, ei, ru, ry⟩ := vals2 rv
    subst ei
    cases ru
    refine ⟨(kv.1, b, y) :: ms, .cons ⟨rfl, h2, ry⟩ r, by rw [List.length_cons, List.length_cons, hl], fun j m e => ?_⟩
    cases j with
    | zero =>
      have e' : (kv.1, b, y) = m := Option.some.inj e
      subst e'
      exact ⟨p, rfl, ht⟩
    | succ j =>
      obtain ⟨p', e1, e2⟩ := hp j m (by simpa using e)
      exact ⟨p', by simpa using e1, e2⟩
theorem KT.is_all (I : Inv X pins σ H s) : ∀ {kvs : List (List Key × V)} {ms : List (List Key × Addr × Value)}, KT H kvs ms → ∀ x ∈ ms, (tupleKind (mixKind X.prog X.w)).is s.heap x.1 x.2.1 := by
  intro kvs ms q
  unfold KT at q
  induction q with
  | nil => intro x hx; exact nomatch hx
  | @cons p q ps qs hq t ih =>
    intro x hx
    rcases List.mem_cons.mp hx with e | hx
    · subst e
      exact key_of I.hok (by rw [← hq.1]; exact hq.2.1)
    · exact ih x hx
theorem key_stays {P : Program} {w : World} {h h' : Heap} {k : List Key} {b : Addr} (x : (tupleKind (mixKind P w)).is h k b) (e : ∀ o, h.get? b = some o → h'.get? b = some o) : (tupleKind (mixKind P w)).is h' k b := by
  obtain ⟨o, its, n, h1, h2, h3, h4⟩ := x
  exact ⟨o, its, n, e _ h1, h2, h3, h4⟩
theorem key_there {P : Program} {w : World} {h : Heap} {k : List Key} {b : Addr} (x : (tupleKind (mixKind P w)).is h k b) : b < h.objs.size := by
  obtain ⟨o, its, n, h1, h2, h3, h4⟩ := x
  exact Heap.lt_size h1
end
section
variable {X : Cx}
/-- dict(xs), xs a list of pairs whose keys are tuples -/
def rDictT (K : PySem.W.Frag) : List V → Hp → VK → Prop := fun xs H Q => ∃ (a : Addr) (ps : List Addr) (kvs : List (List Key × V)), xs = [.ref a] ∧ SqL K H a (ps.map V.ref) ∧ Paired (fun p kv => ∃ b, SqT K H p [.ref b, kv.2] ∧ H b = some (.tup (kv.1.map kV))) ps kvs ∧
    ∀ p, H p = none → Q (.ref p) (upd H p (.dT (mergeT [] kvs)))
theorem cr_dictT (hcalm : X.calm = true) (hu : X.A.units + 64 < cLine) : CallR X (.type "dict") (rDictT X.K) := by
  intro pins s σ H xs us Q I r q
  obtain ⟨a, ps, kvs, ex, hq, hp, q⟩ := q
  subst ex
  rw [Vals.ref1 r]
  obtain ⟨its, rv, pl, hz⟩ := I.list hq
  have ei := refs_at rv
  subst ei
  rw [List.length_map] at hz
  obtain ⟨ms, rel, hl, hpr⟩ := pairsT_of I hp
  obtain ⟨o, n, ho, hc, hd, hdat⟩ := pl
  have hall := KT.is_all I rel
  have hprs : (ms.map fun m => ((Value.ref m.2.1, m.2.2) : Value × Value)).length = ms.length := List.length_map _
  refine call_dict_pairsH (knd := tupleKind (mixKind X.prog X.w)) (ps := ms) (PairArg.list a (ps.map Value.ref).toArray (fun j => ps.getD j 0) (ms.map fun m => ((Value.ref m.2.1, m.2.2) : Value × Value))) (I.ok.hd hcalm)
    (show X.A.units + 1 + 1 < cLine by omega) ⟨⟨o, n, ho, hc, hd, hdat⟩, by simp [hl], fun j k v e => ?_⟩ ⟨by rw [hprs], fun i key v e => ?_⟩ (fun h' hk x hx => ?_) (by rw [hprs, hl]; exact hz) fun h' tk dd' k => ?_
  · rw [List.getElem?_map] at e
    cases em : ms[j]? with
    | none => rw [em] at e; cases e
    | some m =>
      rw [em] at e
      cases e
      obtain ⟨p, e1, e2⟩ := hpr j m em
      have eg : ps.getD j 0 = p := by rw [List.getD_eq_getElem?_getD, e1]; rfl
      refine ⟨by simp [e1], ?_⟩
      show PairAt s.heap (ps.getD j 0) _ _
      rw [eg]
      exact .inl e2
  · have e : (ms.map fun m => ((Value.ref m.2.1, m.2.2) : Value × Value))[i]? = some (key, v) := e
    rw [List.getElem?_map] at e
    cases em : ms[i]? with
    | none => rw [em] at e; cases e
    | some m =>
      rw [em] at e
      cases e
      exact ⟨m.1, m.2.1, rfl, rfl⟩
  · exact key_stays (hall x hx) fun o e => hk _ o (Nat.ne_of_lt (key_there (hall x hx))) (by simp) e
  · have hm : (s.heap.objs.size == sysModules) = false := beq_eq_false_iff_ne.mpr (Nat.ne_of_gt I.big)
    have hlen : (mergeT [] kvs).length ≤ sizeLine := by
      refine Nat.le_trans (length_mergeT kvs []) ?_
      rw [List.length_nil, Nat.zero_add, Paired.length rel, hl]
      exact hz
    have hf : H s.heap.objs.size = none := I.hok.fresh (Nat.le_refl _)
    obtain ⟨ob, es, ep, hq2, h2, h3, h4, _, h5⟩ := dd'
    have rel2 : KT (upd H s.heap.objs.size (.dT (mergeT [] kvs))) (mergeT [] kvs) (storedAllH [] ms) := (KT.merge rel .nil).keeps fun b ys e => by
      rw [upd_ne (ne_of_none e hf)]
      exact e
    exact ⟨.ref s.heap.objs.size, upd H s.heap.objs.size (.dT (mergeT [] kvs)), I.laid (t' := tk) (fun b o e => k b o (by simp) e) (Nat.le_refl _) ⟨hlen, hm, _, rel2, ob, es, ep, hq2, h2, h3, h4, h5⟩, rfl, q _ hf⟩
/-- d.update(d2), both with tuple keys -/
def rUpdT (P : Program) (w : World) : V → List V → Hp → VK → Prop := fun x xs H Q => ∃ (a o : Addr) (kvs more : List (List Key × V)), x = .ref a ∧ xs = [.ref o] ∧ H a = some (.dT kvs) ∧ H o = some (.dT more) ∧ a ≠ o ∧ kvs.length + more.length ≤ sizeLine ∧
  (kvs ≠ [] ∨ (more.map fun kv => tupleKeyHash (mixKind P w) kv.1).Nodup) ∧ Q .non (upd H a (.dT (mergeT kvs more)))
theorem mt_updT (hu : X.A.units + 64 < cLine) : MtR X "dict.update" (rUpdT X.prog X.w) := by
  intro pins s σ H x xs v us Q I rx rxs h
  obtain ⟨a, o, kvs, more, rfl, rfl, ha, ho, hao, hsz, hap, q⟩ := h
  cases rx
  rw [Vals.ref1 rxs]
  obtain ⟨z1, hd1, xs1, rel1, dd1⟩ := dt_of I.hok ha
  obtain ⟨z2, hd2, xs2, rel2, dd2⟩ := dt_of I.hok ho
  have l1 := Paired.length rel1
  have l2 := Paired.length rel2
  have hall := KT.is_all I rel2
  refine call_update_dictH (knd := tupleKind (mixKind X.prog X.w)) (show X.A.units + 1 < cLine by omega) hao hd2 dd1 dd2 ?_ (by rw [← l1, ← l2]; exact hsz) fun h' dd' _ hs => ?_
  · rcases hap with h | h
    · refine .inl fun e => h ?_
      rw [e] at l1
      exact List.length_eq_zero_iff.mp l1
    · refine .inr ⟨fun x hx => IsTupleKey.typeIs (hall x hx), ?_⟩
      have e : xs2.map (fun x => (tupleKind (mixKind X.prog X.w)).hash x.1) = more.map fun kv => tupleKeyHash (mixKind X.prog X.w) kv.1 := by
        clear h hsz l1 l2 hall dd2 ho q z2
        unfold KT at rel2
        induction rel2 with
        | nil => rfl
        | cons h t ih =>
          rw [List.map_cons, List.map_cons, ih, h.1]
          rfl
      rw [e]
      exact h
  · have hlen : (mergeT kvs more).length ≤ sizeLine := Nat.le_trans (length_mergeT more kvs) hsz
    obtain ⟨ob, es, ep, hq2, h2, h3, h4, _, h5⟩ := dd'
    have rel3 : KT (upd H a (.dT (mergeT kvs more))) (mergeT kvs more) (storedAllH xs1 xs2) := (KT.merge rel2 rel1).keeps fun c ys ec => by
      rw [upd_ne (ne_of ec ha (fun z => nomatch z))]
      exact ec
    exact ⟨.non, upd H a (.dT (mergeT kvs more)), d_write (ob := .dT (mergeT kvs more)) (t' := s.toks) I (by rw [ha]; exact True.intro) hs ⟨ob, hq2⟩ ⟨hlen, hd1, _, rel3, ob, es, ep, hq2, h2, h3, h4, h5⟩, rfl, q⟩
end
end L2
namespace Wk
open PySem PySem.Spec L2 Evl
abbrev C2 := Int × Int × Unit
def hash2 (x : C2) : Int := reduceHash (Builtin.Tuple.tupleHashOf [hashInt x.1, hashInt x.2.1])
def prs {β : Type} (more : List (C2 × β × Unit)) : List (C2 × β) := more.map fun t => (t.1, t.2.1)
open Classical in
noncomputable def updO {β : Type} (d : Dc C2 β) (more : List (C2 × β × Unit)) : Option (Dc C2 β) :=
  if d.l.length + more.length ≤ 900000 ∧ (d.l ≠ [] ∨ ((mergeD [] (prs more)).map fun t => hash2 t.1).Nodup) then some ⟨mergeD d.l (mergeD [] (prs more))⟩ else none
section
variable {K : Fg} {F Kn0 : Hp} {sl : List Sl} {ow ow1 : List Ow} {β : Type} [Rp β] {te : TE} {D : Ends} {i j : Nat} {p : Addr} {P : Program} {w : World}
theorem prs_of {Kn H : Hp} (e : Ex Kn H) : ∀ {vs : List V} {more : List (C2 × β × Unit)}, Paired (rep K Kn) vs more → ∃ (ps : List Addr) (kvs : List (List Key × V)), vs = ps.map V.ref ∧
    Paired (fun p kv => ∃ b, SqT K H p [.ref b, kv.2] ∧ H b = some (.tup (kv.1.map kV))) ps kvs ∧ DK (κ := C2) K Kn kvs (prs more)
  | _, _, .nil => ⟨[], [], rfl, .nil, .nil⟩
  | _, _, .cons (a := v) (b := t) h r => by
    obtain ⟨ps, kvs, e1, e2, e3⟩ := prs_of e r
    obtain ⟨q, ws, rfl, hq, kv, rest, rfl, hk, yv, rest2, rfl, hy, hu⟩ := h
    cases hu
    obtain ⟨b, us, rfl, hb, h3⟩ := hk
    have hus : us = (KT1.keys t.1).map kV := KT1.iff (τ := C2) h3
    subst hus
    refine ⟨q :: ps, (KT1.keys t.1, yv) :: kvs, by rw [e1]; rfl, .cons ⟨b, st_of (e _ _ hq), e _ _ hb⟩ e2, .cons ⟨rfl, hy⟩ e3⟩
theorem DK.mergeT {Kn : Hp} : ∀ {ms : List (List Key × V)} {more : List (C2 × β)} {ws : List (List Key × V)} {kvs : List (C2 × β)}, DK (κ := C2) K Kn ms more → DK (κ := C2) K Kn ws kvs → DK (κ := C2) K Kn (L2.mergeT ws ms) (mergeD kvs more) := by
  intro ms more ws kvs h
  unfold DK at h
  induction h generalizing ws kvs with
  | nil => exact fun h => h
  | @cons w kv ms more h t ih =>
    intro q
    refine ih ?_
    show DK (κ := C2) K Kn (putK ws w.1 w.2) (putD kvs kv.1 kv.2)
    rw [h.1]
    exact DK.put kv.1 h.2 q
theorem DK.hash {Kn : Hp} : ∀ {ms : List (List Key × V)} {more : List (C2 × β)}, DK (κ := C2) K Kn ms more → (ms.map fun kv => tupleKeyHash (mixKind P w) kv.1) = more.map fun t => hash2 t.1 := by
  intro ms more h
  unfold DK at h
  induction h with
  | nil => rfl
  | cons h t ih =>
    rw [List.map_cons, List.map_cons, ih, h.1]
    rfl
theorem sb_upd {d d' : Dc C2 β} {more : List (C2 × β × Unit)} (hi : sl[i]? = some (.at p)) (hj : ow[j]? = some (oo p d)) (h : EV K F Kn0 sl ow te more) (hx : updO d more = some d') (ho : ow.set j (oo p d') = ow1) (n : SN K F Kn0 sl ow1 D) :
    SB K F Kn0 sl ow D (tDrop (tBM K "dict" (rUpdT P w) (tVar i) (tCons (tCB (rDictT K) (tCons te tNil)) tNil))) := fun σ Kn H s => by
  obtain ⟨o, h1, h2⟩ := s.sl.get hi
  obtain ⟨f1, f2, o1, f3, ws, f4, f5⟩ := s.ow.each _ (List.mem_of_getElem? hj)
  subst f4
  have f3 : H p = some (.dT ws) := f3
  unfold updO at hx
  split at hx
  · case isTrue hc =>
    cases hx
    subst ho
    refine ⟨.ref p, by rw [h1]; exact congrArg some h2, .inr (.inr (.inl ⟨rfl, .inr ⟨ws, f3⟩⟩)), h σ Kn H s _ fun v Kn1 H1 g1 r1 => ?_⟩
    obtain ⟨a, vs, rfl, ha, hv⟩ := r1
    obtain ⟨ps, kvs, rfl, e2, e3⟩ := prs_of g1.kh hv
    refine ⟨a, ps, kvs, rfl, sq_of (g1.kh _ _ ha), e2, fun p2 hp2 => ?_⟩
    have s1 := s.grow g1
    have g2 : Gr Kn1 H1 Kn1 (upd H1 p2 (.dT (L2.mergeT [] kvs))) := Gr.newU g1.kh hp2
    have s2 := s1.grow g2
    have hp1 : H1 p = some (.dT ws) := g1.hh _ _ f3
    have hne : p ≠ p2 := fun z => by
      rw [z, hp2] at hp1
      cases hp1
    have hH2 : (upd H1 p2 (.dT (L2.mergeT [] kvs))) p = some (.dT ws) := by
      rw [upd_ne hne]
      exact hp1
    have f6 : DK (κ := C2) K Kn1 ws d.l := DK.mono g1.kk f5
    have e4 : DK (κ := C2) K Kn1 (L2.mergeT [] kvs) (mergeD [] (prs more)) := DK.mergeT e3 .nil
    have l1 : ws.length = d.l.length := f6.length
    have l2 : kvs.length = more.length := by
      rw [e3.length]
      exact List.length_map _
    have l3 := length_mergeT kvs []
    rw [List.length_nil] at l3
    have kp : Kn1 p = none := g1.sp p (ne_none_of f3) f2
    refine ⟨p, p2, ws, L2.mergeT [] kvs, rfl, rfl, hH2, upd_same, hne, ?_, ?_, n _ Kn1 _ ?_⟩
    · have hs : sizeLine ≥ 1000000 := by rw [sizeLine_eq]; decide
      omega
    · rcases hc.2 with hc | hc
      · refine .inl fun z => hc ?_
        rw [z] at l1
        exact List.length_eq_zero_iff.mp l1.symm
      · refine .inr ?_
        rw [DK.hash e4]
        exact hc
    · exact s2.writeG hj rfl rfl (Ex.refl _) (upd_in s2.ek kp) (fun q hq _ => upd_ne hq) (fun _ _ h => h) ⟨_, upd_same, _, rfl, DK.mergeT e4 f6⟩
  · cases hx
end
section
variable {X : Cx} {K : Fg} {P : Program} {w : World}
theorem k_dictT (hu : X.A.units + 64 < cLine) (hc : X.calm = true := by rfl) (h : X.K = K := by rfl) : CallR X (.type "dict") (rDictT K) := by
  subst h
  exact cr_dictT hc hu
theorem k_updT (hu : X.A.units + 64 < cLine) (h : X.prog = P := by rfl) (hw : X.w = w := by rfl) : MtR X "dict.update" (rUpdT P w) := by
  subst h
  subst hw
  exact mt_updT hu
end
end Wk
namespace Wk
open PySem PySem.Spec L2 Evl
/-- a list with a None put behind -/
structure Nx (α : Type) where
  l : List α
section
variable {K : Fg} {F Kn0 : Hp} {sl : List Sl} {ow ow1 : List Ow} {α γ : Type} [Rp α] [Rp γ] {te : TE} {D : Ends} {i j : Nat} {p : Addr}
instance obNx : Ob (Nx α) where
  ob K H o x := ∃ ws, o = .lst (ws ++ [.non]) ∧ Paired (rep K H) ws x.l
  swap e h := by
    obtain ⟨ws, h1, h2⟩ := h
    exact ⟨ws, h1, paired_swap e h2⟩
theorem sb_appN {xs : List α} (hi : sl[i]? = some (.at p)) (hj : ow[j]? = some (ol p xs)) (h : EV K F Kn0 sl ow te Nn.nn) (hz : (if xs.length < 1000000 then some () else none) = some ()) (ho : ow.set j (oo p (Nx.mk xs)) = ow1) (k : SN K F Kn0 sl ow1 D) :
    SB K F Kn0 sl ow D (tDrop (tBM K "list" rAppend (tVar i) (tCons te tNil))) := fun σ Kn H s => by
  obtain ⟨o, h1, h2⟩ := s.sl.get hi
  obtain ⟨f1, f2, ws, f3, f4⟩ := s.ow.each _ (List.mem_of_getElem? hj)
  have hz : xs.length < 1000000 := by
    by_cases e : xs.length < 1000000
    · exact e
    · rw [if_neg e] at hz
      cases hz
  refine ⟨.ref p, by rw [h1]; exact congrArg some h2, Or.inl ⟨rfl, ws, sq_of f3⟩, h σ Kn H s _ fun v Kn1 H1 g1 r1 => ?_⟩
  cases r1
  refine ⟨p, ws, .non, rfl, rfl, g1.hh _ _ f3, by rw [paired_len f4]; exact lt_line hz, k _ Kn1 _ ?_⟩
  have kp1 : Kn1 p = none := g1.sp p (ne_none_of f3) f2
  subst ho
  exact (s.grow g1).writeG hj rfl rfl (Ex.refl _) (upd_in g1.kh kp1) (fun q hq _ => upd_ne hq) (fun _ _ h => h) ⟨_, upd_same, ws, rfl, paired_mono g1.kk f4⟩
theorem cut_snoc (ws : List V) (v : V) : cut (ws ++ [v]) none (some (-(1 : Int))) = ws := by
  unfold cut
  rw [HT.sIx_none, List.drop_zero, Nat.sub_zero]
  have e : HT.sIx (ws ++ [v]).length (ws ++ [v]).length (some (-(1 : Int))) = (-(1 : Int) + ((ws ++ [v]).length : Int)).toNat := rfl
  rw [e, List.length_append, List.length_singleton, show (-(1 : Int) + ((ws.length + 1 : Nat) : Int)).toNat = ws.length by omega]
  exact List.take_left
theorem en_slN {xs : List α} {tl th : TO} (hx : sl[i]? = some (.at p)) (hj : ow[j]? = some (oo p (Nx.mk xs))) (hl : EO K F Kn0 sl ow tl none) (hh : EO K F Kn0 sl ow th (some (-(1 : Int)))) : EN K F Kn0 sl ow (tSl (rSlL K) (tVar i) tl th) xs := fun σ Kn H s Q q => by
  obtain ⟨o, h1, h2⟩ := s.sl.get hx
  obtain ⟨f1, f2, o1, f3, ws, f4, f5⟩ := s.ow.each _ (List.mem_of_getElem? hj)
  subst f4
  have f3 : H p = some (.lst (ws ++ [.non])) := f3
  refine ⟨.ref p, by rw [h1]; exact congrArg some h2, hl σ Kn H s _ fun Kn2 H2 g2 => hh σ Kn2 H2 (s.grow g2) _ fun Kn3 H3 g3 => ?_⟩
  have g := g2.trans g3
  refine ⟨p, ws ++ [.non], rfl, sq_of (g.hh _ _ f3), fun l hl => ?_⟩
  have e : cutV (ws ++ [V.non]) none (some (-(1 : Int))) = ws := cut_snoc ws .non
  exact q l _ Kn3 _ (g.trans (Gr.newU g3.kh hl)) (fresh_back g.hh hl) (fresh_back g3.kh hl) upd_same (by rw [e]; exact paired_mono g.kk f5)
end
end Wk
namespace Wk
open PySem PySem.Spec L2 Evl
/-- more is untouched -/
def Fle (F F' : Hp) : Prop := Ex F F'
section
variable {K : Fg} {F F' Kn0 : Hp} {sl sl' : List Sl} {ow ow0 ow1 : List Ow} {α γ : Type} [Rp α] [Rp γ] {D : Ends} {i j : Nat} {p : Addr}
theorem S.back {σ : L2.St} {Kn H : Hp} (f : Fle F F') (s : S K F' Kn0 sl ow σ Kn H) : S K F Kn0 sl ow σ Kn H :=
  ⟨s.e0, s.ek, Ex.trans f s.ef, fun q h1 h2 => s.sep q (Ex.nn f h1) h2, s.sl, ⟨fun o ho => by
    obtain ⟨h1, h2, h3⟩ := s.ow.each o ho
    exact ⟨fresh_back f h1, h2, h3⟩, s.ow.nd⟩⟩
theorem RT.fr {R : VK} {x : γ} (f : Fle F F') (q : RT K F Kn0 ow0 R x) : RT K F' Kn0 ow0 R x := fun v Kn H s r => q v Kn H (s.back f) r
theorem RN.fr {R : VK} {xs : List γ} (f : Fle F F') (q : RN K F Kn0 ow0 R xs) : RN K F' Kn0 ow0 R xs := fun p ws Kn H s fp kp hp r => q p ws Kn H (s.back f) (fresh_back f fp) kp hp r
/-- for x in xs, xs one's own, not touched on the way and one's own behind it -/
theorem sb_forO {g : TG} {tb : TS} {Sx : Type} {xs : List α} (hi : sl[i]? = some (.at p)) (hj : ow[j]? = some (ol p xs)) (ho : ow.eraseIdx j = ow1)
    (slx : Sx → List Sl) (owx : Sx → List Ow) (gx : α → Sx → List Sl) (js : List Nat) (P : List α → Sx → Prop) (s0 : Sx) (h0 : P xs s0) (le : SlLe sl (slx s0)) (eo : (owx s0).Sublist ow1)
    (hg : ∀ x s, GT K g (slx s) (gx x s) js x)
    (step : ∀ F', Fle F F' → ∀ Kn1, Bs F' Kn0 Kn1 → ∀ x rest s, P (x :: rest) s → ∀ N : L2.St → Hp → Prop, (∀ s', P rest s' → ∀ σ Kn H, S K F' Kn1 (slx s') (owx s') σ Kn H → N σ H) → SB K F' Kn1 (gx x s) (owx s) { D with nx := N, ct := N, bk := D.nx } tb)
    (done : ∀ s, P [] s → SN K F Kn0 (slx s) (ol p xs :: owx s) D) : SB K F Kn0 sl ow D (tFor (iList K (tVar i)) g tb) := fun σ Kn H s => by
  obtain ⟨o, h1, h2⟩ := s.sl.get hi
  obtain ⟨f1, f2, ws, f3, f4⟩ := s.ow.each _ (List.mem_of_getElem? hj)
  have f1 : F p = none := f1
  have f2 : Kn p = none := f2
  have fl : Fle F (upd F p (.lst ws)) := Ex.new f1
  have s1 := s.sub (List.eraseIdx_sublist ow j)
  have no : ∀ o ∈ ow.eraseIdx j, o.ad ≠ p := fun o hm z => by
    obtain ⟨m, hm'⟩ := List.getElem?_of_mem hm
    rw [List.getElem?_eraseIdx] at hm'
    split at hm'
    · have := ow_at s.ow.nd hm' hj z
      omega
    · have := ow_at s.ow.nd hm' hj z
      omega
  have s2 : S K (upd F p (.lst ws)) Kn0 sl (ow.eraseIdx j) σ Kn H := ⟨s1.e0, s1.ek, fun a u h => by
    by_cases hq : a = p
    · subst hq
      rw [upd_same] at h
      rw [← h]
      exact f3
    · rw [upd_ne hq] at h
      exact s1.ef _ _ h, fun q h1 h2 => by
    by_cases hq : q = p
    · rw [hq]
      exact f2
    · rw [upd_ne hq] at h1
      exact s1.sep q h1 h2, s1.sl, ⟨fun o ho => by
        obtain ⟨a1, a2, a3⟩ := s1.ow.each o ho
        refine ⟨?_, a2, a3⟩
        rw [upd_ne (no o ho)]
        exact a1, s1.ow.nd⟩⟩
  have b : Bs (upd F p (.lst ws)) Kn0 Kn := s2.bs
  refine ⟨.ref p, by rw [h1]; exact congrArg some h2, p, rfl, ⟨ws, sq_of f3⟩, ?_⟩
  refine ⟨fun i m σ H => i + m = xs.length ∧ ∃ Kn2 s, P (xs.drop i) s ∧ S K (upd F p (.lst ws)) Kn (slx s) (owx s) σ Kn2 H, ⟨xs.length, by omega, Kn, s0, h0, (s2.rebase.le le).sub (ho ▸ eo)⟩, fun i m σ H hW => ?_⟩
  obtain ⟨em, Kn2, st, hP, hS⟩ := hW
  have hp2 : H p = some (.lst ws) := hS.ef _ _ upd_same
  have f5 : Paired (rep K Kn2) ws xs := paired_mono hS.e0 f4
  by_cases hlt : i < xs.length
  · have hx : xs[i]? = some xs[i] := List.getElem?_eq_getElem hlt
    have hd : xs.drop i = xs[i] :: xs.drop (i + 1) := List.drop_eq_getElem_cons hlt
    rw [hd] at hP
    obtain ⟨v, hv, rv⟩ := paired_at f5 hx
    refine .inr ⟨⟨ws, v, sq_of hp2, hv⟩, fun σ' H' => ∃ Kn2 s, P (xs.drop (i + 1)) s ∧ S K (upd F p (.lst ws)) Kn (slx s) (owx s) σ' Kn2 H', fun σ' H' ⟨Kn', s', h1, h2⟩ => ⟨m - 1, by omega, by omega, Kn', s', h1, h2⟩, fun u H' hy => ?_⟩
    obtain ⟨rfl, f⟩ := hy
    have : v = u := Option.some.inj (hv.symm.trans (f ws (sq_of hp2)))
    subst this
    refine hg _ st σ Kn2 H' v hS.sl hS.ek rv _ fun σ2 h2 _ => ?_
    exact step _ fl Kn b _ _ st hP _ (fun s' hs' σ Kn2 H hS' => ⟨Kn2, s', hs', hS'⟩) σ2 Kn2 H' ⟨hS.e0, hS.ek, hS.ef, hS.sep, h2, hS.ow⟩
  · have hd : xs.drop i = [] := List.drop_eq_nil_of_le (by omega)
    rw [hd] at hP
    refine .inl ⟨⟨ws, sq_of hp2, by rw [paired_len f5]; omega⟩, done st hP σ Kn2 H ?_⟩
    have s3 := (hS.unbase b).back fl
    refine s3.own f1 (hS.sep p (by rw [upd_same]; exact fun z => nomatch z) f2) (fun o ho z => ?_) hp2 f5
    have := (hS.ow.each o ho).1
    rw [z, upd_same] at this
    cases this
end
end Wk
/-! Wpair: a def that tells two new lists in a tuple; a comprehension over a list of one's own -/
namespace Wk
open PySem PySem.Spec L2 Evl
structure PairAt {α β : Type} [Rp α] [Rp β] (K : Fg) (Kn H : Hp) (pt p1 p2 : Addr) (xs : List α) (ys : List β) : Prop where
  kt : Kn pt = none
  k1 : Kn p1 = none
  k2 : Kn p2 = none
  ne : p1 ≠ p2
  ht : H pt = some (.tup [.ref p1, .ref p2])
  e1 : ∃ w, H p1 = some (.lst w) ∧ Paired (rep K Kn) w xs
  e2 : ∃ w, H p2 = some (.lst w) ∧ Paired (rep K Kn) w ys
section
variable {α β τ : Type} [Rp α] [Rp β] [Tp τ]
def RP (K : Fg) (Kn H : Hp) (Q : VK) (xs : List α) (ys : List β) : Prop := ∀ pt p1 p2 Kn' H', Gr Kn H Kn' H' → H pt = none → H p1 = none → H p2 = none → PairAt K Kn' H' pt p1 p2 xs ys → Q (.ref pt) H'
def EP (K : Fg) (F Kn0 : Hp) (sl : List Sl) (ow : List Ow) (te : TE) (xs : List α) (ys : List β) : Prop := ∀ σ Kn H, S K F Kn0 sl ow σ Kn H → ∀ Q : VK, RP K Kn H Q xs ys → te σ H Q
def PP (K : Fg) (f : τ → Option (List α × List β × Unit)) : Sp := fun vs H Q _ => ∃ Kn t r, Ex Kn H ∧ rept K Kn vs t ∧ f t = some r ∧ RP K Kn H Q r.1 r.2.1
def RNP (K : Fg) (F Kn0 : Hp) (ow : List Ow) (R : VK) (xs : List α) (ys : List β) : Prop := ∀ pt p1 p2 Kn H, S K F Kn0 [] ow [] Kn H → F pt = none → F p1 = none → F p2 = none → PairAt K Kn H pt p1 p2 xs ys → R (.ref pt) H
end
section
variable {K : Fg} {F F' Kn0 Kn1 : Hp} {sl sl' : List Sl} {ow ow0 ow1 : List Ow} {α β γ τ : Type} [Rp α] [Rp β] [Rp γ] [Tp τ] {ta : TA} {te : TE} {t : τ} {E : XK} {D : Ends} {i j k1 k2 : Nat} {p p1 p2 : Addr} {xs : List α} {ys : List β}
theorem RNP.base {R : VK} (q : RNP K F Kn0 ow R xs ys) (b : Bs F Kn0 Kn1) : RNP K F Kn1 ow R xs ys := fun pt p1 p2 Kn H s => q pt p1 p2 Kn H (s.unbase b)
theorem RNP.fr {R : VK} (f : Fle F F') (q : RNP K F Kn0 ow0 R xs ys) : RNP K F' Kn0 ow0 R xs ys := fun pt p1 p2 Kn H s h1 h2 h3 h4 => q pt p1 p2 Kn H (s.back f) (fresh_back f h1) (fresh_back f h2) (fresh_back f h3) h4
theorem rnp_of {H Kn : Hp} {Q : VK} (q : RP K Kn H Q xs ys) : RNP K H Kn [] Q xs ys := fun pt p1 p2 Kn' H' s h1 h2 h3 h4 => q pt p1 p2 Kn' H' ⟨s.e0, s.ef, s.ek, s.sep⟩ h1 h2 h3 h4
theorem ep_call {f : τ → Option (List α × List β × Unit)} {r : List α × List β × Unit} (h : EA K F Kn0 sl ow ta t) (hf : f t = some r) : EP K F Kn0 sl ow (tCall (PP K f) [] E ta) r.1 r.2.1 := fun σ Kn H s Q q =>
  h σ Kn H s _ fun vs Kn1 H1 g1 r1 => by
    show PP K f (vs ++ []) H1 Q E
    rw [List.append_nil]
    exact ⟨Kn1, t, r, g1.kh, r1, hf, fun pt p1 p2 Kn' H' g' h1 h2 h3 h4 => q pt p1 p2 Kn' H' (g1.trans g') (fresh_back g1.hh h1) (fresh_back g1.hh h2) (fresh_back g1.hh h3) h4⟩
theorem EP.ev (h : EP K F Kn0 sl ow te xs ys) : EV K F Kn0 sl ow te (xs, ys, ()) := fun σ Kn H s Q q => h σ Kn H s Q fun pt p1 p2 Kn' H' g f0 f1 f2 a => by
  obtain ⟨kt, k1, k2, ne, ht, ⟨w1, e1, r1⟩, ⟨w2, e2, r2⟩⟩ := a
  have n1 : pt ≠ p1 := fun z => by rw [z, e1] at ht; cases ht
  have n2 : pt ≠ p2 := fun z => by rw [z, e2] at ht; cases ht
  have ga := g.know f1 k1 e1
  have kb : upd Kn' p1 (.lst w1) p2 = none := by rw [upd_ne (Ne.symm ne)]; exact k2
  have gb := ga.know f2 kb e2
  have kc : upd (upd Kn' p1 (.lst w1)) p2 (.lst w2) pt = none := by rw [upd_ne n2, upd_ne n1]; exact kt
  have gc := gb.know f0 kc ht
  have x1 : Ex Kn' (upd Kn' p1 (.lst w1)) := Ex.new k1
  have x2 : Ex (upd Kn' p1 (.lst w1)) (upd (upd Kn' p1 (.lst w1)) p2 (.lst w2)) := Ex.new kb
  have x3 := Ex.new (o := .tup [.ref p1, .ref p2]) kc
  have x := (x1.trans x2).trans x3
  refine q _ _ H' gc ⟨pt, _, rfl, upd_same, .ref p1, _, rfl, ⟨p1, w1, rfl, ?_, paired_mono x r1⟩, .ref p2, _, rfl, ⟨p2, w2, rfl, ?_, paired_mono x r2⟩, rfl⟩
  · exact x3 _ _ (x2 _ _ upd_same)
  · exact x3 _ _ upd_same
theorem EP.cast {xs' : List α} {ys' : List β} (h : EP K F Kn0 sl ow te xs ys) (e1 : xs = xs') (e2 : ys = ys') : EP K F Kn0 sl ow te xs' ys' := e1 ▸ e2 ▸ h
/-- a, b = f(..), both one's own -/
theorem sb_unpP {sl' : Addr → Addr → List Sl} (hs : ∀ p1 p2, (sl.set i (.at p1)).set j (.at p2) = sl' p1 p2) (h : EP K F Kn0 sl ow te xs ys) (k : ∀ p1 p2, SN K F Kn0 (sl' p1 p2) (ol p1 xs :: ol p2 ys :: ow) D) :
    SB K F Kn0 sl ow D (tAsg te (gTup K 2 (gCons (gName i) (gCons (gName j) gNil)))) := fun σ Kn H s => h σ Kn H s _ fun pt p1 p2 Kn' H' g f0 f1 f2 a => by
  obtain ⟨kt, k1, k2, ne, ht, ⟨w1, e1, r1⟩, ⟨w2, e2, r2⟩⟩ := a
  have s1 := s.grow g
  have s2 := s1.own (fresh_back s.ef f2) k2 (owned_ne s f2) e2 r2
  have s3 := s2.own (p := p1) (fresh_back s.ef f1) k1 (fun o ho z => by
    rcases List.mem_cons.mp ho with rfl | ho
    · exact ne z.symm
    · exact owned_ne s f1 o ho z) e1 r1
  exact ⟨pt, _, rfl, st_of ht, rfl, .ref p1, _, rfl, .ref p2, _, rfl, rfl, k p1 p2 _ Kn' H' (hs p1 p2 ▸ (s3.seta (p := p1) i).seta (p := p2) j)⟩
/-- return (a, b), both one's own -/
theorem sb_retP {R : VK} (hi : sl[i]? = some (.at p1)) (hj : sl[j]? = some (.at p2)) (h1 : ow[k1]? = some (ol p1 xs)) (h2 : ow[k2]? = some (ol p2 ys)) (hk : k1 ≠ k2) (q : RNP K F Kn0 ow0 R xs ys) (l : ow0.Sublist ow) (hR : D.rt = R := by rfl) :
    SB K F Kn0 sl ow D (tRet (tTup (tCons (tVar i) (tCons (tVar j) tNil)))) := fun σ Kn H s => by
  subst hR
  obtain ⟨o1, a1, a2⟩ := s.sl.get hi
  obtain ⟨o2, b1, b2⟩ := s.sl.get hj
  obtain ⟨f1, f2, w1, f3, f4⟩ := s.ow.each _ (List.mem_of_getElem? h1)
  obtain ⟨g1, g2, w2, g3, g4⟩ := s.ow.each _ (List.mem_of_getElem? h2)
  have f1 : F p1 = none := f1
  have f2 : Kn p1 = none := f2
  have g1 : F p2 = none := g1
  have g2 : Kn p2 = none := g2
  have ne : p1 ≠ p2 := fun z => hk (ow_at s.ow.nd h1 h2 z)
  refine ⟨.ref p1, by rw [a1]; exact congrArg some a2, .ref p2, by rw [b1]; exact congrArg some b2, by show 2 ≤ sizeLine; exact le_line (by decide), fun pt hp => ?_⟩
  have g : Gr Kn H Kn (upd H pt (.tup [.ref p1, .ref p2])) := Gr.newU s.ek hp
  exact q pt p1 p2 Kn _ ((s.grow g).sub l).fin (fresh_back s.ef hp) f1 g1 ⟨fresh_back s.ek hp, f2, g2, ne, upd_same, ⟨w1, g.hh _ _ f3, f4⟩, ⟨w2, g.hh _ _ g3, g4⟩⟩
/-- [.. for x in xs], xs one's own -/
theorem en_lcO {xs : List β} {zs : List γ} {c : β → Option Bool} {f : β → Option γ} {g : TG} {js vs : List Nat} {tt : TT} (hi : sl[i]? = some (.at p)) (hjw : ow[j]? = some (ol p xs)) (gx : β → List Sl) (hm : lcM c f xs = some zs) (hv : ∀ j ∈ vs, sl[j]? = some .any) (hg : ∀ x, GT K g sl (gx x) js x) (hj : ∀ j ∈ js, j ∈ vs)
    (ht : ∀ p (acc : List γ) x b, c x = some b → ET K F Kn0 (gx x) (ol p acc :: ow) tt b) (he : ∀ p (acc : List γ) x z, c x = some true → f x = some z → EV K F Kn0 (gx x) (ol p acc :: ow) te z) :
    EN K F Kn0 sl ow (tLc (iList K (tVar i)) g tt te vs) zs := fun σ Kn H s Q q => by
  unfold lcM at hm
  split at hm
  case isFalse => cases hm
  rename_i hlen
  obtain ⟨o1, a1, a2⟩ := s.sl.get hi
  obtain ⟨b1, b2, w0, b3, b4⟩ := s.ow.each _ (List.mem_of_getElem? hjw)
  refine ⟨.ref p, by rw [a1]; exact congrArg some a2, p, rfl, ⟨w0, sq_of b3⟩, fun D hD => ?_⟩
  have kD : Kn D = none := fresh_back s.ek hD
  have fD : F D = none := fresh_back s.ef hD
  have W : ∀ i Kn' H', Gr Kn H Kn' H' → (∀ x, xs[i]? = some x → (Itl K p).go i H' ∧ ∀ v H2, (Itl K p).yld i H' v H2 → ∃ Kn2, Gr Kn' H' Kn2 H2 ∧ rep K Kn2 v x) ∧ (xs.length ≤ i → (Itl K p).stop i H') := fun i Kn' H' gr => by
    have hq : SqL K H' p w0 := sq_of (gr.hh _ _ b3)
    refine ⟨fun x hx => ?_, fun hl => ⟨w0, hq, by rw [paired_len b4]; exact hl⟩⟩
    obtain ⟨v, hv, rv⟩ := paired_at b4 hx
    refine ⟨⟨w0, v, hq, hv⟩, fun u H2 hy => ?_⟩
    obtain ⟨rfl, f⟩ := hy
    have : v = u := Option.some.inj (hv.symm.trans (f w0 hq))
    subst this
    exact ⟨Kn', Gr.refl gr.kh, Rp.mono gr.kk rv⟩
  refine ⟨fun i m H' => i + m = xs.length ∧ ∃ Kn' ws acc rest, Gr Kn H Kn' H' ∧ Kn' D = none ∧ H' D = some (.lst ws) ∧ Paired (rep K Kn') ws acc ∧ acc.length ≤ i ∧ lcGo c f (xs.drop i) = some rest ∧ acc ++ rest = zs,
    ⟨xs.length, by omega, Kn, [], [], zs, (Gr.newU s.ek hD), kD, upd_same, .nil, Nat.le_refl _, hm, rfl⟩, fun i m H' hW => ?_⟩
  obtain ⟨em, Kn', ws, acc, rest, gr, kD', hD', rp, hal, hrest, hz⟩ := hW
  have s' : S K F Kn0 sl (ol D acc :: ow) σ Kn' H' := (s.grow gr).own fD kD' (owned_ne s hD) hD' rp
  by_cases hlt : i < xs.length
  · have hx : xs[i]? = some xs[i] := List.getElem?_eq_getElem hlt
    have hd : xs.drop i = xs[i] :: xs.drop (i + 1) := List.drop_eq_getElem_cons hlt
    rw [hd] at hrest
    obtain ⟨b, hb, hrest⟩ := bind_some hrest
    obtain ⟨go, yl⟩ := (W i Kn' H' gr).1 _ hx
    refine .inr ⟨go, fun H'' => ∃ Kn' ws acc rest, Gr Kn H Kn' H'' ∧ Kn' D = none ∧ H'' D = some (.lst ws) ∧ Paired (rep K Kn') ws acc ∧ acc.length ≤ i + 1 ∧ lcGo c f (xs.drop (i + 1)) = some rest ∧ acc ++ rest = zs, fun H'' h => ⟨m - 1, by omega, by omega, h⟩, fun v H2 hy => ?_⟩
    obtain ⟨Kn2, g2, rv⟩ := yl v H2 hy
    have s2 := (s'.grow g2).wipe hv
    refine hg _ _ Kn2 H2 v s2.sl s2.ek rv _ fun σ3 h3 hw3 => ?_
    have s3 := s2.slots h3
    have hDn : H' D ≠ none := ne_none_of hD'
    refine ⟨(hw3 vs hj).trans ?_, ht D acc _ b hb σ3 Kn2 H2 s3 _ fun Kn3 H3 g3 => ?_⟩
    · have ww : ∀ (vs us : List Nat) (σ : L2.St), (∀ j ∈ vs, j ∈ us) → L2.wipe (L2.wipe σ vs) us = L2.wipe σ us := by
        intro vs
        induction vs with
        | nil => intro us σ _; rfl
        | cons a r ih =>
          intro us σ hh
          show L2.wipe ((L2.wipe σ r).set a none) us = L2.wipe σ us
          rw [wipe_set (hh a List.mem_cons_self)]
          exact ih us σ fun j hj => hh j (List.mem_cons_of_mem _ hj)
      exact ww vs vs σ fun _ h => h
    · have g123 : Gr Kn H Kn3 H3 := (gr.trans g2).trans g3
      have kD3 : Kn3 D = none := (g2.trans g3).sp D hDn kD'
      have hD3 : H3 D = some (.lst ws) := (g2.trans g3).hh _ _ hD'
      cases b with
      | true =>
        obtain ⟨z, hfz, hrest⟩ := bind_some (show (f xs[i]).bind _ = some rest from hrest)
        obtain ⟨zs', hzs, hrest⟩ := bind_some hrest
        cases hrest
        refine iteT (he D acc _ z hb hfz σ3 Kn3 H3 (s3.grow g3) _ fun y Kn4 H4 g4 ry => ?_)
        have g234 := (g2.trans g3).trans g4
        have kD4 : Kn4 D = none := g4.sp D (ne_none_of hD3) kD3
        refine ⟨ws, g4.hh _ _ hD3, by rw [paired_len rp]; exact lt_line (by omega), Kn4, ws ++ [y], acc ++ [z], zs', (gr.trans g234).mut hD kD4, kD4, upd_same, paired_append (paired_mono g234.kk rp) (.cons ry .nil), ?_, hzs, ?_⟩
        · rw [List.length_append, List.length_singleton]; omega
        · rw [List.append_assoc]; exact hz
      | false =>
        have hrest : lcGo c f (xs.drop (i + 1)) = some rest := hrest
        exact iteF ⟨Kn3, ws, acc, rest, g123, kD3, hD3, paired_mono (g2.trans g3).kk rp, by omega, hrest, hz⟩
  · have hd : xs.drop i = [] := List.drop_eq_nil_of_le (by omega)
    rw [hd] at hrest
    cases hrest
    rw [List.append_nil] at hz
    subst hz
    exact .inl ⟨(W i Kn' H' gr).2 (by omega), q D ws Kn' H' gr hD kD' hD' rp⟩
end
end Wk
/-! Wdict: a dict walked (it is locked on the way), its values and pairs; a def that tells a new dict; dict(d); dicts alike -/
namespace L2
open PySem PySem.Spec PyProof.Rows
/-- lock it, or it is locked already -/
def tLk (t : TS) : TS := fun D σ H => tLock t D σ H ∨ t D σ H
def tLkE (t : TE) : TE := fun σ H Q => tLockE t σ H Q ∨ t σ H Q
theorem ps_lk {X : Cx} {st : Stmt} {t : TS} (h : PS X st t) : PS X st (tLk t) := by
  refine ⟨fun pins s σ H D I hw => ?_⟩
  rcases hw with hw | hw
  · exact (ps_lock h).run pins s σ H D I hw
  · exact h.run pins s σ H D I hw
theorem pe_lk {X : Cx} {e : Expr} {t : TE} (h : PE X e t) : PE X e (tLkE t) := by
  refine ⟨fun pins s σ H Q I hw => ?_⟩
  rcases hw with hw | hw
  · exact (pe_lock h).run pins s σ H Q I hw
  · exact h.run pins s σ H Q I hw
section
variable {X : Cx}
def rEqDR (r : Bool) : R2 := fun x y H Q => ∃ a b ks ls, x = .ref a ∧ y = .ref b ∧ Rd H a (.dK ks) ∧ Rd H b (.dK ls) ∧ ks.length = ls.length ∧ (∀ p ∈ ks, valV ls p.1 = some p.2 ∧ flatB p.2 = true) ∧ Q (.bl r) H
theorem op_eq_dictR (hu : X.A.units + 64 < cLine) : OpR X (compareOp .Eq) (rEqDR true) := by
  intro pins s σ H x y v u Q I rx ry h
  obtain ⟨a, b, ks, ls, rfl, rfl, ea, eb, hlen, hp, q⟩ := h
  obtain rfl : v = Value.ref a := rx
  obtain rfl : u = Value.ref b := ry
  obtain ⟨_, ya, va, ra, da⟩ := dk_rd I.hok ea
  obtain ⟨_, yb, vb, rb, db⟩ := dk_rd I.hok eb
  have hl : va.length = vb.length := by rw [← ra.length, ← rb.length]; exact hlen
  exact PySem.W.keq_eq (knd := mixKind X.prog X.w) (r := true) ya yb da db (by omega) (fun _ => hits_all rb ra hp) (fin_bl I q (by simp [hl]))
theorem op_ne_dictR (hu : X.A.units + 64 < cLine) : OpR X (compareOp .NotEq) (rEqDR false) := by
  intro pins s σ H x y v u Q I rx ry h
  obtain ⟨a, b, ks, ls, rfl, rfl, ea, eb, hlen, hp, q⟩ := h
  obtain rfl : v = Value.ref a := rx
  obtain rfl : u = Value.ref b := ry
  obtain ⟨_, ya, va, ra, da⟩ := dk_rd I.hok ea
  obtain ⟨_, yb, vb, rb, db⟩ := dk_rd I.hok eb
  have hl : va.length = vb.length := by rw [← ra.length, ← rb.length]; exact hlen
  exact PySem.W.keq_ne (knd := mixKind X.prog X.w) (r := true) ya yb da db (by omega) (fun _ => hits_all rb ra hp) (fin_bl I q (by simp [hl]))
end
end L2
namespace Wk
open PySem PySem.Spec L2 Evl
/-- where it may be walked, and how its results go back -/
structure Mv (K : Fg) (F Kn0 : Hp) (R : VK) (F' Kn1 : Hp) (R' : VK) : Prop where
  fn : ∀ q, F' q = none → F q = none
  st : ∀ sl ow σ Kn H, S K F' Kn1 sl ow σ Kn H → ∃ Kn' H', S K F Kn0 sl ow σ Kn' H' ∧ (∀ v, R v H' → R' v H) ∧ Sw Kn Kn' ∧ ∀ q, Kn q = none → Kn' q = none ∧ H' q = H q
section
variable {K : Fg} {F Kn0 F' Kn1 : Hp} {R R' : VK} {ow0 : List Ow} {α β : Type} [Rp α] [Rp β]
theorem RT.mv {x : α} (q : RT K F Kn0 ow0 R x) (m : Mv K F Kn0 R F' Kn1 R') : RT K F' Kn1 ow0 R' x := fun v Kn H s r => by
  obtain ⟨Kn', H', s', h1, h2, h3⟩ := m.st _ _ _ _ _ s
  exact h1 v (q v Kn' H' s' (Rp.swap h2 r))
theorem RN.mv {xs : List α} (q : RN K F Kn0 ow0 R xs) (m : Mv K F Kn0 R F' Kn1 R') : RN K F' Kn1 ow0 R' xs := fun p ws Kn H s fp kp hp r => by
  obtain ⟨Kn', H', s', h1, h2, h3⟩ := m.st _ _ _ _ _ s
  exact h1 _ (q p ws Kn' H' s' (m.fn p fp) (h3 p kp).1 ((h3 p kp).2.trans hp) (paired_swap h2 r))
theorem RNP.mv {xs : List α} {ys : List β} (q : RNP K F Kn0 ow0 R xs ys) (m : Mv K F Kn0 R F' Kn1 R') : RNP K F' Kn1 ow0 R' xs ys := fun pt p1 p2 Kn H s f0 f1 f2 a => by
  obtain ⟨Kn', H', s', h1, h2, h3⟩ := m.st _ _ _ _ _ s
  obtain ⟨kt, k1, k2, ne, ht, ⟨w1, e1, r1⟩, ⟨w2, e2, r2⟩⟩ := a
  exact h1 _ (q pt p1 p2 Kn' H' s' (m.fn _ f0) (m.fn _ f1) (m.fn _ f2) ⟨(h3 _ kt).1, (h3 _ k1).1, (h3 _ k2).1, ne, (h3 _ kt).2.trans ht, ⟨w1, (h3 _ k1).2.trans e1, paired_swap h2 r1⟩, ⟨w2, (h3 _ k2).2.trans e2, paired_swap h2 r2⟩⟩)
end
def lk (F : Hp) (p : Addr) (o : HO) : Hp := fun q => if q = p then (if F p = none then none else some o) else F q
theorem lk_ne {F : Hp} {p q : Addr} {o : HO} (h : q ≠ p) : lk F p o q = F q := if_neg h
theorem lk_none {F : Hp} {p q : Addr} {o : HO} : lk F p o q = none ↔ F q = none := by
  by_cases h : q = p
  · subst h
    unfold lk
    rw [if_pos rfl]
    constructor
    · intro h
      split at h
      · assumption
      · cases h
    · intro h
      rw [if_pos h]
  · rw [lk_ne h]
section
variable {K : Fg} {F Kn0 : Hp} {sl sl' : List Sl} {ow ow1 : List Ow} {σ : L2.St} {Kn H Kn1 Kn2 H2 : Hp} {p : Addr} {u : HO} {od : Obj}
theorem sw_lock (hu : isDk u) (hk : Kn p = some u) : Sw Kn (upd Kn p (.frz od u)) := fun q w h => by
  by_cases e : q = p
  · subst e
    rw [hk] at h
    cases h
    exact .inr ⟨od, u, hu, .inl ⟨rfl, upd_same⟩⟩
  · exact .inl (by rw [upd_ne e]; exact h)
theorem sw_unlock (hu : isDk u) (hk : Kn p = some (.frz od u)) : Sw Kn (upd Kn p u) := fun q w h => by
  by_cases e : q = p
  · subst e
    rw [hk] at h
    cases h
    exact .inr ⟨od, u, hu, .inr ⟨rfl, upd_same⟩⟩
  · exact .inl (by rw [upd_ne e]; exact h)
theorem S.lock (s : S K F Kn0 sl ow σ Kn H) (hu : isDk u) (hk : Kn p = some u) : S K (lk F p (.frz od u)) (upd Kn p (.frz od u)) sl ow σ (upd Kn p (.frz od u)) (upd H p (.frz od u)) := by
  refine ⟨Ex.refl _, fun a w h => ?_, fun a w h => ?_, fun _ _ h => h, s.sl.swap (sw_lock hu hk), ⟨fun o ho => ?_, s.ow.nd⟩⟩
  · by_cases e : a = p
    · subst e
      rw [upd_same] at h ⊢
      exact h
    · rw [upd_ne e] at h ⊢
      exact s.ek _ _ h
  · by_cases e : a = p
    · subst e
      unfold lk at h
      rw [if_pos rfl] at h
      split at h
      · cases h
      · rw [upd_same]
        exact h
    · rw [lk_ne e] at h
      rw [upd_ne e]
      exact s.ef _ _ h
  · obtain ⟨h1, h2, h3⟩ := s.ow.each o ho
    have hne : o.ad ≠ p := fun z => by rw [z, hk] at h2; cases h2
    exact ⟨lk_none.mpr h1, by rw [upd_ne hne]; exact h2, Ow.ok_swap (sw_lock hu hk) (upd_ne hne) h3⟩
theorem S.unlock (hu : isDk u) (hk : Kn p = some u) (hF : ∀ o, F p = some o → o = u) (s : S K (lk F p (.frz od u)) (upd Kn p (.frz od u)) sl ow σ Kn2 H2) : S K F Kn sl ow σ (upd Kn2 p u) (upd H2 p u) := by
  have hp : Kn2 p = some (.frz od u) := s.e0 _ _ upd_same
  refine ⟨fun a w h => ?_, fun a w h => ?_, fun a w h => ?_, fun a h1 h2 => ?_, s.sl.swap (sw_unlock hu hp), ⟨fun o ho => ?_, s.ow.nd⟩⟩
  · by_cases e : a = p
    · subst e
      rw [upd_same, ← hk]
      exact h
    · rw [upd_ne e]
      exact s.e0 _ _ (by rw [upd_ne e]; exact h)
  · by_cases e : a = p
    · subst e
      rw [upd_same] at h ⊢
      exact h
    · rw [upd_ne e] at h ⊢
      exact s.ek _ _ h
  · by_cases e : a = p
    · subst e
      rw [hF _ h, upd_same]
    · rw [upd_ne e]
      exact s.ef _ _ (by rw [lk_ne e]; exact h)
  · have e : a ≠ p := fun z => by rw [z, hk] at h2; cases h2
    rw [upd_ne e]
    exact s.sep a (fun z => h1 (lk_none.mp z)) (by rw [upd_ne e]; exact h2)
  · obtain ⟨h1, h2, h3⟩ := s.ow.each o ho
    have hne : o.ad ≠ p := fun z => by rw [z, hp] at h2; cases h2
    exact ⟨lk_none.mp h1, by rw [upd_ne hne]; exact h2, Ow.ok_swap (sw_unlock hu hp) (upd_ne hne) h3⟩
theorem mv_lock {R : VK} (b : Bs F Kn0 Kn) (hu : isDk u) (hk : Kn p = some u) (hF : ∀ o, F p = some o → o = u) (b2 : Bs (lk F p (.frz od u)) (upd Kn p (.frz od u)) Kn1) : Mv K F Kn0 R (lk F p (.frz od u)) Kn1 (fun v H' => H' p = some (.frz od u) ∧ R v (upd H' p u)) := by
  refine ⟨fun q h => lk_none.mp h, fun sl ow σ Kn2 H2 s => ?_⟩
  have s2 := s.unbase b2
  have hp : Kn2 p = some (.frz od u) := s2.e0 _ _ upd_same
  refine ⟨_, _, (S.unlock hu hk hF s2).unbase b, fun v h => ⟨s.ek _ _ hp, h⟩, sw_unlock hu hp, fun q h => ?_⟩
  have e : q ≠ p := fun z => by rw [z, hp] at h; cases h
  rw [upd_ne e, upd_ne e]
  exact ⟨h, rfl⟩
theorem mv_base {R : VK} (b : Bs F Kn0 Kn1) : Mv K F Kn0 R F Kn1 R :=
  ⟨fun _ h => h, fun sl ow σ Kn H s => ⟨Kn, H, s.unbase b, fun _ h => h, fun q u h => .inl h, fun q h => ⟨h, rfl⟩⟩⟩
end
/-! ### what is walked of a dict -/
class KB (κ : Type) [Rp κ] [K1 κ] : Prop where
  back : ∀ {K : Fg} {H : Hp} (a : κ), rep K H (kV (K1.key a)) a
instance : KB Int := ⟨fun _ => rfl⟩
instance : KB Str := ⟨fun _ => rfl⟩
section
variable {κ β γ : Type} [Rp κ] [K1 κ] [KB κ] [Rp β] [Rp γ] {K : Fg} {F Kn0 : Hp} {sl sl' : List Sl} {ow ow1 : List Ow} {σ : L2.St} {Kn H Kn1 : Hp} {p : Addr} {i : Nat}
structure DIt (K : Fg) (i : Nat) (d : Dc κ β) {γ : Type} [Rp γ] (wi : TI) (J : Addr → Obj → List (Key × V) → It) (xs : List γ) : Prop where
  w : ∀ (σ : L2.St) (H : Hp) (R : It → Hp → Prop) (p : Addr) (od : Obj) (ws : List (Key × V)), σ[i]? = some (some (.ref p)) → H p = some (.frz od (.dK ws)) → R (J p od ws) H → wi σ H R
  k : ∀ {Kn : Hp} {p : Addr} {od : Obj} {ws : List (Key × V)}, Kn p = some (.frz od (.dK ws)) → DK K Kn ws d.l → WK K Kn (J p od ws) xs
theorem dk_at {ws : List (Key × V)} {kvs : List (κ × β)} (h : DK K Kn ws kvs) {n : Nat} {y : κ × β} (e : kvs[n]? = some y) : ∃ v, ws[n]? = some (K1.key y.1, v) ∧ rep K Kn v y.2 := by
  unfold DK at h
  induction h generalizing n with
  | nil => cases e
  | @cons w kv ws kvs q t ih =>
    cases n with
    | zero =>
      cases e
      exact ⟨w.2, by rw [List.getElem?_cons_zero]; exact congrArg some (Prod.ext q.1 rfl), q.2⟩
    | succ n =>
      obtain ⟨v, h1, h2⟩ := ih (n := n) e
      exact ⟨v, h1, h2⟩
theorem dit_keys {d : Dc κ β} : DIt K i d (iKeys (tVar i)) Itk (d.l.map (·.1)) := by
  refine ⟨fun σ H R p od ws h1 h2 h3 => ⟨.ref p, h1, p, od, rfl, .inl ⟨ws, h2, h3⟩⟩, fun {Kn p od ws} h1 h2 i Kn' H' e1 e2 => ⟨fun x hx => ?_, fun hl => ⟨e2 _ _ (e1 _ _ h1), ?_⟩⟩⟩
  · rw [List.getElem?_map] at hx
    obtain ⟨y, hy, rfl⟩ := Option.map_eq_some_iff.mp hx
    obtain ⟨v, hv, rv⟩ := dk_at h2 hy
    refine ⟨⟨e2 _ _ (e1 _ _ h1), (List.getElem?_eq_some_iff.mp hv).1⟩, fun u H2 hh => ?_⟩
    obtain ⟨rfl, k, v2, e, rfl⟩ := hh
    rw [hv] at e
    cases e
    exact ⟨Kn', Gr.refl e2, KB.back _⟩
  · have := h2.length
    rw [List.length_map] at hl
    omega
theorem dit_vals {d : Dc κ β} : DIt K i d (iVals (tVar i)) Itd (d.l.map (·.2)) := by
  refine ⟨fun σ H R p od ws h1 h2 h3 => ⟨.ref p, h1, p, od, ws, rfl, h2, h3⟩, fun {Kn p od ws} h1 h2 i Kn' H' e1 e2 => ⟨fun x hx => ?_, fun hl => ⟨e2 _ _ (e1 _ _ h1), ?_⟩⟩⟩
  · rw [List.getElem?_map] at hx
    obtain ⟨y, hy, rfl⟩ := Option.map_eq_some_iff.mp hx
    obtain ⟨v, hv, rv⟩ := dk_at h2 hy
    refine ⟨⟨e2 _ _ (e1 _ _ h1), (List.getElem?_eq_some_iff.mp hv).1⟩, fun u H2 hh => ?_⟩
    obtain ⟨rfl, k, e⟩ := hh
    rw [hv] at e
    cases e
    exact ⟨Kn', Gr.refl e2, Rp.mono e1 rv⟩
  · have := h2.length
    rw [List.length_map] at hl
    omega
def itemsD {κ β : Type} (d : Dc κ β) : List (κ × β × Unit) := d.l.map fun kv => (kv.1, kv.2, ())
theorem dit_items {d : Dc κ β} : DIt K i d (iItems (tVar i)) Iti (itemsD d) := by
  unfold itemsD
  refine ⟨fun σ H R p od ws h1 h2 h3 => ⟨.ref p, h1, p, od, ws, rfl, h2, h3⟩, fun {Kn p od ws} h1 h2 i Kn' H' e1 e2 => ⟨fun x hx => ?_, fun hl => ⟨e2 _ _ (e1 _ _ h1), ?_⟩⟩⟩
  · rw [List.getElem?_map] at hx
    obtain ⟨y, hy, rfl⟩ := Option.map_eq_some_iff.mp hx
    obtain ⟨v, hv, rv⟩ := dk_at h2 hy
    refine ⟨⟨e2 _ _ (e1 _ _ h1), (List.getElem?_eq_some_iff.mp hv).1⟩, fun u H2 hh => ?_⟩
    obtain ⟨T, k, v2, e, rfl, hT, rfl⟩ := hh
    rw [hv] at e
    cases e
    have g : Gr Kn' H' (upd Kn' T (.tup [kV (K1.key y.1), v])) (upd H' T (.tup [kV (K1.key y.1), v])) := Gr.new e2 hT
    exact ⟨_, g, T, _, rfl, upd_same, _, _, rfl, KB.back _, v, [], rfl, Rp.mono (e1.trans g.kk) rv, rfl⟩
  · have := h2.length
    rw [List.length_map] at hl
    omega
theorem DIt.it {d : Dc κ β} {wi : TI} {J : Addr → Obj → List (Key × V) → It} {xs : List γ} (h : DIt K i d wi J xs) {od : Obj} {ws : List (Key × V)} (hk : Kn1 p = some (.frz od (.dK ws))) (r : DK K Kn1 ws d.l) : IT K F Kn1 sl ow (fun σ H R => R (J p od ws) H) xs := fun σ Kn H s R q =>
  q _ Kn H (Gr.refl s.ek) (h.k (s.e0 _ _ hk) (DK.mono s.e0 r))
/-- for x in d, d.values(), d.items() -/
theorem sb_forD {g : TG} {tb : TS} {Sx : Type} {d : Dc κ β} {wi : TI} {J : Addr → Obj → List (Key × V) → It} {xs : List γ} {D : Ends} (hd : DIt K i d wi J xs) (hi : sl[i]? = some (sv d))
    (slx : Sx → List Sl) (owx : Sx → List Ow) (gx : γ → Sx → List Sl) (js : List Nat) (P : List γ → Sx → Prop) (s0 : Sx) (h0 : P xs s0) (le : SlLe sl (slx s0)) (eo : (owx s0).Sublist ow)
    (hg : ∀ x s, GT K g (slx s) (gx x s) js x)
    (step : ∀ F' Kn1 R', Mv K F Kn0 D.rt F' Kn1 R' → ∀ bk x rest s, P (x :: rest) s → ∀ N : L2.St → Hp → Prop, (∀ s', P rest s' → ∀ σ Kn H, S K F' Kn1 (slx s') (owx s') σ Kn H → N σ H) → SB K F' Kn1 (gx x s) (owx s) ⟨N, R', bk, N⟩ tb)
    (done : ∀ s, P [] s → SN K F Kn0 (slx s) (owx s) D) : SB K F Kn0 sl ow D (tLk (tFor wi g tb)) := fun σ Kn H s => by
  obtain ⟨o, h1, v, h2, hv⟩ := s.sl.get hi
  obtain ⟨p, ws, rfl, h3, h4⟩ := hv
  have h3 : Rd Kn p (.dK ws) := h3
  have hσ : σ[i]? = some (some (.ref p)) := by rw [h1, h2]
  rcases h3 with h3 | ⟨od, h3⟩
  · refine .inl ⟨p, .dK ws, s.ek _ _ h3, trivial, fun od => ?_⟩
    have hF : ∀ o, F p = some o → o = .dK ws := fun o e => by
      have e1 := s.ef _ _ e
      rw [s.ek _ _ h3] at e1
      exact (Option.some.inj e1).symm
    have s1 := s.lock (u := .dK ws) (od := od) trivial h3
    refine hd.w σ _ _ p od ws hσ upd_same ?_
    have sw : Sw Kn (upd Kn p (.frz od (.dK ws))) := sw_lock (u := .dK ws) trivial h3
    exact sb_for (wi := fun σ H R => R (J p od ws) H) slx owx gx js P s0 (IT.m (hd.it upd_same (DK.swap sw h4))) h0 le eo hg
      (fun Kn1 b x rest st hP N hN => step _ Kn1 _ (mv_lock (u := .dK ws) s.bs trivial h3 hF b) _ x rest st hP N hN)
      (fun st hP σ2 Kn2 H2 s2 => show _ ∧ _ from ⟨s2.ek _ _ (s2.e0 _ _ upd_same), done st hP σ2 _ _ ((S.unlock (u := .dK ws) trivial h3 hF s2).unbase s.bs)⟩) σ _ _ s1
  · refine .inr (hd.w σ _ _ p od ws hσ (s.ek _ _ h3) ?_)
    exact sb_for (wi := fun σ H R => R (J p od ws) H) slx owx gx js P s0 (IT.m (hd.it h3 h4)) h0 le eo hg
      (fun Kn1 b x rest st hP N hN => step F Kn1 D.rt (mv_base ⟨s.e0.trans b.e, fun q h1 h2 => b.sp q h1 (s.sep q h1 h2)⟩) _ x rest st hP N hN)
      (fun st hP => (done st hP).base s.bs) σ Kn H s.rebase
/-- [.. for x in d] -/
theorem en_lcD {d : Dc κ β} {wi : TI} {J : Addr → Obj → List (Key × V) → It} {xs : List γ} {α : Type} [Rp α] {zs : List α} {c : γ → Option Bool} {f : γ → Option α} {g : TG} {tt : TT} {te : TE} {js vs : List Nat} (hd : DIt K i d wi J xs) (hi : sl[i]? = some (sv d)) (gx : γ → List Sl) (hm : lcM c f xs = some zs) (hv : ∀ j ∈ vs, sl[j]? = some .any) (hg : ∀ x, GT K g sl (gx x) js x) (hj : ∀ j ∈ js, j ∈ vs)
    (ht : ∀ F' Kn1 p (acc : List α) x b, c x = some b → ET K F' Kn1 (gx x) (ol p acc :: ow) tt b) (he : ∀ F' Kn1 p (acc : List α) x z, c x = some true → f x = some z → EV K F' Kn1 (gx x) (ol p acc :: ow) te z) :
    EN K F Kn0 sl ow (tLkE (tLc wi g tt te vs)) zs := fun σ Kn H s Q q => by
  obtain ⟨o, h1, v, h2, hv2⟩ := s.sl.get hi
  obtain ⟨p, ws, rfl, h3, h4⟩ := hv2
  have h3 : Rd Kn p (.dK ws) := h3
  have hσ : σ[i]? = some (some (.ref p)) := by rw [h1, h2]
  rcases h3 with h3 | ⟨od, h3⟩
  · refine .inl ⟨p, .dK ws, s.ek _ _ h3, trivial, fun od => ?_⟩
    have s1 := s.lock (u := .dK ws) (od := od) trivial h3
    refine hd.w σ _ _ p od ws hσ upd_same ?_
    have sw : Sw Kn (upd Kn p (.frz od (.dK ws))) := sw_lock (u := .dK ws) trivial h3
    show tLc (fun σ H R => R (J p od ws) H) g tt te vs σ (upd H p (.frz od (.dK ws))) (fun v H' => H' p = some (.frz od (.dK ws)) ∧ Q v (upd H' p (.dK ws)))
    refine en_lc (wi := fun σ H R => R (J p od ws) H) gx hm (hd.it upd_same (DK.swap sw h4)) hv hg hj (ht _ _) (he _ _) σ _ _ s1 _ fun l ys Kn' H' g hl kl hw rr => ?_
    have e1 : Kn' p = some (.frz od (.dK ws)) := g.kk _ _ upd_same
    have e2 : H' p = some (.frz od (.dK ws)) := g.kh _ _ e1
    have np : l ≠ p := fun z => by rw [z, e1] at kl; cases kl
    refine ⟨e2, q l ys (upd Kn' p (.dK ws)) (upd H' p (.dK ws)) ⟨fun a u h => ?_, fun a u h => ?_, fun a u h => ?_, fun a u h => ?_⟩ ?_ ?_ ?_ (paired_swap (sw_unlock (u := .dK ws) trivial e1) rr)⟩
    · by_cases e : a = p
      · subst e
        rw [upd_same, ← h3]
        exact h
      · rw [upd_ne e]
        exact g.kk _ _ (by rw [upd_ne e]; exact h)
    · by_cases e : a = p
      · subst e
        rw [upd_same, ← s.ek _ _ h3]
        exact h
      · rw [upd_ne e]
        exact g.hh _ _ (by rw [upd_ne e]; exact h)
    · by_cases e : a = p
      · subst e
        rw [upd_same] at h ⊢
        exact h
      · rw [upd_ne e] at h ⊢
        exact g.kh _ _ h
    · have e : a ≠ p := fun z => by rw [z, h3] at h; cases h
      rw [upd_ne e]
      exact g.sp a (by rw [upd_ne e]; exact u) (by rw [upd_ne e]; exact h)
    · rw [upd_ne np] at hl
      exact hl
    · rw [upd_ne np]
      exact kl
    · rw [upd_ne np]
      exact hw
  · refine .inr (hd.w σ _ _ p od ws hσ (s.ek _ _ h3) ?_)
    show tLc (fun σ H R => R (J p od ws) H) g tt te vs σ H Q
    refine en_lc (wi := fun σ H R => R (J p od ws) H) gx hm (hd.it h3 h4) hv hg hj (ht _ _) (he _ _) σ Kn H s.rebase _ fun l ys Kn' H' g hl kl hw rr => ?_
    exact q l ys Kn' H' g hl kl hw rr
end
/-! ### a new object told -/
section
variable {α τ γ : Type} [Rp α] [Tp τ] [Ob γ]
def RG (K : Fg) (Kn H : Hp) (Q : VK) (x : γ) : Prop := ∀ p o Kn' H', Gr Kn H Kn' H' → H p = none → Kn' p = none → H' p = some o → Ob.ob K Kn' o x → Q (.ref p) H'
def EG (K : Fg) (F Kn0 : Hp) (sl : List Sl) (ow : List Ow) (te : TE) (x : γ) : Prop := ∀ σ Kn H, S K F Kn0 sl ow σ Kn H → ∀ Q : VK, RG K Kn H Q x → te σ H Q
def PG (K : Fg) (f : τ → Option γ) : Sp := fun vs H Q _ => ∃ Kn t r, Ex Kn H ∧ rept K Kn vs t ∧ f t = some r ∧ RG K Kn H Q r
def RNG (K : Fg) (F Kn0 : Hp) (ow : List Ow) (R : VK) (x : γ) : Prop := ∀ p o Kn H, S K F Kn0 [] ow [] Kn H → F p = none → Kn p = none → H p = some o → Ob.ob K Kn o x → R (.ref p) H
end
section
variable {K : Fg} {F F' Kn0 Kn1 : Hp} {sl sl' : List Sl} {ow ow0 ow1 : List Ow} {α κ β τ γ : Type} [Rp α] [Rp κ] [Ky κ] [DecidableEq κ] [Rp β] [Tp τ] [Ob γ] {ta : TA} {te : TE} {t : τ} {E : XK} {D : Ends} {i j : Nat} {p : Addr} {x : γ} {R R' : VK}
theorem RNG.base (q : RNG K F Kn0 ow R x) (b : Bs F Kn0 Kn1) : RNG K F Kn1 ow R x := fun p o Kn H s => q p o Kn H (s.unbase b)
theorem RNG.fr (f : Fle F F') (q : RNG K F Kn0 ow0 R x) : RNG K F' Kn0 ow0 R x := fun p o Kn H s h1 h2 h3 h4 => q p o Kn H (s.back f) (fresh_back f h1) h2 h3 h4
theorem RNG.mv (q : RNG K F Kn0 ow0 R x) (m : Mv K F Kn0 R F' Kn1 R') : RNG K F' Kn1 ow0 R' x := fun p o Kn H s fp kp hp r => by
  obtain ⟨Kn', H', s', h1, h2, h3⟩ := m.st _ _ _ _ _ s
  exact h1 _ (q p o Kn' H' s' (m.fn p fp) (h3 p kp).1 ((h3 p kp).2.trans hp) (Ob.swap h2 r))
theorem rng_of {H Kn : Hp} {Q : VK} (q : RG K Kn H Q x) : RNG K H Kn [] Q x := fun p o Kn' H' s h1 h2 h3 h4 => q p o Kn' H' ⟨s.e0, s.ef, s.ek, s.sep⟩ h1 h2 h3 h4
theorem eg_call {f : τ → Option γ} {r : γ} (h : EA K F Kn0 sl ow ta t) (hf : f t = some r) : EG K F Kn0 sl ow (tCall (PG K f) [] E ta) r := fun σ Kn H s Q q =>
  h σ Kn H s _ fun vs Kn1 H1 g1 r1 => by
    show PG K f (vs ++ []) H1 Q E
    rw [List.append_nil]
    exact ⟨Kn1, t, r, g1.kh, r1, hf, fun p o Kn' H' g' h1 h2 h3 h4 => q p o Kn' H' (g1.trans g') (fresh_back g1.hh h1) h2 h3 h4⟩
theorem EG.ev {d : Dc κ β} (h : EG K F Kn0 sl ow te d) : EV K F Kn0 sl ow te d := fun σ Kn H s Q q => h σ Kn H s Q fun p o Kn' H' g hp kp ho r => by
  obtain ⟨ws, rfl, r⟩ := r
  exact q _ (upd Kn' p (Ky.ho ws)) H' (g.know hp kp ho) ⟨p, ws, rfl, Rd.of upd_same, DK.mono (Ex.new kp) r⟩
theorem EG.cast {x y : γ} (h : EG K F Kn0 sl ow te x) (e : x = y) : EG K F Kn0 sl ow te y := e ▸ h
/-- x = e, one's own from now on -/
theorem sb_asgG {sl' : Addr → List Sl} (hs : ∀ p, sl.set i (.at p) = sl' p) (h : EG K F Kn0 sl ow te x) (k : ∀ p, SN K F Kn0 (sl' p) (oo p x :: ow) D) : SB K F Kn0 sl ow D (tAsg te (gName i)) := fun σ Kn H s =>
  h σ Kn H s _ fun p o Kn1 H1 g1 hp kp ho r1 => k p _ Kn1 H1 (hs p ▸ ((s.grow g1).ownG (p := p) (o := oo p x) rfl (fresh_back s.ef hp) kp (owned_ne s hp) ⟨o, ho, r1⟩).seta i)
theorem sb_retG (hi : sl[i]? = some (.at p)) (hj : ow[j]? = some (oo p x)) (q : RNG K F Kn0 ow0 R x) (l : ow0.Sublist ow) (hR : D.rt = R := by rfl) : SB K F Kn0 sl ow D (tRet (tVar i)) := fun σ Kn H s => by
  subst hR
  obtain ⟨o, h1, h2⟩ := s.sl.get hi
  obtain ⟨f1, f2, ob, f3, f4⟩ := s.ow.each _ (List.mem_of_getElem? hj)
  exact ⟨.ref p, by rw [h1]; exact congrArg some h2, q p ob Kn H (s.sub l).fin f1 f2 f3 f4⟩
theorem sb_retE (h : EG K F Kn0 sl ow te x) (q : RNG K F Kn0 ow0 R x) (l : ow0.Sublist ow) (hR : D.rt = R := by rfl) : SB K F Kn0 sl ow D (tRet te) := fun σ Kn H s => by
  subst hR
  exact h σ Kn H s _ fun p o Kn' H' g hp kp ho r => q p o Kn' H' ((s.grow g).sub l).fin (fresh_back s.ef hp) kp ho r
end
/-! ### dict(d), dicts alike, a text many times -/
section
variable {K : Fg} {F Kn0 : Hp} {sl sl' : List Sl} {ow ow1 : List Ow} {κ β : Type} [Rp κ] [K1 κ] [DecidableEq κ] [Rp β] {te : TE} {i j : Nat} {p : Addr}
abbrev rDictD : List V → Hp → VK → Prop := fun xs H Q => ∃ (a : Addr) (kvs : List (Key × V)), xs = [.ref a] ∧ Rd H a (.dK kvs) ∧ ∀ p, H p = none → Q (.ref p) (upd H p (.dK kvs))
theorem eg_dict {d : Dc κ β} (h : EV K F Kn0 sl ow te d) : EG K F Kn0 sl ow (tCB rDictD (tCons te tNil)) d := fun σ Kn H s Q q => h σ Kn H s _ fun v Kn1 H1 g1 r1 => by
  obtain ⟨l, ws, rfl, h1, h2⟩ := r1
  exact ⟨l, ws, rfl, rd_ex g1.kh h1, fun p hp => q p _ Kn1 _ (g1.trans (Gr.newU g1.kh hp)) (fresh_back g1.hh hp) (fresh_back g1.kh hp) upd_same ⟨ws, rfl, h2⟩⟩
theorem eg_dictO {d : Dc κ β} (hi : sl[i]? = some (.at p)) (hj : ow[j]? = some (oo p d)) : EG K F Kn0 sl ow (tCB rDictD (tCons (tVar i) tNil)) d := fun σ Kn H s Q q => by
  obtain ⟨o, h1, h2⟩ := s.sl.get hi
  obtain ⟨f1, f2, ob, f3, ws, rfl, f5⟩ := s.ow.each _ (List.mem_of_getElem? hj)
  exact ⟨.ref p, by rw [h1]; exact congrArg some h2, p, ws, rfl, Rd.of f3, fun l hl => q l _ Kn _ (Gr.newU s.ek hl) hl (fresh_back s.ek hl) upd_same ⟨ws, rfl, f5⟩⟩
/-- {k: v, ..} -/
theorem eg_disp {trs : List (TE × TE)} {kvs : List (κ × β)} (hp : EPs K F Kn0 sl ow trs kvs) (hl : kvs.length ≤ 15) : EG K F Kn0 sl ow (tDisp trs) (Dc.mk (mergeD [] kvs)) := fun σ Kn H s Q q p hp0 => by
  have g0 : Gr Kn H Kn (upd H p (.dK [])) := Gr.newU s.ek hp0
  refine hp σ Kn _ (s.grow g0) _ fun ws Kn1 H1 g1 r1 => ?_
  have e1 : H1 p = some (.dK []) := g1.hh _ _ upd_same
  have kp : Kn1 p = none := g1.sp p (ne_none_of upd_same) (fresh_back s.ek hp0)
  have g : Gr Kn H Kn1 (upd H1 p (.dK (mergeK [] ws))) := ⟨g1.kk, fun a u h => by
    have hne : a ≠ p := fun z => by rw [z, hp0] at h; cases h
    rw [upd_ne hne]
    exact g1.hh _ _ (by rw [upd_ne hne]; exact h), upd_in g1.kh kp, fun a h1 h2 => g1.sp a (Ex.nn g0.hh h1) h2⟩
  exact ⟨e1, ws, rfl, by rw [r1.length]; exact hl, q p _ Kn1 _ g hp0 kp upd_same ⟨_, rfl, DK.merge r1 .nil⟩⟩
instance {κ β : Type} [Rp κ] [K1 κ] [Rp β] : Tn (Dc κ β) := ⟨"dict", fun h => by
  obtain ⟨p, ws, rfl, h1, _⟩ := h
  rcases h1 with h1 | ⟨o, h1⟩
  · exact .base (.dK h1)
  · exact .fDict h1⟩
/-- are the dicts alike? told where they are -/
def eqDO {κ β : Type} [DecidableEq κ] [DecidableEq β] (a b : Dc κ β) : Option Bool := if a.l.length = b.l.length ∧ (a.l.all fun kv => decide (getD b.l kv.1 = some kv.2)) = true then some true else none
class FlB (β : Type) [Rp β] : Prop where
  fb : ∀ {K : Fg} {H : Hp} {v : V} {x : β}, rep K H v x → flatB v = true
  un : ∀ {K : Fg} {H : Hp} {v w : V} {x : β}, rep K H v x → rep K H w x → v = w
instance : FlB Int := ⟨fun h => by cases h; rfl, fun h1 h2 => by cases h1; cases h2; rfl⟩
instance : FlB Str := ⟨fun h => by cases h; rfl, fun h1 h2 => by cases h1; cases h2; rfl⟩
instance : FlB Bool := ⟨fun h => by cases h; rfl, fun h1 h2 => by cases h1; cases h2; rfl⟩
theorem dk_mem {Kn : Hp} {ws : List (Key × V)} {kvs : List (κ × β)} (h : DK K Kn ws kvs) {w : Key × V} (hw : w ∈ ws) : ∃ kv ∈ kvs, w.1 = K1.key kv.1 ∧ rep K Kn w.2 kv.2 := by
  unfold DK at h
  induction h with
  | nil => cases hw
  | cons q t ih =>
    rcases List.mem_cons.mp hw with rfl | hw
    · exact ⟨_, List.mem_cons_self, q⟩
    · obtain ⟨kv, h1, h2⟩ := ih hw
      exact ⟨kv, List.mem_cons_of_mem _ h1, h2⟩
theorem eqD_go [DecidableEq β] [FlB β] {a b : Dc κ β} {r r' : Bool} (h : eqDO a b = some r) {Kn H : Hp} {v w : V} (ek : Ex Kn H) (h1 : rep K Kn v a) (h2 : rep K Kn w b) {Q : VK} (q : Q (.bl r') H) : rEqDR r' v w H Q ∧ r = true := by
  obtain ⟨p1, w1, rfl, a1, a2⟩ := h1
  obtain ⟨p2, w2, rfl, b1, b2⟩ := h2
  unfold eqDO at h
  split at h
  case isFalse => cases h
  rename_i hl
  cases h
  refine ⟨⟨p1, p2, w1, w2, rfl, rfl, rd_ex ek a1, rd_ex ek b1, ?_, fun x hx => ?_, q⟩, rfl⟩
  · rw [a2.length, b2.length]
    exact hl.1
  · obtain ⟨kv, hm, e1, e2⟩ := dk_mem a2 hx
    have g := of_decide_eq_true (List.all_eq_true.mp hl.2 kv hm)
    rcases b2.get kv.1 with ⟨z, _⟩ | ⟨y, v, z1, z2, z3⟩
    · rw [z] at g
      cases g
    · rw [z1] at g
      cases g
      refine ⟨?_, FlB.fb e2⟩
      rw [e1]
      have : valV w2 (K1.key kv.1) = some v := z2
      rw [this, FlB.un e2 z3]
theorem r2_eqD [DecidableEq β] [FlB β] {a b : Dc κ β} {r : Bool} (h : eqDO a b = some r) : R2V K (rEqDR true) a b r := fun Kn H v w ek h1 h2 Q q => by
  obtain ⟨_, e⟩ := eqD_go h ek h1 h2 (r' := true) (Q := fun _ _ => True) trivial
  subst e
  exact (eqD_go h ek h1 h2 (r' := true) (q.fl (z := true) ek)).1
theorem r2_neD [DecidableEq β] [FlB β] {a b : Dc κ β} {r : Bool} (h : eqDO a b = some r) : R2V K (rEqDR false) a b (!r) := fun Kn H v w ek h1 h2 Q q => by
  obtain ⟨_, e⟩ := eqD_go h ek h1 h2 (r' := true) (Q := fun _ _ => True) trivial
  subst e
  exact (eqD_go h ek h1 h2 (r' := false) (q.fl (z := false) ek)).1
end
end Wk
/-! Wopt: None or something; is; a tuple of alike things walked; a tuple of two lists of one's own -/
namespace Wk
open PySem PySem.Spec L2 Evl
/-- never None -/
class NN (α : Type) [Rp α] : Prop where
  nn : ∀ {K : Fg} {H : Hp} {v : V} {a : α}, rep K H v a → v ≠ .non
instance : NN Int := ⟨fun h z => by rw [show _ = V.int _ from h] at z; cases z⟩
instance : NN Bool := ⟨fun h z => by rw [show _ = V.bl _ from h] at z; cases z⟩
instance : NN Str := ⟨fun h z => by rw [show _ = V.str _ from h] at z; cases z⟩
instance {α : Type} [Rp α] : NN (List α) := ⟨fun h z => by
  obtain ⟨p, vs, rfl, _⟩ := h
  cases z⟩
instance {α τ : Type} [Rp α] [Tp τ] : NN (α × τ) := ⟨fun h z => by
  obtain ⟨p, vs, rfl, _⟩ := h
  cases z⟩
inductive Ho {α : Type} [Rp α] : {τ : Type} → [Tp τ] → τ → List α → Prop
  | nil : Ho () []
  | cons {τ : Type} [Tp τ] (x : α) {t : τ} {xs : List α} : Ho t xs → Ho (x, t) (x :: xs)
theorem Ho.get {α : Type} [Rp α] {K : Fg} {H : Hp} {τ : Type} [i : Tp τ] {t : τ} {xs : List α} (h : Ho t xs) : ∀ {vs : List V}, rept K H vs t → Paired (rep K H) vs xs := by
  induction h with
  | nil => intro vs r; cases r; exact .nil
  | cons x _ ih =>
    intro vs r
    obtain ⟨v, r, rfl, h1, h2⟩ := r
    exact .cons h1 (ih h2)
structure P2 where
  a : Addr
  b : Addr
instance : Ob P2 := { ob := fun _ _ o x => o = .tup [.ref x.a, .ref x.b], swap := fun _ h => h }
def appP {α : Type} (c : Bool) (xs ys : List α) (x : α) : Option (List α × List α) := if xs.length < 1000000 ∧ ys.length < 1000000 then some (if c = true then (xs, ys ++ [x]) else (xs ++ [x], ys)) else none
section
variable {K : Fg} {F Kn0 : Hp} {sl sl' : List Sl} {ow ow1 ow2 : List Ow} {α β γ τ : Type} [Rp α] [Rp β] [Rp γ] [Tp τ] {ta tb te tn : TE} {D : Ends} {i j k1 k2 : Nat} {p pt p1 p2 : Addr}
theorem ev_some [NN α] {x : α} (h : EV K F Kn0 sl ow te x) : EV K F Kn0 sl ow te (some x) := fun σ Kn H s Q q => h σ Kn H s Q fun v Kn' H' g r => q v Kn' H' g ⟨NN.nn r, r⟩
theorem ev_unopt {o : Option α} {x : α} (h : EV K F Kn0 sl ow te o) (e : o = some x) : EV K F Kn0 sl ow te x := fun σ Kn H s Q q => h σ Kn H s Q fun v Kn' H' g r => by
  subst e
  exact q v Kn' H' g r.2
theorem r2_isN {o : Option α} : R2V K (fun x y H Q => y = .non ∧ Q (.bl (decide (x = .non))) H) o Nn.nn o.isNone := fun Kn H v w ek h1 h2 Q q => by
  cases h2
  refine ⟨rfl, ?_⟩
  cases o with
  | none =>
    cases h1
    exact q.fl ek
  | some x =>
    rw [decide_eq_false h1.1]
    exact q.fl ek
theorem r2_notN {o : Option α} : R2V K (fun x y H Q => y = .non ∧ Q (.bl (!decide (x = .non))) H) o Nn.nn o.isSome := fun Kn H v w ek h1 h2 Q q => by
  cases h2
  refine ⟨rfl, ?_⟩
  cases o with
  | none =>
    cases h1
    exact q.fl ek
  | some x =>
    rw [decide_eq_false h1.1]
    exact q.fl ek
theorem r2_isB {a b : Bool} : R2V K L2.rIsB a b (decide (a = b)) := fun Kn H v w ek h1 h2 Q q => by
  cases h1
  cases h2
  exact ⟨a, b, rfl, rfl, q.fl ek⟩
theorem r2_notB {a b : Bool} : R2V K L2.rNotB a b (!decide (a = b)) := fun Kn H v w ek h1 h2 Q q => by
  cases h1
  cases h2
  exact ⟨a, b, rfl, rfl, q.fl ek⟩
theorem ev_hom {t : β × τ} {xs : List α} (h : EV K F Kn0 sl ow te t) (ho : Ho t xs) : EV K F Kn0 sl ow te (Tu.mk xs) := fun σ Kn H s Q q => h σ Kn H s Q fun v Kn' H' g r => by
  obtain ⟨p, vs, rfl, h1, h2⟩ := r
  exact q _ Kn' H' g ⟨p, vs, rfl, h1, ho.get h2⟩
/-- an object of one's own becomes known, and is no more named -/
theorem S.lend {σ : L2.St} {Kn H : Hp} {o1 : Ow} {ob : HO} (s : S K F Kn0 sl ow σ Kn H) (hj : ow[j]? = some o1) (hp : H o1.ad = some ob) : S K F Kn0 sl (ow.eraseIdx j) σ (upd Kn o1.ad ob) H := by
  obtain ⟨f1, f2, f3⟩ := s.ow.each _ (List.mem_of_getElem? hj)
  have s1 := s.sub (List.eraseIdx_sublist ow j)
  refine s1.know f1 f2 (fun o hm z => ?_) hp
  obtain ⟨m, hm'⟩ := List.getElem?_of_mem hm
  rw [List.getElem?_eraseIdx] at hm'
  split at hm'
  · have := ow_at s.ow.nd hm' hj z
    omega
  · have := ow_at s.ow.nd hm' hj z
    omega
theorem S.borrowP {σ : L2.St} {Kn H : Hp} {xs ys : List α} (s : S K F Kn0 sl ow σ Kn H) (hi : sl[i]? = some (.at pt)) (hj : ow[j]? = some (oo pt (P2.mk p1 p2))) (h1 : (ow.eraseIdx j)[k1]? = some (ol p1 xs)) (h2 : ((ow.eraseIdx j).eraseIdx k1)[k2]? = some (ol p2 ys)) :
    ∃ Kn', S K F Kn0 (sl.set i (sv ((xs, ys, ()) : List α × List α × Unit))) (((ow.eraseIdx j).eraseIdx k1).eraseIdx k2) σ Kn' H := by
  obtain ⟨o, q1, q2⟩ := s.sl.get hi
  have q2 : o = some (.ref pt) := q2
  obtain ⟨_, a2, ob, a3, a4⟩ := s.ow.each _ (List.mem_of_getElem? hj)
  have a4 : ob = .tup [.ref p1, .ref p2] := a4
  subst a4
  have s1 := s.lend hj a3
  obtain ⟨_, b2, w1, b3, b4⟩ := s1.ow.each _ (List.mem_of_getElem? h1)
  have s2 := s1.lend h1 b3
  obtain ⟨_, c2, w2, c3, c4⟩ := s2.ow.each _ (List.mem_of_getElem? h2)
  have s3 := s2.lend h2 c3
  have x2 : Ex (upd Kn pt (.tup [.ref p1, .ref p2])) (upd (upd Kn pt (.tup [.ref p1, .ref p2])) p1 (.lst w1)) := Ex.new b2
  have x3 : Ex (upd (upd Kn pt (.tup [.ref p1, .ref p2])) p1 (.lst w1)) (upd (upd (upd Kn pt (.tup [.ref p1, .ref p2])) p1 (.lst w1)) p2 (.lst w2)) := Ex.new c2
  have hσ : σ.set i o = σ := by
    refine List.ext_getElem? fun m => ?_
    by_cases e : i = m
    · subst e
      rw [List.getElem?_set_self (List.getElem?_eq_some_iff.mp q1).1, q1]
    · rw [List.getElem?_set_ne e]
  have s4 := s3.set (x := sv ((xs, ys, ()) : List α × List α × Unit)) (o := o) i ⟨.ref pt, q2, pt, _, rfl, (x2.trans x3) _ _ upd_same, .ref p1, _, rfl, ⟨p1, w1, rfl, x3 _ _ upd_same, paired_mono (x2.trans x3) b4⟩, .ref p2, _, rfl, ⟨p2, w2, rfl, upd_same, paired_mono x3 c4⟩, rfl⟩
  rw [hσ] at s4
  exact ⟨_, s4⟩
theorem ev_borP [Fl γ] {z : γ} {xs ys : List α} (hi : sl[i]? = some (.at pt)) (hj : ow[j]? = some (oo pt (P2.mk p1 p2))) (h1 : (ow.eraseIdx j)[k1]? = some (ol p1 xs)) (h2 : ((ow.eraseIdx j).eraseIdx k1)[k2]? = some (ol p2 ys)) (hs : sl.set i (sv ((xs, ys, ()) : List α × List α × Unit)) = sl')
    (ho : ((ow.eraseIdx j).eraseIdx k1).eraseIdx k2 = ow1) (h : EV K F Kn0 sl' ow1 te z) : EV K F Kn0 sl ow te z := fun σ Kn H s Q q => by
  obtain ⟨Kn', s1⟩ := s.borrowP hi hj h1 h2
  subst hs
  subst ho
  exact h σ _ H s1 Q fun v Kn' H' g r => q v Kn H' ⟨Ex.refl _, g.hh, s.ek.trans g.hh, fun _ _ h => h⟩ (Fl.iff.mpr (Fl.iff.mp r))
/-- a = (xs, ys), both new -/
theorem sb_asgPair {xs ys : List α} {sl' : Addr → List Sl} (hs : ∀ p, sl.set i (.at p) = sl' p) (ha : EN K F Kn0 sl ow ta xs) (hb : EN K F Kn0 sl ow tb ys) (k : ∀ pt p1 p2, SN K F Kn0 (sl' pt) (oo pt (P2.mk p1 p2) :: ol p1 xs :: ol p2 ys :: ow) D) :
    SB K F Kn0 sl ow D (tAsg (tTup (tCons ta (tCons tb tNil))) (gName i)) := fun σ Kn H s =>
  ha σ Kn H s _ fun p1 w1 Kn1 H1 g1 hp1 kp1 hw1 r1 => hb σ Kn1 H1 (s.grow g1) _ fun p2 w2 Kn2 H2 g2 hp2 kp2 hw2 r2 => by
    have g12 := g1.trans g2
    have h12 : H2 p1 = some (.lst w1) := g2.hh _ _ hw1
    have k12 : Kn2 p1 = none := g2.sp p1 (ne_none_of hw1) kp1
    have n12 : p1 ≠ p2 := fun z => by rw [← z, hw1] at hp2; cases hp2
    refine ⟨by show ([V.ref p1, V.ref p2] : List V).length ≤ sizeLine; exact le_line (Nat.le_of_ble_eq_true rfl), fun pt hp => ?_⟩
    have g3 := g12.trans (Gr.newU (o := .tup [V.ref p1, V.ref p2]) g12.kh hp)
    have n1 : p1 ≠ pt := fun z => by rw [← z, h12] at hp; cases hp
    have n2 : p2 ≠ pt := fun z => by rw [← z, hw2] at hp; cases hp
    have s3 := s.grow g3
    have u1 : upd H2 pt (.tup [V.ref p1, V.ref p2]) p1 = some (.lst w1) := by rw [upd_ne n1]; exact h12
    have u2 : upd H2 pt (.tup [V.ref p1, V.ref p2]) p2 = some (.lst w2) := by rw [upd_ne n2]; exact hw2
    have o2 := s3.own (p := p2) (fresh_back s.ef (fresh_back g1.hh hp2)) kp2 (owned_ne s (fresh_back g1.hh hp2)) u2 r2
    have o1 := o2.own (p := p1) (fresh_back s.ef hp1) k12 (fun o ho z => by
      rcases List.mem_cons.mp ho with rfl | ho
      · exact n12 z.symm
      · exact owned_ne s hp1 o ho z) u1 (paired_mono g2.kk r1)
    have hpH : H pt = none := fresh_back g12.hh hp
    have o0 := o1.ownG (p := pt) (o := oo pt (P2.mk p1 p2)) rfl (fresh_back s.ef hpH) (fresh_back g12.kh hp) (fun o ho z => by
      rcases List.mem_cons.mp ho with rfl | ho
      · exact n1 z
      · rcases List.mem_cons.mp ho with rfl | ho
        · exact n2 z
        · exact owned_ne s hpH o ho z) ⟨_, upd_same, rfl⟩
    exact k pt p1 p2 _ Kn2 _ (hs pt ▸ o0.seta (p := pt) i)
theorem set_ow {o : Ow} (h : ow[j]? = some o) : ow.set j o = ow := by
  refine List.ext_getElem? fun m => ?_
  by_cases e : j = m
  · subst e
    rw [List.getElem?_set_self (List.getElem?_eq_some_iff.mp h).1, h]
  · rw [List.getElem?_set_ne e]
/-- a[int(c)].append(x) -/
theorem sb_appP {xs ys xs' ys' : List α} {x : α} {c : Bool} (hi : sl[i]? = some (.at pt)) (hj : ow[j]? = some (oo pt (P2.mk p1 p2))) (h1 : ow[k1]? = some (ol p1 xs)) (h2 : ow[k2]? = some (ol p2 ys)) (hn : EV K F Kn0 sl ow tn (if c = true then (1 : Int) else 0)) (h : EV K F Kn0 sl ow te x) (hx : appP c xs ys x = some (xs', ys'))
    (ho : (ow.set k1 (ol p1 xs')).set k2 (ol p2 ys') = ow1) (hk : k1 ≠ k2) (k : SN K F Kn0 sl ow1 D) : SB K F Kn0 sl ow D (tDrop (tBM K "list" rAppend (tOp (rIxT K) (tVar i) tn) (tCons te tNil))) := fun σ Kn H s => by
  obtain ⟨o, q1, q2⟩ := s.sl.get hi
  refine ⟨.ref pt, by rw [q1]; exact congrArg some q2, hn σ Kn H s _ fun v Kn1 H1 g1 r1 => ?_⟩
  have s1 := s.grow g1
  obtain ⟨_, a2, ob, a3, a4⟩ := s1.ow.each _ (List.mem_of_getElem? hj)
  have a4 : ob = .tup [.ref p1, .ref p2] := a4
  subst a4
  cases r1
  obtain ⟨_, b2, w1, b3, b4⟩ := s1.ow.each _ (List.mem_of_getElem? h1)
  obtain ⟨_, c2, w2, c3, c4⟩ := s1.ow.each _ (List.mem_of_getElem? h2)
  unfold appP at hx
  split at hx
  case isFalse => cases hx
  rename_i hl
  have hx := Option.some.inj hx
  subst ho
  cases c with
  | true =>
    have e1 : xs = xs' := congrArg Prod.fst hx
    have e2 : ys ++ [x] = ys' := congrArg Prod.snd hx
    subst e1
    subst e2
    refine ⟨pt, _, 1, .ref p2, rfl, rfl, st_of a3, rfl, Or.inl ⟨rfl, w2, sq_of c3⟩, h σ Kn1 H1 s1 _ fun u Kn2 H2 g2 r2 => ?_⟩
    refine ⟨p2, w2, u, rfl, rfl, g2.hh _ _ c3, by rw [paired_len c4]; exact lt_line hl.2, k _ Kn2 _ ?_⟩
    have kp : Kn2 p2 = none := g2.sp p2 (ne_none_of c3) c2
    rw [set_ow h1]
    exact (s1.grow g2).write h2 (Ex.refl _) (upd_in g2.kh kp) (fun q hq _ => upd_ne hq) (fun _ _ h => h) upd_same (paired_append (paired_mono g2.kk c4) (.cons r2 .nil))
  | false =>
    have e1 : xs ++ [x] = xs' := congrArg Prod.fst hx
    have e2 : ys = ys' := congrArg Prod.snd hx
    subst e1
    subst e2
    refine ⟨pt, _, 0, .ref p1, rfl, rfl, st_of a3, rfl, Or.inl ⟨rfl, w1, sq_of b3⟩, h σ Kn1 H1 s1 _ fun u Kn2 H2 g2 r2 => ?_⟩
    refine ⟨p1, w1, u, rfl, rfl, g2.hh _ _ b3, by rw [paired_len b4]; exact lt_line hl.1, k _ Kn2 _ ?_⟩
    have kp : Kn2 p1 = none := g2.sp p1 (ne_none_of b3) b2
    have e : (ow.set k1 (ol p1 (xs ++ [x]))).set k2 (ol p2 ys) = ow.set k1 (ol p1 (xs ++ [x])) := set_ow (by rw [List.getElem?_set_ne hk]; exact h2)
    rw [e]
    exact (s1.grow g2).write h1 (Ex.refl _) (upd_in g2.kh kp) (fun q hq _ => upd_ne hq) (fun _ _ h => h) upd_same (paired_append (paired_mono g2.kk b4) (.cons r2 .nil))
end
end Wk
/-! Wpour: lists of dicts alike; a tuple of a dict and more alike; d.update(d2) with keys of one piece; a def that tells a new dict and more in a tuple -/
namespace PySem.SeqAt
open AutoSeq1 (wpAny_loadPart')
open MeetsSeq MeetsSeq2 MeetsSeq3 SeqRoads2
section
variable {prog : Program} {w : World}
theorem wk_ne_loop (l b : Addr) (items items2 : Array Value) (n n2 : Nat) (dd dd2 : Option Addr) (sl sl2 : Array (Option Value)) (hsz : items.size = items2.size) (k : Nat) :
    ∀ i : Nat, items.size - i = k → MeetsIn prog w (Builtin.«list.__eq__.loop» ⟨[.ref l, .ref b, rawInt i, rawInt 3], []⟩)
      (fun A R s => s.heap.get? l = some { cls := .type "list", dict := dd, data := .seq items n, slots := sl } ∧ s.heap.get? b = some { cls := .type "list", dict := dd2, data := .seq items2 n2, slots := sl2 } ∧
        (∀ j (h1 : j < items.size) (h2 : j < items2.size), EqP prog w A.in1 s items[j] items2[j] true) ∧
        R (.ok (.ret (.bool false))) s) := by
  induction k with
  | zero =>
    intro i hk A R s h
    obtain ⟨hp, g, d, tk, os⟩ := s; obtain ⟨hl, hb, he, h⟩ := h
    wp_walk using wpAny_loadPart' hl, wpAny_loadPart' hb
    have hi1 : items[((i : Nat) : Int).toNat]? = none := by simp; omega
    have hi2 : items2[((i : Nat) : Int).toNat]? = none := by simp; omega
    rw [hi1, hi2]
    wp_walk using wpAny_loadPart' hl, wpAny_loadPart' hb
    show R (.ok (.ret (.bool (items.size != items2.size)))) _
    rw [hsz]
    simpa using h
  | succ k ih =>
    intro i hk A R s h
    obtain ⟨hp, g, d, tk, os⟩ := s; obtain ⟨hl, hb, he, h⟩ := h
    wp_walk using wpAny_loadPart' hl, wpAny_loadPart' hb
    have hlt : i < items.size := by omega
    have hlt2 : i < items2.size := by omega
    have hi1 : items[((i : Nat) : Int).toNat]? = some items[i] := by simp [hlt]
    have hi2 : items2[((i : Nat) : Int).toNat]? = some items2[i] := by simp [hlt2]
    have hc : ((i : Int) + 1) = ((i + 1 : Nat) : Int) := by push_cast; rfl
    rw [hi1, hi2]
    refine wpAny_bind (he i hlt hlt2 _ _ ?_)
    wp_walk
    rw [hc]
    exact ⟨plainId_quiet plain_eq_loop _, codeAny_builtin entry_eq_loop (by
      rw [Around.under_plainId plain_eq_loop _]
      exact ih (i + 1) (by omega) A R _ ⟨hl, hb, he, h⟩)⟩
theorem wk_list_ne (l b : Addr) (items items2 : Array Value) (n n2 : Nat) (dd dd2 : Option Addr) (sl sl2 : Array (Option Value)) (hsz : items.size = items2.size) :
    MeetsIn prog w (Builtin.«list.__ne__» ⟨[.ref l, .ref b], []⟩)
      (fun A R s => s.heap.get? l = some { cls := .type "list", dict := dd, data := .seq items n, slots := sl } ∧ s.heap.get? b = some { cls := .type "list", dict := dd2, data := .seq items2 n2, slots := sl2 } ∧
        (∀ j (h1 : j < items.size) (h2 : j < items2.size), EqP prog w A.in1 s items[j] items2[j] true) ∧
        R (.ok (.ret (.bool false))) s) := by
  intro A R s h
  obtain ⟨hp, g, d, tk, os⟩ := s; obtain ⟨hl, hb, he, h⟩ := h
  have f3 := AutoSeq1.sub_list_list
  have hne : ¬ (items.size != items2.size) = true := by simp [hsz]
  wp_walk using wpAny_loadPart' hl, wpAny_loadPart' hb
  exact ⟨plainId_quiet plain_eq_loop _, codeAny_builtin entry_eq_loop (by
    rw [Around.under_plainId plain_eq_loop _]
    exact wk_ne_loop l b items items2 n n2 dd dd2 sl sl2 hsz _ 0 rfl A R _ ⟨hl, hb, he, h⟩)⟩
theorem wk_ne_lists {A : Around} {s : Shared} {l b : Addr} {items items2 : Array Value} (hl : s.heap.IsList l items) (hb : s.heap.IsList b items2) (hsz : items.size = items2.size) (hu : A.units < cLine)
    (he : ∀ j (h1 : j < items.size) (h2 : j < items2.size), EqP prog w A.in1 s items[j] items2[j] true) (E Q : Value → Shared → Prop) (h : Q (.bool false) s) : wpAny (model prog w) A (richCompare .NotEq (.ref l) (.ref b)) Q E s := by
  obtain ⟨⟨cls, dd, data, sl⟩, ho, hc, n, hd⟩ := id hl
  obtain ⟨⟨cls2, dd2, data2, sl2⟩, ho2, hc2, n2, hd2⟩ := id hb
  simp only at hc hd hc2 hd2
  subst hc hd hc2 hd2
  have ta : s.TypeIs (.ref l) "list" := ⟨_, ho, rfl⟩
  have tb : s.TypeIs (.ref b) "list" := ⟨_, ho2, rfl⟩
  exact wpAny_richCompare_same_room (op := .NotEq) ta tb F.slot_list_ne (call_meetsIn F.slot_list_ne ta F.entry_list_ne (F.args_list_ne_2 _ _) (wk_list_ne l b items items2 n n2 dd dd2 sl sl2 hsz)
    ⟨ho, ho2, he, show Value.bool false ≠ Value.notImplemented ∧ Q (.bool false) s from ⟨(fun x => nomatch x), h⟩⟩) hu
end
end PySem.SeqAt
namespace L2
open PySem PySem.Spec PyProof.Rows
/-- two dicts alike, or the same flat thing -/
def DDf (H : Hp) (x y : V) : Prop := (x = y ∧ flatB x = true) ∨ ∃ a b ks ls, x = .ref a ∧ y = .ref b ∧ Rd H a (.dK ks) ∧ Rd H b (.dK ls) ∧ ks.length = ls.length ∧ ∀ p ∈ ks, valV ls p.1 = some p.2 ∧ flatB p.2 = true
section
variable {X : Cx}
theorem ddf_eqP {pins : List (Addr × Obj)} {σ : St} {H : Hp} {s : Shared} (I : Inv X pins σ H s) {A : Around} (hu : A.units < cLine) {x y : V} {v u : Value} (h : DDf H x y) (rx : RelV x v) (ry : RelV y u) : SeqAt.EqP X.prog X.w A s v u true := by
  rcases h with ⟨rfl, f⟩ | ⟨a, b, ks, ls, rfl, rfl, ea, eb, hl, hp⟩
  · exact (eqAt_same rx ry f).eqP
  · cases (show v = Value.ref a from rx)
    cases (show u = Value.ref b from ry)
    by_cases e : a = b
    · subst e
      exact (SeqAt.EqAt.same _).eqP
    · obtain ⟨_, ya, va, ra, da⟩ := dk_rd I.hok ea
      obtain ⟨_, yb, vb, rb, db⟩ := dk_rd I.hok eb
      refine SeqAt.eqP_refs e fun E Q q => PySem.W.rcP_dicts (knd := mixKind X.prog X.w) (r := true) ya yb da db hu (fun _ => hits_run (F := fun x y => x = y ∧ flatB x = true) (fun x y v u h rx ry => by
        obtain ⟨rfl, f⟩ := h
        exact (eqAt_same rx ry f).eqP) rb ra fun p hm => ⟨p.2, (hp p hm).1, rfl, (hp p hm).2⟩) E Q ?_
      have e : va.length = vb.length := by rw [← ra.length, ← rb.length]; exact hl
      rw [show (va.length == vb.length && true) = true from by rw [e]; simp]
      exact q
/-- xs != ys, alike -/
def rNeDL (K : PySem.W.Frag) : R2 := fun x y H Q => ∃ a b xs ys, x = .ref a ∧ y = .ref b ∧ SqL K H a xs ∧ SqL K H b ys ∧ Paired (DDf H) xs ys ∧ Q (.bl false) H
theorem ddf_items {pins : List (Addr × Obj)} {σ : St} {H : Hp} {s : Shared} (I : Inv X pins σ H s) {A : Around} (hu : A.units < cLine) : ∀ {xs ys : List V} {us ws : List Value}, Paired (DDf H) xs ys → Vals xs us → Vals ys ws → ∀ (j : Nat) (h1 : j < us.length) (h2 : j < ws.length), SeqAt.EqP X.prog X.w A s us[j] ws[j] true
  | _, _, _, _, .nil, r1, _, j, h1, _ => by
    cases r1
    exact absurd h1 (Nat.not_lt_zero _)
  | _, _, _, _, .cons h t, r1, r2, j, h1, h2 => by
    cases r1 with
    | cons a1 b1 =>
      cases r2 with
      | cons a2 b2 =>
        cases j with
        | zero => exact ddf_eqP I hu h a1 a2
        | succ j => exact ddf_items I hu t b1 b2 j (Nat.lt_of_succ_lt_succ h1) (Nat.lt_of_succ_lt_succ h2)
theorem op_neDL (hu : X.A.units + 64 < cLine) : OpR X (compareOp .NotEq) (rNeDL X.K) := by
  intro pins s σ H x y v u Q I rx ry h
  obtain ⟨a, b, xs, ys, rfl, rfl, ha, hb, hp, q⟩ := h
  cases (show v = Value.ref a from rx)
  cases (show u = Value.ref b from ry)
  obtain ⟨us, r1, p1, _⟩ := I.list ha
  obtain ⟨ws, r2, p2, _⟩ := I.list hb
  have hsz : us.toArray.size = ws.toArray.size := by
    rw [List.size_toArray, List.size_toArray, ← r1.length, ← r2.length]
    exact Paired.length hp
  show wpAny (model X.prog X.w) X.A (richCompare .NotEq _ _) _ _ _
  refine SeqAt.wk_ne_lists p1.isList p2.isList hsz (by omega) (fun j h1 h2 => ?_) _ _ ⟨.bl false, H, I, rfl, q⟩
  have k := ddf_items I (A := X.A.in1) (by show X.A.units + 1 < cLine; omega) hp r1 r2 j (by simpa using h1) (by simpa using h2)
  simpa using k
/-- a == b, two tuples alike -/
def rEqDT (K : PySem.W.Frag) : R2 := fun x y H Q => ∃ a b xs ys, x = .ref a ∧ y = .ref b ∧ SqT K H a xs ∧ SqT K H b ys ∧ Paired (DDf H) xs ys ∧ Q (.bl true) H
theorem op_eqDT (hu : X.A.units + 64 < cLine) : OpR X (compareOp .Eq) (rEqDT X.K) := by
  intro pins s σ H x y v u Q I rx ry h
  obtain ⟨a, b, xs, ys, rfl, rfl, ha, hb, hp, q⟩ := h
  cases (show v = Value.ref a from rx)
  cases (show u = Value.ref b from ry)
  obtain ⟨us, r1, p1, _⟩ := I.tuple ha
  obtain ⟨ws, r2, p2, _⟩ := I.tuple hb
  have hsz : us.toArray.size = ws.toArray.size := by
    rw [List.size_toArray, List.size_toArray, ← r1.length, ← r2.length]
    exact Paired.length hp
  show wpAny (model X.prog X.w) X.A (richCompare .Eq _ _) _ _ _
  refine GQ.rc_tupG hsz (by omega) (fun _ s' => s' = s) p1 p2 (fun i h1 h2 s' e => ?_) (fun s' e => ?_) rfl
  · subst e
    have k := ddf_items I (A := X.A.in1) (by show X.A.units + 1 < cLine; omega) hp r1 r2 i (by simpa using h1) (by simpa using h2)
    have k2 : SeqAt.EqP X.prog X.w X.A.in1 s' us.toArray[i] ws.toArray[i] true := by simpa using k
    exact k2 _ _ ⟨rfl, rfl⟩
  · subst e
    exact ⟨.bl true, H, I, rfl, q⟩
/-- d.update(d2) -/
def rUpdK : V → List V → Hp → VK → Prop := fun x xs H Q => ∃ (a o : Addr) (kvs more : List (Key × V)), x = .ref a ∧ xs = [.ref o] ∧ H a = some (.dK kvs) ∧ Rd H o (.dK more) ∧ a ≠ o ∧ kvs.length + more.length ≤ 1000000 ∧ Q .non (upd H a (.dK (mergeK kvs more)))
theorem length_mergeK' : ∀ (more kvs : List (Key × V)), (mergeK kvs more).length ≤ kvs.length + more.length
  | [], kvs => Nat.le_refl _
  | p :: r, kvs => by
    have h1 := length_mergeK' r (putK kvs p.1 p.2)
    have h2 := length_putK kvs p.1 p.2
    show (mergeK (putK kvs p.1 p.2) r).length ≤ _
    rw [List.length_cons]
    omega
theorem mt_updK : MtR X "dict.update" rUpdK := by
  intro pins s σ H x xs v us Q I rx rxs h
  obtain ⟨a, o, kvs, more, rfl, rfl, ha, ho, hao, hsz, q⟩ := h
  cases rx
  rw [Vals.ref1 rxs]
  obtain ⟨z1, hd1, xs1, rel1, dd1⟩ := dk_of I.hok ha
  obtain ⟨z2, hd2, xs2, rel2, dd2⟩ := dk_rd I.hok ho
  have hs0 : (1000000 : Nat) ≤ sizeLine := by decide
  refine call_meetsIn F.slot_dict_update dd1.typeIs F.entry_dict_update (F.args_dict_update_2 _ _) (meets_dict_update (mixKind X.prog X.w) a o hao hd2) ⟨xs1, xs2, dd1, dd2, by rw [← rel1.length, ← rel2.length]; omega, fun h' d1 d2 hs => ?_⟩
  have he : ∃ q, h'.get? a = some q := let ⟨q, _, _, hq, _⟩ := d1; ⟨q, hq⟩
  exact ⟨.non, upd H a (.dK (mergeK kvs more)), d_write (t' := s.toks) I (by rw [ha]; exact True.intro) hs he (dk_new (by have := length_mergeK' more kvs; omega) hd1 (KV.merge rel2 rel1) d1), rfl, q⟩
end
end L2
namespace Wk
open PySem PySem.Spec L2 Evl
section
variable {K : Fg} {F Kn0 : Hp} {sl sl' : List Sl} {ow ow1 : List Ow} {κ β : Type} [Rp κ] [K1 κ] [DecidableEq κ] [Rp β] [DecidableEq β] [FlB β]
def neLO (a b : List (Dc κ β)) : Option Bool := if a.length = b.length ∧ (List.zipWith (fun x y => decide (eqDO x y = some true)) a b).all id = true then some false else none
theorem ddf_of {a b : Dc κ β} (h : eqDO a b = some true) {Kn H : Hp} {v w : V} (ek : Ex Kn H) (h1 : rep K Kn v a) (h2 : rep K Kn w b) : DDf H v w := by
  obtain ⟨⟨p1, p2, w1, w2, e1, e2, r1, r2, hl, hp, _⟩, _⟩ := eqD_go h ek h1 h2 (r' := true) (Q := fun _ _ => True) trivial
  exact .inr ⟨p1, p2, w1, w2, e1, e2, r1, r2, hl, hp⟩
theorem ddfs_of {Kn H : Hp} (ek : Ex Kn H) : ∀ {a b : List (Dc κ β)} {vs ws : List V}, a.length = b.length → (List.zipWith (fun x y => decide (eqDO x y = some true)) a b).all id = true → Paired (rep K Kn) vs a → Paired (rep K Kn) ws b → Paired (DDf H) vs ws
  | [], [], _, _, _, _, .nil, .nil => .nil
  | x :: xs, y :: ys, _, _, hl, ha, .cons h1 t1, .cons h2 t2 => by
    rw [List.zipWith_cons_cons, List.all_cons, Bool.and_eq_true] at ha
    exact .cons (ddf_of (of_decide_eq_true ha.1) ek h1 h2) (ddfs_of ek (Nat.succ.inj hl) ha.2 t1 t2)
theorem r2_neL {a b : List (Dc κ β)} {r : Bool} (h : neLO a b = some r) : R2V K (rNeDL K) a b r := fun Kn H v w ek h1 h2 Q q => by
  obtain ⟨p1, w1, rfl, a1, a2⟩ := h1
  obtain ⟨p2, w2, rfl, b1, b2⟩ := h2
  unfold neLO at h
  split at h
  case isFalse => cases h
  rename_i hb
  cases h
  exact ⟨p1, p2, w1, w2, rfl, rfl, sq_of (ek _ _ a1), sq_of (ek _ _ b1), ddfs_of ek hb.1 hb.2 a2 b2, q.fl ek⟩
def eqTpO {γ : Type} (a b : Dc κ β × Option γ × Unit) : Option Bool := if eqDO a.1 b.1 = some true ∧ a.2.1.isNone = true ∧ b.2.1.isNone = true then some true else none
theorem r2_eqTp {γ : Type} [Rp γ] {a b : Dc κ β × Option γ × Unit} {r : Bool} (h : eqTpO a b = some r) : R2V K (rEqDT K) a b r := fun Kn H v w ek h1 h2 Q q => by
  obtain ⟨p1, w1, rfl, a1, v1, r1, rfl, a2, v2, r2, rfl, a3, a4⟩ := h1
  obtain ⟨p2, w2, rfl, b1, u1, s1, rfl, b2, u2, s2, rfl, b3, b4⟩ := h2
  cases a4
  cases b4
  unfold eqTpO at h
  split at h
  case isFalse => cases h
  rename_i hb
  cases h
  obtain ⟨e1, e2, e3⟩ := hb
  obtain ⟨a, ao, ⟨⟩⟩ := a
  obtain ⟨b, bo, ⟨⟩⟩ := b
  cases ao with
  | some x => cases e2
  | none =>
    cases bo with
    | some x => cases e3
    | none =>
      have a3 : v2 = .non := a3
      have b3 : u2 = .non := b3
      subst a3 b3
      exact ⟨p1, p2, _, _, rfl, rfl, st_of (ek _ _ a1), st_of (ek _ _ b1), .cons (ddf_of e1 ek a2 b2) (.cons (.inl ⟨rfl, rfl⟩) .nil), q.fl ek⟩
end
section
variable {K : Fg} {F Kn0 : Hp} {sl sl' : List Sl} {ow ow1 : List Ow} {κ β : Type} [Rp κ] [K1 κ] [DecidableEq κ] [Rp β] {te : TE} {D : Ends} {i j : Nat} {p : Addr}
theorem eg_new : EG K F Kn0 sl ow tDNewK (Dc.mk ([] : List (κ × β))) := fun σ Kn H s Q q p hp => q p _ Kn _ (Gr.newU s.ek hp) hp (fresh_back s.ek hp) upd_same ⟨[], rfl, .nil⟩
def updK (d e : Dc κ β) : Option (Dc κ β) := if d.l.length + e.l.length ≤ 1000000 then some ⟨mergeD d.l e.l⟩ else none
theorem sb_updK {d d' e : Dc κ β} (hi : sl[i]? = some (.at p)) (hj : ow[j]? = some (oo p d)) (h : EV K F Kn0 sl ow te e) (hx : updK d e = some d') (ho : ow.set j (oo p d') = ow1) (n : SN K F Kn0 sl ow1 D) :
    SB K F Kn0 sl ow D (tDrop (tBM K "dict" rUpdK (tVar i) (tCons te tNil))) := fun σ Kn H s => by
  obtain ⟨o, h1, h2⟩ := s.sl.get hi
  obtain ⟨f1, f2, o1, f3, ws, f4, f5⟩ := s.ow.each _ (List.mem_of_getElem? hj)
  subst f4
  have f3 : H p = some (.dK ws) := f3
  unfold updK at hx
  split at hx
  case isFalse => cases hx
  rename_i hc
  cases hx
  subst ho
  refine ⟨.ref p, by rw [h1]; exact congrArg some h2, .inr (.inr (.inl ⟨rfl, .inl ⟨ws, f3⟩⟩)), h σ Kn H s _ fun v Kn1 H1 g1 r1 => ?_⟩
  obtain ⟨a, vs, rfl, ha, hv⟩ := r1
  have ha : Rd Kn1 a (.dK vs) := ha
  have kp : Kn1 p = none := g1.sp p (ne_none_of f3) f2
  have hne : p ≠ a := fun z => by
    rw [← z] at ha
    rcases ha with ha | ⟨_, ha⟩
    · rw [kp] at ha; cases ha
    · rw [kp] at ha; cases ha
  refine ⟨p, a, ws, vs, rfl, rfl, g1.hh _ _ f3, rd_ex g1.kh ha, hne, by rw [f5.length, hv.length]; exact hc, n _ Kn1 _ ?_⟩
  exact (s.grow g1).writeG hj rfl rfl (Ex.refl _) (upd_in g1.kh kp) (fun q hq _ => upd_ne hq) (fun _ _ h => h) ⟨_, upd_same, _, rfl, DK.merge hv (DK.mono g1.kk f5)⟩
end
/-! ### a tuple of a new object and more -/
structure Tgp (β : Type) where
  a : Addr
  b : β
instance {β : Type} [Rp β] : Rp (Tgp β) where
  rep K H v x := ∃ p w, v = .ref p ∧ H p = some (.tup [.ref x.a, w]) ∧ rep K H w x.b
  swap e h := by
    obtain ⟨p, w, h1, h2, h3⟩ := h
    exact ⟨p, w, h1, e.tup h2, Rp.swap e h3⟩
instance {β : Type} [Rp β] : Tn (Tgp β) := ⟨"tuple", fun h => by
  obtain ⟨p, vs, rfl, h1, _⟩ := h
  exact .base (.tup h1)⟩
section
variable {β τ γ : Type} [Rp β] [Tp τ] [Ob γ]
def RPG (K : Fg) (Kn H : Hp) (Q : VK) (x : γ) (y : β) : Prop := ∀ p o v Kn' H', Gr Kn H Kn' H' → H p = none → Kn' p = none → H' p = some o → Ob.ob K Kn' o x → rep K Kn' v (Tgp.mk p y) → Q v H'
def EPG (K : Fg) (F Kn0 : Hp) (sl : List Sl) (ow : List Ow) (te : TE) (x : γ) (y : β) : Prop := ∀ σ Kn H, S K F Kn0 sl ow σ Kn H → ∀ Q : VK, RPG K Kn H Q x y → te σ H Q
def PPG (K : Fg) (f : τ → Option (γ × β × Unit)) : Sp := fun vs H Q _ => ∃ Kn t r, Ex Kn H ∧ rept K Kn vs t ∧ f t = some r ∧ RPG K Kn H Q r.1 r.2.1
def RNPG (K : Fg) (F Kn0 : Hp) (ow : List Ow) (R : VK) (x : γ) (y : β) : Prop := ∀ p o v Kn H, S K F Kn0 [] ow [] Kn H → F p = none → Kn p = none → H p = some o → Ob.ob K Kn o x → rep K Kn v (Tgp.mk p y) → R v H
end
section
variable {K : Fg} {F F' Kn0 Kn1 : Hp} {sl sl' : List Sl} {ow ow0 ow1 : List Ow} {α κ β τ γ δ : Type} [Rp α] [Rp κ] [Ky κ] [DecidableEq κ] [Rp β] [Rp δ] [Tp τ] [Ob γ] {ta : TA} {te : TE} {t : τ} {E : XK} {D : Ends} {i j : Nat} {p : Addr} {x : γ} {y : β} {R R' : VK}
theorem RNPG.base (q : RNPG K F Kn0 ow R x y) (b : Bs F Kn0 Kn1) : RNPG K F Kn1 ow R x y := fun p o v Kn H s => q p o v Kn H (s.unbase b)
theorem RNPG.fr (f : Fle F F') (q : RNPG K F Kn0 ow0 R x y) : RNPG K F' Kn0 ow0 R x y := fun p o v Kn H s h1 h2 h3 h4 h5 => q p o v Kn H (s.back f) (fresh_back f h1) h2 h3 h4 h5
theorem RNPG.mv (q : RNPG K F Kn0 ow0 R x y) (m : Mv K F Kn0 R F' Kn1 R') : RNPG K F' Kn1 ow0 R' x y := fun p o v Kn H s fp kp hp r r2 => by
  obtain ⟨Kn', H', s', h1, h2, h3⟩ := m.st _ _ _ _ _ s
  exact h1 _ (q p o v Kn' H' s' (m.fn p fp) (h3 p kp).1 ((h3 p kp).2.trans hp) (Ob.swap h2 r) (Rp.swap h2 r2))
theorem rnpg_of {H Kn : Hp} {Q : VK} (q : RPG K Kn H Q x y) : RNPG K H Kn [] Q x y := fun p o v Kn' H' s h1 h2 h3 h4 h5 => q p o v Kn' H' ⟨s.e0, s.ef, s.ek, s.sep⟩ h1 h2 h3 h4 h5
theorem epg_call {f : τ → Option (γ × β × Unit)} {r : γ × β × Unit} (h : EA K F Kn0 sl ow ta t) (hf : f t = some r) : EPG K F Kn0 sl ow (tCall (PPG K f) [] E ta) r.1 r.2.1 := fun σ Kn H s Q q =>
  h σ Kn H s _ fun vs Kn1 H1 g1 r1 => by
    show PPG K f (vs ++ []) H1 Q E
    rw [List.append_nil]
    exact ⟨Kn1, t, r, g1.kh, r1, hf, fun p o v Kn' H' g' h1 h2 h3 h4 h5 => q p o v Kn' H' (g1.trans g') (fresh_back g1.hh h1) h2 h3 h4 h5⟩
theorem EPG.ev {d : Dc κ δ} (h : EPG K F Kn0 sl ow te d y) : EV K F Kn0 sl ow te (d, y, ()) := fun σ Kn H s Q q => h σ Kn H s Q fun p o v Kn' H' g hp kp ho r r2 => by
  obtain ⟨ws, rfl, r⟩ := r
  obtain ⟨pt, w, rfl, ht, rw'⟩ := r2
  have n : pt ≠ p := fun z => by rw [z, kp] at ht; cases ht
  exact q _ (upd Kn' p (Ky.ho ws)) H' (g.know hp kp ho) ⟨pt, _, rfl, by rw [upd_ne n]; exact ht, .ref p, _, rfl, ⟨p, ws, rfl, Rd.of upd_same, DK.mono (Ex.new kp) r⟩, w, _, rfl, Rp.mono (Ex.new kp) rw', rfl⟩
theorem EPG.cast {x' : γ} {y' : β} (h : EPG K F Kn0 sl ow te x y) (e1 : x = x') (e2 : y = y') : EPG K F Kn0 sl ow te x' y' := e1 ▸ e2 ▸ h
/-- t = f(..): the object is one's own -/
theorem sb_asgPG {sl' : Addr → List Sl} (hs : ∀ p, sl.set i (sv (Tgp.mk p y)) = sl' p) (h : EPG K F Kn0 sl ow te x y) (k : ∀ p, SN K F Kn0 (sl' p) (oo p x :: ow) D) : SB K F Kn0 sl ow D (tAsg te (gName i)) := fun σ Kn H s =>
  h σ Kn H s _ fun p o v Kn1 H1 g1 hp kp ho r1 r2 => k p _ Kn1 H1 (hs p ▸ ((s.grow g1).ownG (p := p) (o := oo p x) rfl (fresh_back s.ef hp) kp (owned_ne s hp) ⟨o, ho, r1⟩).setv (x := Tgp.mk p y) i r2)
theorem S.seta' {σ : L2.St} {Kn H : Hp} (s : S K F Kn0 sl ow σ Kn H) (i : Nat) : S K F Kn0 (sl.set i (.at p)) ow (σ.set i (some (.ref p))) Kn H := s.set i rfl
/-- a, b = t -/
theorem sb_unpTg (hs : (sl.set i (.at p)).set j (sv y) = sl') (h : EV K F Kn0 sl ow te (Tgp.mk p y)) (k : SN K F Kn0 sl' ow D) : SB K F Kn0 sl ow D (tAsg te (gTup K 2 (gCons (gName i) (gCons (gName j) gNil)))) := fun σ Kn H s => h σ Kn H s _ fun v Kn' H' g r => by
  obtain ⟨pt, w, rfl, ht, rw'⟩ := r
  have s1 := s.grow g
  exact ⟨pt, _, rfl, st_of (s1.ek _ _ ht), rfl, .ref p, _, rfl, w, _, rfl, rfl, k _ Kn' H' (hs ▸ ((s1.seta' (p := p) i).setv (x := y) j rw'))⟩
theorem sb_retPG (hi : sl[i]? = some (.at p)) (hj : ow[j]? = some (oo p x)) (h : EV K F Kn0 sl ow te y) (q : RNPG K F Kn0 ow0 R x y) (l : ow0.Sublist ow) (hR : D.rt = R := by rfl) : SB K F Kn0 sl ow D (tRet (tTup (tCons (tVar i) (tCons te tNil)))) := fun σ Kn H s => by
  subst hR
  obtain ⟨o1, a1, a2⟩ := s.sl.get hi
  refine ⟨.ref p, by rw [a1]; exact congrArg some a2, h σ Kn H s _ fun v Kn1 H1 g1 r1 => ⟨by show 2 ≤ sizeLine; exact le_line (by decide), fun pt hp => ?_⟩⟩
  have s1 := s.grow g1
  obtain ⟨f1, f2, ob, f3, f4⟩ := s1.ow.each _ (List.mem_of_getElem? hj)
  have f1 : F p = none := f1
  have f2 : Kn1 p = none := f2
  have g : Gr Kn1 H1 (upd Kn1 pt (.tup [.ref p, v])) (upd H1 pt (.tup [.ref p, v])) := Gr.new s1.ek hp
  have n : p ≠ pt := fun z => by rw [z, hp] at f3; cases f3
  exact q p ob _ _ _ ((s1.grow g).sub l).fin f1 (by rw [upd_ne n]; exact f2) (g.hh _ _ f3) (Ob.mono g.kk f4) ⟨pt, v, rfl, upd_same, Rp.mono g.kk r1⟩
theorem rc_lenTg {x : Tgp β} : RCV K (fun xs H Q => ∃ p ys, xs = [.ref p] ∧ (SqL K H p ys ∨ SqT K H p ys) ∧ Q (.int ys.length) H) (x, ()) (2 : Int) := fun Kn H vs ek h Q q => by
  obtain ⟨v, rfl, p, ws, rfl, h1, h2⟩ := one_arg h
  exact ⟨p, _, rfl, .inr (st_of (ek _ _ h1)), q.fl (z := (2 : Int)) ek⟩
end
section
variable {X : Cx} {K : Fg}
theorem k_neDL (hu : X.A.units + 64 < cLine) (h : X.K = K := by rfl) : OpR X (compareOp .NotEq) (rNeDL K) := h ▸ op_neDL hu
theorem k_eqDT (hu : X.A.units + 64 < cLine) (h : X.K = K := by rfl) : OpR X (compareOp .Eq) (rEqDT K) := h ▸ op_eqDT hu
end
end Wk
/-! Wdeq: == of dicts of whole numbers, alike or not; xs + script; != of truths -/
namespace L2
open PySem PySem.Spec PyProof.Rows
inductive DH (ls : List (Key × V)) : List (Key × V) → Bool → Prop
  | nil : DH ls [] true
  | miss {k : Key} {v : V} {r : List (Key × V)} : valV ls k = none → DH ls ((k, v) :: r) false
  | hit {k : Key} {i j : Int} {r : List (Key × V)} {b : Bool} : valV ls k = some (.int j) → DH ls r b → DH ls ((k, .int i) :: r) (decide (i = j) && b)
theorem dh_hits {A : Around} {s : Shared} {ls : List (Key × V)} {vb : List (Key × Value)} (rb : KV ls vb) {ks : List (Key × V)} {r : Bool} (h : DH ls ks r) : ∀ {va : List (Key × Value)}, KV ks va → PySem.W.KeqHits A s vb va r := by
  induction h with
  | nil =>
    intro va ra
    unfold KV at ra
    cases ra
    exact .nil
  | @miss k v r hv =>
    intro va ra
    unfold KV at ra
    cases ra with
    | @cons _ q _ qs h t =>
      obtain ⟨key, y⟩ := q
      obtain ⟨h1, h2⟩ := h
      have h1 : k = key := h1
      subst h1
      refine .miss ?_
      have := rb.val k
      rw [hv] at this
      cases e : valueAt vb k with
      | none => rfl
      | some z => rw [e] at this; exact False.elim this
  | @hit k i j r b hv _ ih =>
    intro va ra
    unfold KV at ra
    cases ra with
    | @cons _ q _ qs h t =>
      obtain ⟨key, y⟩ := q
      obtain ⟨h1, h2⟩ := h
      have h1 : k = key := h1
      subst h1
      have rr : RelO (some (V.int j)) (valueAt vb k) := by rw [← hv]; exact rb.val k
      obtain ⟨z, hz, rz⟩ := rr.some_of
      obtain ⟨t1, rfl⟩ := h2
      obtain ⟨t2, rfl⟩ := rz
      exact .hit hz (SeqAt.EqAt.int_int i t1 j t2) (ih t)
def rEqDG : R2 := fun x y H Q => ∃ a b ks ls r, x = .ref a ∧ y = .ref b ∧ Rd H a (.dK ks) ∧ Rd H b (.dK ls) ∧ DH ls ks r ∧ Q (.bl (decide (ks.length = ls.length) && r)) H
section
variable {X : Cx}
theorem op_eqDG (hu : X.A.units + 64 < cLine) : OpR X (compareOp .Eq) rEqDG := by
  intro pins s σ H x y v u Q I rx ry h
  obtain ⟨a, b, ks, ls, r, rfl, rfl, ea, eb, hr, q⟩ := h
  obtain rfl : v = Value.ref a := rx
  obtain rfl : u = Value.ref b := ry
  obtain ⟨_, ya, va, ra, da⟩ := dk_rd I.hok ea
  obtain ⟨_, yb, vb, rb, db⟩ := dk_rd I.hok eb
  exact PySem.W.keq_eq (knd := mixKind X.prog X.w) (r := r) ya yb da db (by omega) (fun _ => dh_hits rb hr ra) (fin_bl I q (by rw [← ra.length, ← rb.length]; cases r <;> simp [BEq.beq, Nat.beq_eq]))
def rCatL (K : PySem.W.Frag) : R2 := fun x y H Q => ∃ l b xs zs, x = .ref l ∧ y = .ref b ∧ SqL K H l xs ∧ SqL K H b zs ∧ xs.length + zs.length ≤ sizeLine ∧ ∀ p, H p = none → Q (.ref p) (upd H p (.lst (xs ++ zs)))
theorem op_catL : OpR X (binaryOp .Add) (rCatL X.K) := by
  intro pins s σ H x y v u Q I rx ry h
  obtain ⟨l, b, xs, zs, rfl, rfl, hH, hB, hz, q⟩ := h
  cases rx
  cases ry
  obtain ⟨its, r, p1, _⟩ := I.list hH
  obtain ⟨its2, r2, p2, _⟩ := I.list hB
  have hl := r.length
  have hl2 := r2.length
  obtain ⟨⟨cls, dd, data, sl⟩, n, ho, hc, hd0, hd⟩ := id p1
  obtain ⟨⟨cls2, dd2, data2, sl2⟩, n2, ho2, hc2, hd02, hd2⟩ := id p2
  simp only at hc hd hc2 hd2
  subst hc hd hc2 hd2
  have ea : its.toArray ++ its2.toArray = (its ++ its2).toArray := by simp
  refine concat_meets ⟨_, ho, rfl⟩ ⟨_, ho2, rfl⟩ noFill_list_add seq_list_add F.slot_list_add F.entry_list_add (F.args_list_add_2 _ _) (PyProof.Rows.list_addW l b its.toArray its2.toArray n n2 dd dd2 sl sl2 (by rw [List.size_toArray, List.size_toArray]; omega)) ⟨ho, ho2, ?_⟩
  rw [ea]
  exact ⟨.ref _, _, I.lnew (t' := s.toks) (r.append r2) (by rw [List.length_append]; omega), rfl, q _ I.fresh⟩
end
end L2
namespace Wk
open PySem PySem.Spec L2 Evl
section
variable {K : Fg} {F Kn0 : Hp} {sl sl' : List Sl} {ow ow1 : List Ow} {κ α : Type} [Rp κ] [K1 κ] [DecidableEq κ] [Rp α]
/-- a == b for dicts of whole numbers -/
def eqDG (a b : Dc κ Int) : Bool := decide (a.l.length = b.l.length) && a.l.all fun kv => decide (getD b.l kv.1 = some kv.2)
theorem dh_of {H : Hp} {w2 : List (Key × V)} {bl : List (κ × Int)} (hb : DK K H w2 bl) : ∀ {w1 : List (Key × V)} {al : List (κ × Int)}, DK K H w1 al → DH w2 w1 (al.all fun kv => decide (getD bl kv.1 = some kv.2))
  | [], [], _ => .nil
  | (k, v) :: ws, (x, i) :: al, h => by
    unfold DK at h
    cases h with
    | cons q t =>
      obtain ⟨q1, q2⟩ := q
      have q1 : k = K1.key x := q1
      have q2 : v = .int i := q2
      subst q1 q2
      rw [List.all_cons]
      rcases hb.get x with ⟨z, zv⟩ | ⟨y, u, z1, z2, z3⟩
      · have e : decide (getD bl (x, i).1 = some (x, i).2) = false := by
          rw [show getD bl (x, i).1 = none from z]; simp
        rw [e, Bool.false_and]
        exact .miss zv
      · have z3 : u = .int y := z3
        subst z3
        have e : decide (getD bl (x, i).1 = some (x, i).2) = decide (i = y) := by
          rw [show getD bl (x, i).1 = some y from z1]
          exact decide_eq_decide.mpr ⟨fun h => (Option.some.inj h).symm, fun h => congrArg some h.symm⟩
        rw [e]
        exact .hit z2 (dh_of hb t)
theorem r2_eqDG {a b : Dc κ Int} : R2V K rEqDG a b (eqDG a b) := fun Kn H v w ek h1 h2 Q q => by
  obtain ⟨p1, w1, rfl, a1, a2⟩ := h1
  obtain ⟨p2, w2, rfl, b1, b2⟩ := h2
  refine ⟨p1, p2, w1, w2, _, rfl, rfl, rd_ex ek a1, rd_ex ek b1, dh_of b2 a2, ?_⟩
  rw [a2.length, b2.length]
  exact q.fl (z := eqDG a b) ek
theorem r2_neB {i j : Bool} : R2V K rNe i j (!decide (i = j)) := fun Kn H v w ek h1 h2 Q q => by
  cases h1
  cases h2
  refine ⟨rfl, ?_⟩
  have e : decide (V.bl i = V.bl j) = decide (i = j) := by simp
  rw [e]
  exact q.fl (z := !decide (i = j)) ek
/-- xs + script -/
def catF (xs : List α) (ys : Fz α) : Option (List α) := if xs.length + ys.l.length ≤ 1000000 then some (xs ++ ys.l) else none
theorem r2_catF {xs zs : List α} {ys : Fz α} (h : catF xs ys = some zs) : R2L K (rCatL K) xs ys zs := fun Kn H v w ek h1 h2 Q q => by
  obtain ⟨p1, w1, rfl, a1, a2⟩ := h1
  obtain ⟨p2, w2, rfl, b1, b2⟩ := h2
  unfold catF at h
  split at h
  case isFalse => cases h
  rename_i hc
  cases h
  have hs0 : (1000000 : Nat) ≤ sizeLine := by decide
  refine ⟨p1, p2, w1, w2, rfl, rfl, SqL.of (ek _ _ a1), ex_l ek b1, ?_, fun p hp => ?_⟩
  · rw [Paired.length a2, Paired.length b2]; omega
  · exact q p _ Kn _ (Gr.newU ek hp) hp (fresh_back ek hp) upd_same (paired_append a2 b2)
end
section
variable {X : Cx} {K : Fg}
theorem k_eqDG (hu : X.A.units + 64 < cLine) : OpR X (compareOp .Eq) rEqDG := op_eqDG hu
theorem k_catL (h : X.K = K := by rfl) : OpR X (binaryOp .Add) (rCatL K) := h ▸ op_catL
end
end Wk
/-! Wdy: values of any kind (None, truths, numbers, texts, tuples and lists of these), read as data; a dict of the module; a def that calls itself -/
namespace Wk
open PySem PySem.Spec L2 Evl
mutual
inductive Dq (H : Hp) : V → PyData → Prop
  | non : Dq H .non .none
  | bl (b : Bool) : Dq H (.bl b) (.bool b)
  | int (i : Int) : Dq H (.int i) (.int i)
  | str (x : Str) : Dq H (.str x) (.str x)
  | lst {a : Addr} {xs : List V} {ds : List PyData} : H a = some (.lst xs) → DqAll H xs ds → Dq H (.ref a) (.list ds)
  | tup {a : Addr} {xs : List V} {ds : List PyData} : H a = some (.tup xs) → DqAll H xs ds → Dq H (.ref a) (.tuple ds)
inductive DqAll (H : Hp) : List V → List PyData → Prop
  | nil : DqAll H [] []
  | cons {v : V} {vs : List V} {d : PyData} {ds : List PyData} : Dq H v d → DqAll H vs ds → DqAll H (v :: vs) (d :: ds)
end
theorem Dq.swap {H H' : Hp} (e : Sw H H') {v : V} {d : PyData} (h : Dq H v d) : Dq H' v d :=
  Dq.rec (motive_1 := fun v d _ => Dq H' v d) (motive_2 := fun vs ds _ => DqAll H' vs ds) .non .bl .int .str (fun s _ ih => .lst (e.lst s) ih) (fun s _ ih => .tup (e.tup s) ih) .nil (fun _ _ h1 h2 => .cons h1 h2) h
theorem DqAll.swap {H H' : Hp} (e : Sw H H') {v : List V} {d : List PyData} (h : DqAll H v d) : DqAll H' v d :=
  DqAll.rec (motive_1 := fun v d _ => Dq H' v d) (motive_2 := fun vs ds _ => DqAll H' vs ds) .non .bl .int .str (fun s _ ih => .lst (e.lst s) ih) (fun s _ ih => .tup (e.tup s) ih) .nil (fun _ _ h1 h2 => .cons h1 h2) h
theorem Dq.dp {K : Fg} {H : Hp} {v : V} {d : PyData} (h : Dq H v d) : Dp K H v d :=
  Dq.rec (motive_1 := fun v d _ => Dp K H v d) (motive_2 := fun vs ds _ => DpAll K H vs ds) .non .bl .int .str (fun s _ ih => .lst (sq_of s) ih) (fun s _ ih => .tup (st_of s) ih) .nil (fun _ _ h1 h2 => .cons h1 h2) h
structure Dy where
  d : PyData
instance : Rp Dy := { rep := fun _ H v x => Dq H v x.d, swap := fun e h => Dq.swap e h }
/-- to data -/
class Ud (α : Type) [Rp α] where
  toD : α → PyData
  is : ∀ {K : Fg} {H : Hp} {v : V} {a : α}, rep K H v a → Dq H v (toD a)
class Us (τ : Type) [Tp τ] where
  toDs : τ → List PyData
  is : ∀ {K : Fg} {H : Hp} {vs : List V} {a : τ}, rept K H vs a → DqAll H vs (toDs a)
instance : Ud Int := ⟨.int, fun h => by cases h; exact .int _⟩
instance : Ud Bool := ⟨.bool, fun h => by cases h; exact .bl _⟩
instance : Ud Str := ⟨.str, fun h => by cases h; exact .str _⟩
instance : Ud Nn := ⟨fun _ => .none, fun h => by cases h; exact .non⟩
instance : Ud Dy := ⟨Dy.d, fun h => h⟩
instance {α : Type} [Rp α] [Ud α] : Ud (Option α) where
  toD x := match x with | none => .none | some a => Ud.toD a
  is {K H v a} h := by
    cases a with
    | none => cases h; exact .non
    | some a => exact Ud.is h.2
theorem dqAll_of {α : Type} [Rp α] [Ud α] {K : Fg} {H : Hp} : ∀ {vs : List V} {xs : List α}, Paired (rep K H) vs xs → DqAll H vs (xs.map Ud.toD)
  | _, _, .nil => .nil
  | _, _, .cons r t => .cons (Ud.is r) (dqAll_of t)
instance {α : Type} [Rp α] [Ud α] : Ud (List α) where
  toD xs := .list (xs.map Ud.toD)
  is h := by
    obtain ⟨p, vs, rfl, h1, h2⟩ := h
    exact .lst h1 (dqAll_of h2)
instance {α : Type} [Rp α] [Ud α] : Ud (Tu α) where
  toD xs := .tuple (xs.l.map Ud.toD)
  is h := by
    obtain ⟨p, vs, rfl, h1, h2⟩ := h
    exact .tup h1 (dqAll_of h2)
instance : Us Unit := ⟨fun _ => [], fun h => by cases h; exact .nil⟩
instance {α τ : Type} [Rp α] [Tp τ] [Ud α] [Us τ] : Us (α × τ) where
  toDs t := Ud.toD t.1 :: Us.toDs t.2
  is h := by
    obtain ⟨v, r, rfl, h1, h2⟩ := h
    exact .cons (Ud.is h1) (Us.is h2)
instance {α τ : Type} [Rp α] [Tp τ] [Ud α] [Us τ] : Ud (α × τ) where
  toD t := .tuple (Us.toDs (τ := α × τ) t)
  is h := by
    obtain ⟨p, vs, rfl, h1, h2⟩ := h
    exact .tup h1 (Us.is h2)
/-- out of data, where it is of the kind -/
class Od (α : Type) [Rp α] where
  of : PyData → Option α
  un : ∀ {K : Fg} {H : Hp} {v : V} {d : PyData} {a : α}, Dq H v d → of d = some a → rep K H v a
class Os (τ : Type) [Tp τ] where
  ofs : List PyData → Option τ
  un : ∀ {K : Fg} {H : Hp} {vs : List V} {ds : List PyData} {a : τ}, DqAll H vs ds → ofs ds = some a → rept K H vs a
instance : Od Int := ⟨fun d => match d with | .int i => some i | _ => none, fun h e => by cases h <;> cases e; rfl⟩
instance : Od Bool := ⟨fun d => match d with | .bool i => some i | _ => none, fun h e => by cases h <;> cases e; rfl⟩
instance : Od Str := ⟨fun d => match d with | .str i => some i | _ => none, fun h e => by cases h <;> cases e; rfl⟩
instance : Od Dy := ⟨fun d => some ⟨d⟩, fun h e => by cases e; exact h⟩
def ofAll {α : Type} [Rp α] [Od α] : List PyData → Option (List α)
  | [] => some []
  | d :: ds => (Od.of d).bind fun x => (ofAll ds).bind fun xs => some (x :: xs)
theorem ofAll_un {α : Type} [Rp α] [Od α] {K : Fg} {H : Hp} : ∀ {ds : List PyData} {vs : List V} {xs : List α}, DqAll H vs ds → ofAll ds = some xs → Paired (rep K H) vs xs
  | [], _, _, h, e => by
    cases h
    cases e
    exact .nil
  | d :: ds, _, xs, h, e => by
    cases h with
    | cons h1 h2 =>
      obtain ⟨x, ex, e⟩ := bind_some e
      obtain ⟨ys, ey, e⟩ := bind_some e
      cases e
      exact .cons (Od.un h1 ex) (ofAll_un h2 ey)
instance {α : Type} [Rp α] [Od α] : Od (Tu α) where
  of d := match d with | .tuple ds => (ofAll ds).map Tu.mk | _ => none
  un h e := by
    cases h with
    | tup h1 h2 =>
      obtain ⟨xs, e1, rfl⟩ := Option.map_eq_some_iff.mp e
      exact ⟨_, _, rfl, h1, ofAll_un h2 e1⟩
    | _ => cases e
instance {α : Type} [Rp α] [Od α] : Od (List α) where
  of d := match d with | .list ds => ofAll ds | _ => none
  un h e := by
    cases h with
    | lst h1 h2 => exact ⟨_, _, rfl, h1, ofAll_un h2 e⟩
    | _ => cases e
instance : Os Unit := ⟨fun ds => match ds with | [] => some () | _ => none, fun h e => by cases h <;> cases e; rfl⟩
instance {α τ : Type} [Rp α] [Tp τ] [Od α] [Os τ] : Os (α × τ) where
  ofs ds := match ds with | [] => none | d :: ds => (Od.of d).bind fun x => (Os.ofs ds).bind fun t => some (x, t)
  un h e := by
    cases h with
    | nil => cases e
    | cons h1 h2 =>
      obtain ⟨x, ex, e⟩ := bind_some e
      obtain ⟨t, et, e⟩ := bind_some e
      cases e
      exact ⟨_, _, rfl, Od.un h1 ex, Os.un h2 et⟩
instance {α τ : Type} [Rp α] [Tp τ] [Od α] [Os τ] : Od (α × τ) where
  of d := match d with | .tuple ds => Os.ofs (τ := α × τ) ds | _ => none
  un h e := by
    cases h with
    | tup h1 h2 => exact ⟨_, _, rfl, h1, Os.un h2 e⟩
    | _ => cases e
def ofD {α : Type} [Rp α] [Od α] (x : Dy) : Option α := Od.of x.d
def upD {α : Type} [Rp α] [Ud α] (x : α) : Dy := ⟨Ud.toD x⟩
def eqYO (a b : Dy) : Option Bool := if SeqAt.shaped a.d = true ∧ SeqAt.shaped b.d = true then some (PyData.eqv a.d b.d) else none
section
variable {K : Fg} {F Kn0 : Hp} {sl sl' : List Sl} {ow ow1 : List Ow} {α β τ : Type} [Rp α] [Rp β] [Tp τ] {te tk : TE} {x : Dy}
theorem ev_of [Od α] {y : α} (h : EV K F Kn0 sl ow te x) (e : ofD x = some y) : EV K F Kn0 sl ow te y := fun σ Kn H s Q q => h σ Kn H s Q fun v Kn' H' g r => q v Kn' H' g (Od.un r e)
theorem ev_up [Ud α] {y : α} (h : EV K F Kn0 sl ow te y) : EV K F Kn0 sl ow te (upD y) := fun σ Kn H s Q q => h σ Kn H s Q fun v Kn' H' g r => q v Kn' H' g (Ud.is r)
theorem em_up [Ud α] {y : α} (h : EM K F Kn0 sl ow te ow1 y) : EM K F Kn0 sl ow te ow1 (upD y) := fun σ Kn H s Q q => h σ Kn H s Q fun v Kn' H' e s' r => q v Kn' H' e s' (Ud.is r)
/-- a list, where a list is read -/
theorem ev_fz {xs : List α} (h : EV K F Kn0 sl ow te xs) : EV K F Kn0 sl ow te (Fz.mk xs) := fun σ Kn H s Q q => h σ Kn H s Q fun v Kn' H' g r => by
  obtain ⟨p, vs, rfl, h1, h2⟩ := r
  exact q _ Kn' H' g ⟨p, vs, rfl, sq_of h1, h2⟩
theorem r2_eqY {a b : Dy} {c : Bool} (h : eqYO a b = some c) : R2V K (rEqD K) a b c := fun Kn H v w ek h1 h2 Q q => by
  unfold eqYO at h
  split at h
  case isFalse => cases h
  rename_i hb
  cases h
  exact ⟨a.d, b.d, dp_mono ek (Dq.dp h1), dp_mono ek (Dq.dp h2), hb.1, hb.2, q.fl ek⟩
theorem r2_neY {a b : Dy} {c : Bool} (h : eqYO a b = some c) : R2V K (rNeD K) a b (!c) := fun Kn H v w ek h1 h2 Q q => by
  unfold eqYO at h
  split at h
  case isFalse => cases h
  rename_i hb
  cases h
  exact ⟨a.d, b.d, dp_mono ek (Dq.dp h1), dp_mono ek (Dq.dp h2), hb.1, hb.2, q.fl ek⟩
/-- D[k], D a dict of the module -/
theorem ev_kd {w : World} {p : Addr} {tab : List (Str × Str)} {k z : Str} (ht : ∀ kv ∈ tab, KDct K w p kv.1 (.str kv.2)) (hk : EV K F Kn0 sl ow tk k) (hz : getD tab k = some z) : EV K F Kn0 sl ow (tOp (rIxD K w) (tC (.ref p)) tk) z := fun σ Kn H s Q q =>
  hk σ Kn H s _ fun v Kn1 H1 g1 r1 => by
    cases r1
    unfold getD at hz
    obtain ⟨kv, hf, rfl⟩ := Option.map_eq_some_iff.mp hz
    have hk2 := List.find?_some hf
    rw [decide_eq_true_eq] at hk2
    have := ht kv (List.mem_of_find?_eq_some hf)
    rw [hk2] at this
    exact ⟨p, _, _, rfl, rfl, this, q _ Kn1 H1 g1 rfl⟩
theorem k_ixkd {X : Cx} {w : World} (h : X.K = K := by rfl) (hw : X.w = w := by rfl) : IxR X (rIxD K w) := by
  subst h
  subst hw
  exact ix_kdict


end
theorem fnok_none {P : Program} {w : World} {K : Fg} {mg : Str → Option Value} {base : Heap} {CX : CXT} {k : Nat} {f : Addr} {fd : FuncData} {ps : List Str} {τ α : Type} [Tp τ] [Rp α] : FnOk P w K mg base CX k f fd ps (PF K (fun _ : τ => (none : Option α))) := by
  refine ⟨fun vs H Q E h => ?_, fun A outer s H args us vs Q E hr he hb hv h => ?_⟩
  · obtain ⟨_, _, _, _, _, h, _⟩ := h
    cases h
  · obtain ⟨_, _, _, _, _, h, _⟩ := h
    cases h
theorem fnok_noneL {P : Program} {w : World} {K : Fg} {mg : Str → Option Value} {base : Heap} {CX : CXT} {k : Nat} {f : Addr} {fd : FuncData} {ps : List Str} {τ α : Type} [Tp τ] [Rp α] : FnOk P w K mg base CX k f fd ps (PL K (fun _ : τ => (none : Option (List α)))) := by
  refine ⟨fun vs H Q E h => ?_, fun A outer s H args us vs Q E hr he hb hv h => ?_⟩
  · obtain ⟨_, _, _, _, _, h, _⟩ := h
    cases h
  · obtain ⟨_, _, _, _, _, h, _⟩ := h
    cases h
end Wk
/-! Wmix: slices of tuples and texts, extend, a list of unlike things -/
namespace Wk
open PySem PySem.Spec L2 Evl
/-- the places from a on, b of them -/
inductive Cu : {τ : Type} → [Tp τ] → Nat → Nat → {υ : Type} → [Tp υ] → τ → υ → Prop
  | nil {τ : Type} [Tp τ] (t : τ) : Cu 0 0 t ()
  | take {α τ υ : Type} [Rp α] [Tp τ] [Tp υ] {b : Nat} (x : α) {t : τ} {u : υ} : Cu 0 b t u → Cu 0 (b + 1) (x, t) (x, u)
  | drop {α τ υ : Type} [Rp α] [Tp τ] [Tp υ] {a b : Nat} (x : α) {t : τ} {u : υ} : Cu a b t u → Cu (a + 1) b (x, t) u
theorem Cu.get {K : Fg} {H : Hp} {τ : Type} [i : Tp τ] {a b : Nat} {υ : Type} [j : Tp υ] {t : τ} {u : υ} (h : Cu a b t u) : ∀ {vs : List V}, rept K H vs t → rept K H ((vs.drop a).take b) u := by
  induction h with
  | nil t => exact fun _ => rfl
  | take x _ ih =>
    intro vs r
    obtain ⟨v, r, rfl, h1, h2⟩ := r
    exact ⟨v, _, rfl, h1, ih h2⟩
  | drop x _ ih =>
    intro vs r
    obtain ⟨v, r, rfl, h1, h2⟩ := r
    exact ih h2
structure Hl (τ : Type) where
  t : τ
  deriving DecidableEq
instance {τ : Type} [Tp τ] : Rp (Hl τ) where
  rep K H v x := ∃ p vs, v = .ref p ∧ H p = some (.lst vs) ∧ rept K H vs x.t
  swap e h := by
    obtain ⟨p, vs, h1, h2, h3⟩ := h
    exact ⟨p, vs, h1, e.lst h2, Tp.swap e h3⟩
instance {τ : Type} [Tp τ] [Pq τ] : Pd (Hl τ) where
  toD x := .list (Pq.toDs x.t)
  dp := Pq.dp τ + 1
  isD h := by
    obtain ⟨p, vs, rfl, h1, h2⟩ := h
    exact .lst (sq_of h1) (Pq.isD h2)
  dep a := by
    simp only [PyData.depth]
    exact Nat.succ_le_succ (Pq.dep a.t)
  eqd a b := by
    simp only [PyData.eqv]
    rw [Pq.eqd]
    cases a
    cases b
    simp
def cutSO (z : Str) (lo hi : Option Int) : Option Str := if z.length ≤ 1000000 then some (cutS z lo hi) else none
section
variable {K : Fg} {F Kn0 : Hp} {sl sl' : List Sl} {ow ow1 ow2 : List Ow} {α β γ τ υ : Type} [Rp α] [Rp β] [Rp γ] [Tp τ] [Tp υ] {ta : TA} {tb te : TE} {D : Ends} {i j : Nat} {p : Addr}
theorem ev_tsl {t : α × τ} {u : β × υ} {tl th : TO} {lo hi : Option Int} {a b : Nat} (h : EV K F Kn0 sl ow te t) (hl : EO K F Kn0 sl ow tl lo) (hh : EO K F Kn0 sl ow th hi)
    (ha : HT.sIx (Tp.n (α × τ)) 0 lo = a) (hb : HT.sIx (Tp.n (α × τ)) (Tp.n (α × τ)) hi - a = b) (hw : ¬ (HT.sIx (Tp.n (α × τ)) 0 lo = 0 ∧ HT.sIx (Tp.n (α × τ)) (Tp.n (α × τ)) hi = Tp.n (α × τ))) (hc : Cu a b t u) :
    EV K F Kn0 sl ow (tSl (rSlT K) te tl th) u := fun σ Kn H s Q q =>
  h σ Kn H s _ fun v Kn1 H1 g1 r1 => hl σ Kn1 H1 (s.grow g1) _ fun Kn2 H2 g2 => hh σ Kn2 H2 ((s.grow g1).grow g2) _ fun Kn3 H3 g3 => by
    obtain ⟨p, ws, rfl, h3, h4⟩ := r1
    have g : Gr Kn H Kn3 H3 := (g1.trans g2).trans g3
    have e13 : Ex Kn1 Kn3 := g2.kk.trans g3.kk
    have el := Tp.len h4
    refine ⟨p, ws, rfl, st_of ((e13.trans g3.kh) _ _ h3), by rw [el]; exact hw, fun l hl => ?_⟩
    have gn := Gr.new (o := .tup (cutV ws lo hi)) g3.kh hl
    refine q _ _ _ (g.trans gn) ⟨l, _, rfl, upd_same, ?_⟩
    have := hc.get (Tp.mono (e13.trans gn.kk) h4)
    have e : cutV ws lo hi = (ws.drop a).take b := by
      unfold cutV
      rw [el, ha, hb]
    rw [e] at this ⊢
    exact this
theorem ev_slS {z r : Str} {tl th : TO} {lo hi : Option Int} (h : EV K F Kn0 sl ow te z) (hl : EO K F Kn0 sl ow tl lo) (hh : EO K F Kn0 sl ow th hi) (hz : cutSO z lo hi = some r) : EV K F Kn0 sl ow (tSl rSlS te tl th) r := fun σ Kn H s Q q =>
  h σ Kn H s _ fun v Kn1 H1 g1 r1 => hl σ Kn1 H1 (s.grow g1) _ fun Kn2 H2 g2 => hh σ Kn2 H2 ((s.grow g1).grow g2) _ fun Kn3 H3 g3 => by
    cases r1
    unfold cutSO at hz
    split at hz
    · rename_i hq
      cases hz
      exact ⟨z, rfl, le_line hq, q _ Kn3 H3 ((g1.trans g2).trans g3) rfl⟩
    · cases hz
theorem ev_hl {t : τ} (h : EA K F Kn0 sl ow ta t) (hz : Tp.n τ ≤ 1000000 := by decide) : EV K F Kn0 sl ow (tLst ta) (Hl.mk t) := fun σ Kn H s Q q =>
  h σ Kn H s _ fun vs Kn1 H1 g1 r1 => ⟨by rw [Tp.len r1]; exact le_line hz, fun p hp =>
    q _ (upd Kn1 p (.lst vs)) _ (g1.trans (Gr.new g1.kh hp)) ⟨p, vs, rfl, upd_same, Tp.mono (Gr.new g1.kh hp).kk r1⟩⟩
theorem r2_hix {t : Hl τ} {n : Nat} {z : γ} (h : At n t.t z) : R2V K (rIxL K) t (n : Int) z := fun Kn H v w ek h1 h2 Q q => by
  obtain ⟨p, ws, rfl, h3, h4⟩ := h1
  cases h2
  obtain ⟨u, e, r⟩ := h.get h4
  exact ⟨p, ws, n, u, rfl, rfl, sq_of (ek _ _ h3), atI_nat e, q.at ek r⟩
theorem k_slt {X : Cx} (h : X.K = K := by rfl) : SlR X (rSlT K) := h ▸ sl_tup
/-- xs.extend(ys), xs one's own -/
theorem sb_extO {xs ys zs : List α} (hi : sl[i]? = some (.at p)) (hj : ow[j]? = some (ol p xs)) (h : EV K F Kn0 sl ow te ys) (hz : catO xs ys = some zs) (ho : ow.set j (ol p zs) = ow1) (k : SN K F Kn0 sl ow1 D) :
    SB K F Kn0 sl ow D (tDrop (tBM K "list" rExtend (tVar i) (tCons te tNil))) := fun σ Kn H s => by
  obtain ⟨o, h1, h2⟩ := s.sl.get hi
  obtain ⟨f1, f2, ws, f3, f4⟩ := s.ow.each _ (List.mem_of_getElem? hj)
  unfold catO at hz
  split at hz
  case isFalse => cases hz
  rename_i hq
  cases hz
  refine ⟨.ref p, by rw [h1]; exact congrArg some h2, Or.inl ⟨rfl, ws, sq_of f3⟩, h σ Kn H s _ fun v Kn1 H1 g1 r1 => ?_⟩
  obtain ⟨b, vs, rfl, h3, h4⟩ := r1
  refine ⟨p, b, ws, vs, rfl, rfl, g1.hh _ _ f3, g1.kh _ _ h3, by rw [paired_len f4, paired_len h4]; exact le_line hq, k _ Kn1 _ ?_⟩
  have kp1 : Kn1 p = none := g1.sp p (ne_none_of f3) f2
  subst ho
  exact (s.grow g1).write hj (Ex.refl _) (upd_in g1.kh kp1) (fun q hq _ => upd_ne hq) (fun _ _ h => h) upd_same (paired_append (paired_mono g1.kk f4) h4)
end
end Wk
set_option maxHeartbeats 4000000
/-! Weq: == and != of any data: numbers, truths, texts, None, lists, tuples, dicts, one within another -/
namespace PySem.SeqAt
open AutoSeq1 (wpAny_loadPart')
open MeetsSeq MeetsSeq2 MeetsSeq3 SeqRoads2
section
variable {prog : Program} {w : World}
theorem wk_neG_loop (l b : Addr) (items items2 : Array Value) (n n2 : Nat) (dd dd2 : Option Addr) (sl sl2 : Array (Option Value)) (hsz : items.size = items2.size) (e : Nat → Bool) (k : Nat) :
    ∀ i : Nat, items.size - i = k → MeetsIn prog w (Builtin.«list.__eq__.loop» ⟨[.ref l, .ref b, rawInt i, rawInt 3], []⟩)
      (fun A R s => s.heap.get? l = some { cls := .type "list", dict := dd, data := .seq items n, slots := sl } ∧ s.heap.get? b = some { cls := .type "list", dict := dd2, data := .seq items2 n2, slots := sl2 } ∧
        (∀ j (h1 : j < items.size) (h2 : j < items2.size), EqIn prog w A.in1 s items[j] items2[j] (e j)) ∧
        R (.ok (.ret (.bool (!((List.range items.size).drop i).all e)))) s) := by
  induction k with
  | zero =>
    intro i hk A R s h
    obtain ⟨hp, g, d, tk, os⟩ := s; obtain ⟨hl, hb, he, h⟩ := h
    wp_walk using wpAny_loadPart' hl, wpAny_loadPart' hb
    have q1 : items[((i : Nat) : Int).toNat]? = none := by simp; omega
    have q2 : items2[((i : Nat) : Int).toNat]? = none := by simp; omega
    rw [show (List.range items.size).drop i = [] by simp; omega] at h
    rw [q1, q2]
    wp_walk using wpAny_loadPart' hl, wpAny_loadPart' hb
    show R (.ok (.ret (.bool (items.size != items2.size)))) _
    rw [hsz]
    simpa using h
  | succ k ih =>
    intro i hk A R s h
    obtain ⟨hp, g, d, tk, os⟩ := s; obtain ⟨hl, hb, he, h⟩ := h
    wp_walk using wpAny_loadPart' hl, wpAny_loadPart' hb
    have t1 : i < items.size := by omega
    have t2 : i < items2.size := by omega
    have q1 : items[((i : Nat) : Int).toNat]? = some items[i] := by simp [t1]
    have q2 : items2[((i : Nat) : Int).toNat]? = some items2[i] := by simp [t2]
    rw [show (List.range items.size).drop i = i :: (List.range items.size).drop (i + 1) by simp [List.drop_eq_getElem_cons, t1], List.all_cons] at h
    rw [q1, q2]
    refine wpAny_bind (he i t1 t2 _ _ ?_)
    cases ei : e i with
    | true =>
      rw [ei] at h
      wp_walk
      rw [show ((i : Int) + 1) = ((i + 1 : Nat) : Int) by push_cast; rfl]
      refine ⟨plainId_quiet plain_eq_loop _, codeAny_builtin entry_eq_loop ?_⟩
      rw [Around.under_plainId plain_eq_loop _]
      exact ih (i + 1) (by omega) A R _ ⟨hl, hb, he, by simpa using h⟩
    | false =>
      rw [ei] at h
      wp_walk using wpAny_loadPart' hl, wpAny_loadPart' hb
      rw [q1, q2]
      wp_walk
      simpa using h
theorem wk_list_neG (l b : Addr) (items items2 : Array Value) (n n2 : Nat) (dd dd2 : Option Addr) (sl sl2 : Array (Option Value)) (hsz : items.size = items2.size) (e : Nat → Bool) :
    MeetsIn prog w (Builtin.«list.__ne__» ⟨[.ref l, .ref b], []⟩)
      (fun A R s => s.heap.get? l = some { cls := .type "list", dict := dd, data := .seq items n, slots := sl } ∧ s.heap.get? b = some { cls := .type "list", dict := dd2, data := .seq items2 n2, slots := sl2 } ∧
        (∀ j (h1 : j < items.size) (h2 : j < items2.size), EqIn prog w A.in1 s items[j] items2[j] (e j)) ∧
        R (.ok (.ret (.bool (!(List.range items.size).all e)))) s) := by
  intro A R s h
  obtain ⟨hp, g, d, tk, os⟩ := s; obtain ⟨hl, hb, he, h⟩ := h
  have sub := AutoSeq1.sub_list_list
  have hne : ¬ (items.size != items2.size) = true := by simp [hsz]
  wp_walk using wpAny_loadPart' hl, wpAny_loadPart' hb
  refine ⟨plainId_quiet plain_eq_loop _, codeAny_builtin entry_eq_loop ?_⟩
  rw [Around.under_plainId plain_eq_loop _]
  exact wk_neG_loop l b items items2 n n2 dd dd2 sl sl2 hsz e _ 0 rfl A R _ ⟨hl, hb, he, by simpa using h⟩
theorem wk_neG_lists {A : Around} {s : Shared} {l b : Addr} {items items2 : Array Value} {e : Nat → Bool} (hl : s.heap.IsList l items) (hb : s.heap.IsList b items2) (hsz : items.size = items2.size) (hu : A.units < cLine)
    (he : ∀ j (h1 : j < items.size) (h2 : j < items2.size), EqIn prog w A.in1 s items[j] items2[j] (e j)) (E Q : Value → Shared → Prop) (h : Q (.bool (!(List.range items.size).all e)) s) : wpAny (model prog w) A (richCompare .NotEq (.ref l) (.ref b)) Q E s := by
  obtain ⟨⟨cls, dd, data, sl⟩, ho, hc, n, hd⟩ := id hl
  obtain ⟨⟨cls2, dd2, data2, sl2⟩, ho2, hc2, n2, hd2⟩ := id hb
  simp only at hc hd hc2 hd2
  subst hc hd hc2 hd2
  have ta : s.TypeIs (.ref l) "list" := ⟨_, ho, rfl⟩
  have tb : s.TypeIs (.ref b) "list" := ⟨_, ho2, rfl⟩
  exact wpAny_richCompare_same_room (op := .NotEq) ta tb F.slot_list_ne (call_meetsIn F.slot_list_ne ta F.entry_list_ne (F.args_list_ne_2 _ _) (wk_list_neG l b items items2 n n2 dd dd2 sl sl2 hsz e)
    ⟨ho, ho2, he, show Value.bool _ ≠ Value.notImplemented ∧ Q (.bool _) s from ⟨(fun x => nomatch x), h⟩⟩) hu
theorem wk_tuple_neG (l b : Addr) (items items2 : Array Value) (n n2 : Nat) (dd dd2 : Option Addr) (sl sl2 : Array (Option Value)) (e : Nat → Bool) :
    MeetsIn prog w (Builtin.«tuple.__ne__» ⟨[.ref l, .ref b], []⟩)
      (fun A R s => s.heap.get? l = some { cls := .type "tuple", dict := dd, data := .seq items n, slots := sl } ∧ s.heap.get? b = some { cls := .type "tuple", dict := dd2, data := .seq items2 n2, slots := sl2 } ∧
        (∀ j (h1 : j < items.size) (h2 : j < items2.size), EqIn prog w A.in1 s items[j] items2[j] (e j)) ∧
        R (.ok (.ret (.bool (!((List.range (min items.size items2.size)).all e && items.size == items2.size))))) s) :=
  .of_wp fun A R s h => by
    obtain ⟨hp, g, d, tk, os⟩ := s; obtain ⟨hl, hb, he, h⟩ := h
    have sub := AutoSeq1.sub_tuple_tuple
    have zl : (items.toList.zip items2.toList).length = min items.size items2.size := by simp
    wp_walk using wpAny_loadPart' hl, wpAny_loadPart' hb, wpAny_forIn_list _ (fun rest b s' => b.1 = none ∧ s' = ⟨hp, g, d, tk, os⟩ ∧ ∃ i, rest = (items.toList.zip items2.toList).drop i ∧
      R (.ok (.ret (.bool (!(((List.range (min items.size items2.size)).drop i).all e && items.size == items2.size))))) ⟨hp, g, d, tk, os⟩) _
    case turn =>
      rintro ⟨y, x⟩ rest b s' ⟨hb', rfl, i, hz, hR⟩
      have hlt : i < (items.toList.zip items2.toList).length := Nat.lt_of_not_le fun h' => by
        rw [List.drop_of_length_le h'] at hz
        cases hz
      have hm : i < min items.size items2.size := zl ▸ hlt
      have h1 : i < items.size := Nat.lt_of_lt_of_le hm (Nat.min_le_left _ _)
      have h2 : i < items2.size := Nat.lt_of_lt_of_le hm (Nat.min_le_right _ _)
      rw [List.drop_eq_getElem_cons hlt] at hz
      injection hz with hyx hrest
      obtain rfl : y = items[i] := by simpa using congrArg Prod.fst hyx
      obtain rfl : x = items2[i] := by simpa using congrArg Prod.snd hyx
      rw [show (List.range (min items.size items2.size)).drop i = i :: (List.range (min items.size items2.size)).drop (i + 1) by simp [List.drop_eq_getElem_cons, hm], List.all_cons] at hR
      refine wpAny_bind (he i h1 h2 _ _ ?_)
      cases ei : e i with
      | true =>
        rw [ei] at hR
        wp_walk
        exact ⟨rfl, rfl, i + 1, hrest, by simpa using hR⟩
      | false =>
        rw [ei] at hR
        wp_walk
        exact ⟨_, rfl, by simpa using hR⟩
    case fin =>
      rintro ⟨b1, b2⟩ s' ⟨hb', rfl, i, hz, hR⟩
      simp only at hb'
      subst hb'
      have hge : min items.size items2.size ≤ i := Nat.le_of_not_lt fun h' => by
        rw [List.drop_eq_getElem_cons (zl ▸ h')] at hz
        cases hz
      rw [List.drop_of_length_le (by simpa using hge)] at hR
      wp_walk
      exact ⟨_, rfl, by simpa [Builtin.Tuple.tupleCompareSizes, bne] using hR⟩
    case h => exact ⟨rfl, rfl, 0, rfl, by simpa using h⟩
theorem wk_neG_tuples {A : Around} {s : Shared} {l b : Addr} {items items2 : Array Value} {e : Nat → Bool} (hl : s.heap.IsTuple l items) (hb : s.heap.IsTuple b items2) (hu : A.units < cLine)
    (he : ∀ j (h1 : j < items.size) (h2 : j < items2.size), EqIn prog w A.in1 s items[j] items2[j] (e j)) (E Q : Value → Shared → Prop) (h : Q (.bool (!((List.range (min items.size items2.size)).all e && items.size == items2.size))) s) :
    wpAny (model prog w) A (richCompare .NotEq (.ref l) (.ref b)) Q E s := by
  obtain ⟨⟨cls, dd, data, sl⟩, ho, hc, n, hd⟩ := id hl
  obtain ⟨⟨cls2, dd2, data2, sl2⟩, ho2, hc2, n2, hd2⟩ := id hb
  simp only at hc hd hc2 hd2
  subst hc hd hc2 hd2
  have ta : s.TypeIs (.ref l) "tuple" := ⟨_, ho, rfl⟩
  have tb : s.TypeIs (.ref b) "tuple" := ⟨_, ho2, rfl⟩
  exact wpAny_richCompare_same_room (op := .NotEq) ta tb F.slot_tuple_ne (call_meetsIn F.slot_tuple_ne ta F.entry_tuple_ne (F.args_tuple_ne_2 _ _) (wk_tuple_neG l b items items2 n n2 dd dd2 sl sl2 e)
    ⟨ho, ho2, he, show Value.bool _ ≠ Value.notImplemented ∧ Q (.bool _) s from ⟨(fun x => nomatch x), h⟩⟩) hu
end
end PySem.SeqAt
namespace PySem.W
open PySem PySem.Calls PyProof.Rows PySem.Spec
open PySem.SeqAt (EqIn)
theorem wk_neG_dicts {prog : Program} {w : World} {K : Type} [DecidableEq K] {knd : KeyKind prog w K} {A : Around} {s : Shared} {a b : Addr} {ka kb : List (K × Value)} {r : Bool} (ha : (a == sysModules) = false) (hb : (b == sysModules) = false)
    (da : s.heap.DictOf knd a ka) (db : s.heap.DictOf knd b kb) (hu : A.units < cLine) (hits : ka.length = kb.length → KeqHitsIn prog w A.in1 s kb ka r) (E Q : Value → Shared → Prop) (h : Q (.bool (!(ka.length == kb.length && r))) s) :
    wpAny (model prog w) A (richCompare .NotEq (.ref a) (.ref b)) Q E s := by
  refine wpAny_richCompare_same_room (op := .NotEq) da.typeIs db.typeIs PySem.F.slot_dict_ne (wpAny_call_entry PySem.F.slot_dict_ne da.typeIs PySem.F.entry_dict_ne ?_ (PySem.F.args_dict_ne_2 _ _)) hu
  show wpAny _ _ (Builtin.Dict.dictSlotArgs "__ne__" ⟨[.ref a, .ref b], []⟩ >>= _) _ _ s
  unfold Builtin.Dict.dictSlotArgs
  refine wpAny_bind (wpAny_bind (wpAny_notOrdered_dict da.typeIs ?_))
  show wpAny _ _ (pure (Value.ref a, Value.ref b)) _ _ s
  refine wpAny_pure (wpAny_bind (wpAny_isInstance (T := "dict") db.typeIs PySem.F.sub_dict_dict ?_))
  simp only [Bool.not_true, Bool.false_eq_true, if_false]
  refine wpAny_bind (wpAny_pure (wpAny_bind (wpAny_pure (wpAny_bind (keq_samePairsIn ha hb da db hits (wpAny_pure ⟨_, rfl, (fun x => nomatch x), ?_⟩))))))
  simpa using h
theorem EqTree.mono {prog : Program} {w : World} {s : Shared} {n : Nat} {v y : Value} {b : Bool} (t : EqTree prog w s n v y b) : ∀ {m : Nat}, n ≤ m → EqTree prog w s m v y b := by
  induction t with
  | leaf h => exact fun hm => .leaf fun A hu => h A (by omega)
  | same => exact fun _ => .same
  | lists hne hl hl' hsz _ ih =>
    intro m hm
    obtain ⟨k, rfl⟩ : ∃ k, m = k + 1 := ⟨m - 1, by omega⟩
    exact .lists hne hl hl' hsz fun j h1 h2 => ih j h1 h2 (by omega)
  | listsLen hne hl hl' hsz =>
    intro m hm
    obtain ⟨k, rfl⟩ : ∃ k, m = k + 1 := ⟨m - 1, by omega⟩
    exact .listsLen hne hl hl' hsz
  | tuples hne hl hl' _ ih =>
    intro m hm
    obtain ⟨k, rfl⟩ : ∃ k, m = k + 1 := ⟨m - 1, by omega⟩
    exact .tuples hne hl hl' fun j h1 h2 => ih j h1 h2 (by omega)
  | dicts hne ha hb da db _ ih =>
    intro m hm
    obtain ⟨k, rfl⟩ : ∃ k, m = k + 1 := ⟨m - 1, by omega⟩
    exact .dicts hne ha hb da db fun k v y hm hv => ih k v y hm hv (by omega)
end PySem.W
namespace L2
open PySem PySem.Spec PyProof.Rows PySem.W
/-- x == y, x != y answer so, as operations -/
def TopB (K : PySem.W.Frag) (H : Hp) (op : CmpOp) (x y : V) (b : Bool) : Prop := ∀ {X : Cx} {pins σ s}, X.K = K → X.A.units + 64 < cLine → Inv X pins σ H s → ∀ {v u : Value}, RelV x v → RelV y u → ∀ E Q : Value → Shared → Prop, Q (.bool b) s → wpAny (model X.prog X.w) X.A (compareOp op v u) Q E s
def rTop (K : PySem.W.Frag) (op : CmpOp) : R2 := fun x y H Q => ∃ b, TopB K H op x y b ∧ Q (.bl b) H
theorem op_top {X : Cx} {op : CmpOp} (hu : X.A.units + 64 < cLine) : OpR X (compareOp op) (rTop X.K op) := by
  intro pins s σ H x y v u Q I rx ry h
  obtain ⟨b, hb, q⟩ := h
  exact hb rfl hu I rx ry _ _ ⟨.bl b, H, I, rfl, q⟩
end L2
namespace Wk
open PySem PySem.Spec L2 Evl PySem.W
/-- data whose equality is told -/
class Qe (α : Type) [Rp α] where
  dq : Nat
  qe : α → α → Bool
  rf : ∀ {X : Cx} {pins : List (Addr × Obj)} {σ : L2.St} {H : Hp} {s : Shared}, Inv X pins σ H s → ∀ {Kn : Hp} {x : V} {a b : α}, Ex Kn H → rep X.K Kn x a → rep X.K Kn x b → qe a b = true
  is : ∀ {X : Cx} {pins : List (Addr × Obj)} {σ : L2.St} {H : Hp} {s : Shared}, Inv X pins σ H s → ∀ {Kn : Hp} {x y : V} {a b : α}, Ex Kn H → rep X.K Kn x a → rep X.K Kn y b → ∀ {v u : Value}, RelV x v → RelV y u → EqTree X.prog X.w s dq v u (qe a b)
/-- None beside it -/
class Qn (α : Type) [Rp α] where
  no : ∀ {X : Cx} {pins : List (Addr × Obj)} {σ : L2.St} {H : Hp} {s : Shared}, Inv X pins σ H s → ∀ {Kn : Hp} {x : V} {a : α}, Ex Kn H → rep X.K Kn x a → ∀ {v : Value}, RelV x v → EqTree X.prog X.w s 1 v .none false ∧ EqTree X.prog X.w s 1 .none v false
instance : Qe Int where
  dq := 0
  qe a b := decide (a = b)
  rf _ _ _ _ _ _ h1 h2 := by cases h1; cases h2; exact decide_eq_true rfl
  is _ _ _ _ a b _ h1 h2 _ _ r1 r2 := by
    cases h1
    cases h2
    obtain ⟨t1, rfl⟩ := r1
    obtain ⟨t2, rfl⟩ := r2
    exact .leaf fun A _ => SeqAt.EqAt.int_int a t1 b t2
instance : Qn Int where
  no _ _ _ a _ h _ r := by
    cases h
    obtain ⟨t, rfl⟩ := r
    exact ⟨.leaf fun A _ => SeqAt.EqAt.int_none a t, .leaf fun A _ => SeqAt.EqAt.none_int a t⟩
instance : Qe Bool where
  dq := 0
  qe a b := decide (a = b)
  rf _ _ _ _ _ _ h1 h2 := by cases h1; cases h2; exact decide_eq_true rfl
  is _ _ _ _ a b _ h1 h2 _ _ r1 r2 := by
    cases h1
    cases h2
    cases r1
    cases r2
    have e : decide (a = b) = (a == b) := by cases a <;> cases b <;> rfl
    rw [e]
    exact .leaf fun A _ => SeqAt.EqAt.bool_bool a b
instance : Qe Str where
  dq := 0
  qe a b := decide (a = b)
  rf _ _ _ _ _ _ h1 h2 := by cases h1; cases h2; exact decide_eq_true rfl
  is _ _ _ _ a b _ h1 h2 _ _ r1 r2 := by
    cases h1
    cases h2
    obtain ⟨t1, rfl⟩ := r1
    obtain ⟨t2, rfl⟩ := r2
    have e : decide (a = b) = (a == b) := by
      by_cases z : a = b
      · subst z; simp
      · simp [z]
    rw [e]
    exact .leaf fun A _ => SeqAt.EqAt.str_str a t1 b t2
instance : Qe Nn where
  dq := 0
  qe _ _ := true
  rf _ _ _ _ _ _ _ _ := rfl
  is _ _ _ _ _ _ _ h1 h2 _ _ r1 r2 := by
    cases h1
    cases h2
    cases r1
    cases r2
    exact .same
instance {α : Type} [Rp α] [Qe α] [Qn α] : Qe (Option α) where
  dq := Qe.dq α + 1
  qe a b := match a, b with
    | none, none => true
    | some x, some y => Qe.qe x y
    | _, _ => false
  rf {X _ _ _ _} I _ _ a b ek h1 h2 := by
    cases a with
    | none =>
      cases b with
      | none => rfl
      | some y => exact absurd h1 h2.1
    | some x =>
      cases b with
      | none => exact absurd h2 h1.1
      | some y => exact Qe.rf I ek h1.2 h2.2
  is {X _ _ _ _} I _ _ _ a b ek h1 h2 _ _ r1 r2 := by
    cases a with
    | none =>
      cases h1
      cases r1
      cases b with
      | none =>
        cases h2
        cases r2
        exact .same
      | some y => exact (Qn.no I ek h2.2 r2).2.mono (by omega)
    | some x =>
      cases b with
      | none =>
        cases h2
        cases r2
        exact (Qn.no I ek h1.2 r1).1.mono (by omega)
      | some y => exact (Qe.is I ek h1.2 h2.2 r1 r2).mono (by omega)
/-- one by one -/
inductive EqAll (prog : Program) (w : World) (s : Shared) (n : Nat) : List Value → List Value → Bool → Prop
  | nil : EqAll prog w s n [] [] true
  | cons {v u : Value} {vs us : List Value} {b c : Bool} : EqTree prog w s n v u b → EqAll prog w s n vs us c → EqAll prog w s n (v :: vs) (u :: us) (b && c)
theorem range_all (e : Nat → Bool) (n : Nat) : (List.range (n + 1)).all e = (e 0 && (List.range n).all fun j => e (j + 1)) := by
  rw [List.range_succ_eq_map, List.all_cons, List.all_map]
  rfl
theorem EqAll.go {prog : Program} {w : World} {s : Shared} {n : Nat} {vs us : List Value} {b : Bool} (h : EqAll prog w s n vs us b) : vs.length = us.length ∧ ∃ e : Nat → Bool, (∀ j (h1 : j < vs.toArray.size) (h2 : j < us.toArray.size), EqTree prog w s n vs.toArray[j] us.toArray[j] (e j)) ∧ (List.range vs.length).all e = b := by
  induction h with
  | nil => exact ⟨rfl, fun _ => true, fun j h1 _ => absurd h1 (Nat.not_lt_zero _), rfl⟩
  | @cons v u vs us b c h t ih =>
    obtain ⟨hl, e, h1, h2⟩ := ih
    refine ⟨by rw [List.length_cons, List.length_cons, hl], fun j => match j with | 0 => b | j + 1 => e j, fun j j1 j2 => ?_, ?_⟩
    · cases j with
      | zero => exact h
      | succ j => exact h1 j (by simpa using j1) (by simpa using j2)
    · rw [List.length_cons, range_all, ← h2]
def qeL {α : Type} [Rp α] [Qe α] : List α → List α → Bool
  | [], [] => true
  | x :: xs, y :: ys => Qe.qe x y && qeL xs ys
  | _, _ => false
theorem qeL_len {α : Type} [Rp α] [Qe α] : ∀ {xs ys : List α}, xs.length ≠ ys.length → qeL xs ys = false
  | [], [], h => absurd rfl h
  | [], _ :: _, _ => rfl
  | _ :: _, [], _ => rfl
  | x :: xs, y :: ys, h => by
    show (Qe.qe x y && qeL xs ys) = false
    rw [qeL_len (fun z => h (by rw [List.length_cons, List.length_cons, z])), Bool.and_false]
section
variable {X : Cx} {pins : List (Addr × Obj)} {σ : L2.St} {H Kn : Hp} {s : Shared} {α : Type} [Rp α] [Qe α]
theorem rfL (I : Inv X pins σ H s) (ek : Ex Kn H) : ∀ {vs : List V} {xs ys : List α}, Paired (rep X.K Kn) vs xs → Paired (rep X.K Kn) vs ys → qeL xs ys = true
  | _, _, _, .nil, .nil => rfl
  | _, _, _, .cons h1 t1, .cons h2 t2 => by
    show (Qe.qe _ _ && qeL _ _) = true
    rw [Qe.rf I ek h1 h2, rfL I ek t1 t2]
    rfl
theorem eqAllL (I : Inv X pins σ H s) (ek : Ex Kn H) : ∀ {vs ws : List V} {xs ys : List α} {us zs : List Value}, xs.length = ys.length → Paired (rep X.K Kn) vs xs → Paired (rep X.K Kn) ws ys → Vals vs us → Vals ws zs → EqAll X.prog X.w s (Qe.dq α) us zs (qeL xs ys)
  | _, _, _, _, _, _, _, .nil, .nil, .nil, .nil => .nil
  | _, _, _, _, _, _, hl, .cons h1 t1, .cons h2 t2, .cons r1 q1, .cons r2 q2 => .cons (Qe.is I ek h1 h2 r1 r2) (eqAllL I ek (Nat.succ.inj hl) t1 t2 q1 q2)
  | _, _, _, _, _, _, hl, .nil, .cons _ _, _, _ => by cases hl
  | _, _, _, _, _, _, hl, .cons _ _, .nil, _, _ => by cases hl
theorem list_tree (I : Inv X pins σ H s) (ek : Ex Kn H) {p q : Addr} {vs ws : List V} {xs ys : List α} (hp : Kn p = some (.lst vs)) (hq : Kn q = some (.lst ws)) (h1 : Paired (rep X.K Kn) vs xs) (h2 : Paired (rep X.K Kn) ws ys) : EqTree X.prog X.w s (Qe.dq α + 1) (.ref p) (.ref q) (qeL xs ys) := by
  by_cases hpq : p = q
  · subst hpq
    rw [hp] at hq
    cases hq
    rw [rfL I ek h1 h2]
    exact .same
  · obtain ⟨us, r1, p1, _⟩ := I.list (sq_of (ek _ _ hp))
    obtain ⟨zs, r2, p2, _⟩ := I.list (sq_of (ek _ _ hq))
    have l1 := Paired.length h1
    have l2 := Paired.length h2
    have m1 := r1.length
    have m2 := r2.length
    by_cases hl : xs.length = ys.length
    · obtain ⟨_, e, he, hb⟩ := (eqAllL I ek hl h1 h2 r1 r2).go
      have t := EqTree.lists hpq p1.isList p2.isList (by rw [List.size_toArray, List.size_toArray]; omega) he
      rw [List.size_toArray, hb] at t
      exact t
    · rw [qeL_len hl]
      exact .listsLen hpq p1.isList p2.isList (by rw [List.size_toArray, List.size_toArray]; simp; omega)
end
instance {α : Type} [Rp α] [Qe α] : Qe (List α) where
  dq := Qe.dq α + 1
  qe := qeL
  rf I _ _ _ _ ek h1 h2 := by
    obtain ⟨p, vs, rfl, a1, a2⟩ := h1
    obtain ⟨q, ws, e, b1, b2⟩ := h2
    cases e
    rw [a1] at b1
    cases b1
    exact rfL I ek a2 b2
  is I _ _ _ _ _ ek h1 h2 _ _ r1 r2 := by
    obtain ⟨p, vs, rfl, a1, a2⟩ := h1
    obtain ⟨q, ws, rfl, b1, b2⟩ := h2
    cases r1
    cases r2
    exact list_tree I ek a1 b1 a2 b2
instance {α : Type} [Rp α] : Qn (List α) where
  no I _ _ _ ek h _ r := by
    obtain ⟨p, vs, rfl, a1, a2⟩ := h
    cases r
    obtain ⟨us, r1, p1, _⟩ := I.list (sq_of (ek _ _ a1))
    exact ⟨.leaf fun A hu => SeqAt.EqAt.list_none p1.isList (by omega), .leaf fun A hu => SeqAt.EqAt.none_list p1.isList (by omega)⟩
/-- the places of a tuple -/
class Qs (τ : Type) [Tp τ] where
  dq : Nat
  qe : τ → τ → Bool
  rf : ∀ {X : Cx} {pins : List (Addr × Obj)} {σ : L2.St} {H : Hp} {s : Shared}, Inv X pins σ H s → ∀ {Kn : Hp} {vs : List V} {a b : τ}, Ex Kn H → rept X.K Kn vs a → rept X.K Kn vs b → qe a b = true
  is : ∀ {X : Cx} {pins : List (Addr × Obj)} {σ : L2.St} {H : Hp} {s : Shared}, Inv X pins σ H s → ∀ {Kn : Hp} {vs ws : List V} {a b : τ}, Ex Kn H → rept X.K Kn vs a → rept X.K Kn ws b → ∀ {us zs : List Value}, Vals vs us → Vals ws zs → EqAll X.prog X.w s dq us zs (qe a b)
theorem EqAll.mono {prog : Program} {w : World} {s : Shared} {n m : Nat} (hm : n ≤ m) {vs us : List Value} {b : Bool} (h : EqAll prog w s n vs us b) : EqAll prog w s m vs us b := by
  induction h with
  | nil => exact .nil
  | cons h _ ih => exact .cons (h.mono hm) ih
instance : Qs Unit where
  dq := 0
  qe _ _ := true
  rf _ _ _ _ _ _ _ _ := rfl
  is _ _ _ _ _ _ _ h1 h2 _ _ r1 r2 := by
    cases h1
    cases h2
    cases r1
    cases r2
    exact .nil
instance {α τ : Type} [Rp α] [Tp τ] [Qe α] [Qs τ] : Qs (α × τ) where
  dq := max (Qe.dq α) (Qs.dq τ)
  qe a b := Qe.qe a.1 b.1 && Qs.qe a.2 b.2
  rf I _ _ _ _ ek h1 h2 := by
    obtain ⟨v, r, rfl, a1, a2⟩ := h1
    obtain ⟨w, r2, e, b1, b2⟩ := h2
    cases e
    rw [Qe.rf I ek a1 b1, Qs.rf I ek a2 b2]
    rfl
  is I _ _ _ _ _ ek h1 h2 _ _ r1 r2 := by
    obtain ⟨v, r, rfl, a1, a2⟩ := h1
    obtain ⟨w, r2, rfl, b1, b2⟩ := h2
    cases r1 with
    | cons c1 d1 =>
      cases r2 with
      | cons c2 d2 => exact .cons ((Qe.is I ek a1 b1 c1 c2).mono (Nat.le_max_left _ _)) ((Qs.is I ek a2 b2 d1 d2).mono (Nat.le_max_right _ _))
section
variable {X : Cx} {pins : List (Addr × Obj)} {σ : L2.St} {H Kn : Hp} {s : Shared} {τ : Type} [Tp τ] [Qs τ]
theorem tup_tree (I : Inv X pins σ H s) (ek : Ex Kn H) {p q : Addr} {vs ws : List V} {a b : τ} (hp : Kn p = some (.tup vs)) (hq : Kn q = some (.tup ws)) (h1 : rept X.K Kn vs a) (h2 : rept X.K Kn ws b) : EqTree X.prog X.w s (Qs.dq τ + 1) (.ref p) (.ref q) (Qs.qe a b) := by
  by_cases hpq : p = q
  · subst hpq
    rw [hp] at hq
    cases hq
    rw [Qs.rf I ek h1 h2]
    exact .same
  · obtain ⟨us, r1, p1, _⟩ := I.tuple (st_of (ek _ _ hp))
    obtain ⟨zs, r2, p2, _⟩ := I.tuple (st_of (ek _ _ hq))
    obtain ⟨hl, e, he, hb⟩ := (Qs.is I ek h1 h2 r1 r2).go
    have t := EqTree.tuples hpq p1 p2 he
    rw [List.size_toArray, List.size_toArray, ← hl, Nat.min_self, hb] at t
    simpa using t
end
instance {α τ : Type} [Rp α] [Tp τ] [Qe α] [Qs τ] : Qe (α × τ) where
  dq := Qs.dq (α × τ) + 1
  qe a b := Qs.qe a b
  rf I _ _ _ _ ek h1 h2 := by
    obtain ⟨p, vs, rfl, a1, a2⟩ := h1
    obtain ⟨q, ws, e, b1, b2⟩ := h2
    cases e
    rw [a1] at b1
    cases b1
    exact Qs.rf I ek a2 b2
  is I _ _ _ _ _ ek h1 h2 _ _ r1 r2 := by
    obtain ⟨p, vs, rfl, a1, a2⟩ := h1
    obtain ⟨q, ws, rfl, b1, b2⟩ := h2
    cases r1
    cases r2
    exact tup_tree I ek a1 b1 a2 b2
instance {α τ : Type} [Rp α] [Tp τ] : Qn (α × τ) where
  no I _ _ _ ek h _ r := by
    obtain ⟨p, vs, rfl, a1, a2⟩ := h
    cases r
    obtain ⟨us, r1, p1, _⟩ := I.tuple (st_of (ek _ _ a1))
    exact ⟨.leaf fun A hu => SeqAt.EqAt.tuple_none p1 (by omega), .leaf fun A hu => SeqAt.EqAt.none_tuple p1 (by omega)⟩
/-! ### dicts -/
section
variable {κ β : Type} [Rp κ] [K1 κ] [DecidableEq κ] [Rp β]
def getK (l : List (κ × β)) (k : Key) : Option β := (l.find? fun kv => decide ((Ky.key kv.1 : Key) = k)).map (·.2)
theorem getK_key (l : List (κ × β)) (x : κ) : getK l (Ky.key x) = getD l x := by
  unfold getK getD
  congr 2
  funext kv
  exact decide_eq_decide.mpr ⟨fun h => Ky.inj h, fun h => by rw [h]⟩
theorem DK.getK {K : Fg} {H : Hp} {ws : List (Key × V)} {kvs : List (κ × β)} (k : Key) (h : DK K H ws kvs) : (Wk.getK kvs k = none ∧ valV ws k = none) ∨ ∃ y v, Wk.getK kvs k = Option.some y ∧ valV ws k = Option.some v ∧ rep K H v y := by
  unfold DK at h
  induction h with
  | nil => exact .inl ⟨rfl, rfl⟩
  | @cons w kv ws kvs h t ih =>
    unfold Wk.getK valV
    by_cases e : (Ky.key kv.1 : Key) = k
    · have e2 : w.1 = k := h.1.trans e
      rw [List.find?_cons_of_pos (by simpa using e), List.find?_cons_of_pos (by simpa using e2)]
      exact .inr ⟨_, _, rfl, rfl, h.2⟩
    · have e2 : ¬ w.1 = k := fun z => e (h.1.symm.trans z)
      rw [List.find?_cons_of_neg (by simpa using e), List.find?_cons_of_neg (by simpa using e2)]
      exact ih
theorem DK.keys {K : Fg} {H : Hp} {ws : List (Key × V)} {kvs : List (κ × β)} (h : DK K H ws kvs) : kvs.map (fun kv => (Ky.key kv.1 : Key)) = ws.map (·.1) := by
  unfold DK at h
  induction h with
  | nil => rfl
  | cons h _ ih =>
    rw [List.map_cons, List.map_cons, ih]
    exact congrArg (· :: _) h.1.symm
theorem getK_mem {l : List (κ × β)} (nd : (l.map fun kv => (Ky.key kv.1 : Key)).Nodup) : ∀ {kv : κ × β}, kv ∈ l → getK l (Ky.key kv.1) = some kv.2 := by
  induction l with
  | nil => exact fun h => nomatch h
  | cons p l ih =>
    intro kv h
    rw [List.map_cons, List.nodup_cons] at nd
    unfold getK
    rcases List.mem_cons.mp h with rfl | h
    · rw [List.find?_cons_of_pos (by simp)]
      rfl
    · have ne : ¬ (Ky.key p.1 : Key) = Ky.key kv.1 := fun z => nd.1 (z ▸ List.mem_map.mpr ⟨kv, h, rfl⟩)
      rw [List.find?_cons_of_neg (by simpa using ne)]
      exact ih nd.2 h
/-- two values of a pair's place -/
theorem DK.at {K : Fg} {H : Hp} {ws : List (Key × V)} {kvs : List (κ × β)} (h : DK K H ws kvs) : ∀ {w : Key × V}, w ∈ ws → ∃ kv ∈ kvs, w.1 = Ky.key kv.1 ∧ rep K H w.2 kv.2 := by
  unfold DK at h
  induction h with
  | nil => exact fun h => nomatch h
  | @cons w0 kv0 ws kvs h t ih =>
    intro w hw
    rcases List.mem_cons.mp hw with rfl | hw
    · exact ⟨kv0, List.mem_cons_self, h.1, h.2⟩
    · obtain ⟨kv, h1, h2⟩ := ih hw
      exact ⟨kv, List.mem_cons_of_mem _ h1, h2⟩
def qeD [Qe β] (a b : Dc κ β) : Bool := decide (a.l.length = b.l.length) && a.l.all fun kv => match getD b.l kv.1 with
  | some y => Qe.qe kv.2 y
  | none => false
theorem kv_mem {ws : List (Key × V)} {vs : List (Key × Value)} (h : KV ws vs) {k : Key} {v : Value} (hm : (k, v) ∈ vs) : ∃ x, (k, x) ∈ ws ∧ RelV x v := by
  unfold KV at h
  induction h with
  | nil => cases hm
  | @cons p q ws vs h t ih =>
    rcases List.mem_cons.mp hm with e | hm
    · obtain ⟨h1, h2⟩ := h
      obtain ⟨k', x⟩ := p
      subst e
      have h1 : k' = k := h1
      subst h1
      exact ⟨x, List.mem_cons_self, h2⟩
    · obtain ⟨x, h1, h2⟩ := ih hm
      exact ⟨x, List.mem_cons_of_mem _ h1, h2⟩
theorem rd_one {H : Hp} {p : Addr} {w1 w2 : List (Key × V)} (h1 : Rd H p (.dK w1)) (h2 : Rd H p (.dK w2)) : w1 = w2 := by
  rcases h1 with h1 | ⟨o1, h1⟩ <;> rcases h2 with h2 | ⟨o2, h2⟩
  · rw [h1] at h2; cases h2; rfl
  · rw [h1] at h2; cases h2
  · rw [h1] at h2; cases h2
  · rw [h1] at h2; cases h2; rfl
end
section
variable {κ β : Type} [Rp κ] [K1 κ] [DecidableEq κ] [Rp β] [Qe β] {X : Cx} {pins : List (Addr × Obj)} {σ : L2.St} {H Kn : Hp} {s : Shared}
theorem rfD (I : Inv X pins σ H s) (ek : Ex Kn H) {p : Addr} {ws : List (Key × V)} {a b : Dc κ β} (hp : Rd H p (.dK ws)) (h1 : DK X.K Kn ws a.l) (h2 : DK X.K Kn ws b.l) : qeD a b = true := by
  obtain ⟨_, _, vs, rv, dv⟩ := dk_rd I.hok hp
  have nd : (ws.map (·.1)).Nodup := by
    obtain ⟨_, _, _, _, _, _, _, _, nd⟩ := dv
    rw [KV.keys rv]
    exact nd
  unfold qeD
  rw [Bool.and_eq_true, decide_eq_true_eq, List.all_eq_true]
  refine ⟨by rw [← Paired.length h1, ← Paired.length h2], fun kv hkv => ?_⟩
  rw [← getK_key]
  have k1 := getK_mem (by rw [h1.keys]; exact nd) hkv
  rcases h2.getK (Ky.key kv.1) with ⟨_, n⟩ | ⟨y, v, e1, e2, r⟩
  · rcases h1.getK (Ky.key kv.1) with ⟨n1, _⟩ | ⟨y2, v2, _, e4, _⟩
    · rw [k1] at n1; cases n1
    · rw [n] at e4; cases e4
  · rw [e1]
    rcases h1.getK (Ky.key kv.1) with ⟨n1, _⟩ | ⟨y2, v2, e3, e4, r2⟩
    · rw [k1] at n1; cases n1
    · rw [e2] at e4
      cases e4
      rw [k1] at e3
      cases e3
      exact Qe.rf I ek r2 r
def eqK (al bl : List (κ × β)) (k : Key) : Bool := match getK al k, getK bl k with
  | some x, some y => Qe.qe x y
  | _, _ => true
theorem dict_go (I : Inv X pins σ H s) (ek : Ex Kn H) {p q : Addr} {w1 w2 : List (Key × V)} {a b : Dc κ β} (hp : Rd H p (.dK w1)) (hq : Rd H q (.dK w2)) (h1 : DK X.K Kn w1 a.l) (h2 : DK X.K Kn w2 b.l) :
    ∃ (ka kb : List (Key × Value)), (p == sysModules) = false ∧ (q == sysModules) = false ∧ s.heap.DictOf (mixKind X.prog X.w) p ka ∧ s.heap.DictOf (mixKind X.prog X.w) q kb ∧
      (∀ k v y, (k, v) ∈ ka → valueAt kb k = some y → EqTree X.prog X.w s (Qe.dq β) v y (eqK a.l b.l k)) ∧ (ka.length == kb.length && ka.all fun p => (valueAt kb p.1).isSome && eqK a.l b.l p.1) = qeD a b := by
  obtain ⟨_, s1, ka, r1, d1⟩ := dk_rd I.hok hp
  obtain ⟨_, s2, kb, r2, d2⟩ := dk_rd I.hok hq
  have nd : (w1.map (·.1)).Nodup := by
    obtain ⟨_, _, _, _, _, _, _, _, nd⟩ := id d1
    rw [KV.keys r1]
    exact nd
  have nda : (a.l.map fun kv => (Ky.key kv.1 : Key)).Nodup := by rw [h1.keys]; exact nd
  refine ⟨ka, kb, s1, s2, d1, d2, fun k v y hm hv => ?_, ?_⟩
  · obtain ⟨x, hx, rx⟩ := kv_mem r1 hm
    obtain ⟨kv, hkv, hk, rkv⟩ := h1.at hx
    have hk : k = Ky.key kv.1 := hk
    have g1 := getK_mem nda hkv
    rw [← hk] at g1
    have rr := r2.val k
    rw [hv] at rr
    rcases h2.getK k with ⟨_, n⟩ | ⟨z, zv, e1, e2, rz⟩
    · rw [n] at rr
      exact False.elim rr
    · rw [e2] at rr
      unfold eqK
      rw [g1, e1]
      exact Qe.is I ek rkv rz rx rr
  · unfold qeD
    have l1 : ka.length = a.l.length := by rw [← KV.length r1, Paired.length h1]
    have l2 : kb.length = b.l.length := by rw [← KV.length r2, Paired.length h2]
    rw [l1, l2]
    have e0 : (a.l.length == b.l.length) = decide (a.l.length = b.l.length) := by simp [BEq.beq, Nat.beq_eq]
    rw [e0]
    congr 1
    have em : (ka.all fun p => (valueAt kb p.1).isSome && eqK a.l b.l p.1) = (ka.map (·.1)).all fun k => (valueAt kb k).isSome && eqK a.l b.l k := by rw [List.all_map]; rfl
    rw [em, ← KV.keys r1, ← h1.keys, List.all_map]
    refine Bool.eq_iff_iff.mpr ?_
    rw [List.all_eq_true, List.all_eq_true]
    refine forall_congr' fun kv => forall_congr' fun hkv => ?_
    have g1 := getK_mem nda hkv
    have g2 := getK_key b.l kv.1
    have v2 : (valueAt kb (Ky.key kv.1 : Key)).isSome = (getD b.l kv.1).isSome := by
      have rr := r2.val (Ky.key kv.1)
      rw [← h2.some kv.1]
      cases e : valV w2 (Ky.key kv.1 : Key) <;> cases e2 : valueAt kb (Ky.key kv.1 : Key)
      · rfl
      · rw [e, e2] at rr; exact False.elim rr
      · rw [e, e2] at rr; exact False.elim rr
      · rfl
    show ((valueAt kb (Ky.key kv.1 : Key)).isSome && eqK a.l b.l (Ky.key kv.1)) = true ↔ _
    rw [v2]
    unfold eqK
    rw [g1, g2]
    cases getD b.l kv.1 <;> simp
theorem dict_tree (I : Inv X pins σ H s) (ek : Ex Kn H) {p q : Addr} {w1 w2 : List (Key × V)} {a b : Dc κ β} (hp : Rd H p (.dK w1)) (hq : Rd H q (.dK w2)) (h1 : DK X.K Kn w1 a.l) (h2 : DK X.K Kn w2 b.l) : EqTree X.prog X.w s (Qe.dq β + 1) (.ref p) (.ref q) (qeD a b) := by
  by_cases hpq : p = q
  · subst hpq
    have := rd_one hp hq
    subst this
    rw [rfD I ek hp h1 h2]
    exact .same
  · obtain ⟨ka, kb, s1, s2, d1, d2, t, e⟩ := dict_go I ek hp hq h1 h2
    rw [← e]
    exact .dicts hpq s1 s2 d1 d2 t
end
instance {κ β : Type} [Rp κ] [K1 κ] [DecidableEq κ] [Rp β] [Qe β] : Qe (Dc κ β) where
  dq := Qe.dq β + 1
  qe := qeD
  rf I _ _ _ _ ek h1 h2 := by
    obtain ⟨p, vs, rfl, a1, a2⟩ := h1
    obtain ⟨q, ws, e, b1, b2⟩ := h2
    cases e
    have := rd_one (rd_ex ek a1) (rd_ex ek b1)
    subst this
    exact rfD I ek (rd_ex ek a1) a2 b2
  is I _ _ _ _ _ ek h1 h2 _ _ r1 r2 := by
    obtain ⟨p, vs, rfl, a1, a2⟩ := h1
    obtain ⟨q, ws, rfl, b1, b2⟩ := h2
    cases r1
    cases r2
    exact dict_tree I ek (rd_ex ek a1) (rd_ex ek b1) a2 b2
/-! ### as operations -/
class Qt (α : Type) [Rp α] [Qe α] where
  eq : ∀ {K : Fg} {Kn H : Hp} {x y : V} {a b : α}, Qe.dq α ≤ 60 → Ex Kn H → rep K Kn x a → rep K Kn y b → TopB K H .Eq x y (Qe.qe a b)
  ne : ∀ {K : Fg} {Kn H : Hp} {x y : V} {a b : α}, Qe.dq α ≤ 60 → Ex Kn H → rep K Kn x a → rep K Kn y b → TopB K H .NotEq x y (!Qe.qe a b)
instance {α : Type} [Rp α] [Qe α] : Qt (List α) where
  eq {K Kn H x y a b} hd ek h1 h2 := by
    obtain ⟨p, vs, rfl, a1, a2⟩ := h1
    obtain ⟨q, ws, rfl, b1, b2⟩ := h2
    intro X pins σ s hK hu I v u r1 r2 E Q hQ
    subst hK
    cases r1
    cases r2
    have hd : Qe.dq α + 1 ≤ 60 := hd
    obtain ⟨us, c1, p1, _⟩ := I.list (sq_of (ek _ _ a1))
    obtain ⟨zs, c2, p2, _⟩ := I.list (sq_of (ek _ _ b1))
    have l1 := Paired.length a2
    have l2 := Paired.length b2
    have m1 := c1.length
    have m2 := c2.length
    by_cases hl : a.length = b.length
    · obtain ⟨_, e, he, hb⟩ := (eqAllL I ek hl a2 b2 c1 c2).go
      refine eq_listsT p1.isList p2.isList (by rw [List.size_toArray, List.size_toArray]; omega) he (by omega) ?_
      rw [List.size_toArray, hb]
      exact hQ
    · have hQ : Q (.bool (qeL a b)) s := hQ
      rw [qeL_len hl] at hQ
      exact SeqAt.RcAt.lists_lengths p1.isList p2.isList (by rw [List.size_toArray, List.size_toArray]; simp; omega) (by omega) _ _ _ _ hQ
  ne {K Kn H x y a b} hd ek h1 h2 := by
    obtain ⟨p, vs, rfl, a1, a2⟩ := h1
    obtain ⟨q, ws, rfl, b1, b2⟩ := h2
    intro X pins σ s hK hu I v u r1 r2 E Q hQ
    subst hK
    cases r1
    cases r2
    have hd : Qe.dq α + 1 ≤ 60 := hd
    obtain ⟨us, c1, p1, _⟩ := I.list (sq_of (ek _ _ a1))
    obtain ⟨zs, c2, p2, _⟩ := I.list (sq_of (ek _ _ b1))
    have l1 := Paired.length a2
    have l2 := Paired.length b2
    have m1 := c1.length
    have m2 := c2.length
    by_cases hl : a.length = b.length
    · obtain ⟨_, e, he, hb⟩ := (eqAllL I ek hl a2 b2 c1 c2).go
      refine SeqAt.wk_neG_lists p1.isList p2.isList (by rw [List.size_toArray, List.size_toArray]; omega) (by omega) (fun j j1 j2 => (he j j1 j2).at X.A.in1 (by show X.A.units + 1 + _ < cLine; omega)) _ _ ?_
      rw [List.size_toArray, hb]
      exact hQ
    · have hQ : Q (.bool (!qeL a b)) s := hQ
      rw [qeL_len hl] at hQ
      exact SeqAt.RcNeAt.lists_lengths p1.isList p2.isList (by rw [List.size_toArray, List.size_toArray]; simp; omega) (by omega) _ _ _ _ hQ
instance {α τ : Type} [Rp α] [Tp τ] [Qe α] [Qs τ] : Qt (α × τ) where
  eq {K Kn H x y a b} hd ek h1 h2 := by
    obtain ⟨p, vs, rfl, a1, a2⟩ := h1
    obtain ⟨q, ws, rfl, b1, b2⟩ := h2
    intro X pins σ s hK hu I v u r1 r2 E Q hQ
    subst hK
    cases r1
    cases r2
    have hd : Qs.dq (α × τ) + 1 ≤ 60 := hd
    obtain ⟨us, c1, p1, _⟩ := I.tuple (st_of (ek _ _ a1))
    obtain ⟨zs, c2, p2, _⟩ := I.tuple (st_of (ek _ _ b1))
    obtain ⟨hl, e, he, hb⟩ := (Qs.is I ek a2 b2 c1 c2).go
    refine eq_tuplesT p1 p2 he (by omega) ?_
    rw [List.size_toArray, List.size_toArray, ← hl, Nat.min_self, hb]
    have hQ : Q (.bool (Qs.qe a b)) s := hQ
    simpa using hQ
  ne {K Kn H x y a b} hd ek h1 h2 := by
    obtain ⟨p, vs, rfl, a1, a2⟩ := h1
    obtain ⟨q, ws, rfl, b1, b2⟩ := h2
    intro X pins σ s hK hu I v u r1 r2 E Q hQ
    subst hK
    cases r1
    cases r2
    have hd : Qs.dq (α × τ) + 1 ≤ 60 := hd
    obtain ⟨us, c1, p1, _⟩ := I.tuple (st_of (ek _ _ a1))
    obtain ⟨zs, c2, p2, _⟩ := I.tuple (st_of (ek _ _ b1))
    obtain ⟨hl, e, he, hb⟩ := (Qs.is I ek a2 b2 c1 c2).go
    refine SeqAt.wk_neG_tuples p1 p2 (by omega) (fun j j1 j2 => (he j j1 j2).at X.A.in1 (by show X.A.units + 1 + _ < cLine; omega)) _ _ ?_
    rw [List.size_toArray, List.size_toArray, ← hl, Nat.min_self, hb]
    have hQ : Q (.bool (!Qs.qe a b)) s := hQ
    simpa using hQ
instance {κ β : Type} [Rp κ] [K1 κ] [DecidableEq κ] [Rp β] [Qe β] : Qt (Dc κ β) where
  eq {K Kn H x y a b} hd ek h1 h2 := by
    obtain ⟨p, vs, rfl, a1, a2⟩ := h1
    obtain ⟨q, ws, rfl, b1, b2⟩ := h2
    intro X pins σ s hK hu I v u r1 r2 E Q hQ
    subst hK
    cases r1
    cases r2
    have hd : Qe.dq β + 1 ≤ 60 := hd
    obtain ⟨ka, kb, s1, s2, d1, d2, t, e⟩ := dict_go I ek (rd_ex ek a1) (rd_ex ek b1) a2 b2
    refine eq_dictsT s1 s2 d1 d2 t (by omega) ?_
    rw [e]
    exact hQ
  ne {K Kn H x y a b} hd ek h1 h2 := by
    obtain ⟨p, vs, rfl, a1, a2⟩ := h1
    obtain ⟨q, ws, rfl, b1, b2⟩ := h2
    intro X pins σ s hK hu I v u r1 r2 E Q hQ
    subst hK
    cases r1
    cases r2
    have hd : Qe.dq β + 1 ≤ 60 := hd
    obtain ⟨ka, kb, s1, s2, d1, d2, t, e⟩ := dict_go I ek (rd_ex ek a1) (rd_ex ek b1) a2 b2
    refine PySem.W.wk_neG_dicts s1 s2 d1 d2 (by omega) (fun _ => KeqHitsIn.of _ fun k v y hm hv => (t k v y hm hv).at X.A.in1 (by show X.A.units + 1 + _ < cLine; omega)) _ _ ?_
    rw [e]
    exact hQ
section
variable {K : Fg} {α : Type} [Rp α] [Qe α] [Qt α]
theorem r2_eqQ {a b : α} (hd : Qe.dq α ≤ 60 := by decide) : R2V K (rTop K .Eq) a b (Qe.qe a b) := fun Kn H v w ek h1 h2 Q q => ⟨_, Qt.eq hd ek h1 h2, q.fl (z := Qe.qe a b) ek⟩
theorem r2_neQ {a b : α} (hd : Qe.dq α ≤ 60 := by decide) : R2V K (rTop K .NotEq) a b (!Qe.qe a b) := fun Kn H v w ek h1 h2 Q q => ⟨_, Qt.ne hd ek h1 h2, q.fl (z := !Qe.qe a b) ek⟩
end
theorem k_top {X : Cx} {K : Fg} {op : CmpOp} (hu : X.A.units + 64 < cLine) (h : X.K = K := by rfl) : OpR X (compareOp op) (rTop K op) := h ▸ op_top hu
end Wk
set_option maxHeartbeats 4000000
/-! Weqh: == and != of lists of different things -/
namespace Wk
open PySem PySem.Spec L2 Evl PySem.W
section
variable {X : Cx} {pins : List (Addr × Obj)} {σ : L2.St} {H Kn : Hp} {s : Shared} {τ : Type} [Tp τ] [Qs τ]
theorem hl_tree (I : Inv X pins σ H s) (ek : Ex Kn H) {p q : Addr} {vs ws : List V} {a b : τ} (hp : Kn p = some (.lst vs)) (hq : Kn q = some (.lst ws)) (h1 : rept X.K Kn vs a) (h2 : rept X.K Kn ws b) : EqTree X.prog X.w s (Qs.dq τ + 1) (.ref p) (.ref q) (Qs.qe a b) := by
  by_cases hpq : p = q
  · subst hpq
    rw [hp] at hq
    cases hq
    rw [Qs.rf I ek h1 h2]
    exact .same
  · obtain ⟨us, r1, p1, _⟩ := I.list (sq_of (ek _ _ hp))
    obtain ⟨zs, r2, p2, _⟩ := I.list (sq_of (ek _ _ hq))
    obtain ⟨hl, e, he, hb⟩ := (Qs.is I ek h1 h2 r1 r2).go
    have t := EqTree.lists hpq p1.isList p2.isList (by rw [List.size_toArray, List.size_toArray]; omega) he
    rw [List.size_toArray, hb] at t
    exact t
end
instance {τ : Type} [Tp τ] [Qs τ] : Qe (Hl τ) where
  dq := Qs.dq τ + 1
  qe a b := Qs.qe a.t b.t
  rf I _ _ _ _ ek h1 h2 := by
    obtain ⟨p, vs, rfl, a1, a2⟩ := h1
    obtain ⟨q, ws, e, b1, b2⟩ := h2
    cases e
    rw [a1] at b1
    cases b1
    exact Qs.rf I ek a2 b2
  is I _ _ _ _ _ ek h1 h2 _ _ r1 r2 := by
    obtain ⟨p, vs, rfl, a1, a2⟩ := h1
    obtain ⟨q, ws, rfl, b1, b2⟩ := h2
    cases r1
    cases r2
    exact hl_tree I ek a1 b1 a2 b2
instance {τ : Type} [Tp τ] [Qs τ] : Qt (Hl τ) where
  eq {K Kn H x y a b} hd ek h1 h2 := by
    obtain ⟨p, vs, rfl, a1, a2⟩ := h1
    obtain ⟨q, ws, rfl, b1, b2⟩ := h2
    intro X pins σ s hK hu I v u r1 r2 E Q hQ
    subst hK
    cases r1
    cases r2
    have hd : Qs.dq τ + 1 ≤ 60 := hd
    obtain ⟨us, c1, p1, _⟩ := I.list (sq_of (ek _ _ a1))
    obtain ⟨zs, c2, p2, _⟩ := I.list (sq_of (ek _ _ b1))
    obtain ⟨hl, e, he, hb⟩ := (Qs.is I ek a2 b2 c1 c2).go
    refine eq_listsT p1.isList p2.isList (by rw [List.size_toArray, List.size_toArray]; omega) he (by omega) ?_
    rw [List.size_toArray, hb]
    exact hQ
  ne {K Kn H x y a b} hd ek h1 h2 := by
    obtain ⟨p, vs, rfl, a1, a2⟩ := h1
    obtain ⟨q, ws, rfl, b1, b2⟩ := h2
    intro X pins σ s hK hu I v u r1 r2 E Q hQ
    subst hK
    cases r1
    cases r2
    have hd : Qs.dq τ + 1 ≤ 60 := hd
    obtain ⟨us, c1, p1, _⟩ := I.list (sq_of (ek _ _ a1))
    obtain ⟨zs, c2, p2, _⟩ := I.list (sq_of (ek _ _ b1))
    obtain ⟨hl, e, he, hb⟩ := (Qs.is I ek a2 b2 c1 c2).go
    refine SeqAt.wk_neG_lists p1.isList p2.isList (by rw [List.size_toArray, List.size_toArray]; omega) (by omega) (fun j j1 j2 => (he j j1 j2).at X.A.in1 (by show X.A.units + 1 + _ < cLine; omega)) _ _ ?_
    rw [List.size_toArray, hb]
    exact hQ
end Wk
/-! Wtri: a def that tells a tuple of a new dict, a value and a new list; list(d.values()); dicts of values of any kind -/
namespace L2
open PySem PySem.Spec PyProof.Rows
section
variable {X : Cx}
/-- list(o.values()) -/
def tListVals (td : TE) : TE := fun σ H Q => td σ H fun x H1 => ∃ (a : Addr) (kvs : List (Key × V)), x = V.ref a ∧ Rd H1 a (.dK kvs) ∧ ∀ p, H1 p = none → Q (.ref p) (upd H1 p (.lst (kvs.map (·.2))))
variable {o : Expr} {p pos apos mpos : Pos} {td : TE}
theorem kv_vals {ws : List (Key × V)} {vs : List (Key × Value)} (h : KV ws vs) : Vals (ws.map (·.2)) (vs.map (·.2)) := by
  unfold KV at h
  induction h with
  | nil => exact .nil
  | cons h _ ih => exact .cons h.2 ih
theorem pe_listVals (hc : X.calm = true) (hg : Gl X "list") (hm : X.mg "list" = none) (hd : PE X o td) (hbase : attributeBase o "values" X.env (eval o X.env) = eval o X.env := by rfl) (hline : (apos.endLine == mpos.line) = true := by rfl)
    (hse : starEach [Expr.Call (.Attribute o "values" apos) [] [] mpos] X.env = [(false, eval (Expr.Call (.Attribute o "values" apos) [] [] mpos) X.env)] := by rfl) :
    PE X (.Call (.Name "list" p) [.Call (.Attribute o "values" apos) [] [] mpos] [] pos) (tListVals td) := by
  refine ⟨fun pins s σ H Q I h => ?_⟩
  refine wpAny_Call_Name_kw (ld_blt I hg hm (u := .type "list") (by first | rfl | decide +kernel) ?_ (by first | decide +kernel | decide) (by first | decide +kernel | decide))
  rw [hse]
  refine PySem.callWith_type1 (wpAny_Call_method0_late hbase hline (thn (hd.run pins s σ H _ I h) fun v s1 ⟨x, H1, I1, r1, a, kvs, ex, ha, q⟩ => ?_))
  subst ex
  obtain rfl : v = Value.ref a := r1
  obtain ⟨hz, hsys, vs, rel, dof⟩ := dk_rd I1.hok ha
  obtain ⟨ep, dat⟩ := dof.dictAt
  obtain ⟨ob, es, ho, ex, hdat, hko, hpr, hnd⟩ := id dat
  refine ⟨"dict", "dict.values", F.plainAttrs_dict, F.slot_dict_values, F.type_dict_values, ⟨ob, ho, ex.1⟩, fun b e => ?_, Calls.callWith_builtin rfl (PySem.evalArgs_none ?_)⟩
  · cases e
    exact ⟨ob, ho, ex.2.1⟩
  refine call_meetsIn F.slot_dict_values ⟨ob, ho, ex.1⟩ F.entry_dict_values (F.args_dict_values_1 _) (meets_dict_values (mixKind X.prog X.w) a hsys) ⟨⟨vs, dof⟩, ?_⟩
  have k1 : ∀ b u, s1.heap.get? b = some u → (s1.heap.push { cls := .type "dict_values", data := .fields #[.ref a] }).get? b = some u := fun b u e => Heap.get?_push_of_some _ e
  have hlv : kvs.length = vs.length := KV.length rel
  refine PySem.W.kdl_call (PySem.W.kdl_values (knd := mixKind X.prog X.w) (r := s1.heap.objs.size) (d := a) (kvs := vs) (ep := ep)) (I.ok.hd hc) ⟨⟨_, Heap.get?_push_size _ rfl, rfl, rfl⟩, dat.keep k1⟩ (by omega) fun h' tk acc' c' hk hS hacc => ?_
  obtain ⟨hs, hv⟩ := hacc
  have hnew : s1.heap.objs.size ≤ (s1.heap.push { cls := .type "dict_values", data := .fields #[.ref a] }).objs.size := by rw [Heap.size_push]; exact Nat.le_succ _
  have ev : acc'.toList = vs.map (·.2) := PySem.W.kdl_vals_eq (kvs := vs) acc'.toList (by rw [Array.length_toList]; exact hs) fun j u hu => hv j u (by rw [← Array.getElem?_toList]; exact hu)
  have e2 : acc' = (vs.map (·.2)).toArray := by rw [← ev]
  have J := I1.laid (t' := tk) (a := (s1.heap.push { cls := .type "dict_values", data := .fields #[.ref a] }).objs.size) (o := .lst (kvs.map (·.2))) (h' := h') (fun b u e => hk b u (k1 b u e)) hnew ⟨by rw [List.length_map]; exact hz, vs.map (·.2), c', kv_vals rel, by rw [hS, e2]⟩
  exact ⟨V.ref _, _, J, rfl, q _ (I1.hok.fresh hnew)⟩
end
end L2
namespace Wk
open PySem PySem.Spec L2 Evl
/-! ### a tuple of a new dict, a value, a new list -/
structure Tq (β : Type) where
  a : Addr
  b : β
  c : Addr
instance {β : Type} [Rp β] : Rp (Tq β) where
  rep K H v x := ∃ p w, v = .ref p ∧ H p = some (.tup [.ref x.a, w, .ref x.c]) ∧ rep K H w x.b
  swap e h := by
    obtain ⟨p, w, h1, h2, h3⟩ := h
    exact ⟨p, w, h1, e.tup h2, Rp.swap e h3⟩
instance {β : Type} [Rp β] : Tn (Tq β) := ⟨"tuple", fun h => by
  obtain ⟨p, vs, rfl, h1, _⟩ := h
  exact .base (.tup h1)⟩
section
variable {β τ γ α : Type} [Rp β] [Tp τ] [Ob γ] [Rp α]
def RQ (K : Fg) (Kn H : Hp) (Q : VK) (x : γ) (y : β) (zs : List α) : Prop := ∀ p o c ws v Kn' H', Gr Kn H Kn' H' → (H p = none ∧ Kn' p = none ∧ H' p = some o ∧ Ob.ob K Kn' o x) → (H c = none ∧ Kn' c = none ∧ H' c = some (.lst ws) ∧ Paired (rep K Kn') ws zs) → p ≠ c → rep K Kn' v (Tq.mk p y c) → Q v H'
def EQ3 (K : Fg) (F Kn0 : Hp) (sl : List Sl) (ow : List Ow) (te : TE) (x : γ) (y : β) (zs : List α) : Prop := ∀ σ Kn H, S K F Kn0 sl ow σ Kn H → ∀ Q : VK, RQ K Kn H Q x y zs → te σ H Q
def PQ (K : Fg) (f : τ → Option (γ × β × List α × Unit)) : Sp := fun vs H Q _ => ∃ Kn t r, Ex Kn H ∧ rept K Kn vs t ∧ f t = some r ∧ RQ K Kn H Q r.1 r.2.1 r.2.2.1
def RNQ (K : Fg) (F Kn0 : Hp) (ow : List Ow) (R : VK) (x : γ) (y : β) (zs : List α) : Prop := ∀ p o c ws v Kn H, S K F Kn0 [] ow [] Kn H → (F p = none ∧ Kn p = none ∧ H p = some o ∧ Ob.ob K Kn o x) → (F c = none ∧ Kn c = none ∧ H c = some (.lst ws) ∧ Paired (rep K Kn) ws zs) → p ≠ c → rep K Kn v (Tq.mk p y c) → R v H
end
section
variable {K : Fg} {F F' Kn0 Kn1 : Hp} {sl sl' : List Sl} {ow ow0 ow1 : List Ow} {α κ β τ γ δ : Type} [Rp α] [Rp κ] [Ky κ] [DecidableEq κ] [Rp β] [Rp δ] [Tp τ] [Ob γ] {ta : TA} {te tz : TE} {t : τ} {E : XK} {D : Ends} {i j k m : Nat} {p q : Addr} {x : γ} {y : β} {zs : List α} {R R' : VK}
theorem RNQ.base (h : RNQ K F Kn0 ow R x y zs) (b : Bs F Kn0 Kn1) : RNQ K F Kn1 ow R x y zs := fun p o c ws v Kn H s => h p o c ws v Kn H (s.unbase b)
theorem RNQ.fr (f : Fle F F') (h : RNQ K F Kn0 ow0 R x y zs) : RNQ K F' Kn0 ow0 R x y zs := fun p o c ws v Kn H s h1 h2 => h p o c ws v Kn H (s.back f) ⟨fresh_back f h1.1, h1.2⟩ ⟨fresh_back f h2.1, h2.2⟩
theorem RNQ.mv (h : RNQ K F Kn0 ow0 R x y zs) (mv : Mv K F Kn0 R F' Kn1 R') : RNQ K F' Kn1 ow0 R' x y zs := fun p o c ws v Kn H s h1 h2 hn r => by
  obtain ⟨Kn', H', s', g1, g2, g3⟩ := mv.st _ _ _ _ _ s
  exact g1 _ (h p o c ws v Kn' H' s' ⟨mv.fn p h1.1, (g3 p h1.2.1).1, (g3 p h1.2.1).2.trans h1.2.2.1, Ob.swap g2 h1.2.2.2⟩ ⟨mv.fn c h2.1, (g3 c h2.2.1).1, (g3 c h2.2.1).2.trans h2.2.2.1, paired_swap g2 h2.2.2.2⟩ hn (Rp.swap g2 r))
theorem rnq_of {H Kn : Hp} {Q : VK} (h : RQ K Kn H Q x y zs) : RNQ K H Kn [] Q x y zs := fun p o c ws v Kn' H' s h1 h2 hn r => h p o c ws v Kn' H' ⟨s.e0, s.ef, s.ek, s.sep⟩ h1 h2 hn r
theorem eq3_call {f : τ → Option (γ × β × List α × Unit)} {r : γ × β × List α × Unit} (h : EA K F Kn0 sl ow ta t) (hf : f t = some r) : EQ3 K F Kn0 sl ow (tCall (PQ K f) [] E ta) r.1 r.2.1 r.2.2.1 := fun σ Kn H s Q hq =>
  h σ Kn H s _ fun vs Kn1 H1 g1 r1 => by
    show PQ K f (vs ++ []) H1 Q E
    rw [List.append_nil]
    exact ⟨Kn1, t, r, g1.kh, r1, hf, fun p o c ws v Kn' H' g' h1 h2 hn h5 => hq p o c ws v Kn' H' (g1.trans g') ⟨fresh_back g1.hh h1.1, h1.2⟩ ⟨fresh_back g1.hh h2.1, h2.2⟩ hn h5⟩
theorem EQ3.ev {d : Dc κ δ} (h : EQ3 K F Kn0 sl ow te d y zs) : EV K F Kn0 sl ow te (d, y, zs, ()) := fun σ Kn H s Q hq => h σ Kn H s Q fun p o c ws v Kn' H' g h1 h2 hn r2 => by
  obtain ⟨hp, kp, ho, r⟩ := h1
  obtain ⟨hc, kc, hl, rz⟩ := h2
  obtain ⟨vs, rfl, r⟩ := r
  obtain ⟨pt, w, rfl, ht, rw'⟩ := r2
  have n1 : pt ≠ p := fun z => by rw [z, kp] at ht; cases ht
  have n2 : pt ≠ c := fun z => by rw [z, kc] at ht; cases ht
  have g2 := g.know hp kp ho
  have kc2 : upd Kn' p (Ky.ho vs) c = none := by rw [upd_ne (Ne.symm hn)]; exact kc
  have g3 := g2.know hc kc2 hl
  have e2 : Ex Kn' (upd (upd Kn' p (Ky.ho vs)) c (.lst ws)) := (Ex.new kp).trans (Ex.new kc2)
  exact hq _ _ H' g3 ⟨pt, _, rfl, e2 _ _ ht, .ref p, _, rfl, ⟨p, vs, rfl, Rd.of (by rw [upd_ne hn]; exact upd_same), DK.mono e2 r⟩, w, _, rfl, Rp.mono e2 rw', .ref c, _, rfl, ⟨c, ws, rfl, upd_same, paired_mono e2 rz⟩, rfl⟩
theorem EQ3.cast {x' : γ} {y' : β} {zs' : List α} (h : EQ3 K F Kn0 sl ow te x y zs) (e1 : x = x') (e2 : y = y') (e3 : zs = zs') : EQ3 K F Kn0 sl ow te x' y' zs' := e1 ▸ e2 ▸ e3 ▸ h
/-- t = f(..): both are one's own -/
theorem sb_asgQ {sl' : Addr → Addr → List Sl} (hs : ∀ p c, sl.set i (sv (Tq.mk p y c)) = sl' p c) (h : EQ3 K F Kn0 sl ow te x y zs) (n : ∀ p c, SN K F Kn0 (sl' p c) (oo p x :: ol c zs :: ow) D) : SB K F Kn0 sl ow D (tAsg te (gName i)) := fun σ Kn H s =>
  h σ Kn H s _ fun p o c ws v Kn1 H1 g1 h1 h2 hn r2 => by
    have s1 := (s.grow g1).own (p := c) (fresh_back s.ef h2.1) h2.2.1 (owned_ne s h2.1) h2.2.2.1 h2.2.2.2
    have s2 := s1.ownG (p := p) (o := oo p x) rfl (fresh_back s.ef h1.1) h1.2.1 (fun o ho z => by
      rcases List.mem_cons.mp ho with rfl | ho
      · exact hn z.symm
      · exact owned_ne s h1.1 o ho z) ⟨o, h1.2.2⟩
    exact n p c _ Kn1 H1 (hs p c ▸ s2.setv (x := Tq.mk p y c) i r2)
/-- a, b, c = t -/
theorem sb_unpTq (hs : ((sl.set i (.at p)).set j (sv y)).set k (.at q) = sl') (h : EV K F Kn0 sl ow te (Tq.mk p y q)) (n : SN K F Kn0 sl' ow D) : SB K F Kn0 sl ow D (tAsg te (gTup K 3 (gCons (gName i) (gCons (gName j) (gCons (gName k) gNil))))) := fun σ Kn H s => h σ Kn H s _ fun v Kn' H' g r => by
  obtain ⟨pt, w, rfl, ht, rw'⟩ := r
  have s1 := s.grow g
  exact ⟨pt, _, rfl, st_of (s1.ek _ _ ht), rfl, .ref p, _, rfl, w, _, rfl, .ref q, _, rfl, rfl, n _ Kn' H' (hs ▸ (((s1.seta' (p := p) i).setv (x := y) j rw').seta' (p := q) k))⟩
/-- return (d, e, l), d and l one's own -/
theorem sb_retQ (hi : sl[i]? = some (.at p)) (hj : ow[j]? = some (oo p x)) (hk : sl[k]? = some (.at q)) (hm : ow[m]? = some (ol q zs)) (h : EV K F Kn0 sl ow te y) (r : RNQ K F Kn0 ow0 R x y zs) (l : ow0.Sublist ow) (hR : D.rt = R := by rfl) :
    SB K F Kn0 sl ow D (tRet (tTup (tCons (tVar i) (tCons te (tCons (tVar k) tNil))))) := fun σ Kn H s => by
  subst hR
  obtain ⟨o1, a1, a2⟩ := s.sl.get hi
  refine ⟨.ref p, by rw [a1]; exact congrArg some a2, h σ Kn H s _ fun v Kn1 H1 g1 r1 => ?_⟩
  obtain ⟨o2, b1, b2⟩ := s.sl.get hk
  refine ⟨.ref q, by rw [b1]; exact congrArg some b2, by show 3 ≤ sizeLine; exact le_line (by decide), fun pt hp => ?_⟩
  have s1 := s.grow g1
  obtain ⟨f1, f2, ob, f3, f4⟩ := s1.ow.each _ (List.mem_of_getElem? hj)
  have f1 : F p = none := f1
  have f2 : Kn1 p = none := f2
  have f3 : H1 p = some ob := f3
  obtain ⟨c1, c2, ws, c3, c4⟩ := s1.ow.each _ (List.mem_of_getElem? hm)
  have c1 : F q = none := c1
  have c2 : Kn1 q = none := c2
  have c3 : H1 q = some (.lst ws) := c3
  have g : Gr Kn1 H1 (upd Kn1 pt (.tup [.ref p, v, .ref q])) (upd H1 pt (.tup [.ref p, v, .ref q])) := Gr.new s1.ek hp
  have n1 : p ≠ pt := fun z => by rw [z, hp] at f3; cases f3
  have n2 : q ≠ pt := fun z => by rw [z, hp] at c3; cases c3
  have hpq : p ≠ q := fun z => by
    have jm : j ≠ m := fun z2 => by
      rw [z2, hm] at hj
      have := Option.some.inj hj
      cases this
    exact jm (ow_at s.ow.nd hj hm z)
  exact r p ob q ws _ _ _ ((s1.grow g).sub l).fin ⟨f1, by rw [upd_ne n1]; exact f2, g.hh _ _ f3, Ob.mono g.kk f4⟩ ⟨c1, by rw [upd_ne n2]; exact c2, g.hh _ _ c3, paired_mono g.kk c4⟩ hpq ⟨pt, v, rfl, upd_same, Rp.mono g.kk r1⟩
/-- return (d, e, [..]), d one's own, the list new -/
theorem sb_retQN (hi : sl[i]? = some (.at p)) (hj : ow[j]? = some (oo p x)) (h : EV K F Kn0 sl ow te y) (hz : EN K F Kn0 sl ow tz zs) (r : RNQ K F Kn0 ow0 R x y zs) (l : ow0.Sublist ow) (hR : D.rt = R := by rfl) :
    SB K F Kn0 sl ow D (tRet (tTup (tCons (tVar i) (tCons te (tCons tz tNil))))) := fun σ Kn H s => by
  subst hR
  obtain ⟨o1, a1, a2⟩ := s.sl.get hi
  refine ⟨.ref p, by rw [a1]; exact congrArg some a2, h σ Kn H s _ fun v Kn1 H1 g1 r1 => ?_⟩
  refine hz σ Kn1 H1 (s.grow g1) _ fun q ws Kn2 H2 g2 hq kq hl rz => ?_
  refine ⟨by show 3 ≤ sizeLine; exact le_line (by decide), fun pt hp => ?_⟩
  have s1 := (s.grow g1).grow g2
  obtain ⟨f1, f2, ob, f3, f4⟩ := s1.ow.each _ (List.mem_of_getElem? hj)
  have f1 : F p = none := f1
  have f2 : Kn2 p = none := f2
  have f3 : H2 p = some ob := f3
  have g : Gr Kn2 H2 (upd Kn2 pt (.tup [.ref p, v, .ref q])) (upd H2 pt (.tup [.ref p, v, .ref q])) := Gr.new s1.ek hp
  have n1 : p ≠ pt := fun z => by rw [z, hp] at f3; cases f3
  have n2 : q ≠ pt := fun z => by rw [z, hp] at hl; cases hl
  have hpq : p ≠ q := owned_ne (s.grow g1) hq _ (List.mem_of_getElem? hj)
  exact r p ob q ws _ _ _ ((s1.grow g).sub l).fin ⟨f1, by rw [upd_ne n1]; exact f2, g.hh _ _ f3, Ob.mono g.kk f4⟩ ⟨fresh_back s.ef (fresh_back g1.hh hq), by rw [upd_ne n2]; exact kq, g.hh _ _ hl, paired_mono g.kk rz⟩ hpq ⟨pt, v, rfl, upd_same, Rp.mono (g2.trans g).kk r1⟩
theorem sb_retE3 (h : EQ3 K F Kn0 sl ow te x y zs) (r : RNQ K F Kn0 ow0 R x y zs) (l : ow0.Sublist ow) (hR : D.rt = R := by rfl) : SB K F Kn0 sl ow D (tRet te) := fun σ Kn H s => by
  subst hR
  exact h σ Kn H s _ fun p o c ws v Kn' H' g h1 h2 hn rv => r p o c ws v Kn' H' ((s.grow g).sub l).fin ⟨fresh_back s.ef h1.1, h1.2⟩ ⟨fresh_back s.ef h2.1, h2.2⟩ hn rv
theorem rc_lenTq {x : Tq β} : RCV K (fun xs H Q => ∃ p ys, xs = [.ref p] ∧ (SqL K H p ys ∨ SqT K H p ys) ∧ Q (.int ys.length) H) (x, ()) (3 : Int) := fun Kn H vs ek h Q q => by
  obtain ⟨v, rfl, p, ws, rfl, h1, h2⟩ := one_arg h
  exact ⟨p, _, rfl, .inr (st_of (ek _ _ h1)), q.fl (z := (3 : Int)) ek⟩
end
section
variable {K : Fg} {F Kn0 : Hp} {sl : List Sl} {ow : List Ow} {κ β : Type} [Rp κ] [K1 κ] [DecidableEq κ] [Rp β] {te : TE}
theorem dk_snd {Kn : Hp} {ws : List (Key × V)} {kvs : List (κ × β)} (h : DK K Kn ws kvs) : Paired (rep K Kn) (ws.map (·.2)) (kvs.map (·.2)) := by
  unfold DK at h
  induction h with
  | nil => exact .nil
  | cons h _ ih => exact .cons h.2 ih
theorem en_listVals {d : Dc κ β} (h : EV K F Kn0 sl ow te d) : EN K F Kn0 sl ow (tListVals te) (d.l.map (·.2)) := fun σ Kn H s Q q => h σ Kn H s _ fun v Kn1 H1 g1 r1 => by
  obtain ⟨p, ws, rfl, h3, h4⟩ := r1
  refine ⟨p, ws, rfl, rd_ex g1.kh h3, fun l hl => ?_⟩
  exact q l _ Kn1 _ (g1.trans (Gr.newU g1.kh hl)) (fresh_back g1.hh hl) (fresh_back g1.kh hl) upd_same (dk_snd h4)
/-- values of any kind -/
def upDc [Ud β] (d : Dc κ β) : Dc κ Dy := ⟨d.l.map fun kv => (kv.1, upD kv.2)⟩
theorem ev_updc [Ud β] {d : Dc κ β} (h : EV K F Kn0 sl ow te d) : EV K F Kn0 sl ow te (upDc d) := fun σ Kn H s Q q => h σ Kn H s Q fun v Kn' H' g r => by
  obtain ⟨p, ws, rfl, h3, h4⟩ := r
  refine q _ Kn' H' g ⟨p, ws, rfl, h3, ?_⟩
  show DK K Kn' ws (d.l.map fun kv => (kv.1, upD kv.2))
  unfold DK at h4 ⊢
  clear h3 q h
  generalize d.l = kvs at h4
  induction h4 with
  | nil => exact .nil
  | cons h _ ih => exact .cons ⟨h.1, Ud.is h.2⟩ ih
end
end Wk
set_option synthInstance.maxHeartbeats 4000000
set_option synthInstance.maxSize 20000
/-! the mirrors of k05, printed by gen.py -/
namespace Wk05
open PySem L2 Wk
noncomputable def m_deal_L1 (room_1 : Int) (weights_2 : (Dc Str Int)) (total_3 : Int) : Str → ((List (Int × Str × Unit)) × (Dc Str Int)) → Option ((List (Int × Str × Unit)) × (Dc Str Int)) := fun name_9 (rests_7, found_8) =>
  (getD weights_2.l name_9).bind fun i_15 =>
  (mulO room_1 i_15).bind fun m_16 =>
  (dmO m_16 total_3).bind fun dm_17 =>
  (some dm_17).bind fun (part_18, rest_19, _) =>
  (putO found_8 name_9 part_18).bind fun found_20 =>
  (appO rests_7 ((-rest_19), name_9, ())).bind fun rests_21 =>
  some (rests_21, found_20)
noncomputable def m_deal_L2 : (Int × Str × Unit) → ((Dc Str Int)) → Option ((Dc Str Int)) := fun (rest_28, name_29, _) found_27 =>
  (getD found_27.l name_29).bind fun y_35 =>
  (putO found_27 name_29 (y_35 + (1 : Int))).bind fun found_36 =>
  some found_36
noncomputable def m_deal (room_1 : Int) (weights_2 : (Dc Str Int)) : Option (Dc Str Int) :=
  (some ((weights_2.l.map (·.2)).sum)).bind fun total_3 =>
  (some ([] : List (Int × Str × Unit))).bind fun rests_5 =>
  (skO weights_2).bind fun sk_6 =>
  (forS (m_deal_L1 room_1 weights_2 total_3) sk_6 (rests_5, (Dc.mk ([] : List (Str × Int))))).bind fun (rests_22, found_23) =>
  (some (room_1 - ((found_23.l.map (·.2)).sum))).bind fun left_25 =>
  (srtDO rests_22).bind fun sd_26 =>
  (forS (m_deal_L2) (cut sd_26 none (some left_25)) found_23).bind fun found_37 =>
  some found_37
noncomputable def m_lowest_L1_c : (Int × Int) → Option Bool := fun (one_43, other_44) =>
  (some (decide ((0 : Int) < other_44)))
noncomputable def m_lowest_L1 : (Int × Int) → Option (Int × Int) := fun (one_43, other_44) =>
  (modO one_43 other_44).bind fun r_50 =>
  (some other_44).bind fun one_51 =>
  (some r_50).bind fun other_52 =>
  some (one_51, other_52)
noncomputable def m_lowest (p_39 : Int) (q_40 : Int) : Option (Int × Int × Unit) :=
  (some p_39).bind fun one_41 =>
  (some q_40).bind fun other_42 =>
  (whileF (m_lowest_L1_c) (m_lowest_L1) (one_41, other_42)).bind fun (one_53, other_54) =>
  (divO p_39 one_53).bind fun q_56 =>
  (divO q_40 one_53).bind fun q_57 =>
  some (q_56, q_57, ())
noncomputable def m_pour_L1 : Str → ((Dc Str Int)) → Option ((Dc Str Int)) := fun name_63 found_62 =>
  (putO found_62 name_63 (0 : Int)).bind fun found_69 =>
  some found_69
noncomputable def m_pour_L2 (caps_60 : (Dc Str Int)) : Str → ((Dc Str Int)) → Option ((Dc Str Int)) := fun name_84 found_83 =>
  (getD caps_60.l name_84).bind fun i_90 =>
  (putO found_83 name_84 i_90).bind fun found_91 =>
  some found_91
noncomputable def m_pour_L4 (caps_60 : (Dc Str Int)) : Str → (Int × (Dc Str Int)) → Option (Int × (Dc Str Int)) := fun name_112 (room_110, found_111) =>
  (getD caps_60.l name_112).bind fun i_118 =>
  (putO found_111 name_112 i_118).bind fun found_119 =>
  (getD caps_60.l name_112).bind fun i_120 =>
  (some (room_110 - i_120)).bind fun room_121 =>
  some (room_121, found_119)
noncomputable def m_pour_L3_c (weights_59 : (Dc Str Int)) (caps_60 : (Dc Str Int)) : (Int × (List Str) × (List Str) × Int × (Dc Str Int)) → Option Bool := fun (room_99, still_100, full_101, total_102, found_103) =>
  ((neO full_101 ([] : List Str)).bind fun e_104 => some (e_104 || (decide (total_102 = (0 : Int)))))
noncomputable def m_pour_L3 (weights_59 : (Dc Str Int)) (caps_60 : (Dc Str Int)) : (Int × (List Str) × (List Str) × Int × (Dc Str Int)) → Option (Int × (List Str) × (List Str) × Int × (Dc Str Int)) := fun (room_99, still_100, full_101, total_102, found_103) =>
  (forS (m_pour_L4 caps_60) full_101 (room_99, found_103)).bind fun (room_122, found_123) =>
  (lcM (fun name_125 => (some (!(decide (name_125 ∈ full_101))))) (fun name_125 => (some name_125)) still_100).bind fun zs_126 =>
  (some zs_126).bind fun still_127 =>
  (lcM (fun _ => some true) (fun name_128 => ((getD weights_59.l name_128).bind fun i_130 => some i_130)) still_127).bind fun zs_129 =>
  (some (zs_129).sum).bind fun total_131 =>
  (lcM (fun name_132 => ((getD caps_60.l name_132).bind fun i_134 => (mulO i_134 total_131).bind fun m_135 => (getD weights_59.l name_132).bind fun i_136 => (mulO room_122 i_136).bind fun m_137 => some (decide (m_135 ≤ m_137)))) (fun name_132 => (some name_132)) still_127).bind fun zs_133 =>
  (some zs_133).bind fun full_138 =>
  some (room_122, still_127, full_138, total_131, found_123)
noncomputable def m_pour_L5 (weights_59 : (Dc Str Int)) : Str → ((Dc Str Int)) → Option ((Dc Str Int)) := fun name_147 chosen_146 =>
  (getD weights_59.l name_147).bind fun i_153 =>
  (putO chosen_146 name_147 i_153).bind fun chosen_154 =>
  some chosen_154
noncomputable def m_pour (room_58 : Int) (weights_59 : (Dc Str Int)) (caps_60 : (Dc Str Int)) : Option ((Dc Str Int) × (Option (Int × Int × Unit)) × Unit) :=
  (forS (m_pour_L1) (weights_59.l.map (·.1)) (Dc.mk ([] : List (Str × Int)))).bind fun found_70 =>
  (skO weights_59).bind fun sk_72 =>
  (lcM (fun name_73 => ((getD weights_59.l name_73).bind fun i_75 => some (decide ((0 : Int) < i_75)))) (fun name_73 => (some name_73)) sk_72).bind fun zs_74 =>
  (some zs_74).bind fun still_76 =>
  (lcM (fun _ => some true) (fun name_78 => ((getD caps_60.l name_78).bind fun i_80 => some i_80)) still_76).bind fun zs_79 =>
  (if (decide ((zs_79).sum ≤ room_58)) = true then ((forS (m_pour_L2 caps_60) still_76 found_70).bind fun found_92 =>
  some (found_92, none, ())) else ((lcM (fun name_94 => ((getD caps_60.l name_94).bind fun i_96 => some (decide (i_96 = (0 : Int))))) (fun name_94 => (some name_94)) still_76).bind fun zs_95 =>
  (some zs_95).bind fun full_97 =>
  (some (0 : Int)).bind fun total_98 =>
  (whileF (m_pour_L3_c weights_59 caps_60) (m_pour_L3 weights_59 caps_60) (room_58, still_76, full_97, total_98, found_70)).bind fun (room_139, still_140, full_141, total_142, found_143) =>
  (forS (m_pour_L5 weights_59) still_140 (Dc.mk ([] : List (Str × Int)))).bind fun chosen_155 =>
  (m_deal room_139 chosen_155).bind fun r_157 =>
  (updK found_143 r_157).bind fun found_158 =>
  (m_lowest room_139 total_142).bind fun r_159 =>
  some (found_158, (some r_159), ())))
noncomputable def m_dealt_L1 (room_160 : Int) (weights_161 : (Dc Str Int)) (sizes_162 : (Dc Str Int)) (total_163 : Int) : Str → ((List (Int × Str × Unit)) × (List (Int × Str × Unit))) → Option (Ctl ((List (Int × Str × Unit)) × (List (Int × Str × Unit))) Bool) := fun name_168 (others_166, more_167) =>
  (getD weights_161.l name_168).bind fun i_174 =>
  (mulO room_160 i_174).bind fun m_175 =>
  (dmO m_175 total_163).bind fun dm_176 =>
  (some dm_176).bind fun (part_177, rest_178, _) =>
  (getD sizes_162.l name_168).bind fun i_180 =>
  (if (decide (i_180 = (part_177 + (1 : Int)))) = true then ((appO more_167 ((-rest_178), name_168, ())).bind fun more_183 =>
  some (Ctl.nx (others_166, more_183))) else ((getD sizes_162.l name_168).bind fun i_185 =>
  (if (decide (i_185 = part_177)) = true then ((appO others_166 ((-rest_178), name_168, ())).bind fun others_188 =>
  some (Ctl.nx (others_188, more_167))) else (some (Ctl.rt false)))))
noncomputable def m_dealt (room_160 : Int) (weights_161 : (Dc Str Int)) (sizes_162 : (Dc Str Int)) : Option Bool :=
  (some ((weights_161.l.map (·.2)).sum)).bind fun total_163 =>
  (some ([] : List (Int × Str × Unit))).bind fun more_164 =>
  (some ([] : List (Int × Str × Unit))).bind fun others_165 =>
  (forC (m_dealt_L1 room_160 weights_161 sizes_162 total_163) (weights_161.l.map (·.1)) (others_165, more_164)).bind fun tot_173 => match tot_173 with
  | .nx (others_189, more_190) => ((lcM (fun _ => some true) (fun name_193 => ((getD sizes_162.l name_193).bind fun i_195 => some i_195)) (weights_161.l.map (·.1))).bind fun zs_194 =>
  (if (!decide ((zs_194).sum = room_160)) = true then (some false) else ((eqO more_190 ([] : List (Int × Str × Unit))).bind fun e_198 =>
  ((if e_198 = true then some true else ((eqO others_189 ([] : List (Int × Str × Unit))).bind fun e_199 => ((if e_199 = true then some true else ((maxT more_190).bind fun max_200 => (minT others_189).bind fun min_201 => (ltO max_200 min_201).bind fun c_202 => some c_202))).bind fun b_203 => some b_203))).bind fun b_204 =>
  some b_204)))
  | .bk _ => none
  | .rt r_ => some r_
noncomputable def m_poured_L1 (weights_206 : (Dc Str Int)) (caps_207 : (Dc Str Int)) (sizes_208 : (Dc Str Int)) (level_209 : (Option (Int × Int × Unit))) : Str → (Int × (Dc Str Int)) → Option (Ctl (Int × (Dc Str Int)) Bool) := fun name_247 (room_245, left_246) =>
  (getD caps_207.l name_247).bind fun i_254 =>
  (level_209).bind fun s_255 =>
  (mulO i_254 s_255.2.1).bind fun m_256 =>
  (getD weights_206.l name_247).bind fun i_257 =>
  (level_209).bind fun s_258 =>
  (mulO i_257 s_258.1).bind fun m_259 =>
  (if (decide (m_259 < m_256)) = true then ((getD weights_206.l name_247).bind fun i_262 =>
  (putO left_246 name_247 i_262).bind fun left_263 =>
  some (Ctl.nx (room_245, left_263))) else ((getD sizes_208.l name_247).bind fun i_265 =>
  (getD caps_207.l name_247).bind fun i_266 =>
  (if (!decide (i_265 = i_266)) = true then (some (Ctl.rt false)) else ((getD caps_207.l name_247).bind fun i_269 =>
  (some (room_245 - i_269)).bind fun room_270 =>
  some (Ctl.nx (room_270, left_246))))))
noncomputable def m_poured (room_205 : Int) (weights_206 : (Dc Str Int)) (caps_207 : (Dc Str Int)) (sizes_208 : (Dc Str Int)) (level_209 : (Option (Int × Int × Unit))) : Option Bool :=
  (lcM (fun name_210 => ((getD weights_206.l name_210).bind fun i_212 => some (decide ((0 : Int) < i_212)))) (fun name_210 => (some name_210)) (weights_206.l.map (·.1))).bind fun zs_211 =>
  (some zs_211).bind fun still_213 =>
  (lcM (fun name_215 => ((getD weights_206.l name_215).bind fun i_217 => some (decide (i_217 = (0 : Int))))) (fun name_215 => ((getD sizes_208.l name_215).bind fun i_218 => some (!decide (i_218 = (0 : Int))))) (weights_206.l.map (·.1))).bind fun zs_216 =>
  (if (zs_216.any id) = true then (some false) else ((lcM (fun _ => some true) (fun name_222 => ((getD caps_207.l name_222).bind fun i_224 => some i_224)) still_213).bind fun zs_223 =>
  (if (decide ((zs_223).sum ≤ room_205)) = true then (((if (level_209.isNone) = true then ((lcM (fun _ => some true) (fun name_227 => ((getD sizes_208.l name_227).bind fun i_229 => (getD caps_207.l name_227).bind fun i_230 => some (decide (i_229 = i_230)))) still_213).bind fun zs_228 => some (zs_228.all id)) else some false)).bind fun b_231 =>
  some b_231) else (((if (level_209.isNone) = true then some true else ((level_209).bind fun s_233 => ((if (decide (s_233.1 < (0 : Int))) = true then some true else ((level_209).bind fun s_234 => ((if (decide (s_234.2.1 < (1 : Int))) = true then some true else ((level_209).bind fun s_235 => (level_209).bind fun s_236 => (m_lowest s_235.1 s_236.2.1).bind fun r_237 => (level_209).bind fun s_238 => some (!decide (r_237 = s_238))))).bind fun b_239 => some b_239))).bind fun b_240 => some b_240))).bind fun b_241 =>
  (if b_241 = true then (some false) else ((forC (m_poured_L1 weights_206 caps_207 sizes_208 level_209) still_213 (room_205, (Dc.mk ([] : List (Str × Int))))).bind fun tot_252 => match tot_252 with
  | .nx (room_271, left_272) => (((if (eqDG left_272 (Dc.mk ([] : List (Str × Int)))) = true then some true else (((if (decide (room_271 < (0 : Int))) = true then some true else ((level_209).bind fun s_275 => (mulO s_275.1 ((left_272.l.map (·.2)).sum)).bind fun m_276 => (level_209).bind fun s_277 => (mulO room_271 s_277.2.1).bind fun m_278 => some (!decide (m_276 = m_278))))).bind fun b_279 => some b_279))).bind fun b_280 =>
  (if b_280 = true then (some false) else ((m_dealt room_271 left_272 sizes_208).bind fun r_283 =>
  some r_283)))
  | .bk _ => none
  | .rt r_ => some r_))))))
noncomputable def m_ones_L1 : Str → ((Dc Str Int)) → Option ((Dc Str Int)) := fun name_287 found_286 =>
  (putO found_286 name_287 (1 : Int)).bind fun found_293 =>
  some found_293
noncomputable def m_ones (names_284 : (Dc Str Dy)) : Option (Dc Str Int) :=
  (forS (m_ones_L1) (names_284.l.map (·.1)) (Dc.mk ([] : List (Str × Int)))).bind fun found_294 =>
  some found_294
noncomputable def m_picked_L1 (items_296 : (Dc Str (Int × Int × Int × Int × Int × Int × Unit))) (at_297 : Int) : Str → ((Dc Str Int)) → Option ((Dc Str Int)) := fun name_300 found_299 =>
  (getD items_296.l name_300).bind fun i_306 =>
  (atI ([i_306.1, i_306.2.1, i_306.2.2.1, i_306.2.2.2.1, i_306.2.2.2.2.1, i_306.2.2.2.2.2.1] : List Int) at_297).bind fun i_307 =>
  (putO found_299 name_300 i_307).bind fun found_308 =>
  some found_308
noncomputable def m_picked (items_296 : (Dc Str (Int × Int × Int × Int × Int × Int × Unit))) (at_297 : Int) : Option (Dc Str Int) :=
  (forS (m_picked_L1 items_296 at_297) (items_296.l.map (·.1)) (Dc.mk ([] : List (Str × Int)))).bind fun found_309 =>
  some found_309
noncomputable def m_lesser_L1 (some_311 : (Dc Str Int)) (others_312 : (Dc Str Int)) : Str → ((Dc Str Int)) → Option ((Dc Str Int)) := fun name_315 found_314 =>
  (getD some_311.l name_315).bind fun i_321 =>
  (getD others_312.l name_315).bind fun i_322 =>
  (putO found_314 name_315 (i_321 - i_322)).bind fun found_323 =>
  some found_323
noncomputable def m_lesser (some_311 : (Dc Str Int)) (others_312 : (Dc Str Int)) : Option (Dc Str Int) :=
  (forS (m_lesser_L1 some_311 others_312) (some_311.l.map (·.1)) (Dc.mk ([] : List (Str × Int)))).bind fun found_324 =>
  some found_324
noncomputable def m_grown_L1 (wishes_329 : (Dc Str Int)) (more_334 : (Dc Str Int)) : Str → ((Dc Str Int)) → Option ((Dc Str Int)) := fun name_338 sizes_337 =>
  (getD wishes_329.l name_338).bind fun i_344 =>
  (getD more_334.l name_338).bind fun i_345 =>
  (putO sizes_337 name_338 (i_344 + i_345)).bind fun sizes_346 =>
  some sizes_346
noncomputable def m_grown (room_326 : Int) (items_327 : (Dc Str (Int × Int × Int × Int × Int × Int × Unit))) : Option ((Dc Str Int) × Int × (List (Option (Int × Int × Unit))) × Unit) :=
  (m_picked items_327 (1 : Int)).bind fun r_328 =>
  (some r_328).bind fun wishes_329 =>
  (m_picked items_327 (3 : Int)).bind fun r_330 =>
  (m_picked items_327 (2 : Int)).bind fun r_331 =>
  (m_lesser r_331 wishes_329).bind fun r_332 =>
  (m_pour (room_326 - ((wishes_329.l.map (·.2)).sum)) r_330 r_332).bind fun r_333 =>
  (some r_333).bind fun (more_334, level_335, _) =>
  (forS (m_grown_L1 wishes_329 more_334) (items_327.l.map (·.1)) (Dc.mk ([] : List (Str × Int)))).bind fun sizes_347 =>
  some (sizes_347, (room_326 - ((sizes_347.l.map (·.2)).sum)), ([level_335] : List (Option (Int × Int × Unit))), ())
noncomputable def m_shrunk (room_349 : Int) (items_350 : (Dc Str (Int × Int × Int × Int × Int × Int × Unit))) : Option ((Dc Str Int) × Int × (List (Option (Int × Int × Unit))) × Unit) :=
  (m_picked items_350 (1 : Int)).bind fun r_351 =>
  (some r_351).bind fun sizes_352 =>
  (m_picked items_350 (0 : Int)).bind fun r_353 =>
  (some r_353).bind fun leasts_354 =>
  (m_picked items_350 (4 : Int)).bind fun r_355 =>
  (m_lesser sizes_352 leasts_354).bind fun r_356 =>
  (m_pour (((sizes_352.l.map (·.2)).sum) - room_349) r_355 r_356).bind fun r_357 =>
  (some r_357).bind fun (taken_358, level_359, _) =>
  (m_lesser sizes_352 taken_358).bind fun r_360 =>
  (some r_360).bind fun sizes_361 =>
  (some ([level_359] : List (Option (Int × Int × Unit)))).bind fun levels_362 =>
  (if (decide (room_349 < ((sizes_361.l.map (·.2)).sum))) = true then ((m_ones (upDc sizes_361)).bind fun r_366 =>
  (m_lesser sizes_361 leasts_354).bind fun r_367 =>
  (m_pour (((sizes_361.l.map (·.2)).sum) - room_349) r_366 r_367).bind fun r_368 =>
  (some r_368).bind fun (taken_369, level_370, _) =>
  (m_lesser sizes_361 taken_369).bind fun r_371 =>
  (some r_371).bind fun sizes_372 =>
  (appO levels_362 level_370).bind fun levels_373 =>
  some (sizes_372, (0 : Int), levels_373, ())) else (some (sizes_361, (0 : Int), levels_362, ())))
noncomputable def m_of_rank_L1 (items_374 : (Dc Str (Int × Int × Int × Int × Int × Int × Unit))) (rank_375 : Int) : Str → ((Dc Str Int)) → Option ((Dc Str Int)) := fun name_378 found_377 =>
  (getD items_374.l name_378).bind fun i_385 =>
  (if (decide (i_385.2.2.2.2.2.1 = rank_375)) = true then ((getD items_374.l name_378).bind fun i_388 =>
  (putO found_377 name_378 i_388.1).bind fun found_389 =>
  some found_389) else (some found_377))
noncomputable def m_of_rank (items_374 : (Dc Str (Int × Int × Int × Int × Int × Int × Unit))) (rank_375 : Int) : Option (Dc Str Int) :=
  (forS (m_of_rank_L1 items_374 rank_375) (items_374.l.map (·.1)) (Dc.mk ([] : List (Str × Int)))).bind fun found_390 =>
  some found_390
noncomputable def m_given_way_L1 (items_393 : (Dc Str (Int × Int × Int × Int × Int × Int × Unit))) : Int → (Int × (List (Option (Int × Int × Unit))) × (Dc Str Int)) → Option (Int × (List (Option (Int × Int × Unit))) × (Dc Str Int)) := fun rank_402 (lack_399, levels_400, sizes_401) =>
  (m_of_rank items_393 rank_402).bind fun r_408 =>
  (some r_408).bind fun leasts_409 =>
  (if ((decide ((0 : Int) < lack_399)) && (!Qe.qe leasts_409 (Dc.mk ([] : List (Str × Int))))) = true then ((some (min lack_399 ((leasts_409.l.map (·.2)).sum))).bind fun part_413 =>
  (m_ones (upDc leasts_409)).bind fun r_414 =>
  (m_pour part_413 r_414 leasts_409).bind fun r_415 =>
  (some r_415).bind fun (taken_416, level_417, _) =>
  (m_lesser leasts_409 taken_416).bind fun r_418 =>
  (updK sizes_401 r_418).bind fun sizes_419 =>
  (appO levels_400 level_417).bind fun levels_420 =>
  (some (lack_399 - part_413)).bind fun lack_421 =>
  some (lack_421, levels_420, sizes_419)) else (some (lack_399, levels_400, sizes_401)))
noncomputable def m_given_way (room_392 : Int) (items_393 : (Dc Str (Int × Int × Int × Int × Int × Int × Unit))) : Option ((Dc Str Int) × Int × (List (Option (Int × Int × Unit))) × Unit) :=
  (m_picked items_393 (0 : Int)).bind fun r_394 =>
  (some r_394).bind fun sizes_395 =>
  (some (((sizes_395.l.map (·.2)).sum) - room_392)).bind fun lack_396 =>
  (some ([] : List (Option (Int × Int × Unit)))).bind fun levels_397 =>
  (rngO 0 (10 : Int)).bind fun rg_398 =>
  (forS (m_given_way_L1 items_393) rg_398 (lack_396, levels_397, sizes_395)).bind fun (lack_422, levels_423, sizes_424) =>
  some (sizes_424, (0 : Int), levels_423, ())
noncomputable def m_share (room_426 : Int) (items_427 : (Dc Str (Int × Int × Int × Int × Int × Int × Unit))) : Option ((Dc Str Int) × Int × (List (Option (Int × Int × Unit))) × Unit) :=
  (lcM (fun _ => some true) (fun item_429 => (some item_429.2.1)) (items_427.l.map (·.2))).bind fun zs_430 =>
  (if (decide ((zs_430).sum ≤ room_426)) = true then ((m_grown room_426 items_427).bind fun r_433 =>
  some r_433) else ((lcM (fun _ => some true) (fun item_435 => (some item_435.1)) (items_427.l.map (·.2))).bind fun zs_436 =>
  (if (decide ((zs_436).sum ≤ room_426)) = true then ((m_shrunk room_426 items_427).bind fun r_439 =>
  some r_439) else ((m_given_way room_426 items_427).bind fun r_440 =>
  some r_440))))
noncomputable def m_grown_holds (room_441 : Int) (items_442 : (Dc Str (Int × Int × Int × Int × Int × Int × Unit))) (sizes_443 : (Dc Str Int)) (over_444 : Int) (levels_445 : (List (Option (Int × Int × Unit)))) : Option Bool :=
  (m_picked items_442 (1 : Int)).bind fun r_446 =>
  (some r_446).bind fun wishes_447 =>
  (m_lesser sizes_443 wishes_447).bind fun r_448 =>
  (some r_448).bind fun more_449 =>
  (if ((!decide ((levels_445.length : Int) = (1 : Int))) || (!decide (over_444 = (room_441 - ((sizes_443.l.map (·.2)).sum))))) = true then (some false) else ((m_picked items_442 (3 : Int)).bind fun r_453 =>
  (m_picked items_442 (2 : Int)).bind fun r_454 =>
  (m_lesser r_454 wishes_447).bind fun r_455 =>
  (atI levels_445 (0 : Int)).bind fun i_456 =>
  (m_poured (room_441 - ((wishes_447.l.map (·.2)).sum)) r_453 r_455 more_449 i_456).bind fun r_457 =>
  some r_457))
noncomputable def m_shrunk_holds_L1 (caps_466 : (Dc Str Int)) (shrinks_468 : (Dc Str Int)) : Str → ((Dc Str Int)) → Option ((Dc Str Int)) := fun name_474 first_473 =>
  (getD caps_466.l name_474).bind fun i_480 =>
  (getD shrinks_468.l name_474).bind fun i_481 =>
  (mulO i_480 (if (decide ((0 : Int) < i_481)) = true then (1 : Int) else 0)).bind fun m_482 =>
  (putO first_473 name_474 m_482).bind fun first_483 =>
  some first_483
noncomputable def m_shrunk_holds (room_458 : Int) (items_459 : (Dc Str (Int × Int × Int × Int × Int × Int × Unit))) (sizes_460 : (Dc Str Int)) (levels_461 : (List (Option (Int × Int × Unit)))) : Option Bool :=
  (m_picked items_459 (1 : Int)).bind fun r_462 =>
  (some r_462).bind fun wishes_463 =>
  (m_picked items_459 (0 : Int)).bind fun r_464 =>
  (m_lesser wishes_463 r_464).bind fun r_465 =>
  (some r_465).bind fun caps_466 =>
  (m_picked items_459 (4 : Int)).bind fun r_467 =>
  (some r_467).bind fun shrinks_468 =>
  (m_lesser wishes_463 sizes_460).bind fun r_469 =>
  (some r_469).bind fun taken_470 =>
  (some (((wishes_463.l.map (·.2)).sum) - room_458)).bind fun lack_471 =>
  (forS (m_shrunk_holds_L1 caps_466 shrinks_468) (items_459.l.map (·.1)) (Dc.mk ([] : List (Str × Int)))).bind fun first_484 =>
  (if (decide (lack_471 ≤ ((first_484.l.map (·.2)).sum))) = true then (((if (decide ((levels_461.length : Int) = (1 : Int))) = true then ((atI levels_461 (0 : Int)).bind fun i_489 => (m_poured lack_471 shrinks_468 caps_466 taken_470 i_489).bind fun r_490 => some r_490) else some false)).bind fun b_491 =>
  some b_491) else (((if (!decide ((levels_461.length : Int) = (2 : Int))) = true then some true else ((atI levels_461 (0 : Int)).bind fun i_493 => some (i_493.isSome)))).bind fun b_494 =>
  (if b_494 = true then (some false) else ((some (lack_471 - ((first_484.l.map (·.2)).sum))).bind fun lack_497 =>
  (m_ones (upDc items_459)).bind fun r_498 =>
  (m_lesser caps_466 first_484).bind fun r_499 =>
  (m_lesser taken_470 first_484).bind fun r_500 =>
  (atI levels_461 (1 : Int)).bind fun i_501 =>
  (m_poured lack_497 r_498 r_499 r_500 i_501).bind fun r_502 =>
  some r_502))))
noncomputable def m_way_holds_L1 (items_504 : (Dc Str (Int × Int × Int × Int × Int × Int × Unit))) (sizes_505 : (Dc Str Int)) (levels_506 : (List (Option (Int × Int × Unit)))) : Int → (Int × Int) → Option (Ctl (Int × Int) Bool) := fun rank_514 (lack_512, at_513) =>
  (m_of_rank items_504 rank_514).bind fun r_520 =>
  (some r_520).bind fun leasts_521 =>
  (some (min lack_512 ((leasts_521.l.map (·.2)).sum))).bind fun part_522 =>
  (if ((decide ((0 : Int) < lack_512)) && (!Qe.qe leasts_521 (Dc.mk ([] : List (Str × Int))))) = true then ((m_lesser leasts_521 sizes_505).bind fun r_526 =>
  (some r_526).bind fun taken_527 =>
  ((if (decide ((levels_506.length : Int) ≤ at_513)) = true then some true else ((m_ones (upDc leasts_521)).bind fun r_529 => (atI levels_506 at_513).bind fun i_530 => (m_poured part_522 r_529 leasts_521 taken_527 i_530).bind fun r_531 => some (!r_531)))).bind fun b_532 =>
  (if b_532 = true then (some (Ctl.rt false)) else ((some (at_513 + (1 : Int))).bind fun at_535 =>
  (some (lack_512 - part_522)).bind fun lack_536 =>
  some (Ctl.nx (lack_536, at_535))))) else ((lcM (fun _ => some true) (fun name_538 => ((getD sizes_505.l name_538).bind fun i_540 => (getD leasts_521.l name_538).bind fun i_541 => some (!decide (i_540 = i_541)))) (leasts_521.l.map (·.1))).bind fun zs_539 =>
  (if (zs_539.any id) = true then (some (Ctl.rt false)) else (some (Ctl.nx (lack_512, at_513))))))
noncomputable def m_way_holds (room_503 : Int) (items_504 : (Dc Str (Int × Int × Int × Int × Int × Int × Unit))) (sizes_505 : (Dc Str Int)) (levels_506 : (List (Option (Int × Int × Unit)))) : Option Bool :=
  (lcM (fun _ => some true) (fun item_507 => (some item_507.1)) (items_504.l.map (·.2))).bind fun zs_508 =>
  (some ((zs_508).sum - room_503)).bind fun lack_509 =>
  (some (0 : Int)).bind fun at_510 =>
  (rngO 0 (10 : Int)).bind fun rg_511 =>
  (forC (m_way_holds_L1 items_504 sizes_505 levels_506) rg_511 (lack_509, at_510)).bind fun tot_519 => match tot_519 with
  | .nx (lack_544, at_545) => (some (decide (at_545 = (levels_506.length : Int))))
  | .bk _ => none
  | .rt r_ => some r_
noncomputable def m_shared (room_547 : Int) (items_548 : (Dc Str (Int × Int × Int × Int × Int × Int × Unit))) (sizes_549 : (Dc Str Int)) (over_550 : Int) (levels_551 : (List (Option (Int × Int × Unit)))) : Option Bool :=
  (lcM (fun _ => some true) (fun item_553 => (some item_553.2.1)) (items_548.l.map (·.2))).bind fun zs_554 =>
  (if (decide ((zs_554).sum ≤ room_547)) = true then ((m_grown_holds room_547 items_548 sizes_549 over_550 levels_551).bind fun r_557 =>
  some r_557) else ((if (!decide (over_550 = (0 : Int))) = true then (some false) else ((lcM (fun _ => some true) (fun item_562 => (some item_562.1)) (items_548.l.map (·.2))).bind fun zs_563 =>
  (if (decide ((zs_563).sum ≤ room_547)) = true then ((m_shrunk_holds room_547 items_548 sizes_549 levels_551).bind fun r_566 =>
  some r_566) else ((m_way_holds room_547 items_548 sizes_549 levels_551).bind fun r_567 =>
  some r_567))))))
noncomputable def m__law_at (script_568 : (Fz Int)) (k_569 : Int) : Option Int :=
  (if (decide (k_569 < (script_568.l.length : Int))) = true then ((atI script_568.l k_569).bind fun i_573 =>
  some i_573) else (some (0 : Int)))
noncomputable def m__law_mixed (cell_574 : Int) : Option Int :=
  (some ((cell_574 * (48271 : Int)) % (2147483647 : Int))).bind fun n_575 =>
  (some (((n_575 / (65536 : Int)) + (n_575 * (16807 : Int))) % (2147483629 : Int))).bind fun n_576 =>
  (mulO n_576 ((n_576 % (32768 : Int)) + (40961 : Int))).bind fun m_577 =>
  some (m_577 % (1000000000039 : Int))
noncomputable def m__law_draws_L1_c (many_580 : Int) (base_581 : Int) : (Int × (List Int)) → Option Bool := fun (cell_585, found_586) =>
  (some ((decide ((1000000000000000000 : Int) ≤ cell_585)) && (decide ((found_586.length : Int) < many_580))))
noncomputable def m__law_draws_L1 (many_580 : Int) (base_581 : Int) : (Int × (List Int)) → Option (Int × (List Int)) := fun (cell_585, found_586) =>
  (modO cell_585 base_581).bind fun r_592 =>
  (appO found_586 r_592).bind fun found_593 =>
  (divO cell_585 base_581).bind fun q_594 =>
  (some q_594).bind fun cell_595 =>
  some (cell_595, found_593)
noncomputable def m__law_draws_L2 (script_578 : (Fz Int)) (first_579 : Int) (base_581 : Int) : Int → ((List Int)) → Option ((List Int)) := fun k_601 found_600 =>
  (m__law_at script_578 ((first_579 + (1 : Int)) + k_601)).bind fun r_607 =>
  (mulO ((97 : Int) * k_601) k_601).bind fun m_608 =>
  (m__law_mixed (r_607 + m_608)).bind fun r_609 =>
  (some r_609).bind fun n_610 =>
  (m__law_mixed ((n_610 + ((7 : Int) * k_601)) + (1 : Int))).bind fun r_611 =>
  (modO ((n_610 * (1000000000039 : Int)) + r_611) base_581).bind fun r_612 =>
  (appO found_600 r_612).bind fun found_613 =>
  some found_613
noncomputable def m__law_draws (script_578 : (Fz Int)) (first_579 : Int) (many_580 : Int) (base_581 : Int) : Option (List Int) :=
  (some ([] : List Int)).bind fun found_582 =>
  (m__law_at script_578 first_579).bind fun r_583 =>
  (some r_583).bind fun cell_584 =>
  (whileF (m__law_draws_L1_c many_580 base_581) (m__law_draws_L1 many_580 base_581) (cell_584, found_582)).bind fun (cell_596, found_597) =>
  (rngO 0 (many_580 - (found_597.length : Int))).bind fun rg_599 =>
  (forS (m__law_draws_L2 script_578 first_579 base_581) rg_599 found_597).bind fun found_614 =>
  some found_614
noncomputable def m__law_names_L1 (cell_617 : Int) (letters_618 : Str) : Int → ((List Str)) → Option ((List Str)) := fun k_622 some_621 =>
  (ixS letters_618 ((k_622 + cell_617) % (26 : Int))).bind fun i_628 =>
  (ixS letters_618 ((k_622 / (26 : Int)) + ((cell_617 / (26 : Int)) % (20 : Int)))).bind fun i_629 =>
  (addS i_628 i_629).bind fun t_630 =>
  (some t_630).bind fun word_631 =>
  (ixS letters_618 (((k_622 * (7 : Int)) + cell_617) % (26 : Int))).bind fun i_632 =>
  (mulS i_632 ((1 : Int) + ((k_622 + cell_617) % (3 : Int)))).bind fun t_633 =>
  (addS word_631 t_633).bind fun t_634 =>
  (appO some_621 t_634).bind fun some_635 =>
  some some_635
noncomputable def m__law_names (many_616 : Int) (cell_617 : Int) : Option (List Str) :=
  (some ("abcdefghijklmnopqrstuvwxyz" : Str)).bind fun letters_618 =>
  (some ([] : List Str)).bind fun some_619 =>
  (rngO 0 many_616).bind fun rg_620 =>
  (forS (m__law_names_L1 cell_617 letters_618) rg_620 some_619).bind fun some_636 =>
  some some_636
noncomputable def m__law_item (n_638 : Int) : Option (Int × Int × Int × Int × Int × Int × Unit) :=
  (atI ([(12 : Int), (100 : Int), (10000 : Int)] : List Int) (n_638 % (3 : Int))).bind fun i_639 =>
  (some i_639).bind fun far_640 =>
  (some (n_638 / (3 : Int))).bind fun n_641 =>
  (modO n_641 far_640).bind fun r_642 =>
  (some r_642).bind fun least_643 =>
  (modO (n_641 / (10000 : Int)) far_640).bind fun r_644 =>
  (some (least_643 + r_644)).bind fun wish_645 =>
  (modO (n_641 / (100000000 : Int)) far_640).bind fun r_646 =>
  (some (wish_645 + r_646)).bind fun most_647 =>
  (some (n_641 / (1000000000000 : Int))).bind fun n_648 =>
  (atI ([(n_648 % (4 : Int)), (n_648 % (100 : Int))] : List Int) ((n_648 / (100 : Int)) % (2 : Int))).bind fun i_649 =>
  (some i_649).bind fun grow_650 =>
  (atI ([((n_648 / (200 : Int)) % (4 : Int)), ((n_648 / (200 : Int)) % (100 : Int))] : List Int) ((n_648 / (20000 : Int)) % (2 : Int))).bind fun i_651 =>
  (some i_651).bind fun shrink_652 =>
  some (least_643, wish_645, most_647, grow_650, shrink_652, ((n_648 / (40000 : Int)) % (10 : Int)), ())
noncomputable def m__law_items_L1 : (Str × Int × Unit) → ((Dc Str (Int × Int × Int × Int × Int × Int × Unit))) → Option ((Dc Str (Int × Int × Int × Int × Int × Int × Unit))) := fun (name_658, n_659, _) items_here_657 =>
  (m__law_item n_659).bind fun r_665 =>
  (putO items_here_657 name_658 r_665).bind fun items_here_666 =>
  some items_here_666
noncomputable def m__law_items (script_653 : (Fz Int)) (names_here_654 : (List Str)) : Option (Dc Str (Int × Int × Int × Int × Int × Int × Unit)) :=
  (m__law_draws script_653 (2 : Int) (names_here_654.length : Int) ((12 : Int) * (100000000000000000 : Int))).bind fun r_656 =>
  (forS (m__law_items_L1) (zipI names_here_654 r_656) (Dc.mk ([] : List (Str × (Int × Int × Int × Int × Int × Int × Unit))))).bind fun items_here_667 =>
  some items_here_667
noncomputable def m__law_room (items_here_669 : (Dc Str (Int × Int × Int × Int × Int × Int × Unit))) (cell_670 : Int) : Option Int :=
  (lcM (fun _ => some true) (fun item_here_671 => (some item_here_671.1)) (items_here_669.l.map (·.2))).bind fun zs_672 =>
  (some (zs_672).sum).bind fun leasts_673 =>
  (lcM (fun _ => some true) (fun item_here_674 => (some item_here_674.2.1)) (items_here_669.l.map (·.2))).bind fun zs_675 =>
  (some (zs_675).sum).bind fun wishes_676 =>
  (lcM (fun _ => some true) (fun item_here_677 => (some item_here_677.2.2.1)) (items_here_669.l.map (·.2))).bind fun zs_678 =>
  (some (zs_678).sum).bind fun mosts_679 =>
  (if (decide ((cell_670 % (4 : Int)) = (0 : Int))) = true then ((modO ((cell_670 / (4 : Int)) * (7 : Int)) (leasts_673 + (1 : Int))).bind fun r_683 =>
  some r_683) else ((if (decide ((cell_670 % (4 : Int)) = (1 : Int))) = true then ((modO ((cell_670 / (4 : Int)) * (7 : Int)) ((wishes_676 - leasts_673) + (1 : Int))).bind fun r_687 =>
  some (leasts_673 + r_687)) else ((if (decide ((cell_670 % (4 : Int)) = (2 : Int))) = true then ((modO ((cell_670 / (4 : Int)) * (7 : Int)) ((mosts_679 - wishes_676) + (20 : Int))).bind fun r_691 =>
  some (wishes_676 + r_691)) else (some ((cell_670 / (4 : Int)) % (1000000000 : Int))))))))
noncomputable def m__law_bent (sizes_692 : (Dc Str Int)) (names_here_693 : (List Str)) (cell_694 : Int) : Option (Dc Str Int) :=
  (some sizes_692).bind fun bent_here_695 =>
  (modO (cell_694 / (4 : Int)) (names_here_693.length : Int)).bind fun r_696 =>
  (atI names_here_693 r_696).bind fun i_697 =>
  (some i_697).bind fun one_698 =>
  (divO (cell_694 / (4 : Int)) (names_here_693.length : Int)).bind fun q_699 =>
  (modO q_699 (names_here_693.length : Int)).bind fun r_700 =>
  (atI names_here_693 r_700).bind fun i_701 =>
  (some i_701).bind fun other_here_702 =>
  (divO (cell_694 / (4 : Int)) (names_here_693.length : Int)).bind fun q_703 =>
  (divO q_703 (names_here_693.length : Int)).bind fun q_704 =>
  (some ((1 : Int) + (q_704 % (3 : Int)))).bind fun by_705 =>
  ((if (decide ((1 : Int) < (cell_694 % (4 : Int)))) = true then ((getD bent_here_695.l one_698).bind fun i_708 =>
  (putO bent_here_695 one_698 (i_708 + by_705)).bind fun bent_here_709 =>
  some bent_here_709) else (some bent_here_695))).bind fun bent_here_710 =>
  ((if (decide ((cell_694 % (4 : Int)) = (3 : Int))) = true then ((getD bent_here_710.l other_here_702).bind fun i_714 =>
  (putO bent_here_710 other_here_702 (i_714 - by_705)).bind fun bent_here_715 =>
  some bent_here_715) else (some bent_here_710))).bind fun bent_here_716 =>
  some bent_here_716
noncomputable def m__law_other (levels_718 : (List (Option (Int × Int × Unit)))) (cell_719 : Int) : Option (List (Option (Int × Int × Unit))) :=
  (some levels_718).bind fun some_720 =>
  (modO (cell_719 / (6 : Int)) ((some_720.length : Int) + (1 : Int))).bind fun r_721 =>
  (some r_721).bind fun at_here_722 =>
  (divO (cell_719 / (6 : Int)) ((some_720.length : Int) + (1 : Int))).bind fun q_723 =>
  (some ((1 : Int) + (q_723 % (4 : Int)))).bind fun by_724 =>
  (if (decide ((cell_719 % (6 : Int)) = (3 : Int))) = true then ((catO (cut some_720 none (some at_here_722)) (cut some_720 (some (at_here_722 + (1 : Int))) none)).bind fun cat_728 =>
  some cat_728) else ((if (decide ((cell_719 % (6 : Int)) = (4 : Int))) = true then ((atI ([none, (some ((0 : Int), (1 : Int), ())), (some (by_724, (1 : Int), ())), (some ((1 : Int), by_724, ()))] : List (Option (Int × Int × Unit))) (by_724 % (4 : Int))).bind fun i_732 =>
  (catO (cut some_720 none (some at_here_722)) ([i_732] : List (Option (Int × Int × Unit)))).bind fun cat_733 =>
  (catO cat_733 (cut some_720 (some at_here_722) none)).bind fun cat_734 =>
  some cat_734) else ((if ((decide ((cell_719 % (6 : Int)) = (5 : Int))) && (decide (at_here_722 < (some_720.length : Int)))) = true then ((some (some (by_724, (2 : Int), ()))).bind fun level_738 =>
  (atI some_720 at_here_722).bind fun i_740 =>
  ((if (i_740.isSome) = true then ((atI some_720 at_here_722).bind fun i_742 =>
  (i_742).bind fun s_743 =>
  (atI some_720 at_here_722).bind fun i_744 =>
  (i_744).bind fun s_745 =>
  (atI some_720 at_here_722).bind fun i_746 =>
  (i_746).bind fun s_747 =>
  (atI some_720 at_here_722).bind fun i_748 =>
  (i_748).bind fun s_749 =>
  (atI ([(some ((s_743.1 + by_724), s_745.2.1, ())), none, (some (s_747.1, (s_749.2.1 + by_724), ()))] : List (Option (Int × Int × Unit))) (by_724 % (3 : Int))).bind fun i_750 =>
  (some i_750).bind fun level_751 =>
  some level_751) else (some level_738))).bind fun level_752 =>
  (catO (cut some_720 none (some at_here_722)) ([level_752] : List (Option (Int × Int × Unit)))).bind fun cat_754 =>
  (catO cat_754 (cut some_720 (some (at_here_722 + (1 : Int))) none)).bind fun cat_755 =>
  some cat_755) else (some some_720))))))
noncomputable def m_law_L1 (items_here_762 : (Dc Str (Int × Int × Int × Int × Int × Int × Unit))) (room_here_765 : Int) (sizes_767 : (Dc Str Int)) (over_768 : Int) (levels_769 : (List (Option (Int × Int × Unit)))) : ((Dc Str Int) × Int × (List (Option (Int × Int × Unit))) × Unit) → (Unit) → Option (Ctl (Unit) Bool) := fun (some_787, much_788, told_789, _) _ =>
  (some (Hl.mk (items_here_762, some_787, told_789, ()))).bind fun handed_795 =>
  (m_shared room_here_765 handed_795.t.1 handed_795.t.2.1 much_788 handed_795.t.2.2.1).bind fun r_796 =>
  (some r_796).bind fun found_797 =>
  (if ((!true) || (!decide (found_797 = ((Qe.qe some_787 sizes_767) && ((decide (much_788 = over_768)) && (Qe.qe told_789 levels_769)))))) = true then (some (Ctl.rt false)) else ((if (!Qe.qe handed_795 (Hl.mk (items_here_762, some_787, told_789, ()))) = true then (some (Ctl.rt false)) else (some (Ctl.nx ())))))
noncomputable def m_law (script_756 : (Fz Int)) : Option Bool :=
  (m__law_at script_756 (0 : Int)).bind fun r_757 =>
  (m__law_at script_756 (0 : Int)).bind fun r_758 =>
  (m__law_names ((1 : Int) + ((r_757 / (2 : Int)) % (12 : Int))) (r_758 / (24 : Int))).bind fun r_759 =>
  (some r_759).bind fun names_here_760 =>
  (m__law_items script_756 names_here_760).bind fun r_761 =>
  (some r_761).bind fun items_here_762 =>
  (m__law_at script_756 (1 : Int)).bind fun r_763 =>
  (m__law_room items_here_762 r_763).bind fun r_764 =>
  (some r_764).bind fun room_here_765 =>
  (m_share room_here_765 items_here_762).bind fun r_766 =>
  (some r_766).bind fun (sizes_767, over_768, levels_769, _) =>
  (m_shared room_here_765 items_here_762 sizes_767 over_768 levels_769).bind fun r_771 =>
  (if (!decide (r_771 = true)) = true then (some false) else ((catF ([(0 : Int), (0 : Int), (0 : Int)] : List Int) script_756).bind fun cat_774 =>
  (some cat_774).bind fun cells_775 =>
  (atI cells_775 ((cells_775.length : Int) - (1 : Int))).bind fun i_776 =>
  (m__law_bent sizes_767 names_here_760 i_776).bind fun r_777 =>
  (some r_777).bind fun bent_here_778 =>
  (atI cells_775 ((cells_775.length : Int) - (2 : Int))).bind fun i_779 =>
  (atI ([(0 : Int), (0 : Int), (0 : Int), (1 : Int)] : List Int) (i_779 % (4 : Int))).bind fun i_780 =>
  (atI cells_775 ((cells_775.length : Int) - (2 : Int))).bind fun i_781 =>
  (mulO i_780 (((i_781 / (4 : Int)) % (3 : Int)) - (1 : Int))).bind fun m_782 =>
  (some (over_768 + m_782)).bind fun more_783 =>
  (atI cells_775 ((cells_775.length : Int) - (3 : Int))).bind fun i_784 =>
  (m__law_other levels_769 i_784).bind fun r_785 =>
  (some r_785).bind fun other_here_786 =>
  (forC (m_law_L1 items_here_762 room_here_765 sizes_767 over_768 levels_769) ([(bent_here_778, more_783, other_here_786, ()), (bent_here_778, over_768, levels_769, ()), (sizes_767, more_783, levels_769, ()), (sizes_767, over_768, other_here_786, ())] : List ((Dc Str Int) × Int × (List (Option (Int × Int × Unit))) × Unit)) ()).bind fun tot_794 => match tot_794 with
  | .nx _ => ((m_shared room_here_765 items_here_762 sizes_767 over_768 levels_769).bind fun r_805 =>
  some (decide (r_805 = true)))
  | .bk _ => none
  | .rt r_ => some r_))
end Wk05
set_option synthInstance.maxHeartbeats 4000000
set_option synthInstance.maxSize 20000
/-! the walks of k05, printed by gen.py -/
namespace Wk05
open PySem L2 Wk
def topS (i : Nat) : Stmt := PySem.Challenge.pw_boxgalley_k05_whole_shares_checked.main.body.getD i (.Pass ⟨0, 0, 0, 0⟩)
abbrev s_deal : Stmt := topS 2
abbrev s_lowest : Stmt := topS 3
abbrev s_pour : Stmt := topS 4
abbrev s_dealt : Stmt := topS 5
abbrev s_poured : Stmt := topS 6
abbrev s_ones : Stmt := topS 7
abbrev s_picked : Stmt := topS 8
abbrev s_lesser : Stmt := topS 9
abbrev s_grown : Stmt := topS 10
abbrev s_shrunk : Stmt := topS 11
abbrev s_of_rank : Stmt := topS 12
abbrev s_given_way : Stmt := topS 13
abbrev s_share : Stmt := topS 14
abbrev s_grown_holds : Stmt := topS 15
abbrev s_shrunk_holds : Stmt := topS 16
abbrev s_way_holds : Stmt := topS 17
abbrev s_shared : Stmt := topS 18
abbrev s__law_at : Stmt := topS 20
abbrev s__law_mixed : Stmt := topS 21
abbrev s__law_draws : Stmt := topS 22
abbrev s__law_names : Stmt := topS 23
abbrev s__law_item : Stmt := topS 24
abbrev s__law_items : Stmt := topS 25
abbrev s__law_room : Stmt := topS 26
abbrev s__law_bent : Stmt := topS 27
abbrev s__law_other : Stmt := topS 28
abbrev s_law : Stmt := topS 29
structure TX (K : Fg) (mg : Str → Option Value) (w : World) where
  a_deal : Addr
  d_deal : FuncData
  F_deal : Fun K "deal" "deal" s_deal a_deal d_deal
  b_deal : Binds K d_deal ["room", "weights"] []
  g_deal : mg "deal" = some (.ref a_deal)
  a_lowest : Addr
  d_lowest : FuncData
  F_lowest : Fun K "lowest" "lowest" s_lowest a_lowest d_lowest
  b_lowest : Binds K d_lowest ["p", "q"] []
  g_lowest : mg "lowest" = some (.ref a_lowest)
  a_pour : Addr
  d_pour : FuncData
  F_pour : Fun K "pour" "pour" s_pour a_pour d_pour
  b_pour : Binds K d_pour ["room", "weights", "caps"] []
  g_pour : mg "pour" = some (.ref a_pour)
  a_dealt : Addr
  d_dealt : FuncData
  F_dealt : Fun K "dealt" "dealt" s_dealt a_dealt d_dealt
  b_dealt : Binds K d_dealt ["room", "weights", "sizes"] []
  g_dealt : mg "dealt" = some (.ref a_dealt)
  a_poured : Addr
  d_poured : FuncData
  F_poured : Fun K "poured" "poured" s_poured a_poured d_poured
  b_poured : Binds K d_poured ["room", "weights", "caps", "sizes", "level"] []
  g_poured : mg "poured" = some (.ref a_poured)
  a_ones : Addr
  d_ones : FuncData
  F_ones : Fun K "ones" "ones" s_ones a_ones d_ones
  b_ones : Binds K d_ones ["names"] []
  g_ones : mg "ones" = some (.ref a_ones)
  a_picked : Addr
  d_picked : FuncData
  F_picked : Fun K "picked" "picked" s_picked a_picked d_picked
  b_picked : Binds K d_picked ["items", "at"] []
  g_picked : mg "picked" = some (.ref a_picked)
  a_lesser : Addr
  d_lesser : FuncData
  F_lesser : Fun K "lesser" "lesser" s_lesser a_lesser d_lesser
  b_lesser : Binds K d_lesser ["some", "others"] []
  g_lesser : mg "lesser" = some (.ref a_lesser)
  a_grown : Addr
  d_grown : FuncData
  F_grown : Fun K "grown" "grown" s_grown a_grown d_grown
  b_grown : Binds K d_grown ["room", "items"] []
  g_grown : mg "grown" = some (.ref a_grown)
  a_shrunk : Addr
  d_shrunk : FuncData
  F_shrunk : Fun K "shrunk" "shrunk" s_shrunk a_shrunk d_shrunk
  b_shrunk : Binds K d_shrunk ["room", "items"] []
  g_shrunk : mg "shrunk" = some (.ref a_shrunk)
  a_of_rank : Addr
  d_of_rank : FuncData
  F_of_rank : Fun K "of_rank" "of_rank" s_of_rank a_of_rank d_of_rank
  b_of_rank : Binds K d_of_rank ["items", "rank"] []
  g_of_rank : mg "of_rank" = some (.ref a_of_rank)
  a_given_way : Addr
  d_given_way : FuncData
  F_given_way : Fun K "given_way" "given_way" s_given_way a_given_way d_given_way
  b_given_way : Binds K d_given_way ["room", "items"] []
  g_given_way : mg "given_way" = some (.ref a_given_way)
  a_share : Addr
  d_share : FuncData
  F_share : Fun K "share" "share" s_share a_share d_share
  b_share : Binds K d_share ["room", "items"] []
  g_share : mg "share" = some (.ref a_share)
  a_grown_holds : Addr
  d_grown_holds : FuncData
  F_grown_holds : Fun K "grown_holds" "grown_holds" s_grown_holds a_grown_holds d_grown_holds
  b_grown_holds : Binds K d_grown_holds ["room", "items", "sizes", "over", "levels"] []
  g_grown_holds : mg "grown_holds" = some (.ref a_grown_holds)
  a_shrunk_holds : Addr
  d_shrunk_holds : FuncData
  F_shrunk_holds : Fun K "shrunk_holds" "shrunk_holds" s_shrunk_holds a_shrunk_holds d_shrunk_holds
  b_shrunk_holds : Binds K d_shrunk_holds ["room", "items", "sizes", "levels"] []
  g_shrunk_holds : mg "shrunk_holds" = some (.ref a_shrunk_holds)
  a_way_holds : Addr
  d_way_holds : FuncData
  F_way_holds : Fun K "way_holds" "way_holds" s_way_holds a_way_holds d_way_holds
  b_way_holds : Binds K d_way_holds ["room", "items", "sizes", "levels"] []
  g_way_holds : mg "way_holds" = some (.ref a_way_holds)
  a_shared : Addr
  d_shared : FuncData
  F_shared : Fun K "shared" "shared" s_shared a_shared d_shared
  b_shared : Binds K d_shared ["room", "items", "sizes", "over", "levels"] []
  g_shared : mg "shared" = some (.ref a_shared)
  a__law_at : Addr
  d__law_at : FuncData
  F__law_at : Fun K "_law_at" "_law_at" s__law_at a__law_at d__law_at
  b__law_at : Binds K d__law_at ["_law_script", "_law_k"] []
  g__law_at : mg "_law_at" = some (.ref a__law_at)
  a__law_mixed : Addr
  d__law_mixed : FuncData
  F__law_mixed : Fun K "_law_mixed" "_law_mixed" s__law_mixed a__law_mixed d__law_mixed
  b__law_mixed : Binds K d__law_mixed ["_law_cell"] []
  g__law_mixed : mg "_law_mixed" = some (.ref a__law_mixed)
  a__law_draws : Addr
  d__law_draws : FuncData
  F__law_draws : Fun K "_law_draws" "_law_draws" s__law_draws a__law_draws d__law_draws
  b__law_draws : Binds K d__law_draws ["_law_script", "_law_first", "_law_many", "_law_base"] []
  g__law_draws : mg "_law_draws" = some (.ref a__law_draws)
  a__law_names : Addr
  d__law_names : FuncData
  F__law_names : Fun K "_law_names" "_law_names" s__law_names a__law_names d__law_names
  b__law_names : Binds K d__law_names ["_law_many", "_law_cell"] []
  g__law_names : mg "_law_names" = some (.ref a__law_names)
  a__law_item : Addr
  d__law_item : FuncData
  F__law_item : Fun K "_law_item" "_law_item" s__law_item a__law_item d__law_item
  b__law_item : Binds K d__law_item ["_law_n"] []
  g__law_item : mg "_law_item" = some (.ref a__law_item)
  a__law_items : Addr
  d__law_items : FuncData
  F__law_items : Fun K "_law_items" "_law_items" s__law_items a__law_items d__law_items
  b__law_items : Binds K d__law_items ["_law_script", "_law_names_here"] []
  g__law_items : mg "_law_items" = some (.ref a__law_items)
  a__law_room : Addr
  d__law_room : FuncData
  F__law_room : Fun K "_law_room" "_law_room" s__law_room a__law_room d__law_room
  b__law_room : Binds K d__law_room ["_law_items_here", "_law_cell"] []
  g__law_room : mg "_law_room" = some (.ref a__law_room)
  a__law_bent : Addr
  d__law_bent : FuncData
  F__law_bent : Fun K "_law_bent" "_law_bent" s__law_bent a__law_bent d__law_bent
  b__law_bent : Binds K d__law_bent ["_law_sizes", "_law_names_here", "_law_cell"] []
  g__law_bent : mg "_law_bent" = some (.ref a__law_bent)
  a__law_other : Addr
  d__law_other : FuncData
  F__law_other : Fun K "_law_other" "_law_other" s__law_other a__law_other d__law_other
  b__law_other : Binds K d__law_other ["_law_levels", "_law_cell"] []
  g__law_other : mg "_law_other" = some (.ref a__law_other)
  a_law : Addr
  d_law : FuncData
  F_law : Fun K "law" "law" s_law a_law d_law
  b_law : Binds K d_law ["_law_script"] []
  g_law : mg "law" = some (.ref a_law)
  z_all : mg "all" = none
  z_any : mg "any" = none
  z_bool : mg "bool" = none
  z_dict : mg "dict" = none
  z_divmod : mg "divmod" = none
  z_int : mg "int" = none
  z_isinstance : mg "isinstance" = none
  z_len : mg "len" = none
  z_list : mg "list" = none
  z_max : mg "max" = none
  z_min : mg "min" = none
  z_range : mg "range" = none
  z_sorted : mg "sorted" = none
  z_sum : mg "sum" = none
  z_zip : mg "zip" = none
  ti_RANKS : Tok
  gi_RANKS : mg "RANKS" = some (.int 10 ti_RANKS)
def spLaw (K : Fg) : Sp := fun vs H Q _ => ∃ (a : Addr) (ns : List Int), vs = [.ref a] ∧ SqL K H a (ns.map V.int) ∧ ns.length ≤ 63 ∧ ∀ H', Q (.bl true) H'
theorem fn_weak {P : Program} {w : World} {K : Fg} {mg : Str → Option Value} {base : Heap} {k : Nat} {f : Addr} {fd : FuncData} {m : Fz Int → Option Bool}
    (h : FnOk P w K mg base CX0 k f fd ["_law_script"] (PF (τ := Fz Int × Unit) K fun t => m t.1)) (main : ∀ ns : List Int, ns.length ≤ 63 → m (Fz.mk ns) = some true) : FnOk P w K mg base CX0 k f fd ["_law_script"] (spLaw K) :=
  h.imp fun vs H Q E hh => by
    obtain ⟨a, ns, rfl, hs, hl, q⟩ := hh
    exact ⟨H, (Fz.mk ns, ()), true, Evl.Ex.refl _, ⟨.ref a, [], rfl, ⟨a, ns.map V.int, rfl, hs, fl_paired ns⟩, rfl⟩, main ns hl, fun u Kn' H' g r => by cases r; exact q H'⟩
section
variable {P : Program} {w : World} {K : Fg} {mg : Str → Option Value} {base : Heap}
theorem sc_deal : FnScope ["room", "weights", "total", "found", "rests", "name", "part", "rest", "left"] ["room", "weights"] (defScope s_deal) := ⟨rfl, rfl, rfl, by decide +kernel, rfl, by decide +kernel, by decide +kernel⟩
set_option maxHeartbeats 4000000 in
theorem ok_deal (T : TX K mg w) : FnOk P w K mg base CX0 1 T.a_deal T.d_deal ["room", "weights"] (PG (τ := Int × (Dc Str Int) × Unit) K (fun t => m_deal t.1 t.2.1)) := by
  refine T.F_deal.ok sc_deal (fun vs H Q E h => ?_) (fun cdv A outer s H vs Q E hr h => ?_)
  · obtain ⟨Kn, t, r, ek, h, hf, q⟩ := h
    exact Tp.len h
  · obtain ⟨Kn, t, r_, ek, h, hf, q⟩ := h
    obtain ⟨room_1, weights_2, u_⟩ := t
    obtain ⟨v_0, rr_, rfl, hv_0, h⟩ := h
    obtain ⟨v_1, rr_, rfl, hv_1, h⟩ := h
    obtain rfl := h
    replace hf : m_deal room_1 weights_2 = some r_ := hf
    unfold m_deal at hf
    refine ⟨_, (pss_cons (ps_set (i := 2) sc_deal.nd rfl (.inl rfl) (pe_sumVals rfl (by rfl) T.z_sum (pv 1)))
      (pss_cons (ps_set (i := 3) sc_deal.nd rfl (.inl rfl) pe_dnewK)
      (pss_cons (ps_set (i := 4) sc_deal.nd rfl (.inl rfl) (pe_lst pa_nil))
      (pss_cons (ps_for PassesOwn.never rfl (kpi_list (pe_callB k_sortedK (by rfl) T.z_sorted (by decide +kernel) (pa_cons (pv 1) pa_nil))) (pg_name (i := 5) sc_deal.nd rfl (.inl rfl)) (pss_cons (ps_asg (pe_callB call_divmod (by rfl) T.z_divmod (by decide +kernel) (pa_cons (pe_op op_mul (pv 0) (k_dget hr.units (pv 1) (pv 5) (fun _ _ => rfl))) (pa_cons (pv 2) pa_nil))) (kpg_tup (pgs_cons (pg_name (i := 6) sc_deal.nd rfl (.inl rfl)) (pgs_cons (pg_name (i := 7) sc_deal.nd rfl (.inl rfl)) pgs_nil))))
      (pss_cons (k_dput hr.units (pv 3) (pv 5) (pv 6) rfl)
      (pss_one (ps_expr (pe_bm PySem.F.plainAttrs_list PySem.F.slot_list_append PySem.F.type_list_append mt_append (pv 4) (pa_cons (pe_tup (pa_cons (pe_un un_neg (pv 7)) (pa_cons (pv 5) pa_nil))) pa_nil)))))))
      (pss_cons (ps_set (i := 8) sc_deal.nd rfl (.inl rfl) (pe_op op_sub (pv 0) (pe_sumVals rfl (by rfl) T.z_sum (pv 3))))
      (pss_cons (ps_for PassesOwn.never rfl (kpi_list (pe_slice k_sll (pe_callB (k_sortedD hr.units) (by rfl) T.z_sorted (by decide +kernel) (pa_cons (pv 4) pa_nil)) po_none (po_some (pv 8)))) (kpg_tup (pgs_cons (pg_name (i := 7) sc_deal.nd rfl (.inl rfl)) (pgs_cons (pg_name (i := 5) sc_deal.nd rfl (.inl rfl)) pgs_nil))) (pss_one (k_daug hr.units (pv 3) (pv 5) pe_int (fun _ _ _ => rfl))))
      (pss_one (ps_ret (pv 3))))))))), ?_⟩
    refine enter (Kn := Kn) (sl := [sv room_1, sv weights_2, .any, .any, .any, .any, .any, .any, .any]) ek ⟨⟨v_0, rfl, hv_0⟩, ⟨v_1, rfl, hv_1⟩, trivial, trivial, trivial, trivial, trivial, trivial, trivial, trivial⟩ ?_
    have q := rng_of q
    obtain ⟨total_3, h_total_3, hf⟩ := bind_some hf
    refine SB.seqB (fun kx_ => sb_asg (sl' := [sv room_1, sv weights_2, sv total_3, .any, .any, .any, .any, .any, .any]) rfl (EV.cast (ev_sumVals (ev_var (i := 1) rfl)) (Option.some.inj h_total_3)) (kx_ _ _ ?_))
    refine SB.seqB (fun kx_ => sb_dnewK (κ := Str) (β := Int) (sl' := fun p_found_4 => [sv room_1, sv weights_2, sv total_3, .at p_found_4, .any, .any, .any, .any, .any]) rfl (fun _ => rfl) (fun p_found_4 => (kx_ _ _ ?_)))
    obtain ⟨rests_5, h_rests_5, hf⟩ := bind_some hf
    refine SB.seqB (fun kx_ => sb_asgO (sl' := fun p_rests_5 => [sv room_1, sv weights_2, sv total_3, .at p_found_4, .at p_rests_5, .any, .any, .any, .any]) (fun _ => rfl) (EN.cast (en_lst el_nil) (Option.some.inj h_rests_5)) (fun p_rests_5 => (kx_ _ _ ?_)))
    obtain ⟨sk_6, h_sk_6, hf⟩ := bind_some hf
    obtain ⟨⟨rests_22, found_23⟩, h_tot_14, hf⟩ := bind_some hf
    refine SB.seqB (fun kx_24 => sb_for (β := Str) (Sx := (List (Int × Str × Unit)) × (Dc Str Int)) (fun s => [sv room_1, sv weights_2, sv total_3, .at p_found_4, .at p_rests_5, .any, .any, .any, .any]) (fun s => [ol p_rests_5 s.1, oo p_found_4 s.2]) (fun x s => [sv room_1, sv weights_2, sv total_3, .at p_found_4, .at p_rests_5, sv x, .any, .any, .any]) [5] (fun xs s => forS (m_deal_L1 room_1 weights_2 total_3) xs s = some (rests_22, found_23)) (rests_5, (Dc.mk ([] : List (Str × Int)))) (IT.m (it_list (EN.ev (en_cb (ea_cons (ev_var (i := 1) rfl) ea_nil) (rc_sortK h_sk_6))))) h_tot_14 (.keep (.keep (.keep (.keep (.keep (.keep (.keep (.keep (.keep .nil))))))))) (List.Sublist.refl _) (fun x s => (gt_name rfl)) ?_ ?_)
    · intro Kn1 b1 name_9 rest_ s_ hP_11 N_ hN_10
      obtain ⟨rests_7, found_8⟩ := s_
      obtain ⟨c_, hc_12, hP_11⟩ := bind_some hP_11
      have q_13 := q.base b1
      unfold m_deal_L1 at hc_12
      refine SB.is (sl' := [sv room_1, sv weights_2, sv total_3, .at p_found_4, .at p_rests_5, sv name_9, .any, .any, .any]) (ow1 := [ol p_rests_5 rests_7, oo p_found_4 found_8]) rfl rfl ?_
      obtain ⟨i_15, h_i_15, hc_12⟩ := bind_some hc_12
      obtain ⟨m_16, h_m_16, hc_12⟩ := bind_some hc_12
      obtain ⟨dm_17, h_dm_17, hc_12⟩ := bind_some hc_12
      obtain ⟨⟨part_18, rest_19, _⟩, h_part_18, hc_12⟩ := bind_some hc_12
      refine SB.seqB (fun kx_ => sb_unp (sl' := [sv room_1, sv weights_2, sv total_3, .at p_found_4, .at p_rests_5, sv name_9, sv part_18, sv rest_19, .any]) (EV.cast (ev_cb (ea_cons (ev_op (ev_var (i := 0) rfl) (ev_dget (ev_var (i := 1) rfl) (ev_var (i := 5) rfl) h_i_15) (r2_mulO h_m_16)) (ea_cons (ev_var (i := 2) rfl) ea_nil)) (rc_divmod h_dm_17)) (Option.some.inj h_part_18)) (gt_tup (gts_cons (gt_name rfl) (gts_cons (gt_name rfl) gts_nil))) (kx_ _ _ ?_))
      obtain ⟨found_20, h_found_20, hc_12⟩ := bind_some hc_12
      refine SB.seqB (fun kx_ => sb_dput (i := 3) (j := 1) rfl rfl (ev_var (i := 6) rfl) (ev_var (i := 5) rfl) h_found_20 (ow1 := [ol p_rests_5 rests_7, oo p_found_4 found_20]) rfl (kx_ _ _ ?_))
      obtain ⟨rests_21, h_rests_21, hc_12⟩ := bind_some hc_12
      refine sb_appO (i := 4) (j := 0) rfl rfl (ev_tup (ea_cons (ev_un (ev_var (i := 7) rfl) r1_neg) (ea_cons (ev_var (i := 5) rfl) ea_nil))) h_rests_21 (ow1 := [ol p_rests_5 rests_21, oo p_found_4 found_20]) rfl ?_
      cases hc_12
      exact fun σ Kn H s => hN_10 _ hP_11 σ Kn H ((s.le (.keep (.keep (.keep (.keep (.keep (.drop (.drop (.drop (.keep .nil)))))))))).sub (List.Sublist.refl _))
    · intro s_ h0
      cases h0
      refine kx_24 _ _ ?_
      refine SB.is (sl' := [sv room_1, sv weights_2, sv total_3, .at p_found_4, .at p_rests_5, .any, .any, .any, .any]) (ow1 := [ol p_rests_5 rests_22, oo p_found_4 found_23]) rfl rfl ?_
      obtain ⟨left_25, h_left_25, hf⟩ := bind_some hf
      refine SB.seqB (fun kx_ => sb_asg (sl' := [sv room_1, sv weights_2, sv total_3, .at p_found_4, .at p_rests_5, .any, .any, .any, sv left_25]) rfl (EV.cast (ev_op (ev_var (i := 0) rfl) (ev_borG (i := 3) (j := 1) (sl' := [sv room_1, sv weights_2, sv total_3, sv found_23, .at p_rests_5, .any, .any, .any, .any]) (ow1 := [ol p_rests_5 rests_22]) rfl rfl rfl rfl (ev_sumVals (ev_var (i := 3) rfl))) r2_sub) (Option.some.inj h_left_25)) (kx_ _ _ ?_))
      refine sb_freeze (i := 4) (j := 0) (sl' := [sv room_1, sv weights_2, sv total_3, .at p_found_4, sv rests_22, .any, .any, .any, sv left_25]) (ow1 := [oo p_found_4 found_23]) rfl rfl rfl rfl ?_
      obtain ⟨sd_26, h_sd_26, hf⟩ := bind_some hf
      obtain ⟨found_37, h_tot_34, hf⟩ := bind_some hf
      refine SB.seqB (fun kx_38 => sb_for (β := (Int × Str × Unit)) (Sx := (Dc Str Int)) (fun s => [sv room_1, sv weights_2, sv total_3, .at p_found_4, sv rests_22, .any, .any, .any, sv left_25]) (fun s => [oo p_found_4 s]) (fun x s => [sv room_1, sv weights_2, sv total_3, .at p_found_4, sv rests_22, sv x.2.1, .any, sv x.1, sv left_25]) [7, 5] (fun xs s => forS (m_deal_L2) xs s = some found_37) found_23 (IT.m (it_list (EN.ev (en_sl (EN.ev (en_cb (ea_cons (ev_var (i := 4) rfl) ea_nil) (rc_sortD h_sd_26))) eo_none (eo_some (ev_var (i := 8) rfl)))))) h_tot_34 (.keep (.keep (.keep (.keep (.keep (.keep (.keep (.keep (.keep .nil))))))))) (List.Sublist.refl _) (fun x s => (gt_tup (gts_cons (gt_name rfl) (gts_cons (gt_name rfl) gts_nil)))) ?_ ?_)
      · intro Kn1 b1 x_ rest_ found_27 hP_31 N_ hN_30
        obtain ⟨rest_28, name_29, _⟩ := x_
        obtain ⟨c_, hc_32, hP_31⟩ := bind_some hP_31
        have q_33 := q.base b1
        unfold m_deal_L2 at hc_32
        refine SB.is (sl' := [sv room_1, sv weights_2, sv total_3, .at p_found_4, sv rests_22, sv name_29, .any, sv rest_28, sv left_25]) (ow1 := [oo p_found_4 found_27]) rfl rfl ?_
        obtain ⟨y_35, h_y_35, hc_32⟩ := bind_some hc_32
        obtain ⟨found_36, h_found_36, hc_32⟩ := bind_some hc_32
        refine sb_daug (i := 3) (j := 0) rfl rfl (ev_var (i := 5) rfl) h_y_35 (ev_int 1) h_found_36 (ow1 := [oo p_found_4 found_36]) rfl ?_
        cases hc_32
        exact fun σ Kn H s => hN_30 _ hP_31 σ Kn H ((s.le (.keep (.keep (.keep (.keep (.keep (.drop (.keep (.drop (.keep .nil)))))))))).sub (List.Sublist.refl _))
      · intro s_ h0
        cases h0
        refine kx_38 _ _ ?_
        refine SB.is (sl' := [sv room_1, sv weights_2, sv total_3, .at p_found_4, sv rests_22, .any, .any, .any, sv left_25]) (ow1 := [oo p_found_4 found_37]) rfl rfl ?_
        cases hf
        exact sb_retG (i := 3) (j := 0) rfl rfl q (List.Sublist.cons _ List.Sublist.slnil)
theorem sc_lowest : FnScope ["p", "q", "one", "other"] ["p", "q"] (defScope s_lowest) := ⟨rfl, rfl, rfl, by decide +kernel, rfl, by decide +kernel, by decide +kernel⟩
set_option maxHeartbeats 4000000 in
theorem ok_lowest (T : TX K mg w) : FnOk P w K mg base CX0 1 T.a_lowest T.d_lowest ["p", "q"] (PF (τ := Int × Int × Unit) K (fun t => m_lowest t.1 t.2.1)) := by
  refine T.F_lowest.ok sc_lowest (fun vs H Q E h => ?_) (fun cdv A outer s H vs Q E hr h => ?_)
  · obtain ⟨Kn, t, r, ek, h, hf, q⟩ := h
    exact Tp.len h
  · obtain ⟨Kn, t, r_, ek, h, hf, q⟩ := h
    obtain ⟨p_39, q_40, u_⟩ := t
    obtain ⟨v_0, rr_, rfl, hv_0, h⟩ := h
    obtain ⟨v_1, rr_, rfl, hv_1, h⟩ := h
    obtain rfl := h
    replace hf : m_lowest p_39 q_40 = some r_ := hf
    unfold m_lowest at hf
    refine ⟨_, (pss_cons (ps_par (i := 2) (j := 3) (by rfl) sc_lowest.nd rfl rfl (by decide) rfl rfl (pa_cons (pv 0) (pa_cons (pv 1) pa_nil)) (by rfl))
      (pss_cons (ps_while PassesOwn.never (pt_cmpR op_gt (pv 3) pe_int (nomark _)) (pss_one (ps_par (i := 2) (j := 3) (by rfl) sc_lowest.nd rfl rfl (by decide) rfl rfl (pa_cons (pv 3) (pa_cons (pe_op op_mod (pv 2) (pv 3)) pa_nil)) (by rfl))))
      (pss_one (ps_ret (pe_tup (pa_cons (pe_op op_fdivW (pv 0) (pv 2)) (pa_cons (pe_op op_fdivW (pv 1) (pv 2)) pa_nil))))))), ?_⟩
    refine enter (Kn := Kn) (sl := [sv p_39, sv q_40, .any, .any]) ek ⟨⟨v_0, rfl, hv_0⟩, ⟨v_1, rfl, hv_1⟩, trivial, trivial, trivial⟩ ?_
    have q := rt_of q
    obtain ⟨one_41, h_one_41, hf⟩ := bind_some hf
    obtain ⟨other_42, h_other_42, hf⟩ := bind_some hf
    refine SB.seqB (fun kx_ => sb_par (i := 2) (j := 3) (sl' := [sv p_39, sv q_40, sv one_41, sv other_42]) rfl (ea_cons (EV.cast (ev_var (i := 0) rfl) (Option.some.inj h_one_41)) (ea_cons (EV.cast (ev_var (i := 1) rfl) (Option.some.inj h_other_42)) ea_nil)) (kx_ _ _ ?_))
    obtain ⟨⟨one_53, other_54⟩, h_tot_49, hf⟩ := bind_some hf
    obtain ⟨n0_, h_tot_49⟩ := whileF_some h_tot_49
    refine SB.seqB (fun kx_55 => sb_while (Sx := Int × Int) (fun s => [sv p_39, sv q_40, sv s.1, sv s.2]) (fun s => []) (fun n s => whileS (m_lowest_L1_c) (m_lowest_L1) n s = some (one_53, other_54)) n0_ (one_41, other_42) h_tot_49 (.keep (.keep (.keep (.keep .nil)))) (List.Sublist.refl _) ?_)
    intro n_ s_ hP_46
    obtain ⟨one_43, other_44⟩ := s_
    cases n_ with
    | zero => cases hP_46
    | succ n_ =>
      obtain ⟨b_, ht_, hP_46⟩ := bind_some hP_46
      unfold m_lowest_L1_c at ht_
      cases ht_
      refine ⟨_, ET.is (sl' := [sv p_39, sv q_40, sv one_43, sv other_44]) rfl (et_test (ev_op (ev_var (i := 3) rfl) (ev_int 0) r2_gt)), fun hb_48 N_ hN_45 => ?_, fun hb_48 => ?_⟩
      · have hP_46 := ite_t hb_48 hP_46
        obtain ⟨c_, hc_47, hP_46⟩ := bind_some hP_46
        unfold m_lowest_L1 at hc_47
        refine SB.is (sl' := [sv p_39, sv q_40, sv one_43, sv other_44]) (ow1 := []) rfl rfl ?_
        obtain ⟨r_50, h_r_50, hc_47⟩ := bind_some hc_47
        obtain ⟨one_51, h_one_51, hc_47⟩ := bind_some hc_47
        obtain ⟨other_52, h_other_52, hc_47⟩ := bind_some hc_47
        refine sb_par (i := 2) (j := 3) (sl' := [sv p_39, sv q_40, sv one_51, sv other_52]) rfl (ea_cons (EV.cast (ev_var (i := 3) rfl) (Option.some.inj h_one_51)) (ea_cons (EV.cast (ev_op (ev_var (i := 2) rfl) (ev_var (i := 3) rfl) (r2_modO h_r_50)) (Option.some.inj h_other_52)) ea_nil)) ?_
        cases hc_47
        exact fun σ Kn H s => hN_45 _ _ (Nat.lt_succ_self _) hP_46 σ Kn H ((s.le (.keep (.keep (.keep (.keep .nil))))).sub (List.Sublist.refl _))
      · have hP_46 := ite_f hb_48 hP_46
        cases hP_46
        refine kx_55 _ _ ?_
        refine SB.is (sl' := [sv p_39, sv q_40, sv one_53, sv other_54]) (ow1 := []) rfl rfl ?_
        obtain ⟨q_56, h_q_56, hf⟩ := bind_some hf
        obtain ⟨q_57, h_q_57, hf⟩ := bind_some hf
        cases hf
        exact sb_ret (ev_tup (ea_cons (ev_op (ev_var (i := 0) rfl) (ev_var (i := 2) rfl) (r2_divO h_q_56)) (ea_cons (ev_op (ev_var (i := 1) rfl) (ev_var (i := 2) rfl) (r2_divO h_q_57)) ea_nil))) q (List.Sublist.refl _)
theorem sc_pour : FnScope ["room", "weights", "caps", "found", "name", "still", "full", "total", "chosen"] ["room", "weights", "caps"] (defScope s_pour) := ⟨rfl, rfl, rfl, by decide +kernel, rfl, by decide +kernel, by decide +kernel⟩
set_option maxHeartbeats 4000000 in
theorem ok_pour (T : TX K mg w) : FnOk P w K mg base CX0 2 T.a_pour T.d_pour ["room", "weights", "caps"] (PPG (τ := Int × (Dc Str Int) × (Dc Str Int) × Unit) K (fun t => m_pour t.1 t.2.1 t.2.2.1)) := by
  refine T.F_pour.ok sc_pour (fun vs H Q E h => ?_) (fun cdv A outer s H vs Q E hr h => ?_)
  · obtain ⟨Kn, t, r, ek, h, hf, q⟩ := h
    exact Tp.len h
  · obtain ⟨Kn, t, r_, ek, h, hf, q⟩ := h
    obtain ⟨room_58, weights_59, caps_60, u_⟩ := t
    obtain ⟨v_0, rr_, rfl, hv_0, h⟩ := h
    obtain ⟨v_1, rr_, rfl, hv_1, h⟩ := h
    obtain ⟨v_2, rr_, rfl, hv_2, h⟩ := h
    obtain rfl := h
    replace hf : m_pour room_58 weights_59 caps_60 = some r_ := hf
    unfold m_pour at hf
    refine ⟨_, (pss_cons (ps_set (i := 3) sc_pour.nd rfl (.inl rfl) pe_dnewK)
      (pss_cons (ps_lk (ps_for PassesOwn.never rfl (pi_keys (pv 1)) (pg_name (i := 4) sc_pour.nd rfl (.inl rfl)) (pss_one (k_dput hr.units (pv 3) (pv 4) pe_int rfl))))
      (pss_cons (ps_setLc (i := 5) (own := [("name", 4)]) (g := gName 4) rfl sc_pour.nd rfl rfl (sw_true rfl rfl rfl (by decide +kernel)) (kpi_list (pe_callB k_sortedK (by rfl) T.z_sorted (by decide +kernel) (pa_cons (pv 1) pa_nil))) (blkOk_by (own := [("name", 4)]) (N := ["room", "weights", "caps", "found", "name", "still", "full", "total", "chosen"]) (sc := defScope s_pour) (by decide +kernel)) (fun _ _ _ _ _ => (pg_name (i := 4) sc_pour.nd rfl (Or.inl rfl))) (fun _ _ _ _ _ => pts_one (pt_cmpR op_gt (k_dget hr.units (pv 1) (pv 4) (fun _ _ => rfl)) pe_int (nomark _))) (fun _ _ _ _ _ => (pv 4)))
      (pss_cons (ps_if (pt_cmpR op_ge (pv 0) (pe_callB k_sum (by rfl) T.z_sum (by decide +kernel) (pa_cons (pe_lc (own := [("name", 4)]) (g := gName 4) (tt := tYes) (by rfl) sc_pour.nd (kpi_list (pv 5)) (blkOk_by (own := [("name", 4)]) (N := ["room", "weights", "caps", "found", "name", "still", "full", "total", "chosen"]) (sc := defScope s_pour) (by decide +kernel)) (fun _ _ _ _ _ => (pg_name (i := 4) sc_pour.nd rfl (Or.inl rfl))) (fun _ _ _ _ _ => pts_nil) (fun _ _ _ _ _ => (k_dget hr.units (pv 2) (pv 4) (fun _ _ => rfl)))) pa_nil)) (nomark _)) (pss_cons (ps_for PassesOwn.never rfl (kpi_list (pv 5)) (pg_name (i := 4) sc_pour.nd rfl (.inl rfl)) (pss_one (k_dput hr.units (pv 3) (pv 4) (k_dget hr.units (pv 2) (pv 4) (fun _ _ => rfl)) rfl)))
      (pss_one (ps_ret (pe_tup (pa_cons (pv 3) (pa_cons pe_non pa_nil)))))) pss_nil)
      (pss_cons (ps_set (i := 6) sc_pour.nd rfl (.inr rfl) (pe_lc (own := [("name", 4)]) (g := gName 4) (by rfl) sc_pour.nd (kpi_list (pv 5)) (blkOk_by (own := [("name", 4)]) (N := ["room", "weights", "caps", "found", "name", "still", "full", "total", "chosen"]) (sc := defScope s_pour) (by decide +kernel)) (fun _ _ _ _ _ => (pg_name (i := 4) sc_pour.nd rfl (Or.inl rfl))) (fun _ _ _ _ _ => pts_one (pt_cmpR op_eq (k_dget hr.units (pv 2) (pv 4) (fun _ _ => rfl)) pe_int (nomark _))) (fun _ _ _ _ _ => (pv 4))))
      (pss_cons (ps_set (i := 7) sc_pour.nd rfl (.inr rfl) pe_int)
      (pss_cons (ps_while PassesOwn.never (PW.pt (pw_or (pt_cmpR (k_neD hr.units) (pv 6) (pe_lst pa_nil) (nomark _)) (pw_or1 (pt_cmpR op_eq (pv 7) pe_int (nomark _))))) (pss_cons (ps_for PassesOwn.never rfl (kpi_list (pv 6)) (pg_name (i := 4) sc_pour.nd rfl (.inl rfl)) (pss_cons (k_dput hr.units (pv 3) (pv 4) (k_dget hr.units (pv 2) (pv 4) (fun _ _ => rfl)) rfl)
      (pss_one (ps_aug (i := 0) sc_pour.nd rfl (.inr rfl) (k_dget hr.units (pv 2) (pv 4) (fun _ _ => rfl)) ip_sub))))
      (pss_cons (ps_setLc (i := 5) (own := [("name", 4)]) (g := gName 4) rfl sc_pour.nd rfl rfl (sw_true rfl rfl rfl (by decide +kernel)) (kpi_list (pv 5)) (blkOk_by (own := [("name", 4)]) (N := ["room", "weights", "caps", "found", "name", "still", "full", "total", "chosen"]) (sc := defScope s_pour) (by decide +kernel)) (fun _ _ _ _ _ => (pg_name (i := 4) sc_pour.nd rfl (Or.inl rfl))) (fun _ _ _ _ _ => pts_one (pt_cmpR k_notIn (pv 4) (pv 6) (by rfl))) (fun _ _ _ _ _ => (pv 4)))
      (pss_cons (ps_set (i := 7) sc_pour.nd rfl (.inr rfl) (pe_callB k_sum (by rfl) T.z_sum (by decide +kernel) (pa_cons (pe_lc (own := [("name", 4)]) (g := gName 4) (tt := tYes) (by rfl) sc_pour.nd (kpi_list (pv 5)) (blkOk_by (own := [("name", 4)]) (N := ["room", "weights", "caps", "found", "name", "still", "full", "total", "chosen"]) (sc := defScope s_pour) (by decide +kernel)) (fun _ _ _ _ _ => (pg_name (i := 4) sc_pour.nd rfl (Or.inl rfl))) (fun _ _ _ _ _ => pts_nil) (fun _ _ _ _ _ => (k_dget hr.units (pv 1) (pv 4) (fun _ _ => rfl)))) pa_nil)))
      (pss_one (ps_set (i := 6) sc_pour.nd rfl (.inr rfl) (pe_lc (own := [("name", 4)]) (g := gName 4) (by rfl) sc_pour.nd (kpi_list (pv 5)) (blkOk_by (own := [("name", 4)]) (N := ["room", "weights", "caps", "found", "name", "still", "full", "total", "chosen"]) (sc := defScope s_pour) (by decide +kernel)) (fun _ _ _ _ _ => (pg_name (i := 4) sc_pour.nd rfl (Or.inl rfl))) (fun _ _ _ _ _ => pts_one (pt_cmpR op_le (pe_op op_mul (k_dget hr.units (pv 2) (pv 4) (fun _ _ => rfl)) (pv 7)) (pe_op op_mul (pv 0) (k_dget hr.units (pv 1) (pv 4) (fun _ _ => rfl))) (nomark _))) (fun _ _ _ _ _ => (pv 4)))))))))
      (pss_cons (ps_set (i := 8) sc_pour.nd rfl (.inl rfl) pe_dnewK)
      (pss_cons (ps_for PassesOwn.never rfl (kpi_list (pv 5)) (pg_name (i := 4) sc_pour.nd rfl (.inl rfl)) (pss_one (k_dput hr.units (pv 8) (pv 4) (k_dget hr.units (pv 1) (pv 4) (fun _ _ => rfl)) rfl)))
      (pss_cons (ps_expr (pe_bm PySem.F.plainAttrs_dict PySem.F.slot_dict_update PySem.F.type_dict_update mt_updK (pv 3) (pa_cons (pe_call (ok_deal T) hr (by rfl) T.g_deal T.F_deal.kp T.b_deal .nil pass0 (pa_cons (pv 0) (pa_cons (pv 8) pa_nil))) pa_nil)))
      (pss_one (ps_ret (pe_tup (pa_cons (pv 3) (pa_cons (pe_call (ok_lowest T) hr (by rfl) T.g_lowest T.F_lowest.kp T.b_lowest .nil pass0 (pa_cons (pv 0) (pa_cons (pv 7) pa_nil))) pa_nil))))))))))))))), ?_⟩
    refine enter (Kn := Kn) (sl := [sv room_58, sv weights_59, sv caps_60, .any, .any, .any, .any, .any, .any]) ek ⟨⟨v_0, rfl, hv_0⟩, ⟨v_1, rfl, hv_1⟩, ⟨v_2, rfl, hv_2⟩, trivial, trivial, trivial, trivial, trivial, trivial, trivial⟩ ?_
    have q := rnpg_of q
    refine SB.seqB (fun kx_ => sb_dnewK (κ := Str) (β := Int) (sl' := fun p_found_61 => [sv room_58, sv weights_59, sv caps_60, .at p_found_61, .any, .any, .any, .any, .any]) rfl (fun _ => rfl) (fun p_found_61 => (kx_ _ _ ?_)))
    obtain ⟨found_70, h_tot_68, hf⟩ := bind_some hf
    refine SB.seqB (fun kx_71 => sb_forD (dit_keys (i := 1)) rfl (Sx := (Dc Str Int)) (fun s => [sv room_58, sv weights_59, sv caps_60, .at p_found_61, .any, .any, .any, .any, .any]) (fun s => [oo p_found_61 s]) (fun x s => [sv room_58, sv weights_59, sv caps_60, .at p_found_61, sv x, .any, .any, .any, .any]) [4] (fun xs s => forS (m_pour_L1) xs s = some found_70) (Dc.mk ([] : List (Str × Int))) h_tot_68 (.keep (.keep (.keep (.keep (.keep (.keep (.keep (.keep (.keep .nil))))))))) (List.Sublist.refl _) (fun x s => (gt_name rfl)) ?_ ?_)
    · intro F1_ Kn1 R1_ mv_ bk_ name_63 rest_ found_62 hP_65 N_ hN_64
      obtain ⟨c_, hc_66, hP_65⟩ := bind_some hP_65
      have q_67 := q.mv mv_
      unfold m_pour_L1 at hc_66
      refine SB.is (sl' := [sv room_58, sv weights_59, sv caps_60, .at p_found_61, sv name_63, .any, .any, .any, .any]) (ow1 := [oo p_found_61 found_62]) rfl rfl ?_
      obtain ⟨found_69, h_found_69, hc_66⟩ := bind_some hc_66
      refine sb_dput (i := 3) (j := 0) rfl rfl (ev_int 0) (ev_var (i := 4) rfl) h_found_69 (ow1 := [oo p_found_61 found_69]) rfl ?_
      cases hc_66
      exact fun σ Kn H s => hN_64 _ hP_65 σ Kn H ((s.le (.keep (.keep (.keep (.keep (.drop (.keep (.keep (.keep (.keep .nil)))))))))).sub (List.Sublist.refl _))
    · intro s_ h0
      cases h0
      refine kx_71 _ _ ?_
      refine SB.is (sl' := [sv room_58, sv weights_59, sv caps_60, .at p_found_61, .any, .any, .any, .any, .any]) (ow1 := [oo p_found_61 found_70]) rfl rfl ?_
      obtain ⟨sk_72, h_sk_72, hf⟩ := bind_some hf
      obtain ⟨zs_74, h_zs_74, hf⟩ := bind_some hf
      obtain ⟨still_76, h_still_76, hf⟩ := bind_some hf
      refine SB.seqB (fun kx_ => sb_asg (sl' := [sv room_58, sv weights_59, sv caps_60, .at p_found_61, .any, sv still_76, .any, .any, .any]) rfl (EV.cast (EN.ev (en_lc (js := [4]) (fun x => [sv room_58, sv weights_59, sv caps_60, .at p_found_61, sv x, .any, .any, .any, .any]) h_zs_74 (it_list (EN.ev (en_cb (ea_cons (ev_var (i := 1) rfl) ea_nil) (rc_sortK h_sk_72)))) (anyAt_of (by rfl)) (fun x => (gt_name rfl)) (sub_of (by rfl)) (fun _ _ x b h => by obtain ⟨name_73, hx_⟩ : ∃ y, y = x := ⟨x, rfl⟩; subst hx_; obtain ⟨i_75, h_i_75, h⟩ := bind_some h; have hz_ := Option.some.inj h; subst hz_; exact ET.is (sl' := [sv room_58, sv weights_59, sv caps_60, .at p_found_61, sv name_73, .any, .any, .any, .any]) rfl (et_test (ev_op (ev_dget (ev_var (i := 1) rfl) (ev_var (i := 4) rfl) h_i_75) (ev_int 0) r2_gt))) (fun _ _ x z _ h => by obtain ⟨name_73, hx_⟩ : ∃ y, y = x := ⟨x, rfl⟩; subst hx_; have hz_ := Option.some.inj h; subst hz_; exact EV.is (sl' := [sv room_58, sv weights_59, sv caps_60, .at p_found_61, sv name_73, .any, .any, .any, .any]) rfl (ev_var (i := 4) rfl)))) (Option.some.inj h_still_76)) (kx_ _ _ ?_))
      obtain ⟨zs_79, h_zs_79, hf⟩ := bind_some hf
      refine SB.seqB (fun kx_82 => sb_if (b := (decide ((zs_79).sum ≤ room_58))) (et_test (ev_op (ev_var (i := 0) rfl) (ev_cb (ea_cons (EN.ev (en_lc (js := [4]) (fun x => [sv room_58, sv weights_59, sv caps_60, .at p_found_61, sv x, sv still_76, .any, .any, .any]) h_zs_79 (it_list (ev_var (i := 5) rfl)) (anyAt_of (by rfl)) (fun x => (gt_name rfl)) (sub_of (by rfl)) (fun _ _ x b h => by cases h; exact et_yes) (fun _ _ x z _ h => by obtain ⟨name_78, hx_⟩ : ∃ y, y = x := ⟨x, rfl⟩; subst hx_; obtain ⟨i_80, h_i_80, h⟩ := bind_some h; have hz_ := Option.some.inj h; subst hz_; exact EV.is (sl' := [sv room_58, sv weights_59, sv caps_60, .at p_found_61, sv name_78, sv still_76, .any, .any, .any]) rfl (ev_dget (ev_var (i := 2) rfl) (ev_var (i := 4) rfl) h_i_80)))) ea_nil) rc_sum) r2_ge)) (fun hb_81 => ?_) (fun hb_81 => ?_))
      · have hf := ite_t hb_81 hf
        obtain ⟨found_92, h_tot_89, hf⟩ := bind_some hf
        refine SB.seqB (fun kx_93 => sb_for (β := Str) (Sx := (Dc Str Int)) (fun s => [sv room_58, sv weights_59, sv caps_60, .at p_found_61, .any, sv still_76, .any, .any, .any]) (fun s => [oo p_found_61 s]) (fun x s => [sv room_58, sv weights_59, sv caps_60, .at p_found_61, sv x, sv still_76, .any, .any, .any]) [4] (fun xs s => forS (m_pour_L2 caps_60) xs s = some found_92) found_70 (IT.m (it_list (ev_var (i := 5) rfl))) h_tot_89 (.keep (.keep (.keep (.keep (.keep (.keep (.keep (.keep (.keep .nil))))))))) (List.Sublist.refl _) (fun x s => (gt_name rfl)) ?_ ?_)
        · intro Kn1 b1 name_84 rest_ found_83 hP_86 N_ hN_85
          obtain ⟨c_, hc_87, hP_86⟩ := bind_some hP_86
          have q_88 := q.base b1
          unfold m_pour_L2 at hc_87
          refine SB.is (sl' := [sv room_58, sv weights_59, sv caps_60, .at p_found_61, sv name_84, sv still_76, .any, .any, .any]) (ow1 := [oo p_found_61 found_83]) rfl rfl ?_
          obtain ⟨i_90, h_i_90, hc_87⟩ := bind_some hc_87
          obtain ⟨found_91, h_found_91, hc_87⟩ := bind_some hc_87
          refine sb_dput (i := 3) (j := 0) rfl rfl (ev_dget (ev_var (i := 2) rfl) (ev_var (i := 4) rfl) h_i_90) (ev_var (i := 4) rfl) h_found_91 (ow1 := [oo p_found_61 found_91]) rfl ?_
          cases hc_87
          exact fun σ Kn H s => hN_85 _ hP_86 σ Kn H ((s.le (.keep (.keep (.keep (.keep (.drop (.keep (.keep (.keep (.keep .nil)))))))))).sub (List.Sublist.refl _))
        · intro s_ h0
          cases h0
          refine kx_93 _ _ ?_
          refine SB.is (sl' := [sv room_58, sv weights_59, sv caps_60, .at p_found_61, .any, sv still_76, .any, .any, .any]) (ow1 := [oo p_found_61 found_92]) rfl rfl ?_
          cases hf
          exact sb_retPG (i := 3) (j := 0) rfl rfl ev_none q (List.Sublist.cons _ List.Sublist.slnil)
      · have hf := ite_f hb_81 hf
        refine sb_nx ?_
        refine kx_82 _ _ ?_
        obtain ⟨zs_95, h_zs_95, hf⟩ := bind_some hf
        obtain ⟨full_97, h_full_97, hf⟩ := bind_some hf
        refine SB.seqB (fun kx_ => sb_asg (sl' := [sv room_58, sv weights_59, sv caps_60, .at p_found_61, .any, sv still_76, sv full_97, .any, .any]) rfl (EV.cast (EN.ev (en_lc (js := [4]) (fun x => [sv room_58, sv weights_59, sv caps_60, .at p_found_61, sv x, sv still_76, .any, .any, .any]) h_zs_95 (it_list (ev_var (i := 5) rfl)) (anyAt_of (by rfl)) (fun x => (gt_name rfl)) (sub_of (by rfl)) (fun _ _ x b h => by obtain ⟨name_94, hx_⟩ : ∃ y, y = x := ⟨x, rfl⟩; subst hx_; obtain ⟨i_96, h_i_96, h⟩ := bind_some h; have hz_ := Option.some.inj h; subst hz_; exact ET.is (sl' := [sv room_58, sv weights_59, sv caps_60, .at p_found_61, sv name_94, sv still_76, .any, .any, .any]) rfl (et_test (ev_op (ev_dget (ev_var (i := 2) rfl) (ev_var (i := 4) rfl) h_i_96) (ev_int 0) r2_eqI))) (fun _ _ x z _ h => by obtain ⟨name_94, hx_⟩ : ∃ y, y = x := ⟨x, rfl⟩; subst hx_; have hz_ := Option.some.inj h; subst hz_; exact EV.is (sl' := [sv room_58, sv weights_59, sv caps_60, .at p_found_61, sv name_94, sv still_76, .any, .any, .any]) rfl (ev_var (i := 4) rfl)))) (Option.some.inj h_full_97)) (kx_ _ _ ?_))
        obtain ⟨total_98, h_total_98, hf⟩ := bind_some hf
        refine SB.seqB (fun kx_ => sb_asg (sl' := [sv room_58, sv weights_59, sv caps_60, .at p_found_61, .any, sv still_76, sv full_97, sv total_98, .any]) rfl (EV.cast (ev_int 0) (Option.some.inj h_total_98)) (kx_ _ _ ?_))
        obtain ⟨⟨room_139, still_140, full_141, total_142, found_143⟩, h_tot_109, hf⟩ := bind_some hf
        obtain ⟨n0_, h_tot_109⟩ := whileF_some h_tot_109
        refine SB.seqB (fun kx_144 => sb_while (Sx := Int × (List Str) × (List Str) × Int × (Dc Str Int)) (fun s => [sv s.1, sv weights_59, sv caps_60, .at p_found_61, .any, sv s.2.1, sv s.2.2.1, sv s.2.2.2.1, .any]) (fun s => [oo p_found_61 s.2.2.2.2]) (fun n s => whileS (m_pour_L3_c weights_59 caps_60) (m_pour_L3 weights_59 caps_60) n s = some (room_139, still_140, full_141, total_142, found_143)) n0_ (room_58, still_76, full_97, total_98, found_70) h_tot_109 (.keep (.keep (.keep (.keep (.keep (.keep (.keep (.keep (.keep .nil))))))))) (List.Sublist.refl _) ?_)
        intro n_ s_ hP_106
        obtain ⟨room_99, still_100, full_101, total_102, found_103⟩ := s_
        cases n_ with
        | zero => cases hP_106
        | succ n_ =>
          obtain ⟨b_, ht_, hP_106⟩ := bind_some hP_106
          unfold m_pour_L3_c at ht_
          obtain ⟨e_104, h_e_104, ht_⟩ := bind_some ht_
          cases ht_
          refine ⟨_, ET.is (sl' := [sv room_99, sv weights_59, sv caps_60, .at p_found_61, .any, sv still_100, sv full_101, sv total_102, .any]) rfl (et_or (et_test (ev_op (ev_var (i := 6) rfl) (EN.ev (en_lst el_nil)) (r2_neO h_e_104))) (fun _ => (et_test (ev_op (ev_var (i := 7) rfl) (ev_int 0) r2_eqI)))), fun hb_108 N_ hN_105 => ?_, fun hb_108 => ?_⟩
          · have hP_106 := ite_t hb_108 hP_106
            obtain ⟨c_, hc_107, hP_106⟩ := bind_some hP_106
            unfold m_pour_L3 at hc_107
            refine SB.is (sl' := [sv room_99, sv weights_59, sv caps_60, .at p_found_61, .any, sv still_100, sv full_101, sv total_102, .any]) (ow1 := [oo p_found_61 found_103]) rfl rfl ?_
            obtain ⟨⟨room_122, found_123⟩, h_tot_117, hc_107⟩ := bind_some hc_107
            refine SB.seqB (fun kx_124 => sb_for (β := Str) (Sx := Int × (Dc Str Int)) (fun s => [sv s.1, sv weights_59, sv caps_60, .at p_found_61, .any, sv still_100, sv full_101, sv total_102, .any]) (fun s => [oo p_found_61 s.2]) (fun x s => [sv s.1, sv weights_59, sv caps_60, .at p_found_61, sv x, sv still_100, sv full_101, sv total_102, .any]) [4] (fun xs s => forS (m_pour_L4 caps_60) xs s = some (room_122, found_123)) (room_99, found_103) (IT.m (it_list (ev_var (i := 6) rfl))) h_tot_117 (.keep (.keep (.keep (.keep (.keep (.keep (.keep (.keep (.keep .nil))))))))) (List.Sublist.refl _) (fun x s => (gt_name rfl)) ?_ ?_)
            · intro Kn1 b1 name_112 rest_ s_ hP_114 N_ hN_113
              obtain ⟨room_110, found_111⟩ := s_
              obtain ⟨c_, hc_115, hP_114⟩ := bind_some hP_114
              have q_116 := q.base b1
              unfold m_pour_L4 at hc_115
              refine SB.is (sl' := [sv room_110, sv weights_59, sv caps_60, .at p_found_61, sv name_112, sv still_100, sv full_101, sv total_102, .any]) (ow1 := [oo p_found_61 found_111]) rfl rfl ?_
              obtain ⟨i_118, h_i_118, hc_115⟩ := bind_some hc_115
              obtain ⟨found_119, h_found_119, hc_115⟩ := bind_some hc_115
              refine SB.seqB (fun kx_ => sb_dput (i := 3) (j := 0) rfl rfl (ev_dget (ev_var (i := 2) rfl) (ev_var (i := 4) rfl) h_i_118) (ev_var (i := 4) rfl) h_found_119 (ow1 := [oo p_found_61 found_119]) rfl (kx_ _ _ ?_))
              obtain ⟨i_120, h_i_120, hc_115⟩ := bind_some hc_115
              obtain ⟨room_121, h_room_121, hc_115⟩ := bind_some hc_115
              have h_room_121 := Option.some.inj h_room_121
              refine sb_aug (i := 0) (a := room_110) (c := i_120) (sl' := [sv room_121, sv weights_59, sv caps_60, .at p_found_61, sv name_112, sv still_100, sv full_101, sv total_102, .any]) rfl (h_room_121 ▸ rfl) (ev_dget (ev_var (i := 2) rfl) (ev_var (i := 4) rfl) h_i_120) ?_
              cases hc_115
              exact fun σ Kn H s => hN_113 _ hP_114 σ Kn H ((s.le (.keep (.keep (.keep (.keep (.drop (.keep (.keep (.keep (.keep .nil)))))))))).sub (List.Sublist.refl _))
            · intro s_ h0
              cases h0
              refine kx_124 _ _ ?_
              refine SB.is (sl' := [sv room_122, sv weights_59, sv caps_60, .at p_found_61, .any, sv still_100, sv full_101, sv total_102, .any]) (ow1 := [oo p_found_61 found_123]) rfl rfl ?_
              obtain ⟨zs_126, h_zs_126, hc_107⟩ := bind_some hc_107
              obtain ⟨still_127, h_still_127, hc_107⟩ := bind_some hc_107
              refine SB.seqB (fun kx_ => sb_asg (sl' := [sv room_122, sv weights_59, sv caps_60, .at p_found_61, .any, sv still_127, sv full_101, sv total_102, .any]) rfl (EV.cast (EN.ev (en_lc (js := [4]) (fun x => [sv room_122, sv weights_59, sv caps_60, .at p_found_61, sv x, sv still_100, sv full_101, sv total_102, .any]) h_zs_126 (it_list (ev_var (i := 5) rfl)) (anyAt_of (by rfl)) (fun x => (gt_name rfl)) (sub_of (by rfl)) (fun _ _ x b h => by obtain ⟨name_125, hx_⟩ : ∃ y, y = x := ⟨x, rfl⟩; subst hx_; have hz_ := Option.some.inj h; subst hz_; exact ET.is (sl' := [sv room_122, sv weights_59, sv caps_60, .at p_found_61, sv name_125, sv still_100, sv full_101, sv total_102, .any]) rfl (et_test (ev_op (ev_var (i := 4) rfl) (ev_var (i := 6) rfl) r2_notIn))) (fun _ _ x z _ h => by obtain ⟨name_125, hx_⟩ : ∃ y, y = x := ⟨x, rfl⟩; subst hx_; have hz_ := Option.some.inj h; subst hz_; exact EV.is (sl' := [sv room_122, sv weights_59, sv caps_60, .at p_found_61, sv name_125, sv still_100, sv full_101, sv total_102, .any]) rfl (ev_var (i := 4) rfl)))) (Option.some.inj h_still_127)) (kx_ _ _ ?_))
              obtain ⟨zs_129, h_zs_129, hc_107⟩ := bind_some hc_107
              obtain ⟨total_131, h_total_131, hc_107⟩ := bind_some hc_107
              refine SB.seqB (fun kx_ => sb_asg (sl' := [sv room_122, sv weights_59, sv caps_60, .at p_found_61, .any, sv still_127, sv full_101, sv total_131, .any]) rfl (EV.cast (ev_cb (ea_cons (EN.ev (en_lc (js := [4]) (fun x => [sv room_122, sv weights_59, sv caps_60, .at p_found_61, sv x, sv still_127, sv full_101, sv total_102, .any]) h_zs_129 (it_list (ev_var (i := 5) rfl)) (anyAt_of (by rfl)) (fun x => (gt_name rfl)) (sub_of (by rfl)) (fun _ _ x b h => by cases h; exact et_yes) (fun _ _ x z _ h => by obtain ⟨name_128, hx_⟩ : ∃ y, y = x := ⟨x, rfl⟩; subst hx_; obtain ⟨i_130, h_i_130, h⟩ := bind_some h; have hz_ := Option.some.inj h; subst hz_; exact EV.is (sl' := [sv room_122, sv weights_59, sv caps_60, .at p_found_61, sv name_128, sv still_127, sv full_101, sv total_102, .any]) rfl (ev_dget (ev_var (i := 1) rfl) (ev_var (i := 4) rfl) h_i_130)))) ea_nil) rc_sum) (Option.some.inj h_total_131)) (kx_ _ _ ?_))
              obtain ⟨zs_133, h_zs_133, hc_107⟩ := bind_some hc_107
              obtain ⟨full_138, h_full_138, hc_107⟩ := bind_some hc_107
              refine sb_asg (sl' := [sv room_122, sv weights_59, sv caps_60, .at p_found_61, .any, sv still_127, sv full_138, sv total_131, .any]) rfl (EV.cast (EN.ev (en_lc (js := [4]) (fun x => [sv room_122, sv weights_59, sv caps_60, .at p_found_61, sv x, sv still_127, sv full_101, sv total_131, .any]) h_zs_133 (it_list (ev_var (i := 5) rfl)) (anyAt_of (by rfl)) (fun x => (gt_name rfl)) (sub_of (by rfl)) (fun _ _ x b h => by obtain ⟨name_132, hx_⟩ : ∃ y, y = x := ⟨x, rfl⟩; subst hx_; obtain ⟨i_134, h_i_134, h⟩ := bind_some h; obtain ⟨m_135, h_m_135, h⟩ := bind_some h; obtain ⟨i_136, h_i_136, h⟩ := bind_some h; obtain ⟨m_137, h_m_137, h⟩ := bind_some h; have hz_ := Option.some.inj h; subst hz_; exact ET.is (sl' := [sv room_122, sv weights_59, sv caps_60, .at p_found_61, sv name_132, sv still_127, sv full_101, sv total_131, .any]) rfl (et_test (ev_op (ev_op (ev_dget (ev_var (i := 2) rfl) (ev_var (i := 4) rfl) h_i_134) (ev_var (i := 7) rfl) (r2_mulO h_m_135)) (ev_op (ev_var (i := 0) rfl) (ev_dget (ev_var (i := 1) rfl) (ev_var (i := 4) rfl) h_i_136) (r2_mulO h_m_137)) r2_le))) (fun _ _ x z _ h => by obtain ⟨name_132, hx_⟩ : ∃ y, y = x := ⟨x, rfl⟩; subst hx_; have hz_ := Option.some.inj h; subst hz_; exact EV.is (sl' := [sv room_122, sv weights_59, sv caps_60, .at p_found_61, sv name_132, sv still_127, sv full_101, sv total_131, .any]) rfl (ev_var (i := 4) rfl)))) (Option.some.inj h_full_138)) ?_
              cases hc_107
              exact fun σ Kn H s => hN_105 _ _ (Nat.lt_succ_self _) hP_106 σ Kn H ((s.le (.keep (.keep (.keep (.keep (.keep (.keep (.keep (.keep (.keep .nil)))))))))).sub (List.Sublist.refl _))
          · have hP_106 := ite_f hb_108 hP_106
            cases hP_106
            refine kx_144 _ _ ?_
            refine SB.is (sl' := [sv room_139, sv weights_59, sv caps_60, .at p_found_61, .any, sv still_140, sv full_141, sv total_142, .any]) (ow1 := [oo p_found_61 found_143]) rfl rfl ?_
            refine SB.seqB (fun kx_ => sb_dnewK (κ := Str) (β := Int) (sl' := fun p_chosen_145 => [sv room_139, sv weights_59, sv caps_60, .at p_found_61, .any, sv still_140, sv full_141, sv total_142, .at p_chosen_145]) rfl (fun _ => rfl) (fun p_chosen_145 => (kx_ _ _ ?_)))
            obtain ⟨chosen_155, h_tot_152, hf⟩ := bind_some hf
            refine SB.seqB (fun kx_156 => sb_for (β := Str) (Sx := (Dc Str Int)) (fun s => [sv room_139, sv weights_59, sv caps_60, .at p_found_61, .any, sv still_140, sv full_141, sv total_142, .at p_chosen_145]) (fun s => [oo p_chosen_145 s, oo p_found_61 found_143]) (fun x s => [sv room_139, sv weights_59, sv caps_60, .at p_found_61, sv x, sv still_140, sv full_141, sv total_142, .at p_chosen_145]) [4] (fun xs s => forS (m_pour_L5 weights_59) xs s = some chosen_155) (Dc.mk ([] : List (Str × Int))) (IT.m (it_list (ev_var (i := 5) rfl))) h_tot_152 (.keep (.keep (.keep (.keep (.keep (.keep (.keep (.keep (.keep .nil))))))))) (List.Sublist.refl _) (fun x s => (gt_name rfl)) ?_ ?_)
            · intro Kn1 b1 name_147 rest_ chosen_146 hP_149 N_ hN_148
              obtain ⟨c_, hc_150, hP_149⟩ := bind_some hP_149
              have q_151 := q.base b1
              unfold m_pour_L5 at hc_150
              refine SB.is (sl' := [sv room_139, sv weights_59, sv caps_60, .at p_found_61, sv name_147, sv still_140, sv full_141, sv total_142, .at p_chosen_145]) (ow1 := [oo p_chosen_145 chosen_146, oo p_found_61 found_143]) rfl rfl ?_
              obtain ⟨i_153, h_i_153, hc_150⟩ := bind_some hc_150
              obtain ⟨chosen_154, h_chosen_154, hc_150⟩ := bind_some hc_150
              refine sb_dput (i := 8) (j := 0) rfl rfl (ev_dget (ev_var (i := 1) rfl) (ev_var (i := 4) rfl) h_i_153) (ev_var (i := 4) rfl) h_chosen_154 (ow1 := [oo p_chosen_145 chosen_154, oo p_found_61 found_143]) rfl ?_
              cases hc_150
              exact fun σ Kn H s => hN_148 _ hP_149 σ Kn H ((s.le (.keep (.keep (.keep (.keep (.drop (.keep (.keep (.keep (.keep .nil)))))))))).sub (List.Sublist.refl _))
            · intro s_ h0
              cases h0
              refine kx_156 _ _ ?_
              refine SB.is (sl' := [sv room_139, sv weights_59, sv caps_60, .at p_found_61, .any, sv still_140, sv full_141, sv total_142, .at p_chosen_145]) (ow1 := [oo p_chosen_145 chosen_155, oo p_found_61 found_143]) rfl rfl ?_
              refine sb_freezeG (i := 8) (j := 0) (sl' := [sv room_139, sv weights_59, sv caps_60, .at p_found_61, .any, sv still_140, sv full_141, sv total_142, sv chosen_155]) (ow1 := [oo p_found_61 found_143]) rfl rfl rfl rfl ?_
              obtain ⟨r_157, h_r_157, hf⟩ := bind_some hf
              obtain ⟨found_158, h_found_158, hf⟩ := bind_some hf
              refine SB.seqB (fun kx_ => sb_updK (i := 3) (j := 0) rfl rfl (EG.ev (eg_call (ea_cons (ev_var (i := 0) rfl) (ea_cons (ev_var (i := 8) rfl) ea_nil)) h_r_157)) h_found_158 (ow1 := [oo p_found_61 found_158]) rfl (kx_ _ _ ?_))
              obtain ⟨r_159, h_r_159, hf⟩ := bind_some hf
              cases hf
              exact sb_retPG (i := 3) (j := 0) rfl rfl (ev_some (ev_call (ea_cons (ev_var (i := 0) rfl) (ea_cons (ev_var (i := 7) rfl) ea_nil)) h_r_159)) q (List.Sublist.cons _ List.Sublist.slnil)
theorem sc_dealt : FnScope ["room", "weights", "sizes", "total", "more", "others", "name", "part", "rest"] ["room", "weights", "sizes"] (defScope s_dealt) := ⟨rfl, rfl, rfl, by decide +kernel, rfl, by decide +kernel, by decide +kernel⟩
set_option maxHeartbeats 4000000 in
theorem ok_dealt (T : TX K mg w) : FnOk P w K mg base CX0 1 T.a_dealt T.d_dealt ["room", "weights", "sizes"] (PF (τ := Int × (Dc Str Int) × (Dc Str Int) × Unit) K (fun t => m_dealt t.1 t.2.1 t.2.2.1)) := by
  refine T.F_dealt.ok sc_dealt (fun vs H Q E h => ?_) (fun cdv A outer s H vs Q E hr h => ?_)
  · obtain ⟨Kn, t, r, ek, h, hf, q⟩ := h
    exact Tp.len h
  · obtain ⟨Kn, t, r_, ek, h, hf, q⟩ := h
    obtain ⟨room_160, weights_161, sizes_162, u_⟩ := t
    obtain ⟨v_0, rr_, rfl, hv_0, h⟩ := h
    obtain ⟨v_1, rr_, rfl, hv_1, h⟩ := h
    obtain ⟨v_2, rr_, rfl, hv_2, h⟩ := h
    obtain rfl := h
    replace hf : m_dealt room_160 weights_161 sizes_162 = some r_ := hf
    unfold m_dealt at hf
    refine ⟨_, (pss_cons (ps_set (i := 3) sc_dealt.nd rfl (.inl rfl) (pe_sumVals rfl (by rfl) T.z_sum (pv 1)))
      (pss_cons (ps_set (i := 4) sc_dealt.nd rfl (.inl rfl) (pe_lst pa_nil))
      (pss_cons (ps_set (i := 5) sc_dealt.nd rfl (.inl rfl) (pe_lst pa_nil))
      (pss_cons (ps_lk (ps_for PassesOwn.never rfl (pi_keys (pv 1)) (pg_name (i := 6) sc_dealt.nd rfl (.inl rfl)) (pss_cons (ps_asg (pe_callB call_divmod (by rfl) T.z_divmod (by decide +kernel) (pa_cons (pe_op op_mul (pv 0) (k_dget hr.units (pv 1) (pv 6) (fun _ _ => rfl))) (pa_cons (pv 3) pa_nil))) (kpg_tup (pgs_cons (pg_name (i := 7) sc_dealt.nd rfl (.inl rfl)) (pgs_cons (pg_name (i := 8) sc_dealt.nd rfl (.inl rfl)) pgs_nil))))
      (pss_one (ps_if (pt_cmpR op_eq (k_dget hr.units (pv 2) (pv 6) (fun _ _ => rfl)) (pe_op op_add (pv 7) pe_int) (nomark _)) (pss_one (ps_expr (pe_bm PySem.F.plainAttrs_list PySem.F.slot_list_append PySem.F.type_list_append mt_append (pv 4) (pa_cons (pe_tup (pa_cons (pe_un un_neg (pv 8)) (pa_cons (pv 6) pa_nil))) pa_nil)))) (pss_one (ps_if (pt_cmpR op_eq (k_dget hr.units (pv 2) (pv 6) (fun _ _ => rfl)) (pv 7) (nomark _)) (pss_one (ps_expr (pe_bm PySem.F.plainAttrs_list PySem.F.slot_list_append PySem.F.type_list_append mt_append (pv 5) (pa_cons (pe_tup (pa_cons (pe_un un_neg (pv 8)) (pa_cons (pv 6) pa_nil))) pa_nil)))) (pss_one (ps_ret pe_bl)))))))))
      (pss_cons (ps_if (pt_cmpR op_ne (pe_callB k_sum (by rfl) T.z_sum (by decide +kernel) (pa_cons (pe_lk (pe_lc (own := [("name", 6)]) (g := gName 6) (tt := tYes) (by rfl) sc_dealt.nd (pi_keys (pv 1)) (blkOk_by (own := [("name", 6)]) (N := ["room", "weights", "sizes", "total", "more", "others", "name", "part", "rest"]) (sc := defScope s_dealt) (by decide +kernel)) (fun _ _ _ _ _ => (pg_name (i := 6) sc_dealt.nd rfl (Or.inl rfl))) (fun _ _ _ _ _ => pts_nil) (fun _ _ _ _ _ => (k_dget hr.units (pv 2) (pv 6) (fun _ _ => rfl))))) pa_nil)) (pv 0) (nomark _)) (pss_one (ps_ret pe_bl)) pss_nil)
      (pss_one (ps_ret (pe_or (pe_cmpR (k_eqD hr.units) (pv 4) (pe_lst pa_nil) (nomark _)) (pe_or (pe_cmpR (k_eqD hr.units) (pv 5) (pe_lst pa_nil) (nomark _)) (pe_one (pe_cmpR (k_ltD hr.units) (pe_callB (k_maxT rfl hr.units) (by rfl) T.z_max (by decide +kernel) (pa_cons (pv 4) pa_nil)) (pe_callB (k_minT rfl hr.units) (by rfl) T.z_min (by decide +kernel) (pa_cons (pv 5) pa_nil)) (nomark _)))))))))))), ?_⟩
    refine enter (Kn := Kn) (sl := [sv room_160, sv weights_161, sv sizes_162, .any, .any, .any, .any, .any, .any]) ek ⟨⟨v_0, rfl, hv_0⟩, ⟨v_1, rfl, hv_1⟩, ⟨v_2, rfl, hv_2⟩, trivial, trivial, trivial, trivial, trivial, trivial, trivial⟩ ?_
    have q := rt_of q
    obtain ⟨total_163, h_total_163, hf⟩ := bind_some hf
    refine SB.seqB (fun kx_ => sb_asg (sl' := [sv room_160, sv weights_161, sv sizes_162, sv total_163, .any, .any, .any, .any, .any]) rfl (EV.cast (ev_sumVals (ev_var (i := 1) rfl)) (Option.some.inj h_total_163)) (kx_ _ _ ?_))
    obtain ⟨more_164, h_more_164, hf⟩ := bind_some hf
    refine SB.seqB (fun kx_ => sb_asgO (sl' := fun p_more_164 => [sv room_160, sv weights_161, sv sizes_162, sv total_163, .at p_more_164, .any, .any, .any, .any]) (fun _ => rfl) (EN.cast (en_lst el_nil) (Option.some.inj h_more_164)) (fun p_more_164 => (kx_ _ _ ?_)))
    obtain ⟨others_165, h_others_165, hf⟩ := bind_some hf
    refine SB.seqB (fun kx_ => sb_asgO (sl' := fun p_others_165 => [sv room_160, sv weights_161, sv sizes_162, sv total_163, .at p_more_164, .at p_others_165, .any, .any, .any]) (fun _ => rfl) (EN.cast (en_lst el_nil) (Option.some.inj h_others_165)) (fun p_others_165 => (kx_ _ _ ?_)))
    obtain ⟨tot_173, h_tot_173, hf⟩ := bind_some hf
    refine SB.seqB (fun kx_191 => sb_forD (dit_keys (i := 1)) rfl (Sx := (List (Int × Str × Unit)) × (List (Int × Str × Unit))) (fun s => [sv room_160, sv weights_161, sv sizes_162, sv total_163, .at p_more_164, .at p_others_165, .any, .any, .any]) (fun s => [ol p_others_165 s.1, ol p_more_164 s.2]) (fun x s => [sv room_160, sv weights_161, sv sizes_162, sv total_163, .at p_more_164, .at p_others_165, sv x, .any, .any]) [6] (fun xs s => forC (m_dealt_L1 room_160 weights_161 sizes_162 total_163) xs s = some tot_173) (others_165, more_164) h_tot_173 (.keep (.keep (.keep (.keep (.keep (.keep (.keep (.keep (.keep .nil))))))))) (List.Sublist.refl _) (fun x s => (gt_name rfl)) ?_ ?_)
    · intro F1_ Kn1 R1_ mv_ bk_ name_168 rest_ s_ hP_170 N_ hN_169
      obtain ⟨others_166, more_167⟩ := s_
      obtain ⟨c_, hc_171, hP_170⟩ := bind_some hP_170
      have q_172 := q.mv mv_
      unfold m_dealt_L1 at hc_171
      refine SB.is (sl' := [sv room_160, sv weights_161, sv sizes_162, sv total_163, .at p_more_164, .at p_others_165, sv name_168, .any, .any]) (ow1 := [ol p_others_165 others_166, ol p_more_164 more_167]) rfl rfl ?_
      obtain ⟨i_174, h_i_174, hc_171⟩ := bind_some hc_171
      obtain ⟨m_175, h_m_175, hc_171⟩ := bind_some hc_171
      obtain ⟨dm_176, h_dm_176, hc_171⟩ := bind_some hc_171
      obtain ⟨⟨part_177, rest_178, _⟩, h_part_177, hc_171⟩ := bind_some hc_171
      refine SB.seqB (fun kx_ => sb_unp (sl' := [sv room_160, sv weights_161, sv sizes_162, sv total_163, .at p_more_164, .at p_others_165, sv name_168, sv part_177, sv rest_178]) (EV.cast (ev_cb (ea_cons (ev_op (ev_var (i := 0) rfl) (ev_dget (ev_var (i := 1) rfl) (ev_var (i := 6) rfl) h_i_174) (r2_mulO h_m_175)) (ea_cons (ev_var (i := 3) rfl) ea_nil)) (rc_divmod h_dm_176)) (Option.some.inj h_part_177)) (gt_tup (gts_cons (gt_name rfl) (gts_cons (gt_name rfl) gts_nil))) (kx_ _ _ ?_))
      obtain ⟨i_180, h_i_180, hc_171⟩ := bind_some hc_171
      refine sb_if (b := (decide (i_180 = (part_177 + (1 : Int))))) (et_test (ev_op (ev_dget (ev_var (i := 2) rfl) (ev_var (i := 6) rfl) h_i_180) (ev_op (ev_var (i := 7) rfl) (ev_int 1) r2_add) r2_eqI)) (fun hb_181 => ?_) (fun hb_181 => ?_)
      · have hc_171 := ite_t hb_181 hc_171
        obtain ⟨more_183, h_more_183, hc_171⟩ := bind_some hc_171
        refine sb_appO (i := 4) (j := 1) rfl rfl (ev_tup (ea_cons (ev_un (ev_var (i := 8) rfl) r1_neg) (ea_cons (ev_var (i := 6) rfl) ea_nil))) h_more_183 (ow1 := [ol p_others_165 others_166, ol p_more_164 more_183]) rfl ?_
        cases hc_171
        exact fun σ Kn H s => hN_169 _ hP_170 σ Kn H ((s.le (.keep (.keep (.keep (.keep (.keep (.keep (.drop (.drop (.drop .nil)))))))))).sub (List.Sublist.refl _))
      · have hc_171 := ite_f hb_181 hc_171
        obtain ⟨i_185, h_i_185, hc_171⟩ := bind_some hc_171
        refine sb_if (b := (decide (i_185 = part_177))) (et_test (ev_op (ev_dget (ev_var (i := 2) rfl) (ev_var (i := 6) rfl) h_i_185) (ev_var (i := 7) rfl) r2_eqI)) (fun hb_186 => ?_) (fun hb_186 => ?_)
        · have hc_171 := ite_t hb_186 hc_171
          obtain ⟨others_188, h_others_188, hc_171⟩ := bind_some hc_171
          refine sb_appO (i := 5) (j := 0) rfl rfl (ev_tup (ea_cons (ev_un (ev_var (i := 8) rfl) r1_neg) (ea_cons (ev_var (i := 6) rfl) ea_nil))) h_others_188 (ow1 := [ol p_others_165 others_188, ol p_more_164 more_167]) rfl ?_
          cases hc_171
          exact fun σ Kn H s => hN_169 _ hP_170 σ Kn H ((s.le (.keep (.keep (.keep (.keep (.keep (.keep (.drop (.drop (.drop .nil)))))))))).sub (List.Sublist.refl _))
        · have hc_171 := ite_f hb_186 hc_171
          cases hc_171
          replace hP_170 : some (Ctl.rt false) = some tot_173 := hP_170
          cases hP_170
          replace hf : some false = some r_ := hf
          cases hf
          exact sb_ret (ev_bool false) q_172 (List.Sublist.cons _ (List.Sublist.cons _ List.Sublist.slnil))
    · intro s_ h0
      obtain ⟨others_189, more_190⟩ := s_
      cases h0
      refine kx_191 _ _ ?_
      refine SB.is (sl' := [sv room_160, sv weights_161, sv sizes_162, sv total_163, .at p_more_164, .at p_others_165, .any, .any, .any]) (ow1 := [ol p_others_165 others_189, ol p_more_164 more_190]) rfl rfl ?_
      obtain ⟨zs_194, h_zs_194, hf⟩ := bind_some hf
      refine SB.seqB (fun kx_197 => sb_if (b := (!decide ((zs_194).sum = room_160))) (et_test (ev_op (ev_cb (ea_cons (EN.ev (en_lcD (js := [6]) (dit_keys (i := 1)) rfl (fun x => [sv room_160, sv weights_161, sv sizes_162, sv total_163, .at p_more_164, .at p_others_165, sv x, .any, .any]) h_zs_194 (anyAt_of (by rfl)) (fun x => (gt_name rfl)) (sub_of (by rfl)) (fun _ _ _ _ x b h => by cases h; exact et_yes) (fun _ _ _ _ x z _ h => by obtain ⟨name_193, hx_⟩ : ∃ y, y = x := ⟨x, rfl⟩; subst hx_; obtain ⟨i_195, h_i_195, h⟩ := bind_some h; have hz_ := Option.some.inj h; subst hz_; exact EV.is (sl' := [sv room_160, sv weights_161, sv sizes_162, sv total_163, .at p_more_164, .at p_others_165, sv name_193, .any, .any]) rfl (ev_dget (ev_var (i := 2) rfl) (ev_var (i := 6) rfl) h_i_195)))) ea_nil) rc_sum) (ev_var (i := 0) rfl) r2_neI)) (fun hb_196 => ?_) (fun hb_196 => ?_))
      · have hf := ite_t hb_196 hf
        cases hf
        exact sb_ret (ev_bool false) q (List.Sublist.cons _ (List.Sublist.cons _ List.Sublist.slnil))
      · have hf := ite_f hb_196 hf
        refine sb_nx ?_
        refine kx_197 _ _ ?_
        refine sb_freeze (i := 4) (j := 1) (sl' := [sv room_160, sv weights_161, sv sizes_162, sv total_163, sv more_190, .at p_others_165, .any, .any, .any]) (ow1 := [ol p_others_165 others_189]) rfl rfl rfl rfl ?_
        refine sb_freeze (i := 5) (j := 0) (sl' := [sv room_160, sv weights_161, sv sizes_162, sv total_163, sv more_190, sv others_189, .any, .any, .any]) (ow1 := []) rfl rfl rfl rfl ?_
        obtain ⟨e_198, h_e_198, hf⟩ := bind_some hf
        obtain ⟨b_204, h_b_204, hf⟩ := bind_some hf
        cases hf
        exact sb_ret (ev_orO h_b_204 (ev_op (ev_var (i := 4) rfl) (EN.ev (en_lst el_nil)) (r2_eqO h_e_198)) (fun _ _ h => by obtain ⟨e_199, h_e_199, h⟩ := bind_some h; obtain ⟨b_203, h_b_203, h⟩ := bind_some h; have hz_ := Option.some.inj h; subst hz_; exact (ev_orO h_b_203 (ev_op (ev_var (i := 5) rfl) (EN.ev (en_lst el_nil)) (r2_eqO h_e_199)) (fun _ _ h => by obtain ⟨max_200, h_max_200, h⟩ := bind_some h; obtain ⟨min_201, h_min_201, h⟩ := bind_some h; obtain ⟨c_202, h_c_202, h⟩ := bind_some h; have hz_ := Option.some.inj h; subst hz_; exact (ev_op (ev_cb (ea_cons (ev_var (i := 4) rfl) ea_nil) (rc_maxT h_max_200)) (ev_cb (ea_cons (ev_var (i := 5) rfl) ea_nil) (rc_minT h_min_201)) (r2_ltD h_c_202)))))) q (List.Sublist.refl _)
theorem sc_poured : FnScope ["room", "weights", "caps", "sizes", "level", "name", "still", "left"] ["room", "weights", "caps", "sizes", "level"] (defScope s_poured) := ⟨rfl, rfl, rfl, by decide +kernel, rfl, by decide +kernel, by decide +kernel⟩
set_option maxHeartbeats 4000000 in
theorem ok_poured (T : TX K mg w) : FnOk P w K mg base CX0 2 T.a_poured T.d_poured ["room", "weights", "caps", "sizes", "level"] (PF (τ := Int × (Dc Str Int) × (Dc Str Int) × (Dc Str Int) × (Option (Int × Int × Unit)) × Unit) K (fun t => m_poured t.1 t.2.1 t.2.2.1 t.2.2.2.1 t.2.2.2.2.1)) := by
  refine T.F_poured.ok sc_poured (fun vs H Q E h => ?_) (fun cdv A outer s H vs Q E hr h => ?_)
  · obtain ⟨Kn, t, r, ek, h, hf, q⟩ := h
    exact Tp.len h
  · obtain ⟨Kn, t, r_, ek, h, hf, q⟩ := h
    obtain ⟨room_205, weights_206, caps_207, sizes_208, level_209, u_⟩ := t
    obtain ⟨v_0, rr_, rfl, hv_0, h⟩ := h
    obtain ⟨v_1, rr_, rfl, hv_1, h⟩ := h
    obtain ⟨v_2, rr_, rfl, hv_2, h⟩ := h
    obtain ⟨v_3, rr_, rfl, hv_3, h⟩ := h
    obtain ⟨v_4, rr_, rfl, hv_4, h⟩ := h
    obtain rfl := h
    replace hf : m_poured room_205 weights_206 caps_207 sizes_208 level_209 = some r_ := hf
    unfold m_poured at hf
    refine ⟨_, (pss_cons (ps_lk (ps_setLc (i := 6) (own := [("name", 5)]) (g := gName 5) rfl sc_poured.nd rfl rfl (sw_true rfl rfl rfl (by decide +kernel)) (pi_keys (pv 1)) (blkOk_by (own := [("name", 5)]) (N := ["room", "weights", "caps", "sizes", "level", "name", "still", "left"]) (sc := defScope s_poured) (by decide +kernel)) (fun _ _ _ _ _ => (pg_name (i := 5) sc_poured.nd rfl (Or.inl rfl))) (fun _ _ _ _ _ => pts_one (pt_cmpR op_gt (k_dget hr.units (pv 1) (pv 5) (fun _ _ => rfl)) pe_int (nomark _))) (fun _ _ _ _ _ => (pv 5))))
      (pss_cons (ps_if (pt_val (pe_callB k_any (by rfl) T.z_any (by decide +kernel) (pa_cons (pe_lk (pe_lc (own := [("name", 5)]) (g := gName 5) (by rfl) sc_poured.nd (pi_keys (pv 1)) (blkOk_by (own := [("name", 5)]) (N := ["room", "weights", "caps", "sizes", "level", "name", "still", "left"]) (sc := defScope s_poured) (by decide +kernel)) (fun _ _ _ _ _ => (pg_name (i := 5) sc_poured.nd rfl (Or.inl rfl))) (fun _ _ _ _ _ => pts_one (pt_cmpR op_eq (k_dget hr.units (pv 1) (pv 5) (fun _ _ => rfl)) pe_int (nomark _))) (fun _ _ _ _ _ => (pe_cmpR op_ne (k_dget hr.units (pv 3) (pv 5) (fun _ _ => rfl)) pe_int (nomark _))))) pa_nil))) (pss_one (ps_ret pe_bl)) pss_nil)
      (pss_cons (ps_if (pt_cmpR op_ge (pv 0) (pe_callB k_sum (by rfl) T.z_sum (by decide +kernel) (pa_cons (pe_lc (own := [("name", 5)]) (g := gName 5) (tt := tYes) (by rfl) sc_poured.nd (kpi_list (pv 6)) (blkOk_by (own := [("name", 5)]) (N := ["room", "weights", "caps", "sizes", "level", "name", "still", "left"]) (sc := defScope s_poured) (by decide +kernel)) (fun _ _ _ _ _ => (pg_name (i := 5) sc_poured.nd rfl (Or.inl rfl))) (fun _ _ _ _ _ => pts_nil) (fun _ _ _ _ _ => (k_dget hr.units (pv 2) (pv 5) (fun _ _ => rfl)))) pa_nil)) (nomark _)) (pss_one (ps_ret (pe_and (pe_cmpR op_isN (pv 4) pe_non (nomark _)) (pe_one (pe_callB k_all (by rfl) T.z_all (by decide +kernel) (pa_cons (pe_lc (own := [("name", 5)]) (g := gName 5) (tt := tYes) (by rfl) sc_poured.nd (kpi_list (pv 6)) (blkOk_by (own := [("name", 5)]) (N := ["room", "weights", "caps", "sizes", "level", "name", "still", "left"]) (sc := defScope s_poured) (by decide +kernel)) (fun _ _ _ _ _ => (pg_name (i := 5) sc_poured.nd rfl (Or.inl rfl))) (fun _ _ _ _ _ => pts_nil) (fun _ _ _ _ _ => (pe_cmpR op_eq (k_dget hr.units (pv 3) (pv 5) (fun _ _ => rfl)) (k_dget hr.units (pv 2) (pv 5) (fun _ _ => rfl)) (nomark _)))) pa_nil)))))) pss_nil)
      (pss_cons (ps_if (PW.pt (pw_or (pt_cmpR op_isN (pv 4) pe_non (nomark _)) (pw_or (pt_cmpR op_lt (pe_ix k_ixt (pv 4) pe_int (fun _ _ => rfl)) pe_int (nomark _)) (pw_or (pt_cmpR op_lt (pe_ix k_ixt (pv 4) pe_int (fun _ _ => rfl)) pe_int (nomark _)) (pw_or1 (pt_cmpR (k_neD hr.units) (pe_call (ok_lowest T) hr (by rfl) T.g_lowest T.F_lowest.kp T.b_lowest .nil pass0 (pa_cons (pe_ix k_ixt (pv 4) pe_int (fun _ _ => rfl)) (pa_cons (pe_ix k_ixt (pv 4) pe_int (fun _ _ => rfl)) pa_nil))) (pv 4) (nomark _))))))) (pss_one (ps_ret pe_bl)) pss_nil)
      (pss_cons (ps_set (i := 7) sc_poured.nd rfl (.inl rfl) pe_dnewK)
      (pss_cons (ps_for PassesOwn.never rfl (kpi_list (pv 6)) (pg_name (i := 5) sc_poured.nd rfl (.inl rfl)) (pss_one (ps_if (pt_cmpR op_gt (pe_op op_mul (k_dget hr.units (pv 2) (pv 5) (fun _ _ => rfl)) (pe_ix k_ixt (pv 4) pe_int (fun _ _ => rfl))) (pe_op op_mul (k_dget hr.units (pv 1) (pv 5) (fun _ _ => rfl)) (pe_ix k_ixt (pv 4) pe_int (fun _ _ => rfl))) (nomark _)) (pss_one (k_dput hr.units (pv 7) (pv 5) (k_dget hr.units (pv 1) (pv 5) (fun _ _ => rfl)) rfl)) (pss_one (ps_if (pt_cmpR op_ne (k_dget hr.units (pv 3) (pv 5) (fun _ _ => rfl)) (k_dget hr.units (pv 2) (pv 5) (fun _ _ => rfl)) (nomark _)) (pss_one (ps_ret pe_bl)) (pss_one (ps_aug (i := 0) sc_poured.nd rfl (.inl rfl) (k_dget hr.units (pv 2) (pv 5) (fun _ _ => rfl)) ip_sub)))))))
      (pss_cons (ps_if (PW.pt (pw_or (pt_cmpR (k_eqDG hr.units) (pv 7) pe_dnewK (nomark _)) (pw_or (pt_cmpR op_lt (pv 0) pe_int (nomark _)) (pw_or1 (pt_cmpR op_ne (pe_op op_mul (pe_ix k_ixt (pv 4) pe_int (fun _ _ => rfl)) (pe_sumVals rfl (by rfl) T.z_sum (pv 7))) (pe_op op_mul (pv 0) (pe_ix k_ixt (pv 4) pe_int (fun _ _ => rfl))) (nomark _)))))) (pss_one (ps_ret pe_bl)) pss_nil)
      (pss_one (ps_ret (pe_call (ok_dealt T) hr (by rfl) T.g_dealt T.F_dealt.kp T.b_dealt .nil pass0 (pa_cons (pv 0) (pa_cons (pv 7) (pa_cons (pv 3) pa_nil))))))))))))), ?_⟩
    refine enter (Kn := Kn) (sl := [sv room_205, sv weights_206, sv caps_207, sv sizes_208, sv level_209, .any, .any, .any]) ek ⟨⟨v_0, rfl, hv_0⟩, ⟨v_1, rfl, hv_1⟩, ⟨v_2, rfl, hv_2⟩, ⟨v_3, rfl, hv_3⟩, ⟨v_4, rfl, hv_4⟩, trivial, trivial, trivial, trivial⟩ ?_
    have q := rt_of q
    obtain ⟨zs_211, h_zs_211, hf⟩ := bind_some hf
    obtain ⟨still_213, h_still_213, hf⟩ := bind_some hf
    refine SB.seqB (fun kx_ => sb_asg (sl' := [sv room_205, sv weights_206, sv caps_207, sv sizes_208, sv level_209, .any, sv still_213, .any]) rfl (EV.cast (EN.ev (en_lcD (js := [5]) (dit_keys (i := 1)) rfl (fun x => [sv room_205, sv weights_206, sv caps_207, sv sizes_208, sv level_209, sv x, .any, .any]) h_zs_211 (anyAt_of (by rfl)) (fun x => (gt_name rfl)) (sub_of (by rfl)) (fun _ _ _ _ x b h => by obtain ⟨name_210, hx_⟩ : ∃ y, y = x := ⟨x, rfl⟩; subst hx_; obtain ⟨i_212, h_i_212, h⟩ := bind_some h; have hz_ := Option.some.inj h; subst hz_; exact ET.is (sl' := [sv room_205, sv weights_206, sv caps_207, sv sizes_208, sv level_209, sv name_210, .any, .any]) rfl (et_test (ev_op (ev_dget (ev_var (i := 1) rfl) (ev_var (i := 5) rfl) h_i_212) (ev_int 0) r2_gt))) (fun _ _ _ _ x z _ h => by obtain ⟨name_210, hx_⟩ : ∃ y, y = x := ⟨x, rfl⟩; subst hx_; have hz_ := Option.some.inj h; subst hz_; exact EV.is (sl' := [sv room_205, sv weights_206, sv caps_207, sv sizes_208, sv level_209, sv name_210, .any, .any]) rfl (ev_var (i := 5) rfl)))) (Option.some.inj h_still_213)) (kx_ _ _ ?_))
    obtain ⟨zs_216, h_zs_216, hf⟩ := bind_some hf
    refine SB.seqB (fun kx_220 => sb_if (b := (zs_216.any id)) (et_B (ev_cb (ea_cons (EN.ev (en_lcD (js := [5]) (dit_keys (i := 1)) rfl (fun x => [sv room_205, sv weights_206, sv caps_207, sv sizes_208, sv level_209, sv x, sv still_213, .any]) h_zs_216 (anyAt_of (by rfl)) (fun x => (gt_name rfl)) (sub_of (by rfl)) (fun _ _ _ _ x b h => by obtain ⟨name_215, hx_⟩ : ∃ y, y = x := ⟨x, rfl⟩; subst hx_; obtain ⟨i_217, h_i_217, h⟩ := bind_some h; have hz_ := Option.some.inj h; subst hz_; exact ET.is (sl' := [sv room_205, sv weights_206, sv caps_207, sv sizes_208, sv level_209, sv name_215, sv still_213, .any]) rfl (et_test (ev_op (ev_dget (ev_var (i := 1) rfl) (ev_var (i := 5) rfl) h_i_217) (ev_int 0) r2_eqI))) (fun _ _ _ _ x z _ h => by obtain ⟨name_215, hx_⟩ : ∃ y, y = x := ⟨x, rfl⟩; subst hx_; obtain ⟨i_218, h_i_218, h⟩ := bind_some h; have hz_ := Option.some.inj h; subst hz_; exact EV.is (sl' := [sv room_205, sv weights_206, sv caps_207, sv sizes_208, sv level_209, sv name_215, sv still_213, .any]) rfl (ev_op (ev_dget (ev_var (i := 3) rfl) (ev_var (i := 5) rfl) h_i_218) (ev_int 0) r2_neI)))) ea_nil) rc_any)) (fun hb_219 => ?_) (fun hb_219 => ?_))
    · have hf := ite_t hb_219 hf
      cases hf
      exact sb_ret (ev_bool false) q (List.Sublist.refl _)
    · have hf := ite_f hb_219 hf
      refine sb_nx ?_
      refine kx_220 _ _ ?_
      obtain ⟨zs_223, h_zs_223, hf⟩ := bind_some hf
      refine SB.seqB (fun kx_226 => sb_if (b := (decide ((zs_223).sum ≤ room_205))) (et_test (ev_op (ev_var (i := 0) rfl) (ev_cb (ea_cons (EN.ev (en_lc (js := [5]) (fun x => [sv room_205, sv weights_206, sv caps_207, sv sizes_208, sv level_209, sv x, sv still_213, .any]) h_zs_223 (it_list (ev_var (i := 6) rfl)) (anyAt_of (by rfl)) (fun x => (gt_name rfl)) (sub_of (by rfl)) (fun _ _ x b h => by cases h; exact et_yes) (fun _ _ x z _ h => by obtain ⟨name_222, hx_⟩ : ∃ y, y = x := ⟨x, rfl⟩; subst hx_; obtain ⟨i_224, h_i_224, h⟩ := bind_some h; have hz_ := Option.some.inj h; subst hz_; exact EV.is (sl' := [sv room_205, sv weights_206, sv caps_207, sv sizes_208, sv level_209, sv name_222, sv still_213, .any]) rfl (ev_dget (ev_var (i := 2) rfl) (ev_var (i := 5) rfl) h_i_224)))) ea_nil) rc_sum) r2_ge)) (fun hb_225 => ?_) (fun hb_225 => ?_))
      · have hf := ite_t hb_225 hf
        obtain ⟨b_231, h_b_231, hf⟩ := bind_some hf
        cases hf
        exact sb_ret (ev_andO h_b_231 (ev_op (ev_var (i := 4) rfl) ev_nn r2_isN) (fun _ _ h => by obtain ⟨zs_228, h_zs_228, h⟩ := bind_some h; have hz_ := Option.some.inj h; subst hz_; exact (ev_cb (ea_cons (EN.ev (en_lc (js := [5]) (fun x => [sv room_205, sv weights_206, sv caps_207, sv sizes_208, sv level_209, sv x, sv still_213, .any]) h_zs_228 (it_list (ev_var (i := 6) rfl)) (anyAt_of (by rfl)) (fun x => (gt_name rfl)) (sub_of (by rfl)) (fun _ _ x b h => by cases h; exact et_yes) (fun _ _ x z _ h => by obtain ⟨name_227, hx_⟩ : ∃ y, y = x := ⟨x, rfl⟩; subst hx_; obtain ⟨i_229, h_i_229, h⟩ := bind_some h; obtain ⟨i_230, h_i_230, h⟩ := bind_some h; have hz_ := Option.some.inj h; subst hz_; exact EV.is (sl' := [sv room_205, sv weights_206, sv caps_207, sv sizes_208, sv level_209, sv name_227, sv still_213, .any]) rfl (ev_op (ev_dget (ev_var (i := 3) rfl) (ev_var (i := 5) rfl) h_i_229) (ev_dget (ev_var (i := 2) rfl) (ev_var (i := 5) rfl) h_i_230) r2_eqI)))) ea_nil) rc_all))) q (List.Sublist.refl _)
      · have hf := ite_f hb_225 hf
        refine sb_nx ?_
        refine kx_226 _ _ ?_
        obtain ⟨b_241, h_b_241, hf⟩ := bind_some hf
        refine SB.seqB (fun kx_243 => sb_if (b := b_241) (et_orO h_b_241 (et_test (ev_op (ev_var (i := 4) rfl) ev_nn r2_isN)) (fun _ _ h => by obtain ⟨s_233, h_s_233, h⟩ := bind_some h; obtain ⟨b_240, h_b_240, h⟩ := bind_some h; have hz_ := Option.some.inj h; subst hz_; exact (et_orO h_b_240 (et_test (ev_op (ev_op (ev_unopt (ev_var (i := 4) rfl) h_s_233) (ev_int 0) (r2_tix (n := 0) (At.z _ _))) (ev_int 0) r2_lt)) (fun _ _ h => by obtain ⟨s_234, h_s_234, h⟩ := bind_some h; obtain ⟨b_239, h_b_239, h⟩ := bind_some h; have hz_ := Option.some.inj h; subst hz_; exact (et_orO h_b_239 (et_test (ev_op (ev_op (ev_unopt (ev_var (i := 4) rfl) h_s_234) (ev_int 1) (r2_tix (n := 1) (At.s _ (At.z _ _)))) (ev_int 1) r2_lt)) (fun _ _ h => by obtain ⟨s_235, h_s_235, h⟩ := bind_some h; obtain ⟨s_236, h_s_236, h⟩ := bind_some h; obtain ⟨r_237, h_r_237, h⟩ := bind_some h; obtain ⟨s_238, h_s_238, h⟩ := bind_some h; have hz_ := Option.some.inj h; subst hz_; exact (et_test (ev_op (ev_call (ea_cons (ev_op (ev_unopt (ev_var (i := 4) rfl) h_s_235) (ev_int 0) (r2_tix (n := 0) (At.z _ _))) (ea_cons (ev_op (ev_unopt (ev_var (i := 4) rfl) h_s_236) (ev_int 1) (r2_tix (n := 1) (At.s _ (At.z _ _)))) ea_nil)) h_r_237) (ev_unopt (ev_var (i := 4) rfl) h_s_238) r2_neT)))))))) (fun hb_242 => ?_) (fun hb_242 => ?_))
        · have hf := ite_t hb_242 hf
          cases hf
          exact sb_ret (ev_bool false) q (List.Sublist.refl _)
        · have hf := ite_f hb_242 hf
          refine sb_nx ?_
          refine kx_243 _ _ ?_
          refine SB.seqB (fun kx_ => sb_dnewK (κ := Str) (β := Int) (sl' := fun p_left_244 => [sv room_205, sv weights_206, sv caps_207, sv sizes_208, sv level_209, .any, sv still_213, .at p_left_244]) rfl (fun _ => rfl) (fun p_left_244 => (kx_ _ _ ?_)))
          obtain ⟨tot_252, h_tot_252, hf⟩ := bind_some hf
          refine SB.seqB (fun kx_273 => sb_for (β := Str) (Sx := Int × (Dc Str Int)) (fun s => [sv s.1, sv weights_206, sv caps_207, sv sizes_208, sv level_209, .any, sv still_213, .at p_left_244]) (fun s => [oo p_left_244 s.2]) (fun x s => [sv s.1, sv weights_206, sv caps_207, sv sizes_208, sv level_209, sv x, sv still_213, .at p_left_244]) [5] (fun xs s => forC (m_poured_L1 weights_206 caps_207 sizes_208 level_209) xs s = some tot_252) (room_205, (Dc.mk ([] : List (Str × Int)))) (IT.m (it_list (ev_var (i := 6) rfl))) h_tot_252 (.keep (.keep (.keep (.keep (.keep (.keep (.keep (.keep .nil)))))))) (List.Sublist.refl _) (fun x s => (gt_name rfl)) ?_ ?_)
          · intro Kn1 b1 name_247 rest_ s_ hP_249 N_ hN_248
            obtain ⟨room_245, left_246⟩ := s_
            obtain ⟨c_, hc_250, hP_249⟩ := bind_some hP_249
            have q_251 := q.base b1
            unfold m_poured_L1 at hc_250
            refine SB.is (sl' := [sv room_245, sv weights_206, sv caps_207, sv sizes_208, sv level_209, sv name_247, sv still_213, .at p_left_244]) (ow1 := [oo p_left_244 left_246]) rfl rfl ?_
            obtain ⟨i_254, h_i_254, hc_250⟩ := bind_some hc_250
            obtain ⟨s_255, h_s_255, hc_250⟩ := bind_some hc_250
            obtain ⟨m_256, h_m_256, hc_250⟩ := bind_some hc_250
            obtain ⟨i_257, h_i_257, hc_250⟩ := bind_some hc_250
            obtain ⟨s_258, h_s_258, hc_250⟩ := bind_some hc_250
            obtain ⟨m_259, h_m_259, hc_250⟩ := bind_some hc_250
            refine sb_if (b := (decide (m_259 < m_256))) (et_test (ev_op (ev_op (ev_dget (ev_var (i := 2) rfl) (ev_var (i := 5) rfl) h_i_254) (ev_op (ev_unopt (ev_var (i := 4) rfl) h_s_255) (ev_int 1) (r2_tix (n := 1) (At.s _ (At.z _ _)))) (r2_mulO h_m_256)) (ev_op (ev_dget (ev_var (i := 1) rfl) (ev_var (i := 5) rfl) h_i_257) (ev_op (ev_unopt (ev_var (i := 4) rfl) h_s_258) (ev_int 0) (r2_tix (n := 0) (At.z _ _))) (r2_mulO h_m_259)) r2_gt)) (fun hb_260 => ?_) (fun hb_260 => ?_)
            · have hc_250 := ite_t hb_260 hc_250
              obtain ⟨i_262, h_i_262, hc_250⟩ := bind_some hc_250
              obtain ⟨left_263, h_left_263, hc_250⟩ := bind_some hc_250
              refine sb_dput (i := 7) (j := 0) rfl rfl (ev_dget (ev_var (i := 1) rfl) (ev_var (i := 5) rfl) h_i_262) (ev_var (i := 5) rfl) h_left_263 (ow1 := [oo p_left_244 left_263]) rfl ?_
              cases hc_250
              exact fun σ Kn H s => hN_248 _ hP_249 σ Kn H ((s.le (.keep (.keep (.keep (.keep (.keep (.drop (.keep (.keep .nil))))))))).sub (List.Sublist.refl _))
            · have hc_250 := ite_f hb_260 hc_250
              obtain ⟨i_265, h_i_265, hc_250⟩ := bind_some hc_250
              obtain ⟨i_266, h_i_266, hc_250⟩ := bind_some hc_250
              refine sb_if (b := (!decide (i_265 = i_266))) (et_test (ev_op (ev_dget (ev_var (i := 3) rfl) (ev_var (i := 5) rfl) h_i_265) (ev_dget (ev_var (i := 2) rfl) (ev_var (i := 5) rfl) h_i_266) r2_neI)) (fun hb_267 => ?_) (fun hb_267 => ?_)
              · have hc_250 := ite_t hb_267 hc_250
                cases hc_250
                replace hP_249 : some (Ctl.rt false) = some tot_252 := hP_249
                cases hP_249
                replace hf : some false = some r_ := hf
                cases hf
                exact sb_ret (ev_bool false) q_251 (List.Sublist.cons _ List.Sublist.slnil)
              · have hc_250 := ite_f hb_267 hc_250
                obtain ⟨i_269, h_i_269, hc_250⟩ := bind_some hc_250
                obtain ⟨room_270, h_room_270, hc_250⟩ := bind_some hc_250
                have h_room_270 := Option.some.inj h_room_270
                refine sb_aug (i := 0) (a := room_245) (c := i_269) (sl' := [sv room_270, sv weights_206, sv caps_207, sv sizes_208, sv level_209, sv name_247, sv still_213, .at p_left_244]) rfl (h_room_270 ▸ rfl) (ev_dget (ev_var (i := 2) rfl) (ev_var (i := 5) rfl) h_i_269) ?_
                cases hc_250
                exact fun σ Kn H s => hN_248 _ hP_249 σ Kn H ((s.le (.keep (.keep (.keep (.keep (.keep (.drop (.keep (.keep .nil))))))))).sub (List.Sublist.refl _))
          · intro s_ h0
            obtain ⟨room_271, left_272⟩ := s_
            cases h0
            refine kx_273 _ _ ?_
            refine SB.is (sl' := [sv room_271, sv weights_206, sv caps_207, sv sizes_208, sv level_209, .any, sv still_213, .at p_left_244]) (ow1 := [oo p_left_244 left_272]) rfl rfl ?_
            refine sb_freezeG (i := 7) (j := 0) (sl' := [sv room_271, sv weights_206, sv caps_207, sv sizes_208, sv level_209, .any, sv still_213, sv left_272]) (ow1 := []) rfl rfl rfl rfl ?_
            obtain ⟨b_280, h_b_280, hf⟩ := bind_some hf
            refine SB.seqB (fun kx_282 => sb_if (b := b_280) (et_orO h_b_280 (et_test (ev_op (ev_var (i := 7) rfl) (EG.ev eg_new) r2_eqDG)) (fun _ _ h => by obtain ⟨b_279, h_b_279, h⟩ := bind_some h; have hz_ := Option.some.inj h; subst hz_; exact (et_orO h_b_279 (et_test (ev_op (ev_var (i := 0) rfl) (ev_int 0) r2_lt)) (fun _ _ h => by obtain ⟨s_275, h_s_275, h⟩ := bind_some h; obtain ⟨m_276, h_m_276, h⟩ := bind_some h; obtain ⟨s_277, h_s_277, h⟩ := bind_some h; obtain ⟨m_278, h_m_278, h⟩ := bind_some h; have hz_ := Option.some.inj h; subst hz_; exact (et_test (ev_op (ev_op (ev_op (ev_unopt (ev_var (i := 4) rfl) h_s_275) (ev_int 0) (r2_tix (n := 0) (At.z _ _))) (ev_sumVals (ev_var (i := 7) rfl)) (r2_mulO h_m_276)) (ev_op (ev_var (i := 0) rfl) (ev_op (ev_unopt (ev_var (i := 4) rfl) h_s_277) (ev_int 1) (r2_tix (n := 1) (At.s _ (At.z _ _)))) (r2_mulO h_m_278)) r2_neI)))))) (fun hb_281 => ?_) (fun hb_281 => ?_))
            · have hf := ite_t hb_281 hf
              cases hf
              exact sb_ret (ev_bool false) q (List.Sublist.refl _)
            · have hf := ite_f hb_281 hf
              refine sb_nx ?_
              refine kx_282 _ _ ?_
              obtain ⟨r_283, h_r_283, hf⟩ := bind_some hf
              cases hf
              exact sb_ret (ev_call (ea_cons (ev_var (i := 0) rfl) (ea_cons (ev_var (i := 7) rfl) (ea_cons (ev_var (i := 3) rfl) ea_nil))) h_r_283) q (List.Sublist.refl _)
theorem sc_ones : FnScope ["names", "found", "name"] ["names"] (defScope s_ones) := ⟨rfl, rfl, rfl, by decide +kernel, rfl, by decide +kernel, by decide +kernel⟩
set_option maxHeartbeats 4000000 in
theorem ok_ones (T : TX K mg w) : FnOk P w K mg base CX0 1 T.a_ones T.d_ones ["names"] (PG (τ := (Dc Str Dy) × Unit) K (fun t => m_ones t.1)) := by
  refine T.F_ones.ok sc_ones (fun vs H Q E h => ?_) (fun cdv A outer s H vs Q E hr h => ?_)
  · obtain ⟨Kn, t, r, ek, h, hf, q⟩ := h
    exact Tp.len h
  · obtain ⟨Kn, t, r_, ek, h, hf, q⟩ := h
    obtain ⟨names_284, u_⟩ := t
    obtain ⟨v_0, rr_, rfl, hv_0, h⟩ := h
    obtain rfl := h
    replace hf : m_ones names_284 = some r_ := hf
    unfold m_ones at hf
    refine ⟨_, (pss_cons (ps_set (i := 1) sc_ones.nd rfl (.inl rfl) pe_dnewK)
      (pss_cons (ps_lk (ps_for PassesOwn.never rfl (pi_keys (pv 0)) (pg_name (i := 2) sc_ones.nd rfl (.inl rfl)) (pss_one (k_dput hr.units (pv 1) (pv 2) pe_int rfl))))
      (pss_one (ps_ret (pv 1))))), ?_⟩
    refine enter (Kn := Kn) (sl := [sv names_284, .any, .any]) ek ⟨⟨v_0, rfl, hv_0⟩, trivial, trivial, trivial⟩ ?_
    have q := rng_of q
    refine SB.seqB (fun kx_ => sb_dnewK (κ := Str) (β := Int) (sl' := fun p_found_285 => [sv names_284, .at p_found_285, .any]) rfl (fun _ => rfl) (fun p_found_285 => (kx_ _ _ ?_)))
    obtain ⟨found_294, h_tot_292, hf⟩ := bind_some hf
    refine SB.seqB (fun kx_295 => sb_forD (dit_keys (i := 0)) rfl (Sx := (Dc Str Int)) (fun s => [sv names_284, .at p_found_285, .any]) (fun s => [oo p_found_285 s]) (fun x s => [sv names_284, .at p_found_285, sv x]) [2] (fun xs s => forS (m_ones_L1) xs s = some found_294) (Dc.mk ([] : List (Str × Int))) h_tot_292 (.keep (.keep (.keep .nil))) (List.Sublist.refl _) (fun x s => (gt_name rfl)) ?_ ?_)
    · intro F1_ Kn1 R1_ mv_ bk_ name_287 rest_ found_286 hP_289 N_ hN_288
      obtain ⟨c_, hc_290, hP_289⟩ := bind_some hP_289
      have q_291 := q.mv mv_
      unfold m_ones_L1 at hc_290
      refine SB.is (sl' := [sv names_284, .at p_found_285, sv name_287]) (ow1 := [oo p_found_285 found_286]) rfl rfl ?_
      obtain ⟨found_293, h_found_293, hc_290⟩ := bind_some hc_290
      refine sb_dput (i := 1) (j := 0) rfl rfl (ev_int 1) (ev_var (i := 2) rfl) h_found_293 (ow1 := [oo p_found_285 found_293]) rfl ?_
      cases hc_290
      exact fun σ Kn H s => hN_288 _ hP_289 σ Kn H ((s.le (.keep (.keep (.drop .nil)))).sub (List.Sublist.refl _))
    · intro s_ h0
      cases h0
      refine kx_295 _ _ ?_
      refine SB.is (sl' := [sv names_284, .at p_found_285, .any]) (ow1 := [oo p_found_285 found_294]) rfl rfl ?_
      cases hf
      exact sb_retG (i := 1) (j := 0) rfl rfl q (List.Sublist.cons _ List.Sublist.slnil)
theorem sc_picked : FnScope ["items", "at", "found", "name"] ["items", "at"] (defScope s_picked) := ⟨rfl, rfl, rfl, by decide +kernel, rfl, by decide +kernel, by decide +kernel⟩
set_option maxHeartbeats 4000000 in
theorem ok_picked (T : TX K mg w) : FnOk P w K mg base CX0 1 T.a_picked T.d_picked ["items", "at"] (PG (τ := (Dc Str (Int × Int × Int × Int × Int × Int × Unit)) × Int × Unit) K (fun t => m_picked t.1 t.2.1)) := by
  refine T.F_picked.ok sc_picked (fun vs H Q E h => ?_) (fun cdv A outer s H vs Q E hr h => ?_)
  · obtain ⟨Kn, t, r, ek, h, hf, q⟩ := h
    exact Tp.len h
  · obtain ⟨Kn, t, r_, ek, h, hf, q⟩ := h
    obtain ⟨items_296, at_297, u_⟩ := t
    obtain ⟨v_0, rr_, rfl, hv_0, h⟩ := h
    obtain ⟨v_1, rr_, rfl, hv_1, h⟩ := h
    obtain rfl := h
    replace hf : m_picked items_296 at_297 = some r_ := hf
    unfold m_picked at hf
    refine ⟨_, (pss_cons (ps_set (i := 2) sc_picked.nd rfl (.inl rfl) pe_dnewK)
      (pss_cons (ps_lk (ps_for PassesOwn.never rfl (pi_keys (pv 0)) (pg_name (i := 3) sc_picked.nd rfl (.inl rfl)) (pss_one (k_dput hr.units (pv 2) (pv 3) (pe_ix k_ixt (k_dget hr.units (pv 0) (pv 3) (fun _ _ => rfl)) (pv 1) (fun _ _ => rfl)) rfl))))
      (pss_one (ps_ret (pv 2))))), ?_⟩
    refine enter (Kn := Kn) (sl := [sv items_296, sv at_297, .any, .any]) ek ⟨⟨v_0, rfl, hv_0⟩, ⟨v_1, rfl, hv_1⟩, trivial, trivial, trivial⟩ ?_
    have q := rng_of q
    refine SB.seqB (fun kx_ => sb_dnewK (κ := Str) (β := Int) (sl' := fun p_found_298 => [sv items_296, sv at_297, .at p_found_298, .any]) rfl (fun _ => rfl) (fun p_found_298 => (kx_ _ _ ?_)))
    obtain ⟨found_309, h_tot_305, hf⟩ := bind_some hf
    refine SB.seqB (fun kx_310 => sb_forD (dit_keys (i := 0)) rfl (Sx := (Dc Str Int)) (fun s => [sv items_296, sv at_297, .at p_found_298, .any]) (fun s => [oo p_found_298 s]) (fun x s => [sv items_296, sv at_297, .at p_found_298, sv x]) [3] (fun xs s => forS (m_picked_L1 items_296 at_297) xs s = some found_309) (Dc.mk ([] : List (Str × Int))) h_tot_305 (.keep (.keep (.keep (.keep .nil)))) (List.Sublist.refl _) (fun x s => (gt_name rfl)) ?_ ?_)
    · intro F1_ Kn1 R1_ mv_ bk_ name_300 rest_ found_299 hP_302 N_ hN_301
      obtain ⟨c_, hc_303, hP_302⟩ := bind_some hP_302
      have q_304 := q.mv mv_
      unfold m_picked_L1 at hc_303
      refine SB.is (sl' := [sv items_296, sv at_297, .at p_found_298, sv name_300]) (ow1 := [oo p_found_298 found_299]) rfl rfl ?_
      obtain ⟨i_306, h_i_306, hc_303⟩ := bind_some hc_303
      obtain ⟨i_307, h_i_307, hc_303⟩ := bind_some hc_303
      obtain ⟨found_308, h_found_308, hc_303⟩ := bind_some hc_303
      refine sb_dput (i := 2) (j := 0) rfl rfl (ev_op (ev_hom (xs := ([i_306.1, i_306.2.1, i_306.2.2.1, i_306.2.2.2.1, i_306.2.2.2.2.1, i_306.2.2.2.2.2.1] : List Int)) (ev_dget (ev_var (i := 0) rfl) (ev_var (i := 3) rfl) h_i_306) (Ho.cons _ (Ho.cons _ (Ho.cons _ (Ho.cons _ (Ho.cons _ (Ho.cons _ Ho.nil))))))) (ev_var (i := 1) rfl) (r2_ixU h_i_307)) (ev_var (i := 3) rfl) h_found_308 (ow1 := [oo p_found_298 found_308]) rfl ?_
      cases hc_303
      exact fun σ Kn H s => hN_301 _ hP_302 σ Kn H ((s.le (.keep (.keep (.keep (.drop .nil))))).sub (List.Sublist.refl _))
    · intro s_ h0
      cases h0
      refine kx_310 _ _ ?_
      refine SB.is (sl' := [sv items_296, sv at_297, .at p_found_298, .any]) (ow1 := [oo p_found_298 found_309]) rfl rfl ?_
      cases hf
      exact sb_retG (i := 2) (j := 0) rfl rfl q (List.Sublist.cons _ List.Sublist.slnil)
theorem sc_lesser : FnScope ["some", "others", "found", "name"] ["some", "others"] (defScope s_lesser) := ⟨rfl, rfl, rfl, by decide +kernel, rfl, by decide +kernel, by decide +kernel⟩
set_option maxHeartbeats 4000000 in
theorem ok_lesser (T : TX K mg w) : FnOk P w K mg base CX0 1 T.a_lesser T.d_lesser ["some", "others"] (PG (τ := (Dc Str Int) × (Dc Str Int) × Unit) K (fun t => m_lesser t.1 t.2.1)) := by
  refine T.F_lesser.ok sc_lesser (fun vs H Q E h => ?_) (fun cdv A outer s H vs Q E hr h => ?_)
  · obtain ⟨Kn, t, r, ek, h, hf, q⟩ := h
    exact Tp.len h
  · obtain ⟨Kn, t, r_, ek, h, hf, q⟩ := h
    obtain ⟨some_311, others_312, u_⟩ := t
    obtain ⟨v_0, rr_, rfl, hv_0, h⟩ := h
    obtain ⟨v_1, rr_, rfl, hv_1, h⟩ := h
    obtain rfl := h
    replace hf : m_lesser some_311 others_312 = some r_ := hf
    unfold m_lesser at hf
    refine ⟨_, (pss_cons (ps_set (i := 2) sc_lesser.nd rfl (.inl rfl) pe_dnewK)
      (pss_cons (ps_lk (ps_for PassesOwn.never rfl (pi_keys (pv 0)) (pg_name (i := 3) sc_lesser.nd rfl (.inl rfl)) (pss_one (k_dput hr.units (pv 2) (pv 3) (pe_op op_sub (k_dget hr.units (pv 0) (pv 3) (fun _ _ => rfl)) (k_dget hr.units (pv 1) (pv 3) (fun _ _ => rfl))) rfl))))
      (pss_one (ps_ret (pv 2))))), ?_⟩
    refine enter (Kn := Kn) (sl := [sv some_311, sv others_312, .any, .any]) ek ⟨⟨v_0, rfl, hv_0⟩, ⟨v_1, rfl, hv_1⟩, trivial, trivial, trivial⟩ ?_
    have q := rng_of q
    refine SB.seqB (fun kx_ => sb_dnewK (κ := Str) (β := Int) (sl' := fun p_found_313 => [sv some_311, sv others_312, .at p_found_313, .any]) rfl (fun _ => rfl) (fun p_found_313 => (kx_ _ _ ?_)))
    obtain ⟨found_324, h_tot_320, hf⟩ := bind_some hf
    refine SB.seqB (fun kx_325 => sb_forD (dit_keys (i := 0)) rfl (Sx := (Dc Str Int)) (fun s => [sv some_311, sv others_312, .at p_found_313, .any]) (fun s => [oo p_found_313 s]) (fun x s => [sv some_311, sv others_312, .at p_found_313, sv x]) [3] (fun xs s => forS (m_lesser_L1 some_311 others_312) xs s = some found_324) (Dc.mk ([] : List (Str × Int))) h_tot_320 (.keep (.keep (.keep (.keep .nil)))) (List.Sublist.refl _) (fun x s => (gt_name rfl)) ?_ ?_)
    · intro F1_ Kn1 R1_ mv_ bk_ name_315 rest_ found_314 hP_317 N_ hN_316
      obtain ⟨c_, hc_318, hP_317⟩ := bind_some hP_317
      have q_319 := q.mv mv_
      unfold m_lesser_L1 at hc_318
      refine SB.is (sl' := [sv some_311, sv others_312, .at p_found_313, sv name_315]) (ow1 := [oo p_found_313 found_314]) rfl rfl ?_
      obtain ⟨i_321, h_i_321, hc_318⟩ := bind_some hc_318
      obtain ⟨i_322, h_i_322, hc_318⟩ := bind_some hc_318
      obtain ⟨found_323, h_found_323, hc_318⟩ := bind_some hc_318
      refine sb_dput (i := 2) (j := 0) rfl rfl (ev_op (ev_dget (ev_var (i := 0) rfl) (ev_var (i := 3) rfl) h_i_321) (ev_dget (ev_var (i := 1) rfl) (ev_var (i := 3) rfl) h_i_322) r2_sub) (ev_var (i := 3) rfl) h_found_323 (ow1 := [oo p_found_313 found_323]) rfl ?_
      cases hc_318
      exact fun σ Kn H s => hN_316 _ hP_317 σ Kn H ((s.le (.keep (.keep (.keep (.drop .nil))))).sub (List.Sublist.refl _))
    · intro s_ h0
      cases h0
      refine kx_325 _ _ ?_
      refine SB.is (sl' := [sv some_311, sv others_312, .at p_found_313, .any]) (ow1 := [oo p_found_313 found_324]) rfl rfl ?_
      cases hf
      exact sb_retG (i := 2) (j := 0) rfl rfl q (List.Sublist.cons _ List.Sublist.slnil)
theorem sc_grown : FnScope ["room", "items", "wishes", "more", "level", "sizes", "name"] ["room", "items"] (defScope s_grown) := ⟨rfl, rfl, rfl, by decide +kernel, rfl, by decide +kernel, by decide +kernel⟩
set_option maxHeartbeats 4000000 in
theorem ok_grown (T : TX K mg w) : FnOk P w K mg base CX0 3 T.a_grown T.d_grown ["room", "items"] (PQ (τ := Int × (Dc Str (Int × Int × Int × Int × Int × Int × Unit)) × Unit) K (fun t => m_grown t.1 t.2.1)) := by
  refine T.F_grown.ok sc_grown (fun vs H Q E h => ?_) (fun cdv A outer s H vs Q E hr h => ?_)
  · obtain ⟨Kn, t, r, ek, h, hf, q⟩ := h
    exact Tp.len h
  · obtain ⟨Kn, t, r_, ek, h, hf, q⟩ := h
    obtain ⟨room_326, items_327, u_⟩ := t
    obtain ⟨v_0, rr_, rfl, hv_0, h⟩ := h
    obtain ⟨v_1, rr_, rfl, hv_1, h⟩ := h
    obtain rfl := h
    replace hf : m_grown room_326 items_327 = some r_ := hf
    unfold m_grown at hf
    refine ⟨_, (pss_cons (ps_set (i := 2) sc_grown.nd rfl (.inl rfl) (pe_call (ok_picked T) (hr.mono (by decide)) (by rfl) T.g_picked T.F_picked.kp T.b_picked .nil pass0 (pa_cons (pv 1) (pa_cons pe_int pa_nil))))
      (pss_cons (ps_asg (pe_call (ok_pour T) hr (by rfl) T.g_pour T.F_pour.kp T.b_pour .nil pass0 (pa_cons (pe_op op_sub (pv 0) (pe_sumVals rfl (by rfl) T.z_sum (pv 2))) (pa_cons (pe_call (ok_picked T) (hr.mono (by decide)) (by rfl) T.g_picked T.F_picked.kp T.b_picked .nil pass0 (pa_cons (pv 1) (pa_cons pe_int pa_nil))) (pa_cons (pe_call (ok_lesser T) (hr.mono (by decide)) (by rfl) T.g_lesser T.F_lesser.kp T.b_lesser .nil pass0 (pa_cons (pe_call (ok_picked T) (hr.mono (by decide)) (by rfl) T.g_picked T.F_picked.kp T.b_picked .nil pass0 (pa_cons (pv 1) (pa_cons pe_int pa_nil))) (pa_cons (pv 2) pa_nil))) pa_nil)))) (kpg_tup (pgs_cons (pg_name (i := 3) sc_grown.nd rfl (.inl rfl)) (pgs_cons (pg_name (i := 4) sc_grown.nd rfl (.inl rfl)) pgs_nil))))
      (pss_cons (ps_set (i := 5) sc_grown.nd rfl (.inl rfl) pe_dnewK)
      (pss_cons (ps_lk (ps_for PassesOwn.never rfl (pi_keys (pv 1)) (pg_name (i := 6) sc_grown.nd rfl (.inl rfl)) (pss_one (k_dput hr.units (pv 5) (pv 6) (pe_op op_add (k_dget hr.units (pv 2) (pv 6) (fun _ _ => rfl)) (k_dget hr.units (pv 3) (pv 6) (fun _ _ => rfl))) rfl))))
      (pss_one (ps_ret (pe_tup (pa_cons (pv 5) (pa_cons (pe_op op_sub (pv 0) (pe_sumVals rfl (by rfl) T.z_sum (pv 5))) (pa_cons (pe_lst (pa_cons (pv 4) pa_nil)) pa_nil)))))))))), ?_⟩
    refine enter (Kn := Kn) (sl := [sv room_326, sv items_327, .any, .any, .any, .any, .any]) ek ⟨⟨v_0, rfl, hv_0⟩, ⟨v_1, rfl, hv_1⟩, trivial, trivial, trivial, trivial, trivial, trivial⟩ ?_
    have q := rnq_of q
    obtain ⟨r_328, h_r_328, hf⟩ := bind_some hf
    obtain ⟨wishes_329, h_wishes_329, hf⟩ := bind_some hf
    refine SB.seqB (fun kx_ => sb_asg (sl' := [sv room_326, sv items_327, sv wishes_329, .any, .any, .any, .any]) rfl (EV.cast (EG.ev (eg_call (ea_cons (ev_var (i := 1) rfl) (ea_cons (ev_int 1) ea_nil)) h_r_328)) (Option.some.inj h_wishes_329)) (kx_ _ _ ?_))
    obtain ⟨r_330, h_r_330, hf⟩ := bind_some hf
    obtain ⟨r_331, h_r_331, hf⟩ := bind_some hf
    obtain ⟨r_332, h_r_332, hf⟩ := bind_some hf
    obtain ⟨r_333, h_r_333, hf⟩ := bind_some hf
    obtain ⟨⟨more_334, level_335, _⟩, h_more_334, hf⟩ := bind_some hf
    refine SB.seqB (fun kx_ => sb_unp (sl' := [sv room_326, sv items_327, sv wishes_329, sv more_334, sv level_335, .any, .any]) (EV.cast (EPG.ev (epg_call (ea_cons (ev_op (ev_var (i := 0) rfl) (ev_sumVals (ev_var (i := 2) rfl)) r2_sub) (ea_cons (EG.ev (eg_call (ea_cons (ev_var (i := 1) rfl) (ea_cons (ev_int 3) ea_nil)) h_r_330)) (ea_cons (EG.ev (eg_call (ea_cons (EG.ev (eg_call (ea_cons (ev_var (i := 1) rfl) (ea_cons (ev_int 2) ea_nil)) h_r_331)) (ea_cons (ev_var (i := 2) rfl) ea_nil)) h_r_332)) ea_nil))) h_r_333)) (Option.some.inj h_more_334)) (gt_tup (gts_cons (gt_name rfl) (gts_cons (gt_name rfl) gts_nil))) (kx_ _ _ ?_))
    refine SB.seqB (fun kx_ => sb_dnewK (κ := Str) (β := Int) (sl' := fun p_sizes_336 => [sv room_326, sv items_327, sv wishes_329, sv more_334, sv level_335, .at p_sizes_336, .any]) rfl (fun _ => rfl) (fun p_sizes_336 => (kx_ _ _ ?_)))
    obtain ⟨sizes_347, h_tot_343, hf⟩ := bind_some hf
    refine SB.seqB (fun kx_348 => sb_forD (dit_keys (i := 1)) rfl (Sx := (Dc Str Int)) (fun s => [sv room_326, sv items_327, sv wishes_329, sv more_334, sv level_335, .at p_sizes_336, .any]) (fun s => [oo p_sizes_336 s]) (fun x s => [sv room_326, sv items_327, sv wishes_329, sv more_334, sv level_335, .at p_sizes_336, sv x]) [6] (fun xs s => forS (m_grown_L1 wishes_329 more_334) xs s = some sizes_347) (Dc.mk ([] : List (Str × Int))) h_tot_343 (.keep (.keep (.keep (.keep (.keep (.keep (.keep .nil))))))) (List.Sublist.refl _) (fun x s => (gt_name rfl)) ?_ ?_)
    · intro F1_ Kn1 R1_ mv_ bk_ name_338 rest_ sizes_337 hP_340 N_ hN_339
      obtain ⟨c_, hc_341, hP_340⟩ := bind_some hP_340
      have q_342 := q.mv mv_
      unfold m_grown_L1 at hc_341
      refine SB.is (sl' := [sv room_326, sv items_327, sv wishes_329, sv more_334, sv level_335, .at p_sizes_336, sv name_338]) (ow1 := [oo p_sizes_336 sizes_337]) rfl rfl ?_
      obtain ⟨i_344, h_i_344, hc_341⟩ := bind_some hc_341
      obtain ⟨i_345, h_i_345, hc_341⟩ := bind_some hc_341
      obtain ⟨sizes_346, h_sizes_346, hc_341⟩ := bind_some hc_341
      refine sb_dput (i := 5) (j := 0) rfl rfl (ev_op (ev_dget (ev_var (i := 2) rfl) (ev_var (i := 6) rfl) h_i_344) (ev_dget (ev_var (i := 3) rfl) (ev_var (i := 6) rfl) h_i_345) r2_add) (ev_var (i := 6) rfl) h_sizes_346 (ow1 := [oo p_sizes_336 sizes_346]) rfl ?_
      cases hc_341
      exact fun σ Kn H s => hN_339 _ hP_340 σ Kn H ((s.le (.keep (.keep (.keep (.keep (.keep (.keep (.drop .nil)))))))).sub (List.Sublist.refl _))
    · intro s_ h0
      cases h0
      refine kx_348 _ _ ?_
      refine SB.is (sl' := [sv room_326, sv items_327, sv wishes_329, sv more_334, sv level_335, .at p_sizes_336, .any]) (ow1 := [oo p_sizes_336 sizes_347]) rfl rfl ?_
      cases hf
      exact sb_retQN (i := 5) (j := 0) rfl rfl (ev_op (ev_var (i := 0) rfl) (ev_borG (i := 5) (j := 0) (sl' := [sv room_326, sv items_327, sv wishes_329, sv more_334, sv level_335, sv sizes_347, .any]) (ow1 := []) rfl rfl rfl rfl (ev_sumVals (ev_var (i := 5) rfl))) r2_sub) (en_lst (el_cons (ev_var (i := 4) rfl) el_nil)) q (List.Sublist.cons _ List.Sublist.slnil)
theorem sc_shrunk : FnScope ["room", "items", "sizes", "leasts", "taken", "level", "levels"] ["room", "items"] (defScope s_shrunk) := ⟨rfl, rfl, rfl, by decide +kernel, rfl, by decide +kernel, by decide +kernel⟩
set_option maxHeartbeats 4000000 in
theorem ok_shrunk (T : TX K mg w) : FnOk P w K mg base CX0 3 T.a_shrunk T.d_shrunk ["room", "items"] (PQ (τ := Int × (Dc Str (Int × Int × Int × Int × Int × Int × Unit)) × Unit) K (fun t => m_shrunk t.1 t.2.1)) := by
  refine T.F_shrunk.ok sc_shrunk (fun vs H Q E h => ?_) (fun cdv A outer s H vs Q E hr h => ?_)
  · obtain ⟨Kn, t, r, ek, h, hf, q⟩ := h
    exact Tp.len h
  · obtain ⟨Kn, t, r_, ek, h, hf, q⟩ := h
    obtain ⟨room_349, items_350, u_⟩ := t
    obtain ⟨v_0, rr_, rfl, hv_0, h⟩ := h
    obtain ⟨v_1, rr_, rfl, hv_1, h⟩ := h
    obtain rfl := h
    replace hf : m_shrunk room_349 items_350 = some r_ := hf
    unfold m_shrunk at hf
    refine ⟨_, (pss_cons (ps_set (i := 2) sc_shrunk.nd rfl (.inl rfl) (pe_call (ok_picked T) (hr.mono (by decide)) (by rfl) T.g_picked T.F_picked.kp T.b_picked .nil pass0 (pa_cons (pv 1) (pa_cons pe_int pa_nil))))
      (pss_cons (ps_set (i := 3) sc_shrunk.nd rfl (.inl rfl) (pe_call (ok_picked T) (hr.mono (by decide)) (by rfl) T.g_picked T.F_picked.kp T.b_picked .nil pass0 (pa_cons (pv 1) (pa_cons pe_int pa_nil))))
      (pss_cons (ps_asg (pe_call (ok_pour T) hr (by rfl) T.g_pour T.F_pour.kp T.b_pour .nil pass0 (pa_cons (pe_op op_sub (pe_sumVals rfl (by rfl) T.z_sum (pv 2)) (pv 0)) (pa_cons (pe_call (ok_picked T) (hr.mono (by decide)) (by rfl) T.g_picked T.F_picked.kp T.b_picked .nil pass0 (pa_cons (pv 1) (pa_cons pe_int pa_nil))) (pa_cons (pe_call (ok_lesser T) (hr.mono (by decide)) (by rfl) T.g_lesser T.F_lesser.kp T.b_lesser .nil pass0 (pa_cons (pv 2) (pa_cons (pv 3) pa_nil))) pa_nil)))) (kpg_tup (pgs_cons (pg_name (i := 4) sc_shrunk.nd rfl (.inl rfl)) (pgs_cons (pg_name (i := 5) sc_shrunk.nd rfl (.inl rfl)) pgs_nil))))
      (pss_cons (ps_set (i := 2) sc_shrunk.nd rfl (.inl rfl) (pe_call (ok_lesser T) (hr.mono (by decide)) (by rfl) T.g_lesser T.F_lesser.kp T.b_lesser .nil pass0 (pa_cons (pv 2) (pa_cons (pv 4) pa_nil))))
      (pss_cons (ps_set (i := 6) sc_shrunk.nd rfl (.inl rfl) (pe_lst (pa_cons (pv 5) pa_nil)))
      (pss_cons (ps_if (pt_cmpR op_gt (pe_sumVals rfl (by rfl) T.z_sum (pv 2)) (pv 0) (nomark _)) (pss_cons (ps_asg (pe_call (ok_pour T) hr (by rfl) T.g_pour T.F_pour.kp T.b_pour .nil pass0 (pa_cons (pe_op op_sub (pe_sumVals rfl (by rfl) T.z_sum (pv 2)) (pv 0)) (pa_cons (pe_call (ok_ones T) (hr.mono (by decide)) (by rfl) T.g_ones T.F_ones.kp T.b_ones .nil pass0 (pa_cons (pv 2) pa_nil)) (pa_cons (pe_call (ok_lesser T) (hr.mono (by decide)) (by rfl) T.g_lesser T.F_lesser.kp T.b_lesser .nil pass0 (pa_cons (pv 2) (pa_cons (pv 3) pa_nil))) pa_nil)))) (kpg_tup (pgs_cons (pg_name (i := 4) sc_shrunk.nd rfl (.inl rfl)) (pgs_cons (pg_name (i := 5) sc_shrunk.nd rfl (.inl rfl)) pgs_nil))))
      (pss_cons (ps_set (i := 2) sc_shrunk.nd rfl (.inl rfl) (pe_call (ok_lesser T) (hr.mono (by decide)) (by rfl) T.g_lesser T.F_lesser.kp T.b_lesser .nil pass0 (pa_cons (pv 2) (pa_cons (pv 4) pa_nil))))
      (pss_one (ps_expr (pe_bm PySem.F.plainAttrs_list PySem.F.slot_list_append PySem.F.type_list_append mt_append (pv 6) (pa_cons (pv 5) pa_nil)))))) pss_nil)
      (pss_one (ps_ret (pe_tup (pa_cons (pv 2) (pa_cons pe_int (pa_cons (pv 6) pa_nil)))))))))))), ?_⟩
    refine enter (Kn := Kn) (sl := [sv room_349, sv items_350, .any, .any, .any, .any, .any]) ek ⟨⟨v_0, rfl, hv_0⟩, ⟨v_1, rfl, hv_1⟩, trivial, trivial, trivial, trivial, trivial, trivial⟩ ?_
    have q := rnq_of q
    obtain ⟨r_351, h_r_351, hf⟩ := bind_some hf
    obtain ⟨sizes_352, h_sizes_352, hf⟩ := bind_some hf
    refine SB.seqB (fun kx_ => sb_asgG (sl' := fun p_sizes_352 => [sv room_349, sv items_350, .at p_sizes_352, .any, .any, .any, .any]) (fun _ => rfl) (EG.cast (eg_call (ea_cons (ev_var (i := 1) rfl) (ea_cons (ev_int 1) ea_nil)) h_r_351) (Option.some.inj h_sizes_352)) (fun p_sizes_352 => (kx_ _ _ ?_)))
    obtain ⟨r_353, h_r_353, hf⟩ := bind_some hf
    obtain ⟨leasts_354, h_leasts_354, hf⟩ := bind_some hf
    refine SB.seqB (fun kx_ => sb_asg (sl' := [sv room_349, sv items_350, .at p_sizes_352, sv leasts_354, .any, .any, .any]) rfl (EV.cast (EG.ev (eg_call (ea_cons (ev_var (i := 1) rfl) (ea_cons (ev_int 0) ea_nil)) h_r_353)) (Option.some.inj h_leasts_354)) (kx_ _ _ ?_))
    refine sb_freezeG (i := 2) (j := 0) (sl' := [sv room_349, sv items_350, sv sizes_352, sv leasts_354, .any, .any, .any]) (ow1 := []) rfl rfl rfl rfl ?_
    obtain ⟨r_355, h_r_355, hf⟩ := bind_some hf
    obtain ⟨r_356, h_r_356, hf⟩ := bind_some hf
    obtain ⟨r_357, h_r_357, hf⟩ := bind_some hf
    obtain ⟨⟨taken_358, level_359, _⟩, h_taken_358, hf⟩ := bind_some hf
    refine SB.seqB (fun kx_ => sb_unp (sl' := [sv room_349, sv items_350, sv sizes_352, sv leasts_354, sv taken_358, sv level_359, .any]) (EV.cast (EPG.ev (epg_call (ea_cons (ev_op (ev_sumVals (ev_var (i := 2) rfl)) (ev_var (i := 0) rfl) r2_sub) (ea_cons (EG.ev (eg_call (ea_cons (ev_var (i := 1) rfl) (ea_cons (ev_int 4) ea_nil)) h_r_355)) (ea_cons (EG.ev (eg_call (ea_cons (ev_var (i := 2) rfl) (ea_cons (ev_var (i := 3) rfl) ea_nil)) h_r_356)) ea_nil))) h_r_357)) (Option.some.inj h_taken_358)) (gt_tup (gts_cons (gt_name rfl) (gts_cons (gt_name rfl) gts_nil))) (kx_ _ _ ?_))
    obtain ⟨r_360, h_r_360, hf⟩ := bind_some hf
    obtain ⟨sizes_361, h_sizes_361, hf⟩ := bind_some hf
    refine SB.seqB (fun kx_ => sb_asgG (sl' := fun p_sizes_361 => [sv room_349, sv items_350, .at p_sizes_361, sv leasts_354, sv taken_358, sv level_359, .any]) (fun _ => rfl) (EG.cast (eg_call (ea_cons (ev_var (i := 2) rfl) (ea_cons (ev_var (i := 4) rfl) ea_nil)) h_r_360) (Option.some.inj h_sizes_361)) (fun p_sizes_361 => (kx_ _ _ ?_)))
    obtain ⟨levels_362, h_levels_362, hf⟩ := bind_some hf
    refine SB.seqB (fun kx_ => sb_asgO (sl' := fun p_levels_362 => [sv room_349, sv items_350, .at p_sizes_361, sv leasts_354, sv taken_358, sv level_359, .at p_levels_362]) (fun _ => rfl) (EN.cast (en_lst (el_cons (ev_var (i := 5) rfl) el_nil)) (Option.some.inj h_levels_362)) (fun p_levels_362 => (kx_ _ _ ?_)))
    refine SB.seqB (fun kx_365 => sb_if (b := (decide (room_349 < ((sizes_361.l.map (·.2)).sum)))) (et_test (ev_borG (i := 2) (j := 1) (sl' := [sv room_349, sv items_350, sv sizes_361, sv leasts_354, sv taken_358, sv level_359, .at p_levels_362]) (ow1 := [ol p_levels_362 levels_362]) rfl rfl rfl rfl (ev_op (ev_sumVals (ev_var (i := 2) rfl)) (ev_var (i := 0) rfl) r2_gt))) (fun hb_364 => ?_) (fun hb_364 => ?_))
    · have hf := ite_t hb_364 hf
      refine sb_freezeG (i := 2) (j := 1) (sl' := [sv room_349, sv items_350, sv sizes_361, sv leasts_354, sv taken_358, sv level_359, .at p_levels_362]) (ow1 := [ol p_levels_362 levels_362]) rfl rfl rfl rfl ?_
      obtain ⟨r_366, h_r_366, hf⟩ := bind_some hf
      obtain ⟨r_367, h_r_367, hf⟩ := bind_some hf
      obtain ⟨r_368, h_r_368, hf⟩ := bind_some hf
      obtain ⟨⟨taken_369, level_370, _⟩, h_taken_369, hf⟩ := bind_some hf
      refine SB.seqB (fun kx_ => sb_unp (sl' := [sv room_349, sv items_350, sv sizes_361, sv leasts_354, sv taken_369, sv level_370, .at p_levels_362]) (EV.cast (EPG.ev (epg_call (ea_cons (ev_op (ev_sumVals (ev_var (i := 2) rfl)) (ev_var (i := 0) rfl) r2_sub) (ea_cons (EG.ev (eg_call (ea_cons (ev_updc (ev_var (i := 2) rfl)) ea_nil) h_r_366)) (ea_cons (EG.ev (eg_call (ea_cons (ev_var (i := 2) rfl) (ea_cons (ev_var (i := 3) rfl) ea_nil)) h_r_367)) ea_nil))) h_r_368)) (Option.some.inj h_taken_369)) (gt_tup (gts_cons (gt_name rfl) (gts_cons (gt_name rfl) gts_nil))) (kx_ _ _ ?_))
      obtain ⟨r_371, h_r_371, hf⟩ := bind_some hf
      obtain ⟨sizes_372, h_sizes_372, hf⟩ := bind_some hf
      refine SB.seqB (fun kx_ => sb_asgG (sl' := fun p_sizes_372 => [sv room_349, sv items_350, .at p_sizes_372, sv leasts_354, sv taken_369, sv level_370, .at p_levels_362]) (fun _ => rfl) (EG.cast (eg_call (ea_cons (ev_var (i := 2) rfl) (ea_cons (ev_var (i := 4) rfl) ea_nil)) h_r_371) (Option.some.inj h_sizes_372)) (fun p_sizes_372 => (kx_ _ _ ?_)))
      obtain ⟨levels_373, h_levels_373, hf⟩ := bind_some hf
      refine sb_appO (i := 6) (j := 1) rfl rfl (ev_var (i := 5) rfl) h_levels_373 (ow1 := [oo p_sizes_372 sizes_372, ol p_levels_362 levels_373]) rfl ?_
      refine kx_365 _ _ ?_
      cases hf
      exact sb_retQ (i := 2) (j := 0) (k := 6) (m := 1) rfl rfl rfl rfl (ev_int 0) q (List.Sublist.cons _ (List.Sublist.cons _ List.Sublist.slnil))
    · have hf := ite_f hb_364 hf
      refine sb_nx ?_
      refine kx_365 _ _ ?_
      cases hf
      exact sb_retQ (i := 2) (j := 1) (k := 6) (m := 0) rfl rfl rfl rfl (ev_int 0) q (List.Sublist.cons _ (List.Sublist.cons _ List.Sublist.slnil))
theorem sc_of_rank : FnScope ["items", "rank", "found", "name"] ["items", "rank"] (defScope s_of_rank) := ⟨rfl, rfl, rfl, by decide +kernel, rfl, by decide +kernel, by decide +kernel⟩
set_option maxHeartbeats 4000000 in
theorem ok_of_rank (T : TX K mg w) : FnOk P w K mg base CX0 1 T.a_of_rank T.d_of_rank ["items", "rank"] (PG (τ := (Dc Str (Int × Int × Int × Int × Int × Int × Unit)) × Int × Unit) K (fun t => m_of_rank t.1 t.2.1)) := by
  refine T.F_of_rank.ok sc_of_rank (fun vs H Q E h => ?_) (fun cdv A outer s H vs Q E hr h => ?_)
  · obtain ⟨Kn, t, r, ek, h, hf, q⟩ := h
    exact Tp.len h
  · obtain ⟨Kn, t, r_, ek, h, hf, q⟩ := h
    obtain ⟨items_374, rank_375, u_⟩ := t
    obtain ⟨v_0, rr_, rfl, hv_0, h⟩ := h
    obtain ⟨v_1, rr_, rfl, hv_1, h⟩ := h
    obtain rfl := h
    replace hf : m_of_rank items_374 rank_375 = some r_ := hf
    unfold m_of_rank at hf
    refine ⟨_, (pss_cons (ps_set (i := 2) sc_of_rank.nd rfl (.inl rfl) pe_dnewK)
      (pss_cons (ps_lk (ps_for PassesOwn.never rfl (pi_keys (pv 0)) (pg_name (i := 3) sc_of_rank.nd rfl (.inl rfl)) (pss_one (ps_if (pt_cmpR op_eq (pe_ix k_ixt (k_dget hr.units (pv 0) (pv 3) (fun _ _ => rfl)) pe_int (fun _ _ => rfl)) (pv 1) (nomark _)) (pss_one (k_dput hr.units (pv 2) (pv 3) (pe_ix k_ixt (k_dget hr.units (pv 0) (pv 3) (fun _ _ => rfl)) pe_int (fun _ _ => rfl)) rfl)) pss_nil))))
      (pss_one (ps_ret (pv 2))))), ?_⟩
    refine enter (Kn := Kn) (sl := [sv items_374, sv rank_375, .any, .any]) ek ⟨⟨v_0, rfl, hv_0⟩, ⟨v_1, rfl, hv_1⟩, trivial, trivial, trivial⟩ ?_
    have q := rng_of q
    refine SB.seqB (fun kx_ => sb_dnewK (κ := Str) (β := Int) (sl' := fun p_found_376 => [sv items_374, sv rank_375, .at p_found_376, .any]) rfl (fun _ => rfl) (fun p_found_376 => (kx_ _ _ ?_)))
    obtain ⟨found_390, h_tot_383, hf⟩ := bind_some hf
    refine SB.seqB (fun kx_391 => sb_forD (dit_keys (i := 0)) rfl (Sx := (Dc Str Int)) (fun s => [sv items_374, sv rank_375, .at p_found_376, .any]) (fun s => [oo p_found_376 s]) (fun x s => [sv items_374, sv rank_375, .at p_found_376, sv x]) [3] (fun xs s => forS (m_of_rank_L1 items_374 rank_375) xs s = some found_390) (Dc.mk ([] : List (Str × Int))) h_tot_383 (.keep (.keep (.keep (.keep .nil)))) (List.Sublist.refl _) (fun x s => (gt_name rfl)) ?_ ?_)
    · intro F1_ Kn1 R1_ mv_ bk_ name_378 rest_ found_377 hP_380 N_ hN_379
      obtain ⟨c_, hc_381, hP_380⟩ := bind_some hP_380
      have q_382 := q.mv mv_
      unfold m_of_rank_L1 at hc_381
      refine SB.is (sl' := [sv items_374, sv rank_375, .at p_found_376, sv name_378]) (ow1 := [oo p_found_376 found_377]) rfl rfl ?_
      obtain ⟨i_385, h_i_385, hc_381⟩ := bind_some hc_381
      refine sb_if (b := (decide (i_385.2.2.2.2.2.1 = rank_375))) (et_test (ev_op (ev_op (ev_dget (ev_var (i := 0) rfl) (ev_var (i := 3) rfl) h_i_385) (ev_int 5) (r2_tix (n := 5) (At.s _ (At.s _ (At.s _ (At.s _ (At.s _ (At.z _ _)))))))) (ev_var (i := 1) rfl) r2_eqI)) (fun hb_386 => ?_) (fun hb_386 => ?_)
      · have hc_381 := ite_t hb_386 hc_381
        obtain ⟨i_388, h_i_388, hc_381⟩ := bind_some hc_381
        obtain ⟨found_389, h_found_389, hc_381⟩ := bind_some hc_381
        refine sb_dput (i := 2) (j := 0) rfl rfl (ev_op (ev_dget (ev_var (i := 0) rfl) (ev_var (i := 3) rfl) h_i_388) (ev_int 0) (r2_tix (n := 0) (At.z _ _))) (ev_var (i := 3) rfl) h_found_389 (ow1 := [oo p_found_376 found_389]) rfl ?_
        cases hc_381
        exact fun σ Kn H s => hN_379 _ hP_380 σ Kn H ((s.le (.keep (.keep (.keep (.drop .nil))))).sub (List.Sublist.refl _))
      · have hc_381 := ite_f hb_386 hc_381
        refine sb_nx ?_
        cases hc_381
        exact fun σ Kn H s => hN_379 _ hP_380 σ Kn H ((s.le (.keep (.keep (.keep (.drop .nil))))).sub (List.Sublist.refl _))
    · intro s_ h0
      cases h0
      refine kx_391 _ _ ?_
      refine SB.is (sl' := [sv items_374, sv rank_375, .at p_found_376, .any]) (ow1 := [oo p_found_376 found_390]) rfl rfl ?_
      cases hf
      exact sb_retG (i := 2) (j := 0) rfl rfl q (List.Sublist.cons _ List.Sublist.slnil)
theorem sc_given_way : FnScope ["room", "items", "sizes", "lack", "levels", "rank", "leasts", "part", "taken", "level"] ["room", "items"] (defScope s_given_way) := ⟨rfl, rfl, rfl, by decide +kernel, rfl, by decide +kernel, by decide +kernel⟩
set_option maxHeartbeats 4000000 in
theorem ok_given_way (T : TX K mg w) : FnOk P w K mg base CX0 3 T.a_given_way T.d_given_way ["room", "items"] (PQ (τ := Int × (Dc Str (Int × Int × Int × Int × Int × Int × Unit)) × Unit) K (fun t => m_given_way t.1 t.2.1)) := by
  refine T.F_given_way.ok sc_given_way (fun vs H Q E h => ?_) (fun cdv A outer s H vs Q E hr h => ?_)
  · obtain ⟨Kn, t, r, ek, h, hf, q⟩ := h
    exact Tp.len h
  · obtain ⟨Kn, t, r_, ek, h, hf, q⟩ := h
    obtain ⟨room_392, items_393, u_⟩ := t
    obtain ⟨v_0, rr_, rfl, hv_0, h⟩ := h
    obtain ⟨v_1, rr_, rfl, hv_1, h⟩ := h
    obtain rfl := h
    replace hf : m_given_way room_392 items_393 = some r_ := hf
    unfold m_given_way at hf
    refine ⟨_, (pss_cons (ps_set (i := 2) sc_given_way.nd rfl (.inl rfl) (pe_call (ok_picked T) (hr.mono (by decide)) (by rfl) T.g_picked T.F_picked.kp T.b_picked .nil pass0 (pa_cons (pv 1) (pa_cons pe_int pa_nil))))
      (pss_cons (ps_set (i := 3) sc_given_way.nd rfl (.inl rfl) (pe_op op_sub (pe_sumVals rfl (by rfl) T.z_sum (pv 2)) (pv 0)))
      (pss_cons (ps_set (i := 4) sc_given_way.nd rfl (.inl rfl) (pe_lst pa_nil))
      (pss_cons (ps_for PassesOwn.never rfl (pi_range1 (by rfl) T.z_range (pa_cons (pe_glob (v := .int 10) (by rfl) T.gi_RANKS ⟨_, rfl⟩) pa_nil)) (pg_name (i := 5) sc_given_way.nd rfl (.inl rfl)) (pss_cons (ps_set (i := 6) sc_given_way.nd rfl (.inl rfl) (pe_call (ok_of_rank T) (hr.mono (by decide)) (by rfl) T.g_of_rank T.F_of_rank.kp T.b_of_rank .nil pass0 (pa_cons (pv 1) (pa_cons (pv 5) pa_nil))))
      (pss_one (ps_if (PW.pt (pw_and (pt_cmpR op_gt (pv 3) pe_int (nomark _)) (pw_and1 (pt_cmpR (k_top hr.units) (pv 6) pe_dnewK (nomark _))))) (pss_cons (ps_set (i := 7) sc_given_way.nd rfl (.inl rfl) (pe_callB k_min2 (by rfl) T.z_min (by decide +kernel) (pa_cons (pv 3) (pa_cons (pe_sumVals rfl (by rfl) T.z_sum (pv 6)) pa_nil))))
      (pss_cons (ps_asg (pe_call (ok_pour T) hr (by rfl) T.g_pour T.F_pour.kp T.b_pour .nil pass0 (pa_cons (pv 7) (pa_cons (pe_call (ok_ones T) (hr.mono (by decide)) (by rfl) T.g_ones T.F_ones.kp T.b_ones .nil pass0 (pa_cons (pv 6) pa_nil)) (pa_cons (pv 6) pa_nil)))) (kpg_tup (pgs_cons (pg_name (i := 8) sc_given_way.nd rfl (.inl rfl)) (pgs_cons (pg_name (i := 9) sc_given_way.nd rfl (.inl rfl)) pgs_nil))))
      (pss_cons (ps_expr (pe_bm PySem.F.plainAttrs_dict PySem.F.slot_dict_update PySem.F.type_dict_update mt_updK (pv 2) (pa_cons (pe_call (ok_lesser T) (hr.mono (by decide)) (by rfl) T.g_lesser T.F_lesser.kp T.b_lesser .nil pass0 (pa_cons (pv 6) (pa_cons (pv 8) pa_nil))) pa_nil)))
      (pss_cons (ps_expr (pe_bm PySem.F.plainAttrs_list PySem.F.slot_list_append PySem.F.type_list_append mt_append (pv 4) (pa_cons (pv 9) pa_nil)))
      (pss_one (ps_aug (i := 3) sc_given_way.nd rfl (.inl rfl) (pv 7) ip_sub)))))) pss_nil))))
      (pss_one (ps_ret (pe_tup (pa_cons (pv 2) (pa_cons pe_int (pa_cons (pv 4) pa_nil)))))))))), ?_⟩
    refine enter (Kn := Kn) (sl := [sv room_392, sv items_393, .any, .any, .any, .any, .any, .any, .any, .any]) ek ⟨⟨v_0, rfl, hv_0⟩, ⟨v_1, rfl, hv_1⟩, trivial, trivial, trivial, trivial, trivial, trivial, trivial, trivial, trivial⟩ ?_
    have q := rnq_of q
    obtain ⟨r_394, h_r_394, hf⟩ := bind_some hf
    obtain ⟨sizes_395, h_sizes_395, hf⟩ := bind_some hf
    refine SB.seqB (fun kx_ => sb_asgG (sl' := fun p_sizes_395 => [sv room_392, sv items_393, .at p_sizes_395, .any, .any, .any, .any, .any, .any, .any]) (fun _ => rfl) (EG.cast (eg_call (ea_cons (ev_var (i := 1) rfl) (ea_cons (ev_int 0) ea_nil)) h_r_394) (Option.some.inj h_sizes_395)) (fun p_sizes_395 => (kx_ _ _ ?_)))
    obtain ⟨lack_396, h_lack_396, hf⟩ := bind_some hf
    refine SB.seqB (fun kx_ => sb_asg (sl' := [sv room_392, sv items_393, .at p_sizes_395, sv lack_396, .any, .any, .any, .any, .any, .any]) rfl (EV.cast (ev_op (ev_borG (i := 2) (j := 0) (sl' := [sv room_392, sv items_393, sv sizes_395, .any, .any, .any, .any, .any, .any, .any]) (ow1 := []) rfl rfl rfl rfl (ev_sumVals (ev_var (i := 2) rfl))) (ev_var (i := 0) rfl) r2_sub) (Option.some.inj h_lack_396)) (kx_ _ _ ?_))
    obtain ⟨levels_397, h_levels_397, hf⟩ := bind_some hf
    refine SB.seqB (fun kx_ => sb_asgO (sl' := fun p_levels_397 => [sv room_392, sv items_393, .at p_sizes_395, sv lack_396, .at p_levels_397, .any, .any, .any, .any, .any]) (fun _ => rfl) (EN.cast (en_lst el_nil) (Option.some.inj h_levels_397)) (fun p_levels_397 => (kx_ _ _ ?_)))
    obtain ⟨rg_398, h_rg_398, hf⟩ := bind_some hf
    obtain ⟨⟨lack_422, levels_423, sizes_424⟩, h_tot_407, hf⟩ := bind_some hf
    refine SB.seqB (fun kx_425 => sb_for (β := Int) (Sx := Int × (List (Option (Int × Int × Unit))) × (Dc Str Int)) (fun s => [sv room_392, sv items_393, .at p_sizes_395, sv s.1, .at p_levels_397, .any, .any, .any, .any, .any]) (fun s => [ol p_levels_397 s.2.1, oo p_sizes_395 s.2.2]) (fun x s => [sv room_392, sv items_393, .at p_sizes_395, sv s.1, .at p_levels_397, sv x, .any, .any, .any, .any]) [5] (fun xs s => forS (m_given_way_L1 items_393) xs s = some (lack_422, levels_423, sizes_424)) (lack_396, levels_397, sizes_395) (IT.m (it_rng1 (ea_cons (ev_int 10) ea_nil) h_rg_398)) h_tot_407 (.keep (.keep (.keep (.keep (.keep (.keep (.keep (.keep (.keep (.keep .nil)))))))))) (List.Sublist.refl _) (fun x s => (gt_name rfl)) ?_ ?_)
    · intro Kn1 b1 rank_402 rest_ s_ hP_404 N_ hN_403
      obtain ⟨lack_399, levels_400, sizes_401⟩ := s_
      obtain ⟨c_, hc_405, hP_404⟩ := bind_some hP_404
      have q_406 := q.base b1
      unfold m_given_way_L1 at hc_405
      refine SB.is (sl' := [sv room_392, sv items_393, .at p_sizes_395, sv lack_399, .at p_levels_397, sv rank_402, .any, .any, .any, .any]) (ow1 := [ol p_levels_397 levels_400, oo p_sizes_395 sizes_401]) rfl rfl ?_
      obtain ⟨r_408, h_r_408, hc_405⟩ := bind_some hc_405
      obtain ⟨leasts_409, h_leasts_409, hc_405⟩ := bind_some hc_405
      refine SB.seqB (fun kx_ => sb_asg (sl' := [sv room_392, sv items_393, .at p_sizes_395, sv lack_399, .at p_levels_397, sv rank_402, sv leasts_409, .any, .any, .any]) rfl (EV.cast (EG.ev (eg_call (ea_cons (ev_var (i := 1) rfl) (ea_cons (ev_var (i := 5) rfl) ea_nil)) h_r_408)) (Option.some.inj h_leasts_409)) (kx_ _ _ ?_))
      refine sb_if (b := ((decide ((0 : Int) < lack_399)) && (!Qe.qe leasts_409 (Dc.mk ([] : List (Str × Int)))))) (et_and (et_test (ev_op (ev_var (i := 3) rfl) (ev_int 0) r2_gt)) (fun _ => (et_test (ev_op (ev_var (i := 6) rfl) (EG.ev eg_new) r2_neQ)))) (fun hb_411 => ?_) (fun hb_411 => ?_)
      · have hc_405 := ite_t hb_411 hc_405
        obtain ⟨part_413, h_part_413, hc_405⟩ := bind_some hc_405
        refine SB.seqB (fun kx_ => sb_asg (sl' := [sv room_392, sv items_393, .at p_sizes_395, sv lack_399, .at p_levels_397, sv rank_402, sv leasts_409, sv part_413, .any, .any]) rfl (EV.cast (ev_cb (ea_cons (ev_var (i := 3) rfl) (ea_cons (ev_sumVals (ev_var (i := 6) rfl)) ea_nil)) rc_min) (Option.some.inj h_part_413)) (kx_ _ _ ?_))
        obtain ⟨r_414, h_r_414, hc_405⟩ := bind_some hc_405
        obtain ⟨r_415, h_r_415, hc_405⟩ := bind_some hc_405
        obtain ⟨⟨taken_416, level_417, _⟩, h_taken_416, hc_405⟩ := bind_some hc_405
        refine SB.seqB (fun kx_ => sb_unp (sl' := [sv room_392, sv items_393, .at p_sizes_395, sv lack_399, .at p_levels_397, sv rank_402, sv leasts_409, sv part_413, sv taken_416, sv level_417]) (EV.cast (EPG.ev (epg_call (ea_cons (ev_var (i := 7) rfl) (ea_cons (EG.ev (eg_call (ea_cons (ev_updc (ev_var (i := 6) rfl)) ea_nil) h_r_414)) (ea_cons (ev_var (i := 6) rfl) ea_nil))) h_r_415)) (Option.some.inj h_taken_416)) (gt_tup (gts_cons (gt_name rfl) (gts_cons (gt_name rfl) gts_nil))) (kx_ _ _ ?_))
        obtain ⟨r_418, h_r_418, hc_405⟩ := bind_some hc_405
        obtain ⟨sizes_419, h_sizes_419, hc_405⟩ := bind_some hc_405
        refine SB.seqB (fun kx_ => sb_updK (i := 2) (j := 1) rfl rfl (EG.ev (eg_call (ea_cons (ev_var (i := 6) rfl) (ea_cons (ev_var (i := 8) rfl) ea_nil)) h_r_418)) h_sizes_419 (ow1 := [ol p_levels_397 levels_400, oo p_sizes_395 sizes_419]) rfl (kx_ _ _ ?_))
        obtain ⟨levels_420, h_levels_420, hc_405⟩ := bind_some hc_405
        refine SB.seqB (fun kx_ => sb_appO (i := 4) (j := 0) rfl rfl (ev_var (i := 9) rfl) h_levels_420 (ow1 := [ol p_levels_397 levels_420, oo p_sizes_395 sizes_419]) rfl (kx_ _ _ ?_))
        obtain ⟨lack_421, h_lack_421, hc_405⟩ := bind_some hc_405
        have h_lack_421 := Option.some.inj h_lack_421
        refine sb_aug (i := 3) (a := lack_399) (c := part_413) (sl' := [sv room_392, sv items_393, .at p_sizes_395, sv lack_421, .at p_levels_397, sv rank_402, sv leasts_409, sv part_413, sv taken_416, sv level_417]) rfl (h_lack_421 ▸ rfl) (ev_var (i := 7) rfl) ?_
        cases hc_405
        exact fun σ Kn H s => hN_403 _ hP_404 σ Kn H ((s.le (.keep (.keep (.keep (.keep (.keep (.drop (.drop (.drop (.drop (.drop .nil))))))))))).sub (List.Sublist.refl _))
      · have hc_405 := ite_f hb_411 hc_405
        refine sb_nx ?_
        cases hc_405
        exact fun σ Kn H s => hN_403 _ hP_404 σ Kn H ((s.le (.keep (.keep (.keep (.keep (.keep (.drop (.drop (.keep (.keep (.keep .nil))))))))))).sub (List.Sublist.refl _))
    · intro s_ h0
      cases h0
      refine kx_425 _ _ ?_
      refine SB.is (sl' := [sv room_392, sv items_393, .at p_sizes_395, sv lack_422, .at p_levels_397, .any, .any, .any, .any, .any]) (ow1 := [ol p_levels_397 levels_423, oo p_sizes_395 sizes_424]) rfl rfl ?_
      cases hf
      exact sb_retQ (i := 2) (j := 1) (k := 4) (m := 0) rfl rfl rfl rfl (ev_int 0) q (List.Sublist.cons _ (List.Sublist.cons _ List.Sublist.slnil))
theorem sc_share : FnScope ["room", "items", "item"] ["room", "items"] (defScope s_share) := ⟨rfl, rfl, rfl, by decide +kernel, rfl, by decide +kernel, by decide +kernel⟩
set_option maxHeartbeats 4000000 in
theorem ok_share (T : TX K mg w) : FnOk P w K mg base CX0 4 T.a_share T.d_share ["room", "items"] (PQ (τ := Int × (Dc Str (Int × Int × Int × Int × Int × Int × Unit)) × Unit) K (fun t => m_share t.1 t.2.1)) := by
  refine T.F_share.ok sc_share (fun vs H Q E h => ?_) (fun cdv A outer s H vs Q E hr h => ?_)
  · obtain ⟨Kn, t, r, ek, h, hf, q⟩ := h
    exact Tp.len h
  · obtain ⟨Kn, t, r_, ek, h, hf, q⟩ := h
    obtain ⟨room_426, items_427, u_⟩ := t
    obtain ⟨v_0, rr_, rfl, hv_0, h⟩ := h
    obtain ⟨v_1, rr_, rfl, hv_1, h⟩ := h
    obtain rfl := h
    replace hf : m_share room_426 items_427 = some r_ := hf
    unfold m_share at hf
    refine ⟨_, (pss_cons (ps_if (pt_cmpR op_ge (pv 0) (pe_callB k_sum (by rfl) T.z_sum (by decide +kernel) (pa_cons (pe_lk (pe_lc (own := [("item", 2)]) (g := gName 2) (tt := tYes) (by rfl) sc_share.nd (pi_values (pv 1)) (blkOk_by (own := [("item", 2)]) (N := ["room", "items", "item"]) (sc := defScope s_share) (by decide +kernel)) (fun _ _ _ _ _ => (pg_name (i := 2) sc_share.nd rfl (Or.inl rfl))) (fun _ _ _ _ _ => pts_nil) (fun _ _ _ _ _ => (pe_ix k_ixt (pv 2) pe_int (fun _ _ => rfl))))) pa_nil)) (nomark _)) (pss_one (ps_ret (pe_call (ok_grown T) hr (by rfl) T.g_grown T.F_grown.kp T.b_grown .nil pass0 (pa_cons (pv 0) (pa_cons (pv 1) pa_nil))))) pss_nil)
      (pss_cons (ps_if (pt_cmpR op_ge (pv 0) (pe_callB k_sum (by rfl) T.z_sum (by decide +kernel) (pa_cons (pe_lk (pe_lc (own := [("item", 2)]) (g := gName 2) (tt := tYes) (by rfl) sc_share.nd (pi_values (pv 1)) (blkOk_by (own := [("item", 2)]) (N := ["room", "items", "item"]) (sc := defScope s_share) (by decide +kernel)) (fun _ _ _ _ _ => (pg_name (i := 2) sc_share.nd rfl (Or.inl rfl))) (fun _ _ _ _ _ => pts_nil) (fun _ _ _ _ _ => (pe_ix k_ixt (pv 2) pe_int (fun _ _ => rfl))))) pa_nil)) (nomark _)) (pss_one (ps_ret (pe_call (ok_shrunk T) hr (by rfl) T.g_shrunk T.F_shrunk.kp T.b_shrunk .nil pass0 (pa_cons (pv 0) (pa_cons (pv 1) pa_nil))))) pss_nil)
      (pss_one (ps_ret (pe_call (ok_given_way T) hr (by rfl) T.g_given_way T.F_given_way.kp T.b_given_way .nil pass0 (pa_cons (pv 0) (pa_cons (pv 1) pa_nil))))))), ?_⟩
    refine enter (Kn := Kn) (sl := [sv room_426, sv items_427, .any]) ek ⟨⟨v_0, rfl, hv_0⟩, ⟨v_1, rfl, hv_1⟩, trivial, trivial⟩ ?_
    have q := rnq_of q
    obtain ⟨zs_430, h_zs_430, hf⟩ := bind_some hf
    refine SB.seqB (fun kx_432 => sb_if (b := (decide ((zs_430).sum ≤ room_426))) (et_test (ev_op (ev_var (i := 0) rfl) (ev_cb (ea_cons (EN.ev (en_lcD (js := [2]) (dit_vals (i := 1)) rfl (fun x => [sv room_426, sv items_427, sv x]) h_zs_430 (anyAt_of (by rfl)) (fun x => (gt_name rfl)) (sub_of (by rfl)) (fun _ _ _ _ x b h => by cases h; exact et_yes) (fun _ _ _ _ x z _ h => by obtain ⟨item_429, hx_⟩ : ∃ y, y = x := ⟨x, rfl⟩; subst hx_; have hz_ := Option.some.inj h; subst hz_; exact EV.is (sl' := [sv room_426, sv items_427, sv item_429]) rfl (ev_op (ev_var (i := 2) rfl) (ev_int 1) (r2_tix (n := 1) (At.s _ (At.z _ _))))))) ea_nil) rc_sum) r2_ge)) (fun hb_431 => ?_) (fun hb_431 => ?_))
    · have hf := ite_t hb_431 hf
      obtain ⟨r_433, h_r_433, hf⟩ := bind_some hf
      cases hf
      exact sb_retE3 (eq3_call (ea_cons (ev_var (i := 0) rfl) (ea_cons (ev_var (i := 1) rfl) ea_nil)) h_r_433) q (List.Sublist.refl _)
    · have hf := ite_f hb_431 hf
      refine sb_nx ?_
      refine kx_432 _ _ ?_
      obtain ⟨zs_436, h_zs_436, hf⟩ := bind_some hf
      refine SB.seqB (fun kx_438 => sb_if (b := (decide ((zs_436).sum ≤ room_426))) (et_test (ev_op (ev_var (i := 0) rfl) (ev_cb (ea_cons (EN.ev (en_lcD (js := [2]) (dit_vals (i := 1)) rfl (fun x => [sv room_426, sv items_427, sv x]) h_zs_436 (anyAt_of (by rfl)) (fun x => (gt_name rfl)) (sub_of (by rfl)) (fun _ _ _ _ x b h => by cases h; exact et_yes) (fun _ _ _ _ x z _ h => by obtain ⟨item_435, hx_⟩ : ∃ y, y = x := ⟨x, rfl⟩; subst hx_; have hz_ := Option.some.inj h; subst hz_; exact EV.is (sl' := [sv room_426, sv items_427, sv item_435]) rfl (ev_op (ev_var (i := 2) rfl) (ev_int 0) (r2_tix (n := 0) (At.z _ _)))))) ea_nil) rc_sum) r2_ge)) (fun hb_437 => ?_) (fun hb_437 => ?_))
      · have hf := ite_t hb_437 hf
        obtain ⟨r_439, h_r_439, hf⟩ := bind_some hf
        cases hf
        exact sb_retE3 (eq3_call (ea_cons (ev_var (i := 0) rfl) (ea_cons (ev_var (i := 1) rfl) ea_nil)) h_r_439) q (List.Sublist.refl _)
      · have hf := ite_f hb_437 hf
        refine sb_nx ?_
        refine kx_438 _ _ ?_
        obtain ⟨r_440, h_r_440, hf⟩ := bind_some hf
        cases hf
        exact sb_retE3 (eq3_call (ea_cons (ev_var (i := 0) rfl) (ea_cons (ev_var (i := 1) rfl) ea_nil)) h_r_440) q (List.Sublist.refl _)
theorem sc_grown_holds : FnScope ["room", "items", "sizes", "over", "levels", "wishes", "more"] ["room", "items", "sizes", "over", "levels"] (defScope s_grown_holds) := ⟨rfl, rfl, rfl, by decide +kernel, rfl, by decide +kernel, by decide +kernel⟩
set_option maxHeartbeats 4000000 in
theorem ok_grown_holds (T : TX K mg w) : FnOk P w K mg base CX0 3 T.a_grown_holds T.d_grown_holds ["room", "items", "sizes", "over", "levels"] (PF (τ := Int × (Dc Str (Int × Int × Int × Int × Int × Int × Unit)) × (Dc Str Int) × Int × (List (Option (Int × Int × Unit))) × Unit) K (fun t => m_grown_holds t.1 t.2.1 t.2.2.1 t.2.2.2.1 t.2.2.2.2.1)) := by
  refine T.F_grown_holds.ok sc_grown_holds (fun vs H Q E h => ?_) (fun cdv A outer s H vs Q E hr h => ?_)
  · obtain ⟨Kn, t, r, ek, h, hf, q⟩ := h
    exact Tp.len h
  · obtain ⟨Kn, t, r_, ek, h, hf, q⟩ := h
    obtain ⟨room_441, items_442, sizes_443, over_444, levels_445, u_⟩ := t
    obtain ⟨v_0, rr_, rfl, hv_0, h⟩ := h
    obtain ⟨v_1, rr_, rfl, hv_1, h⟩ := h
    obtain ⟨v_2, rr_, rfl, hv_2, h⟩ := h
    obtain ⟨v_3, rr_, rfl, hv_3, h⟩ := h
    obtain ⟨v_4, rr_, rfl, hv_4, h⟩ := h
    obtain rfl := h
    replace hf : m_grown_holds room_441 items_442 sizes_443 over_444 levels_445 = some r_ := hf
    unfold m_grown_holds at hf
    refine ⟨_, (pss_cons (ps_set (i := 5) sc_grown_holds.nd rfl (.inl rfl) (pe_call (ok_picked T) (hr.mono (by decide)) (by rfl) T.g_picked T.F_picked.kp T.b_picked .nil pass0 (pa_cons (pv 1) (pa_cons pe_int pa_nil))))
      (pss_cons (ps_set (i := 6) sc_grown_holds.nd rfl (.inl rfl) (pe_call (ok_lesser T) (hr.mono (by decide)) (by rfl) T.g_lesser T.F_lesser.kp T.b_lesser .nil pass0 (pa_cons (pv 2) (pa_cons (pv 5) pa_nil))))
      (pss_cons (ps_if (PW.pt (pw_or (pt_cmpR op_ne (pe_callB k_len (by rfl) T.z_len PySem.boot_len (pa_cons (pv 4) pa_nil)) pe_int (nomark _)) (pw_or1 (pt_cmpR op_ne (pv 3) (pe_op op_sub (pv 0) (pe_sumVals rfl (by rfl) T.z_sum (pv 2))) (nomark _))))) (pss_one (ps_ret pe_bl)) pss_nil)
      (pss_one (ps_ret (pe_call (ok_poured T) hr (by rfl) T.g_poured T.F_poured.kp T.b_poured .nil pass0 (pa_cons (pe_op op_sub (pv 0) (pe_sumVals rfl (by rfl) T.z_sum (pv 5))) (pa_cons (pe_call (ok_picked T) (hr.mono (by decide)) (by rfl) T.g_picked T.F_picked.kp T.b_picked .nil pass0 (pa_cons (pv 1) (pa_cons pe_int pa_nil))) (pa_cons (pe_call (ok_lesser T) (hr.mono (by decide)) (by rfl) T.g_lesser T.F_lesser.kp T.b_lesser .nil pass0 (pa_cons (pe_call (ok_picked T) (hr.mono (by decide)) (by rfl) T.g_picked T.F_picked.kp T.b_picked .nil pass0 (pa_cons (pv 1) (pa_cons pe_int pa_nil))) (pa_cons (pv 5) pa_nil))) (pa_cons (pv 6) (pa_cons (pe_ix k_ixl (pv 4) pe_int (fun _ _ => rfl)) pa_nil))))))))))), ?_⟩
    refine enter (Kn := Kn) (sl := [sv room_441, sv items_442, sv sizes_443, sv over_444, sv levels_445, .any, .any]) ek ⟨⟨v_0, rfl, hv_0⟩, ⟨v_1, rfl, hv_1⟩, ⟨v_2, rfl, hv_2⟩, ⟨v_3, rfl, hv_3⟩, ⟨v_4, rfl, hv_4⟩, trivial, trivial, trivial⟩ ?_
    have q := rt_of q
    obtain ⟨r_446, h_r_446, hf⟩ := bind_some hf
    obtain ⟨wishes_447, h_wishes_447, hf⟩ := bind_some hf
    refine SB.seqB (fun kx_ => sb_asg (sl' := [sv room_441, sv items_442, sv sizes_443, sv over_444, sv levels_445, sv wishes_447, .any]) rfl (EV.cast (EG.ev (eg_call (ea_cons (ev_var (i := 1) rfl) (ea_cons (ev_int 1) ea_nil)) h_r_446)) (Option.some.inj h_wishes_447)) (kx_ _ _ ?_))
    obtain ⟨r_448, h_r_448, hf⟩ := bind_some hf
    obtain ⟨more_449, h_more_449, hf⟩ := bind_some hf
    refine SB.seqB (fun kx_ => sb_asg (sl' := [sv room_441, sv items_442, sv sizes_443, sv over_444, sv levels_445, sv wishes_447, sv more_449]) rfl (EV.cast (EG.ev (eg_call (ea_cons (ev_var (i := 2) rfl) (ea_cons (ev_var (i := 5) rfl) ea_nil)) h_r_448)) (Option.some.inj h_more_449)) (kx_ _ _ ?_))
    refine SB.seqB (fun kx_452 => sb_if (b := ((!decide ((levels_445.length : Int) = (1 : Int))) || (!decide (over_444 = (room_441 - ((sizes_443.l.map (·.2)).sum)))))) (et_or (et_test (ev_op (ev_cb (ea_cons (ev_var (i := 4) rfl) ea_nil) rc_len) (ev_int 1) r2_neI)) (fun _ => (et_test (ev_op (ev_var (i := 3) rfl) (ev_op (ev_var (i := 0) rfl) (ev_sumVals (ev_var (i := 2) rfl)) r2_sub) r2_neI)))) (fun hb_451 => ?_) (fun hb_451 => ?_))
    · have hf := ite_t hb_451 hf
      cases hf
      exact sb_ret (ev_bool false) q (List.Sublist.refl _)
    · have hf := ite_f hb_451 hf
      refine sb_nx ?_
      refine kx_452 _ _ ?_
      obtain ⟨r_453, h_r_453, hf⟩ := bind_some hf
      obtain ⟨r_454, h_r_454, hf⟩ := bind_some hf
      obtain ⟨r_455, h_r_455, hf⟩ := bind_some hf
      obtain ⟨i_456, h_i_456, hf⟩ := bind_some hf
      obtain ⟨r_457, h_r_457, hf⟩ := bind_some hf
      cases hf
      exact sb_ret (ev_call (ea_cons (ev_op (ev_var (i := 0) rfl) (ev_sumVals (ev_var (i := 5) rfl)) r2_sub) (ea_cons (EG.ev (eg_call (ea_cons (ev_var (i := 1) rfl) (ea_cons (ev_int 3) ea_nil)) h_r_453)) (ea_cons (EG.ev (eg_call (ea_cons (EG.ev (eg_call (ea_cons (ev_var (i := 1) rfl) (ea_cons (ev_int 2) ea_nil)) h_r_454)) (ea_cons (ev_var (i := 5) rfl) ea_nil)) h_r_455)) (ea_cons (ev_var (i := 6) rfl) (ea_cons (ev_op (ev_var (i := 4) rfl) (ev_int 0) (r2_ixL h_i_456)) ea_nil))))) h_r_457) q (List.Sublist.refl _)
theorem sc_shrunk_holds : FnScope ["room", "items", "sizes", "levels", "wishes", "caps", "shrinks", "taken", "lack", "first", "name"] ["room", "items", "sizes", "levels"] (defScope s_shrunk_holds) := ⟨rfl, rfl, rfl, by decide +kernel, rfl, by decide +kernel, by decide +kernel⟩
set_option maxHeartbeats 4000000 in
theorem ok_shrunk_holds (T : TX K mg w) : FnOk P w K mg base CX0 3 T.a_shrunk_holds T.d_shrunk_holds ["room", "items", "sizes", "levels"] (PF (τ := Int × (Dc Str (Int × Int × Int × Int × Int × Int × Unit)) × (Dc Str Int) × (List (Option (Int × Int × Unit))) × Unit) K (fun t => m_shrunk_holds t.1 t.2.1 t.2.2.1 t.2.2.2.1)) := by
  refine T.F_shrunk_holds.ok sc_shrunk_holds (fun vs H Q E h => ?_) (fun cdv A outer s H vs Q E hr h => ?_)
  · obtain ⟨Kn, t, r, ek, h, hf, q⟩ := h
    exact Tp.len h
  · obtain ⟨Kn, t, r_, ek, h, hf, q⟩ := h
    obtain ⟨room_458, items_459, sizes_460, levels_461, u_⟩ := t
    obtain ⟨v_0, rr_, rfl, hv_0, h⟩ := h
    obtain ⟨v_1, rr_, rfl, hv_1, h⟩ := h
    obtain ⟨v_2, rr_, rfl, hv_2, h⟩ := h
    obtain ⟨v_3, rr_, rfl, hv_3, h⟩ := h
    obtain rfl := h
    replace hf : m_shrunk_holds room_458 items_459 sizes_460 levels_461 = some r_ := hf
    unfold m_shrunk_holds at hf
    refine ⟨_, (pss_cons (ps_set (i := 4) sc_shrunk_holds.nd rfl (.inl rfl) (pe_call (ok_picked T) (hr.mono (by decide)) (by rfl) T.g_picked T.F_picked.kp T.b_picked .nil pass0 (pa_cons (pv 1) (pa_cons pe_int pa_nil))))
      (pss_cons (ps_set (i := 5) sc_shrunk_holds.nd rfl (.inl rfl) (pe_call (ok_lesser T) (hr.mono (by decide)) (by rfl) T.g_lesser T.F_lesser.kp T.b_lesser .nil pass0 (pa_cons (pv 4) (pa_cons (pe_call (ok_picked T) (hr.mono (by decide)) (by rfl) T.g_picked T.F_picked.kp T.b_picked .nil pass0 (pa_cons (pv 1) (pa_cons pe_int pa_nil))) pa_nil))))
      (pss_cons (ps_set (i := 6) sc_shrunk_holds.nd rfl (.inl rfl) (pe_call (ok_picked T) (hr.mono (by decide)) (by rfl) T.g_picked T.F_picked.kp T.b_picked .nil pass0 (pa_cons (pv 1) (pa_cons pe_int pa_nil))))
      (pss_cons (ps_set (i := 7) sc_shrunk_holds.nd rfl (.inl rfl) (pe_call (ok_lesser T) (hr.mono (by decide)) (by rfl) T.g_lesser T.F_lesser.kp T.b_lesser .nil pass0 (pa_cons (pv 4) (pa_cons (pv 2) pa_nil))))
      (pss_cons (ps_set (i := 8) sc_shrunk_holds.nd rfl (.inl rfl) (pe_op op_sub (pe_sumVals rfl (by rfl) T.z_sum (pv 4)) (pv 0)))
      (pss_cons (ps_set (i := 9) sc_shrunk_holds.nd rfl (.inl rfl) pe_dnewK)
      (pss_cons (ps_lk (ps_for PassesOwn.never rfl (pi_keys (pv 1)) (pg_name (i := 10) sc_shrunk_holds.nd rfl (.inl rfl)) (pss_one (k_dput hr.units (pv 9) (pv 10) (pe_op op_mul (k_dget hr.units (pv 5) (pv 10) (fun _ _ => rfl)) (pe_callTy call_int1 (by rfl) T.z_int (by decide +kernel) (pa_cons (pe_cmpR op_gt (k_dget hr.units (pv 6) (pv 10) (fun _ _ => rfl)) pe_int (nomark _)) pa_nil))) rfl))))
      (pss_cons (ps_if (pt_cmpR op_ge (pe_sumVals rfl (by rfl) T.z_sum (pv 9)) (pv 8) (nomark _)) (pss_one (ps_ret (pe_and (pe_cmpR op_eq (pe_callB k_len (by rfl) T.z_len PySem.boot_len (pa_cons (pv 3) pa_nil)) pe_int (nomark _)) (pe_one (pe_call (ok_poured T) hr (by rfl) T.g_poured T.F_poured.kp T.b_poured .nil pass0 (pa_cons (pv 8) (pa_cons (pv 6) (pa_cons (pv 5) (pa_cons (pv 7) (pa_cons (pe_ix k_ixl (pv 3) pe_int (fun _ _ => rfl)) pa_nil)))))))))) pss_nil)
      (pss_cons (ps_if (PW.pt (pw_or (pt_cmpR op_ne (pe_callB k_len (by rfl) T.z_len PySem.boot_len (pa_cons (pv 3) pa_nil)) pe_int (nomark _)) (pw_or1 (pt_cmpR op_notN (pe_ix k_ixl (pv 3) pe_int (fun _ _ => rfl)) pe_non (nomark _))))) (pss_one (ps_ret pe_bl)) pss_nil)
      (pss_cons (ps_aug (i := 8) sc_shrunk_holds.nd rfl (.inl rfl) (pe_sumVals rfl (by rfl) T.z_sum (pv 9)) ip_sub)
      (pss_one (ps_ret (pe_call (ok_poured T) hr (by rfl) T.g_poured T.F_poured.kp T.b_poured .nil pass0 (pa_cons (pv 8) (pa_cons (pe_call (ok_ones T) (hr.mono (by decide)) (by rfl) T.g_ones T.F_ones.kp T.b_ones .nil pass0 (pa_cons (pv 1) pa_nil)) (pa_cons (pe_call (ok_lesser T) (hr.mono (by decide)) (by rfl) T.g_lesser T.F_lesser.kp T.b_lesser .nil pass0 (pa_cons (pv 5) (pa_cons (pv 9) pa_nil))) (pa_cons (pe_call (ok_lesser T) (hr.mono (by decide)) (by rfl) T.g_lesser T.F_lesser.kp T.b_lesser .nil pass0 (pa_cons (pv 7) (pa_cons (pv 9) pa_nil))) (pa_cons (pe_ix k_ixl (pv 3) pe_int (fun _ _ => rfl)) pa_nil)))))))))))))))))), ?_⟩
    refine enter (Kn := Kn) (sl := [sv room_458, sv items_459, sv sizes_460, sv levels_461, .any, .any, .any, .any, .any, .any, .any]) ek ⟨⟨v_0, rfl, hv_0⟩, ⟨v_1, rfl, hv_1⟩, ⟨v_2, rfl, hv_2⟩, ⟨v_3, rfl, hv_3⟩, trivial, trivial, trivial, trivial, trivial, trivial, trivial, trivial⟩ ?_
    have q := rt_of q
    obtain ⟨r_462, h_r_462, hf⟩ := bind_some hf
    obtain ⟨wishes_463, h_wishes_463, hf⟩ := bind_some hf
    refine SB.seqB (fun kx_ => sb_asg (sl' := [sv room_458, sv items_459, sv sizes_460, sv levels_461, sv wishes_463, .any, .any, .any, .any, .any, .any]) rfl (EV.cast (EG.ev (eg_call (ea_cons (ev_var (i := 1) rfl) (ea_cons (ev_int 1) ea_nil)) h_r_462)) (Option.some.inj h_wishes_463)) (kx_ _ _ ?_))
    obtain ⟨r_464, h_r_464, hf⟩ := bind_some hf
    obtain ⟨r_465, h_r_465, hf⟩ := bind_some hf
    obtain ⟨caps_466, h_caps_466, hf⟩ := bind_some hf
    refine SB.seqB (fun kx_ => sb_asg (sl' := [sv room_458, sv items_459, sv sizes_460, sv levels_461, sv wishes_463, sv caps_466, .any, .any, .any, .any, .any]) rfl (EV.cast (EG.ev (eg_call (ea_cons (ev_var (i := 4) rfl) (ea_cons (EG.ev (eg_call (ea_cons (ev_var (i := 1) rfl) (ea_cons (ev_int 0) ea_nil)) h_r_464)) ea_nil)) h_r_465)) (Option.some.inj h_caps_466)) (kx_ _ _ ?_))
    obtain ⟨r_467, h_r_467, hf⟩ := bind_some hf
    obtain ⟨shrinks_468, h_shrinks_468, hf⟩ := bind_some hf
    refine SB.seqB (fun kx_ => sb_asg (sl' := [sv room_458, sv items_459, sv sizes_460, sv levels_461, sv wishes_463, sv caps_466, sv shrinks_468, .any, .any, .any, .any]) rfl (EV.cast (EG.ev (eg_call (ea_cons (ev_var (i := 1) rfl) (ea_cons (ev_int 4) ea_nil)) h_r_467)) (Option.some.inj h_shrinks_468)) (kx_ _ _ ?_))
    obtain ⟨r_469, h_r_469, hf⟩ := bind_some hf
    obtain ⟨taken_470, h_taken_470, hf⟩ := bind_some hf
    refine SB.seqB (fun kx_ => sb_asg (sl' := [sv room_458, sv items_459, sv sizes_460, sv levels_461, sv wishes_463, sv caps_466, sv shrinks_468, sv taken_470, .any, .any, .any]) rfl (EV.cast (EG.ev (eg_call (ea_cons (ev_var (i := 4) rfl) (ea_cons (ev_var (i := 2) rfl) ea_nil)) h_r_469)) (Option.some.inj h_taken_470)) (kx_ _ _ ?_))
    obtain ⟨lack_471, h_lack_471, hf⟩ := bind_some hf
    refine SB.seqB (fun kx_ => sb_asg (sl' := [sv room_458, sv items_459, sv sizes_460, sv levels_461, sv wishes_463, sv caps_466, sv shrinks_468, sv taken_470, sv lack_471, .any, .any]) rfl (EV.cast (ev_op (ev_sumVals (ev_var (i := 4) rfl)) (ev_var (i := 0) rfl) r2_sub) (Option.some.inj h_lack_471)) (kx_ _ _ ?_))
    refine SB.seqB (fun kx_ => sb_dnewK (κ := Str) (β := Int) (sl' := fun p_first_472 => [sv room_458, sv items_459, sv sizes_460, sv levels_461, sv wishes_463, sv caps_466, sv shrinks_468, sv taken_470, sv lack_471, .at p_first_472, .any]) rfl (fun _ => rfl) (fun p_first_472 => (kx_ _ _ ?_)))
    obtain ⟨first_484, h_tot_479, hf⟩ := bind_some hf
    refine SB.seqB (fun kx_485 => sb_forD (dit_keys (i := 1)) rfl (Sx := (Dc Str Int)) (fun s => [sv room_458, sv items_459, sv sizes_460, sv levels_461, sv wishes_463, sv caps_466, sv shrinks_468, sv taken_470, sv lack_471, .at p_first_472, .any]) (fun s => [oo p_first_472 s]) (fun x s => [sv room_458, sv items_459, sv sizes_460, sv levels_461, sv wishes_463, sv caps_466, sv shrinks_468, sv taken_470, sv lack_471, .at p_first_472, sv x]) [10] (fun xs s => forS (m_shrunk_holds_L1 caps_466 shrinks_468) xs s = some first_484) (Dc.mk ([] : List (Str × Int))) h_tot_479 (.keep (.keep (.keep (.keep (.keep (.keep (.keep (.keep (.keep (.keep (.keep .nil))))))))))) (List.Sublist.refl _) (fun x s => (gt_name rfl)) ?_ ?_)
    · intro F1_ Kn1 R1_ mv_ bk_ name_474 rest_ first_473 hP_476 N_ hN_475
      obtain ⟨c_, hc_477, hP_476⟩ := bind_some hP_476
      have q_478 := q.mv mv_
      unfold m_shrunk_holds_L1 at hc_477
      refine SB.is (sl' := [sv room_458, sv items_459, sv sizes_460, sv levels_461, sv wishes_463, sv caps_466, sv shrinks_468, sv taken_470, sv lack_471, .at p_first_472, sv name_474]) (ow1 := [oo p_first_472 first_473]) rfl rfl ?_
      obtain ⟨i_480, h_i_480, hc_477⟩ := bind_some hc_477
      obtain ⟨i_481, h_i_481, hc_477⟩ := bind_some hc_477
      obtain ⟨m_482, h_m_482, hc_477⟩ := bind_some hc_477
      obtain ⟨first_483, h_first_483, hc_477⟩ := bind_some hc_477
      refine sb_dput (i := 9) (j := 0) rfl rfl (ev_op (ev_dget (ev_var (i := 5) rfl) (ev_var (i := 10) rfl) h_i_480) (ev_cb (ea_cons (ev_op (ev_dget (ev_var (i := 6) rfl) (ev_var (i := 10) rfl) h_i_481) (ev_int 0) r2_gt) ea_nil) rc_intB) (r2_mulO h_m_482)) (ev_var (i := 10) rfl) h_first_483 (ow1 := [oo p_first_472 first_483]) rfl ?_
      cases hc_477
      exact fun σ Kn H s => hN_475 _ hP_476 σ Kn H ((s.le (.keep (.keep (.keep (.keep (.keep (.keep (.keep (.keep (.keep (.keep (.drop .nil)))))))))))).sub (List.Sublist.refl _))
    · intro s_ h0
      cases h0
      refine kx_485 _ _ ?_
      refine SB.is (sl' := [sv room_458, sv items_459, sv sizes_460, sv levels_461, sv wishes_463, sv caps_466, sv shrinks_468, sv taken_470, sv lack_471, .at p_first_472, .any]) (ow1 := [oo p_first_472 first_484]) rfl rfl ?_
      refine sb_freezeG (i := 9) (j := 0) (sl' := [sv room_458, sv items_459, sv sizes_460, sv levels_461, sv wishes_463, sv caps_466, sv shrinks_468, sv taken_470, sv lack_471, sv first_484, .any]) (ow1 := []) rfl rfl rfl rfl ?_
      refine SB.seqB (fun kx_488 => sb_if (b := (decide (lack_471 ≤ ((first_484.l.map (·.2)).sum)))) (et_test (ev_op (ev_sumVals (ev_var (i := 9) rfl)) (ev_var (i := 8) rfl) r2_ge)) (fun hb_487 => ?_) (fun hb_487 => ?_))
      · have hf := ite_t hb_487 hf
        obtain ⟨b_491, h_b_491, hf⟩ := bind_some hf
        cases hf
        exact sb_ret (ev_andO h_b_491 (ev_op (ev_cb (ea_cons (ev_var (i := 3) rfl) ea_nil) rc_len) (ev_int 1) r2_eqI) (fun _ _ h => by obtain ⟨i_489, h_i_489, h⟩ := bind_some h; obtain ⟨r_490, h_r_490, h⟩ := bind_some h; have hz_ := Option.some.inj h; subst hz_; exact (ev_call (ea_cons (ev_var (i := 8) rfl) (ea_cons (ev_var (i := 6) rfl) (ea_cons (ev_var (i := 5) rfl) (ea_cons (ev_var (i := 7) rfl) (ea_cons (ev_op (ev_var (i := 3) rfl) (ev_int 0) (r2_ixL h_i_489)) ea_nil))))) h_r_490))) q (List.Sublist.refl _)
      · have hf := ite_f hb_487 hf
        refine sb_nx ?_
        refine kx_488 _ _ ?_
        obtain ⟨b_494, h_b_494, hf⟩ := bind_some hf
        refine SB.seqB (fun kx_496 => sb_if (b := b_494) (et_orO h_b_494 (et_test (ev_op (ev_cb (ea_cons (ev_var (i := 3) rfl) ea_nil) rc_len) (ev_int 2) r2_neI)) (fun _ _ h => by obtain ⟨i_493, h_i_493, h⟩ := bind_some h; have hz_ := Option.some.inj h; subst hz_; exact (et_test (ev_op (ev_op (ev_var (i := 3) rfl) (ev_int 0) (r2_ixL h_i_493)) ev_nn r2_notN)))) (fun hb_495 => ?_) (fun hb_495 => ?_))
        · have hf := ite_t hb_495 hf
          cases hf
          exact sb_ret (ev_bool false) q (List.Sublist.refl _)
        · have hf := ite_f hb_495 hf
          refine sb_nx ?_
          refine kx_496 _ _ ?_
          obtain ⟨lack_497, h_lack_497, hf⟩ := bind_some hf
          have h_lack_497 := Option.some.inj h_lack_497
          refine SB.seqB (fun kx_ => sb_aug (i := 8) (a := lack_471) (c := ((first_484.l.map (·.2)).sum)) (sl' := [sv room_458, sv items_459, sv sizes_460, sv levels_461, sv wishes_463, sv caps_466, sv shrinks_468, sv taken_470, sv lack_497, sv first_484, .any]) rfl (h_lack_497 ▸ rfl) (ev_sumVals (ev_var (i := 9) rfl)) (kx_ _ _ ?_))
          obtain ⟨r_498, h_r_498, hf⟩ := bind_some hf
          obtain ⟨r_499, h_r_499, hf⟩ := bind_some hf
          obtain ⟨r_500, h_r_500, hf⟩ := bind_some hf
          obtain ⟨i_501, h_i_501, hf⟩ := bind_some hf
          obtain ⟨r_502, h_r_502, hf⟩ := bind_some hf
          cases hf
          exact sb_ret (ev_call (ea_cons (ev_var (i := 8) rfl) (ea_cons (EG.ev (eg_call (ea_cons (ev_updc (ev_var (i := 1) rfl)) ea_nil) h_r_498)) (ea_cons (EG.ev (eg_call (ea_cons (ev_var (i := 5) rfl) (ea_cons (ev_var (i := 9) rfl) ea_nil)) h_r_499)) (ea_cons (EG.ev (eg_call (ea_cons (ev_var (i := 7) rfl) (ea_cons (ev_var (i := 9) rfl) ea_nil)) h_r_500)) (ea_cons (ev_op (ev_var (i := 3) rfl) (ev_int 1) (r2_ixL h_i_501)) ea_nil))))) h_r_502) q (List.Sublist.refl _)
theorem sc_way_holds : FnScope ["room", "items", "sizes", "levels", "lack", "at", "rank", "leasts", "part", "taken", "item", "name"] ["room", "items", "sizes", "levels"] (defScope s_way_holds) := ⟨rfl, rfl, rfl, by decide +kernel, rfl, by decide +kernel, by decide +kernel⟩
set_option maxHeartbeats 4000000 in
theorem ok_way_holds (T : TX K mg w) : FnOk P w K mg base CX0 3 T.a_way_holds T.d_way_holds ["room", "items", "sizes", "levels"] (PF (τ := Int × (Dc Str (Int × Int × Int × Int × Int × Int × Unit)) × (Dc Str Int) × (List (Option (Int × Int × Unit))) × Unit) K (fun t => m_way_holds t.1 t.2.1 t.2.2.1 t.2.2.2.1)) := by
  refine T.F_way_holds.ok sc_way_holds (fun vs H Q E h => ?_) (fun cdv A outer s H vs Q E hr h => ?_)
  · obtain ⟨Kn, t, r, ek, h, hf, q⟩ := h
    exact Tp.len h
  · obtain ⟨Kn, t, r_, ek, h, hf, q⟩ := h
    obtain ⟨room_503, items_504, sizes_505, levels_506, u_⟩ := t
    obtain ⟨v_0, rr_, rfl, hv_0, h⟩ := h
    obtain ⟨v_1, rr_, rfl, hv_1, h⟩ := h
    obtain ⟨v_2, rr_, rfl, hv_2, h⟩ := h
    obtain ⟨v_3, rr_, rfl, hv_3, h⟩ := h
    obtain rfl := h
    replace hf : m_way_holds room_503 items_504 sizes_505 levels_506 = some r_ := hf
    unfold m_way_holds at hf
    refine ⟨_, (pss_cons (ps_set (i := 4) sc_way_holds.nd rfl (.inl rfl) (pe_op op_sub (pe_callB k_sum (by rfl) T.z_sum (by decide +kernel) (pa_cons (pe_lk (pe_lc (own := [("item", 10)]) (g := gName 10) (tt := tYes) (by rfl) sc_way_holds.nd (pi_values (pv 1)) (blkOk_by (own := [("item", 10)]) (N := ["room", "items", "sizes", "levels", "lack", "at", "rank", "leasts", "part", "taken", "item", "name"]) (sc := defScope s_way_holds) (by decide +kernel)) (fun _ _ _ _ _ => (pg_name (i := 10) sc_way_holds.nd rfl (Or.inl rfl))) (fun _ _ _ _ _ => pts_nil) (fun _ _ _ _ _ => (pe_ix k_ixt (pv 10) pe_int (fun _ _ => rfl))))) pa_nil)) (pv 0)))
      (pss_cons (ps_set (i := 5) sc_way_holds.nd rfl (.inl rfl) pe_int)
      (pss_cons (ps_for PassesOwn.never rfl (pi_range1 (by rfl) T.z_range (pa_cons (pe_glob (v := .int 10) (by rfl) T.gi_RANKS ⟨_, rfl⟩) pa_nil)) (pg_name (i := 6) sc_way_holds.nd rfl (.inl rfl)) (pss_cons (ps_set (i := 7) sc_way_holds.nd rfl (.inr rfl) (pe_call (ok_of_rank T) (hr.mono (by decide)) (by rfl) T.g_of_rank T.F_of_rank.kp T.b_of_rank .nil pass0 (pa_cons (pv 1) (pa_cons (pv 6) pa_nil))))
      (pss_cons (ps_set (i := 8) sc_way_holds.nd rfl (.inl rfl) (pe_callB k_min2 (by rfl) T.z_min (by decide +kernel) (pa_cons (pv 4) (pa_cons (pe_sumVals rfl (by rfl) T.z_sum (pv 7)) pa_nil))))
      (pss_one (ps_if (PW.pt (pw_and (pt_cmpR op_gt (pv 4) pe_int (nomark _)) (pw_and1 (pt_cmpR (k_top hr.units) (pv 7) pe_dnewK (nomark _))))) (pss_cons (ps_set (i := 9) sc_way_holds.nd rfl (.inl rfl) (pe_call (ok_lesser T) (hr.mono (by decide)) (by rfl) T.g_lesser T.F_lesser.kp T.b_lesser .nil pass0 (pa_cons (pv 7) (pa_cons (pv 2) pa_nil))))
      (pss_cons (ps_if (PW.pt (pw_or (pt_cmpR op_ge (pv 5) (pe_callB k_len (by rfl) T.z_len PySem.boot_len (pa_cons (pv 3) pa_nil)) (nomark _)) (pw_or1 (pt_not (pt_val (pe_call (ok_poured T) hr (by rfl) T.g_poured T.F_poured.kp T.b_poured .nil pass0 (pa_cons (pv 8) (pa_cons (pe_call (ok_ones T) (hr.mono (by decide)) (by rfl) T.g_ones T.F_ones.kp T.b_ones .nil pass0 (pa_cons (pv 7) pa_nil)) (pa_cons (pv 7) (pa_cons (pv 9) (pa_cons (pe_ix k_ixl (pv 3) (pv 5) (fun _ _ => rfl)) pa_nil))))))))))) (pss_one (ps_ret pe_bl)) pss_nil)
      (pss_cons (ps_aug (i := 5) sc_way_holds.nd rfl (.inl rfl) pe_int ip_add)
      (pss_one (ps_aug (i := 4) sc_way_holds.nd rfl (.inl rfl) (pv 8) ip_sub))))) (pss_one (ps_if (pt_val (pe_callB k_any (by rfl) T.z_any (by decide +kernel) (pa_cons (pe_lk (pe_lc (own := [("name", 11)]) (g := gName 11) (tt := tYes) (by rfl) sc_way_holds.nd (pi_keys (pv 7)) (blkOk_by (own := [("name", 11)]) (N := ["room", "items", "sizes", "levels", "lack", "at", "rank", "leasts", "part", "taken", "item", "name"]) (sc := defScope s_way_holds) (by decide +kernel)) (fun _ _ _ _ _ => (pg_name (i := 11) sc_way_holds.nd rfl (Or.inl rfl))) (fun _ _ _ _ _ => pts_nil) (fun _ _ _ _ _ => (pe_cmpR op_ne (k_dget hr.units (pv 2) (pv 11) (fun _ _ => rfl)) (k_dget hr.units (pv 7) (pv 11) (fun _ _ => rfl)) (nomark _))))) pa_nil))) (pss_one (ps_ret pe_bl)) pss_nil)))))))
      (pss_one (ps_ret (pe_cmpR op_eq (pv 5) (pe_callB k_len (by rfl) T.z_len PySem.boot_len (pa_cons (pv 3) pa_nil)) (nomark _))))))), ?_⟩
    refine enter (Kn := Kn) (sl := [sv room_503, sv items_504, sv sizes_505, sv levels_506, .any, .any, .any, .any, .any, .any, .any, .any]) ek ⟨⟨v_0, rfl, hv_0⟩, ⟨v_1, rfl, hv_1⟩, ⟨v_2, rfl, hv_2⟩, ⟨v_3, rfl, hv_3⟩, trivial, trivial, trivial, trivial, trivial, trivial, trivial, trivial, trivial⟩ ?_
    have q := rt_of q
    obtain ⟨zs_508, h_zs_508, hf⟩ := bind_some hf
    obtain ⟨lack_509, h_lack_509, hf⟩ := bind_some hf
    refine SB.seqB (fun kx_ => sb_asg (sl' := [sv room_503, sv items_504, sv sizes_505, sv levels_506, sv lack_509, .any, .any, .any, .any, .any, .any, .any]) rfl (EV.cast (ev_op (ev_cb (ea_cons (EN.ev (en_lcD (js := [10]) (dit_vals (i := 1)) rfl (fun x => [sv room_503, sv items_504, sv sizes_505, sv levels_506, .any, .any, .any, .any, .any, .any, sv x, .any]) h_zs_508 (anyAt_of (by rfl)) (fun x => (gt_name rfl)) (sub_of (by rfl)) (fun _ _ _ _ x b h => by cases h; exact et_yes) (fun _ _ _ _ x z _ h => by obtain ⟨item_507, hx_⟩ : ∃ y, y = x := ⟨x, rfl⟩; subst hx_; have hz_ := Option.some.inj h; subst hz_; exact EV.is (sl' := [sv room_503, sv items_504, sv sizes_505, sv levels_506, .any, .any, .any, .any, .any, .any, sv item_507, .any]) rfl (ev_op (ev_var (i := 10) rfl) (ev_int 0) (r2_tix (n := 0) (At.z _ _)))))) ea_nil) rc_sum) (ev_var (i := 0) rfl) r2_sub) (Option.some.inj h_lack_509)) (kx_ _ _ ?_))
    obtain ⟨at_510, h_at_510, hf⟩ := bind_some hf
    refine SB.seqB (fun kx_ => sb_asg (sl' := [sv room_503, sv items_504, sv sizes_505, sv levels_506, sv lack_509, sv at_510, .any, .any, .any, .any, .any, .any]) rfl (EV.cast (ev_int 0) (Option.some.inj h_at_510)) (kx_ _ _ ?_))
    obtain ⟨rg_511, h_rg_511, hf⟩ := bind_some hf
    obtain ⟨tot_519, h_tot_519, hf⟩ := bind_some hf
    refine SB.seqB (fun kx_546 => sb_for (β := Int) (Sx := Int × Int) (fun s => [sv room_503, sv items_504, sv sizes_505, sv levels_506, sv s.1, sv s.2, .any, .any, .any, .any, .any, .any]) (fun s => []) (fun x s => [sv room_503, sv items_504, sv sizes_505, sv levels_506, sv s.1, sv s.2, sv x, .any, .any, .any, .any, .any]) [6] (fun xs s => forC (m_way_holds_L1 items_504 sizes_505 levels_506) xs s = some tot_519) (lack_509, at_510) (IT.m (it_rng1 (ea_cons (ev_int 10) ea_nil) h_rg_511)) h_tot_519 (.keep (.keep (.keep (.keep (.keep (.keep (.keep (.keep (.keep (.keep (.keep (.keep .nil)))))))))))) (List.Sublist.refl _) (fun x s => (gt_name rfl)) ?_ ?_)
    · intro Kn1 b1 rank_514 rest_ s_ hP_516 N_ hN_515
      obtain ⟨lack_512, at_513⟩ := s_
      obtain ⟨c_, hc_517, hP_516⟩ := bind_some hP_516
      have q_518 := q.base b1
      unfold m_way_holds_L1 at hc_517
      refine SB.is (sl' := [sv room_503, sv items_504, sv sizes_505, sv levels_506, sv lack_512, sv at_513, sv rank_514, .any, .any, .any, .any, .any]) (ow1 := []) rfl rfl ?_
      obtain ⟨r_520, h_r_520, hc_517⟩ := bind_some hc_517
      obtain ⟨leasts_521, h_leasts_521, hc_517⟩ := bind_some hc_517
      refine SB.seqB (fun kx_ => sb_asg (sl' := [sv room_503, sv items_504, sv sizes_505, sv levels_506, sv lack_512, sv at_513, sv rank_514, sv leasts_521, .any, .any, .any, .any]) rfl (EV.cast (EG.ev (eg_call (ea_cons (ev_var (i := 1) rfl) (ea_cons (ev_var (i := 6) rfl) ea_nil)) h_r_520)) (Option.some.inj h_leasts_521)) (kx_ _ _ ?_))
      obtain ⟨part_522, h_part_522, hc_517⟩ := bind_some hc_517
      refine SB.seqB (fun kx_ => sb_asg (sl' := [sv room_503, sv items_504, sv sizes_505, sv levels_506, sv lack_512, sv at_513, sv rank_514, sv leasts_521, sv part_522, .any, .any, .any]) rfl (EV.cast (ev_cb (ea_cons (ev_var (i := 4) rfl) (ea_cons (ev_sumVals (ev_var (i := 7) rfl)) ea_nil)) rc_min) (Option.some.inj h_part_522)) (kx_ _ _ ?_))
      refine sb_if (b := ((decide ((0 : Int) < lack_512)) && (!Qe.qe leasts_521 (Dc.mk ([] : List (Str × Int)))))) (et_and (et_test (ev_op (ev_var (i := 4) rfl) (ev_int 0) r2_gt)) (fun _ => (et_test (ev_op (ev_var (i := 7) rfl) (EG.ev eg_new) r2_neQ)))) (fun hb_524 => ?_) (fun hb_524 => ?_)
      · have hc_517 := ite_t hb_524 hc_517
        obtain ⟨r_526, h_r_526, hc_517⟩ := bind_some hc_517
        obtain ⟨taken_527, h_taken_527, hc_517⟩ := bind_some hc_517
        refine SB.seqB (fun kx_ => sb_asg (sl' := [sv room_503, sv items_504, sv sizes_505, sv levels_506, sv lack_512, sv at_513, sv rank_514, sv leasts_521, sv part_522, sv taken_527, .any, .any]) rfl (EV.cast (EG.ev (eg_call (ea_cons (ev_var (i := 7) rfl) (ea_cons (ev_var (i := 2) rfl) ea_nil)) h_r_526)) (Option.some.inj h_taken_527)) (kx_ _ _ ?_))
        obtain ⟨b_532, h_b_532, hc_517⟩ := bind_some hc_517
        refine SB.seqB (fun kx_534 => sb_if (b := b_532) (et_orO h_b_532 (et_test (ev_op (ev_var (i := 5) rfl) (ev_cb (ea_cons (ev_var (i := 3) rfl) ea_nil) rc_len) r2_ge)) (fun _ _ h => by obtain ⟨r_529, h_r_529, h⟩ := bind_some h; obtain ⟨i_530, h_i_530, h⟩ := bind_some h; obtain ⟨r_531, h_r_531, h⟩ := bind_some h; have hz_ := Option.some.inj h; subst hz_; exact (et_not (et_B (ev_call (ea_cons (ev_var (i := 8) rfl) (ea_cons (EG.ev (eg_call (ea_cons (ev_updc (ev_var (i := 7) rfl)) ea_nil) h_r_529)) (ea_cons (ev_var (i := 7) rfl) (ea_cons (ev_var (i := 9) rfl) (ea_cons (ev_op (ev_var (i := 3) rfl) (ev_var (i := 5) rfl) (r2_ixL h_i_530)) ea_nil))))) h_r_531))))) (fun hb_533 => ?_) (fun hb_533 => ?_))
        · have hc_517 := ite_t hb_533 hc_517
          cases hc_517
          replace hP_516 : some (Ctl.rt false) = some tot_519 := hP_516
          cases hP_516
          replace hf : some false = some r_ := hf
          cases hf
          exact sb_ret (ev_bool false) q_518 (List.Sublist.refl _)
        · have hc_517 := ite_f hb_533 hc_517
          refine sb_nx ?_
          refine kx_534 _ _ ?_
          obtain ⟨at_535, h_at_535, hc_517⟩ := bind_some hc_517
          have h_at_535 := Option.some.inj h_at_535
          refine SB.seqB (fun kx_ => sb_aug (i := 5) (a := at_513) (c := (1 : Int)) (sl' := [sv room_503, sv items_504, sv sizes_505, sv levels_506, sv lack_512, sv at_535, sv rank_514, sv leasts_521, sv part_522, sv taken_527, .any, .any]) rfl (h_at_535 ▸ rfl) (ev_int 1) (kx_ _ _ ?_))
          obtain ⟨lack_536, h_lack_536, hc_517⟩ := bind_some hc_517
          have h_lack_536 := Option.some.inj h_lack_536
          refine sb_aug (i := 4) (a := lack_512) (c := part_522) (sl' := [sv room_503, sv items_504, sv sizes_505, sv levels_506, sv lack_536, sv at_535, sv rank_514, sv leasts_521, sv part_522, sv taken_527, .any, .any]) rfl (h_lack_536 ▸ rfl) (ev_var (i := 8) rfl) ?_
          cases hc_517
          exact fun σ Kn H s => hN_515 _ hP_516 σ Kn H ((s.le (.keep (.keep (.keep (.keep (.keep (.keep (.drop (.drop (.drop (.drop (.keep (.keep .nil))))))))))))).sub (List.Sublist.refl _))
      · have hc_517 := ite_f hb_524 hc_517
        obtain ⟨zs_539, h_zs_539, hc_517⟩ := bind_some hc_517
        refine sb_if (b := (zs_539.any id)) (et_B (ev_cb (ea_cons (EN.ev (en_lcD (js := [11]) (dit_keys (i := 7)) rfl (fun x => [sv room_503, sv items_504, sv sizes_505, sv levels_506, sv lack_512, sv at_513, sv rank_514, sv leasts_521, sv part_522, .any, .any, sv x]) h_zs_539 (anyAt_of (by rfl)) (fun x => (gt_name rfl)) (sub_of (by rfl)) (fun _ _ _ _ x b h => by cases h; exact et_yes) (fun _ _ _ _ x z _ h => by obtain ⟨name_538, hx_⟩ : ∃ y, y = x := ⟨x, rfl⟩; subst hx_; obtain ⟨i_540, h_i_540, h⟩ := bind_some h; obtain ⟨i_541, h_i_541, h⟩ := bind_some h; have hz_ := Option.some.inj h; subst hz_; exact EV.is (sl' := [sv room_503, sv items_504, sv sizes_505, sv levels_506, sv lack_512, sv at_513, sv rank_514, sv leasts_521, sv part_522, .any, .any, sv name_538]) rfl (ev_op (ev_dget (ev_var (i := 2) rfl) (ev_var (i := 11) rfl) h_i_540) (ev_dget (ev_var (i := 7) rfl) (ev_var (i := 11) rfl) h_i_541) r2_neI)))) ea_nil) rc_any)) (fun hb_542 => ?_) (fun hb_542 => ?_)
        · have hc_517 := ite_t hb_542 hc_517
          cases hc_517
          replace hP_516 : some (Ctl.rt false) = some tot_519 := hP_516
          cases hP_516
          replace hf : some false = some r_ := hf
          cases hf
          exact sb_ret (ev_bool false) q_518 (List.Sublist.refl _)
        · have hc_517 := ite_f hb_542 hc_517
          refine sb_nx ?_
          cases hc_517
          exact fun σ Kn H s => hN_515 _ hP_516 σ Kn H ((s.le (.keep (.keep (.keep (.keep (.keep (.keep (.drop (.drop (.drop (.keep (.keep (.keep .nil))))))))))))).sub (List.Sublist.refl _))
    · intro s_ h0
      obtain ⟨lack_544, at_545⟩ := s_
      cases h0
      refine kx_546 _ _ ?_
      refine SB.is (sl' := [sv room_503, sv items_504, sv sizes_505, sv levels_506, sv lack_544, sv at_545, .any, .any, .any, .any, .any, .any]) (ow1 := []) rfl rfl ?_
      cases hf
      exact sb_ret (ev_op (ev_var (i := 5) rfl) (ev_cb (ea_cons (ev_var (i := 3) rfl) ea_nil) rc_len) r2_eqI) q (List.Sublist.refl _)
theorem sc_shared : FnScope ["room", "items", "sizes", "over", "levels", "item"] ["room", "items", "sizes", "over", "levels"] (defScope s_shared) := ⟨rfl, rfl, rfl, by decide +kernel, rfl, by decide +kernel, by decide +kernel⟩
set_option maxHeartbeats 4000000 in
theorem ok_shared (T : TX K mg w) : FnOk P w K mg base CX0 4 T.a_shared T.d_shared ["room", "items", "sizes", "over", "levels"] (PF (τ := Int × (Dc Str (Int × Int × Int × Int × Int × Int × Unit)) × (Dc Str Int) × Int × (List (Option (Int × Int × Unit))) × Unit) K (fun t => m_shared t.1 t.2.1 t.2.2.1 t.2.2.2.1 t.2.2.2.2.1)) := by
  refine T.F_shared.ok sc_shared (fun vs H Q E h => ?_) (fun cdv A outer s H vs Q E hr h => ?_)
  · obtain ⟨Kn, t, r, ek, h, hf, q⟩ := h
    exact Tp.len h
  · obtain ⟨Kn, t, r_, ek, h, hf, q⟩ := h
    obtain ⟨room_547, items_548, sizes_549, over_550, levels_551, u_⟩ := t
    obtain ⟨v_0, rr_, rfl, hv_0, h⟩ := h
    obtain ⟨v_1, rr_, rfl, hv_1, h⟩ := h
    obtain ⟨v_2, rr_, rfl, hv_2, h⟩ := h
    obtain ⟨v_3, rr_, rfl, hv_3, h⟩ := h
    obtain ⟨v_4, rr_, rfl, hv_4, h⟩ := h
    obtain rfl := h
    replace hf : m_shared room_547 items_548 sizes_549 over_550 levels_551 = some r_ := hf
    unfold m_shared at hf
    refine ⟨_, (pss_cons (ps_if (pt_cmpR op_ge (pv 0) (pe_callB k_sum (by rfl) T.z_sum (by decide +kernel) (pa_cons (pe_lk (pe_lc (own := [("item", 5)]) (g := gName 5) (tt := tYes) (by rfl) sc_shared.nd (pi_values (pv 1)) (blkOk_by (own := [("item", 5)]) (N := ["room", "items", "sizes", "over", "levels", "item"]) (sc := defScope s_shared) (by decide +kernel)) (fun _ _ _ _ _ => (pg_name (i := 5) sc_shared.nd rfl (Or.inl rfl))) (fun _ _ _ _ _ => pts_nil) (fun _ _ _ _ _ => (pe_ix k_ixt (pv 5) pe_int (fun _ _ => rfl))))) pa_nil)) (nomark _)) (pss_one (ps_ret (pe_call (ok_grown_holds T) hr (by rfl) T.g_grown_holds T.F_grown_holds.kp T.b_grown_holds .nil pass0 (pa_cons (pv 0) (pa_cons (pv 1) (pa_cons (pv 2) (pa_cons (pv 3) (pa_cons (pv 4) pa_nil)))))))) pss_nil)
      (pss_cons (ps_if (pt_cmpR op_ne (pv 3) pe_int (nomark _)) (pss_one (ps_ret pe_bl)) pss_nil)
      (pss_cons (ps_if (pt_cmpR op_ge (pv 0) (pe_callB k_sum (by rfl) T.z_sum (by decide +kernel) (pa_cons (pe_lk (pe_lc (own := [("item", 5)]) (g := gName 5) (tt := tYes) (by rfl) sc_shared.nd (pi_values (pv 1)) (blkOk_by (own := [("item", 5)]) (N := ["room", "items", "sizes", "over", "levels", "item"]) (sc := defScope s_shared) (by decide +kernel)) (fun _ _ _ _ _ => (pg_name (i := 5) sc_shared.nd rfl (Or.inl rfl))) (fun _ _ _ _ _ => pts_nil) (fun _ _ _ _ _ => (pe_ix k_ixt (pv 5) pe_int (fun _ _ => rfl))))) pa_nil)) (nomark _)) (pss_one (ps_ret (pe_call (ok_shrunk_holds T) hr (by rfl) T.g_shrunk_holds T.F_shrunk_holds.kp T.b_shrunk_holds .nil pass0 (pa_cons (pv 0) (pa_cons (pv 1) (pa_cons (pv 2) (pa_cons (pv 4) pa_nil))))))) pss_nil)
      (pss_one (ps_ret (pe_call (ok_way_holds T) hr (by rfl) T.g_way_holds T.F_way_holds.kp T.b_way_holds .nil pass0 (pa_cons (pv 0) (pa_cons (pv 1) (pa_cons (pv 2) (pa_cons (pv 4) pa_nil)))))))))), ?_⟩
    refine enter (Kn := Kn) (sl := [sv room_547, sv items_548, sv sizes_549, sv over_550, sv levels_551, .any]) ek ⟨⟨v_0, rfl, hv_0⟩, ⟨v_1, rfl, hv_1⟩, ⟨v_2, rfl, hv_2⟩, ⟨v_3, rfl, hv_3⟩, ⟨v_4, rfl, hv_4⟩, trivial, trivial⟩ ?_
    have q := rt_of q
    obtain ⟨zs_554, h_zs_554, hf⟩ := bind_some hf
    refine SB.seqB (fun kx_556 => sb_if (b := (decide ((zs_554).sum ≤ room_547))) (et_test (ev_op (ev_var (i := 0) rfl) (ev_cb (ea_cons (EN.ev (en_lcD (js := [5]) (dit_vals (i := 1)) rfl (fun x => [sv room_547, sv items_548, sv sizes_549, sv over_550, sv levels_551, sv x]) h_zs_554 (anyAt_of (by rfl)) (fun x => (gt_name rfl)) (sub_of (by rfl)) (fun _ _ _ _ x b h => by cases h; exact et_yes) (fun _ _ _ _ x z _ h => by obtain ⟨item_553, hx_⟩ : ∃ y, y = x := ⟨x, rfl⟩; subst hx_; have hz_ := Option.some.inj h; subst hz_; exact EV.is (sl' := [sv room_547, sv items_548, sv sizes_549, sv over_550, sv levels_551, sv item_553]) rfl (ev_op (ev_var (i := 5) rfl) (ev_int 1) (r2_tix (n := 1) (At.s _ (At.z _ _))))))) ea_nil) rc_sum) r2_ge)) (fun hb_555 => ?_) (fun hb_555 => ?_))
    · have hf := ite_t hb_555 hf
      obtain ⟨r_557, h_r_557, hf⟩ := bind_some hf
      cases hf
      exact sb_ret (ev_call (ea_cons (ev_var (i := 0) rfl) (ea_cons (ev_var (i := 1) rfl) (ea_cons (ev_var (i := 2) rfl) (ea_cons (ev_var (i := 3) rfl) (ea_cons (ev_var (i := 4) rfl) ea_nil))))) h_r_557) q (List.Sublist.refl _)
    · have hf := ite_f hb_555 hf
      refine sb_nx ?_
      refine kx_556 _ _ ?_
      refine SB.seqB (fun kx_560 => sb_if (b := (!decide (over_550 = (0 : Int)))) (et_test (ev_op (ev_var (i := 3) rfl) (ev_int 0) r2_neI)) (fun hb_559 => ?_) (fun hb_559 => ?_))
      · have hf := ite_t hb_559 hf
        cases hf
        exact sb_ret (ev_bool false) q (List.Sublist.refl _)
      · have hf := ite_f hb_559 hf
        refine sb_nx ?_
        refine kx_560 _ _ ?_
        obtain ⟨zs_563, h_zs_563, hf⟩ := bind_some hf
        refine SB.seqB (fun kx_565 => sb_if (b := (decide ((zs_563).sum ≤ room_547))) (et_test (ev_op (ev_var (i := 0) rfl) (ev_cb (ea_cons (EN.ev (en_lcD (js := [5]) (dit_vals (i := 1)) rfl (fun x => [sv room_547, sv items_548, sv sizes_549, sv over_550, sv levels_551, sv x]) h_zs_563 (anyAt_of (by rfl)) (fun x => (gt_name rfl)) (sub_of (by rfl)) (fun _ _ _ _ x b h => by cases h; exact et_yes) (fun _ _ _ _ x z _ h => by obtain ⟨item_562, hx_⟩ : ∃ y, y = x := ⟨x, rfl⟩; subst hx_; have hz_ := Option.some.inj h; subst hz_; exact EV.is (sl' := [sv room_547, sv items_548, sv sizes_549, sv over_550, sv levels_551, sv item_562]) rfl (ev_op (ev_var (i := 5) rfl) (ev_int 0) (r2_tix (n := 0) (At.z _ _)))))) ea_nil) rc_sum) r2_ge)) (fun hb_564 => ?_) (fun hb_564 => ?_))
        · have hf := ite_t hb_564 hf
          obtain ⟨r_566, h_r_566, hf⟩ := bind_some hf
          cases hf
          exact sb_ret (ev_call (ea_cons (ev_var (i := 0) rfl) (ea_cons (ev_var (i := 1) rfl) (ea_cons (ev_var (i := 2) rfl) (ea_cons (ev_var (i := 4) rfl) ea_nil)))) h_r_566) q (List.Sublist.refl _)
        · have hf := ite_f hb_564 hf
          refine sb_nx ?_
          refine kx_565 _ _ ?_
          obtain ⟨r_567, h_r_567, hf⟩ := bind_some hf
          cases hf
          exact sb_ret (ev_call (ea_cons (ev_var (i := 0) rfl) (ea_cons (ev_var (i := 1) rfl) (ea_cons (ev_var (i := 2) rfl) (ea_cons (ev_var (i := 4) rfl) ea_nil)))) h_r_567) q (List.Sublist.refl _)
theorem sc__law_at : FnScope ["_law_script", "_law_k"] ["_law_script", "_law_k"] (defScope s__law_at) := ⟨rfl, rfl, rfl, by decide +kernel, rfl, by decide +kernel, by decide +kernel⟩
set_option maxHeartbeats 4000000 in
theorem ok__law_at (T : TX K mg w) : FnOk P w K mg base CX0 1 T.a__law_at T.d__law_at ["_law_script", "_law_k"] (PF (τ := (Fz Int) × Int × Unit) K (fun t => m__law_at t.1 t.2.1)) := by
  refine T.F__law_at.ok sc__law_at (fun vs H Q E h => ?_) (fun cdv A outer s H vs Q E hr h => ?_)
  · obtain ⟨Kn, t, r, ek, h, hf, q⟩ := h
    exact Tp.len h
  · obtain ⟨Kn, t, r_, ek, h, hf, q⟩ := h
    obtain ⟨script_568, k_569, u_⟩ := t
    obtain ⟨v_0, rr_, rfl, hv_0, h⟩ := h
    obtain ⟨v_1, rr_, rfl, hv_1, h⟩ := h
    obtain rfl := h
    replace hf : m__law_at script_568 k_569 = some r_ := hf
    unfold m__law_at at hf
    refine ⟨_, (pss_cons (ps_if (pt_cmpR op_lt (pv 1) (pe_callB k_len (by rfl) T.z_len PySem.boot_len (pa_cons (pv 0) pa_nil)) (nomark _)) (pss_one (ps_ret (pe_ix k_ixl (pv 0) (pv 1) (fun _ _ => rfl)))) pss_nil)
      (pss_one (ps_ret pe_int))), ?_⟩
    refine enter (Kn := Kn) (sl := [sv script_568, sv k_569]) ek ⟨⟨v_0, rfl, hv_0⟩, ⟨v_1, rfl, hv_1⟩, trivial⟩ ?_
    have q := rt_of q
    refine SB.seqB (fun kx_572 => sb_if (b := (decide (k_569 < (script_568.l.length : Int)))) (et_test (ev_op (ev_var (i := 1) rfl) (ev_cb (ea_cons (ev_var (i := 0) rfl) ea_nil) rc_lenF) r2_lt)) (fun hb_571 => ?_) (fun hb_571 => ?_))
    · have hf := ite_t hb_571 hf
      obtain ⟨i_573, h_i_573, hf⟩ := bind_some hf
      cases hf
      exact sb_ret (ev_op (ev_var (i := 0) rfl) (ev_var (i := 1) rfl) (r2_ixF h_i_573)) q (List.Sublist.refl _)
    · have hf := ite_f hb_571 hf
      refine sb_nx ?_
      refine kx_572 _ _ ?_
      cases hf
      exact sb_ret (ev_int 0) q (List.Sublist.refl _)
theorem sc__law_mixed : FnScope ["_law_cell", "_law_n"] ["_law_cell"] (defScope s__law_mixed) := ⟨rfl, rfl, rfl, by decide +kernel, rfl, by decide +kernel, by decide +kernel⟩
set_option maxHeartbeats 4000000 in
theorem ok__law_mixed (T : TX K mg w) : FnOk P w K mg base CX0 1 T.a__law_mixed T.d__law_mixed ["_law_cell"] (PF (τ := Int × Unit) K (fun t => m__law_mixed t.1)) := by
  refine T.F__law_mixed.ok sc__law_mixed (fun vs H Q E h => ?_) (fun cdv A outer s H vs Q E hr h => ?_)
  · obtain ⟨Kn, t, r, ek, h, hf, q⟩ := h
    exact Tp.len h
  · obtain ⟨Kn, t, r_, ek, h, hf, q⟩ := h
    obtain ⟨cell_574, u_⟩ := t
    obtain ⟨v_0, rr_, rfl, hv_0, h⟩ := h
    obtain rfl := h
    replace hf : m__law_mixed cell_574 = some r_ := hf
    unfold m__law_mixed at hf
    refine ⟨_, (pss_cons (ps_set (i := 1) sc__law_mixed.nd rfl (.inl rfl) (pe_op op_mod (pe_op op_mul (pv 0) pe_int) pe_int))
      (pss_cons (ps_set (i := 1) sc__law_mixed.nd rfl (.inl rfl) (pe_op op_mod (pe_op op_add (pe_op op_fdiv (pv 1) pe_int) (pe_op op_mul (pv 1) pe_int)) pe_int))
      (pss_one (ps_ret (pe_op op_mod (pe_op op_mul (pv 1) (pe_op op_add (pe_op op_mod (pv 1) pe_int) pe_int)) pe_int))))), ?_⟩
    refine enter (Kn := Kn) (sl := [sv cell_574, .any]) ek ⟨⟨v_0, rfl, hv_0⟩, trivial, trivial⟩ ?_
    have q := rt_of q
    obtain ⟨n_575, h_n_575, hf⟩ := bind_some hf
    refine SB.seqB (fun kx_ => sb_asg (sl' := [sv cell_574, sv n_575]) rfl (EV.cast (ev_op (ev_op (ev_var (i := 0) rfl) (ev_int 48271) r2_mulr) (ev_int 2147483647) r2_mod) (Option.some.inj h_n_575)) (kx_ _ _ ?_))
    obtain ⟨n_576, h_n_576, hf⟩ := bind_some hf
    refine SB.seqB (fun kx_ => sb_asg (sl' := [sv cell_574, sv n_576]) rfl (EV.cast (ev_op (ev_op (ev_op (ev_var (i := 1) rfl) (ev_int 65536) r2_div) (ev_op (ev_var (i := 1) rfl) (ev_int 16807) r2_mulr) r2_add) (ev_int 2147483629) r2_mod) (Option.some.inj h_n_576)) (kx_ _ _ ?_))
    obtain ⟨m_577, h_m_577, hf⟩ := bind_some hf
    cases hf
    exact sb_ret (ev_op (ev_op (ev_var (i := 1) rfl) (ev_op (ev_op (ev_var (i := 1) rfl) (ev_int 32768) r2_mod) (ev_int 40961) r2_add) (r2_mulO h_m_577)) (ev_int 1000000000039) r2_mod) q (List.Sublist.refl _)
theorem sc__law_draws : FnScope ["_law_script", "_law_first", "_law_many", "_law_base", "_law_found", "_law_cell", "_law_k", "_law_n"] ["_law_script", "_law_first", "_law_many", "_law_base"] (defScope s__law_draws) := ⟨rfl, rfl, rfl, by decide +kernel, rfl, by decide +kernel, by decide +kernel⟩
set_option maxHeartbeats 4000000 in
theorem ok__law_draws (T : TX K mg w) : FnOk P w K mg base CX0 2 T.a__law_draws T.d__law_draws ["_law_script", "_law_first", "_law_many", "_law_base"] (PL (τ := (Fz Int) × Int × Int × Int × Unit) K (fun t => m__law_draws t.1 t.2.1 t.2.2.1 t.2.2.2.1)) := by
  refine T.F__law_draws.ok sc__law_draws (fun vs H Q E h => ?_) (fun cdv A outer s H vs Q E hr h => ?_)
  · obtain ⟨Kn, t, r, ek, h, hf, q⟩ := h
    exact Tp.len h
  · obtain ⟨Kn, t, r_, ek, h, hf, q⟩ := h
    obtain ⟨script_578, first_579, many_580, base_581, u_⟩ := t
    obtain ⟨v_0, rr_, rfl, hv_0, h⟩ := h
    obtain ⟨v_1, rr_, rfl, hv_1, h⟩ := h
    obtain ⟨v_2, rr_, rfl, hv_2, h⟩ := h
    obtain ⟨v_3, rr_, rfl, hv_3, h⟩ := h
    obtain rfl := h
    replace hf : m__law_draws script_578 first_579 many_580 base_581 = some r_ := hf
    unfold m__law_draws at hf
    refine ⟨_, (pss_cons (ps_set (i := 4) sc__law_draws.nd rfl (.inl rfl) (pe_lst pa_nil))
      (pss_cons (ps_set (i := 5) sc__law_draws.nd rfl (.inl rfl) (pe_call (ok__law_at T) hr (by rfl) T.g__law_at T.F__law_at.kp T.b__law_at .nil pass0 (pa_cons (pv 0) (pa_cons (pv 1) pa_nil))))
      (pss_cons (ps_while PassesOwn.never (PW.pt (pw_and (pt_cmpR op_ge (pv 5) (pe_op op_pow pe_int pe_int) (nomark _)) (pw_and1 (pt_cmpR op_lt (pe_callB k_len (by rfl) T.z_len PySem.boot_len (pa_cons (pv 4) pa_nil)) (pv 2) (nomark _))))) (pss_cons (ps_expr (pe_bm PySem.F.plainAttrs_list PySem.F.slot_list_append PySem.F.type_list_append mt_append (pv 4) (pa_cons (pe_op op_mod (pv 5) (pv 3)) pa_nil)))
      (pss_one (ps_set (i := 5) sc__law_draws.nd rfl (.inl rfl) (pe_op op_fdivW (pv 5) (pv 3))))))
      (pss_cons (ps_for PassesOwn.never rfl (pi_range1 (by rfl) T.z_range (pa_cons (pe_op op_sub (pv 2) (pe_callB k_len (by rfl) T.z_len PySem.boot_len (pa_cons (pv 4) pa_nil))) pa_nil)) (pg_name (i := 6) sc__law_draws.nd rfl (.inl rfl)) (pss_cons (ps_set (i := 7) sc__law_draws.nd rfl (.inl rfl) (pe_call (ok__law_mixed T) hr (by rfl) T.g__law_mixed T.F__law_mixed.kp T.b__law_mixed .nil pass0 (pa_cons (pe_op op_add (pe_call (ok__law_at T) hr (by rfl) T.g__law_at T.F__law_at.kp T.b__law_at .nil pass0 (pa_cons (pv 0) (pa_cons (pe_op op_add (pe_op op_add (pv 1) pe_int) (pv 6)) pa_nil))) (pe_op op_mul (pe_op op_mul pe_int (pv 6)) (pv 6))) pa_nil)))
      (pss_one (ps_expr (pe_bm PySem.F.plainAttrs_list PySem.F.slot_list_append PySem.F.type_list_append mt_append (pv 4) (pa_cons (pe_op op_mod (pe_op op_add (pe_op op_mul (pv 7) pe_int) (pe_call (ok__law_mixed T) hr (by rfl) T.g__law_mixed T.F__law_mixed.kp T.b__law_mixed .nil pass0 (pa_cons (pe_op op_add (pe_op op_add (pv 7) (pe_op op_mul pe_int (pv 6))) pe_int) pa_nil))) (pv 3)) pa_nil))))))
      (pss_one (ps_ret (pv 4))))))), ?_⟩
    refine enter (Kn := Kn) (sl := [sv script_578, sv first_579, sv many_580, sv base_581, .any, .any, .any, .any]) ek ⟨⟨v_0, rfl, hv_0⟩, ⟨v_1, rfl, hv_1⟩, ⟨v_2, rfl, hv_2⟩, ⟨v_3, rfl, hv_3⟩, trivial, trivial, trivial, trivial, trivial⟩ ?_
    have q := rn_of q
    obtain ⟨found_582, h_found_582, hf⟩ := bind_some hf
    refine SB.seqB (fun kx_ => sb_asgO (sl' := fun p_found_582 => [sv script_578, sv first_579, sv many_580, sv base_581, .at p_found_582, .any, .any, .any]) (fun _ => rfl) (EN.cast (en_lst el_nil) (Option.some.inj h_found_582)) (fun p_found_582 => (kx_ _ _ ?_)))
    obtain ⟨r_583, h_r_583, hf⟩ := bind_some hf
    obtain ⟨cell_584, h_cell_584, hf⟩ := bind_some hf
    refine SB.seqB (fun kx_ => sb_asg (sl' := [sv script_578, sv first_579, sv many_580, sv base_581, .at p_found_582, sv cell_584, .any, .any]) rfl (EV.cast (ev_call (ea_cons (ev_var (i := 0) rfl) (ea_cons (ev_var (i := 1) rfl) ea_nil)) h_r_583) (Option.some.inj h_cell_584)) (kx_ _ _ ?_))
    obtain ⟨⟨cell_596, found_597⟩, h_tot_591, hf⟩ := bind_some hf
    obtain ⟨n0_, h_tot_591⟩ := whileF_some h_tot_591
    refine SB.seqB (fun kx_598 => sb_while (Sx := Int × (List Int)) (fun s => [sv script_578, sv first_579, sv many_580, sv base_581, .at p_found_582, sv s.1, .any, .any]) (fun s => [ol p_found_582 s.2]) (fun n s => whileS (m__law_draws_L1_c many_580 base_581) (m__law_draws_L1 many_580 base_581) n s = some (cell_596, found_597)) n0_ (cell_584, found_582) h_tot_591 (.keep (.keep (.keep (.keep (.keep (.keep (.keep (.keep .nil)))))))) (List.Sublist.refl _) ?_)
    intro n_ s_ hP_588
    obtain ⟨cell_585, found_586⟩ := s_
    cases n_ with
    | zero => cases hP_588
    | succ n_ =>
      obtain ⟨b_, ht_, hP_588⟩ := bind_some hP_588
      unfold m__law_draws_L1_c at ht_
      cases ht_
      refine ⟨_, ET.is (sl' := [sv script_578, sv first_579, sv many_580, sv base_581, .at p_found_582, sv cell_585, .any, .any]) rfl (et_and (et_test (ev_op (ev_var (i := 5) rfl) (ev_op (ev_int 10) (ev_int 18) (r2_pow (r := 1000000000000000000))) r2_ge)) (fun _ => (et_test (ev_bor (i := 4) (j := 0) (sl' := [sv script_578, sv first_579, sv many_580, sv base_581, sv found_586, sv cell_585, .any, .any]) (ow1 := []) rfl rfl rfl rfl (ev_op (ev_cb (ea_cons (ev_var (i := 4) rfl) ea_nil) rc_len) (ev_var (i := 2) rfl) r2_lt))))), fun hb_590 N_ hN_587 => ?_, fun hb_590 => ?_⟩
      · have hP_588 := ite_t hb_590 hP_588
        obtain ⟨c_, hc_589, hP_588⟩ := bind_some hP_588
        unfold m__law_draws_L1 at hc_589
        refine SB.is (sl' := [sv script_578, sv first_579, sv many_580, sv base_581, .at p_found_582, sv cell_585, .any, .any]) (ow1 := [ol p_found_582 found_586]) rfl rfl ?_
        obtain ⟨r_592, h_r_592, hc_589⟩ := bind_some hc_589
        obtain ⟨found_593, h_found_593, hc_589⟩ := bind_some hc_589
        refine SB.seqB (fun kx_ => sb_appO (i := 4) (j := 0) rfl rfl (ev_op (ev_var (i := 5) rfl) (ev_var (i := 3) rfl) (r2_modO h_r_592)) h_found_593 (ow1 := [ol p_found_582 found_593]) rfl (kx_ _ _ ?_))
        obtain ⟨q_594, h_q_594, hc_589⟩ := bind_some hc_589
        obtain ⟨cell_595, h_cell_595, hc_589⟩ := bind_some hc_589
        refine sb_asg (sl' := [sv script_578, sv first_579, sv many_580, sv base_581, .at p_found_582, sv cell_595, .any, .any]) rfl (EV.cast (ev_op (ev_var (i := 5) rfl) (ev_var (i := 3) rfl) (r2_divO h_q_594)) (Option.some.inj h_cell_595)) ?_
        cases hc_589
        exact fun σ Kn H s => hN_587 _ _ (Nat.lt_succ_self _) hP_588 σ Kn H ((s.le (.keep (.keep (.keep (.keep (.keep (.keep (.keep (.keep .nil))))))))).sub (List.Sublist.refl _))
      · have hP_588 := ite_f hb_590 hP_588
        cases hP_588
        refine kx_598 _ _ ?_
        refine SB.is (sl' := [sv script_578, sv first_579, sv many_580, sv base_581, .at p_found_582, sv cell_596, .any, .any]) (ow1 := [ol p_found_582 found_597]) rfl rfl ?_
        obtain ⟨rg_599, h_rg_599, hf⟩ := bind_some hf
        obtain ⟨found_614, h_tot_606, hf⟩ := bind_some hf
        refine SB.seqB (fun kx_615 => sb_for (β := Int) (Sx := (List Int)) (fun s => [sv script_578, sv first_579, sv many_580, sv base_581, .at p_found_582, sv cell_596, .any, .any]) (fun s => [ol p_found_582 s]) (fun x s => [sv script_578, sv first_579, sv many_580, sv base_581, .at p_found_582, sv cell_596, sv x, .any]) [6] (fun xs s => forS (m__law_draws_L2 script_578 first_579 base_581) xs s = some found_614) found_597 (IT.m (it_rng1 (ea_cons (ev_op (ev_var (i := 2) rfl) (ev_bor (i := 4) (j := 0) (sl' := [sv script_578, sv first_579, sv many_580, sv base_581, sv found_597, sv cell_596, .any, .any]) (ow1 := []) rfl rfl rfl rfl (ev_cb (ea_cons (ev_var (i := 4) rfl) ea_nil) rc_len)) r2_sub) ea_nil) h_rg_599)) h_tot_606 (.keep (.keep (.keep (.keep (.keep (.keep (.keep (.keep .nil)))))))) (List.Sublist.refl _) (fun x s => (gt_name rfl)) ?_ ?_)
        · intro Kn1 b1 k_601 rest_ found_600 hP_603 N_ hN_602
          obtain ⟨c_, hc_604, hP_603⟩ := bind_some hP_603
          have q_605 := q.base b1
          unfold m__law_draws_L2 at hc_604
          refine SB.is (sl' := [sv script_578, sv first_579, sv many_580, sv base_581, .at p_found_582, sv cell_596, sv k_601, .any]) (ow1 := [ol p_found_582 found_600]) rfl rfl ?_
          obtain ⟨r_607, h_r_607, hc_604⟩ := bind_some hc_604
          obtain ⟨m_608, h_m_608, hc_604⟩ := bind_some hc_604
          obtain ⟨r_609, h_r_609, hc_604⟩ := bind_some hc_604
          obtain ⟨n_610, h_n_610, hc_604⟩ := bind_some hc_604
          refine SB.seqB (fun kx_ => sb_asg (sl' := [sv script_578, sv first_579, sv many_580, sv base_581, .at p_found_582, sv cell_596, sv k_601, sv n_610]) rfl (EV.cast (ev_call (ea_cons (ev_op (ev_call (ea_cons (ev_var (i := 0) rfl) (ea_cons (ev_op (ev_op (ev_var (i := 1) rfl) (ev_int 1) r2_add) (ev_var (i := 6) rfl) r2_add) ea_nil)) h_r_607) (ev_op (ev_op (ev_int 97) (ev_var (i := 6) rfl) r2_mull) (ev_var (i := 6) rfl) (r2_mulO h_m_608)) r2_add) ea_nil) h_r_609) (Option.some.inj h_n_610)) (kx_ _ _ ?_))
          obtain ⟨r_611, h_r_611, hc_604⟩ := bind_some hc_604
          obtain ⟨r_612, h_r_612, hc_604⟩ := bind_some hc_604
          obtain ⟨found_613, h_found_613, hc_604⟩ := bind_some hc_604
          refine sb_appO (i := 4) (j := 0) rfl rfl (ev_op (ev_op (ev_op (ev_var (i := 7) rfl) (ev_int 1000000000039) r2_mulr) (ev_call (ea_cons (ev_op (ev_op (ev_var (i := 7) rfl) (ev_op (ev_int 7) (ev_var (i := 6) rfl) r2_mull) r2_add) (ev_int 1) r2_add) ea_nil) h_r_611) r2_add) (ev_var (i := 3) rfl) (r2_modO h_r_612)) h_found_613 (ow1 := [ol p_found_582 found_613]) rfl ?_
          cases hc_604
          exact fun σ Kn H s => hN_602 _ hP_603 σ Kn H ((s.le (.keep (.keep (.keep (.keep (.keep (.keep (.drop (.drop .nil))))))))).sub (List.Sublist.refl _))
        · intro s_ h0
          cases h0
          refine kx_615 _ _ ?_
          refine SB.is (sl' := [sv script_578, sv first_579, sv many_580, sv base_581, .at p_found_582, sv cell_596, .any, .any]) (ow1 := [ol p_found_582 found_614]) rfl rfl ?_
          cases hf
          exact sb_retO (i := 4) (j := 0) rfl rfl q (List.Sublist.cons _ List.Sublist.slnil)
theorem sc__law_names : FnScope ["_law_many", "_law_cell", "_law_letters", "_law_some", "_law_k", "_law_word"] ["_law_many", "_law_cell"] (defScope s__law_names) := ⟨rfl, rfl, rfl, by decide +kernel, rfl, by decide +kernel, by decide +kernel⟩
set_option maxHeartbeats 4000000 in
theorem ok__law_names (T : TX K mg w) : FnOk P w K mg base CX0 1 T.a__law_names T.d__law_names ["_law_many", "_law_cell"] (PL (τ := Int × Int × Unit) K (fun t => m__law_names t.1 t.2.1)) := by
  refine T.F__law_names.ok sc__law_names (fun vs H Q E h => ?_) (fun cdv A outer s H vs Q E hr h => ?_)
  · obtain ⟨Kn, t, r, ek, h, hf, q⟩ := h
    exact Tp.len h
  · obtain ⟨Kn, t, r_, ek, h, hf, q⟩ := h
    obtain ⟨many_616, cell_617, u_⟩ := t
    obtain ⟨v_0, rr_, rfl, hv_0, h⟩ := h
    obtain ⟨v_1, rr_, rfl, hv_1, h⟩ := h
    obtain rfl := h
    replace hf : m__law_names many_616 cell_617 = some r_ := hf
    unfold m__law_names at hf
    refine ⟨_, (pss_cons (ps_set (i := 2) sc__law_names.nd rfl (.inl rfl) pe_str)
      (pss_cons (ps_set (i := 3) sc__law_names.nd rfl (.inl rfl) (pe_lst pa_nil))
      (pss_cons (ps_for PassesOwn.never rfl (pi_range1 (by rfl) T.z_range (pa_cons (pv 0) pa_nil)) (pg_name (i := 4) sc__law_names.nd rfl (.inl rfl)) (pss_cons (ps_set (i := 5) sc__law_names.nd rfl (.inl rfl) (pe_op op_add_str (pe_ix ix_str (pv 2) (pe_op op_mod (pe_op op_add (pv 4) (pv 1)) pe_int) (fun _ _ => rfl)) (pe_ix ix_str (pv 2) (pe_op op_add (pe_op op_fdiv (pv 4) pe_int) (pe_op op_mod (pe_op op_fdiv (pv 1) pe_int) pe_int)) (fun _ _ => rfl))))
      (pss_one (ps_expr (pe_bm PySem.F.plainAttrs_list PySem.F.slot_list_append PySem.F.type_list_append mt_append (pv 3) (pa_cons (pe_op op_add_str (pv 5) (pe_op op_mulS (pe_ix ix_str (pv 2) (pe_op op_mod (pe_op op_add (pe_op op_mul (pv 4) pe_int) (pv 1)) pe_int) (fun _ _ => rfl)) (pe_op op_add pe_int (pe_op op_mod (pe_op op_add (pv 4) (pv 1)) pe_int)))) pa_nil))))))
      (pss_one (ps_ret (pv 3)))))), ?_⟩
    refine enter (Kn := Kn) (sl := [sv many_616, sv cell_617, .any, .any, .any, .any]) ek ⟨⟨v_0, rfl, hv_0⟩, ⟨v_1, rfl, hv_1⟩, trivial, trivial, trivial, trivial, trivial⟩ ?_
    have q := rn_of q
    obtain ⟨letters_618, h_letters_618, hf⟩ := bind_some hf
    refine SB.seqB (fun kx_ => sb_asg (sl' := [sv many_616, sv cell_617, sv letters_618, .any, .any, .any]) rfl (EV.cast (ev_str ("abcdefghijklmnopqrstuvwxyz" : Str)) (Option.some.inj h_letters_618)) (kx_ _ _ ?_))
    obtain ⟨some_619, h_some_619, hf⟩ := bind_some hf
    refine SB.seqB (fun kx_ => sb_asgO (sl' := fun p_some_619 => [sv many_616, sv cell_617, sv letters_618, .at p_some_619, .any, .any]) (fun _ => rfl) (EN.cast (en_lst el_nil) (Option.some.inj h_some_619)) (fun p_some_619 => (kx_ _ _ ?_)))
    obtain ⟨rg_620, h_rg_620, hf⟩ := bind_some hf
    obtain ⟨some_636, h_tot_627, hf⟩ := bind_some hf
    refine SB.seqB (fun kx_637 => sb_for (β := Int) (Sx := (List Str)) (fun s => [sv many_616, sv cell_617, sv letters_618, .at p_some_619, .any, .any]) (fun s => [ol p_some_619 s]) (fun x s => [sv many_616, sv cell_617, sv letters_618, .at p_some_619, sv x, .any]) [4] (fun xs s => forS (m__law_names_L1 cell_617 letters_618) xs s = some some_636) some_619 (IT.m (it_rng1 (ea_cons (ev_var (i := 0) rfl) ea_nil) h_rg_620)) h_tot_627 (.keep (.keep (.keep (.keep (.keep (.keep .nil)))))) (List.Sublist.refl _) (fun x s => (gt_name rfl)) ?_ ?_)
    · intro Kn1 b1 k_622 rest_ some_621 hP_624 N_ hN_623
      obtain ⟨c_, hc_625, hP_624⟩ := bind_some hP_624
      have q_626 := q.base b1
      unfold m__law_names_L1 at hc_625
      refine SB.is (sl' := [sv many_616, sv cell_617, sv letters_618, .at p_some_619, sv k_622, .any]) (ow1 := [ol p_some_619 some_621]) rfl rfl ?_
      obtain ⟨i_628, h_i_628, hc_625⟩ := bind_some hc_625
      obtain ⟨i_629, h_i_629, hc_625⟩ := bind_some hc_625
      obtain ⟨t_630, h_t_630, hc_625⟩ := bind_some hc_625
      obtain ⟨word_631, h_word_631, hc_625⟩ := bind_some hc_625
      refine SB.seqB (fun kx_ => sb_asg (sl' := [sv many_616, sv cell_617, sv letters_618, .at p_some_619, sv k_622, sv word_631]) rfl (EV.cast (ev_op (ev_op (ev_var (i := 2) rfl) (ev_op (ev_op (ev_var (i := 4) rfl) (ev_var (i := 1) rfl) r2_add) (ev_int 26) r2_mod) (r2_ixS h_i_628)) (ev_op (ev_var (i := 2) rfl) (ev_op (ev_op (ev_var (i := 4) rfl) (ev_int 26) r2_div) (ev_op (ev_op (ev_var (i := 1) rfl) (ev_int 26) r2_div) (ev_int 20) r2_mod) r2_add) (r2_ixS h_i_629)) (r2_addS h_t_630)) (Option.some.inj h_word_631)) (kx_ _ _ ?_))
      obtain ⟨i_632, h_i_632, hc_625⟩ := bind_some hc_625
      obtain ⟨t_633, h_t_633, hc_625⟩ := bind_some hc_625
      obtain ⟨t_634, h_t_634, hc_625⟩ := bind_some hc_625
      obtain ⟨some_635, h_some_635, hc_625⟩ := bind_some hc_625
      refine sb_appO (i := 3) (j := 0) rfl rfl (ev_op (ev_var (i := 5) rfl) (ev_op (ev_op (ev_var (i := 2) rfl) (ev_op (ev_op (ev_op (ev_var (i := 4) rfl) (ev_int 7) r2_mulr) (ev_var (i := 1) rfl) r2_add) (ev_int 26) r2_mod) (r2_ixS h_i_632)) (ev_op (ev_int 1) (ev_op (ev_op (ev_var (i := 4) rfl) (ev_var (i := 1) rfl) r2_add) (ev_int 3) r2_mod) r2_add) (r2_mulS h_t_633)) (r2_addS h_t_634)) h_some_635 (ow1 := [ol p_some_619 some_635]) rfl ?_
      cases hc_625
      exact fun σ Kn H s => hN_623 _ hP_624 σ Kn H ((s.le (.keep (.keep (.keep (.keep (.drop (.drop .nil))))))).sub (List.Sublist.refl _))
    · intro s_ h0
      cases h0
      refine kx_637 _ _ ?_
      refine SB.is (sl' := [sv many_616, sv cell_617, sv letters_618, .at p_some_619, .any, .any]) (ow1 := [ol p_some_619 some_636]) rfl rfl ?_
      cases hf
      exact sb_retO (i := 3) (j := 0) rfl rfl q (List.Sublist.cons _ List.Sublist.slnil)
theorem sc__law_item : FnScope ["_law_n", "_law_far", "_law_least", "_law_wish", "_law_most", "_law_grow", "_law_shrink"] ["_law_n"] (defScope s__law_item) := ⟨rfl, rfl, rfl, by decide +kernel, rfl, by decide +kernel, by decide +kernel⟩
set_option maxHeartbeats 4000000 in
theorem ok__law_item (T : TX K mg w) : FnOk P w K mg base CX0 1 T.a__law_item T.d__law_item ["_law_n"] (PF (τ := Int × Unit) K (fun t => m__law_item t.1)) := by
  refine T.F__law_item.ok sc__law_item (fun vs H Q E h => ?_) (fun cdv A outer s H vs Q E hr h => ?_)
  · obtain ⟨Kn, t, r, ek, h, hf, q⟩ := h
    exact Tp.len h
  · obtain ⟨Kn, t, r_, ek, h, hf, q⟩ := h
    obtain ⟨n_638, u_⟩ := t
    obtain ⟨v_0, rr_, rfl, hv_0, h⟩ := h
    obtain rfl := h
    replace hf : m__law_item n_638 = some r_ := hf
    unfold m__law_item at hf
    refine ⟨_, (pss_cons (ps_set (i := 1) sc__law_item.nd rfl (.inl rfl) (pe_ix k_ixl (pe_lst (pa_cons pe_int (pa_cons pe_int (pa_cons (pe_op op_pow pe_int pe_int) pa_nil)))) (pe_op op_mod (pv 0) pe_int) (fun _ _ => rfl)))
      (pss_cons (ps_set (i := 0) sc__law_item.nd rfl (.inl rfl) (pe_op op_fdiv (pv 0) pe_int))
      (pss_cons (ps_set (i := 2) sc__law_item.nd rfl (.inl rfl) (pe_op op_mod (pv 0) (pv 1)))
      (pss_cons (ps_set (i := 3) sc__law_item.nd rfl (.inl rfl) (pe_op op_add (pv 2) (pe_op op_mod (pe_op op_fdiv (pv 0) (pe_op op_pow pe_int pe_int)) (pv 1))))
      (pss_cons (ps_set (i := 4) sc__law_item.nd rfl (.inl rfl) (pe_op op_add (pv 3) (pe_op op_mod (pe_op op_fdiv (pv 0) (pe_op op_pow pe_int pe_int)) (pv 1))))
      (pss_cons (ps_set (i := 0) sc__law_item.nd rfl (.inl rfl) (pe_op op_fdivW (pv 0) (pe_op op_pow pe_int pe_int)))
      (pss_cons (ps_set (i := 5) sc__law_item.nd rfl (.inl rfl) (pe_ix k_ixl (pe_lst (pa_cons (pe_op op_mod (pv 0) pe_int) (pa_cons (pe_op op_mod (pv 0) pe_int) pa_nil))) (pe_op op_mod (pe_op op_fdiv (pv 0) pe_int) pe_int) (fun _ _ => rfl)))
      (pss_cons (ps_set (i := 6) sc__law_item.nd rfl (.inl rfl) (pe_ix k_ixl (pe_lst (pa_cons (pe_op op_mod (pe_op op_fdiv (pv 0) pe_int) pe_int) (pa_cons (pe_op op_mod (pe_op op_fdiv (pv 0) pe_int) pe_int) pa_nil))) (pe_op op_mod (pe_op op_fdiv (pv 0) pe_int) pe_int) (fun _ _ => rfl)))
      (pss_one (ps_ret (pe_tup (pa_cons (pv 2) (pa_cons (pv 3) (pa_cons (pv 4) (pa_cons (pv 5) (pa_cons (pv 6) (pa_cons (pe_op op_mod (pe_op op_fdiv (pv 0) pe_int) pe_int) pa_nil))))))))))))))))), ?_⟩
    refine enter (Kn := Kn) (sl := [sv n_638, .any, .any, .any, .any, .any, .any]) ek ⟨⟨v_0, rfl, hv_0⟩, trivial, trivial, trivial, trivial, trivial, trivial, trivial⟩ ?_
    have q := rt_of q
    obtain ⟨i_639, h_i_639, hf⟩ := bind_some hf
    obtain ⟨far_640, h_far_640, hf⟩ := bind_some hf
    refine SB.seqB (fun kx_ => sb_asg (sl' := [sv n_638, sv far_640, .any, .any, .any, .any, .any]) rfl (EV.cast (ev_op (EN.ev (en_lst (el_cons (ev_int 12) (el_cons (ev_int 100) (el_cons (ev_op (ev_int 10) (ev_int 4) (r2_pow (r := 10000))) el_nil))))) (ev_op (ev_var (i := 0) rfl) (ev_int 3) r2_mod) (r2_ixL h_i_639)) (Option.some.inj h_far_640)) (kx_ _ _ ?_))
    obtain ⟨n_641, h_n_641, hf⟩ := bind_some hf
    refine SB.seqB (fun kx_ => sb_asg (sl' := [sv n_641, sv far_640, .any, .any, .any, .any, .any]) rfl (EV.cast (ev_op (ev_var (i := 0) rfl) (ev_int 3) r2_div) (Option.some.inj h_n_641)) (kx_ _ _ ?_))
    obtain ⟨r_642, h_r_642, hf⟩ := bind_some hf
    obtain ⟨least_643, h_least_643, hf⟩ := bind_some hf
    refine SB.seqB (fun kx_ => sb_asg (sl' := [sv n_641, sv far_640, sv least_643, .any, .any, .any, .any]) rfl (EV.cast (ev_op (ev_var (i := 0) rfl) (ev_var (i := 1) rfl) (r2_modO h_r_642)) (Option.some.inj h_least_643)) (kx_ _ _ ?_))
    obtain ⟨r_644, h_r_644, hf⟩ := bind_some hf
    obtain ⟨wish_645, h_wish_645, hf⟩ := bind_some hf
    refine SB.seqB (fun kx_ => sb_asg (sl' := [sv n_641, sv far_640, sv least_643, sv wish_645, .any, .any, .any]) rfl (EV.cast (ev_op (ev_var (i := 2) rfl) (ev_op (ev_op (ev_var (i := 0) rfl) (ev_op (ev_int 10) (ev_int 4) (r2_pow (r := 10000))) r2_div) (ev_var (i := 1) rfl) (r2_modO h_r_644)) r2_add) (Option.some.inj h_wish_645)) (kx_ _ _ ?_))
    obtain ⟨r_646, h_r_646, hf⟩ := bind_some hf
    obtain ⟨most_647, h_most_647, hf⟩ := bind_some hf
    refine SB.seqB (fun kx_ => sb_asg (sl' := [sv n_641, sv far_640, sv least_643, sv wish_645, sv most_647, .any, .any]) rfl (EV.cast (ev_op (ev_var (i := 3) rfl) (ev_op (ev_op (ev_var (i := 0) rfl) (ev_op (ev_int 10) (ev_int 8) (r2_pow (r := 100000000))) r2_div) (ev_var (i := 1) rfl) (r2_modO h_r_646)) r2_add) (Option.some.inj h_most_647)) (kx_ _ _ ?_))
    obtain ⟨n_648, h_n_648, hf⟩ := bind_some hf
    refine SB.seqB (fun kx_ => sb_asg (sl' := [sv n_648, sv far_640, sv least_643, sv wish_645, sv most_647, .any, .any]) rfl (EV.cast (ev_op (ev_var (i := 0) rfl) (ev_op (ev_int 10) (ev_int 12) (r2_pow (r := 1000000000000))) r2_divw) (Option.some.inj h_n_648)) (kx_ _ _ ?_))
    obtain ⟨i_649, h_i_649, hf⟩ := bind_some hf
    obtain ⟨grow_650, h_grow_650, hf⟩ := bind_some hf
    refine SB.seqB (fun kx_ => sb_asg (sl' := [sv n_648, sv far_640, sv least_643, sv wish_645, sv most_647, sv grow_650, .any]) rfl (EV.cast (ev_op (EN.ev (en_lst (el_cons (ev_op (ev_var (i := 0) rfl) (ev_int 4) r2_mod) (el_cons (ev_op (ev_var (i := 0) rfl) (ev_int 100) r2_mod) el_nil)))) (ev_op (ev_op (ev_var (i := 0) rfl) (ev_int 100) r2_div) (ev_int 2) r2_mod) (r2_ixL h_i_649)) (Option.some.inj h_grow_650)) (kx_ _ _ ?_))
    obtain ⟨i_651, h_i_651, hf⟩ := bind_some hf
    obtain ⟨shrink_652, h_shrink_652, hf⟩ := bind_some hf
    refine SB.seqB (fun kx_ => sb_asg (sl' := [sv n_648, sv far_640, sv least_643, sv wish_645, sv most_647, sv grow_650, sv shrink_652]) rfl (EV.cast (ev_op (EN.ev (en_lst (el_cons (ev_op (ev_op (ev_var (i := 0) rfl) (ev_int 200) r2_div) (ev_int 4) r2_mod) (el_cons (ev_op (ev_op (ev_var (i := 0) rfl) (ev_int 200) r2_div) (ev_int 100) r2_mod) el_nil)))) (ev_op (ev_op (ev_var (i := 0) rfl) (ev_int 20000) r2_div) (ev_int 2) r2_mod) (r2_ixL h_i_651)) (Option.some.inj h_shrink_652)) (kx_ _ _ ?_))
    cases hf
    exact sb_ret (ev_tup (ea_cons (ev_var (i := 2) rfl) (ea_cons (ev_var (i := 3) rfl) (ea_cons (ev_var (i := 4) rfl) (ea_cons (ev_var (i := 5) rfl) (ea_cons (ev_var (i := 6) rfl) (ea_cons (ev_op (ev_op (ev_var (i := 0) rfl) (ev_int 40000) r2_div) (ev_int 10) r2_mod) ea_nil))))))) q (List.Sublist.refl _)
theorem sc__law_items : FnScope ["_law_script", "_law_names_here", "_law_items_here", "_law_name", "_law_n"] ["_law_script", "_law_names_here"] (defScope s__law_items) := ⟨rfl, rfl, rfl, by decide +kernel, rfl, by decide +kernel, by decide +kernel⟩
set_option maxHeartbeats 4000000 in
theorem ok__law_items (T : TX K mg w) : FnOk P w K mg base CX0 3 T.a__law_items T.d__law_items ["_law_script", "_law_names_here"] (PG (τ := (Fz Int) × (List Str) × Unit) K (fun t => m__law_items t.1 t.2.1)) := by
  refine T.F__law_items.ok sc__law_items (fun vs H Q E h => ?_) (fun cdv A outer s H vs Q E hr h => ?_)
  · obtain ⟨Kn, t, r, ek, h, hf, q⟩ := h
    exact Tp.len h
  · obtain ⟨Kn, t, r_, ek, h, hf, q⟩ := h
    obtain ⟨script_653, names_here_654, u_⟩ := t
    obtain ⟨v_0, rr_, rfl, hv_0, h⟩ := h
    obtain ⟨v_1, rr_, rfl, hv_1, h⟩ := h
    obtain rfl := h
    replace hf : m__law_items script_653 names_here_654 = some r_ := hf
    unfold m__law_items at hf
    refine ⟨_, (pss_cons (ps_set (i := 2) sc__law_items.nd rfl (.inl rfl) pe_dnewK)
      (pss_cons (ps_for PassesOwn.never rfl (pi_zip (by rfl) T.z_zip (pa_cons (pv 1) (pa_cons (pe_call (ok__law_draws T) hr (by rfl) T.g__law_draws T.F__law_draws.kp T.b__law_draws .nil pass0 (pa_cons (pv 0) (pa_cons pe_int (pa_cons (pe_callB k_len (by rfl) T.z_len PySem.boot_len (pa_cons (pv 1) pa_nil)) (pa_cons (pe_op op_mul pe_int (pe_op op_pow pe_int pe_int)) pa_nil))))) pa_nil))) (kpg_tup (pgs_cons (pg_name (i := 3) sc__law_items.nd rfl (.inl rfl)) (pgs_cons (pg_name (i := 4) sc__law_items.nd rfl (.inl rfl)) pgs_nil))) (pss_one (k_dput hr.units (pv 2) (pv 3) (pe_call (ok__law_item T) (hr.mono (by decide)) (by rfl) T.g__law_item T.F__law_item.kp T.b__law_item .nil pass0 (pa_cons (pv 4) pa_nil)) rfl)))
      (pss_one (ps_ret (pv 2))))), ?_⟩
    refine enter (Kn := Kn) (sl := [sv script_653, sv names_here_654, .any, .any, .any]) ek ⟨⟨v_0, rfl, hv_0⟩, ⟨v_1, rfl, hv_1⟩, trivial, trivial, trivial, trivial⟩ ?_
    have q := rng_of q
    refine SB.seqB (fun kx_ => sb_dnewK (κ := Str) (β := (Int × Int × Int × Int × Int × Int × Unit)) (sl' := fun p_items_here_655 => [sv script_653, sv names_here_654, .at p_items_here_655, .any, .any]) rfl (fun _ => rfl) (fun p_items_here_655 => (kx_ _ _ ?_)))
    obtain ⟨r_656, h_r_656, hf⟩ := bind_some hf
    obtain ⟨items_here_667, h_tot_664, hf⟩ := bind_some hf
    refine SB.seqB (fun kx_668 => sb_for (β := (Str × Int × Unit)) (Sx := (Dc Str (Int × Int × Int × Int × Int × Int × Unit))) (fun s => [sv script_653, sv names_here_654, .at p_items_here_655, .any, .any]) (fun s => [oo p_items_here_655 s]) (fun x s => [sv script_653, sv names_here_654, .at p_items_here_655, sv x.1, sv x.2.1]) [3, 4] (fun xs s => forS (m__law_items_L1) xs s = some items_here_667) (Dc.mk ([] : List (Str × (Int × Int × Int × Int × Int × Int × Unit)))) (IT.m (it_zip (ea_cons (ev_var (i := 1) rfl) (ea_cons (EN.ev (en_call (ea_cons (ev_var (i := 0) rfl) (ea_cons (ev_int 2) (ea_cons (ev_cb (ea_cons (ev_var (i := 1) rfl) ea_nil) rc_len) (ea_cons (ev_op (ev_int 12) (ev_op (ev_int 10) (ev_int 17) (r2_pow (r := 100000000000000000))) r2_mulr) ea_nil)))) h_r_656)) ea_nil)))) h_tot_664 (.keep (.keep (.keep (.keep (.keep .nil))))) (List.Sublist.refl _) (fun x s => (gt_tup (gts_cons (gt_name rfl) (gts_cons (gt_name rfl) gts_nil)))) ?_ ?_)
    · intro Kn1 b1 x_ rest_ items_here_657 hP_661 N_ hN_660
      obtain ⟨name_658, n_659, _⟩ := x_
      obtain ⟨c_, hc_662, hP_661⟩ := bind_some hP_661
      have q_663 := q.base b1
      unfold m__law_items_L1 at hc_662
      refine SB.is (sl' := [sv script_653, sv names_here_654, .at p_items_here_655, sv name_658, sv n_659]) (ow1 := [oo p_items_here_655 items_here_657]) rfl rfl ?_
      obtain ⟨r_665, h_r_665, hc_662⟩ := bind_some hc_662
      obtain ⟨items_here_666, h_items_here_666, hc_662⟩ := bind_some hc_662
      refine sb_dput (i := 2) (j := 0) rfl rfl (ev_call (ea_cons (ev_var (i := 4) rfl) ea_nil) h_r_665) (ev_var (i := 3) rfl) h_items_here_666 (ow1 := [oo p_items_here_655 items_here_666]) rfl ?_
      cases hc_662
      exact fun σ Kn H s => hN_660 _ hP_661 σ Kn H ((s.le (.keep (.keep (.keep (.drop (.drop .nil)))))).sub (List.Sublist.refl _))
    · intro s_ h0
      cases h0
      refine kx_668 _ _ ?_
      refine SB.is (sl' := [sv script_653, sv names_here_654, .at p_items_here_655, .any, .any]) (ow1 := [oo p_items_here_655 items_here_667]) rfl rfl ?_
      cases hf
      exact sb_retG (i := 2) (j := 0) rfl rfl q (List.Sublist.cons _ List.Sublist.slnil)
theorem sc__law_room : FnScope ["_law_items_here", "_law_cell", "_law_leasts", "_law_wishes", "_law_mosts", "_law_item_here"] ["_law_items_here", "_law_cell"] (defScope s__law_room) := ⟨rfl, rfl, rfl, by decide +kernel, rfl, by decide +kernel, by decide +kernel⟩
set_option maxHeartbeats 4000000 in
theorem ok__law_room (T : TX K mg w) : FnOk P w K mg base CX0 1 T.a__law_room T.d__law_room ["_law_items_here", "_law_cell"] (PF (τ := (Dc Str (Int × Int × Int × Int × Int × Int × Unit)) × Int × Unit) K (fun t => m__law_room t.1 t.2.1)) := by
  refine T.F__law_room.ok sc__law_room (fun vs H Q E h => ?_) (fun cdv A outer s H vs Q E hr h => ?_)
  · obtain ⟨Kn, t, r, ek, h, hf, q⟩ := h
    exact Tp.len h
  · obtain ⟨Kn, t, r_, ek, h, hf, q⟩ := h
    obtain ⟨items_here_669, cell_670, u_⟩ := t
    obtain ⟨v_0, rr_, rfl, hv_0, h⟩ := h
    obtain ⟨v_1, rr_, rfl, hv_1, h⟩ := h
    obtain rfl := h
    replace hf : m__law_room items_here_669 cell_670 = some r_ := hf
    unfold m__law_room at hf
    refine ⟨_, (pss_cons (ps_set (i := 2) sc__law_room.nd rfl (.inl rfl) (pe_callB k_sum (by rfl) T.z_sum (by decide +kernel) (pa_cons (pe_lk (pe_lc (own := [("_law_item_here", 5)]) (g := gName 5) (tt := tYes) (by rfl) sc__law_room.nd (pi_values (pv 0)) (blkOk_by (own := [("_law_item_here", 5)]) (N := ["_law_items_here", "_law_cell", "_law_leasts", "_law_wishes", "_law_mosts", "_law_item_here"]) (sc := defScope s__law_room) (by decide +kernel)) (fun _ _ _ _ _ => (pg_name (i := 5) sc__law_room.nd rfl (Or.inl rfl))) (fun _ _ _ _ _ => pts_nil) (fun _ _ _ _ _ => (pe_ix k_ixt (pv 5) pe_int (fun _ _ => rfl))))) pa_nil)))
      (pss_cons (ps_set (i := 3) sc__law_room.nd rfl (.inl rfl) (pe_callB k_sum (by rfl) T.z_sum (by decide +kernel) (pa_cons (pe_lk (pe_lc (own := [("_law_item_here", 5)]) (g := gName 5) (tt := tYes) (by rfl) sc__law_room.nd (pi_values (pv 0)) (blkOk_by (own := [("_law_item_here", 5)]) (N := ["_law_items_here", "_law_cell", "_law_leasts", "_law_wishes", "_law_mosts", "_law_item_here"]) (sc := defScope s__law_room) (by decide +kernel)) (fun _ _ _ _ _ => (pg_name (i := 5) sc__law_room.nd rfl (Or.inl rfl))) (fun _ _ _ _ _ => pts_nil) (fun _ _ _ _ _ => (pe_ix k_ixt (pv 5) pe_int (fun _ _ => rfl))))) pa_nil)))
      (pss_cons (ps_set (i := 4) sc__law_room.nd rfl (.inl rfl) (pe_callB k_sum (by rfl) T.z_sum (by decide +kernel) (pa_cons (pe_lk (pe_lc (own := [("_law_item_here", 5)]) (g := gName 5) (tt := tYes) (by rfl) sc__law_room.nd (pi_values (pv 0)) (blkOk_by (own := [("_law_item_here", 5)]) (N := ["_law_items_here", "_law_cell", "_law_leasts", "_law_wishes", "_law_mosts", "_law_item_here"]) (sc := defScope s__law_room) (by decide +kernel)) (fun _ _ _ _ _ => (pg_name (i := 5) sc__law_room.nd rfl (Or.inl rfl))) (fun _ _ _ _ _ => pts_nil) (fun _ _ _ _ _ => (pe_ix k_ixt (pv 5) pe_int (fun _ _ => rfl))))) pa_nil)))
      (pss_cons (ps_if (pt_cmpR op_eq (pe_op op_mod (pv 1) pe_int) pe_int (nomark _)) (pss_one (ps_ret (pe_op op_mod (pe_op op_mul (pe_op op_fdiv (pv 1) pe_int) pe_int) (pe_op op_add (pv 2) pe_int)))) pss_nil)
      (pss_cons (ps_if (pt_cmpR op_eq (pe_op op_mod (pv 1) pe_int) pe_int (nomark _)) (pss_one (ps_ret (pe_op op_add (pv 2) (pe_op op_mod (pe_op op_mul (pe_op op_fdiv (pv 1) pe_int) pe_int) (pe_op op_add (pe_op op_sub (pv 3) (pv 2)) pe_int))))) pss_nil)
      (pss_cons (ps_if (pt_cmpR op_eq (pe_op op_mod (pv 1) pe_int) pe_int (nomark _)) (pss_one (ps_ret (pe_op op_add (pv 3) (pe_op op_mod (pe_op op_mul (pe_op op_fdiv (pv 1) pe_int) pe_int) (pe_op op_add (pe_op op_sub (pv 4) (pv 3)) pe_int))))) pss_nil)
      (pss_one (ps_ret (pe_op op_mod (pe_op op_fdiv (pv 1) pe_int) (pe_op op_pow pe_int pe_int)))))))))), ?_⟩
    refine enter (Kn := Kn) (sl := [sv items_here_669, sv cell_670, .any, .any, .any, .any]) ek ⟨⟨v_0, rfl, hv_0⟩, ⟨v_1, rfl, hv_1⟩, trivial, trivial, trivial, trivial, trivial⟩ ?_
    have q := rt_of q
    obtain ⟨zs_672, h_zs_672, hf⟩ := bind_some hf
    obtain ⟨leasts_673, h_leasts_673, hf⟩ := bind_some hf
    refine SB.seqB (fun kx_ => sb_asg (sl' := [sv items_here_669, sv cell_670, sv leasts_673, .any, .any, .any]) rfl (EV.cast (ev_cb (ea_cons (EN.ev (en_lcD (js := [5]) (dit_vals (i := 0)) rfl (fun x => [sv items_here_669, sv cell_670, .any, .any, .any, sv x]) h_zs_672 (anyAt_of (by rfl)) (fun x => (gt_name rfl)) (sub_of (by rfl)) (fun _ _ _ _ x b h => by cases h; exact et_yes) (fun _ _ _ _ x z _ h => by obtain ⟨item_here_671, hx_⟩ : ∃ y, y = x := ⟨x, rfl⟩; subst hx_; have hz_ := Option.some.inj h; subst hz_; exact EV.is (sl' := [sv items_here_669, sv cell_670, .any, .any, .any, sv item_here_671]) rfl (ev_op (ev_var (i := 5) rfl) (ev_int 0) (r2_tix (n := 0) (At.z _ _)))))) ea_nil) rc_sum) (Option.some.inj h_leasts_673)) (kx_ _ _ ?_))
    obtain ⟨zs_675, h_zs_675, hf⟩ := bind_some hf
    obtain ⟨wishes_676, h_wishes_676, hf⟩ := bind_some hf
    refine SB.seqB (fun kx_ => sb_asg (sl' := [sv items_here_669, sv cell_670, sv leasts_673, sv wishes_676, .any, .any]) rfl (EV.cast (ev_cb (ea_cons (EN.ev (en_lcD (js := [5]) (dit_vals (i := 0)) rfl (fun x => [sv items_here_669, sv cell_670, sv leasts_673, .any, .any, sv x]) h_zs_675 (anyAt_of (by rfl)) (fun x => (gt_name rfl)) (sub_of (by rfl)) (fun _ _ _ _ x b h => by cases h; exact et_yes) (fun _ _ _ _ x z _ h => by obtain ⟨item_here_674, hx_⟩ : ∃ y, y = x := ⟨x, rfl⟩; subst hx_; have hz_ := Option.some.inj h; subst hz_; exact EV.is (sl' := [sv items_here_669, sv cell_670, sv leasts_673, .any, .any, sv item_here_674]) rfl (ev_op (ev_var (i := 5) rfl) (ev_int 1) (r2_tix (n := 1) (At.s _ (At.z _ _))))))) ea_nil) rc_sum) (Option.some.inj h_wishes_676)) (kx_ _ _ ?_))
    obtain ⟨zs_678, h_zs_678, hf⟩ := bind_some hf
    obtain ⟨mosts_679, h_mosts_679, hf⟩ := bind_some hf
    refine SB.seqB (fun kx_ => sb_asg (sl' := [sv items_here_669, sv cell_670, sv leasts_673, sv wishes_676, sv mosts_679, .any]) rfl (EV.cast (ev_cb (ea_cons (EN.ev (en_lcD (js := [5]) (dit_vals (i := 0)) rfl (fun x => [sv items_here_669, sv cell_670, sv leasts_673, sv wishes_676, .any, sv x]) h_zs_678 (anyAt_of (by rfl)) (fun x => (gt_name rfl)) (sub_of (by rfl)) (fun _ _ _ _ x b h => by cases h; exact et_yes) (fun _ _ _ _ x z _ h => by obtain ⟨item_here_677, hx_⟩ : ∃ y, y = x := ⟨x, rfl⟩; subst hx_; have hz_ := Option.some.inj h; subst hz_; exact EV.is (sl' := [sv items_here_669, sv cell_670, sv leasts_673, sv wishes_676, .any, sv item_here_677]) rfl (ev_op (ev_var (i := 5) rfl) (ev_int 2) (r2_tix (n := 2) (At.s _ (At.s _ (At.z _ _)))))))) ea_nil) rc_sum) (Option.some.inj h_mosts_679)) (kx_ _ _ ?_))
    refine SB.seqB (fun kx_682 => sb_if (b := (decide ((cell_670 % (4 : Int)) = (0 : Int)))) (et_test (ev_op (ev_op (ev_var (i := 1) rfl) (ev_int 4) r2_mod) (ev_int 0) r2_eqI)) (fun hb_681 => ?_) (fun hb_681 => ?_))
    · have hf := ite_t hb_681 hf
      obtain ⟨r_683, h_r_683, hf⟩ := bind_some hf
      cases hf
      exact sb_ret (ev_op (ev_op (ev_op (ev_var (i := 1) rfl) (ev_int 4) r2_div) (ev_int 7) r2_mulr) (ev_op (ev_var (i := 2) rfl) (ev_int 1) r2_add) (r2_modO h_r_683)) q (List.Sublist.refl _)
    · have hf := ite_f hb_681 hf
      refine sb_nx ?_
      refine kx_682 _ _ ?_
      refine SB.seqB (fun kx_686 => sb_if (b := (decide ((cell_670 % (4 : Int)) = (1 : Int)))) (et_test (ev_op (ev_op (ev_var (i := 1) rfl) (ev_int 4) r2_mod) (ev_int 1) r2_eqI)) (fun hb_685 => ?_) (fun hb_685 => ?_))
      · have hf := ite_t hb_685 hf
        obtain ⟨r_687, h_r_687, hf⟩ := bind_some hf
        cases hf
        exact sb_ret (ev_op (ev_var (i := 2) rfl) (ev_op (ev_op (ev_op (ev_var (i := 1) rfl) (ev_int 4) r2_div) (ev_int 7) r2_mulr) (ev_op (ev_op (ev_var (i := 3) rfl) (ev_var (i := 2) rfl) r2_sub) (ev_int 1) r2_add) (r2_modO h_r_687)) r2_add) q (List.Sublist.refl _)
      · have hf := ite_f hb_685 hf
        refine sb_nx ?_
        refine kx_686 _ _ ?_
        refine SB.seqB (fun kx_690 => sb_if (b := (decide ((cell_670 % (4 : Int)) = (2 : Int)))) (et_test (ev_op (ev_op (ev_var (i := 1) rfl) (ev_int 4) r2_mod) (ev_int 2) r2_eqI)) (fun hb_689 => ?_) (fun hb_689 => ?_))
        · have hf := ite_t hb_689 hf
          obtain ⟨r_691, h_r_691, hf⟩ := bind_some hf
          cases hf
          exact sb_ret (ev_op (ev_var (i := 3) rfl) (ev_op (ev_op (ev_op (ev_var (i := 1) rfl) (ev_int 4) r2_div) (ev_int 7) r2_mulr) (ev_op (ev_op (ev_var (i := 4) rfl) (ev_var (i := 3) rfl) r2_sub) (ev_int 20) r2_add) (r2_modO h_r_691)) r2_add) q (List.Sublist.refl _)
        · have hf := ite_f hb_689 hf
          refine sb_nx ?_
          refine kx_690 _ _ ?_
          cases hf
          exact sb_ret (ev_op (ev_op (ev_var (i := 1) rfl) (ev_int 4) r2_div) (ev_op (ev_int 10) (ev_int 9) (r2_pow (r := 1000000000))) r2_mod) q (List.Sublist.refl _)
theorem sc__law_bent : FnScope ["_law_sizes", "_law_names_here", "_law_cell", "_law_bent_here", "_law_one", "_law_other_here", "_law_by"] ["_law_sizes", "_law_names_here", "_law_cell"] (defScope s__law_bent) := ⟨rfl, rfl, rfl, by decide +kernel, rfl, by decide +kernel, by decide +kernel⟩
set_option maxHeartbeats 4000000 in
theorem ok__law_bent (T : TX K mg w) : FnOk P w K mg base CX0 1 T.a__law_bent T.d__law_bent ["_law_sizes", "_law_names_here", "_law_cell"] (PG (τ := (Dc Str Int) × (List Str) × Int × Unit) K (fun t => m__law_bent t.1 t.2.1 t.2.2.1)) := by
  refine T.F__law_bent.ok sc__law_bent (fun vs H Q E h => ?_) (fun cdv A outer s H vs Q E hr h => ?_)
  · obtain ⟨Kn, t, r, ek, h, hf, q⟩ := h
    exact Tp.len h
  · obtain ⟨Kn, t, r_, ek, h, hf, q⟩ := h
    obtain ⟨sizes_692, names_here_693, cell_694, u_⟩ := t
    obtain ⟨v_0, rr_, rfl, hv_0, h⟩ := h
    obtain ⟨v_1, rr_, rfl, hv_1, h⟩ := h
    obtain ⟨v_2, rr_, rfl, hv_2, h⟩ := h
    obtain rfl := h
    replace hf : m__law_bent sizes_692 names_here_693 cell_694 = some r_ := hf
    unfold m__law_bent at hf
    refine ⟨_, (pss_cons (ps_set (i := 3) sc__law_bent.nd rfl (.inl rfl) (pe_callTy call_dictD (by rfl) T.z_dict (by decide +kernel) (pa_cons (pv 0) pa_nil)))
      (pss_cons (ps_set (i := 4) sc__law_bent.nd rfl (.inl rfl) (pe_ix k_ixl (pv 1) (pe_op op_mod (pe_op op_fdiv (pv 2) pe_int) (pe_callB k_len (by rfl) T.z_len PySem.boot_len (pa_cons (pv 1) pa_nil))) (fun _ _ => rfl)))
      (pss_cons (ps_set (i := 5) sc__law_bent.nd rfl (.inl rfl) (pe_ix k_ixl (pv 1) (pe_op op_mod (pe_op op_fdivW (pe_op op_fdiv (pv 2) pe_int) (pe_callB k_len (by rfl) T.z_len PySem.boot_len (pa_cons (pv 1) pa_nil))) (pe_callB k_len (by rfl) T.z_len PySem.boot_len (pa_cons (pv 1) pa_nil))) (fun _ _ => rfl)))
      (pss_cons (ps_set (i := 6) sc__law_bent.nd rfl (.inl rfl) (pe_op op_add pe_int (pe_op op_mod (pe_op op_fdivW (pe_op op_fdivW (pe_op op_fdiv (pv 2) pe_int) (pe_callB k_len (by rfl) T.z_len PySem.boot_len (pa_cons (pv 1) pa_nil))) (pe_callB k_len (by rfl) T.z_len PySem.boot_len (pa_cons (pv 1) pa_nil))) pe_int)))
      (Evl.pss_cut (ps_if (pt_cmpR op_gt (pe_op op_mod (pv 2) pe_int) pe_int (nomark _)) (pss_one (k_dput hr.units (pv 3) (pv 4) (pe_op op_add (k_dget hr.units (pv 3) (pv 4) (fun _ _ => rfl)) (pv 6)) rfl)) pss_nil)
      (Evl.pss_cut (ps_if (pt_cmpR op_eq (pe_op op_mod (pv 2) pe_int) pe_int (nomark _)) (pss_one (k_dput hr.units (pv 3) (pv 5) (pe_op op_sub (k_dget hr.units (pv 3) (pv 5) (fun _ _ => rfl)) (pv 6)) rfl)) pss_nil)
      (pss_one (ps_ret (pv 3))))))))), ?_⟩
    refine enter (Kn := Kn) (sl := [sv sizes_692, sv names_here_693, sv cell_694, .any, .any, .any, .any]) ek ⟨⟨v_0, rfl, hv_0⟩, ⟨v_1, rfl, hv_1⟩, ⟨v_2, rfl, hv_2⟩, trivial, trivial, trivial, trivial, trivial⟩ ?_
    have q := rng_of q
    obtain ⟨bent_here_695, h_bent_here_695, hf⟩ := bind_some hf
    refine SB.seqB (fun kx_ => sb_asgG (sl' := fun p_bent_here_695 => [sv sizes_692, sv names_here_693, sv cell_694, .at p_bent_here_695, .any, .any, .any]) (fun _ => rfl) (EG.cast (eg_dict (ev_var (i := 0) rfl)) (Option.some.inj h_bent_here_695)) (fun p_bent_here_695 => (kx_ _ _ ?_)))
    obtain ⟨r_696, h_r_696, hf⟩ := bind_some hf
    obtain ⟨i_697, h_i_697, hf⟩ := bind_some hf
    obtain ⟨one_698, h_one_698, hf⟩ := bind_some hf
    refine SB.seqB (fun kx_ => sb_asg (sl' := [sv sizes_692, sv names_here_693, sv cell_694, .at p_bent_here_695, sv one_698, .any, .any]) rfl (EV.cast (ev_op (ev_var (i := 1) rfl) (ev_op (ev_op (ev_var (i := 2) rfl) (ev_int 4) r2_div) (ev_cb (ea_cons (ev_var (i := 1) rfl) ea_nil) rc_len) (r2_modO h_r_696)) (r2_ixL h_i_697)) (Option.some.inj h_one_698)) (kx_ _ _ ?_))
    obtain ⟨q_699, h_q_699, hf⟩ := bind_some hf
    obtain ⟨r_700, h_r_700, hf⟩ := bind_some hf
    obtain ⟨i_701, h_i_701, hf⟩ := bind_some hf
    obtain ⟨other_here_702, h_other_here_702, hf⟩ := bind_some hf
    refine SB.seqB (fun kx_ => sb_asg (sl' := [sv sizes_692, sv names_here_693, sv cell_694, .at p_bent_here_695, sv one_698, sv other_here_702, .any]) rfl (EV.cast (ev_op (ev_var (i := 1) rfl) (ev_op (ev_op (ev_op (ev_var (i := 2) rfl) (ev_int 4) r2_div) (ev_cb (ea_cons (ev_var (i := 1) rfl) ea_nil) rc_len) (r2_divO h_q_699)) (ev_cb (ea_cons (ev_var (i := 1) rfl) ea_nil) rc_len) (r2_modO h_r_700)) (r2_ixL h_i_701)) (Option.some.inj h_other_here_702)) (kx_ _ _ ?_))
    obtain ⟨q_703, h_q_703, hf⟩ := bind_some hf
    obtain ⟨q_704, h_q_704, hf⟩ := bind_some hf
    obtain ⟨by_705, h_by_705, hf⟩ := bind_some hf
    refine SB.seqB (fun kx_ => sb_asg (sl' := [sv sizes_692, sv names_here_693, sv cell_694, .at p_bent_here_695, sv one_698, sv other_here_702, sv by_705]) rfl (EV.cast (ev_op (ev_int 1) (ev_op (ev_op (ev_op (ev_op (ev_var (i := 2) rfl) (ev_int 4) r2_div) (ev_cb (ea_cons (ev_var (i := 1) rfl) ea_nil) rc_len) (r2_divO h_q_703)) (ev_cb (ea_cons (ev_var (i := 1) rfl) ea_nil) rc_len) (r2_divO h_q_704)) (ev_int 3) r2_mod) r2_add) (Option.some.inj h_by_705)) (kx_ _ _ ?_))
    obtain ⟨bent_here_710, hj_706, hf⟩ := bind_some hf
    refine SB.cutB (sl' := [sv sizes_692, sv names_here_693, sv cell_694, .at p_bent_here_695, sv one_698, sv other_here_702, sv by_705]) (ow1 := [oo p_bent_here_695 bent_here_710]) (fun km_711 => sb_if (b := (decide ((1 : Int) < (cell_694 % (4 : Int))))) (et_test (ev_op (ev_op (ev_var (i := 2) rfl) (ev_int 4) r2_mod) (ev_int 1) r2_gt)) (fun hb_707 => ?_) (fun hb_707 => ?_)) ?_
    · have hj_706 := ite_t hb_707 hj_706
      obtain ⟨i_708, h_i_708, hj_706⟩ := bind_some hj_706
      obtain ⟨bent_here_709, h_bent_here_709, hj_706⟩ := bind_some hj_706
      refine sb_dput (i := 3) (j := 0) rfl rfl (ev_op (ev_dgetO (i := 3) (j := 0) rfl rfl (ev_var (i := 4) rfl) h_i_708) (ev_var (i := 6) rfl) r2_add) (ev_var (i := 4) rfl) h_bent_here_709 (ow1 := [oo p_bent_here_695 bent_here_709]) rfl ?_
      cases hj_706
      exact km_711 _ _ (.keep (.keep (.keep (.keep (.keep (.keep (.keep .nil))))))) (List.Sublist.refl _)
    · have hj_706 := ite_f hb_707 hj_706
      refine sb_nx ?_
      cases hj_706
      exact km_711 _ _ (.keep (.keep (.keep (.keep (.keep (.keep (.keep .nil))))))) (List.Sublist.refl _)
    obtain ⟨bent_here_716, hj_712, hf⟩ := bind_some hf
    refine SB.cutB (sl' := [sv sizes_692, sv names_here_693, sv cell_694, .at p_bent_here_695, sv one_698, sv other_here_702, sv by_705]) (ow1 := [oo p_bent_here_695 bent_here_716]) (fun km_717 => sb_if (b := (decide ((cell_694 % (4 : Int)) = (3 : Int)))) (et_test (ev_op (ev_op (ev_var (i := 2) rfl) (ev_int 4) r2_mod) (ev_int 3) r2_eqI)) (fun hb_713 => ?_) (fun hb_713 => ?_)) ?_
    · have hj_712 := ite_t hb_713 hj_712
      obtain ⟨i_714, h_i_714, hj_712⟩ := bind_some hj_712
      obtain ⟨bent_here_715, h_bent_here_715, hj_712⟩ := bind_some hj_712
      refine sb_dput (i := 3) (j := 0) rfl rfl (ev_op (ev_dgetO (i := 3) (j := 0) rfl rfl (ev_var (i := 5) rfl) h_i_714) (ev_var (i := 6) rfl) r2_sub) (ev_var (i := 5) rfl) h_bent_here_715 (ow1 := [oo p_bent_here_695 bent_here_715]) rfl ?_
      cases hj_712
      exact km_717 _ _ (.keep (.keep (.keep (.keep (.keep (.keep (.keep .nil))))))) (List.Sublist.refl _)
    · have hj_712 := ite_f hb_713 hj_712
      refine sb_nx ?_
      cases hj_712
      exact km_717 _ _ (.keep (.keep (.keep (.keep (.keep (.keep (.keep .nil))))))) (List.Sublist.refl _)
    cases hf
    exact sb_retG (i := 3) (j := 0) rfl rfl q (List.Sublist.cons _ List.Sublist.slnil)
theorem sc__law_other : FnScope ["_law_levels", "_law_cell", "_law_some", "_law_at_here", "_law_by", "_law_level"] ["_law_levels", "_law_cell"] (defScope s__law_other) := ⟨rfl, rfl, rfl, by decide +kernel, rfl, by decide +kernel, by decide +kernel⟩
set_option maxHeartbeats 4000000 in
theorem ok__law_other (T : TX K mg w) : FnOk P w K mg base CX0 1 T.a__law_other T.d__law_other ["_law_levels", "_law_cell"] (PF (τ := (List (Option (Int × Int × Unit))) × Int × Unit) K (fun t => m__law_other t.1 t.2.1)) := by
  refine T.F__law_other.ok sc__law_other (fun vs H Q E h => ?_) (fun cdv A outer s H vs Q E hr h => ?_)
  · obtain ⟨Kn, t, r, ek, h, hf, q⟩ := h
    exact Tp.len h
  · obtain ⟨Kn, t, r_, ek, h, hf, q⟩ := h
    obtain ⟨levels_718, cell_719, u_⟩ := t
    obtain ⟨v_0, rr_, rfl, hv_0, h⟩ := h
    obtain ⟨v_1, rr_, rfl, hv_1, h⟩ := h
    obtain rfl := h
    replace hf : m__law_other levels_718 cell_719 = some r_ := hf
    unfold m__law_other at hf
    refine ⟨_, (pss_cons (ps_set (i := 2) sc__law_other.nd rfl (.inl rfl) (pe_callTy k_list (by rfl) T.z_list (by decide +kernel) (pa_cons (pv 0) pa_nil)))
      (pss_cons (ps_set (i := 3) sc__law_other.nd rfl (.inl rfl) (pe_op op_mod (pe_op op_fdiv (pv 1) pe_int) (pe_op op_add (pe_callB k_len (by rfl) T.z_len PySem.boot_len (pa_cons (pv 2) pa_nil)) pe_int)))
      (pss_cons (ps_set (i := 4) sc__law_other.nd rfl (.inl rfl) (pe_op op_add pe_int (pe_op op_mod (pe_op op_fdivW (pe_op op_fdiv (pv 1) pe_int) (pe_op op_add (pe_callB k_len (by rfl) T.z_len PySem.boot_len (pa_cons (pv 2) pa_nil)) pe_int)) pe_int)))
      (pss_cons (ps_if (pt_cmpR op_eq (pe_op op_mod (pv 1) pe_int) pe_int (nomark _)) (pss_one (ps_ret (pe_op op_cat (pe_slice k_sll (pv 2) po_none (po_some (pv 3))) (pe_slice k_sll (pv 2) (po_some (pe_op op_add (pv 3) pe_int)) po_none)))) pss_nil)
      (pss_cons (ps_if (pt_cmpR op_eq (pe_op op_mod (pv 1) pe_int) pe_int (nomark _)) (pss_one (ps_ret (pe_op op_cat (pe_op op_cat (pe_slice k_sll (pv 2) po_none (po_some (pv 3))) (pe_lst (pa_cons (pe_ix k_ixl (pe_lst (pa_cons pe_non (pa_cons (pe_tup (pa_cons pe_int (pa_cons pe_int pa_nil))) (pa_cons (pe_tup (pa_cons (pv 4) (pa_cons pe_int pa_nil))) (pa_cons (pe_tup (pa_cons pe_int (pa_cons (pv 4) pa_nil))) pa_nil))))) (pe_op op_mod (pv 4) pe_int) (fun _ _ => rfl)) pa_nil))) (pe_slice k_sll (pv 2) (po_some (pv 3)) po_none)))) pss_nil)
      (pss_cons (ps_if (PW.pt (pw_and (pt_cmpR op_eq (pe_op op_mod (pv 1) pe_int) pe_int (nomark _)) (pw_and1 (pt_cmpR op_lt (pv 3) (pe_callB k_len (by rfl) T.z_len PySem.boot_len (pa_cons (pv 2) pa_nil)) (nomark _))))) (pss_cons (ps_set (i := 5) sc__law_other.nd rfl (.inl rfl) (pe_tup (pa_cons (pv 4) (pa_cons pe_int pa_nil))))
      (Evl.pss_cut (ps_if (pt_cmpR op_notN (pe_ix k_ixl (pv 2) (pv 3) (fun _ _ => rfl)) pe_non (nomark _)) (pss_one (ps_set (i := 5) sc__law_other.nd rfl (.inl rfl) (pe_ix k_ixl (pe_lst (pa_cons (pe_tup (pa_cons (pe_op op_add (pe_ix k_ixt (pe_ix k_ixl (pv 2) (pv 3) (fun _ _ => rfl)) pe_int (fun _ _ => rfl)) (pv 4)) (pa_cons (pe_ix k_ixt (pe_ix k_ixl (pv 2) (pv 3) (fun _ _ => rfl)) pe_int (fun _ _ => rfl)) pa_nil))) (pa_cons pe_non (pa_cons (pe_tup (pa_cons (pe_ix k_ixt (pe_ix k_ixl (pv 2) (pv 3) (fun _ _ => rfl)) pe_int (fun _ _ => rfl)) (pa_cons (pe_op op_add (pe_ix k_ixt (pe_ix k_ixl (pv 2) (pv 3) (fun _ _ => rfl)) pe_int (fun _ _ => rfl)) (pv 4)) pa_nil))) pa_nil)))) (pe_op op_mod (pv 4) pe_int) (fun _ _ => rfl)))) pss_nil)
      (pss_one (ps_ret (pe_op op_cat (pe_op op_cat (pe_slice k_sll (pv 2) po_none (po_some (pv 3))) (pe_lst (pa_cons (pv 5) pa_nil))) (pe_slice k_sll (pv 2) (po_some (pe_op op_add (pv 3) pe_int)) po_none)))))) pss_nil)
      (pss_one (ps_ret (pv 2))))))))), ?_⟩
    refine enter (Kn := Kn) (sl := [sv levels_718, sv cell_719, .any, .any, .any, .any]) ek ⟨⟨v_0, rfl, hv_0⟩, ⟨v_1, rfl, hv_1⟩, trivial, trivial, trivial, trivial, trivial⟩ ?_
    have q := rt_of q
    obtain ⟨some_720, h_some_720, hf⟩ := bind_some hf
    refine SB.seqB (fun kx_ => sb_asg (sl' := [sv levels_718, sv cell_719, sv some_720, .any, .any, .any]) rfl (EV.cast (EN.ev (en_cb (ea_cons (ev_var (i := 0) rfl) ea_nil) rc_list)) (Option.some.inj h_some_720)) (kx_ _ _ ?_))
    obtain ⟨r_721, h_r_721, hf⟩ := bind_some hf
    obtain ⟨at_here_722, h_at_here_722, hf⟩ := bind_some hf
    refine SB.seqB (fun kx_ => sb_asg (sl' := [sv levels_718, sv cell_719, sv some_720, sv at_here_722, .any, .any]) rfl (EV.cast (ev_op (ev_op (ev_var (i := 1) rfl) (ev_int 6) r2_div) (ev_op (ev_cb (ea_cons (ev_var (i := 2) rfl) ea_nil) rc_len) (ev_int 1) r2_add) (r2_modO h_r_721)) (Option.some.inj h_at_here_722)) (kx_ _ _ ?_))
    obtain ⟨q_723, h_q_723, hf⟩ := bind_some hf
    obtain ⟨by_724, h_by_724, hf⟩ := bind_some hf
    refine SB.seqB (fun kx_ => sb_asg (sl' := [sv levels_718, sv cell_719, sv some_720, sv at_here_722, sv by_724, .any]) rfl (EV.cast (ev_op (ev_int 1) (ev_op (ev_op (ev_op (ev_var (i := 1) rfl) (ev_int 6) r2_div) (ev_op (ev_cb (ea_cons (ev_var (i := 2) rfl) ea_nil) rc_len) (ev_int 1) r2_add) (r2_divO h_q_723)) (ev_int 4) r2_mod) r2_add) (Option.some.inj h_by_724)) (kx_ _ _ ?_))
    refine SB.seqB (fun kx_727 => sb_if (b := (decide ((cell_719 % (6 : Int)) = (3 : Int)))) (et_test (ev_op (ev_op (ev_var (i := 1) rfl) (ev_int 6) r2_mod) (ev_int 3) r2_eqI)) (fun hb_726 => ?_) (fun hb_726 => ?_))
    · have hf := ite_t hb_726 hf
      obtain ⟨cat_728, h_cat_728, hf⟩ := bind_some hf
      cases hf
      exact sb_ret (EN.ev (en_op (EN.ev (en_sl (ev_var (i := 2) rfl) eo_none (eo_some (ev_var (i := 3) rfl)))) (EN.ev (en_sl (ev_var (i := 2) rfl) (eo_some (ev_op (ev_var (i := 3) rfl) (ev_int 1) r2_add)) eo_none)) (r2_catO h_cat_728))) q (List.Sublist.refl _)
    · have hf := ite_f hb_726 hf
      refine sb_nx ?_
      refine kx_727 _ _ ?_
      refine SB.seqB (fun kx_731 => sb_if (b := (decide ((cell_719 % (6 : Int)) = (4 : Int)))) (et_test (ev_op (ev_op (ev_var (i := 1) rfl) (ev_int 6) r2_mod) (ev_int 4) r2_eqI)) (fun hb_730 => ?_) (fun hb_730 => ?_))
      · have hf := ite_t hb_730 hf
        obtain ⟨i_732, h_i_732, hf⟩ := bind_some hf
        obtain ⟨cat_733, h_cat_733, hf⟩ := bind_some hf
        obtain ⟨cat_734, h_cat_734, hf⟩ := bind_some hf
        cases hf
        exact sb_ret (EN.ev (en_op (EN.ev (en_op (EN.ev (en_sl (ev_var (i := 2) rfl) eo_none (eo_some (ev_var (i := 3) rfl)))) (EN.ev (en_lst (el_cons (ev_op (EN.ev (en_lst (el_cons ev_none (el_cons (ev_some (ev_tup (ea_cons (ev_int 0) (ea_cons (ev_int 1) ea_nil)))) (el_cons (ev_some (ev_tup (ea_cons (ev_var (i := 4) rfl) (ea_cons (ev_int 1) ea_nil)))) (el_cons (ev_some (ev_tup (ea_cons (ev_int 1) (ea_cons (ev_var (i := 4) rfl) ea_nil)))) el_nil)))))) (ev_op (ev_var (i := 4) rfl) (ev_int 4) r2_mod) (r2_ixL h_i_732)) el_nil))) (r2_catO h_cat_733))) (EN.ev (en_sl (ev_var (i := 2) rfl) (eo_some (ev_var (i := 3) rfl)) eo_none)) (r2_catO h_cat_734))) q (List.Sublist.refl _)
      · have hf := ite_f hb_730 hf
        refine sb_nx ?_
        refine kx_731 _ _ ?_
        refine SB.seqB (fun kx_737 => sb_if (b := ((decide ((cell_719 % (6 : Int)) = (5 : Int))) && (decide (at_here_722 < (some_720.length : Int))))) (et_and (et_test (ev_op (ev_op (ev_var (i := 1) rfl) (ev_int 6) r2_mod) (ev_int 5) r2_eqI)) (fun _ => (et_test (ev_op (ev_var (i := 3) rfl) (ev_cb (ea_cons (ev_var (i := 2) rfl) ea_nil) rc_len) r2_lt)))) (fun hb_736 => ?_) (fun hb_736 => ?_))
        · have hf := ite_t hb_736 hf
          obtain ⟨level_738, h_level_738, hf⟩ := bind_some hf
          refine SB.seqB (fun kx_ => sb_asg (sl' := [sv levels_718, sv cell_719, sv some_720, sv at_here_722, sv by_724, sv level_738]) rfl (EV.cast (ev_some (ev_tup (ea_cons (ev_var (i := 4) rfl) (ea_cons (ev_int 2) ea_nil)))) (Option.some.inj h_level_738)) (kx_ _ _ ?_))
          obtain ⟨i_740, h_i_740, hf⟩ := bind_some hf
          obtain ⟨level_752, hj_739, hf⟩ := bind_some hf
          refine SB.cutB (sl' := [sv levels_718, sv cell_719, sv some_720, sv at_here_722, sv by_724, sv level_752]) (ow1 := []) (fun km_753 => sb_if (b := (i_740.isSome)) (et_test (ev_op (ev_op (ev_var (i := 2) rfl) (ev_var (i := 3) rfl) (r2_ixL h_i_740)) ev_nn r2_notN)) (fun hb_741 => ?_) (fun hb_741 => ?_)) ?_
          · have hj_739 := ite_t hb_741 hj_739
            obtain ⟨i_742, h_i_742, hj_739⟩ := bind_some hj_739
            obtain ⟨s_743, h_s_743, hj_739⟩ := bind_some hj_739
            obtain ⟨i_744, h_i_744, hj_739⟩ := bind_some hj_739
            obtain ⟨s_745, h_s_745, hj_739⟩ := bind_some hj_739
            obtain ⟨i_746, h_i_746, hj_739⟩ := bind_some hj_739
            obtain ⟨s_747, h_s_747, hj_739⟩ := bind_some hj_739
            obtain ⟨i_748, h_i_748, hj_739⟩ := bind_some hj_739
            obtain ⟨s_749, h_s_749, hj_739⟩ := bind_some hj_739
            obtain ⟨i_750, h_i_750, hj_739⟩ := bind_some hj_739
            obtain ⟨level_751, h_level_751, hj_739⟩ := bind_some hj_739
            refine sb_asg (sl' := [sv levels_718, sv cell_719, sv some_720, sv at_here_722, sv by_724, sv level_751]) rfl (EV.cast (ev_op (EN.ev (en_lst (el_cons (ev_some (ev_tup (ea_cons (ev_op (ev_op (ev_unopt (ev_op (ev_var (i := 2) rfl) (ev_var (i := 3) rfl) (r2_ixL h_i_742)) h_s_743) (ev_int 0) (r2_tix (n := 0) (At.z _ _))) (ev_var (i := 4) rfl) r2_add) (ea_cons (ev_op (ev_unopt (ev_op (ev_var (i := 2) rfl) (ev_var (i := 3) rfl) (r2_ixL h_i_744)) h_s_745) (ev_int 1) (r2_tix (n := 1) (At.s _ (At.z _ _)))) ea_nil)))) (el_cons ev_none (el_cons (ev_some (ev_tup (ea_cons (ev_op (ev_unopt (ev_op (ev_var (i := 2) rfl) (ev_var (i := 3) rfl) (r2_ixL h_i_746)) h_s_747) (ev_int 0) (r2_tix (n := 0) (At.z _ _))) (ea_cons (ev_op (ev_op (ev_unopt (ev_op (ev_var (i := 2) rfl) (ev_var (i := 3) rfl) (r2_ixL h_i_748)) h_s_749) (ev_int 1) (r2_tix (n := 1) (At.s _ (At.z _ _)))) (ev_var (i := 4) rfl) r2_add) ea_nil)))) el_nil))))) (ev_op (ev_var (i := 4) rfl) (ev_int 3) r2_mod) (r2_ixL h_i_750)) (Option.some.inj h_level_751)) ?_
            cases hj_739
            exact km_753 _ _ (.keep (.keep (.keep (.keep (.keep (.keep .nil)))))) (List.Sublist.refl _)
          · have hj_739 := ite_f hb_741 hj_739
            refine sb_nx ?_
            cases hj_739
            exact km_753 _ _ (.keep (.keep (.keep (.keep (.keep (.keep .nil)))))) (List.Sublist.refl _)
          obtain ⟨cat_754, h_cat_754, hf⟩ := bind_some hf
          obtain ⟨cat_755, h_cat_755, hf⟩ := bind_some hf
          cases hf
          exact sb_ret (EN.ev (en_op (EN.ev (en_op (EN.ev (en_sl (ev_var (i := 2) rfl) eo_none (eo_some (ev_var (i := 3) rfl)))) (EN.ev (en_lst (el_cons (ev_var (i := 5) rfl) el_nil))) (r2_catO h_cat_754))) (EN.ev (en_sl (ev_var (i := 2) rfl) (eo_some (ev_op (ev_var (i := 3) rfl) (ev_int 1) r2_add)) eo_none)) (r2_catO h_cat_755))) q (List.Sublist.refl _)
        · have hf := ite_f hb_736 hf
          refine sb_nx ?_
          refine kx_737 _ _ ?_
          cases hf
          exact sb_ret (ev_var (i := 2) rfl) q (List.Sublist.refl _)
theorem sc_law : FnScope ["_law_script", "_law_names_here", "_law_items_here", "_law_room_here", "_law_sizes", "_law_over", "_law_levels", "_law_cells", "_law_bent_here", "_law_more", "_law_other_here", "_law_some", "_law_much", "_law_told", "_law_handed", "_law_found"] ["_law_script"] (defScope s_law) := ⟨rfl, rfl, rfl, by decide +kernel, rfl, by decide +kernel, by decide +kernel⟩
set_option maxHeartbeats 4000000 in
theorem ok_law (T : TX K mg w) : FnOk P w K mg base CX0 5 T.a_law T.d_law ["_law_script"] (PF (τ := (Fz Int) × Unit) K (fun t => m_law t.1)) := by
  refine T.F_law.ok sc_law (fun vs H Q E h => ?_) (fun cdv A outer s H vs Q E hr h => ?_)
  · obtain ⟨Kn, t, r, ek, h, hf, q⟩ := h
    exact Tp.len h
  · obtain ⟨Kn, t, r_, ek, h, hf, q⟩ := h
    obtain ⟨script_756, u_⟩ := t
    obtain ⟨v_0, rr_, rfl, hv_0, h⟩ := h
    obtain rfl := h
    replace hf : m_law script_756 = some r_ := hf
    unfold m_law at hf
    refine ⟨_, (pss_cons (ps_set (i := 1) sc_law.nd rfl (.inl rfl) (pe_call (ok__law_names T) (hr.mono (by decide)) (by rfl) T.g__law_names T.F__law_names.kp T.b__law_names .nil pass0 (pa_cons (pe_op op_add pe_int (pe_op op_mod (pe_op op_fdiv (pe_call (ok__law_at T) (hr.mono (by decide)) (by rfl) T.g__law_at T.F__law_at.kp T.b__law_at .nil pass0 (pa_cons (pv 0) (pa_cons pe_int pa_nil))) pe_int) pe_int)) (pa_cons (pe_op op_fdiv (pe_call (ok__law_at T) (hr.mono (by decide)) (by rfl) T.g__law_at T.F__law_at.kp T.b__law_at .nil pass0 (pa_cons (pv 0) (pa_cons pe_int pa_nil))) pe_int) pa_nil))))
      (pss_cons (ps_set (i := 2) sc_law.nd rfl (.inl rfl) (pe_call (ok__law_items T) (hr.mono (by decide)) (by rfl) T.g__law_items T.F__law_items.kp T.b__law_items .nil pass0 (pa_cons (pv 0) (pa_cons (pv 1) pa_nil))))
      (pss_cons (ps_set (i := 3) sc_law.nd rfl (.inl rfl) (pe_call (ok__law_room T) (hr.mono (by decide)) (by rfl) T.g__law_room T.F__law_room.kp T.b__law_room .nil pass0 (pa_cons (pv 2) (pa_cons (pe_call (ok__law_at T) (hr.mono (by decide)) (by rfl) T.g__law_at T.F__law_at.kp T.b__law_at .nil pass0 (pa_cons (pv 0) (pa_cons pe_int pa_nil))) pa_nil))))
      (pss_cons (ps_asg (pe_call (ok_share T) hr (by rfl) T.g_share T.F_share.kp T.b_share .nil pass0 (pa_cons (pv 3) (pa_cons (pe_callTy call_dictD (by rfl) T.z_dict (by decide +kernel) (pa_cons (pv 2) pa_nil)) pa_nil))) (kpg_tup (pgs_cons (pg_name (i := 4) sc_law.nd rfl (.inl rfl)) (pgs_cons (pg_name (i := 5) sc_law.nd rfl (.inl rfl)) (pgs_cons (pg_name (i := 6) sc_law.nd rfl (.inl rfl)) pgs_nil)))))
      (pss_cons (ps_if (pt_cmpR op_notBl (pe_call (ok_shared T) hr (by rfl) T.g_shared T.F_shared.kp T.b_shared .nil pass0 (pa_cons (pv 3) (pa_cons (pv 2) (pa_cons (pe_callTy call_dictD (by rfl) T.z_dict (by decide +kernel) (pa_cons (pv 4) pa_nil)) (pa_cons (pv 5) (pa_cons (pe_callTy k_list (by rfl) T.z_list (by decide +kernel) (pa_cons (pv 6) pa_nil)) pa_nil)))))) pe_bl (nomark _)) (pss_one (ps_ret pe_bl)) pss_nil)
      (pss_cons (ps_set (i := 7) sc_law.nd rfl (.inl rfl) (pe_op k_catL (pe_lst (pa_cons pe_int (pa_cons pe_int (pa_cons pe_int pa_nil)))) (pv 0)))
      (pss_cons (ps_set (i := 8) sc_law.nd rfl (.inl rfl) (pe_call (ok__law_bent T) (hr.mono (by decide)) (by rfl) T.g__law_bent T.F__law_bent.kp T.b__law_bent .nil pass0 (pa_cons (pv 4) (pa_cons (pv 1) (pa_cons (pe_ix k_ixl (pv 7) (pe_op op_sub (pe_callB k_len (by rfl) T.z_len PySem.boot_len (pa_cons (pv 7) pa_nil)) pe_int) (fun _ _ => rfl)) pa_nil)))))
      (pss_cons (ps_set (i := 9) sc_law.nd rfl (.inl rfl) (pe_op op_add (pv 5) (pe_op op_mul (pe_ix k_ixl (pe_lst (pa_cons pe_int (pa_cons pe_int (pa_cons pe_int (pa_cons pe_int pa_nil))))) (pe_op op_mod (pe_ix k_ixl (pv 7) (pe_op op_sub (pe_callB k_len (by rfl) T.z_len PySem.boot_len (pa_cons (pv 7) pa_nil)) pe_int) (fun _ _ => rfl)) pe_int) (fun _ _ => rfl)) (pe_op op_sub (pe_op op_mod (pe_op op_fdiv (pe_ix k_ixl (pv 7) (pe_op op_sub (pe_callB k_len (by rfl) T.z_len PySem.boot_len (pa_cons (pv 7) pa_nil)) pe_int) (fun _ _ => rfl)) pe_int) pe_int) pe_int))))
      (pss_cons (ps_set (i := 10) sc_law.nd rfl (.inl rfl) (pe_call (ok__law_other T) (hr.mono (by decide)) (by rfl) T.g__law_other T.F__law_other.kp T.b__law_other .nil pass0 (pa_cons (pv 6) (pa_cons (pe_ix k_ixl (pv 7) (pe_op op_sub (pe_callB k_len (by rfl) T.z_len PySem.boot_len (pa_cons (pv 7) pa_nil)) pe_int) (fun _ _ => rfl)) pa_nil))))
      (pss_cons (ps_for PassesOwn.never rfl (kpi_list (pe_lst (pa_cons (pe_tup (pa_cons (pv 8) (pa_cons (pv 9) (pa_cons (pv 10) pa_nil)))) (pa_cons (pe_tup (pa_cons (pv 8) (pa_cons (pv 5) (pa_cons (pv 6) pa_nil)))) (pa_cons (pe_tup (pa_cons (pv 4) (pa_cons (pv 9) (pa_cons (pv 6) pa_nil)))) (pa_cons (pe_tup (pa_cons (pv 4) (pa_cons (pv 5) (pa_cons (pv 10) pa_nil)))) pa_nil)))))) (kpg_tup (pgs_cons (pg_name (i := 11) sc_law.nd rfl (.inl rfl)) (pgs_cons (pg_name (i := 12) sc_law.nd rfl (.inl rfl)) (pgs_cons (pg_name (i := 13) sc_law.nd rfl (.inl rfl)) pgs_nil)))) (pss_cons (ps_set (i := 14) sc_law.nd rfl (.inl rfl) (pe_lst (pa_cons (pe_callTy call_dictD (by rfl) T.z_dict (by decide +kernel) (pa_cons (pv 2) pa_nil)) (pa_cons (pe_callTy call_dictD (by rfl) T.z_dict (by decide +kernel) (pa_cons (pv 11) pa_nil)) (pa_cons (pe_callTy k_list (by rfl) T.z_list (by decide +kernel) (pa_cons (pv 13) pa_nil)) pa_nil)))))
      (pss_cons (ps_set (i := 15) sc_law.nd rfl (.inl rfl) (pe_call (ok_shared T) hr (by rfl) T.g_shared T.F_shared.kp T.b_shared .nil pass0 (pa_cons (pv 3) (pa_cons (pe_ix k_ixl (pv 14) pe_int (fun _ _ => rfl)) (pa_cons (pe_ix k_ixl (pv 14) pe_int (fun _ _ => rfl)) (pa_cons (pv 12) (pa_cons (pe_ix k_ixl (pv 14) pe_int (fun _ _ => rfl)) pa_nil)))))))
      (pss_cons (ps_if (PW.pt (pw_or (pt_not (pt_val (pe_callB k_isi (by rfl) T.z_isinstance (by decide +kernel) (pa_cons (pv 15) (pa_cons (pe_bltn (v := .ty "bool") (u := .type "bool") (by rfl) T.z_bool (by decide +kernel) rfl) pa_nil))))) (pw_or1 (pt_cmpR op_ne (pv 15) (pe_and (pe_cmpR (k_top hr.units) (pv 11) (pv 4) (nomark _)) (pe_and (pe_cmpR op_eq (pv 12) (pv 5) (nomark _)) (pe_one (pe_cmpR (k_top hr.units) (pv 13) (pv 6) (nomark _))))) (nomark _))))) (pss_one (ps_ret pe_bl)) pss_nil)
      (pss_one (ps_if (pt_cmpR (k_top hr.units) (pv 14) (pe_lst (pa_cons (pv 2) (pa_cons (pv 11) (pa_cons (pv 13) pa_nil)))) (nomark _)) (pss_one (ps_ret pe_bl)) pss_nil))))))
      (pss_one (ps_ret (pe_cmpR op_isBl (pe_call (ok_shared T) hr (by rfl) T.g_shared T.F_shared.kp T.b_shared .nil pass0 (pa_cons (pv 3) (pa_cons (pv 2) (pa_cons (pv 4) (pa_cons (pv 5) (pa_cons (pv 6) pa_nil)))))) pe_bl (nomark _)))))))))))))), ?_⟩
    refine enter (Kn := Kn) (sl := [sv script_756, .any, .any, .any, .any, .any, .any, .any, .any, .any, .any, .any, .any, .any, .any, .any]) ek ⟨⟨v_0, rfl, hv_0⟩, trivial, trivial, trivial, trivial, trivial, trivial, trivial, trivial, trivial, trivial, trivial, trivial, trivial, trivial, trivial, trivial⟩ ?_
    have q := rt_of q
    obtain ⟨r_757, h_r_757, hf⟩ := bind_some hf
    obtain ⟨r_758, h_r_758, hf⟩ := bind_some hf
    obtain ⟨r_759, h_r_759, hf⟩ := bind_some hf
    obtain ⟨names_here_760, h_names_here_760, hf⟩ := bind_some hf
    refine SB.seqB (fun kx_ => sb_asg (sl' := [sv script_756, sv names_here_760, .any, .any, .any, .any, .any, .any, .any, .any, .any, .any, .any, .any, .any, .any]) rfl (EV.cast (EN.ev (en_call (ea_cons (ev_op (ev_int 1) (ev_op (ev_op (ev_call (ea_cons (ev_var (i := 0) rfl) (ea_cons (ev_int 0) ea_nil)) h_r_757) (ev_int 2) r2_div) (ev_int 12) r2_mod) r2_add) (ea_cons (ev_op (ev_call (ea_cons (ev_var (i := 0) rfl) (ea_cons (ev_int 0) ea_nil)) h_r_758) (ev_int 24) r2_div) ea_nil)) h_r_759)) (Option.some.inj h_names_here_760)) (kx_ _ _ ?_))
    obtain ⟨r_761, h_r_761, hf⟩ := bind_some hf
    obtain ⟨items_here_762, h_items_here_762, hf⟩ := bind_some hf
    refine SB.seqB (fun kx_ => sb_asg (sl' := [sv script_756, sv names_here_760, sv items_here_762, .any, .any, .any, .any, .any, .any, .any, .any, .any, .any, .any, .any, .any]) rfl (EV.cast (EG.ev (eg_call (ea_cons (ev_var (i := 0) rfl) (ea_cons (ev_var (i := 1) rfl) ea_nil)) h_r_761)) (Option.some.inj h_items_here_762)) (kx_ _ _ ?_))
    obtain ⟨r_763, h_r_763, hf⟩ := bind_some hf
    obtain ⟨r_764, h_r_764, hf⟩ := bind_some hf
    obtain ⟨room_here_765, h_room_here_765, hf⟩ := bind_some hf
    refine SB.seqB (fun kx_ => sb_asg (sl' := [sv script_756, sv names_here_760, sv items_here_762, sv room_here_765, .any, .any, .any, .any, .any, .any, .any, .any, .any, .any, .any, .any]) rfl (EV.cast (ev_call (ea_cons (ev_var (i := 2) rfl) (ea_cons (ev_call (ea_cons (ev_var (i := 0) rfl) (ea_cons (ev_int 1) ea_nil)) h_r_763) ea_nil)) h_r_764) (Option.some.inj h_room_here_765)) (kx_ _ _ ?_))
    obtain ⟨r_766, h_r_766, hf⟩ := bind_some hf
    obtain ⟨⟨sizes_767, over_768, levels_769, _⟩, h_sizes_767, hf⟩ := bind_some hf
    refine SB.seqB (fun kx_ => sb_unp (sl' := [sv script_756, sv names_here_760, sv items_here_762, sv room_here_765, sv sizes_767, sv over_768, sv levels_769, .any, .any, .any, .any, .any, .any, .any, .any, .any]) (EV.cast (EQ3.ev (eq3_call (ea_cons (ev_var (i := 3) rfl) (ea_cons (EG.ev (eg_dict (ev_var (i := 2) rfl))) ea_nil)) h_r_766)) (Option.some.inj h_sizes_767)) (gt_tup (gts_cons (gt_name rfl) (gts_cons (gt_name rfl) (gts_cons (gt_name rfl) gts_nil)))) (kx_ _ _ ?_))
    obtain ⟨r_771, h_r_771, hf⟩ := bind_some hf
    refine SB.seqB (fun kx_773 => sb_if (b := (!decide (r_771 = true))) (et_test (ev_op (ev_call (ea_cons (ev_var (i := 3) rfl) (ea_cons (ev_var (i := 2) rfl) (ea_cons (EG.ev (eg_dict (ev_var (i := 4) rfl))) (ea_cons (ev_var (i := 5) rfl) (ea_cons (EN.ev (en_cb (ea_cons (ev_var (i := 6) rfl) ea_nil) rc_list)) ea_nil))))) h_r_771) (ev_bool true) r2_notB)) (fun hb_772 => ?_) (fun hb_772 => ?_))
    · have hf := ite_t hb_772 hf
      cases hf
      exact sb_ret (ev_bool false) q (List.Sublist.refl _)
    · have hf := ite_f hb_772 hf
      refine sb_nx ?_
      refine kx_773 _ _ ?_
      obtain ⟨cat_774, h_cat_774, hf⟩ := bind_some hf
      obtain ⟨cells_775, h_cells_775, hf⟩ := bind_some hf
      refine SB.seqB (fun kx_ => sb_asg (sl' := [sv script_756, sv names_here_760, sv items_here_762, sv room_here_765, sv sizes_767, sv over_768, sv levels_769, sv cells_775, .any, .any, .any, .any, .any, .any, .any, .any]) rfl (EV.cast (EN.ev (en_op (EN.ev (en_lst (el_cons (ev_int 0) (el_cons (ev_int 0) (el_cons (ev_int 0) el_nil))))) (ev_var (i := 0) rfl) (r2_catF h_cat_774))) (Option.some.inj h_cells_775)) (kx_ _ _ ?_))
      obtain ⟨i_776, h_i_776, hf⟩ := bind_some hf
      obtain ⟨r_777, h_r_777, hf⟩ := bind_some hf
      obtain ⟨bent_here_778, h_bent_here_778, hf⟩ := bind_some hf
      refine SB.seqB (fun kx_ => sb_asg (sl' := [sv script_756, sv names_here_760, sv items_here_762, sv room_here_765, sv sizes_767, sv over_768, sv levels_769, sv cells_775, sv bent_here_778, .any, .any, .any, .any, .any, .any, .any]) rfl (EV.cast (EG.ev (eg_call (ea_cons (ev_var (i := 4) rfl) (ea_cons (ev_var (i := 1) rfl) (ea_cons (ev_op (ev_var (i := 7) rfl) (ev_op (ev_cb (ea_cons (ev_var (i := 7) rfl) ea_nil) rc_len) (ev_int 1) r2_sub) (r2_ixL h_i_776)) ea_nil))) h_r_777)) (Option.some.inj h_bent_here_778)) (kx_ _ _ ?_))
      obtain ⟨i_779, h_i_779, hf⟩ := bind_some hf
      obtain ⟨i_780, h_i_780, hf⟩ := bind_some hf
      obtain ⟨i_781, h_i_781, hf⟩ := bind_some hf
      obtain ⟨m_782, h_m_782, hf⟩ := bind_some hf
      obtain ⟨more_783, h_more_783, hf⟩ := bind_some hf
      refine SB.seqB (fun kx_ => sb_asg (sl' := [sv script_756, sv names_here_760, sv items_here_762, sv room_here_765, sv sizes_767, sv over_768, sv levels_769, sv cells_775, sv bent_here_778, sv more_783, .any, .any, .any, .any, .any, .any]) rfl (EV.cast (ev_op (ev_var (i := 5) rfl) (ev_op (ev_op (EN.ev (en_lst (el_cons (ev_int 0) (el_cons (ev_int 0) (el_cons (ev_int 0) (el_cons (ev_int 1) el_nil)))))) (ev_op (ev_op (ev_var (i := 7) rfl) (ev_op (ev_cb (ea_cons (ev_var (i := 7) rfl) ea_nil) rc_len) (ev_int 2) r2_sub) (r2_ixL h_i_779)) (ev_int 4) r2_mod) (r2_ixL h_i_780)) (ev_op (ev_op (ev_op (ev_op (ev_var (i := 7) rfl) (ev_op (ev_cb (ea_cons (ev_var (i := 7) rfl) ea_nil) rc_len) (ev_int 2) r2_sub) (r2_ixL h_i_781)) (ev_int 4) r2_div) (ev_int 3) r2_mod) (ev_int 1) r2_sub) (r2_mulO h_m_782)) r2_add) (Option.some.inj h_more_783)) (kx_ _ _ ?_))
      obtain ⟨i_784, h_i_784, hf⟩ := bind_some hf
      obtain ⟨r_785, h_r_785, hf⟩ := bind_some hf
      obtain ⟨other_here_786, h_other_here_786, hf⟩ := bind_some hf
      refine SB.seqB (fun kx_ => sb_asg (sl' := [sv script_756, sv names_here_760, sv items_here_762, sv room_here_765, sv sizes_767, sv over_768, sv levels_769, sv cells_775, sv bent_here_778, sv more_783, sv other_here_786, .any, .any, .any, .any, .any]) rfl (EV.cast (ev_call (ea_cons (ev_var (i := 6) rfl) (ea_cons (ev_op (ev_var (i := 7) rfl) (ev_op (ev_cb (ea_cons (ev_var (i := 7) rfl) ea_nil) rc_len) (ev_int 3) r2_sub) (r2_ixL h_i_784)) ea_nil)) h_r_785) (Option.some.inj h_other_here_786)) (kx_ _ _ ?_))
      obtain ⟨tot_794, h_tot_794, hf⟩ := bind_some hf
      refine SB.seqB (fun kx_804 => sb_for (β := ((Dc Str Int) × Int × (List (Option (Int × Int × Unit))) × Unit)) (Sx := Unit) (fun s => [sv script_756, sv names_here_760, sv items_here_762, sv room_here_765, sv sizes_767, sv over_768, sv levels_769, sv cells_775, sv bent_here_778, sv more_783, sv other_here_786, .any, .any, .any, .any, .any]) (fun s => []) (fun x s => [sv script_756, sv names_here_760, sv items_here_762, sv room_here_765, sv sizes_767, sv over_768, sv levels_769, sv cells_775, sv bent_here_778, sv more_783, sv other_here_786, sv x.1, sv x.2.1, sv x.2.2.1, .any, .any]) [11, 12, 13] (fun xs s => forC (m_law_L1 items_here_762 room_here_765 sizes_767 over_768 levels_769) xs s = some tot_794) () (IT.m (it_list (EN.ev (en_lst (el_cons (ev_tup (ea_cons (ev_var (i := 8) rfl) (ea_cons (ev_var (i := 9) rfl) (ea_cons (ev_var (i := 10) rfl) ea_nil)))) (el_cons (ev_tup (ea_cons (ev_var (i := 8) rfl) (ea_cons (ev_var (i := 5) rfl) (ea_cons (ev_var (i := 6) rfl) ea_nil)))) (el_cons (ev_tup (ea_cons (ev_var (i := 4) rfl) (ea_cons (ev_var (i := 9) rfl) (ea_cons (ev_var (i := 6) rfl) ea_nil)))) (el_cons (ev_tup (ea_cons (ev_var (i := 4) rfl) (ea_cons (ev_var (i := 5) rfl) (ea_cons (ev_var (i := 10) rfl) ea_nil)))) el_nil)))))))) h_tot_794 (.keep (.keep (.keep (.keep (.keep (.keep (.keep (.keep (.keep (.keep (.keep (.keep (.keep (.keep (.keep (.keep .nil)))))))))))))))) (List.Sublist.refl _) (fun x s => (gt_tup (gts_cons (gt_name rfl) (gts_cons (gt_name rfl) (gts_cons (gt_name rfl) gts_nil))))) ?_ ?_)
      · intro Kn1 b1 x_ rest_ s_ hP_791 N_ hN_790
        obtain ⟨some_787, much_788, told_789, _⟩ := x_
        obtain ⟨c_, hc_792, hP_791⟩ := bind_some hP_791
        have q_793 := q.base b1
        unfold m_law_L1 at hc_792
        refine SB.is (sl' := [sv script_756, sv names_here_760, sv items_here_762, sv room_here_765, sv sizes_767, sv over_768, sv levels_769, sv cells_775, sv bent_here_778, sv more_783, sv other_here_786, sv some_787, sv much_788, sv told_789, .any, .any]) (ow1 := []) rfl rfl ?_
        obtain ⟨handed_795, h_handed_795, hc_792⟩ := bind_some hc_792
        refine SB.seqB (fun kx_ => sb_asg (sl' := [sv script_756, sv names_here_760, sv items_here_762, sv room_here_765, sv sizes_767, sv over_768, sv levels_769, sv cells_775, sv bent_here_778, sv more_783, sv other_here_786, sv some_787, sv much_788, sv told_789, sv handed_795, .any]) rfl (EV.cast (ev_hl (ea_cons (EG.ev (eg_dict (ev_var (i := 2) rfl))) (ea_cons (EG.ev (eg_dict (ev_var (i := 11) rfl))) (ea_cons (EN.ev (en_cb (ea_cons (ev_var (i := 13) rfl) ea_nil) rc_list)) ea_nil)))) (Option.some.inj h_handed_795)) (kx_ _ _ ?_))
        obtain ⟨r_796, h_r_796, hc_792⟩ := bind_some hc_792
        obtain ⟨found_797, h_found_797, hc_792⟩ := bind_some hc_792
        refine SB.seqB (fun kx_ => sb_asg (sl' := [sv script_756, sv names_here_760, sv items_here_762, sv room_here_765, sv sizes_767, sv over_768, sv levels_769, sv cells_775, sv bent_here_778, sv more_783, sv other_here_786, sv some_787, sv much_788, sv told_789, sv handed_795, sv found_797]) rfl (EV.cast (ev_call (ea_cons (ev_var (i := 3) rfl) (ea_cons (ev_op (ev_var (i := 14) rfl) (ev_int 0) (r2_hix (n := 0) (At.z _ _))) (ea_cons (ev_op (ev_var (i := 14) rfl) (ev_int 1) (r2_hix (n := 1) (At.s _ (At.z _ _)))) (ea_cons (ev_var (i := 12) rfl) (ea_cons (ev_op (ev_var (i := 14) rfl) (ev_int 2) (r2_hix (n := 2) (At.s _ (At.s _ (At.z _ _))))) ea_nil))))) h_r_796) (Option.some.inj h_found_797)) (kx_ _ _ ?_))
        refine SB.seqB (fun kx_800 => sb_if (b := ((!true) || (!decide (found_797 = ((Qe.qe some_787 sizes_767) && ((decide (much_788 = over_768)) && (Qe.qe told_789 levels_769))))))) (et_or (et_not (et_B (ev_cb (ea_cons (ev_var (i := 15) rfl) (ea_cons (ev_ty "bool") ea_nil)) (rc_isi (b := true) (by decide +kernel))))) (fun _ => (et_test (ev_op (ev_var (i := 15) rfl) (ev_andV (ev_op (ev_var (i := 11) rfl) (ev_var (i := 4) rfl) r2_eqQ) (fun _ => (ev_andV (ev_op (ev_var (i := 12) rfl) (ev_var (i := 5) rfl) r2_eqI) (fun _ => (ev_op (ev_var (i := 13) rfl) (ev_var (i := 6) rfl) r2_eqQ))))) r2_neB)))) (fun hb_799 => ?_) (fun hb_799 => ?_))
        · have hc_792 := ite_t hb_799 hc_792
          cases hc_792
          replace hP_791 : some (Ctl.rt false) = some tot_794 := hP_791
          cases hP_791
          replace hf : some false = some r_ := hf
          cases hf
          exact sb_ret (ev_bool false) q_793 (List.Sublist.refl _)
        · have hc_792 := ite_f hb_799 hc_792
          refine sb_nx ?_
          refine kx_800 _ _ ?_
          refine sb_if (b := (!Qe.qe handed_795 (Hl.mk (items_here_762, some_787, told_789, ())))) (et_test (ev_op (ev_var (i := 14) rfl) (ev_hl (ea_cons (ev_var (i := 2) rfl) (ea_cons (ev_var (i := 11) rfl) (ea_cons (ev_var (i := 13) rfl) ea_nil)))) r2_neQ)) (fun hb_802 => ?_) (fun hb_802 => ?_)
          · have hc_792 := ite_t hb_802 hc_792
            cases hc_792
            replace hP_791 : some (Ctl.rt false) = some tot_794 := hP_791
            cases hP_791
            replace hf : some false = some r_ := hf
            cases hf
            exact sb_ret (ev_bool false) q_793 (List.Sublist.refl _)
          · have hc_792 := ite_f hb_802 hc_792
            refine sb_nx ?_
            cases hc_792
            exact fun σ Kn H s => hN_790 _ hP_791 σ Kn H ((s.le (.keep (.keep (.keep (.keep (.keep (.keep (.keep (.keep (.keep (.keep (.keep (.drop (.drop (.drop (.drop (.drop .nil))))))))))))))))).sub (List.Sublist.refl _))
      · intro s_ h0
        cases h0
        refine kx_804 _ _ ?_
        refine SB.is (sl' := [sv script_756, sv names_here_760, sv items_here_762, sv room_here_765, sv sizes_767, sv over_768, sv levels_769, sv cells_775, sv bent_here_778, sv more_783, sv other_here_786, .any, .any, .any, .any, .any]) (ow1 := []) rfl rfl ?_
        obtain ⟨r_805, h_r_805, hf⟩ := bind_some hf
        cases hf
        exact sb_ret (ev_op (ev_call (ea_cons (ev_var (i := 3) rfl) (ea_cons (ev_var (i := 2) rfl) (ea_cons (ev_var (i := 4) rfl) (ea_cons (ev_var (i := 5) rfl) (ea_cons (ev_var (i := 6) rfl) ea_nil))))) h_r_805) (ev_bool true) r2_isB) q (List.Sublist.refl _)
end
theorem all_mk (main : ∀ ns : List Int, ns.length ≤ 63 → m_law (Fz.mk ns) = some true) {l : PySem.W.OpenLaw} {w : World} {K : Fg} {h : Heap} {mg : Str → Option Value} {fa f_deal f_lowest f_pour f_dealt f_poured f_ones f_picked f_lesser f_grown f_shrunk f_of_rank f_given_way f_share f_grown_holds f_shrunk_holds f_way_holds f_shared f__law_at f__law_mixed f__law_draws f__law_names f__law_item f__law_items f__law_room f__law_bent f__law_other f_law : Addr} (X : K.In h) (G : h.Ns mainGlobals mg) (hfa : mg "law" = some (.ref fa))
     {od_deal an_deal : Option Addr} {sl_deal : Array (Option Value)} {oc_deal kV_deal dc_deal pm_deal cd_deal ct_deal : Value} {od_lowest an_lowest : Option Addr} {sl_lowest : Array (Option Value)} {oc_lowest kV_lowest dc_lowest pm_lowest cd_lowest ct_lowest : Value} {od_pour an_pour : Option Addr} {sl_pour : Array (Option Value)} {oc_pour kV_pour dc_pour pm_pour cd_pour ct_pour : Value} {od_dealt an_dealt : Option Addr} {sl_dealt : Array (Option Value)} {oc_dealt kV_dealt dc_dealt pm_dealt cd_dealt ct_dealt : Value} {od_poured an_poured : Option Addr} {sl_poured : Array (Option Value)} {oc_poured kV_poured dc_poured pm_poured cd_poured ct_poured : Value} {od_ones an_ones : Option Addr} {sl_ones : Array (Option Value)} {oc_ones kV_ones dc_ones pm_ones cd_ones ct_ones : Value} {od_picked an_picked : Option Addr} {sl_picked : Array (Option Value)} {oc_picked kV_picked dc_picked pm_picked cd_picked ct_picked : Value} {od_lesser an_lesser : Option Addr} {sl_lesser : Array (Option Value)} {oc_lesser kV_lesser dc_lesser pm_lesser cd_lesser ct_lesser : Value} {od_grown an_grown : Option Addr} {sl_grown : Array (Option Value)} {oc_grown kV_grown dc_grown pm_grown cd_grown ct_grown : Value} {od_shrunk an_shrunk : Option Addr} {sl_shrunk : Array (Option Value)} {oc_shrunk kV_shrunk dc_shrunk pm_shrunk cd_shrunk ct_shrunk : Value} {od_of_rank an_of_rank : Option Addr} {sl_of_rank : Array (Option Value)} {oc_of_rank kV_of_rank dc_of_rank pm_of_rank cd_of_rank ct_of_rank : Value} {od_given_way an_given_way : Option Addr} {sl_given_way : Array (Option Value)} {oc_given_way kV_given_way dc_given_way pm_given_way cd_given_way ct_given_way : Value} {od_share an_share : Option Addr} {sl_share : Array (Option Value)} {oc_share kV_share dc_share pm_share cd_share ct_share : Value} {od_grown_holds an_grown_holds : Option Addr} {sl_grown_holds : Array (Option Value)} {oc_grown_holds kV_grown_holds dc_grown_holds pm_grown_holds cd_grown_holds ct_grown_holds : Value} {od_shrunk_holds an_shrunk_holds : Option Addr} {sl_shrunk_holds : Array (Option Value)} {oc_shrunk_holds kV_shrunk_holds dc_shrunk_holds pm_shrunk_holds cd_shrunk_holds ct_shrunk_holds : Value} {od_way_holds an_way_holds : Option Addr} {sl_way_holds : Array (Option Value)} {oc_way_holds kV_way_holds dc_way_holds pm_way_holds cd_way_holds ct_way_holds : Value} {od_shared an_shared : Option Addr} {sl_shared : Array (Option Value)} {oc_shared kV_shared dc_shared pm_shared cd_shared ct_shared : Value} {od__law_at an__law_at : Option Addr} {sl__law_at : Array (Option Value)} {oc__law_at kV__law_at dc__law_at pm__law_at cd__law_at ct__law_at : Value} {od__law_mixed an__law_mixed : Option Addr} {sl__law_mixed : Array (Option Value)} {oc__law_mixed kV__law_mixed dc__law_mixed pm__law_mixed cd__law_mixed ct__law_mixed : Value} {od__law_draws an__law_draws : Option Addr} {sl__law_draws : Array (Option Value)} {oc__law_draws kV__law_draws dc__law_draws pm__law_draws cd__law_draws ct__law_draws : Value} {od__law_names an__law_names : Option Addr} {sl__law_names : Array (Option Value)} {oc__law_names kV__law_names dc__law_names pm__law_names cd__law_names ct__law_names : Value} {od__law_item an__law_item : Option Addr} {sl__law_item : Array (Option Value)} {oc__law_item kV__law_item dc__law_item pm__law_item cd__law_item ct__law_item : Value} {od__law_items an__law_items : Option Addr} {sl__law_items : Array (Option Value)} {oc__law_items kV__law_items dc__law_items pm__law_items cd__law_items ct__law_items : Value} {od__law_room an__law_room : Option Addr} {sl__law_room : Array (Option Value)} {oc__law_room kV__law_room dc__law_room pm__law_room cd__law_room ct__law_room : Value} {od__law_bent an__law_bent : Option Addr} {sl__law_bent : Array (Option Value)} {oc__law_bent kV__law_bent dc__law_bent pm__law_bent cd__law_bent ct__law_bent : Value} {od__law_other an__law_other : Option Addr} {sl__law_other : Array (Option Value)} {oc__law_other kV__law_other dc__law_other pm__law_other cd__law_other ct__law_other : Value} {od_law an_law : Option Addr} {sl_law : Array (Option Value)} {oc_law kV_law dc_law pm_law cd_law ct_law : Value} {tki_RANKS : Tok}
    (a_deal : PySem.W.nsIn K mainGlobals "deal" = some (some (.ref f_deal))) (l_deal : K.lookup f_deal = some ⟨oc_deal, od_deal, .func (PySem.W.fnOf "deal" "deal" (defArgs s_deal) (defBody s_deal) (defScope s_deal) .none kV_deal dc_deal pm_deal an_deal cd_deal ct_deal), sl_deal⟩) (c_deal : PySem.W.codeIn K cd_deal "deal" = true) (k_deal : PySem.W.keepIn K (.ref f_deal) = true)
    (a_lowest : PySem.W.nsIn K mainGlobals "lowest" = some (some (.ref f_lowest))) (l_lowest : K.lookup f_lowest = some ⟨oc_lowest, od_lowest, .func (PySem.W.fnOf "lowest" "lowest" (defArgs s_lowest) (defBody s_lowest) (defScope s_lowest) .none kV_lowest dc_lowest pm_lowest an_lowest cd_lowest ct_lowest), sl_lowest⟩) (c_lowest : PySem.W.codeIn K cd_lowest "lowest" = true) (k_lowest : PySem.W.keepIn K (.ref f_lowest) = true)
    (a_pour : PySem.W.nsIn K mainGlobals "pour" = some (some (.ref f_pour))) (l_pour : K.lookup f_pour = some ⟨oc_pour, od_pour, .func (PySem.W.fnOf "pour" "pour" (defArgs s_pour) (defBody s_pour) (defScope s_pour) .none kV_pour dc_pour pm_pour an_pour cd_pour ct_pour), sl_pour⟩) (c_pour : PySem.W.codeIn K cd_pour "pour" = true) (k_pour : PySem.W.keepIn K (.ref f_pour) = true)
    (a_dealt : PySem.W.nsIn K mainGlobals "dealt" = some (some (.ref f_dealt))) (l_dealt : K.lookup f_dealt = some ⟨oc_dealt, od_dealt, .func (PySem.W.fnOf "dealt" "dealt" (defArgs s_dealt) (defBody s_dealt) (defScope s_dealt) .none kV_dealt dc_dealt pm_dealt an_dealt cd_dealt ct_dealt), sl_dealt⟩) (c_dealt : PySem.W.codeIn K cd_dealt "dealt" = true) (k_dealt : PySem.W.keepIn K (.ref f_dealt) = true)
    (a_poured : PySem.W.nsIn K mainGlobals "poured" = some (some (.ref f_poured))) (l_poured : K.lookup f_poured = some ⟨oc_poured, od_poured, .func (PySem.W.fnOf "poured" "poured" (defArgs s_poured) (defBody s_poured) (defScope s_poured) .none kV_poured dc_poured pm_poured an_poured cd_poured ct_poured), sl_poured⟩) (c_poured : PySem.W.codeIn K cd_poured "poured" = true) (k_poured : PySem.W.keepIn K (.ref f_poured) = true)
    (a_ones : PySem.W.nsIn K mainGlobals "ones" = some (some (.ref f_ones))) (l_ones : K.lookup f_ones = some ⟨oc_ones, od_ones, .func (PySem.W.fnOf "ones" "ones" (defArgs s_ones) (defBody s_ones) (defScope s_ones) .none kV_ones dc_ones pm_ones an_ones cd_ones ct_ones), sl_ones⟩) (c_ones : PySem.W.codeIn K cd_ones "ones" = true) (k_ones : PySem.W.keepIn K (.ref f_ones) = true)
    (a_picked : PySem.W.nsIn K mainGlobals "picked" = some (some (.ref f_picked))) (l_picked : K.lookup f_picked = some ⟨oc_picked, od_picked, .func (PySem.W.fnOf "picked" "picked" (defArgs s_picked) (defBody s_picked) (defScope s_picked) .none kV_picked dc_picked pm_picked an_picked cd_picked ct_picked), sl_picked⟩) (c_picked : PySem.W.codeIn K cd_picked "picked" = true) (k_picked : PySem.W.keepIn K (.ref f_picked) = true)
    (a_lesser : PySem.W.nsIn K mainGlobals "lesser" = some (some (.ref f_lesser))) (l_lesser : K.lookup f_lesser = some ⟨oc_lesser, od_lesser, .func (PySem.W.fnOf "lesser" "lesser" (defArgs s_lesser) (defBody s_lesser) (defScope s_lesser) .none kV_lesser dc_lesser pm_lesser an_lesser cd_lesser ct_lesser), sl_lesser⟩) (c_lesser : PySem.W.codeIn K cd_lesser "lesser" = true) (k_lesser : PySem.W.keepIn K (.ref f_lesser) = true)
    (a_grown : PySem.W.nsIn K mainGlobals "grown" = some (some (.ref f_grown))) (l_grown : K.lookup f_grown = some ⟨oc_grown, od_grown, .func (PySem.W.fnOf "grown" "grown" (defArgs s_grown) (defBody s_grown) (defScope s_grown) .none kV_grown dc_grown pm_grown an_grown cd_grown ct_grown), sl_grown⟩) (c_grown : PySem.W.codeIn K cd_grown "grown" = true) (k_grown : PySem.W.keepIn K (.ref f_grown) = true)
    (a_shrunk : PySem.W.nsIn K mainGlobals "shrunk" = some (some (.ref f_shrunk))) (l_shrunk : K.lookup f_shrunk = some ⟨oc_shrunk, od_shrunk, .func (PySem.W.fnOf "shrunk" "shrunk" (defArgs s_shrunk) (defBody s_shrunk) (defScope s_shrunk) .none kV_shrunk dc_shrunk pm_shrunk an_shrunk cd_shrunk ct_shrunk), sl_shrunk⟩) (c_shrunk : PySem.W.codeIn K cd_shrunk "shrunk" = true) (k_shrunk : PySem.W.keepIn K (.ref f_shrunk) = true)
    (a_of_rank : PySem.W.nsIn K mainGlobals "of_rank" = some (some (.ref f_of_rank))) (l_of_rank : K.lookup f_of_rank = some ⟨oc_of_rank, od_of_rank, .func (PySem.W.fnOf "of_rank" "of_rank" (defArgs s_of_rank) (defBody s_of_rank) (defScope s_of_rank) .none kV_of_rank dc_of_rank pm_of_rank an_of_rank cd_of_rank ct_of_rank), sl_of_rank⟩) (c_of_rank : PySem.W.codeIn K cd_of_rank "of_rank" = true) (k_of_rank : PySem.W.keepIn K (.ref f_of_rank) = true)
    (a_given_way : PySem.W.nsIn K mainGlobals "given_way" = some (some (.ref f_given_way))) (l_given_way : K.lookup f_given_way = some ⟨oc_given_way, od_given_way, .func (PySem.W.fnOf "given_way" "given_way" (defArgs s_given_way) (defBody s_given_way) (defScope s_given_way) .none kV_given_way dc_given_way pm_given_way an_given_way cd_given_way ct_given_way), sl_given_way⟩) (c_given_way : PySem.W.codeIn K cd_given_way "given_way" = true) (k_given_way : PySem.W.keepIn K (.ref f_given_way) = true)
    (a_share : PySem.W.nsIn K mainGlobals "share" = some (some (.ref f_share))) (l_share : K.lookup f_share = some ⟨oc_share, od_share, .func (PySem.W.fnOf "share" "share" (defArgs s_share) (defBody s_share) (defScope s_share) .none kV_share dc_share pm_share an_share cd_share ct_share), sl_share⟩) (c_share : PySem.W.codeIn K cd_share "share" = true) (k_share : PySem.W.keepIn K (.ref f_share) = true)
    (a_grown_holds : PySem.W.nsIn K mainGlobals "grown_holds" = some (some (.ref f_grown_holds))) (l_grown_holds : K.lookup f_grown_holds = some ⟨oc_grown_holds, od_grown_holds, .func (PySem.W.fnOf "grown_holds" "grown_holds" (defArgs s_grown_holds) (defBody s_grown_holds) (defScope s_grown_holds) .none kV_grown_holds dc_grown_holds pm_grown_holds an_grown_holds cd_grown_holds ct_grown_holds), sl_grown_holds⟩) (c_grown_holds : PySem.W.codeIn K cd_grown_holds "grown_holds" = true) (k_grown_holds : PySem.W.keepIn K (.ref f_grown_holds) = true)
    (a_shrunk_holds : PySem.W.nsIn K mainGlobals "shrunk_holds" = some (some (.ref f_shrunk_holds))) (l_shrunk_holds : K.lookup f_shrunk_holds = some ⟨oc_shrunk_holds, od_shrunk_holds, .func (PySem.W.fnOf "shrunk_holds" "shrunk_holds" (defArgs s_shrunk_holds) (defBody s_shrunk_holds) (defScope s_shrunk_holds) .none kV_shrunk_holds dc_shrunk_holds pm_shrunk_holds an_shrunk_holds cd_shrunk_holds ct_shrunk_holds), sl_shrunk_holds⟩) (c_shrunk_holds : PySem.W.codeIn K cd_shrunk_holds "shrunk_holds" = true) (k_shrunk_holds : PySem.W.keepIn K (.ref f_shrunk_holds) = true)
    (a_way_holds : PySem.W.nsIn K mainGlobals "way_holds" = some (some (.ref f_way_holds))) (l_way_holds : K.lookup f_way_holds = some ⟨oc_way_holds, od_way_holds, .func (PySem.W.fnOf "way_holds" "way_holds" (defArgs s_way_holds) (defBody s_way_holds) (defScope s_way_holds) .none kV_way_holds dc_way_holds pm_way_holds an_way_holds cd_way_holds ct_way_holds), sl_way_holds⟩) (c_way_holds : PySem.W.codeIn K cd_way_holds "way_holds" = true) (k_way_holds : PySem.W.keepIn K (.ref f_way_holds) = true)
    (a_shared : PySem.W.nsIn K mainGlobals "shared" = some (some (.ref f_shared))) (l_shared : K.lookup f_shared = some ⟨oc_shared, od_shared, .func (PySem.W.fnOf "shared" "shared" (defArgs s_shared) (defBody s_shared) (defScope s_shared) .none kV_shared dc_shared pm_shared an_shared cd_shared ct_shared), sl_shared⟩) (c_shared : PySem.W.codeIn K cd_shared "shared" = true) (k_shared : PySem.W.keepIn K (.ref f_shared) = true)
    (a__law_at : PySem.W.nsIn K mainGlobals "_law_at" = some (some (.ref f__law_at))) (l__law_at : K.lookup f__law_at = some ⟨oc__law_at, od__law_at, .func (PySem.W.fnOf "_law_at" "_law_at" (defArgs s__law_at) (defBody s__law_at) (defScope s__law_at) .none kV__law_at dc__law_at pm__law_at an__law_at cd__law_at ct__law_at), sl__law_at⟩) (c__law_at : PySem.W.codeIn K cd__law_at "_law_at" = true) (k__law_at : PySem.W.keepIn K (.ref f__law_at) = true)
    (a__law_mixed : PySem.W.nsIn K mainGlobals "_law_mixed" = some (some (.ref f__law_mixed))) (l__law_mixed : K.lookup f__law_mixed = some ⟨oc__law_mixed, od__law_mixed, .func (PySem.W.fnOf "_law_mixed" "_law_mixed" (defArgs s__law_mixed) (defBody s__law_mixed) (defScope s__law_mixed) .none kV__law_mixed dc__law_mixed pm__law_mixed an__law_mixed cd__law_mixed ct__law_mixed), sl__law_mixed⟩) (c__law_mixed : PySem.W.codeIn K cd__law_mixed "_law_mixed" = true) (k__law_mixed : PySem.W.keepIn K (.ref f__law_mixed) = true)
    (a__law_draws : PySem.W.nsIn K mainGlobals "_law_draws" = some (some (.ref f__law_draws))) (l__law_draws : K.lookup f__law_draws = some ⟨oc__law_draws, od__law_draws, .func (PySem.W.fnOf "_law_draws" "_law_draws" (defArgs s__law_draws) (defBody s__law_draws) (defScope s__law_draws) .none kV__law_draws dc__law_draws pm__law_draws an__law_draws cd__law_draws ct__law_draws), sl__law_draws⟩) (c__law_draws : PySem.W.codeIn K cd__law_draws "_law_draws" = true) (k__law_draws : PySem.W.keepIn K (.ref f__law_draws) = true)
    (a__law_names : PySem.W.nsIn K mainGlobals "_law_names" = some (some (.ref f__law_names))) (l__law_names : K.lookup f__law_names = some ⟨oc__law_names, od__law_names, .func (PySem.W.fnOf "_law_names" "_law_names" (defArgs s__law_names) (defBody s__law_names) (defScope s__law_names) .none kV__law_names dc__law_names pm__law_names an__law_names cd__law_names ct__law_names), sl__law_names⟩) (c__law_names : PySem.W.codeIn K cd__law_names "_law_names" = true) (k__law_names : PySem.W.keepIn K (.ref f__law_names) = true)
    (a__law_item : PySem.W.nsIn K mainGlobals "_law_item" = some (some (.ref f__law_item))) (l__law_item : K.lookup f__law_item = some ⟨oc__law_item, od__law_item, .func (PySem.W.fnOf "_law_item" "_law_item" (defArgs s__law_item) (defBody s__law_item) (defScope s__law_item) .none kV__law_item dc__law_item pm__law_item an__law_item cd__law_item ct__law_item), sl__law_item⟩) (c__law_item : PySem.W.codeIn K cd__law_item "_law_item" = true) (k__law_item : PySem.W.keepIn K (.ref f__law_item) = true)
    (a__law_items : PySem.W.nsIn K mainGlobals "_law_items" = some (some (.ref f__law_items))) (l__law_items : K.lookup f__law_items = some ⟨oc__law_items, od__law_items, .func (PySem.W.fnOf "_law_items" "_law_items" (defArgs s__law_items) (defBody s__law_items) (defScope s__law_items) .none kV__law_items dc__law_items pm__law_items an__law_items cd__law_items ct__law_items), sl__law_items⟩) (c__law_items : PySem.W.codeIn K cd__law_items "_law_items" = true) (k__law_items : PySem.W.keepIn K (.ref f__law_items) = true)
    (a__law_room : PySem.W.nsIn K mainGlobals "_law_room" = some (some (.ref f__law_room))) (l__law_room : K.lookup f__law_room = some ⟨oc__law_room, od__law_room, .func (PySem.W.fnOf "_law_room" "_law_room" (defArgs s__law_room) (defBody s__law_room) (defScope s__law_room) .none kV__law_room dc__law_room pm__law_room an__law_room cd__law_room ct__law_room), sl__law_room⟩) (c__law_room : PySem.W.codeIn K cd__law_room "_law_room" = true) (k__law_room : PySem.W.keepIn K (.ref f__law_room) = true)
    (a__law_bent : PySem.W.nsIn K mainGlobals "_law_bent" = some (some (.ref f__law_bent))) (l__law_bent : K.lookup f__law_bent = some ⟨oc__law_bent, od__law_bent, .func (PySem.W.fnOf "_law_bent" "_law_bent" (defArgs s__law_bent) (defBody s__law_bent) (defScope s__law_bent) .none kV__law_bent dc__law_bent pm__law_bent an__law_bent cd__law_bent ct__law_bent), sl__law_bent⟩) (c__law_bent : PySem.W.codeIn K cd__law_bent "_law_bent" = true) (k__law_bent : PySem.W.keepIn K (.ref f__law_bent) = true)
    (a__law_other : PySem.W.nsIn K mainGlobals "_law_other" = some (some (.ref f__law_other))) (l__law_other : K.lookup f__law_other = some ⟨oc__law_other, od__law_other, .func (PySem.W.fnOf "_law_other" "_law_other" (defArgs s__law_other) (defBody s__law_other) (defScope s__law_other) .none kV__law_other dc__law_other pm__law_other an__law_other cd__law_other ct__law_other), sl__law_other⟩) (c__law_other : PySem.W.codeIn K cd__law_other "_law_other" = true) (k__law_other : PySem.W.keepIn K (.ref f__law_other) = true)
    (a_law : PySem.W.nsIn K mainGlobals "law" = some (some (.ref f_law))) (l_law : K.lookup f_law = some ⟨oc_law, od_law, .func (PySem.W.fnOf "law" "law" (defArgs s_law) (defBody s_law) (defScope s_law) .none kV_law dc_law pm_law an_law cd_law ct_law), sl_law⟩) (c_law : PySem.W.codeIn K cd_law "law" = true) (k_law : PySem.W.keepIn K (.ref f_law) = true)
    (z_all : PySem.W.nsIn K mainGlobals "all" = some none)
    (z_any : PySem.W.nsIn K mainGlobals "any" = some none)
    (z_bool : PySem.W.nsIn K mainGlobals "bool" = some none)
    (z_dict : PySem.W.nsIn K mainGlobals "dict" = some none)
    (z_divmod : PySem.W.nsIn K mainGlobals "divmod" = some none)
    (z_int : PySem.W.nsIn K mainGlobals "int" = some none)
    (z_isinstance : PySem.W.nsIn K mainGlobals "isinstance" = some none)
    (z_len : PySem.W.nsIn K mainGlobals "len" = some none)
    (z_list : PySem.W.nsIn K mainGlobals "list" = some none)
    (z_max : PySem.W.nsIn K mainGlobals "max" = some none)
    (z_min : PySem.W.nsIn K mainGlobals "min" = some none)
    (z_range : PySem.W.nsIn K mainGlobals "range" = some none)
    (z_sorted : PySem.W.nsIn K mainGlobals "sorted" = some none)
    (z_sum : PySem.W.nsIn K mainGlobals "sum" = some none)
    (z_zip : PySem.W.nsIn K mainGlobals "zip" = some none)
    (ki_RANKS : PySem.W.nsIn K mainGlobals "RANKS" = some (some (.int 10 tki_RANKS))) :
    ∃ fd : FuncData, (∀ (s : Shared) (v : Value), BindsTo s fd ⟨[v], []⟩ [("_law_script", v)]) ∧ ∀ base : Heap, K.In base → base.Ns mainGlobals mg → FnOk l.prog w K mg base CX0 5 fa fd ["_law_script"] (spLaw K) := by
  have e := hfa.symm.trans (PySem.W.mg_of X G a_law)
  cases e
  have F_deal := fun_mk (st := s_deal) l_deal c_deal k_deal
  have F_lowest := fun_mk (st := s_lowest) l_lowest c_lowest k_lowest
  have F_pour := fun_mk (st := s_pour) l_pour c_pour k_pour
  have F_dealt := fun_mk (st := s_dealt) l_dealt c_dealt k_dealt
  have F_poured := fun_mk (st := s_poured) l_poured c_poured k_poured
  have F_ones := fun_mk (st := s_ones) l_ones c_ones k_ones
  have F_picked := fun_mk (st := s_picked) l_picked c_picked k_picked
  have F_lesser := fun_mk (st := s_lesser) l_lesser c_lesser k_lesser
  have F_grown := fun_mk (st := s_grown) l_grown c_grown k_grown
  have F_shrunk := fun_mk (st := s_shrunk) l_shrunk c_shrunk k_shrunk
  have F_of_rank := fun_mk (st := s_of_rank) l_of_rank c_of_rank k_of_rank
  have F_given_way := fun_mk (st := s_given_way) l_given_way c_given_way k_given_way
  have F_share := fun_mk (st := s_share) l_share c_share k_share
  have F_grown_holds := fun_mk (st := s_grown_holds) l_grown_holds c_grown_holds k_grown_holds
  have F_shrunk_holds := fun_mk (st := s_shrunk_holds) l_shrunk_holds c_shrunk_holds k_shrunk_holds
  have F_way_holds := fun_mk (st := s_way_holds) l_way_holds c_way_holds k_way_holds
  have F_shared := fun_mk (st := s_shared) l_shared c_shared k_shared
  have F__law_at := fun_mk (st := s__law_at) l__law_at c__law_at k__law_at
  have F__law_mixed := fun_mk (st := s__law_mixed) l__law_mixed c__law_mixed k__law_mixed
  have F__law_draws := fun_mk (st := s__law_draws) l__law_draws c__law_draws k__law_draws
  have F__law_names := fun_mk (st := s__law_names) l__law_names c__law_names k__law_names
  have F__law_item := fun_mk (st := s__law_item) l__law_item c__law_item k__law_item
  have F__law_items := fun_mk (st := s__law_items) l__law_items c__law_items k__law_items
  have F__law_room := fun_mk (st := s__law_room) l__law_room c__law_room k__law_room
  have F__law_bent := fun_mk (st := s__law_bent) l__law_bent c__law_bent k__law_bent
  have F__law_other := fun_mk (st := s__law_other) l__law_other c__law_other k__law_other
  have F_law := fun_mk (st := s_law) l_law c_law k_law
  have b_deal := F_deal.binds (ps := ["room", "weights"]) fun _ _ _ _ _ _ us hl => match us, hl with | [_, _], _ => rfl
  have b_lowest := F_lowest.binds (ps := ["p", "q"]) fun _ _ _ _ _ _ us hl => match us, hl with | [_, _], _ => rfl
  have b_pour := F_pour.binds (ps := ["room", "weights", "caps"]) fun _ _ _ _ _ _ us hl => match us, hl with | [_, _, _], _ => rfl
  have b_dealt := F_dealt.binds (ps := ["room", "weights", "sizes"]) fun _ _ _ _ _ _ us hl => match us, hl with | [_, _, _], _ => rfl
  have b_poured := F_poured.binds (ps := ["room", "weights", "caps", "sizes", "level"]) fun _ _ _ _ _ _ us hl => match us, hl with | [_, _, _, _, _], _ => rfl
  have b_ones := F_ones.binds (ps := ["names"]) fun _ _ _ _ _ _ us hl => match us, hl with | [_], _ => rfl
  have b_picked := F_picked.binds (ps := ["items", "at"]) fun _ _ _ _ _ _ us hl => match us, hl with | [_, _], _ => rfl
  have b_lesser := F_lesser.binds (ps := ["some", "others"]) fun _ _ _ _ _ _ us hl => match us, hl with | [_, _], _ => rfl
  have b_grown := F_grown.binds (ps := ["room", "items"]) fun _ _ _ _ _ _ us hl => match us, hl with | [_, _], _ => rfl
  have b_shrunk := F_shrunk.binds (ps := ["room", "items"]) fun _ _ _ _ _ _ us hl => match us, hl with | [_, _], _ => rfl
  have b_of_rank := F_of_rank.binds (ps := ["items", "rank"]) fun _ _ _ _ _ _ us hl => match us, hl with | [_, _], _ => rfl
  have b_given_way := F_given_way.binds (ps := ["room", "items"]) fun _ _ _ _ _ _ us hl => match us, hl with | [_, _], _ => rfl
  have b_share := F_share.binds (ps := ["room", "items"]) fun _ _ _ _ _ _ us hl => match us, hl with | [_, _], _ => rfl
  have b_grown_holds := F_grown_holds.binds (ps := ["room", "items", "sizes", "over", "levels"]) fun _ _ _ _ _ _ us hl => match us, hl with | [_, _, _, _, _], _ => rfl
  have b_shrunk_holds := F_shrunk_holds.binds (ps := ["room", "items", "sizes", "levels"]) fun _ _ _ _ _ _ us hl => match us, hl with | [_, _, _, _], _ => rfl
  have b_way_holds := F_way_holds.binds (ps := ["room", "items", "sizes", "levels"]) fun _ _ _ _ _ _ us hl => match us, hl with | [_, _, _, _], _ => rfl
  have b_shared := F_shared.binds (ps := ["room", "items", "sizes", "over", "levels"]) fun _ _ _ _ _ _ us hl => match us, hl with | [_, _, _, _, _], _ => rfl
  have b__law_at := F__law_at.binds (ps := ["_law_script", "_law_k"]) fun _ _ _ _ _ _ us hl => match us, hl with | [_, _], _ => rfl
  have b__law_mixed := F__law_mixed.binds (ps := ["_law_cell"]) fun _ _ _ _ _ _ us hl => match us, hl with | [_], _ => rfl
  have b__law_draws := F__law_draws.binds (ps := ["_law_script", "_law_first", "_law_many", "_law_base"]) fun _ _ _ _ _ _ us hl => match us, hl with | [_, _, _, _], _ => rfl
  have b__law_names := F__law_names.binds (ps := ["_law_many", "_law_cell"]) fun _ _ _ _ _ _ us hl => match us, hl with | [_, _], _ => rfl
  have b__law_item := F__law_item.binds (ps := ["_law_n"]) fun _ _ _ _ _ _ us hl => match us, hl with | [_], _ => rfl
  have b__law_items := F__law_items.binds (ps := ["_law_script", "_law_names_here"]) fun _ _ _ _ _ _ us hl => match us, hl with | [_, _], _ => rfl
  have b__law_room := F__law_room.binds (ps := ["_law_items_here", "_law_cell"]) fun _ _ _ _ _ _ us hl => match us, hl with | [_, _], _ => rfl
  have b__law_bent := F__law_bent.binds (ps := ["_law_sizes", "_law_names_here", "_law_cell"]) fun _ _ _ _ _ _ us hl => match us, hl with | [_, _, _], _ => rfl
  have b__law_other := F__law_other.binds (ps := ["_law_levels", "_law_cell"]) fun _ _ _ _ _ _ us hl => match us, hl with | [_, _], _ => rfl
  have b_law := F_law.binds (ps := ["_law_script"]) fun _ _ _ _ _ _ us hl => match us, hl with | [_], _ => rfl
  let T : TX K mg w := ⟨_, _, F_deal, b_deal, PySem.W.mg_of X G a_deal, _, _, F_lowest, b_lowest, PySem.W.mg_of X G a_lowest, _, _, F_pour, b_pour, PySem.W.mg_of X G a_pour, _, _, F_dealt, b_dealt, PySem.W.mg_of X G a_dealt, _, _, F_poured, b_poured, PySem.W.mg_of X G a_poured, _, _, F_ones, b_ones, PySem.W.mg_of X G a_ones, _, _, F_picked, b_picked, PySem.W.mg_of X G a_picked, _, _, F_lesser, b_lesser, PySem.W.mg_of X G a_lesser, _, _, F_grown, b_grown, PySem.W.mg_of X G a_grown, _, _, F_shrunk, b_shrunk, PySem.W.mg_of X G a_shrunk, _, _, F_of_rank, b_of_rank, PySem.W.mg_of X G a_of_rank, _, _, F_given_way, b_given_way, PySem.W.mg_of X G a_given_way, _, _, F_share, b_share, PySem.W.mg_of X G a_share, _, _, F_grown_holds, b_grown_holds, PySem.W.mg_of X G a_grown_holds, _, _, F_shrunk_holds, b_shrunk_holds, PySem.W.mg_of X G a_shrunk_holds, _, _, F_way_holds, b_way_holds, PySem.W.mg_of X G a_way_holds, _, _, F_shared, b_shared, PySem.W.mg_of X G a_shared, _, _, F__law_at, b__law_at, PySem.W.mg_of X G a__law_at, _, _, F__law_mixed, b__law_mixed, PySem.W.mg_of X G a__law_mixed, _, _, F__law_draws, b__law_draws, PySem.W.mg_of X G a__law_draws, _, _, F__law_names, b__law_names, PySem.W.mg_of X G a__law_names, _, _, F__law_item, b__law_item, PySem.W.mg_of X G a__law_item, _, _, F__law_items, b__law_items, PySem.W.mg_of X G a__law_items, _, _, F__law_room, b__law_room, PySem.W.mg_of X G a__law_room, _, _, F__law_bent, b__law_bent, PySem.W.mg_of X G a__law_bent, _, _, F__law_other, b__law_other, PySem.W.mg_of X G a__law_other, _, _, F_law, b_law, PySem.W.mg_of X G a_law, PySem.W.mg_none_of X G z_all, PySem.W.mg_none_of X G z_any, PySem.W.mg_none_of X G z_bool, PySem.W.mg_none_of X G z_dict, PySem.W.mg_none_of X G z_divmod, PySem.W.mg_none_of X G z_int, PySem.W.mg_none_of X G z_isinstance, PySem.W.mg_none_of X G z_len, PySem.W.mg_none_of X G z_list, PySem.W.mg_none_of X G z_max, PySem.W.mg_none_of X G z_min, PySem.W.mg_none_of X G z_range, PySem.W.mg_none_of X G z_sorted, PySem.W.mg_none_of X G z_sum, PySem.W.mg_none_of X G z_zip, _, PySem.W.mg_of X G ki_RANKS⟩
  refine ⟨PySem.W.fnOf "law" "law" (defArgs s_law) (defBody s_law) (defScope s_law) .none kV_law dc_law pm_law an_law cd_law ct_law, fun s v => .of_eq rfl, fun base _ _ => ?_⟩
  exact fn_weak (ok_law T) main
end Wk05
/-! Wp: plain facts about the mirrors' words -/
namespace Wk
open PySem L2

theorem bs {α β : Type} (a : α) (f : α → Option β) : (some a).bind f = f a := by rw [Option.bind_some]
theorem bind_ok {α β : Type} {m : Option α} {f : α → Option β} {a : α} (h : m = some a) : m.bind f = f a := by rw [h]; rfl
theorem atI_ok {α : Type} {xs : List α} {i : Int} (h0 : 0 ≤ i) (h : i < xs.length) : atI xs i = xs[i.toNat]? := by
  obtain ⟨k, rfl⟩ := Int.eq_ofNat_of_zero_le h0
  have hk : k < xs.length := by omega
  have e : xs[k]? = some xs[k] := List.getElem?_eq_getElem hk
  rw [show ((k : Int)).toNat = k from rfl, e]
  exact atI_nat e
theorem atI_some {α : Type} {xs : List α} {i : Int} (h0 : 0 ≤ i) (h : i < xs.length) : ∃ x, atI xs i = some x ∧ xs[i.toNat]? = some x := by
  have hk : i.toNat < xs.length := by omega
  exact ⟨xs[i.toNat], by rw [atI_ok h0 h]; exact List.getElem?_eq_getElem hk, List.getElem?_eq_getElem hk⟩
theorem pick2 {α : Type} (x y : α) {k : Int} (h0 : 0 ≤ k) (h : k < 2) : atI [x, y] k = some (if k = 0 then x else y) := by
  rcases (show k = 0 ∨ k = 1 by omega) with rfl | rfl <;> rfl
theorem pick3 {α : Type} (x y z : α) {k : Int} (h0 : 0 ≤ k) (h : k < 3) : atI [x, y, z] k = some (if k = 0 then x else if k = 1 then y else z) := by
  rcases (show k = 0 ∨ k = 1 ∨ k = 2 by omega) with rfl | rfl | rfl <;> rfl
theorem pick4 {α : Type} (x y z u : α) {k : Int} (h0 : 0 ≤ k) (h : k < 4) : atI [x, y, z, u] k = some (if k = 0 then x else if k = 1 then y else if k = 2 then z else u) := by
  rcases (show k = 0 ∨ k = 1 ∨ k = 2 ∨ k = 3 by omega) with rfl | rfl | rfl | rfl <;> rfl
theorem forC_all {β R : Type} {f : β → Unit → Option (Ctl Unit R)} : ∀ {xs : List β}, (∀ x ∈ xs, f x () = some (.nx ())) → forC f xs () = some (.nx ())
  | [], _ => rfl
  | x :: xs, h => by
    unfold forC
    rw [h x List.mem_cons_self]
    exact forC_all fun y hy => h y (List.mem_cons_of_mem _ hy)
/-- a loop that always goes on, by an invariant -/
theorem forC_inv {β Sx R : Type} {f : β → Sx → Option (Ctl Sx R)} (I : List β → Sx → Prop) : ∀ {xs : List β} {s : Sx}, I xs s → (∀ x rest s, I (x :: rest) s → ∃ s', f x s = some (.nx s') ∧ I rest s') → ∃ s', forC f xs s = some (.nx s') ∧ I [] s'
  | [], s, h, _ => ⟨s, rfl, h⟩
  | x :: xs, s, h, hs => by
    obtain ⟨s', e, h'⟩ := hs x xs s h
    obtain ⟨s2, e2, h2⟩ := forC_inv I h' hs
    refine ⟨s2, ?_, h2⟩
    unfold forC
    rw [e]
    exact e2
theorem forS_inv {β Sx : Type} {f : β → Sx → Option Sx} (I : List β → Sx → Prop) : ∀ {xs : List β} {s : Sx}, I xs s → (∀ x rest s, I (x :: rest) s → ∃ s', f x s = some s' ∧ I rest s') → ∃ s', forS f xs s = some s' ∧ I [] s'
  | [], s, h, _ => ⟨s, rfl, h⟩
  | x :: xs, s, h, hs => by
    obtain ⟨s', e, h'⟩ := hs x xs s h
    obtain ⟨s2, e2, h2⟩ := forS_inv I h' hs
    refine ⟨s2, ?_, h2⟩
    unfold forS
    rw [e]
    exact e2
/-- a loop as a fold -/
theorem forS_fold {β Sx : Type} {f : β → Sx → Option Sx} (g : Sx → β → Sx) (I : List β → Sx → Prop) : ∀ {xs : List β} {s : Sx}, I xs s → (∀ x rest s, I (x :: rest) s → f x s = some (g s x) ∧ I rest (g s x)) → forS f xs s = some (xs.foldl g s)
  | [], s, h, _ => rfl
  | x :: xs, s, h, hs => by
    obtain ⟨e, h'⟩ := hs x xs s h
    unfold forS
    rw [e]
    exact forS_fold g I h' hs
theorem forS_cons {β Sx : Type} {f : β → Sx → Option Sx} {x : β} {xs : List β} {s s' : Sx} (h : f x s = some s') : forS f (x :: xs) s = forS f xs s' := by
  show ((f x s).bind _) = _
  rw [h]
  rfl
theorem forC_cons {β Sx R : Type} {f : β → Sx → Option (Ctl Sx R)} {x : β} {xs : List β} {s s' : Sx} (h : f x s = some (.nx s')) : forC f (x :: xs) s = forC f xs s' := by
  show ((f x s).bind _) = _
  rw [h]
  rfl
/-- by places -/
theorem forS_ix {β Sx : Type} {f : β → Sx → Option Sx} {xs : List β} (P : Nat → Sx → Prop) {s : Sx} (h0 : P 0 s) (step : ∀ (i : Nat) (hi : i < xs.length) s, P i s → ∃ s', f xs[i] s = some s' ∧ P (i + 1) s') : ∃ s', forS f xs s = some s' ∧ P xs.length s' := by
  have key : ∀ (m i : Nat) (s : Sx), i + m = xs.length → P i s → ∃ s', forS f (xs.drop i) s = some s' ∧ P xs.length s' := by
    intro m
    induction m with
    | zero =>
      intro i s hi hp
      have e : i = xs.length := by omega
      subst e
      rw [List.drop_length]
      exact ⟨s, rfl, hp⟩
    | succ m ih =>
      intro i s hi hp
      have hl : i < xs.length := by omega
      obtain ⟨s', e, hp'⟩ := step i hl s hp
      obtain ⟨r, e2, h2⟩ := ih (i + 1) s' (by omega) hp'
      refine ⟨r, ?_, h2⟩
      rw [List.drop_eq_getElem_cons hl, forS_cons e]
      exact e2
  have := key xs.length 0 s (by omega) h0
  rwa [List.drop_zero] at this
theorem forC_ix {β Sx R : Type} {f : β → Sx → Option (Ctl Sx R)} {xs : List β} (P : Nat → Sx → Prop) {s : Sx} (h0 : P 0 s) (step : ∀ (i : Nat) (hi : i < xs.length) s, P i s → ∃ s', f xs[i] s = some (.nx s') ∧ P (i + 1) s') : ∃ s', forC f xs s = some (.nx s') ∧ P xs.length s' := by
  have key : ∀ (m i : Nat) (s : Sx), i + m = xs.length → P i s → ∃ s', forC f (xs.drop i) s = some (.nx s') ∧ P xs.length s' := by
    intro m
    induction m with
    | zero =>
      intro i s hi hp
      have e : i = xs.length := by omega
      subst e
      rw [List.drop_length]
      exact ⟨s, rfl, hp⟩
    | succ m ih =>
      intro i s hi hp
      have hl : i < xs.length := by omega
      obtain ⟨s', e, hp'⟩ := step i hl s hp
      obtain ⟨r, e2, h2⟩ := ih (i + 1) s' (by omega) hp'
      refine ⟨r, ?_, h2⟩
      rw [List.drop_eq_getElem_cons hl, forC_cons e]
      exact e2
  have := key xs.length 0 s (by omega) h0
  rwa [List.drop_zero] at this
/-- two loops over one list, turn by turn -/
theorem forS2_ix {β S1 S2 : Type} {f1 : β → S1 → Option S1} {f2 : β → S2 → Option S2} {xs : List β} (P : Nat → S1 → S2 → Prop) {s1 : S1} {s2 : S2} (h0 : P 0 s1 s2)
    (step : ∀ (i : Nat) (hi : i < xs.length) s1 s2, P i s1 s2 → ∃ s1' s2', f1 xs[i] s1 = some s1' ∧ f2 xs[i] s2 = some s2' ∧ P (i + 1) s1' s2') : ∃ r1 r2, forS f1 xs s1 = some r1 ∧ forS f2 xs s2 = some r2 ∧ P xs.length r1 r2 := by
  have key : ∀ (m i : Nat) (s1 : S1) (s2 : S2), i + m = xs.length → P i s1 s2 → ∃ r1 r2, forS f1 (xs.drop i) s1 = some r1 ∧ forS f2 (xs.drop i) s2 = some r2 ∧ P xs.length r1 r2 := by
    intro m
    induction m with
    | zero =>
      intro i s1 s2 hi hp
      have e : i = xs.length := by omega
      subst e
      rw [List.drop_length]
      exact ⟨s1, s2, rfl, rfl, hp⟩
    | succ m ih =>
      intro i s1 s2 hi hp
      have hl : i < xs.length := by omega
      obtain ⟨a, b, e1, e2, hp'⟩ := step i hl s1 s2 hp
      obtain ⟨r1, r2, h1, h2, h3⟩ := ih (i + 1) a b (by omega) hp'
      refine ⟨r1, r2, ?_, ?_, h3⟩
      · rw [List.drop_eq_getElem_cons hl, forS_cons e1]
        exact h1
      · rw [List.drop_eq_getElem_cons hl, forS_cons e2]
        exact h2
  have := key xs.length 0 s1 s2 (by omega) h0
  rwa [List.drop_zero] at this
theorem enumI_at {α : Type} (xs : List α) (i : Nat) (hi : i < (enumI xs).length) : (enumI xs)[i] = ((i : Int), xs[i]'(by simpa [enumI] using hi), ()) := by simp [enumI]
theorem whileS_inv {Sx : Type} {c : Sx → Option Bool} {f : Sx → Option Sx} (I : Sx → Prop) (μ : Sx → Nat) (step : ∀ s, I s → ∃ b, c s = some b ∧ (b = true → ∃ s', f s = some s' ∧ I s' ∧ μ s' < μ s)) :
    ∀ (n : Nat) {s : Sx}, I s → μ s < n → ∃ s', whileS c f n s = some s' ∧ I s' ∧ c s' = some false
  | 0, _, _, h => absurd h (Nat.not_lt_zero _)
  | n + 1, s, hI, hn => by
    obtain ⟨b, hb, hs⟩ := step s hI
    unfold whileS
    rw [hb]
    cases b with
    | false => exact ⟨s, rfl, hI, hb⟩
    | true =>
      obtain ⟨s', e, hI', hm⟩ := hs rfl
      obtain ⟨s2, e2, h2⟩ := whileS_inv I μ step n hI' (by omega)
      refine ⟨s2, ?_, h2⟩
      show ((f s).bind _) = _
      rw [e]
      exact e2
theorem whileF_inv {Sx : Type} {c : Sx → Option Bool} {f : Sx → Option Sx} (I : Sx → Prop) (μ : Sx → Nat) (step : ∀ s, I s → ∃ b, c s = some b ∧ (b = true → ∃ s', f s = some s' ∧ I s' ∧ μ s' < μ s)) {s : Sx} (h : I s) :
    ∃ s', whileF c f s = some s' ∧ I s' ∧ c s' = some false := by
  obtain ⟨s', e, h1, h2⟩ := whileS_inv I μ step (μ s + 1) h (Nat.lt_succ_self _)
  exact ⟨s', whileF_of e, h1, h2⟩
theorem cut_len {α : Type} (xs : List α) (lo hi : Option Int) : (cut xs lo hi).length ≤ xs.length := by
  unfold cut
  rw [List.length_take, List.length_drop]
  omega
theorem cut_mem {α : Type} {xs : List α} {lo hi : Option Int} {x : α} (h : x ∈ cut xs lo hi) : x ∈ xs := List.mem_of_mem_drop (List.mem_of_mem_take h)
theorem cut_from {α : Type} (xs : List α) (k : Nat) : cut xs (some (k : Int)) none = xs.drop k := by
  unfold cut
  rw [HT.sIx_nat, HT.sIx_none]
  by_cases h : k ≤ xs.length
  · rw [Nat.min_eq_left h, List.take_of_length_le (by rw [List.length_drop]; omega)]
  · rw [Nat.min_eq_right (by omega), List.drop_eq_nil_of_le (Nat.le_refl _), List.drop_eq_nil_of_le (show xs.length ≤ k by omega)]
    exact List.take_nil
theorem cut_to {α : Type} (xs : List α) (k : Nat) : cut xs none (some (k : Int)) = xs.take k := by
  unfold cut
  rw [HT.sIx_nat, HT.sIx_none, List.drop_zero, Nat.sub_zero]
  by_cases h : k ≤ xs.length
  · rw [Nat.min_eq_left h]
  · rw [Nat.min_eq_right (by omega), List.take_of_length_le (Nat.le_refl _), List.take_of_length_le (by omega)]
theorem rngO_ok {lo hi : Int} (h1 : -1000000000000 ≤ lo) (h2 : lo ≤ 1000000000000) (h3 : -1000000000000 ≤ hi) (h4 : hi ≤ 1000000000000) : rngO lo hi = some (irange lo hi) := if_pos ⟨h1, h2, h3, h4⟩
theorem irange_len (lo hi : Int) : (irange lo hi).length = (hi - lo).toNat := by simp [irange]
theorem enumI_len {α : Type} (xs : List α) : (enumI xs).length = xs.length := by simp [enumI]
theorem lcM_len {β γ : Type} {c : β → Option Bool} {f : β → Option γ} {xs : List β} (h : xs.length < 1000000) : lcM c f xs = lcGo c f xs := if_pos h
theorem lcGo_all {β γ : Type} {f : β → Option γ} (g : β → γ) : ∀ {xs : List β}, (∀ x ∈ xs, f x = some (g x)) → lcGo (fun _ => some true) f xs = some (xs.map g)
  | [], _ => rfl
  | x :: xs, h => by
    unfold lcGo
    show ((f x).bind _) = _
    rw [h x List.mem_cons_self, lcGo_all g fun y hy => h y (List.mem_cons_of_mem _ hy)]
    rfl
theorem lcGo_if {β γ : Type} {c : β → Option Bool} {f : β → Option γ} (p : β → Bool) (g : β → γ) : ∀ {xs : List β}, (∀ x ∈ xs, c x = some (p x)) → (∀ x ∈ xs, p x = true → f x = some (g x)) → lcGo c f xs = some ((xs.filter p).map g)
  | [], _, _ => rfl
  | x :: xs, hc, h => by
    unfold lcGo
    rw [hc x List.mem_cons_self]
    have ih := lcGo_if p g (xs := xs) (fun y hy => hc y (List.mem_cons_of_mem _ hy)) (fun y hy => h y (List.mem_cons_of_mem _ hy))
    cases e : p x with
    | true =>
      show ((f x).bind _) = _
      rw [h x List.mem_cons_self e, ih, List.filter_cons_of_pos e]
      rfl
    | false =>
      show lcGo c f xs = _
      rw [ih, List.filter_cons_of_neg (by rw [e]; exact Bool.false_ne_true)]
theorem lcM_all {β γ : Type} {f : β → Option γ} (g : β → γ) {xs : List β} (hl : xs.length < 1000000) (h : ∀ x ∈ xs, f x = some (g x)) : lcM (fun _ => some true) f xs = some (xs.map g) := by
  rw [lcM_len hl, lcGo_all g h]
/-- draws, one an item -/
theorem lcSGo_inv {β γ Sx : Type} {f : β → Sx → Option (γ × Sx)} (I : Sx → Prop) (P : γ → Prop) (step : ∀ x s, I s → ∃ z s', f x s = some (z, s') ∧ I s' ∧ P z) :
    ∀ {xs : List β} {s : Sx}, I s → ∃ zs s', lcSGo f xs s = some (zs, s') ∧ I s' ∧ zs.length = xs.length ∧ ∀ z ∈ zs, P z
  | [], s, h => ⟨[], s, rfl, h, rfl, fun _ hz => nomatch hz⟩
  | x :: xs, s, h => by
    obtain ⟨z, s', e, h', hp⟩ := step x s h
    obtain ⟨zs, s2, e2, h2, hl, hz⟩ := lcSGo_inv I P step (xs := xs) h'
    refine ⟨z :: zs, s2, ?_, h2, by rw [List.length_cons, List.length_cons, hl], fun y hy => ?_⟩
    · unfold lcSGo
      rw [e]
      show ((lcSGo f xs s').bind _) = _
      rw [e2]
      rfl
    · rcases List.mem_cons.mp hy with rfl | hy
      · exact hp
      · exact hz y hy
theorem lcS_inv {β γ Sx : Type} {f : β → Sx → Option (γ × Sx)} (I : Sx → Prop) (P : γ → Prop) (step : ∀ x s, I s → ∃ z s', f x s = some (z, s') ∧ I s' ∧ P z) {xs : List β} {s : Sx} (hl : xs.length < 1000000) (h : I s) :
    ∃ zs s', lcS f xs s = some (zs, s') ∧ I s' ∧ zs.length = xs.length ∧ ∀ z ∈ zs, P z := by
  unfold lcS
  rw [if_pos hl]
  exact lcSGo_inv I P step h
theorem forS_app {β γ : Type} {f : β → List γ → Option (List γ)} (g : β → γ) : ∀ {xs : List β} {s : List γ}, s.length + xs.length ≤ 1000000 → (∀ x ∈ xs, ∀ s : List γ, s.length < 1000000 → f x s = some (s ++ [g x])) → forS f xs s = some (s ++ xs.map g)
  | [], s, _, _ => by rw [List.map_nil, List.append_nil]; rfl
  | x :: xs, s, hl, h => by
    rw [List.length_cons] at hl
    rw [forS_cons (h x List.mem_cons_self s (by omega)), forS_app g (by rw [List.length_append, List.length_singleton]; omega) fun y hy => h y (List.mem_cons_of_mem _ hy), List.map_cons, List.append_assoc]
    rfl
theorem enumI_mem {α : Type} [Rp α] {xs : List α} {y : Int × α × Unit} (h : y ∈ enumI xs) : ∃ (i : Nat) (x : α), xs[i]? = some x ∧ y = ((i : Int), x, ()) := by
  obtain ⟨i, hi⟩ := List.getElem?_of_mem h
  obtain ⟨x, hx, e⟩ := enum_get hi
  exact ⟨i, x, hx, e⟩
theorem zipI_mem {α β : Type} [Rp α] [Rp β] {xs : List α} {ys : List β} {z : α × β × Unit} (h : z ∈ zipI xs ys) : ∃ (i : Nat) (x : α) (y : β), xs[i]? = some x ∧ ys[i]? = some y ∧ z = (x, y, ()) := by
  obtain ⟨i, hi⟩ := List.getElem?_of_mem h
  obtain ⟨x, y, hx, hy, e⟩ := zip_get hi
  exact ⟨i, x, y, hx, hy, e⟩
/-! texts -/
theorem len_app (x y : Str) : (x ++ y).length = x.length + y.length := by
  show (x.cps ++ y.cps).size = _
  rw [Array.size_append]
  rfl
theorem ok_app {x y : Str} (hx : PyData.strOk x = true) (hy : PyData.strOk y = true) : PyData.strOk (x ++ y) = true := by
  show (x.cps ++ y.cps).all _ = true
  rw [Array.all_append]
  exact Bool.and_eq_true_iff.mpr ⟨hx, hy⟩
theorem ok_join {s : Str} (hs : PyData.strOk s = true) : ∀ {ys : List Str}, (∀ y ∈ ys, PyData.strOk y = true) → PyData.strOk (Str.join s ys) = true
  | [], _ => by
    unfold Str.join
    decide +kernel
  | [x], h => h x List.mem_cons_self
  | x :: y :: r, h => ok_app (ok_app (h x List.mem_cons_self) hs) (ok_join hs fun z hz => h z (List.mem_cons_of_mem _ hz))
theorem joinO_ok {s : Str} {ys : List Str} (h : (ys.map (·.length)).sum + ys.length * s.length ≤ 1000000) : joinO s ys = some (Str.join s ys) := by
  unfold joinO
  rw [if_pos h, TL.join_eq]
/-- a sign of a written text -/
theorem ixS_ok {s : Str} {i : Int} (hl : s.length ≤ 100000) (h0 : 0 ≤ i) (h : i < (s.length : Int)) (hs : PyData.strOk s = true) : ∃ c, ixS s i = some ⟨#[c]⟩ ∧ PyData.strOk ⟨#[c]⟩ = true ∧ (⟨#[c]⟩ : Str).length = 1 := by
  have hl2 : s.cps.toList.length = s.length := Array.length_toList
  obtain ⟨c, e, e2⟩ := atI_some (xs := s.cps.toList) h0 (by rw [hl2]; exact h)
  refine ⟨c, ?_, ?_, rfl⟩
  · unfold ixS
    rw [if_pos hl, e]
    rfl
  · have hm : c ∈ s.cps := Array.mem_toList_iff.mp (List.mem_of_getElem? e2)
    have := Array.all_eq_true'.mp hs c hm
    show (#[c] : Array Nat).all _ = true
    simpa using this
/-! dicts, and more -/
theorem cut_init {α : Type} (xs : List α) : cut xs none (some (-(1 : Int))) = xs.dropLast := by
  unfold cut
  rw [HT.sIx_none, List.drop_zero, Nat.sub_zero, List.dropLast_eq_take]
  have e : HT.sIx xs.length xs.length (some (-(1 : Int))) = (-(1 : Int) + (xs.length : Int)).toNat := rfl
  rw [e]
  congr 1
  omega
theorem mem_irange {x a b : Int} : x ∈ irange a b ↔ a ≤ x ∧ x < b := by
  unfold irange
  rw [List.mem_map]
  constructor
  · rintro ⟨k, hk, rfl⟩
    rw [List.mem_range] at hk
    omega
  · intro h
    exact ⟨(x - a).toNat, List.mem_range.mpr (by omega), by omega⟩
section
variable {κ β : Type} [DecidableEq κ]
theorem getD_pos {p : κ × β} {r : List (κ × β)} {k : κ} (e : p.1 = k) : getD (p :: r) k = some p.2 := by simp [getD, List.find?_cons, e]
theorem getD_neg {p : κ × β} {r : List (κ × β)} {k : κ} (e : ¬ p.1 = k) : getD (p :: r) k = getD r k := by simp [getD, List.find?_cons, e]
theorem getD_map (k j : κ) (y : β) : ∀ kvs : List (κ × β), getD (kvs.map fun kv => if kv.1 = k then (kv.1, y) else kv) j = (getD kvs j).map fun x => if j = k then y else x
  | [] => rfl
  | p :: r => by
    rw [List.map_cons]
    have ih := getD_map k j y r
    by_cases a : p.1 = k
    · rw [if_pos a]
      by_cases b : p.1 = j
      · rw [getD_pos (p := (p.1, y)) b, getD_pos b, Option.map_some, if_pos (b.symm.trans a)]
      · rw [getD_neg (p := (p.1, y)) b, getD_neg b, ih]
    · rw [if_neg a]
      by_cases b : p.1 = j
      · rw [getD_pos b, getD_pos b, Option.map_some, if_neg (fun z => a (b.trans z))]
      · rw [getD_neg b, getD_neg b, ih]
theorem getD_snoc (k j : κ) (y : β) : ∀ kvs : List (κ × β), getD kvs k = none → getD (kvs ++ [(k, y)]) j = if j = k then some y else getD kvs j
  | [], _ => by
    by_cases e : k = j
    · rw [List.nil_append, getD_pos (p := (k, y)) e, if_pos e.symm]
    · rw [List.nil_append, getD_neg (p := (k, y)) e, if_neg (Ne.symm e)]
  | p :: r, h => by
    have hk : ¬ p.1 = k := fun e => by rw [getD_pos e] at h; cases h
    rw [getD_neg hk] at h
    have ih := getD_snoc k j y r h
    rw [List.cons_append]
    by_cases e : p.1 = j
    · rw [getD_pos e, getD_pos e, if_neg (fun z => hk (e.trans z))]
    · rw [getD_neg e, getD_neg e, ih]
theorem getD_put (kvs : List (κ × β)) (k j : κ) (y : β) : getD (putD kvs k y) j = if j = k then some y else getD kvs j := by
  unfold putD
  by_cases a : (getD kvs k).isSome = true
  · rw [if_pos a, getD_map]
    by_cases e : j = k
    · obtain ⟨x, hx⟩ := Option.isSome_iff_exists.mp a
      rw [if_pos e, e, hx, Option.map_some, if_pos rfl]
    · rw [if_neg e]
      cases getD kvs j with
      | none => rfl
      | some x => rw [Option.map_some, if_neg e]
  · rw [if_neg a]
    refine getD_snoc k j y kvs ?_
    cases q : getD kvs k with
    | none => rfl
    | some x => rw [q] at a; exact (a rfl).elim
theorem len_put (kvs : List (κ × β)) (k : κ) (y : β) : (putD kvs k y).length ≤ kvs.length + 1 := by
  unfold putD
  split
  · rw [List.length_map]; omega
  · rw [List.length_append, List.length_cons, List.length_nil]; omega
theorem putO_ok {d : Dc κ β} {k : κ} {y : β} (h : d.l.length < 1000000) : putO d k y = some ⟨putD d.l k y⟩ := if_pos h
end
theorem forC_any {β R : Type} {f : β → Unit → Option (Ctl Unit R)} {r : R} (p : β → Bool) : ∀ {xs : List β}, (∀ x ∈ xs, f x () = some (if p x = true then .rt r else .nx ())) → forC f xs () = some (if xs.any p = true then .rt r else .nx ())
  | [], _ => rfl
  | x :: xs, h => by
    have hx := h x List.mem_cons_self
    cases e : p x with
    | true =>
      rw [e] at hx
      show ((f x ()).bind _) = _
      rw [hx, List.any_cons, e]
      rfl
    | false =>
      rw [e] at hx
      rw [forC_cons (s' := ()) hx, forC_any p fun y hy => h y (List.mem_cons_of_mem _ hy), List.any_cons, e]
      rfl
end Wk
/-! k05: the plain law -/
namespace Wk05
open PySem L2 Wk
/-! deal: what is dealt by weights -/
def Sm {α : Type} (f : α → Int) (xs : List α) : Int := (xs.map f).sum
section
variable {α : Type} {f g : α → Int} {xs ys : List α}
theorem Sm_cons {x : α} : Sm f (x :: xs) = f x + Sm f xs := by unfold Sm; rw [List.map_cons, List.sum_cons]
theorem Sm_nil : Sm f ([] : List α) = 0 := rfl
theorem Sm_app : Sm f (xs ++ ys) = Sm f xs + Sm f ys := by unfold Sm; rw [List.map_append, List.sum_append]
theorem Sm_add : Sm (fun x => f x + g x) xs = Sm f xs + Sm g xs := by
  induction xs with
  | nil => rfl
  | cons x xs ih => rw [Sm_cons, Sm_cons, Sm_cons, ih]; omega
theorem Sm_mul (c : Int) : Sm (fun x => c * f x) xs = c * Sm f xs := by
  induction xs with
  | nil => rw [Sm_nil, Sm_nil, Int.mul_zero]
  | cons x xs ih => rw [Sm_cons, Sm_cons, ih, Int.mul_add]
theorem Sm_congr (h : ∀ x ∈ xs, f x = g x) : Sm f xs = Sm g xs := by unfold Sm; rw [List.map_congr_left h]
theorem Sm_le (h : ∀ x ∈ xs, f x ≤ g x) : Sm f xs ≤ Sm g xs := by
  induction xs with
  | nil => exact Int.le_refl _
  | cons x xs ih =>
    have h1 := h x List.mem_cons_self
    have h2 := ih fun y hy => h y (List.mem_cons_of_mem _ hy)
    rw [Sm_cons, Sm_cons]
    omega
theorem Sm_const (c : Int) : Sm (fun _ => c) xs = (xs.length : Int) * c := by
  induction xs with
  | nil => rw [Sm_nil, List.length_nil, Int.natCast_zero, Int.zero_mul]
  | cons x xs ih => rw [Sm_cons, ih, List.length_cons, Int.natCast_add, Int.add_mul, Int.natCast_one, Int.one_mul]; omega
theorem Sm_perm (p : xs.Perm ys) : Sm f xs = Sm f ys := by
  induction p with
  | nil => rfl
  | cons x _ ih => rw [Sm_cons, Sm_cons, ih]
  | swap x y l => rw [Sm_cons, Sm_cons, Sm_cons, Sm_cons]; omega
  | trans _ _ h1 h2 => rw [h1, h2]
theorem Sm_nn (h : ∀ x ∈ xs, 0 ≤ f x) : 0 ≤ Sm f xs := by
  have := Sm_le (f := fun _ => 0) h
  rw [Sm_const, Int.mul_zero] at this
  exact this
theorem Sm_one (h : ∀ y ∈ xs, 0 ≤ f y) {x : α} (hx : x ∈ xs) : f x ≤ Sm f xs := by
  induction xs with
  | nil => cases hx
  | cons y ys ih =>
    rw [Sm_cons]
    have h1 := h y List.mem_cons_self
    have h2 := Sm_nn fun z hz => h z (List.mem_cons_of_mem _ hz)
    rcases List.mem_cons.mp hx with rfl | hx
    · omega
    · have := ih (fun z hz => h z (List.mem_cons_of_mem _ hz)) hx
      omega
end
theorem getD_none {β : Type} {l : List (Str × β)} {x : Str} (h : ∀ kv ∈ l, kv.1 ≠ x) : getD l x = none := by
  unfold getD
  rw [List.find?_eq_none.mpr (fun kv hkv => by simpa using h kv hkv)]
  rfl
theorem put_new {β : Type} {l : List (Str × β)} {x : Str} (y : β) (h : ∀ kv ∈ l, kv.1 ≠ x) : putD l x y = l ++ [(x, y)] := by
  unfold putD
  rw [getD_none h]
  rfl
theorem getD_zip {β : Type} (g : Str → β) : ∀ {xs : List Str}, ∀ {x : Str}, x ∈ xs → getD (xs.map fun z => (z, g z)) x = some (g x)
  | y :: ys, x, h => by
    rw [List.map_cons]
    by_cases e : y = x
    · rw [getD_pos (p := (y, g y)) e, e]
    · rw [getD_neg (p := (y, g y)) e]
      exact getD_zip g ((List.mem_cons.mp h).resolve_left (fun z => e z.symm))
theorem getD_mem {β : Type} : ∀ {l : List (Str × β)}, (l.map (·.1)).Nodup → ∀ {kv : Str × β}, kv ∈ l → getD l kv.1 = some kv.2
  | p :: r, nd, kv, h => by
    rw [List.map_cons, List.nodup_cons] at nd
    rcases List.mem_cons.mp h with rfl | h
    · exact getD_pos rfl
    · rw [getD_neg (fun e => nd.1 (e ▸ List.mem_map.mpr ⟨kv, h, rfl⟩))]
      exact getD_mem nd.2 h
/-- the weight by a name -/
def wt (w : Dc Str Int) (z : Str) : Int := (Wk.getD w.l z).getD 0
def tot (w : Dc Str Int) : Int := (w.l.map (·.2)).sum
theorem wt_get {w : Dc Str Int} (nd : (w.l.map (·.1)).Nodup) {z : Str} (h : z ∈ w.l.map (·.1)) : Wk.getD w.l z = some (wt w z) ∧ (z, wt w z) ∈ w.l := by
  obtain ⟨kv, hk, rfl⟩ := List.mem_map.mp h
  have e := getD_mem nd hk
  unfold wt
  rw [e]
  exact ⟨rfl, hk⟩
theorem wt_sum {w : Dc Str Int} (nd : (w.l.map (·.1)).Nodup) : Sm (wt w) (w.l.map (·.1)) = tot w := by
  unfold Sm tot
  rw [List.map_map]
  congr 1
  refine List.map_congr_left fun kv hk => ?_
  show wt w kv.1 = kv.2
  unfold wt
  rw [getD_mem nd hk]
  rfl
/-- the whole part, the rest, the row of rests -/
def prt (room : Int) (w : Dc Str Int) (z : Str) : Int := room * wt w z / tot w
def rst (room : Int) (w : Dc Str Int) (z : Str) : Int := room * wt w z % tot w
def rrow (room : Int) (w : Dc Str Int) (z : Str) : Int × Str × Unit := (-rst room w z, z, ())
/-- what is dealt, ch those with one more -/
def dlt (room : Int) (w : Dc Str Int) (ch : List Str) : Dc Str Int := ⟨(srtD (w.l.map (·.1))).map fun z => (z, prt room w z + if z ∈ ch then 1 else 0)⟩
structure Dealt (room : Int) (w : Dc Str Int) (ch un : List Str) : Prop where
  perm : (ch ++ un).Perm (w.l.map (·.1))
  len : (ch.length : Int) = room - Sm (prt room w) (w.l.map (·.1))
  ord : ∀ a ∈ ch, ∀ b ∈ un, leD (rrow room w a) (rrow room w b) = true
theorem rst_of {room : Int} {w : Dc Str Int} (tp : 0 < tot w) (z : Str) : 0 ≤ rst room w z ∧ rst room w z < tot w ∧ room * wt w z = tot w * prt room w z + rst room w z := by
  unfold rst prt
  exact ⟨Int.emod_nonneg _ (by omega), Int.emod_lt_of_pos _ tp, (Int.mul_ediv_add_emod _ _).symm⟩
theorem rests_sum {room : Int} {w : Dc Str Int} (tp : 0 < tot w) (nd : (w.l.map (·.1)).Nodup) : Sm (rst room w) (w.l.map (·.1)) = tot w * (room - Sm (prt room w) (w.l.map (·.1))) := by
  have h1 : Sm (fun z => room * wt w z) (w.l.map (·.1)) = room * tot w := by rw [Sm_mul, wt_sum nd]
  have h2 : Sm (fun z => room * wt w z) (w.l.map (·.1)) = Sm (fun z => tot w * prt room w z + rst room w z) (w.l.map (·.1)) := Sm_congr fun z _ => (rst_of tp z).2.2
  rw [h1, Sm_add, Sm_mul] at h2
  rw [Int.mul_sub, Int.mul_comm (tot w) room]
  omega
theorem take_nodup {xs : List Str} (nd : xs.Nodup) {i : Nat} (hi : i < xs.length) : xs[i] ∉ xs.take i := fun h => by
  obtain ⟨j, hj⟩ := List.getElem?_of_mem h
  have hj1 := (List.getElem?_eq_some_iff.mp hj).1
  rw [List.length_take] at hj1
  rw [List.getElem?_take_of_lt (by omega)] at hj
  have := (List.getElem?_inj (by omega) nd).mp (hj.trans (List.getElem?_eq_getElem hi).symm)
  omega
theorem deal_ok {room : Int} {w : Dc Str Int} (r0 : -18446744073709551616 < room) (r1 : room < 18446744073709551616) (nd : (w.l.map (·.1)).Nodup) (l64 : w.l.length < 64) (tp : 0 < tot w) (t1 : tot w < 1073741824) :
    ∃ ch un, Dealt room w ch un ∧ m_deal room w = some (dlt room w ch) := by
  generalize hns : srtD (w.l.map (·.1)) = ns
  have pns : ns.Perm (w.l.map (·.1)) := hns ▸ srtD_perm _
  have ndn : ns.Nodup := pns.nodup_iff.mpr nd
  have ln : ns.length = w.l.length := by rw [pns.length_eq, List.length_map]
  have hget : ∀ z ∈ ns, Wk.getD w.l z = some (wt w z) := fun z hz => (wt_get nd (pns.mem_iff.mp hz)).1
  generalize hL : srtD (ns.map (rrow room w)) = L
  have pL : L.Perm (ns.map (rrow room w)) := hL ▸ srtD_perm _
  have pwL : L.Pairwise (fun a b => leD a b = true) := hL ▸ srtD_pw _
  have lL : L.length = ns.length := by rw [pL.length_eq, List.length_map]
  have hrow : ∀ e ∈ L, e = rrow room w e.2.1 ∧ e.2.1 ∈ ns := fun e he => by
    obtain ⟨z, hz, rfl⟩ := List.mem_map.mp (pL.mem_iff.mp he)
    exact ⟨rfl, hz⟩
  have pN : (L.map (·.2.1)).Perm ns := by
    have := pL.map (·.2.1)
    rw [List.map_map] at this
    have e : (fun z : Str => (rrow room w z).2.1) = id := rfl
    rw [show ((fun x : Int × Str × Unit => x.2.1) ∘ rrow room w) = id from rfl, List.map_id] at this
    exact this
  have ndN : (L.map (·.2.1)).Nodup := pN.nodup_iff.mpr ndn
  have hs := rests_sum (room := room) tp nd
  generalize hleft : room - Sm (prt room w) (w.l.map (·.1)) = left at hs
  have hle : Sm (rst room w) (w.l.map (·.1)) ≤ (w.l.length : Int) * (tot w - 1) := by
    have := Sm_le (f := rst room w) (g := fun _ => tot w - 1) (xs := w.l.map (·.1)) fun z _ => by have := (rst_of (room := room) tp z).2.1; omega
    rw [Sm_const, List.length_map] at this
    exact this
  have hge : 0 ≤ Sm (rst room w) (w.l.map (·.1)) := Sm_nn fun z _ => (rst_of tp z).1
  have left0 : 0 ≤ left := by
    refine Int.not_lt.mp fun h => ?_
    have : tot w * left < 0 := Int.mul_neg_of_pos_of_neg tp h
    omega
  have left1 : left ≤ (w.l.length : Int) := by
    refine Int.not_lt.mp fun h => ?_
    have h1 : tot w * ((w.l.length : Int) + 1) ≤ tot w * left := Int.mul_le_mul_of_nonneg_left (by omega) (by omega)
    have h2 : (w.l.length : Int) * (tot w - 1) = tot w * (w.l.length : Int) - (w.l.length : Int) := by rw [Int.mul_sub, Int.mul_one, Int.mul_comm]
    rw [Int.mul_add, Int.mul_one] at h1
    omega
  obtain ⟨m, rfl⟩ := Int.eq_ofNat_of_zero_le left0
  have lm : m ≤ L.length := by omega
  refine ⟨(L.take m).map (·.2.1), (L.drop m).map (·.2.1), ⟨?_, ?_, ?_⟩, ?_⟩
  · rw [← List.map_append, List.take_append_drop]
    exact pN.trans pns
  · rw [List.length_map, List.length_take, hleft, Nat.min_eq_left lm]
  · intro a ha b hb
    obtain ⟨x, hx, rfl⟩ := List.mem_map.mp ha
    obtain ⟨y, hy, rfl⟩ := List.mem_map.mp hb
    rw [← (hrow x (List.mem_of_mem_take hx)).1, ← (hrow y (List.mem_of_mem_drop hy)).1]
    rw [← List.take_append_drop m L, List.pairwise_append] at pwL
    exact pwL.2.2 x hx y hy
  · unfold m_deal
    simp only [bs]
    have esk : skO w = some ns := by
      unfold skO
      rw [if_pos l64, hns]
    rw [esk]
    simp only [bs]
    have e1 : forS (m_deal_L1 room w (w.l.map (·.2)).sum) ns ([], Dc.mk []) = some (ns.map (rrow room w), ⟨ns.map fun z => (z, prt room w z)⟩) := by
      obtain ⟨⟨rs, d⟩, e, h2, h3⟩ := forS_ix (f := m_deal_L1 room w (w.l.map (·.2)).sum) (xs := ns) (fun i (st : List (Int × Str × Unit) × Dc Str Int) => st.1 = (ns.take i).map (rrow room w) ∧ st.2.l = (ns.take i).map (fun z => (z, prt room w z))) (s := ([], Dc.mk [])) ⟨rfl, rfl⟩ (fun i hi st hst => by
        obtain ⟨rs, ⟨l⟩⟩ := st
        obtain ⟨h2, h3⟩ := hst
        simp only at h2 h3
        subst h2 h3
        have hx : ns[i]? = some ns[i] := List.getElem?_eq_getElem hi
        have hni := take_nodup ndn hi
        generalize ns[i] = x at hx hni
        have hg := hget x (List.mem_of_getElem? hx)
        have hnew : ∀ kv ∈ (ns.take i).map (fun z => (z, prt room w z)), kv.1 ≠ x := by
          intro kv hkv
          obtain ⟨z, hz, rfl⟩ := List.mem_map.mp hkv
          intro ez
          have ez : z = x := ez
          subst ez
          exact hni hz
        refine ⟨((ns.take (i + 1)).map (rrow room w), ⟨(ns.take (i + 1)).map fun z => (z, prt room w z)⟩), ?_, rfl, rfl⟩
        unfold m_deal_L1
        simp only [hg, bs]
        rw [mulO_ok r0 r1]
        simp only [bs]
        have edm : dmO (room * wt w x) (w.l.map (·.2)).sum = some (prt room w x, rst room w x, ()) := by
          unfold dmO
          exact if_pos ⟨tp, t1⟩
        rw [edm]
        simp only [bs]
        rw [putO_ok (by rw [List.length_map, List.length_take]; omega), put_new _ hnew]
        simp only [bs]
        rw [appO_ok (by rw [List.length_map, List.length_take]; omega), bs, List.take_succ, hx, List.map_append, List.map_append]
        rfl)
      rw [e]
      rw [List.take_length] at h2 h3
      obtain ⟨l⟩ := d
      simp only at h2 h3
      rw [h2, h3]
    rw [e1]
    simp only [bs]
    have es : ((ns.map fun z => (z, prt room w z)).map (·.2)).sum = Sm (prt room w) (w.l.map (·.1)) := by
      rw [List.map_map]
      exact Sm_perm (f := prt room w) pns
    rw [es, hleft]
    have e2 : srtDO (ns.map (rrow room w)) = some L := by
      unfold srtDO
      rw [if_pos ⟨by rw [List.length_map]; omega, by decide⟩, hL]
    rw [e2]
    simp only [bs]
    rw [cut_to]
    obtain ⟨⟨l⟩, e3, h3⟩ := forS_ix (f := m_deal_L2) (xs := L.take m) (fun i (d : Dc Str Int) => d.l = ns.map fun z => (z, prt room w z + if z ∈ ((L.take i).map (·.2.1)) then 1 else 0)) (s := ⟨ns.map fun z => (z, prt room w z)⟩) (by
      show ns.map _ = ns.map _
      refine List.map_congr_left fun z _ => ?_
      rw [List.take_zero, List.map_nil, if_neg List.not_mem_nil, Int.add_zero]) (fun i hi d hd => by
      rw [List.length_take] at hi
      have hi2 : i < L.length := by omega
      rw [List.getElem_take]
      have hx : L[i]? = some L[i] := List.getElem?_eq_getElem hi2
      have hm := (hrow L[i] (List.getElem_mem hi2)).2
      have hni := take_nodup ndN (i := i) (by rw [List.length_map]; exact hi2)
      rw [List.getElem_map, ← List.map_take] at hni
      generalize L[i] = x at hx hm hni
      obtain ⟨a, nm, u⟩ := x
      obtain ⟨l⟩ := d
      simp only at hd
      subst hd
      refine ⟨⟨ns.map fun z => (z, prt room w z + if z ∈ ((L.take (i + 1)).map (·.2.1)) then 1 else 0)⟩, ?_, rfl⟩
      unfold m_deal_L2
      have hy := getD_zip (fun z => prt room w z + if z ∈ ((L.take i).map (·.2.1)) then 1 else 0) hm
      simp only [hy, bs]
      rw [putO_ok (by rw [List.length_map]; omega)]
      unfold putD
      rw [hy, if_pos (show (some _).isSome = true from rfl), List.map_map, bs]
      congr 2
      refine List.map_congr_left fun z hz => ?_
      show (if z = nm then (z, prt room w nm + (if nm ∈ (L.take i).map (·.2.1) then 1 else 0) + 1) else (z, prt room w z + if z ∈ (L.take i).map (·.2.1) then 1 else 0)) = _
      rw [List.take_succ, hx, List.map_append]
      by_cases e : z = nm
      · subst e
        have hmem : z ∈ (L.take i).map (·.2.1) ++ (some (a, z, u)).toList.map (·.2.1) := List.mem_append.mpr (.inr (List.mem_singleton.mpr rfl))
        rw [if_pos rfl, if_neg hni, if_pos hmem, Int.add_zero]
      · rw [if_neg e]
        congr 2
        simp [e])
    rw [e3, bs]
    rw [List.length_take, Nat.min_eq_left lm] at h3
    have h3 : l = _ := h3
    unfold dlt
    rw [h3, hns]
/-- the ones with one more have a rest -/
theorem Dealt.pos {room : Int} {w : Dc Str Int} {ch un : List Str} (h : Dealt room w ch un) (tp : 0 < tot w) (nd : (w.l.map (·.1)).Nodup) {a : Str} (ha : a ∈ ch) : 0 < rst room w a := by
  have ra := rst_of (room := room) tp a
  refine Int.not_le.mp fun hn => ?_
  have a0 : rst room w a = 0 := by omega
  have h0 : ∀ b ∈ un, rst room w b = 0 := fun b hb => by
    have ho := h.ord a ha b hb
    have rb := rst_of (room := room) tp b
    have hle : -rst room w a ≤ -rst room w b := by
      refine Int.not_lt.mp fun hlt => ?_
      have ho : (!PySem.W.dataLt (.tuple [.int (-rst room w b), .str b]) (.tuple [.int (-rst room w a), .str a])) = true := ho
      rw [PySem.W.dataLt_pair rfl rfl] at ho
      have e : ¬ PyData.eqv (.int (-rst room w b)) (.int (-rst room w a)) = true := by
        simp [PyData.eqv]
        omega
      rw [if_neg e, PySem.W.dataLt_int, decide_eq_true hlt] at ho
      cases ho
    omega
  have hs := rests_sum (room := room) tp nd
  rw [← h.len, ← Sm_perm h.perm, Sm_app, Sm_congr (f := rst room w) (g := fun _ => 0) (xs := un) h0, Sm_const, Int.mul_zero, Int.add_zero] at hs
  have key : ∀ xs : List Str, a ∈ xs → Sm (rst room w) xs ≤ ((xs.length : Int) - 1) * (tot w) := by
    intro xs
    induction xs with
    | nil => exact fun h => nomatch h
    | cons y ys ih =>
      intro hm
      rw [Sm_cons, List.length_cons]
      have ry := rst_of (room := room) tp y
      rw [show (((ys.length + 1 : Nat) : Int) - 1) = (ys.length : Int) by omega]
      rcases List.mem_cons.mp hm with rfl | hm
      · have := Sm_le (f := rst room w) (g := fun _ => tot w) (xs := ys) fun z _ => by have := (rst_of (room := room) tp z).2.1; omega
        rw [Sm_const] at this
        omega
      · have := ih hm
        rw [Int.sub_mul, Int.one_mul] at this
        omega
  have := key ch ha
  rw [Int.sub_mul, Int.one_mul, Int.mul_comm] at this
  omega
theorem Dealt.sum {room : Int} {w : Dc Str Int} {ch un : List Str} (h : Dealt room w ch un) (nd : (w.l.map (·.1)).Nodup) : Sm (fun z => prt room w z + if z ∈ ch then 1 else 0) (w.l.map (·.1)) = room := by
  have ndc : (ch ++ un).Nodup := h.perm.nodup_iff.mpr nd
  rw [Sm_add]
  have e : Sm (fun z => if z ∈ ch then (1 : Int) else 0) (w.l.map (·.1)) = (ch.length : Int) := by
    rw [← Sm_perm h.perm, Sm_app, Sm_congr (g := fun _ => 1) (xs := ch) (fun x hx => if_pos hx), Sm_congr (g := fun _ => 0) (xs := un) (fun x hx => if_neg fun hc => (List.nodup_append.mp ndc).2.2 x hc x hx rfl), Sm_const, Sm_const]
    omega
  rw [e, h.len]
  omega
theorem dlt_keys {room : Int} {w : Dc Str Int} {ch : List Str} : (dlt room w ch).l.map (·.1) = srtD (w.l.map (·.1)) := by
  unfold dlt
  rw [List.map_map]
  exact List.map_id _
theorem dlt_get {room : Int} {w : Dc Str Int} {ch : List Str} {z : Str} (h : z ∈ w.l.map (·.1)) : Wk.getD (dlt room w ch).l z = some (prt room w z + if z ∈ ch then 1 else 0) :=
  getD_zip (fun z => prt room w z + if z ∈ ch then 1 else 0) ((srtD_perm _).mem_iff.mpr h)
/-! names and draws of the laws on shares -/
theorem at_ok {ns : List Int} (k : Int) (h0 : 0 ≤ k) : ∃ c, m__law_at (Fz.mk ns) k = some c := by
  unfold m__law_at
  by_cases h : k < (ns.length : Int)
  · obtain ⟨x, e, _⟩ := atI_some (xs := ns) h0 h
    exact ⟨x, by rw [if_pos (decide_eq_true h), e]; rfl⟩
  · exact ⟨0, by rw [if_neg (by simpa using h)]⟩
theorem mixed_ok (c : Int) : ∃ r, m__law_mixed c = some r := by
  unfold m__law_mixed
  simp only [bs]
  rw [mulO_ok (by omega) (by omega)]
  exact ⟨_, rfl⟩
theorem draws_ok {ns : List Int} {first many base : Int} (f0 : 0 ≤ first) (h0 : 0 ≤ many) (hm : many ≤ 1000) (b0 : 0 < base) (b1 : base < 18446744073709551616) :
    ∃ f, m__law_draws (Fz.mk ns) first many base = some f ∧ f.length = many.toNat ∧ ∀ x ∈ f, 0 ≤ x ∧ x < base := by
  obtain ⟨c, ec⟩ := at_ok (ns := ns) first f0
  unfold m__law_draws
  simp only [bs, ec]
  obtain ⟨⟨n1, f1⟩, e1, ⟨i1, i2⟩, _⟩ := whileF_inv (c := m__law_draws_L1_c many base) (f := m__law_draws_L1 many base) (fun s => (s.2.length : Int) ≤ many ∧ ∀ x ∈ s.2, 0 ≤ x ∧ x < base) (fun s => many.toNat - s.2.length) (fun s hs => by
    obtain ⟨n, f⟩ := s
    obtain ⟨hs, hs2⟩ := hs
    have hs : (f.length : Int) ≤ many := hs
    refine ⟨_, rfl, fun hb => ?_⟩
    simp only [Bool.and_eq_true, decide_eq_true_eq] at hb
    refine ⟨(n / base, f ++ [n % base]), ?_, ⟨?_, fun x hx => ?_⟩, ?_⟩
    · unfold m__law_draws_L1
      simp only [modO_ok b0, appO_ok (show f.length < 1000000 by omega), divO_ok b0 b1, bs]
    · simp; omega
    · rcases List.mem_append.mp hx with hx | hx
      · exact hs2 x hx
      · rw [List.mem_singleton.mp hx]
        exact ⟨Int.emod_nonneg _ (by omega), Int.emod_lt_of_pos _ b0⟩
    · simp; omega) (s := (c, [])) ⟨by simpa using h0, fun x hx => nomatch hx⟩
  have i1 : (f1.length : Int) ≤ many := i1
  rw [e1]
  simp only [bs]
  rw [rngO_ok (by omega) (by omega) (by omega) (by omega)]
  simp only [bs]
  obtain ⟨f2, e2, h1, h2⟩ := forS_ix (f := m__law_draws_L2 (Fz.mk ns) first base) (xs := irange 0 (many - (f1.length : Int))) (fun i (f : List Int) => f.length = f1.length + i ∧ ∀ x ∈ f, 0 ≤ x ∧ x < base) (s := f1) ⟨rfl, i2⟩ (fun i hi f hf => by
    rw [irange_len] at hi
    have ei : (irange 0 (many - (f1.length : Int)))[i]'(by rw [irange_len]; exact hi) = (i : Int) := by simp [irange]
    rw [ei]
    obtain ⟨a, ea⟩ := at_ok (ns := ns) (first + 1 + (i : Int)) (by omega)
    obtain ⟨b, eb⟩ := mixed_ok (a + 97 * (i : Int) * (i : Int))
    obtain ⟨d, ed⟩ := mixed_ok (b + 7 * (i : Int) + 1)
    refine ⟨f ++ [(b * 1000000000039 + d) % base], ?_, by rw [List.length_append, hf.1]; simp; omega, fun x hx => ?_⟩
    · unfold m__law_draws_L2
      simp only [ea, bs]
      rw [mulO_ok (by omega) (by omega)]
      simp only [bs, eb, ed]
      rw [modO_ok b0]
      simp only [bs]
      rw [appO_ok (by omega)]
      rfl
    · rcases List.mem_append.mp hx with hx | hx
      · exact hf.2 x hx
      · rw [List.mem_singleton.mp hx]
        exact ⟨Int.emod_nonneg _ (by omega), Int.emod_lt_of_pos _ b0⟩)
  rw [e2, bs]
  rw [irange_len] at h1
  exact ⟨f2, rfl, by omega, h2⟩
def alpha : Str := "abcdefghijklmnopqrstuvwxyz"
theorem alpha_at : ∀ i : Fin 26, alpha.cps[i.val]? = some (97 + i.val) := by decide +kernel
theorem alpha_size : alpha.cps.size = 26 := by decide +kernel
theorem letter {i : Int} (h1 : 0 ≤ i) (h2 : i < 26) : ixS alpha i = some ⟨#[97 + i.toNat]⟩ := by
  have hl : alpha.length = 26 := alpha_size
  unfold ixS
  rw [if_pos (by rw [hl]; omega), atI_ok h1 (by rw [Array.length_toList, alpha_size]; omega)]
  have e : alpha.cps.toList[i.toNat]? = some (97 + i.toNat) := by
    rw [Array.getElem?_toList]
    exact alpha_at ⟨i.toNat, by omega⟩
  rw [e]
  rfl
theorem times_ok : ∀ (i : Fin 26) (n : Fin 4), PyData.strOk (Txt.mul ⟨#[97 + i.val]⟩ (n.val : Int)) = true ∧ (Txt.mul ⟨#[97 + i.val]⟩ (n.val : Int)).length ≤ 3 := by decide +kernel
theorem one_ok : ∀ (i : Fin 26), PyData.strOk ⟨#[97 + i.val]⟩ = true := by decide +kernel
structure Nm (c : Int) (j : Nat) (n : Str) : Prop where
  a : n.cps[0]? = some (97 + (((j : Int) + c) % 26).toNat)
  b : n.cps[1]? = some (97 + ((j : Int) / 26 + c / 26 % 20).toNat)
  ok : PyData.strOk n = true
theorem names_ok {many c : Int} (h0 : 0 ≤ many) (h1 : many ≤ 60) : ∃ ns, m__law_names many c = some ns ∧ ns.length = many.toNat ∧ ns.Nodup ∧ ∀ n ∈ ns, PyData.strOk n = true := by
  unfold m__law_names
  rw [rngO_ok (by omega) (by omega) (by omega) (by omega)]
  simp only [bs]
  obtain ⟨ns, e, h2, h3⟩ := forS_ix (f := m__law_names_L1 c "abcdefghijklmnopqrstuvwxyz") (xs := irange 0 many) (fun i (ns : List Str) => ns.length = i ∧ ∀ j n, ns[j]? = some n → Nm c j n) (s := []) ⟨rfl, fun j n h => by simp at h⟩ (fun i hi ns hn => by
    rw [irange_len] at hi
    have ei : (irange 0 many)[i]'(by rw [irange_len]; exact hi) = (i : Int) := by simp [irange]
    rw [ei]
    have l1 := letter (i := ((i : Int) + c) % 26) (by omega) (by omega)
    have l2 := letter (i := (i : Int) / 26 + c / 26 % 20) (by omega) (by omega)
    have l3 := letter (i := ((i : Int) * 7 + c) % 26) (by omega) (by omega)
    generalize hp : (((i : Int) + c) % 26).toNat = p at l1
    generalize hq : ((i : Int) / 26 + c / 26 % 20).toNat = q at l2
    generalize hr : (((i : Int) * 7 + c) % 26).toNat = r at l3
    have tm0 := times_ok ⟨r, by omega⟩ ⟨(1 + ((i : Int) + c) % 3).toNat, by omega⟩
    have o1 := one_ok ⟨p, by omega⟩
    have o2 := one_ok ⟨q, by omega⟩
    have tn : (((1 + ((i : Int) + c) % 3).toNat : Nat) : Int) = 1 + ((i : Int) + c) % 3 := by omega
    have tm : PyData.strOk (Txt.mul ⟨#[97 + r]⟩ (1 + ((i : Int) + c) % 3)) = true ∧ (Txt.mul ⟨#[97 + r]⟩ (1 + ((i : Int) + c) % 3)).length ≤ 3 := by
      rw [← tn]
      exact tm0
    clear tm0
    generalize hT : Txt.mul ⟨#[97 + r]⟩ (1 + ((i : Int) + c) % 3) = T at tm
    have a1 : addS (⟨#[97 + p]⟩ : Str) ⟨#[97 + q]⟩ = some (⟨#[97 + p]⟩ ++ ⟨#[97 + q]⟩) := if_pos (by show 1 + 1 ≤ 1000000; omega)
    have a2 : addS ((⟨#[97 + p]⟩ : Str) ++ ⟨#[97 + q]⟩) T = some (((⟨#[97 + p]⟩ : Str) ++ ⟨#[97 + q]⟩) ++ T) := if_pos (by
      have := tm.2
      rw [len_app]
      show 1 + 1 + T.length ≤ 1000000
      omega)
    have m1 : mulS (⟨#[97 + r]⟩ : Str) (1 + ((i : Int) + c) % 3) = some T := by
      unfold mulS
      rw [if_pos ⟨by show 1 ≤ 10000; omega, by omega, by omega⟩, hT]
    have l1 : ixS ("abcdefghijklmnopqrstuvwxyz" : Str) (((i : Int) + c) % 26) = _ := l1
    have l2 : ixS ("abcdefghijklmnopqrstuvwxyz" : Str) ((i : Int) / 26 + c / 26 % 20) = _ := l2
    have l3 : ixS ("abcdefghijklmnopqrstuvwxyz" : Str) (((i : Int) * 7 + c) % 26) = _ := l3
    refine ⟨ns ++ [((⟨#[97 + p]⟩ : Str) ++ ⟨#[97 + q]⟩) ++ T], ?_, by rw [List.length_append, hn.1]; rfl, fun j n hj => ?_⟩
    · unfold m__law_names_L1
      simp only [l1, l2, l3, a1, bs]
      rw [m1]
      simp only [bs, a2]
      rw [appO_ok (by omega)]
      rfl
    · by_cases hij : j < i
      · rw [List.getElem?_append_left (by omega)] at hj
        exact hn.2 j n hj
      · rw [List.getElem?_append_right (by omega)] at hj
        have : j = i := by
          cases q : j - ns.length with
          | zero => omega
          | succ k => rw [q] at hj; simp at hj
        subst this
        rw [hn.1, Nat.sub_self] at hj
        cases hj
        refine ⟨?_, ?_, ok_app (ok_app o1 o2) tm.1⟩
        · rw [hp]
          show ((#[97 + p] ++ #[97 + q]) ++ T.cps)[0]? = _
          rw [Array.getElem?_append_left (by simp)]
          rfl
        · rw [hq]
          show ((#[97 + p] ++ #[97 + q]) ++ T.cps)[1]? = _
          rw [Array.getElem?_append_left (by simp)]
          rfl)
  rw [e, bs]
  rw [irange_len, Int.sub_zero] at h2
  refine ⟨ns, rfl, h2, ?_, fun n hn => ?_⟩
  · show List.Pairwise (· ≠ ·) ns
    rw [List.pairwise_iff_getElem]
    intro i j hi hj hij heq
    have ea := h3 i ns[i] (List.getElem?_eq_getElem hi)
    have eb := h3 j ns[j] (List.getElem?_eq_getElem hj)
    rw [heq] at ea
    have q1 := ea.a.symm.trans eb.a
    have q2 := ea.b.symm.trans eb.b
    simp at q1 q2
    omega
  · obtain ⟨i, hi⟩ := List.getElem?_of_mem hn
    exact (h3 i n hi).ok
/-! pour: what is poured up to a level -/
theorem Sm_filter {α : Type} (g : α → Int) (p : α → Bool) : ∀ xs : List α, Sm g xs = Sm g (xs.filter p) + Sm g (xs.filter fun x => !p x)
  | [] => rfl
  | x :: xs => by
    rw [Sm_cons, Sm_filter g p xs]
    cases e : p x with
    | true =>
      rw [List.filter_cons_of_pos e, List.filter_cons_of_neg (by rw [e]; decide), Sm_cons]
      omega
    | false =>
      rw [List.filter_cons_of_neg (by rw [e]; decide), List.filter_cons_of_pos (by rw [e]; decide), Sm_cons]
      omega
theorem lcM_keep {α : Type} {c : α → Option Bool} {xs : List α} (p : α → Bool) (hl : xs.length < 1000000) (h : ∀ x ∈ xs, c x = some (p x)) : lcM c (fun x => some x) xs = some (xs.filter p) := by
  rw [lcM_len hl]
  have := lcGo_if (c := c) (f := fun x => some x) p (fun x => x) h (fun x _ _ => rfl)
  rw [List.map_id'] at this
  exact this
def mp (nm : List Str) (f : Str → Int) : Dc Str Int := ⟨nm.map fun z => (z, f z)⟩
theorem mp_keys (nm : List Str) (f : Str → Int) : (mp nm f).l.map (·.1) = nm := by
  unfold mp
  rw [List.map_map]
  exact List.map_id _
theorem mp_get {nm : List Str} {f : Str → Int} {z : Str} (h : z ∈ nm) : Wk.getD (mp nm f).l z = some (f z) := getD_zip f h
theorem mp_congr {nm : List Str} {f g : Str → Int} (h : ∀ z ∈ nm, f z = g z) : mp nm f = mp nm g := by
  unfold mp
  rw [List.map_congr_left fun z hz => by rw [h z hz]]
theorem mp_putD {nm : List Str} {f : Str → Int} {x : Str} (y : Int) (h : x ∈ nm) : putD (mp nm f).l x y = (mp nm fun z => if z = x then y else f z).l := by
  unfold putD
  rw [mp_get h, if_pos (show (some _).isSome = true from rfl)]
  unfold mp
  rw [List.map_map]
  refine List.map_congr_left fun z _ => ?_
  show (if z = x then (z, y) else (z, f z)) = (z, if z = x then y else f z)
  by_cases e : z = x
  · rw [if_pos e, if_pos e]
  · rw [if_neg e, if_neg e]
theorem mp_put {nm : List Str} {f : Str → Int} {x : Str} (y : Int) (h : x ∈ nm) (hl : nm.length < 1000000) : putO (mp nm f) x y = some (mp nm fun z => if z = x then y else f z) := by
  rw [putO_ok (by show (nm.map _).length < _; rw [List.length_map]; exact hl), mp_putD y h]
theorem mp_merge {nm : List Str} (g : Str → Int) : ∀ {xs : List Str} {f : Str → Int}, (∀ x ∈ xs, x ∈ nm) → mergeD (mp nm f).l (mp xs g).l = (mp nm fun z => if z ∈ xs then g z else f z).l
  | [], f, _ => by
    have e := mp_congr (nm := nm) (f := f) (g := fun z => if z ∈ ([] : List Str) then g z else f z) (fun z _ => by rw [if_neg List.not_mem_nil])
    exact congrArg Dc.l e
  | x :: xs, f, h => by
    show mergeD (putD (mp nm f).l x (g x)) (mp xs g).l = _
    rw [mp_putD _ (h x List.mem_cons_self), mp_merge g fun y hy => h y (List.mem_cons_of_mem _ hy)]
    rw [mp_congr fun z _ => ?_]
    by_cases e : z ∈ xs
    · rw [if_pos e, if_pos (List.mem_cons_of_mem _ e)]
    · rw [if_neg e]
      by_cases e2 : z = x
      · rw [if_pos e2, if_pos (by rw [e2]; exact List.mem_cons_self), e2]
      · rw [if_neg e2, if_neg fun hm => (List.mem_cons.mp hm).elim e2 e]
theorem zeros_ok {nm : List Str} (nd : nm.Nodup) (hl : nm.length < 1000) : forS m_pour_L1 nm (Dc.mk []) = some (mp nm fun _ => 0) := by
  obtain ⟨⟨l⟩, e, h⟩ := forS_ix (f := m_pour_L1) (xs := nm) (fun i (d : Dc Str Int) => d.l = (mp (nm.take i) fun _ => 0).l) (s := Dc.mk []) rfl (fun i hi d hd => by
    have hni := take_nodup nd hi
    have hx : nm[i]? = some nm[i] := List.getElem?_eq_getElem hi
    generalize nm[i] = x at hx hni
    obtain ⟨l⟩ := d
    simp only at hd
    subst hd
    refine ⟨mp (nm.take (i + 1)) fun _ => 0, ?_, rfl⟩
    unfold m_pour_L1
    rw [putO_ok (by show (List.map _ _).length < _; rw [List.length_map, List.length_take]; omega), put_new 0 (fun kv hk z => by
      obtain ⟨y, hy, rfl⟩ := List.mem_map.mp hk
      have z : y = x := z
      subst z
      exact hni hy)]
    unfold mp
    rw [bs, List.take_succ, hx, List.map_append]
    rfl)
  rw [e]
  rw [List.take_length] at h
  exact congrArg some (congrArg Dc.mk h)
section
variable {nm : List Str} {c w : Dc Str Int} (ck : ∀ z ∈ nm, Wk.getD c.l z = some (wt c z)) (hl : nm.length < 1000)
include ck hl
theorem caps2_ok : ∀ {xs : List Str} {f : Str → Int}, (∀ x ∈ xs, x ∈ nm) → forS (m_pour_L2 c) xs (mp nm f) = some (mp nm fun z => if z ∈ xs then wt c z else f z)
  | [], f, _ => by
    have e := mp_congr (nm := nm) (f := f) (g := fun z => if z ∈ ([] : List Str) then wt c z else f z) (fun z _ => by rw [if_neg List.not_mem_nil])
    exact congrArg some e
  | x :: xs, f, h => by
    rw [forS_cons (s' := mp nm fun z => if z = x then wt c x else f z), caps2_ok fun y hy => h y (List.mem_cons_of_mem _ hy)]
    · rw [mp_congr fun z _ => ?_]
      by_cases e : z ∈ xs
      · rw [if_pos e, if_pos (List.mem_cons_of_mem _ e)]
      · rw [if_neg e]
        by_cases e2 : z = x
        · rw [if_pos e2, if_pos (by rw [e2]; exact List.mem_cons_self), e2]
        · rw [if_neg e2, if_neg fun hm => (List.mem_cons.mp hm).elim e2 e]
    · unfold m_pour_L2
      rw [ck x (h x List.mem_cons_self), bs, mp_put _ (h x List.mem_cons_self) (by omega)]
      rfl
theorem caps4_ok : ∀ {xs : List Str} {f : Str → Int} {r : Int}, (∀ x ∈ xs, x ∈ nm) → forS (m_pour_L4 c) xs (r, mp nm f) = some (r - Sm (wt c) xs, mp nm fun z => if z ∈ xs then wt c z else f z)
  | [], f, r, _ => by
    show some (r, mp nm f) = _
    rw [mp_congr (g := fun z => if z ∈ [] then wt c z else f z) fun z _ => by rw [if_neg List.not_mem_nil], Sm_nil, Int.sub_zero]
  | x :: xs, f, r, h => by
    rw [forS_cons (s' := (r - wt c x, mp nm fun z => if z = x then wt c x else f z)), caps4_ok fun y hy => h y (List.mem_cons_of_mem _ hy)]
    · rw [Sm_cons, mp_congr (nm := nm) (g := fun z => if z ∈ x :: xs then wt c z else f z) fun z _ => ?_]
      · congr 2
        omega
      · by_cases e : z ∈ xs
        · rw [if_pos e, if_pos (List.mem_cons_of_mem _ e)]
        · rw [if_neg e]
          by_cases e2 : z = x
          · rw [if_pos e2, if_pos (by rw [e2]; exact List.mem_cons_self), e2]
          · rw [if_neg e2, if_neg fun hm => (List.mem_cons.mp hm).elim e2 e]
    · unfold m_pour_L4
      simp only [ck x (h x List.mem_cons_self), bs]
      rw [mp_put _ (h x List.mem_cons_self) (by omega)]
      rfl
end
theorem chosen_ok {nm S : List Str} {w : Dc Str Int} (wk : ∀ z ∈ nm, Wk.getD w.l z = some (wt w z)) (hS : ∀ z ∈ S, z ∈ nm) (nd : S.Nodup) (hl : S.length < 1000) : forS (m_pour_L5 w) S (Dc.mk []) = some (mp S (wt w)) := by
  obtain ⟨⟨l⟩, e, h⟩ := forS_ix (f := m_pour_L5 w) (xs := S) (fun i (d : Dc Str Int) => d.l = (mp (S.take i) (wt w)).l) (s := Dc.mk []) rfl (fun i hi d hd => by
    have hni := take_nodup nd hi
    have hx : S[i]? = some S[i] := List.getElem?_eq_getElem hi
    generalize S[i] = x at hx hni
    obtain ⟨l⟩ := d
    simp only at hd
    subst hd
    refine ⟨mp (S.take (i + 1)) (wt w), ?_, rfl⟩
    unfold m_pour_L5
    rw [wk x (hS x (List.mem_of_getElem? hx)), bs]
    rw [putO_ok (by show (List.map _ _).length < _; rw [List.length_map, List.length_take]; omega), put_new _ (fun kv hk z => by
      obtain ⟨y, hy, rfl⟩ := List.mem_map.mp hk
      have z : y = x := z
      subst z
      exact hni hy)]
    unfold mp
    rw [bs, List.take_succ, hx, List.map_append]
    rfl)
  rw [e]
  rw [List.take_length] at h
  exact congrArg some (congrArg Dc.mk h)
/-! the greatest common divisor, by rests -/
theorem gcd_loop {cc : Int × Int → Option Bool} {ff : Int × Int → Option (Int × Int)} (hc : ∀ a b, cc (a, b) = some (decide (0 < b))) (hf : ∀ a b, 0 < b → ff (a, b) = some (b, a % b)) {p q : Int} (p0 : 0 ≤ p) (q0 : 0 ≤ q) :
    whileF cc ff (p, q) = some ((Nat.gcd p.toNat q.toNat : Int), 0) := by
  obtain ⟨⟨a, b⟩, e, ⟨h1, h2, h3⟩, h4⟩ := whileF_inv (c := cc) (f := ff) (fun s => 0 ≤ s.1 ∧ 0 ≤ s.2 ∧ Nat.gcd s.1.toNat s.2.toNat = Nat.gcd p.toNat q.toNat) (fun s => s.2.toNat) (fun s hs => by
    obtain ⟨a, b⟩ := s
    obtain ⟨h1, h2, h3⟩ := hs
    have h1 : 0 ≤ a := h1
    have h2 : 0 ≤ b := h2
    have h3 : Nat.gcd a.toNat b.toNat = Nat.gcd p.toNat q.toNat := h3
    refine ⟨_, hc a b, fun hb => ?_⟩
    rw [decide_eq_true_eq] at hb
    have m0 := Int.emod_nonneg a (show b ≠ 0 by omega)
    have m1 := Int.emod_lt_of_pos a hb
    refine ⟨(b, a % b), hf a b hb, ⟨h2, m0, ?_⟩, by show (a % b).toNat < b.toNat; omega⟩
    show Nat.gcd b.toNat (a % b).toNat = _
    rw [← h3, Nat.gcd_comm a.toNat, Nat.gcd_rec b.toNat a.toNat, Nat.gcd_comm]
    congr 1
    rw [Int.toNat_emod h1 h2]) (s := (p, q)) ⟨p0, q0, rfl⟩
  rw [hc] at h4
  have h4 := Option.some.inj h4
  rw [decide_eq_false_iff_not] at h4
  have h1 : 0 ≤ a := h1
  have h2 : 0 ≤ b := h2
  have hb : b = 0 := by omega
  subst hb
  have h3 : Nat.gcd a.toNat (0 : Int).toNat = Nat.gcd p.toNat q.toNat := h3
  rw [show (0 : Int).toNat = 0 from rfl, Nat.gcd_zero_right] at h3
  rw [e, ← h3]
  congr 2
  omega
structure Low (p q a b : Int) : Prop where
  a0 : 0 ≤ a
  b0 : 0 < b
  a1 : a ≤ p
  b1 : b ≤ q
  x : a * q = p * b
  one : Nat.gcd a.toNat b.toNat = 1
theorem lowest_ok {p q : Int} (p0 : 0 ≤ p) (q0 : 0 < q) (q1 : q < 1000000000) : ∃ a b, m_lowest p q = some (a, b, ()) ∧ Low p q a b := by
  unfold m_lowest
  simp only [bs]
  rw [gcd_loop (fun a b => rfl) (fun a b hb => by
    unfold m_lowest_L1
    simp only [modO_ok hb, bs]) p0 (by omega)]
  simp only [bs]
  generalize hG : Nat.gcd p.toNat q.toNat = G
  have gp : 0 < G := by rw [← hG]; exact Nat.gcd_pos_of_pos_right _ (by omega)
  have d1 : G ∣ p.toNat := hG ▸ Nat.gcd_dvd_left _ _
  have d2 : G ∣ q.toNat := hG ▸ Nat.gcd_dvd_right _ _
  have gq : G ≤ q.toNat := Nat.le_of_dvd (by omega) d2
  rw [divO_ok (by omega) (by omega), divO_ok (by omega) (by omega)]
  simp only [bs]
  obtain ⟨a, ha⟩ := d1
  obtain ⟨b, hb⟩ := d2
  have ea : p = (G : Int) * (a : Int) := by
    rw [← Int.natCast_mul, ← ha]
    omega
  have eb : q = (G : Int) * (b : Int) := by
    rw [← Int.natCast_mul, ← hb]
    omega
  have hg0 : (G : Int) ≠ 0 := by omega
  refine ⟨_, _, rfl, ?_⟩
  rw [ea, eb, Int.mul_ediv_cancel_left _ hg0, Int.mul_ediv_cancel_left _ hg0]
  have g1 : (1 : Int) ≤ G := by omega
  have bp : 0 < b := by
    refine Nat.pos_of_ne_zero fun z => ?_
    rw [z, Nat.mul_zero] at hb
    omega
  have l1 : (a : Int) ≤ (G : Int) * (a : Int) := by
    have := Int.mul_le_mul_of_nonneg_right g1 (show (0 : Int) ≤ a by omega)
    omega
  have l2 : (b : Int) ≤ (G : Int) * (b : Int) := by
    have := Int.mul_le_mul_of_nonneg_right g1 (show (0 : Int) ≤ b by omega)
    omega
  refine ⟨by omega, by omega, l1, l2, ?_, ?_⟩
  · rw [← Int.mul_assoc, Int.mul_comm (a : Int) (G : Int)]
  · show Nat.gcd a b = 1
    have h : G * Nat.gcd a b = G * 1 := by
      rw [← Nat.gcd_mul_left, ← ha, ← hb, hG, Nat.mul_one]
    exact Nat.eq_of_mul_eq_mul_left gp h
structure PB (nm : List Str) (w c : Dc Str Int) : Prop where
  wk : w.l.map (·.1) = nm
  ck : c.l.map (·.1) = nm
  nd : nm.Nodup
  len : nm.length < 64
  w0 : ∀ z ∈ nm, 0 ≤ wt w z ∧ wt w z ≤ 99
  c0 : ∀ z ∈ nm, 0 ≤ wt c z ∧ wt c z ≤ 1000000
  ok : ∀ z ∈ nm, PyData.strOk z = true
theorem PB.gw {nm : List Str} {w c : Dc Str Int} (h : PB nm w c) {z : Str} (hz : z ∈ nm) : Wk.getD w.l z = some (wt w z) := (wt_get (h.wk ▸ h.nd) (by rw [h.wk]; exact hz)).1
theorem PB.gc {nm : List Str} {w c : Dc Str Int} (h : PB nm w c) {z : Str} (hz : z ∈ nm) : Wk.getD c.l z = some (wt c z) := (wt_get (h.ck ▸ h.nd) (by rw [h.ck]; exact hz)).1
theorem mono_mul {c w R R' T T' : Int} (hT : 0 < T) (hw : 0 ≤ w) (hT' : 0 ≤ T') (h1 : c * T ≤ R * w) (h2 : R * T' ≤ R' * T) : c * T' ≤ R' * w := by
  have a : c * T * T' ≤ R * w * T' := Int.mul_le_mul_of_nonneg_right h1 hT'
  have b : R * T' * w ≤ R' * T * w := Int.mul_le_mul_of_nonneg_right h2 hw
  rw [Int.mul_right_comm c T T', Int.mul_right_comm R w T'] at a
  rw [Int.mul_right_comm R' T w] at b
  exact Int.le_of_mul_le_mul_right (Int.le_trans a b) hT
structure Pi (w c : Dc Str Int) (still0 : List Str) (room R : Int) (S Fx full : List Str) (tot_ : Int) : Prop where
  perm : (S ++ Fx).Perm still0
  r : R = room - Sm (wt c) Fx
  r0 : 0 ≤ R
  lt : R < Sm (wt c) S
  k : (tot_ = 0 ∧ Fx = [] ∧ full = S.filter (fun z => decide (wt c z = 0))) ∨ (tot_ = Sm (wt w) S ∧ 0 < tot_ ∧ full = S.filter (fun z => decide (wt c z * tot_ ≤ R * wt w z)) ∧ ∀ z ∈ Fx, wt c z * tot_ ≤ R * wt w z)
def foundF (nm : List Str) (c : Dc Str Int) (Fx : List Str) : Dc Str Int := mp nm fun z => if z ∈ Fx then wt c z else 0
section
variable {nm still0 : List Str} {w c : Dc Str Int} {room : Int} (hb : PB nm w c) (hs : ∀ z ∈ still0, z ∈ nm ∧ 0 < wt w z) (hn : still0.Nodup) (hr : room ≤ 1000000000)
include hb hs hn hr
theorem loop_step {R tot_ : Int} {S Fx full : List Str} (h : Pi w c still0 room R S Fx full tot_) (hgo : full ≠ [] ∨ tot_ = 0) :
    ∃ R' S' Fx' full' tot', m_pour_L3 w c (R, S, full, tot_, foundF nm c Fx) = some (R', S', full', tot', foundF nm c Fx') ∧ Pi w c still0 room R' S' Fx' full' tot' ∧ 0 < tot' ∧ S'.length + full.length = S.length := by
  have inS : ∀ z ∈ S, z ∈ nm ∧ 0 < wt w z := fun z hz => hs z (h.perm.mem_iff.mp (List.mem_append.mpr (.inl hz)))
  have inF : ∀ z ∈ Fx, z ∈ nm ∧ 0 < wt w z := fun z hz => hs z (h.perm.mem_iff.mp (List.mem_append.mpr (.inr hz)))
  obtain ⟨p, hp⟩ : ∃ p : Str → Bool, full = S.filter p := by
    rcases h.k with ⟨_, _, e⟩ | ⟨_, _, e, _⟩
    · exact ⟨_, e⟩
    · exact ⟨_, e⟩
  have lenS : S.length < 64 := by
    have h1 := h.perm.length_eq
    rw [List.length_append] at h1
    have h2 : still0.length ≤ nm.length := List.Nodup.length_le_of_subset hn fun z hz => (hs z hz).1
    have := hb.len
    omega
  have inf : ∀ z ∈ full, z ∈ S := fun z hz => by
    rw [hp] at hz
    exact (List.mem_filter.mp hz).1
  have eS' : S.filter (fun z => !decide (z ∈ full)) = S.filter (fun z => !p z) := by
    refine List.filter_congr fun z hz => ?_
    congr 1
    rw [hp]
    cases e : p z with
    | true => exact decide_eq_true (List.mem_filter.mpr ⟨hz, e⟩)
    | false => exact decide_eq_false (fun hm => absurd (List.mem_filter.mp hm).2 (by rw [e]; decide))
  generalize hS' : S.filter (fun z => !p z) = S' at eS'
  have inS' : ∀ z ∈ S', z ∈ S := fun z hz => by
    rw [← hS'] at hz
    exact (List.mem_filter.mp hz).1
  have sC : Sm (wt c) S = Sm (wt c) full + Sm (wt c) S' := by rw [hp, ← hS']; exact Sm_filter _ p S
  have sW : Sm (wt w) S = Sm (wt w) full + Sm (wt w) S' := by rw [hp, ← hS']; exact Sm_filter _ p S
  have nnW : ∀ xs : List Str, (∀ z ∈ xs, z ∈ S) → 0 ≤ Sm (wt w) xs := fun xs hx => Sm_nn fun z hz => (hb.w0 z (inS z (hx z hz)).1).1
  have nnC : ∀ xs : List Str, (∀ z ∈ xs, z ∈ S) → 0 ≤ Sm (wt c) xs := fun xs hx => Sm_nn fun z hz => (hb.c0 z (inS z (hx z hz)).1).1
  have key : Sm (wt c) full ≤ R := by
    rcases h.k with ⟨_, _, e⟩ | ⟨e1, e2, e, _⟩
    · rw [Sm_congr (g := fun _ => 0) (xs := full) (fun z hz => by
        rw [e] at hz
        exact of_decide_eq_true (List.mem_filter.mp hz).2), Sm_const, Int.mul_zero]
      exact h.r0
    · have a1 : Sm (fun z => tot_ * wt c z) full ≤ Sm (fun z => R * wt w z) full := Sm_le fun z hz => by
        rw [e] at hz
        have := of_decide_eq_true (List.mem_filter.mp hz).2
        rw [Int.mul_comm]
        exact this
      rw [Sm_mul, Sm_mul] at a1
      have a2 : R * Sm (wt w) full ≤ R * tot_ := Int.mul_le_mul_of_nonneg_left (by have := nnW S' inS'; omega) h.r0
      rw [Int.mul_comm R tot_] at a2
      exact Int.le_of_mul_le_mul_left (Int.le_trans a1 a2) e2
  have lt' : R - Sm (wt c) full < Sm (wt c) S' := by have := h.lt; omega
  have ne' : S' ≠ [] := fun z => by
    rw [z, Sm_nil] at lt'
    omega
  have tp' : 0 < Sm (wt w) S' := by
    cases hq : S' with
    | nil => exact (ne' hq).elim
    | cons x xs =>
      have hx : x ∈ S' := by rw [hq]; exact List.mem_cons_self
      have h1 := Sm_one (f := wt w) (xs := S') (fun z hz => (hb.w0 z (inS z (inS' z hz)).1).1) hx
      have h2 := (inS x (inS' x hx)).2
      rw [← hq]
      omega
  have hl' : S'.length + full.length = S.length := by
    have := (List.filter_append_perm p S).length_eq
    rw [List.length_append, ← hp, hS'] at this
    omega
  have nnF := nnC full inf
  refine ⟨R - Sm (wt c) full, S', full ++ Fx, S'.filter (fun z => decide (wt c z * Sm (wt w) S' ≤ (R - Sm (wt c) full) * wt w z)), Sm (wt w) S', ?_, ⟨?_, ?_, by omega, lt', .inr ⟨rfl, tp', rfl, fun z hz => ?_⟩⟩, tp', hl'⟩
  · unfold m_pour_L3 foundF
    have e4 := caps4_ok (c := c) (fun z hz => hb.gc hz) (by have := hb.len; omega) (xs := full) (f := fun z => if z ∈ Fx then wt c z else 0) (r := R) (fun z hz => (inS z (inf z hz)).1)
    simp only [e4, bs]
    have e5 : lcM (fun name_125 => (some (!(decide (name_125 ∈ full))))) (fun name_125 => (some name_125)) S = some S' := by
      rw [lcM_keep (fun z => !decide (z ∈ full)) (by omega) (fun x _ => rfl), eS']
    rw [e5]
    simp only [bs]
    rw [lcM_all (f := fun name_128 => ((Wk.getD w.l name_128).bind fun i_130 => some i_130)) (wt w) (by omega) (fun x hx => by rw [hb.gw (inS x (inS' x hx)).1]; rfl)]
    simp only [bs]
    have e6 : lcM (fun name_132 => ((Wk.getD c.l name_132).bind fun i_134 => (mulO i_134 (Sm (wt w) S')).bind fun m_135 => (Wk.getD w.l name_132).bind fun i_136 => (mulO (R - Sm (wt c) full) i_136).bind fun m_137 => some (decide (m_135 ≤ m_137)))) (fun name_132 => (some name_132)) S' = some (S'.filter (fun z => decide (wt c z * Sm (wt w) S' ≤ (R - Sm (wt c) full) * wt w z))) := by
      refine lcM_keep (fun z => decide (wt c z * Sm (wt w) S' ≤ (R - Sm (wt c) full) * wt w z)) (by omega) fun x hx => ?_
      have hx := (inS x (inS' x hx)).1
      have hc0 := hb.c0 x hx
      have rr : R ≤ 1000000000 := by
        have : 0 ≤ Sm (wt c) Fx := Sm_nn fun z hz => (hb.c0 z (inF z hz).1).1
        have := h.r
        omega
      have := h.r0
      rw [hb.gc hx, bs, mulO_ok (by omega) (by omega), bs, hb.gw hx, bs, mulO_ok (by omega) (by omega), bs]
    have e6 : lcM (fun name_132 => ((Wk.getD c.l name_132).bind fun i_134 => (mulO i_134 ((S'.map (wt w)).sum)).bind fun m_135 => (Wk.getD w.l name_132).bind fun i_136 => (mulO (R - Sm (wt c) full) i_136).bind fun m_137 => some (decide (m_135 ≤ m_137)))) (fun name_132 => (some name_132)) S' = _ := e6
    rw [e6]
    simp only [bs]
    have ef : (mp nm fun z => if z ∈ full then wt c z else if z ∈ Fx then wt c z else 0) = mp nm fun z => if z ∈ full ++ Fx then wt c z else 0 := mp_congr fun z _ => by
      by_cases e : z ∈ full
      · rw [if_pos e, if_pos (List.mem_append.mpr (.inl e))]
      · rw [if_neg e]
        by_cases e2 : z ∈ Fx
        · rw [if_pos e2, if_pos (List.mem_append.mpr (.inr e2))]
        · rw [if_neg e2, if_neg fun hm => (List.mem_append.mp hm).elim e e2]
    rw [ef]
    rfl
  · rw [← List.append_assoc]
    refine List.Perm.trans (List.Perm.append_right Fx ?_) h.perm
    refine List.Perm.trans List.perm_append_comm ?_
    rw [hp, ← hS']
    exact List.filter_append_perm p S
  · rw [Sm_app, h.r]
    omega
  · have hzn : z ∈ nm := (List.mem_append.mp hz).elim (fun hz => (inS z (inf z hz)).1) (fun hz => (inF z hz).1)
    have w0 := (hb.w0 z hzn).1
    rcases h.k with ⟨e1, e2, e⟩ | ⟨e1, e2, e, e3⟩
    · have hz : z ∈ full := by
        rcases List.mem_append.mp hz with hz | hz
        · exact hz
        · rw [e2] at hz
          cases hz
      rw [e] at hz
      have hc := of_decide_eq_true (List.mem_filter.mp hz).2
      rw [hc, Int.zero_mul]
      exact Int.mul_nonneg (by omega) w0
    · have k2 : R * Sm (wt w) S' ≤ (R - Sm (wt c) full) * tot_ := by
        have a1 : Sm (fun z => tot_ * wt c z) full ≤ Sm (fun z => R * wt w z) full := Sm_le fun z hz => by
          rw [e] at hz
          have := of_decide_eq_true (List.mem_filter.mp hz).2
          rw [Int.mul_comm]
          exact this
        rw [Sm_mul, Sm_mul, Int.mul_comm tot_] at a1
        have e5 : Sm (wt w) S' = tot_ - Sm (wt w) full := by omega
        rw [e5, Int.mul_sub, Int.sub_mul]
        omega
      refine mono_mul e2 w0 (by omega) ?_ k2
      rcases List.mem_append.mp hz with hz | hz
      · rw [e] at hz
        exact of_decide_eq_true (List.mem_filter.mp hz).2
      · exact e3 z hz
theorem loop_ok (r0 : 0 ≤ room) (hlt : room < Sm (wt c) still0) : ∃ R S Fx T, whileF (m_pour_L3_c w c) (m_pour_L3 w c) (room, still0, still0.filter (fun z => decide (wt c z = 0)), 0, foundF nm c []) = some (R, S, [], T, foundF nm c Fx) ∧
    (S ++ Fx).Perm still0 ∧ R = room - Sm (wt c) Fx ∧ 0 ≤ R ∧ T = Sm (wt w) S ∧ 0 < T ∧ (∀ z ∈ S, R * wt w z < wt c z * T) ∧ ∀ z ∈ Fx, wt c z * T ≤ R * wt w z := by
  obtain ⟨⟨R, S, full, tot_, found⟩, e, ⟨Fx, hf, h⟩, hend⟩ := whileF_inv (c := m_pour_L3_c w c) (f := m_pour_L3 w c) (fun s => ∃ Fx, s.2.2.2.2 = foundF nm c Fx ∧ Pi w c still0 room s.1 s.2.1 Fx s.2.2.1 s.2.2.2.1) (fun s => s.2.1.length + if s.2.2.2.1 = 0 then 1 else 0) (fun s hst => by
    obtain ⟨R, S, full, tot_, found⟩ := s
    obtain ⟨Fx, hf, h⟩ := hst
    have hf : found = foundF nm c Fx := hf
    subst hf
    have h : Pi w c still0 room R S Fx full tot_ := h
    have okf : okD full = true := okD_list fun z hz => by
      have hzS : z ∈ S := by
        rcases h.k with ⟨_, _, e⟩ | ⟨_, _, e, _⟩
        · rw [e] at hz; exact (List.mem_filter.mp hz).1
        · rw [e] at hz; exact (List.mem_filter.mp hz).1
      have := hb.ok z (hs z (h.perm.mem_iff.mp (List.mem_append.mpr (.inl hzS)))).1
      show PyData.canLay0 (.str z) = true
      simp only [PyData.canLay0, this]
    refine ⟨(!decide (full = [])) || decide (tot_ = 0), ?_, fun hgo => ?_⟩
    · show ((neO full ([] : List Str)).bind fun e_104 => some (e_104 || decide (tot_ = 0))) = _
      rw [neO_ok okf rfl (by decide)]
      rfl
    · have hgo : full ≠ [] ∨ tot_ = 0 := by
        simp only [Bool.or_eq_true, Bool.not_eq_true', decide_eq_false_iff_not, decide_eq_true_eq] at hgo
        exact hgo
      obtain ⟨R', S', Fx', full', tot', e, hP, tp, hl⟩ := loop_step hb hs hn hr h hgo
      refine ⟨_, e, ⟨Fx', rfl, hP⟩, ?_⟩
      show S'.length + (if tot' = 0 then 1 else 0) < S.length + (if tot_ = 0 then 1 else 0)
      rw [if_neg (by omega)]
      rcases hgo with hgo | hgo
      · have : 0 < full.length := List.length_pos_iff.mpr hgo
        omega
      · rw [if_pos hgo]
        omega) (s := (room, still0, still0.filter (fun z => decide (wt c z = 0)), 0, foundF nm c [])) ⟨[], rfl, ⟨by rw [List.append_nil], by rw [Sm_nil, Int.sub_zero], r0, hlt, .inl ⟨rfl, rfl, rfl⟩⟩⟩
  have hf : found = foundF nm c Fx := hf
  subst hf
  have h : Pi w c still0 room R S Fx full tot_ := h
  have okf : okD full = true := okD_list fun z hz => by
    have hzS : z ∈ S := by
      rcases h.k with ⟨_, _, e⟩ | ⟨_, _, e, _⟩
      · rw [e] at hz; exact (List.mem_filter.mp hz).1
      · rw [e] at hz; exact (List.mem_filter.mp hz).1
    have := hb.ok z (hs z (h.perm.mem_iff.mp (List.mem_append.mpr (.inl hzS)))).1
    show PyData.canLay0 (.str z) = true
    simp only [PyData.canLay0, this]
  have hend : ((neO full ([] : List Str)).bind fun e_104 => some (e_104 || decide (tot_ = 0))) = some false := hend
  rw [neO_ok okf rfl (by decide)] at hend
  have hend := Option.some.inj hend
  simp only [Bool.or_eq_false_iff, Bool.not_eq_false', decide_eq_true_eq, decide_eq_false_iff_not] at hend
  obtain ⟨h1, h2⟩ := hend
  rcases h.k with ⟨e1, _⟩ | ⟨e1, e2, e3, e4⟩
  · exact (h2 e1).elim
  · subst h1
    refine ⟨R, S, Fx, tot_, e, h.perm, h.r, h.r0, e1, e2, fun z hz => ?_, e4⟩
    refine Int.not_le.mp fun hle => ?_
    have : z ∈ S.filter (fun z => decide (wt c z * tot_ ≤ R * wt w z)) := List.mem_filter.mpr ⟨hz, decide_eq_true hle⟩
    rw [← e3] at this
    cases this
end
theorem tot_mp (S : List Str) (f : Str → Int) : tot (mp S f) = Sm f S := by
  unfold tot mp
  rw [List.map_map]
  rfl
theorem wt_mp {S : List Str} {f : Str → Int} {z : Str} (h : z ∈ S) : wt (mp S f) z = f z := by
  unfold wt
  rw [mp_get h]
  rfl
/-- what is told where the room is less than the caps -/
structure PR (w c : Dc Str Int) (room : Int) (still0 S Fx : List Str) (R : Int) : Prop where
  perm : (S ++ Fx).Perm still0
  r : R = room - Sm (wt c) Fx
  r0 : 0 ≤ R
  tp : 0 < Sm (wt w) S
  hS : ∀ z ∈ S, R * wt w z < wt c z * Sm (wt w) S
  hF : ∀ z ∈ Fx, wt c z * Sm (wt w) S ≤ R * wt w z
def sizeF (w c : Dc Str Int) (S Fx ch : List Str) (R : Int) (z : Str) : Int := if z ∈ S then R * wt w z / Sm (wt w) S + (if z ∈ ch then 1 else 0) else if z ∈ Fx then wt c z else 0
section
variable {nm : List Str} {w c : Dc Str Int} {room : Int} (hb : PB nm w c)
include hb
theorem pour_ok (r0 : 0 ≤ room) (r1 : room ≤ 1000000000) {still0 : List Str} (hst : (srtD nm).filter (fun z => decide (0 < wt w z)) = still0) :
    (Sm (wt c) still0 ≤ room ∧ m_pour room w c = some (mp nm (fun z => if z ∈ still0 then wt c z else 0), none, ())) ∨
    (room < Sm (wt c) still0 ∧ ∃ S Fx R ch un a b, PR w c room still0 S Fx R ∧ Dealt R (mp S (wt w)) ch un ∧ Low R (Sm (wt w) S) a b ∧ m_pour room w c = some (mp nm (sizeF w c S Fx ch R), some (a, b, ()), ())) := by
  have hs : ∀ z ∈ still0, z ∈ nm ∧ 0 < wt w z := fun z hz => by
    rw [← hst] at hz
    obtain ⟨h1, h2⟩ := List.mem_filter.mp hz
    exact ⟨(srtD_perm nm).mem_iff.mp h1, of_decide_eq_true h2⟩
  have hn : still0.Nodup := by
    rw [← hst]
    exact List.Pairwise.filter _ ((srtD_perm nm).nodup_iff.mpr hb.nd)
  have sl : still0.length ≤ nm.length := List.Nodup.length_le_of_subset hn fun z hz => (hs z hz).1
  have hlen := hb.len
  have e1 : m_pour room w c = (if (decide (Sm (wt c) still0 ≤ room)) = true then ((forS (m_pour_L2 c) still0 (mp nm fun _ => 0)).bind fun found_92 =>
      some (found_92, none, ())) else ((whileF (m_pour_L3_c w c) (m_pour_L3 w c) (room, still0, still0.filter (fun z => decide (wt c z = 0)), 0, mp nm fun _ => 0)).bind fun ((room_139, still_140, full_141, total_142, found_143) : Int × List Str × List Str × Int × Dc Str Int) =>
      (forS (m_pour_L5 w) still_140 (Dc.mk ([] : List (Str × Int)))).bind fun chosen_155 =>
      (m_deal room_139 chosen_155).bind fun r_157 =>
      (updK found_143 r_157).bind fun found_158 =>
      (m_lowest room_139 total_142).bind fun r_159 =>
      some (found_158, (some r_159), ()))) := by
    unfold m_pour
    rw [hb.wk, zeros_ok hb.nd (by omega), bs]
    have esk : skO w = some (srtD nm) := by
      unfold skO
      have : w.l.length = nm.length := by rw [← hb.wk, List.length_map]
      rw [if_pos (by omega), hb.wk]
    rw [esk, bs]
    rw [lcM_keep (fun z => decide (0 < wt w z)) (by rw [(srtD_perm nm).length_eq]; omega) (fun x hx => by rw [hb.gw ((srtD_perm nm).mem_iff.mp hx)]; rfl), bs, hst, bs]
    rw [lcM_all (f := fun name_78 => ((Wk.getD c.l name_78).bind fun i_80 => some i_80)) (wt c) (by omega) (fun x hx => by rw [hb.gc (hs x hx).1]; rfl), bs]
    rw [lcM_keep (fun z => decide (wt c z = 0)) (by omega) (fun x hx => by rw [hb.gc (hs x hx).1]; rfl)]
    simp only [bs]
    rfl
  rw [e1]
  by_cases hle : Sm (wt c) still0 ≤ room
  · refine .inl ⟨hle, ?_⟩
    rw [if_pos (decide_eq_true hle), caps2_ok (fun z hz => hb.gc hz) (by omega) (fun z hz => (hs z hz).1)]
    rfl
  · have hlt : room < Sm (wt c) still0 := by omega
    refine .inr ⟨hlt, ?_⟩
    rw [if_neg (by rw [decide_eq_true_eq]; exact hle)]
    obtain ⟨R, S, Fx, T, e, h1, h2, h3, h4, h5, h6, h7⟩ := loop_ok hb hs hn r1 r0 hlt
    subst h4
    have ez : (mp nm fun _ => 0) = foundF nm c [] := mp_congr fun z _ => by rw [if_neg List.not_mem_nil]
    rw [ez, e]
    simp only [bs]
    have inS : ∀ z ∈ S, z ∈ nm ∧ 0 < wt w z := fun z hz => hs z (h1.mem_iff.mp (List.mem_append.mpr (.inl hz)))
    have inF : ∀ z ∈ Fx, z ∈ nm ∧ 0 < wt w z := fun z hz => hs z (h1.mem_iff.mp (List.mem_append.mpr (.inr hz)))
    have ndSF : (S ++ Fx).Nodup := h1.nodup_iff.mpr hn
    have ndS : S.Nodup := (List.nodup_append.mp ndSF).1
    have lS : S.length ≤ nm.length := List.Nodup.length_le_of_subset ndS fun z hz => (inS z hz).1
    have cF : 0 ≤ Sm (wt c) Fx := Sm_nn fun z hz => (hb.c0 z (inF z hz).1).1
    have Tle : Sm (wt w) S ≤ 6400 := by
      have := Sm_le (f := wt w) (g := fun _ => 99) (xs := S) fun z hz => (hb.w0 z (inS z hz).1).2
      rw [Sm_const] at this
      omega
    rw [chosen_ok (fun z hz => hb.gw hz) (fun z hz => (inS z hz).1) ndS (by omega)]
    simp only [bs]
    obtain ⟨ch, un, hd, ed⟩ := deal_ok (room := R) (w := mp S (wt w)) (by omega) (by omega) (by rw [mp_keys]; exact ndS) (by show (S.map _).length < 64; rw [List.length_map]; omega) (by rw [tot_mp]; exact h5) (by rw [tot_mp]; omega)
    rw [ed]
    simp only [bs]
    obtain ⟨a, b, el, hL⟩ := lowest_ok (p := R) (q := Sm (wt w) S) h3 h5 (by omega)
    have edl : dlt R (mp S (wt w)) ch = mp (srtD S) (fun z => prt R (mp S (wt w)) z + if z ∈ ch then 1 else 0) := by
      unfold dlt
      rw [mp_keys]
      rfl
    have eu : updK (foundF nm c Fx) (dlt R (mp S (wt w)) ch) = some (mp nm (sizeF w c S Fx ch R)) := by
      unfold updK
      rw [if_pos (by rw [edl]; show (List.map _ _).length + (List.map _ _).length ≤ _; rw [List.length_map, List.length_map, (srtD_perm S).length_eq]; omega), edl]
      unfold foundF
      rw [mp_merge _ (fun x hx => (inS x ((srtD_perm S).mem_iff.mp hx)).1)]
      refine congrArg some (congrArg Dc.mk (congrArg Dc.l (mp_congr fun z hz => ?_)))
      unfold sizeF
      by_cases e : z ∈ S
      · rw [if_pos ((srtD_perm S).mem_iff.mpr e), if_pos e]
        unfold prt
        rw [wt_mp e, tot_mp]
      · rw [if_neg fun hm => e ((srtD_perm S).mem_iff.mp hm), if_neg e]
    rw [eu]
    simp only [bs]
    rw [el]
    exact ⟨S, Fx, R, ch, un, a, b, ⟨h1, h2, h3, h5, h6, h7⟩, hd, hL, rfl⟩
end
/-! rows of rests, the least, the greatest -/
theorem okS {z : Str} (h : PyData.strOk z = true) : okD z = true := by
  show PyData.canLay0 (.str z) = true
  simp only [PyData.canLay0, h]
theorem okRow {a : Int} {z : Str} (h : PyData.strOk z = true) : okD ((a, z, ()) : Int × Str × Unit) = true := by
  show PyData.canLay0 (.tuple [.int a, .str z]) = true
  simp only [PyData.canLay0, PyData.canLayAll0, h, Bool.and_self]
theorem okRows {room : Int} {w : Dc Str Int} {zs : List Str} {xs : List (Int × Str × Unit)} (h : ∀ x ∈ xs, ∃ a ∈ zs, x = rrow room w a) (ho : ∀ z ∈ zs, PyData.strOk z = true) : okD xs = true := okD_list fun x hx => by
  obtain ⟨a, ha, rfl⟩ := h x hx
  exact okRow (ho a ha)
theorem best_mem {α : Type} (lt : α → α → Bool) : ∀ (xs : List α) (x : α), (xs.foldl (fun a y => if lt y a = true then y else a) x) ∈ x :: xs
  | [], x => List.mem_cons_self
  | y :: ys, x => by
    rw [List.foldl_cons]
    have := best_mem lt ys (if lt y x = true then y else x)
    rcases List.mem_cons.mp this with h | h
    · rw [h]
      split
      · exact List.mem_cons_of_mem _ List.mem_cons_self
      · exact List.mem_cons_self
    · exact List.mem_cons_of_mem _ (List.mem_cons_of_mem _ h)
theorem best_some {α : Type} (lt : α → α → Bool) {xs : List α} (h : xs ≠ []) : ∃ m, bestT lt xs = some m ∧ m ∈ xs := by
  cases xs with
  | nil => exact (h rfl).elim
  | cons x xs => exact ⟨_, rfl, best_mem lt xs x⟩
theorem eqD_refl {d : Dc Str Int} (nd : (d.l.map (·.1)).Nodup) : eqDO d d = some true := by
  unfold eqDO
  refine if_pos ⟨rfl, List.all_eq_true.mpr fun kv hk => ?_⟩
  rw [decide_eq_true_eq]
  exact getD_mem nd hk
/-! dealt, poured: what the checkers tell -/
theorem fold_best {α : Type} {le g : α → α → Bool} (tr : ∀ a b c, le a b = true → le b c = true → le a c = true) (to : ∀ a b, le a b = true ∨ le b a = true) (hg : ∀ y a, g y a = !le a y) : ∀ (xs : List α) (x : α), le (xs.foldl (fun a y => if g y a = true then y else a) x) x = true ∧ ∀ y ∈ xs, le (xs.foldl (fun a y => if g y a = true then y else a) x) y = true
  | [], x => ⟨(to x x).elim id id, fun y h => nomatch h⟩
  | z :: zs, x => by
    rw [List.foldl_cons]
    obtain ⟨h1, h2⟩ := fold_best tr to hg zs (if g z x = true then z else x)
    generalize hm : zs.foldl (fun a y => if g y a = true then y else a) (if g z x = true then z else x) = m at h1 h2
    have hx : le (if g z x = true then z else x) x = true := by
      split
      · rename_i e
        rw [hg, Bool.not_eq_true'] at e
        exact (to z x).elim id fun h => by rw [h] at e; cases e
      · exact (to x x).elim id id
    have hz : le (if g z x = true then z else x) z = true := by
      split
      · exact (to z z).elim id id
      · rename_i e
        rw [hg, Bool.not_eq_true'] at e
        simpa using e
    refine ⟨tr _ _ _ h1 hx, fun y hy => ?_⟩
    rcases List.mem_cons.mp hy with rfl | hy
    · exact tr _ _ _ h1 hz
    · exact h2 y hy
theorem leD_to {α : Type} [Rp α] [Pd α] (a b : α) : leD a b = true ∨ leD b a = true := by
  have := leD_total.total a b
  simpa using this
theorem max_ok {α : Type} [Rp α] [Pd α] (hd : Pd.dp α ≤ 59) {xs : List α} (h : xs ≠ []) : ∃ m, maxT xs = some m ∧ m ∈ xs ∧ ∀ y ∈ xs, leD y m = true := by
  cases xs with
  | nil => exact (h rfl).elim
  | cons x xs =>
    obtain ⟨h1, h2⟩ := fold_best (le := fun a b : α => leD b a) (g := fun a b : α => ltD b a) (fun a b c h1 h2 => leD_total.trans _ _ _ h2 h1) (fun a b => leD_to b a) (fun y a => (Bool.not_not (ltD a y)).symm) xs x
    refine ⟨_, if_pos hd, best_mem _ xs x, fun y hy => ?_⟩
    rcases List.mem_cons.mp hy with rfl | hy
    · exact h1
    · exact h2 y hy
theorem min_ok {α : Type} [Rp α] [Pd α] (hd : Pd.dp α ≤ 59) {xs : List α} (h : xs ≠ []) : ∃ m, minT xs = some m ∧ m ∈ xs ∧ ∀ y ∈ xs, leD m y = true := by
  cases xs with
  | nil => exact (h rfl).elim
  | cons x xs =>
    obtain ⟨h1, h2⟩ := fold_best (le := fun a b : α => leD a b) (g := ltD) (fun a b c h1 h2 => leD_total.trans _ _ _ h1 h2) leD_to (fun y a => (Bool.not_not (ltD y a)).symm) xs x
    refine ⟨_, if_pos hd, best_mem _ xs x, fun y hy => ?_⟩
    rcases List.mem_cons.mp hy with rfl | hy
    · exact h1
    · exact h2 y hy
theorem Sm_ite {α : Type} (p : α → Bool) : ∀ xs : List α, Sm (fun x => if p x = true then (1 : Int) else 0) xs = ((xs.filter p).length : Int)
  | [] => rfl
  | x :: xs => by
    rw [Sm_cons, Sm_ite p xs]
    cases e : p x with
    | true => rw [List.filter_cons_of_pos e, List.length_cons, if_pos rfl]; omega
    | false => rw [List.filter_cons_of_neg (by rw [e]; decide), if_neg (by decide)]; omega
theorem forC_rt {β Sx R : Type} {f : β → Sx → Option (Ctl Sx R)} {x : β} {xs : List β} {s : Sx} {r : R} (h : f x s = some (.rt r)) : forC f (x :: xs) s = some (.rt r) := by
  unfold forC
  rw [h]
  rfl
theorem sub_back {xs ys : List Str} (nx : xs.Nodup) (h : ∀ z ∈ xs, z ∈ ys) (hl : ys.length ≤ xs.length) {y : Str} (hy : y ∈ ys) : y ∈ xs := by
  refine Classical.byContradiction fun hn => ?_
  have : (y :: xs).length ≤ ys.length := List.Nodup.length_le_of_subset (List.nodup_cons.mpr ⟨hn, nx⟩) fun z hz => by
    rcases List.mem_cons.mp hz with rfl | hz
    · exact hy
    · exact h z hz
  rw [List.length_cons] at this
  omega
section
variable {L S : List Str} {f sz : Str → Int} {nm : List Str} {R : Int} {ch un : List Str}
def upP (R : Int) (f sz : Str → Int) (S : List Str) (z : Str) : Bool := decide (sz z = R * f z / Sm f S + 1)
theorem dealt_loop (tp : 0 < Sm f S) (t1 : Sm f S < 1073741824) (r0 : 0 ≤ R) (r1 : R ≤ 1000000000) : ∀ (xs : List Str) (o m : List (Int × Str × Unit)), (∀ z ∈ xs, z ∈ nm ∧ z ∈ L ∧ z ∈ S) → o.length + m.length + xs.length < 1000 →
    forC (m_dealt_L1 R (mp L f) (mp nm sz) (Sm f S)) xs (o, m) = if (∀ z ∈ xs, sz z = R * f z / Sm f S ∨ sz z = R * f z / Sm f S + 1) then some (.nx (o ++ (xs.filter fun z => !upP R f sz S z).map (rrow R (mp S f)), m ++ (xs.filter (upP R f sz S)).map (rrow R (mp S f)))) else some (.rt false)
  | [], o, m, _, _ => by
    rw [if_pos (fun z h => nomatch h), List.filter_nil, List.filter_nil, List.map_nil, List.append_nil, List.append_nil]
    rfl
  | x :: xs, o, m, hx, hl => by
    obtain ⟨hn, hL, hS⟩ := hx x List.mem_cons_self
    rw [List.length_cons] at hl
    have er : rrow R (mp S f) x = (-(R * f x % Sm f S), x, ()) := by
      unfold rrow rst
      rw [wt_mp hS, tot_mp]
    have edm : dmO (R * f x) (Sm f S) = some (R * f x / Sm f S, R * f x % Sm f S, ()) := by
      unfold dmO
      exact if_pos ⟨tp, t1⟩
    have pre : m_dealt_L1 R (mp L f) (mp nm sz) (Sm f S) x (o, m) = (if (decide (sz x = R * f x / Sm f S + 1)) = true then ((appO m (-(R * f x % Sm f S), x, ())).bind fun more_183 =>
  some (Ctl.nx (o, more_183))) else (
  (if (decide (sz x = R * f x / Sm f S)) = true then ((appO o (-(R * f x % Sm f S), x, ())).bind fun others_188 =>
  some (Ctl.nx (others_188, m))) else (some (Ctl.rt false))))) := by
      unfold m_dealt_L1
      simp only [mp_get hL, mp_get hn, bs]
      rw [mulO_ok (by omega) (by omega)]
      simp only [bs]
      rw [edm]
      simp only [bs]
    by_cases e1 : sz x = R * f x / Sm f S + 1
    · rw [forC_cons (s' := (o, m ++ [rrow R (mp S f) x])), dealt_loop tp t1 r0 r1 xs o _ (fun z hz => hx z (List.mem_cons_of_mem _ hz)) (by rw [List.length_append, List.length_singleton]; omega)]
      · have up : upP R f sz S x = true := decide_eq_true e1
        rw [List.filter_cons_of_pos up, List.filter_cons_of_neg (by rw [up]; decide), List.map_cons, List.append_assoc, List.singleton_append]
        by_cases h : ∀ z ∈ xs, sz z = R * f z / Sm f S ∨ sz z = R * f z / Sm f S + 1
        · rw [if_pos h, if_pos fun z hz => (List.mem_cons.mp hz).elim (fun q => .inr (q ▸ e1)) (h z)]
        · rw [if_neg h, if_neg fun q => h fun z hz => q z (List.mem_cons_of_mem _ hz)]
      · rw [pre, if_pos (decide_eq_true e1), appO_ok (by omega), bs, er]
    · by_cases e2 : sz x = R * f x / Sm f S
      · rw [forC_cons (s' := (o ++ [rrow R (mp S f) x], m)), dealt_loop tp t1 r0 r1 xs _ m (fun z hz => hx z (List.mem_cons_of_mem _ hz)) (by rw [List.length_append, List.length_singleton]; omega)]
        · have up : upP R f sz S x = false := decide_eq_false e1
          rw [List.filter_cons_of_neg (p := upP R f sz S) (by rw [up]; decide), List.filter_cons_of_pos (by rw [up]; rfl), List.map_cons, List.append_assoc, List.singleton_append]
          by_cases h : ∀ z ∈ xs, sz z = R * f z / Sm f S ∨ sz z = R * f z / Sm f S + 1
          · rw [if_pos h, if_pos fun z hz => (List.mem_cons.mp hz).elim (fun q => .inl (q ▸ e2)) (h z)]
          · rw [if_neg h, if_neg fun q => h fun z hz => q z (List.mem_cons_of_mem _ hz)]
        · rw [pre, if_neg (by rw [decide_eq_true_eq]; exact e1), if_pos (decide_eq_true e2), appO_ok (by omega), bs, er]
      · rw [forC_rt (r := false), if_neg fun q => (q x List.mem_cons_self).elim e2 e1]
        rw [pre, if_neg (by rw [decide_eq_true_eq]; exact e1), if_neg (by rw [decide_eq_true_eq]; exact e2)]
theorem rows_eqO {xs : List Str} {w : Dc Str Int} (ok : ∀ z ∈ xs, PyData.strOk z = true) : eqO (xs.map (rrow R w)) ([] : List (Int × Str × Unit)) = some (decide (xs = [])) := by
  have hk : okD (xs.map (rrow R w)) = true := okRows (zs := xs) (fun x hx => by obtain ⟨a, ha, e⟩ := List.mem_map.mp hx; exact ⟨a, ha, e.symm⟩) ok
  rw [eqO_ok hk rfl (by decide)]
  refine congrArg some (decide_eq_decide.mpr ?_)
  exact List.map_eq_nil_iff
theorem dealt_ok (hp : L.Perm S) (inN : ∀ z ∈ L, z ∈ nm) (ok : ∀ z ∈ L, PyData.strOk z = true) (ndS : S.Nodup) (tp : 0 < Sm f S) (t1 : Sm f S < 1073741824) (r0 : 0 ≤ R) (r1 : R ≤ 1000000000) (h60 : L.length ≤ 64) (hd : Dealt R (mp S f) ch un) :
    m_dealt R (mp L f) (mp nm sz) = some (decide (∀ z ∈ L, sz z = R * f z / Sm f S + if z ∈ ch then 1 else 0)) := by
  have sumL : ((mp L f).l.map (·.2)).sum = Sm f S := by
    have : ((mp L f).l.map (·.2)).sum = Sm f L := tot_mp L f
    rw [this]
    exact Sm_perm hp
  have ks : (mp S f).l.map (·.1) = S := mp_keys S f
  have tS : tot (mp S f) = Sm f S := tot_mp S f
  have ndS2 : ((mp S f).l.map (·.1)).Nodup := by rw [ks]; exact ndS
  have ndL : L.Nodup := hp.nodup_iff.mpr ndS
  have pm := hd.perm
  rw [ks] at pm
  have ndc : (ch ++ un).Nodup := pm.nodup_iff.mpr ndS
  have inC : ∀ z ∈ ch ++ un, z ∈ L := fun z hz => hp.mem_iff.mpr (pm.mem_iff.mp hz)
  have prt_eq : ∀ z ∈ S, prt R (mp S f) z = R * f z / Sm f S := fun z hz => by
    unfold prt
    rw [wt_mp hz, tS]
  unfold m_dealt
  simp only [bs]
  rw [sumL, mp_keys, dealt_loop tp t1 r0 r1 L [] [] (fun z hz => ⟨inN z hz, hz, hp.mem_iff.mp hz⟩) (by simp; omega)]
  by_cases hall : ∀ z ∈ L, sz z = R * f z / Sm f S ∨ sz z = R * f z / Sm f S + 1
  case neg =>
    rw [if_neg hall]
    simp only [bs]
    refine congrArg some (decide_eq_false fun h => hall fun z hz => ?_).symm
    have := h z hz
    split at this
    · exact .inr this
    · exact .inl (by omega)
  rw [if_pos hall]
  simp only [bs, List.nil_append]
  rw [lcM_all (f := fun name_193 => ((Wk.getD (mp nm sz).l name_193).bind fun i_195 => some i_195)) sz (by omega) (fun x hx => by rw [mp_get (inN x hx)]; rfl)]
  simp only [bs]
  have sumIs : (L.map sz).sum = Sm (fun z => R * f z / Sm f S) L + ((L.filter (upP R f sz S)).length : Int) := by
    rw [← Sm_ite, ← Sm_add]
    exact Sm_congr (f := sz) fun z hz => by
      rcases hall z hz with e | e
      · rw [if_neg (by unfold upP; rw [decide_eq_true_eq]; omega)]; omega
      · rw [if_pos (by unfold upP; rw [decide_eq_true_eq]; exact e)]; omega
  have chLen : (ch.length : Int) = R - Sm (fun z => R * f z / Sm f S) L := by
    rw [hd.len, ks, Sm_perm (f := fun z => R * f z / Sm f S) hp, Sm_congr prt_eq]
  by_cases hs : (L.map sz).sum = R
  case neg =>
    rw [if_pos (by rw [decide_eq_false hs]; rfl)]
    refine congrArg some (decide_eq_false fun h => hs ?_).symm
    have := hd.sum ndS2
    rw [ks] at this
    rw [← this]
    have e := Sm_perm (f := fun z => prt R (mp S f) z + if z ∈ ch then 1 else 0) hp
    rw [← e]
    exact Sm_congr (f := sz) fun z hz => by rw [prt_eq z (hp.mem_iff.mp hz)]; exact h z hz
  rw [if_neg (by rw [decide_eq_true hs]; decide)]
  generalize hM : L.filter (upP R f sz S) = M at sumIs
  generalize hO : (L.filter fun z => !upP R f sz S z) = O
  have lenM : M.length = ch.length := by omega
  have inM : ∀ z, z ∈ M ↔ z ∈ L ∧ sz z = R * f z / Sm f S + 1 := fun z => by
    rw [← hM, List.mem_filter]
    unfold upP
    rw [decide_eq_true_eq]
  have inO : ∀ z, z ∈ O ↔ z ∈ L ∧ ¬ sz z = R * f z / Sm f S + 1 := fun z => by
    rw [← hO, List.mem_filter]
    unfold upP
    simp
  have ndM : M.Nodup := by rw [← hM]; exact List.Pairwise.filter _ ndL
  have lenMO : M.length + O.length = L.length := by
    rw [← hM, ← hO, ← List.length_append]
    exact (List.filter_append_perm _ L).length_eq
  have lenC : ch.length + un.length = L.length := by
    rw [← List.length_append, pm.length_eq, hp.length_eq]
  -- what is asked: those with one more are ch
  have asked : (∀ z ∈ L, sz z = R * f z / Sm f S + if z ∈ ch then 1 else 0) ↔ ∀ z ∈ M, z ∈ ch := by
    constructor
    · intro h z hz
      obtain ⟨h1, h2⟩ := (inM z).mp hz
      have := h z h1
      refine Classical.byContradiction fun hn => ?_
      rw [if_neg hn] at this
      omega
    · intro h z hz
      by_cases hc : z ∈ ch
      · rw [if_pos hc]
        exact ((inM z).mp (sub_back ndM h (by omega) hc)).2
      · rw [if_neg hc, Int.add_zero]
        exact (hall z hz).resolve_right fun e => hc (h z ((inM z).mpr ⟨hz, e⟩))
  rw [decide_eq_decide.mpr asked]
  rw [rows_eqO fun z hz => ok z ((inM z).mp hz).1]
  simp only [bs]
  by_cases m0 : M = []
  · rw [if_pos (decide_eq_true m0)]
    simp only [bs]
    exact congrArg some (decide_eq_true fun z hz => by rw [m0] at hz; cases hz).symm
  rw [if_neg (by rw [decide_eq_true_eq]; exact m0), rows_eqO fun z hz => ok z ((inO z).mp hz).1]
  simp only [bs]
  by_cases o0 : O = []
  · rw [if_pos (decide_eq_true o0)]
    simp only [bs]
    refine congrArg some (decide_eq_true fun z hz => ?_).symm
    have u0 : un = [] := List.eq_nil_of_length_eq_zero (by rw [o0, List.length_nil] at lenMO; omega)
    have := pm.mem_iff.mpr (hp.mem_iff.mp ((inM z).mp hz).1)
    rw [u0, List.append_nil] at this
    exact this
  rw [if_neg (by rw [decide_eq_true_eq]; exact o0)]
  obtain ⟨mx, e1, g1, g2⟩ := max_ok (xs := M.map (rrow R (mp S f))) (by decide) (by simpa using m0)
  obtain ⟨mn, e2, g3, g4⟩ := min_ok (xs := O.map (rrow R (mp S f))) (by decide) (by simpa using o0)
  rw [e1, e2]
  simp only [bs]
  have e3 : ltO mx mn = some (ltD mx mn) := if_pos (by decide)
  rw [e3]
  simp only [bs]
  refine congrArg some ?_
  have hlt : ltD mx mn = !leD mn mx := (Bool.not_not _).symm
  rw [hlt]
  by_cases hA : ∀ z ∈ M, z ∈ ch
  · rw [decide_eq_true hA, Bool.not_eq_true']
    refine Bool.eq_false_iff.mpr fun hle => ?_
    obtain ⟨a, ha, rfl⟩ := List.mem_map.mp g1
    obtain ⟨b, hb, rfl⟩ := List.mem_map.mp g3
    have hbu : b ∈ un := by
      have hbL := ((inO b).mp hb).1
      refine (List.mem_append.mp (pm.mem_iff.mpr (hp.mem_iff.mp hbL))).resolve_left fun hc => ?_
      exact ((inO b).mp hb).2 ((inM b).mp (sub_back ndM hA (by omega) hc)).2
    have := leD_anti hle (hd.ord a (hA a ha) b hbu)
    have eq : b = a := congrArg (fun t : Int × Str × Unit => t.2.1) this
    subst eq
    exact ((inO b).mp hb).2 ((inM b).mp ha).2
  · rw [decide_eq_false hA, Bool.not_eq_false']
    obtain ⟨a, ha⟩ := Classical.not_forall.mp hA
    obtain ⟨ha, han⟩ := Classical.not_imp.mp ha
    obtain ⟨b, hb, hbn⟩ : ∃ b ∈ ch, b ∉ M := by
      refine Classical.byContradiction fun hn => han ?_
      have hcm : ∀ z ∈ ch, z ∈ M := fun z hz => Classical.byContradiction fun q => hn ⟨z, hz, q⟩
      exact sub_back (List.nodup_append.mp ndc).1 hcm (by omega) ha
    have hbL := inC b (List.mem_append.mpr (.inl hb))
    have hbO : b ∈ O := (inO b).mpr ⟨hbL, fun e => hbn ((inM b).mpr ⟨hbL, e⟩)⟩
    have hau : a ∈ un := (List.mem_append.mp (pm.mem_iff.mpr (hp.mem_iff.mp ((inM a).mp ha).1))).resolve_left han
    exact leD_total.trans _ _ _ (leD_total.trans _ _ _ (g4 _ (List.mem_map.mpr ⟨b, hbO, rfl⟩)) (hd.ord b hb a hau)) (g2 _ (List.mem_map.mpr ⟨a, ha, rfl⟩))
end
/-! poured: the checker says True just of what pour tells -/
theorem Sm_lt {α : Type} {f g : α → Int} : ∀ {xs : List α}, (∀ x ∈ xs, f x ≤ g x) → ∀ {x : α}, x ∈ xs → f x < g x → Sm f xs < Sm g xs
  | y :: ys, h, x, hx, hlt => by
    rw [Sm_cons, Sm_cons]
    have h1 := h y List.mem_cons_self
    have h2 := Sm_le (f := f) (g := g) (xs := ys) fun z hz => h z (List.mem_cons_of_mem _ hz)
    rcases List.mem_cons.mp hx with rfl | hx
    · omega
    · have := Sm_lt (f := f) (g := g) (xs := ys) (fun z hz => h z (List.mem_cons_of_mem _ hz)) hx hlt
      omega
/-- a level p / q that holds: what is below its cap by it, and what is full -/
structure Lv (w c : Str → Int) (still L F : List Str) (room R p q : Int) : Prop where
  perm : (L ++ F).Perm still
  r : R = room - Sm c F
  lv : p * Sm w L = R * q
  q0 : 0 < q
  hL : ∀ z ∈ L, w z * p < c z * q
  hF : ∀ z ∈ F, c z * q ≤ w z * p
def lesI (a b : Int) : Int := if a < b then a else b
theorem Lv.sum {w c : Str → Int} {still L F : List Str} {room R p q : Int} (h : Lv w c still L F room R p q) : Sm (fun z => lesI (w z * p) (c z * q)) still = room * q := by
  rw [← Sm_perm h.perm, Sm_app]
  have e1 : Sm (fun z => lesI (w z * p) (c z * q)) L = Sm (fun z => p * w z) L := Sm_congr fun z hz => by
    show lesI _ _ = _
    unfold lesI
    rw [if_pos (h.hL z hz), Int.mul_comm]
  have e2 : Sm (fun z => lesI (w z * p) (c z * q)) F = Sm (fun z => q * c z) F := Sm_congr fun z hz => by
    show lesI _ _ = _
    unfold lesI
    have := h.hF z hz
    rw [if_neg (by omega), Int.mul_comm]
  rw [e1, e2, Sm_mul, Sm_mul, h.lv, h.r, Int.sub_mul, Int.mul_comm q]
  omega
theorem lesI_mul (a b : Int) {k : Int} (hk : 0 < k) : lesI a b * k = lesI (a * k) (b * k) := by
  unfold lesI
  by_cases h : a < b
  · rw [if_pos h, if_pos (Int.mul_lt_mul_of_pos_right h hk)]
  · rw [if_neg h, if_neg fun q => h (Int.lt_of_mul_lt_mul_right q (by omega))]
theorem Lv.not_lt {w c : Str → Int} {still L F L2 F2 : List Str} {room R R2 p q p2 q2 : Int} (h : Lv w c still L F room R p q) (h2 : Lv w c still L2 F2 room R2 p2 q2) (hw : ∀ z ∈ still, 0 < w z) (ne : L2 ≠ []) : ¬ p * q2 < p2 * q := fun hlt => by
  have hq := h.q0
  have hq2 := h2.q0
  obtain ⟨x, hx⟩ := List.exists_mem_of_ne_nil _ ne
  have xs : x ∈ still := h2.perm.mem_iff.mp (List.mem_append.mpr (.inl hx))
  have key : Sm (fun z => q2 * lesI (w z * p) (c z * q)) still < Sm (fun z => q * lesI (w z * p2) (c z * q2)) still := by
    refine Sm_lt (fun z hz => ?_) xs ?_
    · show q2 * lesI _ _ ≤ q * lesI _ _
      rw [Int.mul_comm q2, Int.mul_comm q, lesI_mul _ _ hq2, lesI_mul _ _ hq]
      have e : c z * q * q2 = c z * q2 * q := Int.mul_right_comm ..
      have l : w z * p * q2 < w z * p2 * q := by
        rw [Int.mul_assoc, Int.mul_assoc]
        exact Int.mul_lt_mul_of_pos_left hlt (hw z hz)
      unfold lesI
      split <;> split <;> omega
    · show q2 * lesI _ _ < q * lesI _ _
      rw [Int.mul_comm q2, Int.mul_comm q, lesI_mul _ _ hq2, lesI_mul _ _ hq]
      have e : c x * q * q2 = c x * q2 * q := Int.mul_right_comm ..
      have l : w x * p * q2 < w x * p2 * q := by
        rw [Int.mul_assoc, Int.mul_assoc]
        exact Int.mul_lt_mul_of_pos_left hlt (hw x xs)
      have l2 : w x * p2 * q < c x * q2 * q := Int.mul_lt_mul_of_pos_right (h2.hL x hx) hq
      have l3 : lesI (w x * p * q2) (c x * q * q2) ≤ w x * p * q2 := by unfold lesI; split <;> omega
      have l4 : lesI (w x * p2 * q) (c x * q2 * q) = w x * p2 * q := if_pos l2
      omega
  rw [Sm_mul, Sm_mul, h.sum, h2.sum] at key
  have : q2 * (room * q) = q * (room * q2) := by
    rw [Int.mul_comm q2, Int.mul_comm q, Int.mul_assoc, Int.mul_assoc, Int.mul_comm q]
  omega
theorem Lv.eq {w c : Str → Int} {still L F L2 F2 : List Str} {room R R2 p q p2 q2 : Int} (h : Lv w c still L F room R p q) (h2 : Lv w c still L2 F2 room R2 p2 q2) (hw : ∀ z ∈ still, 0 < w z) (ne : L ≠ []) (ne2 : L2 ≠ []) : p * q2 = p2 * q := by
  have a := h.not_lt h2 hw ne2
  have b := h2.not_lt h hw ne
  omega
/-- of alike fractions in lowest terms -/
theorem low_eq {p q a b : Int} (p0 : 0 ≤ p) (q0 : 0 < q) (a0 : 0 ≤ a) (b0 : 0 < b) (g1 : Nat.gcd p.toNat q.toNat = 1) (g2 : Nat.gcd a.toNat b.toNat = 1) (e : a * q = p * b) : a = p ∧ b = q := by
  obtain ⟨p, rfl⟩ := Int.eq_ofNat_of_zero_le p0
  obtain ⟨q, rfl⟩ := Int.eq_ofNat_of_zero_le (Int.le_of_lt q0)
  obtain ⟨a, rfl⟩ := Int.eq_ofNat_of_zero_le a0
  obtain ⟨b, rfl⟩ := Int.eq_ofNat_of_zero_le (Int.le_of_lt b0)
  have e : a * q = p * b := by exact_mod_cast e
  have g1 : Nat.gcd p q = 1 := g1
  have g2 : Nat.gcd a b = 1 := g2
  have d1 : b ∣ q := by
    have : b ∣ a * q := ⟨p, by rw [e, Nat.mul_comm]⟩
    exact Nat.Coprime.dvd_of_dvd_mul_left (Nat.Coprime.symm g2) this
  have d2 : q ∣ b := by
    have : q ∣ p * b := ⟨a, by rw [← e, Nat.mul_comm]⟩
    exact Nat.Coprime.dvd_of_dvd_mul_left (Nat.Coprime.symm g1) this
  have hbq : b = q := Nat.dvd_antisymm d1 d2
  subst hbq
  have hb : 0 < b := by omega
  exact ⟨by rw [Nat.eq_of_mul_eq_mul_right hb e], rfl⟩
theorem lowest_is {p q : Int} (p0 : 0 ≤ p) (q0 : 0 < q) (q1 : q < 1000000000) : ∃ a b, m_lowest p q = some (a, b, ()) ∧ (((a, b, ()) : Int × Int × Unit) = (p, q, ()) ↔ Nat.gcd p.toNat q.toNat = 1) := by
  obtain ⟨a, b, e, h⟩ := lowest_ok p0 q0 q1
  refine ⟨a, b, e, fun z => ?_, fun z => ?_⟩
  · have z1 : a = p := congrArg Prod.fst z
    have z2 : b = q := congrArg (fun t : Int × Int × Unit => t.2.1) z
    rw [← z1, ← z2]
    exact h.one
  · obtain ⟨rfl, rfl⟩ := low_eq p0 q0 h.a0 h.b0 z h.one h.x
    rfl
theorem lcM_if {β γ : Type} {c : β → Option Bool} {f : β → Option γ} (p : β → Bool) (g : β → γ) {xs : List β} (hl : xs.length < 1000000) (hc : ∀ x ∈ xs, c x = some (p x)) (hf : ∀ x ∈ xs, p x = true → f x = some (g x)) : lcM c f xs = some ((xs.filter p).map g) := by
  rw [lcM_len hl]
  exact lcGo_if p g hc hf
theorem forC_rtA {β Sx R : Type} {f : β → Sx → Option (Ctl Sx R)} {r : R} (p : β → Bool) (g : Sx → β → Sx) (I : List β → Sx → Prop) : ∀ {xs : List β} {s : Sx}, I xs s → (∀ x rest s, I (x :: rest) s → f x s = some (if p x = true then .rt r else .nx (g s x)) ∧ I rest (g s x)) → forC f xs s = some (if xs.any p = true then .rt r else .nx (xs.foldl g s))
  | [], s, _, _ => rfl
  | x :: xs, s, hi, h => by
    obtain ⟨e, hi'⟩ := h x xs s hi
    cases hp : p x with
    | true =>
      rw [hp, if_pos rfl] at e
      rw [forC_rt e, List.any_cons, hp, Bool.true_or, if_pos rfl]
    | false =>
      rw [hp, if_neg Bool.false_ne_true] at e
      rw [forC_cons e, forC_rtA p g I hi' h, List.any_cons, hp, Bool.false_or, List.foldl_cons]
theorem eqDG_nil (xs : List Str) (f : Str → Int) : eqDG (mp xs f) (Dc.mk ([] : List (Str × Int))) = decide (xs = []) := by
  cases xs with
  | nil => rfl
  | cons x xs =>
    rw [decide_eq_false (List.cons_ne_nil _ _)]
    unfold eqDG mp
    rw [decide_eq_false (by rw [List.length_map]; exact fun z => Nat.noConfusion z), Bool.false_and]
section
variable {nm : List Str} {w c : Dc Str Int} {room : Int} (hb : PB nm w c)
include hb
theorem poured_loop {sz : Str → Int} {p q : Int} (hp : -1000000000000 ≤ p ∧ p ≤ 1000000000000) (hq : -1000000000000 ≤ q ∧ q ≤ 1000000000000) (xs : List Str) : ∀ (r : Int) (left : List Str), (left ++ xs).Nodup → (∀ z ∈ xs, z ∈ nm) → left.length + xs.length < 1000 →
    forC (m_poured_L1 w c (mp nm sz) (some (p, q, ()))) xs (r, mp left (wt w)) = some (if (xs.filter fun z => !decide (wt w z * p < wt c z * q)).any (fun z => !decide (sz z = wt c z)) = true then .rt false else .nx (r - Sm (wt c) (xs.filter fun z => !decide (wt w z * p < wt c z * q)), mp (left ++ xs.filter fun z => decide (wt w z * p < wt c z * q)) (wt w))) := by
  induction xs with
  | nil =>
    intro r left _ _ _
    rw [List.filter_nil, List.filter_nil, List.append_nil, Sm_nil, Int.sub_zero]
    rfl
  | cons x xs ih =>
    intro r left nd hx hl
    have hn := hx x List.mem_cons_self
    have hw0 := hb.w0 x hn
    have hc0 := hb.c0 x hn
    rw [List.length_cons] at hl
    have nx : x ∉ left := fun hm => (List.nodup_append.mp nd).2.2 x hm x List.mem_cons_self rfl
    have pre : ∀ R : Int, m_poured_L1 w c (mp nm sz) (some (p, q, ())) x (R, mp left (wt w)) = (if (decide (wt w x * p < wt c x * q)) = true then some (Ctl.nx (R, mp (left ++ [x]) (wt w))) else if (!decide (sz x = wt c x)) = true then some (Ctl.rt false) else some (Ctl.nx (R - wt c x, mp left (wt w)))) := fun R => by
      unfold m_poured_L1
      simp only [hb.gc hn, hb.gw hn, mp_get hn, bs]
      rw [mulO_ok (by omega) (by omega), bs, mulO_ok (by omega) (by omega), bs, putO_ok (by show (left.map _).length < _; rw [List.length_map]; omega), bs, put_new _ (fun kv hk z => by
        obtain ⟨y, hy, rfl⟩ := List.mem_map.mp hk
        exact nx (z ▸ hy))]
      have : (Dc.mk ((mp left (wt w)).l ++ [(x, wt w x)]) : Dc Str Int) = mp (left ++ [x]) (wt w) := by
        unfold mp
        rw [List.map_append]
        rfl
      rw [this]
    by_cases hlt : wt w x * p < wt c x * q
    · rw [forC_cons (s' := (r, mp (left ++ [x]) (wt w))) (by rw [pre, if_pos (decide_eq_true hlt)])]
      rw [ih r (left ++ [x]) (by rw [List.append_assoc]; exact nd) (fun z hz => hx z (List.mem_cons_of_mem _ hz)) (by rw [List.length_append, List.length_singleton]; omega)]
      rw [List.filter_cons_of_neg (p := fun z => !decide (wt w z * p < wt c z * q)) (by rw [decide_eq_true hlt]; decide), List.filter_cons_of_pos (p := fun z => decide (wt w z * p < wt c z * q)) (decide_eq_true hlt), List.append_assoc, List.singleton_append]
    · rw [List.filter_cons_of_pos (p := fun z => !decide (wt w z * p < wt c z * q)) (by rw [decide_eq_false hlt]; rfl), List.filter_cons_of_neg (p := fun z => decide (wt w z * p < wt c z * q)) (by rw [decide_eq_false hlt]; decide), List.any_cons, Sm_cons]
      by_cases hs : sz x = wt c x
      · rw [forC_cons (s' := (r - wt c x, mp left (wt w))) (by rw [pre, if_neg (by rw [decide_eq_false hlt]; decide), if_neg (by rw [decide_eq_true hs]; decide)])]
        rw [ih (r - wt c x) left ((List.nodup_append.mp nd).1 |> fun h1 => nd.sublist (List.Sublist.append_left (List.sublist_cons_self x xs) left)) (fun z hz => hx z (List.mem_cons_of_mem _ hz)) (by omega)]
        rw [decide_eq_true hs, Bool.not_true, Bool.false_or, ← Int.sub_sub]
      · rw [forC_rt (r := false) (by rw [pre, if_neg (by rw [decide_eq_false hlt]; decide), if_pos (by rw [decide_eq_false hs]; rfl)])]
        rw [decide_eq_false hs, Bool.not_false, Bool.true_or, if_pos rfl]
def okLv (lv : Option (Int × Int × Unit)) : Prop := ∀ p q, lv = some (p, q, ()) → (-1000000000000 ≤ p ∧ p ≤ 1000000000000) ∧ -100000000 ≤ q ∧ q ≤ 100000000
def lft (w c : Dc Str Int) (p q : Int) (xs : List Str) : List Str := xs.filter fun z => decide (wt w z * p < wt c z * q)
def ful (w c : Dc Str Int) (p q : Int) (xs : List Str) : List Str := xs.filter fun z => !decide (wt w z * p < wt c z * q)
theorem poured_head (r0 : 0 ≤ room) (r1 : room ≤ 1000000000) {still : List Str} (hsl : nm.filter (fun z => decide (0 < wt w z)) = still) (sz : Str → Int) (lv : Option (Int × Int × Unit)) (hlv : okLv lv) (hz : ∀ z ∈ nm, wt w z = 0 → sz z = 0) :
    m_poured room w c (mp nm sz) lv = (if Sm (wt c) still ≤ room then some (decide (lv = none ∧ ∀ z ∈ still, sz z = wt c z)) else
      match lv with
      | none => some false
      | some (p, q, _) => if p < 0 ∨ q < 1 ∨ ¬ Nat.gcd p.toNat q.toNat = 1 ∨ (∃ z ∈ ful w c p q still, sz z ≠ wt c z) ∨ lft w c p q still = [] ∨ room - Sm (wt c) (ful w c p q still) < 0 ∨ p * Sm (wt w) (lft w c p q still) ≠ (room - Sm (wt c) (ful w c p q still)) * q then some false else
          m_dealt (room - Sm (wt c) (ful w c p q still)) (mp (lft w c p q still) (wt w)) (mp nm sz)) := by
  have hlen := hb.len
  have inS : ∀ z, z ∈ still ↔ z ∈ nm ∧ 0 < wt w z := fun z => by
    rw [← hsl, List.mem_filter, decide_eq_true_eq]
  have ndS : still.Nodup := by rw [← hsl]; exact List.Pairwise.filter _ hb.nd
  have lS : still.length ≤ nm.length := by rw [← hsl]; exact List.length_filter_le _ _
  unfold m_poured
  rw [hb.wk]
  rw [lcM_keep (fun z => decide (0 < wt w z)) (by omega) (fun x hx => by rw [hb.gw hx]; rfl), bs, hsl, bs]
  rw [lcM_if (fun z => decide (wt w z = 0)) (fun z => !decide (sz z = 0)) (by omega) (fun x hx => by rw [hb.gw hx]; rfl) (fun x hx _ => by rw [mp_get hx]; rfl), bs]
  rw [if_neg (by
    rw [List.any_map, List.any_eq_true]
    intro ⟨z, hz1, hz2⟩
    obtain ⟨h1, h2⟩ := List.mem_filter.mp hz1
    have := hz z h1 (of_decide_eq_true h2)
    simp [this] at hz2)]
  rw [lcM_all (f := fun name_222 => ((Wk.getD c.l name_222).bind fun i_224 => some i_224)) (wt c) (by omega) (fun x hx => by rw [hb.gc ((inS x).mp hx).1]; rfl), bs]
  show (if (decide (Sm (wt c) still ≤ room)) = true then _ else _) = _
  by_cases hle : Sm (wt c) still ≤ room
  · rw [if_pos (decide_eq_true hle), if_pos hle]
    rw [lcM_all (f := fun name_227 => ((Wk.getD (mp nm sz).l name_227).bind fun i_229 => (Wk.getD c.l name_227).bind fun i_230 => some (decide (i_229 = i_230)))) (fun z => decide (sz z = wt c z)) (by omega) (fun x hx => by rw [mp_get ((inS x).mp hx).1, bs, hb.gc ((inS x).mp hx).1]; rfl)]
    simp only [bs]
    rw [List.all_map]
    cases lv with
    | some t =>
      rw [decide_eq_false fun z => nomatch z.1]
      rfl
    | none =>
      simp only [Option.isNone_none, if_true, bs]
      refine congrArg some (Bool.eq_iff_iff.mpr ?_)
      rw [List.all_eq_true, decide_eq_true_eq]
      refine ⟨fun h => ⟨by first | rfl | trivial, fun z hz => of_decide_eq_true (h z hz)⟩, fun h z hz => decide_eq_true (h.2 z hz)⟩
  rw [if_neg (by rw [decide_eq_true_eq]; exact hle), if_neg hle]
  cases lv with
  | none => rfl
  | some t =>
    obtain ⟨p, q, u⟩ := t
    obtain ⟨hp, hq⟩ := hlv p q rfl
    simp only [bs, Option.isNone_some, Bool.false_eq_true, if_false]
    by_cases p0 : p < 0
    · rw [if_pos (decide_eq_true p0)]
      simp only [bs, if_true]
      rw [if_pos (.inl p0)]
    rw [if_neg (by rw [decide_eq_true_eq]; exact p0)]
    by_cases q0 : q < 1
    · rw [if_pos (decide_eq_true q0)]
      simp only [bs, if_true]
      rw [if_pos (.inr (.inl q0))]
    rw [if_neg (by rw [decide_eq_true_eq]; exact q0)]
    obtain ⟨a, b, el, hL⟩ := lowest_is (p := p) (q := q) (by omega) (by omega) (by omega)
    rw [el]
    simp only [bs]
    by_cases g1 : Nat.gcd p.toNat q.toNat = 1
    case neg => rw [if_pos (by rw [decide_eq_false fun z => g1 (hL.mp z)]; rfl), if_pos (.inr (.inr (.inl g1)))]
    rw [if_neg (by rw [decide_eq_true (hL.mpr g1)]; decide)]
    rw [show (Dc.mk ([] : List (Str × Int)) : Dc Str Int) = mp [] (wt w) from rfl]
    rw [poured_loop hb hp ⟨by omega, by omega⟩ still room [] (by rw [List.nil_append]; exact ndS) (fun z hz => ((inS z).mp hz).1) (by rw [List.length_nil]; omega)]
    simp only [bs, List.nil_append]
    show ((match (if (List.any (ful w c p q still) fun z => !decide (sz z = wt c z)) = true then Ctl.rt false else Ctl.nx (room - Sm (wt c) (ful w c p q still), mp (lft w c p q still) (wt w)) : Ctl (Int × Dc Str Int) Bool) with
      | .nx (room_271, left_272) => _
      | .bk _ => none
      | .rt r_ => some r_) : Option Bool) = _
    by_cases hf : ∃ z ∈ ful w c p q still, sz z ≠ wt c z
    · have ha : (List.any (ful w c p q still) fun z => !decide (sz z = wt c z)) = true := by
        obtain ⟨z, h1, h2⟩ := hf
        rw [List.any_eq_true]
        exact ⟨z, h1, by rw [decide_eq_false h2]; rfl⟩
      rw [if_pos ha, if_pos (.inr (.inr (.inr (.inl hf))))]
    have ha : ¬ (List.any (ful w c p q still) fun z => !decide (sz z = wt c z)) = true := by
      rw [List.any_eq_true]
      intro ⟨z, h1, h2⟩
      refine hf ⟨z, h1, fun e => ?_⟩
      rw [decide_eq_true e] at h2
      cases h2
    rw [if_neg ha]
    generalize hR : room - Sm (wt c) (ful w c p q still) = R
    have hfS : ∀ z ∈ ful w c p q still, z ∈ nm := fun z hz => ((inS z).mp (List.mem_filter.mp hz).1).1
    have lF : (ful w c p q still).length ≤ still.length := List.length_filter_le _ _
    have cF : Sm (wt c) (ful w c p q still) ≤ 64000000 := by
      have := Sm_le (f := wt c) (g := fun _ => 1000000) (xs := ful w c p q still) fun z hz => (hb.c0 z (hfS z hz)).2
      rw [Sm_const] at this
      omega
    have cF0 : 0 ≤ Sm (wt c) (ful w c p q still) := Sm_nn fun z hz => (hb.c0 z (hfS z hz)).1
    simp only
    rw [show (mp [] (wt w) : Dc Str Int) = Dc.mk ([] : List (Str × Int)) from rfl, eqDG_nil]
    by_cases hl : lft w c p q still = []
    · rw [if_pos (decide_eq_true hl)]
      simp only [bs, if_true]
      rw [if_pos (.inr (.inr (.inr (.inr (.inl hl)))))]
    rw [if_neg (by rw [decide_eq_true_eq]; exact hl)]
    by_cases hr : R < 0
    · rw [if_pos (decide_eq_true hr)]
      simp only [bs, if_true]
      rw [if_pos (.inr (.inr (.inr (.inr (.inr (.inl hr))))))]
    rw [if_neg (by rw [decide_eq_true_eq]; exact hr), mulO_ok (by omega) (by omega), bs, mulO_ok (by omega) (by omega), bs]
    have es : ((mp (lft w c p q still) (wt w)).l.map (·.2)).sum = Sm (wt w) (lft w c p q still) := tot_mp _ _
    rw [es]
    simp only [bs]
    by_cases he : p * Sm (wt w) (lft w c p q still) = R * q
    case neg => rw [if_pos (by rw [decide_eq_false he]; rfl), if_pos (.inr (.inr (.inr (.inr (.inr (.inr he))))))]
    rw [if_neg (by rw [decide_eq_true he]; decide), if_neg (by
      rintro (h | h | h | h | h | h | h)
      · exact p0 h
      · exact q0 h
      · exact h g1
      · exact hf h
      · exact hl h
      · exact hr h
      · exact h he)]
    cases m_dealt R (mp (lft w c p q still) (wt w)) (mp nm sz) <;> rfl
theorem poured_no (sz : Str → Int) (lv : Option (Int × Int × Unit)) (hz : ∃ z ∈ nm, wt w z = 0 ∧ sz z ≠ 0) : m_poured room w c (mp nm sz) lv = some false := by
  have hlen := hb.len
  unfold m_poured
  rw [hb.wk]
  rw [lcM_keep (fun z => decide (0 < wt w z)) (by omega) (fun x hx => by rw [hb.gw hx]; rfl), bs, bs]
  rw [lcM_if (fun z => decide (wt w z = 0)) (fun z => !decide (sz z = 0)) (by omega) (fun x hx => by rw [hb.gw hx]; rfl) (fun x hx _ => by rw [mp_get hx]; rfl), bs]
  rw [if_pos (by
    obtain ⟨z, h1, h2, h3⟩ := hz
    rw [List.any_map, List.any_eq_true]
    exact ⟨z, List.mem_filter.mpr ⟨h1, decide_eq_true h2⟩, by show (!decide (sz z = 0)) = true; rw [decide_eq_false h3]; rfl⟩)]
theorem poured_ok (r0 : 0 ≤ room) (r1 : room ≤ 1000000000) : ∃ (sz0 : Str → Int) (lv0 : Option (Int × Int × Unit)), m_pour room w c = some (mp nm sz0, lv0, ()) ∧ (∀ p q, lv0 = some (p, q, ()) → 0 ≤ p ∧ p ≤ 1000000000 ∧ 0 < q ∧ q ≤ 6400) ∧
    ∀ (sz : Str → Int) (lv : Option (Int × Int × Unit)), okLv lv → m_poured room w c (mp nm sz) lv = some (decide ((∀ z ∈ nm, sz z = sz0 z) ∧ lv = lv0)) := by
  generalize hst : (srtD nm).filter (fun z => decide (0 < wt w z)) = still0
  generalize hsl : nm.filter (fun z => decide (0 < wt w z)) = still
  have hps : still.Perm still0 := by
    rw [← hst, ← hsl]
    exact (srtD_perm nm).symm.filter _
  have hlen := hb.len
  have inS : ∀ z, z ∈ still ↔ z ∈ nm ∧ 0 < wt w z := fun z => by
    rw [← hsl, List.mem_filter, decide_eq_true_eq]
  have inS0 : ∀ z, z ∈ still0 ↔ z ∈ nm ∧ 0 < wt w z := fun z => by rw [← hps.mem_iff, inS]
  have ndS : still.Nodup := by rw [← hsl]; exact List.Pairwise.filter _ hb.nd
  have lS : still.length ≤ nm.length := by rw [← hsl]; exact List.length_filter_le _ _
  have sumC : Sm (wt c) still = Sm (wt c) still0 := Sm_perm hps
  have zero : ∀ z ∈ nm, wt w z = 0 → z ∉ still0 := fun z _ h hm => by have := ((inS0 z).mp hm).2; omega
  have zero2 : ∀ z ∈ nm, z ∉ still0 → wt w z = 0 := fun z hz hm => by
    have := (hb.w0 z hz).1
    have h2 : ¬ 0 < wt w z := fun h => hm ((inS0 z).mpr ⟨hz, h⟩)
    omega
  rcases pour_ok hb r0 r1 hst with ⟨hle, ep⟩ | ⟨hlt, S, Fx, R, ch, un, a, b, hP, hd, hL, ep⟩
  · refine ⟨_, _, ep, (fun p q h => nomatch h), fun sz lv hlv => ?_⟩
    by_cases hz : ∀ z ∈ nm, wt w z = 0 → sz z = 0
    · rw [poured_head hb r0 r1 hsl sz lv hlv hz, if_pos (by omega)]
      refine congrArg some (decide_eq_decide.mpr ⟨fun ⟨h1, h2⟩ => ⟨fun z hzn => ?_, h1⟩, fun ⟨h1, h2⟩ => ⟨h2, fun z hzs => ?_⟩⟩)
      · by_cases e : z ∈ still0
        · rw [if_pos e, h2 z (hps.mem_iff.mpr e)]
        · rw [if_neg e, hz z hzn (zero2 z hzn e)]
      · rw [h1 z ((inS z).mp hzs).1, if_pos (hps.mem_iff.mp hzs)]
    · obtain ⟨z, hz⟩ := Classical.not_forall.mp hz
      obtain ⟨h1, hz⟩ := Classical.not_imp.mp hz
      obtain ⟨h2, h3⟩ := Classical.not_imp.mp hz
      rw [poured_no hb sz lv ⟨z, h1, h2, h3⟩]
      refine congrArg some (decide_eq_false fun h => h3 ?_).symm
      rw [h.1 z h1, if_neg (zero z h1 h2)]
  · -- a level is told
    have inSF : ∀ z ∈ S ++ Fx, z ∈ nm ∧ 0 < wt w z := fun z hz => (inS0 z).mp (hP.perm.mem_iff.mp hz)
    have inS' : ∀ z ∈ S, z ∈ nm ∧ 0 < wt w z := fun z hz => inSF z (List.mem_append.mpr (.inl hz))
    have inF' : ∀ z ∈ Fx, z ∈ nm ∧ 0 < wt w z := fun z hz => inSF z (List.mem_append.mpr (.inr hz))
    have nd0 : still0.Nodup := hps.nodup_iff.mp ndS
    have ndSF : (S ++ Fx).Nodup := hP.perm.nodup_iff.mpr nd0
    have ndSS : S.Nodup := (List.nodup_append.mp ndSF).1
    have lSS : S.length ≤ nm.length := List.Nodup.length_le_of_subset ndSS fun z hz => (inS' z hz).1
    have Tle : Sm (wt w) S ≤ 6400 := by
      have := Sm_le (f := wt w) (g := fun _ => 99) (xs := S) fun z hz => (hb.w0 z (inS' z hz).1).2
      rw [Sm_const] at this
      omega
    have cF0 : 0 ≤ Sm (wt c) Fx := Sm_nn fun z hz => (hb.c0 z (inF' z hz).1).1
    have hRr := hP.r
    have hR0 := hP.r0
    have hT := hP.tp
    have a0 := hL.a0
    have b0 := hL.b0
    have a1 := hL.a1
    have b1 := hL.b1
    have neS : S ≠ [] := fun z => by
      rw [z, Sm_nil] at hT
      omega
    have cross : ∀ (x y : Int), x * R < y * Sm (wt w) S ↔ x * a < y * b := fun x y => by
      have hx := hL.x
      constructor
      · intro h
        have h := Int.mul_lt_mul_of_pos_right h b0
        rw [Int.mul_assoc, ← hx, ← Int.mul_assoc, Int.mul_right_comm y] at h
        exact Int.lt_of_mul_lt_mul_right h (by omega)
      · intro h
        have h := Int.mul_lt_mul_of_pos_right h hT
        rw [Int.mul_assoc, hx, ← Int.mul_assoc, Int.mul_right_comm y] at h
        exact Int.lt_of_mul_lt_mul_right h (by omega)
    have lvS : Lv (wt w) (wt c) still0 S Fx room R a b := ⟨hP.perm, hP.r, hL.x, b0, fun z hz => (cross _ _).mp (by rw [Int.mul_comm]; exact hP.hS z hz), fun z hz => Int.not_lt.mp fun h => by
      have h1 := (cross _ _).mpr h
      have h2 := hP.hF z hz
      rw [Int.mul_comm] at h1
      omega⟩
    have permF : ∀ p q : Int, (lft w c p q still ++ ful w c p q still).Perm still0 := fun p q => (List.filter_append_perm _ still).trans hps
    have mkLv : ∀ p q : Int, 0 < q → p * Sm (wt w) (lft w c p q still) = (room - Sm (wt c) (ful w c p q still)) * q → Lv (wt w) (wt c) still0 (lft w c p q still) (ful w c p q still) room (room - Sm (wt c) (ful w c p q still)) p q := fun p q q0 e => ⟨permF p q, rfl, e, q0, fun z hz => of_decide_eq_true (List.mem_filter.mp hz).2, fun z hz => by
      have := (List.mem_filter.mp hz).2
      rw [Bool.not_eq_true', decide_eq_false_iff_not] at this
      omega⟩
    refine ⟨_, _, ep, fun p q h => ?_, fun sz lv hlv => ?_⟩
    · have z1 : a = p := congrArg Prod.fst (Option.some.inj h)
      have z2 : b = q := congrArg (fun t : Int × Int × Unit => t.2.1) (Option.some.inj h)
      omega
    have sizeZ : ∀ z ∈ nm, wt w z = 0 → sizeF w c S Fx ch R z = 0 := fun z hz h => by
      have := zero z hz h
      unfold sizeF
      rw [if_neg fun hm => this (hP.perm.mem_iff.mp (List.mem_append.mpr (.inl hm))), if_neg fun hm => this (hP.perm.mem_iff.mp (List.mem_append.mpr (.inr hm)))]
    by_cases hz : ∀ z ∈ nm, wt w z = 0 → sz z = 0
    case neg =>
      obtain ⟨z, hz⟩ := Classical.not_forall.mp hz
      obtain ⟨h1, hz⟩ := Classical.not_imp.mp hz
      obtain ⟨h2, h3⟩ := Classical.not_imp.mp hz
      rw [poured_no hb sz lv ⟨z, h1, h2, h3⟩]
      refine congrArg some (decide_eq_false fun h => h3 ?_).symm
      rw [h.1 z h1, sizeZ z h1 h2]
    rw [poured_head hb r0 r1 hsl sz lv hlv hz, if_neg (by omega)]
    cases lv with
    | none => exact congrArg some (decide_eq_false fun h => nomatch h.2).symm
    | some t =>
      obtain ⟨p, q, u⟩ := t
      simp only
      by_cases hlv2 : p = a ∧ q = b
      case neg =>
        rw [if_pos (Classical.byContradiction fun hn => ?_)]
        · refine congrArg some (decide_eq_false fun h => hlv2 ?_).symm
          have z := Option.some.inj h.2
          exact ⟨congrArg Prod.fst z, congrArg (fun t : Int × Int × Unit => t.2.1) z⟩
        · simp only [not_or, Classical.not_not] at hn
          obtain ⟨n1, n2, n3, n4, n5, n6, n7⟩ := hn
          have e := (mkLv p q (by omega) n7).eq lvS (fun z hz => ((inS0 z).mp hz).2) n5 neS
          obtain ⟨h1, h2⟩ := low_eq (p := p) (q := q) (a := a) (b := b) (by omega) (by omega) a0 b0 n3 hL.one e.symm
          exact hlv2 ⟨h1.symm, h2.symm⟩
      obtain ⟨rfl, rfl⟩ := hlv2
      -- the very level
      have ndL : (lft w c p q still ++ ful w c p q still).Nodup := (permF p q).nodup_iff.mpr nd0
      have ndl : (lft w c p q still).Nodup := (List.nodup_append.mp ndL).1
      have memL : ∀ z, z ∈ lft w c p q still ↔ z ∈ S := fun z => by
        constructor
        · intro hm
          obtain ⟨h1, h2⟩ := List.mem_filter.mp hm
          refine (List.mem_append.mp (hP.perm.mem_iff.mpr (hps.mem_iff.mp h1))).resolve_right fun hf => ?_
          have := lvS.hF z hf
          have := of_decide_eq_true h2
          omega
        · intro hm
          exact List.mem_filter.mpr ⟨hps.mem_iff.mpr (hP.perm.mem_iff.mp (List.mem_append.mpr (.inl hm))), decide_eq_true (lvS.hL z hm)⟩
      have pL : (lft w c p q still).Perm S := (List.perm_ext_iff_of_nodup ndl ndSS).mpr memL
      have memF : ∀ z, z ∈ ful w c p q still ↔ z ∈ Fx := fun z => by
        constructor
        · intro hm
          obtain ⟨h1, h2⟩ := List.mem_filter.mp hm
          refine (List.mem_append.mp (hP.perm.mem_iff.mpr (hps.mem_iff.mp h1))).resolve_left fun hf => ?_
          have := lvS.hL z hf
          rw [Bool.not_eq_true', decide_eq_false_iff_not] at h2
          exact h2 this
        · intro hm
          refine List.mem_filter.mpr ⟨hps.mem_iff.mpr (hP.perm.mem_iff.mp (List.mem_append.mpr (.inr hm))), ?_⟩
          rw [Bool.not_eq_true', decide_eq_false_iff_not]
          have := lvS.hF z hm
          omega
      have pF : (ful w c p q still).Perm Fx := (List.perm_ext_iff_of_nodup (List.nodup_append.mp ndL).2.1 (List.nodup_append.mp ndSF).2.1).mpr memF
      have eR : room - Sm (wt c) (ful w c p q still) = R := by rw [Sm_perm pF, hRr]
      have eW : Sm (wt w) (lft w c p q still) = Sm (wt w) S := Sm_perm pL
      rw [eR, eW]
      have sizeS : ∀ z ∈ S, sizeF w c S Fx ch R z = R * wt w z / Sm (wt w) S + (if z ∈ ch then 1 else 0) := fun z hz => by unfold sizeF; rw [if_pos hz]
      have sizeFx : ∀ z ∈ Fx, sizeF w c S Fx ch R z = wt c z := fun z hz => by
        unfold sizeF
        rw [if_neg fun hm => (List.nodup_append.mp ndSF).2.2 z hm z hz rfl, if_pos hz]
      by_cases hf : ∃ z ∈ ful w c p q still, sz z ≠ wt c z
      · rw [if_pos (.inr (.inr (.inr (.inl hf))))]
        refine congrArg some (decide_eq_false fun h => ?_).symm
        obtain ⟨z, h1, h2⟩ := hf
        have h1 := (memF z).mp h1
        exact h2 (by rw [h.1 z (inF' z h1).1, sizeFx z h1])
      rw [if_neg (by
        rintro (h | h | h | h | h | h | h)
        · omega
        · omega
        · exact h hL.one
        · exact hf h
        · exact neS (List.eq_nil_of_length_eq_zero (by rw [← pL.length_eq, h]; rfl))
        · omega
        · exact h hL.x)]
      rw [dealt_ok (nm := nm) pL (fun z hz => (inS' z ((memL z).mp hz)).1) (fun z hz => hb.ok z (inS' z ((memL z).mp hz)).1) ndSS hT (by omega) hR0 (by omega) (by rw [pL.length_eq]; omega) hd]
      refine congrArg some (decide_eq_decide.mpr ⟨fun h => ⟨fun z hzn => ?_, rfl⟩, fun h z hzl => ?_⟩)
      · by_cases e : z ∈ S
        · rw [sizeS z e, h z ((memL z).mpr e)]
        · by_cases e2 : z ∈ Fx
          · rw [sizeFx z e2]
            exact Classical.byContradiction fun q => hf ⟨z, (memF z).mpr e2, q⟩
          · have : z ∉ still0 := fun hm => (List.mem_append.mp (hP.perm.mem_iff.mpr hm)).elim e e2
            have h0 := zero2 z hzn this
            rw [hz z hzn h0, sizeZ z hzn h0]
      · have hzS := (memL z).mp hzl
        rw [h.1 z (inS' z hzS).1, sizeS z hzS]
end
/-! items: what is shared among them -/
abbrev It := Int × Int × Int × Int × Int × Int × Unit
structure Po (nm : List Str) (w c : Str → Int) (room : Int) (g : Str → Int) : Prop where
  b0 : ∀ z ∈ nm, 0 ≤ g z
  b1 : ∀ z ∈ nm, g z ≤ c z
  z : ∀ z ∈ nm, w z = 0 → g z = 0
  s : Sm g nm ≤ room
  e : Sm g nm = room ∨ ∀ z ∈ nm, 0 < w z → g z = c z
theorem Sm_zero {α : Type} {f : α → Int} {xs : List α} (h : ∀ x ∈ xs, f x = 0) : Sm f xs = 0 := by
  rw [Sm_congr (g := fun _ => 0) h, Sm_const, Int.mul_zero]
theorem pour_po {nm : List Str} {w c : Dc Str Int} {room : Int} (hb : PB nm w c) (r0 : 0 ≤ room) (r1 : room ≤ 1000000000) : ∃ g lv, m_pour room w c = some (mp nm g, lv, ()) ∧ Po nm (wt w) (wt c) room g := by
  generalize hst : (srtD nm).filter (fun z => decide (0 < wt w z)) = still0
  have inS0 : ∀ z, z ∈ still0 ↔ z ∈ nm ∧ 0 < wt w z := fun z => by rw [← hst, List.mem_filter, decide_eq_true_eq, (srtD_perm nm).mem_iff]
  have split : ∀ f : Str → Int, (∀ z ∈ nm, wt w z = 0 → f z = 0) → Sm f nm = Sm f still0 := fun f hf => by
    rw [← Sm_perm (f := f) (srtD_perm nm), Sm_filter f (fun z => decide (0 < wt w z)), hst, Sm_zero (xs := (srtD nm).filter fun x => !decide (0 < wt w x)) (fun z hz => ?_), Int.add_zero]
    obtain ⟨h1, h2⟩ := List.mem_filter.mp hz
    have hz := (srtD_perm nm).mem_iff.mp h1
    have := (hb.w0 z hz).1
    rw [Bool.not_eq_true', decide_eq_false_iff_not] at h2
    exact hf z hz (by omega)
  rcases pour_ok hb r0 r1 hst with ⟨hle, ep⟩ | ⟨hlt, S, Fx, R, ch, un, a, b, hP, hd, hL, ep⟩
  · refine ⟨_, _, ep, ⟨fun z hz => ?_, fun z hz => ?_, fun z hz h => ?_, ?_, .inr fun z hz h => ?_⟩⟩
    · have := hb.c0 z hz
      split <;> omega
    · have := hb.c0 z hz
      split <;> omega
    · rw [if_neg fun hm => by have := ((inS0 z).mp hm).2; omega]
    · rw [split _ fun z hz h => if_neg fun hm => by have := ((inS0 z).mp hm).2; omega, Sm_congr (g := wt c) fun z hz => if_pos hz]
      exact hle
    · rw [if_pos ((inS0 z).mpr ⟨hz, h⟩)]
  · have inSF : ∀ z ∈ S ++ Fx, z ∈ nm ∧ 0 < wt w z := fun z hz => (inS0 z).mp (hP.perm.mem_iff.mp hz)
    have nd0 : still0.Nodup := by
      rw [← hst]
      exact List.Pairwise.filter _ ((srtD_perm nm).nodup_iff.mpr hb.nd)
    have ndSF : (S ++ Fx).Nodup := hP.perm.nodup_iff.mpr nd0
    have hT := hP.tp
    have hR0 := hP.r0
    have zero : ∀ z ∈ nm, wt w z = 0 → sizeF w c S Fx ch R z = 0 := fun z hz h => by
      unfold sizeF
      rw [if_neg fun hm => by have := (inSF z (List.mem_append.mpr (.inl hm))).2; omega, if_neg fun hm => by have := (inSF z (List.mem_append.mpr (.inr hm))).2; omega]
    have sum : Sm (sizeF w c S Fx ch R) nm = room := by
      rw [split _ zero, ← Sm_perm (f := sizeF w c S Fx ch R) hP.perm, Sm_app]
      have e1 : Sm (sizeF w c S Fx ch R) S = R := by
        have := hd.sum (by rw [mp_keys]; exact (List.nodup_append.mp ndSF).1)
        rw [mp_keys] at this
        refine (Sm_congr fun z hz => ?_).trans this
        unfold sizeF prt
        rw [if_pos hz, wt_mp hz, tot_mp]
      have e2 : Sm (sizeF w c S Fx ch R) Fx = Sm (wt c) Fx := Sm_congr fun z hz => by
        unfold sizeF
        rw [if_neg fun hm => (List.nodup_append.mp ndSF).2.2 z hm z hz rfl, if_pos hz]
      have := hP.r
      omega
    refine ⟨_, _, ep, ⟨fun z hz => ?_, fun z hz => ?_, zero, by omega, .inl sum⟩⟩
    · unfold sizeF
      have w0 := (hb.w0 z hz).1
      have c0 := (hb.c0 z hz).1
      split
      · have : 0 ≤ R * wt w z / Sm (wt w) S := Int.ediv_nonneg (Int.mul_nonneg hR0 w0) (by omega)
        split <;> omega
      · split <;> omega
    · unfold sizeF
      have c0 := (hb.c0 z hz).1
      split
      · rename_i hm
        have := hP.hS z hm
        have h2 : R * wt w z / Sm (wt w) S < wt c z := Int.ediv_lt_of_lt_mul hT this
        split <;> omega
      · split <;> omega
/-! dicts made name by name -/
theorem build_if {L : Str → Dc Str Int → Option (Dc Str Int)} {p : Str → Bool} {f : Str → Int} : ∀ {xs : List Str} {d : List Str}, (∀ z ∈ xs, ∀ d, L z d = if p z = true then putO d z (f z) else some d) → (d ++ xs).Nodup → d.length + xs.length < 1000 → forS L xs (mp d f) = some (mp (d ++ xs.filter p) f)
  | [], d, _, _, _ => by
    rw [List.filter_nil, List.append_nil]
    rfl
  | x :: xs, d, h, nd, hl => by
    rw [List.length_cons] at hl
    have e := h x List.mem_cons_self (mp d f)
    cases hp : p x with
    | true =>
      rw [hp, if_pos rfl, putO_ok (by show (d.map _).length < _; rw [List.length_map]; omega), put_new _ (fun kv hk z => by
        obtain ⟨y, hy, rfl⟩ := List.mem_map.mp hk
        exact (List.nodup_append.mp nd).2.2 y hy x List.mem_cons_self z)] at e
      have e3 : (Dc.mk ((mp d f).l ++ [(x, f x)]) : Dc Str Int) = mp (d ++ [x]) f := by
        unfold mp
        rw [List.map_append]
        rfl
      rw [e3] at e
      rw [forS_cons e, build_if (fun z hz => h z (List.mem_cons_of_mem _ hz)) (by rw [List.append_assoc]; exact nd) (by rw [List.length_append, List.length_singleton]; omega), List.filter_cons_of_pos hp, List.append_assoc, List.singleton_append]
    | false =>
      rw [hp, if_neg Bool.false_ne_true] at e
      rw [forS_cons e, build_if (fun z hz => h z (List.mem_cons_of_mem _ hz)) (nd.sublist (List.Sublist.append_left (List.sublist_cons_self x xs) d)) (by omega), List.filter_cons_of_neg (by rw [hp]; exact Bool.false_ne_true)]
theorem build {L : Str → Dc Str Int → Option (Dc Str Int)} {f : Str → Int} {xs : List Str} (h : ∀ z ∈ xs, ∀ d, L z d = putO d z (f z)) (nd : xs.Nodup) (hl : xs.length < 1000) : forS L xs (Dc.mk []) = some (mp xs f) := by
  have := build_if (L := L) (p := fun _ => true) (f := f) (xs := xs) (d := []) (fun z hz d => by rw [if_pos rfl]; exact h z hz d) nd (by simpa using hl)
  rw [List.nil_append, List.filter_eq_self.mpr (fun _ _ => rfl)] at this
  exact this
theorem buildF {L : Str → Dc Str Int → Option (Dc Str Int)} {p : Str → Bool} {f : Str → Int} {xs : List Str} (h : ∀ z ∈ xs, ∀ d, L z d = if p z = true then putO d z (f z) else some d) (nd : xs.Nodup) (hl : xs.length < 1000) : forS L xs (Dc.mk []) = some (mp (xs.filter p) f) := by
  have := build_if (L := L) (p := p) (f := f) (xs := xs) (d := []) h nd (by simpa using hl)
  rw [List.nil_append] at this
  exact this
def mi (nm : List Str) (it : Str → It) : Dc Str It := ⟨nm.map fun z => (z, it z)⟩
theorem mi_keys (nm : List Str) (it : Str → It) : (mi nm it).l.map (·.1) = nm := by
  unfold mi
  rw [List.map_map]
  exact List.map_id _
theorem mi_get {nm : List Str} {it : Str → It} {z : Str} (h : z ∈ nm) : Wk.getD (mi nm it).l z = some (it z) := getD_zip it h
theorem mi_vals (nm : List Str) (it : Str → It) : (mi nm it).l.map (·.2) = nm.map it := by
  unfold mi
  rw [List.map_map]
  rfl
theorem mp_vals (nm : List Str) (f : Str → Int) : (mp nm f).l.map (·.2) = nm.map f := by
  unfold mp
  rw [List.map_map]
  rfl
theorem mp_sum (nm : List Str) (f : Str → Int) : ((mp nm f).l.map (·.2)).sum = Sm f nm := tot_mp nm f
structure Bd (t : It) : Prop where
  l0 : 0 ≤ t.1
  l1 : t.1 ≤ 9999
  w0 : t.1 ≤ t.2.1
  w1 : t.2.1 ≤ t.1 + 9999
  m0 : t.2.1 ≤ t.2.2.1
  m1 : t.2.2.1 ≤ t.2.1 + 9999
  g0 : 0 ≤ t.2.2.2.1
  g1 : t.2.2.2.1 ≤ 99
  s0 : 0 ≤ t.2.2.2.2.1
  s1 : t.2.2.2.2.1 ≤ 99
  k0 : 0 ≤ t.2.2.2.2.2.1
  k1 : t.2.2.2.2.2.1 ≤ 9
theorem keys_up (d : Dc Str It) : (upDc d).l.map (·.1) = d.l.map (·.1) := by
  unfold upDc
  rw [List.map_map]
  rfl
theorem keys_upI (d : Dc Str Int) : (upDc d).l.map (·.1) = d.l.map (·.1) := by
  unfold upDc
  rw [List.map_map]
  rfl
section
variable {nm : List Str} (nd : nm.Nodup) (hl : nm.length < 60)
include nd hl
theorem ones_ok {f : Str → Int} : m_ones (upDc (mp nm f)) = some (mp nm fun _ => 1) := by
  unfold m_ones
  rw [keys_upI, mp_keys, build (f := fun _ => 1) (fun z hz d => by
    unfold m_ones_L1
    cases putO d z 1 <;> rfl) nd (by omega), bs]
theorem onesI_ok {f : Str → It} : m_ones (upDc (mi nm f)) = some (mp nm fun _ => 1) := by
  unfold m_ones
  rw [keys_up, mi_keys, build (f := fun _ => 1) (fun z hz d => by
    unfold m_ones_L1
    cases putO d z 1 <;> rfl) nd (by omega), bs]
theorem lesser_ok {f g : Str → Int} {mm : List Str} (hm : ∀ z ∈ nm, z ∈ mm) : m_lesser (mp nm f) (mp mm g) = some (mp nm fun z => f z - g z) := by
  unfold m_lesser
  rw [mp_keys, build (f := fun z => f z - g z) (fun z hz d => by
    unfold m_lesser_L1
    rw [mp_get hz, bs, mp_get (hm z hz), bs]
    cases putO d z (f z - g z) <;> rfl) nd (by omega), bs]
theorem picked_ok {it : Str → It} {f : Str → Int} (k : Int) (h : ∀ t : It, ∃ x, atI [t.1, t.2.1, t.2.2.1, t.2.2.2.1, t.2.2.2.2.1, t.2.2.2.2.2.1] k = some x) (hf : ∀ z ∈ nm, atI [(it z).1, (it z).2.1, (it z).2.2.1, (it z).2.2.2.1, (it z).2.2.2.2.1, (it z).2.2.2.2.2.1] k = some (f z)) : m_picked (mi nm it) k = some (mp nm f) := by
  unfold m_picked
  rw [mi_keys, build (f := f) (fun z hz d => by
    unfold m_picked_L1
    rw [mi_get hz, bs, hf z hz, bs]
    cases putO d z (f z) <;> rfl) nd (by omega), bs]
theorem of_rank_ok {it : Str → It} (r : Int) : m_of_rank (mi nm it) r = some (mp (nm.filter fun z => decide ((it z).2.2.2.2.2.1 = r)) fun z => (it z).1) := by
  unfold m_of_rank
  rw [mi_keys, buildF (p := fun z => decide ((it z).2.2.2.2.2.1 = r)) (f := fun z => (it z).1) (fun z hz d => by
    unfold m_of_rank_L1
    rw [mi_get hz, bs]
    split
    · rw [bs]
      cases putO d z (it z).1 <;> rfl
    · rfl) nd (by omega), bs]
end
theorem qe_nil (xs : List Str) (f : Str → Int) : Qe.qe (mp xs f) (Dc.mk ([] : List (Str × Int))) = decide (xs = []) := by
  cases xs with
  | nil => rfl
  | cons x xs =>
    rw [decide_eq_false (List.cons_ne_nil _ _)]
    show qeD _ _ = false
    unfold qeD mp
    rw [decide_eq_false (by rw [List.length_map]; exact fun z => Nat.noConfusion z), Bool.false_and]
theorem at6 (t : It) : atI [t.1, t.2.1, t.2.2.1, t.2.2.2.1, t.2.2.2.2.1, t.2.2.2.2.2.1] (0 : Int) = some t.1 ∧ atI [t.1, t.2.1, t.2.2.1, t.2.2.2.1, t.2.2.2.2.1, t.2.2.2.2.2.1] (1 : Int) = some t.2.1 ∧ atI [t.1, t.2.1, t.2.2.1, t.2.2.2.1, t.2.2.2.2.1, t.2.2.2.2.2.1] (2 : Int) = some t.2.2.1 ∧
    atI [t.1, t.2.1, t.2.2.1, t.2.2.2.1, t.2.2.2.2.1, t.2.2.2.2.2.1] (3 : Int) = some t.2.2.2.1 ∧ atI [t.1, t.2.1, t.2.2.1, t.2.2.2.1, t.2.2.2.2.1, t.2.2.2.2.2.1] (4 : Int) = some t.2.2.2.2.1 := ⟨rfl, rfl, rfl, rfl, rfl⟩
section
variable {nm : List Str} {it : Str → It} (nd : nm.Nodup) (hl : nm.length < 60) (ok : ∀ z ∈ nm, PyData.strOk z = true) (hi : ∀ z ∈ nm, Bd (it z))
include nd hl
theorem pick0 : m_picked (mi nm it) 0 = some (mp nm fun z => (it z).1) := picked_ok nd hl 0 (fun t => ⟨_, (at6 t).1⟩) fun z _ => (at6 (it z)).1
theorem pick1 : m_picked (mi nm it) 1 = some (mp nm fun z => (it z).2.1) := picked_ok nd hl 1 (fun t => ⟨_, (at6 t).2.1⟩) fun z _ => (at6 (it z)).2.1
theorem pick2' : m_picked (mi nm it) 2 = some (mp nm fun z => (it z).2.2.1) := picked_ok nd hl 2 (fun t => ⟨_, (at6 t).2.2.1⟩) fun z _ => (at6 (it z)).2.2.1
theorem pick3' : m_picked (mi nm it) 3 = some (mp nm fun z => (it z).2.2.2.1) := picked_ok nd hl 3 (fun t => ⟨_, (at6 t).2.2.2.1⟩) fun z _ => (at6 (it z)).2.2.2.1
theorem pick4' : m_picked (mi nm it) 4 = some (mp nm fun z => (it z).2.2.2.2.1) := picked_ok nd hl 4 (fun t => ⟨_, (at6 t).2.2.2.2⟩) fun z _ => (at6 (it z)).2.2.2.2
include ok
theorem pb_mk {w c : Str → Int} {xs : List Str} (hx : ∀ z ∈ xs, z ∈ nm) (ndx : xs.Nodup) (hw : ∀ z ∈ xs, 0 ≤ w z ∧ w z ≤ 99) (hc : ∀ z ∈ xs, 0 ≤ c z ∧ c z ≤ 1000000) : PB xs (mp xs w) (mp xs c) :=
  ⟨mp_keys _ _, mp_keys _ _, ndx, by have := List.Nodup.length_le_of_subset ndx hx; omega, fun z hz => by rw [wt_mp hz]; exact hw z hz, fun z hz => by rw [wt_mp hz]; exact hc z hz, fun z hz => ok z (hx z hz)⟩
/-- pour, by functions of the names -/
theorem pour_fn {w c : Str → Int} {xs : List Str} {room : Int} (hx : ∀ z ∈ xs, z ∈ nm) (ndx : xs.Nodup) (hw : ∀ z ∈ xs, 0 ≤ w z ∧ w z ≤ 99) (hc : ∀ z ∈ xs, 0 ≤ c z ∧ c z ≤ 1000000) (r0 : 0 ≤ room) (r1 : room ≤ 1000000000) : ∃ g lv, m_pour room (mp xs w) (mp xs c) = some (mp xs g, lv, ()) ∧ Po xs w c room g := by
  obtain ⟨g, lv, e, h⟩ := pour_po (pb_mk nd hl ok hx ndx hw hc) r0 r1
  exact ⟨g, lv, e, ⟨h.b0, fun z hz => by have := h.b1 z hz; rwa [wt_mp hz] at this, fun z hz h0 => h.z z hz (by rw [wt_mp hz]; exact h0), h.s, h.e.imp id fun hf z hz h0 => by have := hf z hz (by rw [wt_mp hz]; exact h0); rwa [wt_mp hz] at this⟩⟩
end
/-! share: what is told -/
theorem Sm_sub {α : Type} {f g : α → Int} (xs : List α) : Sm (fun x => f x - g x) xs = Sm f xs - Sm g xs := by
  induction xs with
  | nil => rw [Sm_nil, Sm_nil, Sm_nil]; rfl
  | cons x xs ih => rw [Sm_cons, Sm_cons, Sm_cons, ih]; omega
theorem Sm_eq_all {α : Type} {f g : α → Int} : ∀ {xs : List α}, (∀ x ∈ xs, f x ≤ g x) → Sm f xs = Sm g xs → ∀ x ∈ xs, f x = g x
  | [], _, _, _, h => nomatch h
  | y :: ys, h, e, x, hx => by
    rw [Sm_cons, Sm_cons] at e
    have h1 := h y List.mem_cons_self
    have h2 := Sm_le (f := f) (g := g) (xs := ys) fun z hz => h z (List.mem_cons_of_mem _ hz)
    rcases List.mem_cons.mp hx with rfl | hx
    · omega
    · exact Sm_eq_all (fun z hz => h z (List.mem_cons_of_mem _ hz)) (by omega) x hx
theorem vals_ok {nm : List Str} {it : Str → It} {g : It → Int} (hl : nm.length < 60) : lcM (fun _ => some true) (fun item => some (g item)) ((mi nm it).l.map (·.2)) = some ((nm.map it).map g) := by
  rw [mi_vals]
  exact lcM_all (f := fun item => some (g item)) g (by rw [List.length_map]; omega) fun _ _ => rfl
theorem sum_it {nm : List Str} {it : Str → It} {g : It → Int} : ((nm.map it).map g).sum = Sm (fun z => g (it z)) nm := by
  rw [List.map_map]
  rfl
theorem irange10 (i : Nat) (h : i < (irange 0 10).length) : (irange 0 10)[i] = (i : Int) := by
  simp [irange]
structure Wy (nm : List Str) (it : Str → It) (lack0 r lack : Int) (f : Str → Int) : Prop where
  a0 : ∀ z ∈ nm, 0 ≤ f z
  a1 : ∀ z ∈ nm, f z ≤ (it z).1
  b : ∀ z ∈ nm, r ≤ (it z).2.2.2.2.2.1 → f z = (it z).1
  c : 0 < lack → ∀ z ∈ nm, (it z).2.2.2.2.2.1 < r → f z = 0
  d : ∀ z ∈ nm, ∀ u ∈ nm, (it z).2.2.2.2.2.1 < (it u).2.2.2.2.2.1 → 0 < f z → f u = (it u).1
  l0 : 0 ≤ lack
  l1 : lack ≤ lack0
  e : Sm f nm = Sm (fun z => (it z).1) nm - (lack0 - lack)
def rnk (nm : List Str) (it : Str → It) (r : Int) : List Str := nm.filter fun z => decide ((it z).2.2.2.2.2.1 = r)
section
variable {nm : List Str} {it : Str → It} {room : Int} (nd : nm.Nodup) (hl : nm.length < 60) (ok : ∀ z ∈ nm, PyData.strOk z = true) (hi : ∀ z ∈ nm, Bd (it z))
include nd hl ok hi
theorem rn_mem {r : Int} {z : Str} : z ∈ rnk nm it r ↔ z ∈ nm ∧ (it z).2.2.2.2.2.1 = r := by
  unfold rnk
  rw [List.mem_filter, decide_eq_true_eq]
theorem way_stay {r lack : Int} {lvs : List (Option (Int × Int × Unit))} {f : Str → Int} (h : ¬ (0 < lack ∧ rnk nm it r ≠ [])) : m_given_way_L1 (mi nm it) r (lack, lvs, mp nm f) = some (lack, lvs, mp nm f) := by
  unfold m_given_way_L1
  simp only [of_rank_ok nd hl, bs, qe_nil]
  rw [if_neg (fun q => h (by
    rw [Bool.and_eq_true, decide_eq_true_eq, Bool.not_eq_true', decide_eq_false_iff_not] at q
    exact q))]
theorem way_go {r lack : Int} {lvs : List (Option (Int × Int × Unit))} {f : Str → Int} (h0 : 0 < lack) (h1 : rnk nm it r ≠ []) (hlv : lvs.length < 1000) (hk : lack ≤ 1000000000) :
    ∃ g lv, m_pour (min lack (Sm (fun z => (it z).1) (rnk nm it r))) (mp (rnk nm it r) fun _ => 1) (mp (rnk nm it r) fun z => (it z).1) = some (mp (rnk nm it r) g, lv, ()) ∧
      Po (rnk nm it r) (fun _ => 1) (fun z => (it z).1) (min lack (Sm (fun z => (it z).1) (rnk nm it r))) g ∧
      m_given_way_L1 (mi nm it) r (lack, lvs, mp nm f) = some (lack - min lack (Sm (fun z => (it z).1) (rnk nm it r)), lvs ++ [lv], mp nm fun z => if z ∈ rnk nm it r then (it z).1 - g z else f z) := by
  have hx : ∀ z ∈ rnk nm it r, z ∈ nm := fun z hz => (List.mem_filter.mp hz).1
  have ndx : (rnk nm it r).Nodup := List.Pairwise.filter _ nd
  have lx : (rnk nm it r).length < 60 := Nat.lt_of_le_of_lt (List.length_filter_le _ _) hl
  have s0 : 0 ≤ Sm (fun z => (it z).1) (rnk nm it r) := Sm_nn fun z hz => (hi z (hx z hz)).l0
  obtain ⟨g, lv, e, hp⟩ := pour_fn nd hl ok (w := fun _ => 1) (c := fun z => (it z).1) (xs := rnk nm it r) (room := min lack (Sm (fun z => (it z).1) (rnk nm it r))) hx ndx (fun _ _ => by omega) (fun z hz => by have := (hi z (hx z hz)).l0; have := (hi z (hx z hz)).l1; omega) (by omega) (by omega)
  refine ⟨g, lv, e, hp, ?_⟩
  unfold m_given_way_L1
  have er : m_of_rank (mi nm it) r = some (mp (rnk nm it r) fun z => (it z).1) := of_rank_ok nd hl r
  simp only [er, bs, qe_nil]
  rw [if_pos (by rw [Bool.and_eq_true, decide_eq_true_eq, Bool.not_eq_true', decide_eq_false_iff_not]; exact ⟨h0, h1⟩)]
  simp only [bs, mp_sum]
  rw [ones_ok ndx lx, bs, e]
  simp only [bs]
  rw [lesser_ok ndx lx (fun z hz => hz), bs]
  have eu : updK (mp nm f) (mp (rnk nm it r) fun z => (it z).1 - g z) = some (mp nm fun z => if z ∈ rnk nm it r then (it z).1 - g z else f z) := by
    unfold updK
    rw [if_pos (by show (nm.map _).length + (List.map _ _).length ≤ _; rw [List.length_map, List.length_map]; omega), mp_merge _ hx]
  rw [eu, bs, appO_ok (by omega)]
  rfl
theorem way_keep {r lack lack0 : Int} {f : Str → Int} (h : Wy nm it lack0 r lack f) (hn : ¬ (0 < lack ∧ rnk nm it r ≠ [])) : Wy nm it lack0 (r + 1) lack f :=
  ⟨h.a0, h.a1, fun z hz hr => h.b z hz (by omega), fun h0 z hz hr => by
    have he : rnk nm it r = [] := Classical.byContradiction fun q => hn ⟨h0, q⟩
    by_cases e : (it z).2.2.2.2.2.1 = r
    · have : z ∈ rnk nm it r := (rn_mem nd hl ok hi).mpr ⟨hz, e⟩
      rw [he] at this
      cases this
    · exact h.c h0 z hz (by omega), h.d, h.l0, h.l1, h.e⟩
theorem way_on {r lack lack0 : Int} {f g : Str → Int} (h : Wy nm it lack0 r lack f) (h0 : 0 < lack) (hp : Po (rnk nm it r) (fun _ => 1) (fun z => (it z).1) (min lack (Sm (fun z => (it z).1) (rnk nm it r))) g) :
    Wy nm it lack0 (r + 1) (lack - min lack (Sm (fun z => (it z).1) (rnk nm it r))) fun z => if z ∈ rnk nm it r then (it z).1 - g z else f z := by
  have hx : ∀ z ∈ rnk nm it r, z ∈ nm := fun z hz => (List.mem_filter.mp hz).1
  have s0 : 0 ≤ Sm (fun z => (it z).1) (rnk nm it r) := Sm_nn fun z hz => (hi z (hx z hz)).l0
  have sg : Sm g (rnk nm it r) = min lack (Sm (fun z => (it z).1) (rnk nm it r)) := by
    have s1 := hp.s
    rcases hp.e with e | e
    · exact e
    · have : Sm g (rnk nm it r) = Sm (fun z => (it z).1) (rnk nm it r) := Sm_congr fun z hz => e z hz (by omega)
      omega
  refine ⟨fun z hz => ?_, fun z hz => ?_, fun z hz hr => ?_, fun hl0 z hz hr => ?_, fun z hz u hu hr hf => ?_, by omega, by have := h.l1; omega, ?_⟩
  · show 0 ≤ if z ∈ rnk nm it r then (it z).1 - g z else f z
    split
    · rename_i hm
      have := hp.b1 z hm
      omega
    · exact h.a0 z hz
  · show (if z ∈ rnk nm it r then (it z).1 - g z else f z) ≤ _
    split
    · rename_i hm
      have := hp.b0 z hm
      omega
    · exact h.a1 z hz
  · show (if z ∈ rnk nm it r then (it z).1 - g z else f z) = _
    rw [if_neg fun hm => by have := ((rn_mem nd hl ok hi).mp hm).2; omega]
    exact h.b z hz (by omega)
  · show (if z ∈ rnk nm it r then (it z).1 - g z else f z) = 0
    by_cases hm : z ∈ rnk nm it r
    · rw [if_pos hm]
      have := Sm_eq_all (f := g) (g := fun z => (it z).1) (xs := rnk nm it r) hp.b1 (by omega) z hm
      omega
    · rw [if_neg hm]
      have : ¬ (it z).2.2.2.2.2.1 = r := fun e => hm ((rn_mem nd hl ok hi).mpr ⟨hz, e⟩)
      exact h.c h0 z hz (by omega)
  · have hf : 0 < if z ∈ rnk nm it r then (it z).1 - g z else f z := hf
    show (if u ∈ rnk nm it r then (it u).1 - g u else f u) = _
    have hzr : r ≤ (it z).2.2.2.2.2.1 := Int.not_lt.mp fun q => by
      rw [if_neg fun hm => by have := ((rn_mem nd hl ok hi).mp hm).2; omega, h.c h0 z hz q] at hf
      omega
    rw [if_neg fun hm => by have := ((rn_mem nd hl ok hi).mp hm).2; omega]
    exact h.b u hu (by omega)
  · have e1 := Sm_filter (fun z => if z ∈ rnk nm it r then (it z).1 - g z else f z) (fun z => decide ((it z).2.2.2.2.2.1 = r)) nm
    have e2 := Sm_filter f (fun z => decide ((it z).2.2.2.2.2.1 = r)) nm
    have e3 : Sm (fun z => if z ∈ rnk nm it r then (it z).1 - g z else f z) (nm.filter fun z => decide ((it z).2.2.2.2.2.1 = r)) = Sm (fun z => (it z).1) (rnk nm it r) - Sm g (rnk nm it r) := by
      rw [← Sm_sub]
      exact Sm_congr fun z hz => if_pos hz
    have e4 : Sm (fun z => if z ∈ rnk nm it r then (it z).1 - g z else f z) (nm.filter fun z => !decide ((it z).2.2.2.2.2.1 = r)) = Sm f (nm.filter fun z => !decide ((it z).2.2.2.2.2.1 = r)) := Sm_congr fun z hz => if_neg fun hm => by
      have h1 := (List.mem_filter.mp hz).2
      rw [((rn_mem nd hl ok hi).mp hm).2] at h1
      simp at h1
    have e5 : Sm f (nm.filter fun z => decide ((it z).2.2.2.2.2.1 = r)) = Sm (fun z => (it z).1) (rnk nm it r) := Sm_congr fun z hz => by
      obtain ⟨h1, h2⟩ := (rn_mem nd hl ok hi (r := r)).mp hz
      exact h.b z h1 (by omega)
    have := h.e
    show Sm (fun z => if z ∈ rnk nm it r then (it z).1 - g z else f z) nm = _
    omega
omit nd hl ok in
theorem way_start (lack0 : Int) (h0 : 0 ≤ lack0) : Wy nm it lack0 0 lack0 fun z => (it z).1 :=
  ⟨fun z hz => (hi z hz).l0, fun _ _ => Int.le_refl _, fun _ _ _ => rfl, fun _ z hz h => by have := (hi z hz).k0; omega, fun _ _ _ _ _ _ => rfl, h0, Int.le_refl _, by show Sm _ _ = _; omega⟩
omit nd hl ok in
theorem way_end {lack : Int} {f : Str → Int} (r0 : 0 ≤ room) (h : Wy nm it (Sm (fun z => (it z).1) nm - room) 10 lack f) : lack = 0 ∧ Sm f nm = room := by
  have hl0 := h.l0
  have he := h.e
  by_cases hp : 0 < lack
  · have : Sm f nm = 0 := Sm_zero fun z hz => h.c hp z hz (by have := (hi z hz).k1; omega)
    omega
  · omega
theorem way_ok (r0 : 0 ≤ room) (hlt : room ≤ Sm (fun z => (it z).1) nm) : ∃ f lvs, m_given_way room (mi nm it) = some (mp nm f, 0, lvs, ()) ∧ Wy nm it (Sm (fun z => (it z).1) nm - room) 10 0 f ∧ Sm f nm = room := by
  have sb : Sm (fun z => (it z).1) nm ≤ 1000000 := by
    have := Sm_le (f := fun z => (it z).1) (g := fun _ => 9999) (xs := nm) fun z hz => (hi z hz).l1
    rw [Sm_const] at this
    omega
  obtain ⟨s, e, lack, lvs, f, rfl, hw, hlv⟩ := forS_ix (f := m_given_way_L1 (mi nm it)) (xs := irange 0 10) (fun i (s : Int × List (Option (Int × Int × Unit)) × Dc Str Int) => ∃ lack lvs f, s = (lack, lvs, mp nm f) ∧ Wy nm it (Sm (fun z => (it z).1) nm - room) (i : Int) lack f ∧ lvs.length ≤ i)
    (s := (Sm (fun z => (it z).1) nm - room, [], mp nm fun z => (it z).1)) ⟨_, _, _, rfl, way_start hi _ (by omega), Nat.le_refl _⟩ (fun i hi2 s hs => by
    obtain ⟨lack, lvs, f, rfl, hw, hlv⟩ := hs
    rw [irange10 i hi2]
    have hi3 : i < 10 := by simpa [irange] using hi2
    have hl1 := hw.l1
    by_cases hgo : 0 < lack ∧ rnk nm it (i : Int) ≠ []
    · obtain ⟨g, lv, e1, hp, e2⟩ := way_go nd hl ok hi (f := f) (lvs := lvs) hgo.1 hgo.2 (by omega) (by omega)
      exact ⟨_, e2, _, _, _, rfl, way_on nd hl ok hi hw hgo.1 hp, by rw [List.length_append]; simp; omega⟩
    · exact ⟨_, way_stay nd hl ok hi hgo, _, _, _, rfl, way_keep nd hl ok hi hw hgo, by omega⟩)
  obtain ⟨z1, z2⟩ := way_end (room := room) hi r0 hw
  subst z1
  refine ⟨f, lvs, ?_, hw, z2⟩
  unfold m_given_way
  simp only [pick0 nd hl, bs, mp_sum]
  rw [rngO_ok (by omega) (by omega) (by omega) (by omega), bs, e]
  rfl
/-- the three ways -/
theorem share_ok (r0 : 0 ≤ room) (r1 : room ≤ 1000000000) :
    (Sm (fun z => (it z).2.1) nm ≤ room ∧ ∃ g lv, m_pour (room - Sm (fun z => (it z).2.1) nm) (mp nm fun z => (it z).2.2.2.1) (mp nm fun z => (it z).2.2.1 - (it z).2.1) = some (mp nm g, lv, ()) ∧
      Po nm (fun z => (it z).2.2.2.1) (fun z => (it z).2.2.1 - (it z).2.1) (room - Sm (fun z => (it z).2.1) nm) g ∧ m_share room (mi nm it) = some (mp nm (fun z => (it z).2.1 + g z), room - Sm (fun z => (it z).2.1 + g z) nm, [lv], ())) ∨
    (room < Sm (fun z => (it z).2.1) nm ∧ Sm (fun z => (it z).1) nm ≤ room ∧ ∃ g lv, m_pour (Sm (fun z => (it z).2.1) nm - room) (mp nm fun z => (it z).2.2.2.2.1) (mp nm fun z => (it z).2.1 - (it z).1) = some (mp nm g, lv, ()) ∧
      Po nm (fun z => (it z).2.2.2.2.1) (fun z => (it z).2.1 - (it z).1) (Sm (fun z => (it z).2.1) nm - room) g ∧
      ((Sm (fun z => (it z).2.1 - g z) nm = room ∧ m_share room (mi nm it) = some (mp nm (fun z => (it z).2.1 - g z), 0, [lv], ())) ∨
       (room < Sm (fun z => (it z).2.1 - g z) nm ∧ ∃ g2 lv2, m_pour (Sm (fun z => (it z).2.1 - g z) nm - room) (mp nm fun _ => 1) (mp nm fun z => (it z).2.1 - g z - (it z).1) = some (mp nm g2, lv2, ()) ∧
        Po nm (fun _ => 1) (fun z => (it z).2.1 - g z - (it z).1) (Sm (fun z => (it z).2.1 - g z) nm - room) g2 ∧ m_share room (mi nm it) = some (mp nm (fun z => (it z).2.1 - g z - g2 z), 0, [lv, lv2], ())))) ∨
    (room < Sm (fun z => (it z).2.1) nm ∧ room < Sm (fun z => (it z).1) nm ∧ m_share room (mi nm it) = m_given_way room (mi nm it)) := by
  have sw : Sm (fun z => (it z).2.1) nm ≤ 2000000 := by
    have := Sm_le (f := fun z => (it z).2.1) (g := fun _ => 19998) (xs := nm) fun z hz => by have := (hi z hz).l1; have := (hi z hz).w1; show (it z).2.1 ≤ 19998; omega
    rw [Sm_const] at this
    omega
  have sw0 : 0 ≤ Sm (fun z => (it z).2.1) nm := Sm_nn fun z hz => by have := (hi z hz).l0; have := (hi z hz).w0; show 0 ≤ (it z).2.1; omega
  have self : ∀ z ∈ nm, z ∈ nm := fun _ h => h
  unfold m_share
  rw [vals_ok (g := fun t : It => t.2.1) hl, bs, sum_it]
  by_cases hg : Sm (fun z => (it z).2.1) nm ≤ room
  · rw [if_pos (decide_eq_true hg)]
    obtain ⟨g, lv, e, hp⟩ := pour_fn nd hl ok (w := fun z => (it z).2.2.2.1) (c := fun z => (it z).2.2.1 - (it z).2.1) (xs := nm) (room := room - Sm (fun z => (it z).2.1) nm) self nd (fun z hz => ⟨(hi z hz).g0, (hi z hz).g1⟩) (fun z hz => by have := (hi z hz).m0; have := (hi z hz).m1; show 0 ≤ (it z).2.2.1 - (it z).2.1 ∧ _; omega) (by omega) (by omega)
    refine .inl ⟨hg, g, lv, e, hp, ?_⟩
    unfold m_grown
    simp only [pick1 nd hl, pick2' nd hl, pick3' nd hl, bs, lesser_ok nd hl self, mp_sum]
    rw [e]
    simp only [bs, mi_keys]
    rw [build (f := fun z => (it z).2.1 + g z) (fun z hz d => by
      unfold m_grown_L1
      rw [mp_get hz, bs, mp_get hz, bs]
      cases putO d z ((it z).2.1 + g z) <;> rfl) nd (by omega)]
    simp only [bs, mp_sum]
  rw [if_neg (by rw [decide_eq_true_eq]; exact hg), vals_ok (g := fun t : It => t.1) hl, bs, sum_it]
  by_cases hs : Sm (fun z => (it z).1) nm ≤ room
  · rw [if_pos (decide_eq_true hs)]
    obtain ⟨g, lv, e, hp⟩ := pour_fn nd hl ok (w := fun z => (it z).2.2.2.2.1) (c := fun z => (it z).2.1 - (it z).1) (xs := nm) (room := Sm (fun z => (it z).2.1) nm - room) self nd (fun z hz => ⟨(hi z hz).s0, (hi z hz).s1⟩) (fun z hz => by have := (hi z hz).w0; have := (hi z hz).w1; show 0 ≤ (it z).2.1 - (it z).1 ∧ _; omega) (by omega) (by omega)
    refine .inr (.inl ⟨by omega, hs, g, lv, e, hp, ?_⟩)
    have s1 : Sm (fun z => (it z).2.1 - g z) nm = Sm (fun z => (it z).2.1) nm - Sm g nm := Sm_sub nm
    have hps := hp.s
    unfold m_shrunk
    simp only [pick1 nd hl, pick0 nd hl, pick4' nd hl, bs, lesser_ok nd hl self, mp_sum]
    rw [e]
    simp only [bs, lesser_ok nd hl self, mp_sum]
    by_cases h2 : room < Sm (fun z => (it z).2.1 - g z) nm
    · rw [if_pos (decide_eq_true h2), ones_ok nd hl]
      simp only [bs]
      have sg0 : 0 ≤ Sm g nm := Sm_nn hp.b0
      obtain ⟨g2, lv2, e2, hp2⟩ := pour_fn nd hl ok (w := fun _ => 1) (c := fun z => (it z).2.1 - g z - (it z).1) (xs := nm) (room := Sm (fun z => (it z).2.1 - g z) nm - room) self nd (fun _ _ => by omega) (fun z hz => by
        have := hp.b0 z hz
        have := hp.b1 z hz
        have := (hi z hz).w1
        show 0 ≤ (it z).2.1 - g z - (it z).1 ∧ _
        omega) (by omega) (by omega)
      rw [e2]
      simp only [bs, lesser_ok nd hl self]
      rw [appO_ok (Nat.le_of_ble_eq_true rfl)]
      exact .inr ⟨h2, g2, lv2, rfl, hp2, rfl⟩
    · rw [if_neg (by rw [decide_eq_true_eq]; exact h2)]
      exact .inl ⟨by omega, rfl⟩
  · rw [if_neg (by rw [decide_eq_true_eq]; exact hs)]
    refine .inr (.inr ⟨by omega, by omega, ?_⟩)
    cases m_given_way room (mi nm it) <;> rfl
end
/-! pairs of two lists -/
theorem zip_at {α β : Type} {xs : List α} {ys : List β} (h : xs.length = ys.length) {i : Nat} (hi : i < (zipI xs ys).length) : (zipI xs ys)[i] = (xs[i]'(by simp [zipI] at hi; omega), ys[i]'(by simp [zipI] at hi; omega), ()) := by simp [zipI]
theorem zip_len {α β : Type} {xs : List α} {ys : List β} (h : xs.length = ys.length) : (zipI xs ys).length = xs.length := by simp [zipI]; omega
/-! items drawn, and the room -/
theorem item_ok (n : Int) : ∃ t, m__law_item n = some t ∧ Bd t := by
  unfold m__law_item
  rw [pick3 _ _ _ (by omega) (by omega)]
  simp only [bs]
  generalize hfar : (if n % 3 = 0 then (12 : Int) else if n % 3 = 1 then 100 else 10000) = far
  have hf : 12 ≤ far ∧ far ≤ 10000 := by
    rw [← hfar]
    split
    · omega
    · split <;> omega
  have mod : ∀ x : Int, modO x far = some (x % far) := fun x => modO_ok (by omega)
  simp only [mod, bs]
  rw [pick2 _ _ (by omega) (by omega)]
  simp only [bs]
  rw [pick2 _ _ (by omega) (by omega)]
  simp only [bs]
  have n0 : ∀ x : Int, 0 ≤ x % far := fun x => Int.emod_nonneg _ (by omega)
  have n1 : ∀ x : Int, x % far < far := fun x => Int.emod_lt_of_pos _ (by omega)
  have a0 := n0 (n / 3)
  have a1 := n1 (n / 3)
  have b0 := n0 (n / 3 / 10000)
  have b1 := n1 (n / 3 / 10000)
  have c0 := n0 (n / 3 / 100000000)
  have c1 := n1 (n / 3 / 100000000)
  refine ⟨_, rfl, ⟨?_, ?_, ?_, ?_, ?_, ?_, ?_, ?_, ?_, ?_, ?_, ?_⟩⟩ <;> simp only <;> first | omega | (split <;> omega)
theorem items_ok {ns : List Int} {nm : List Str} (nd : nm.Nodup) (hl : nm.length < 60) : ∃ it, m__law_items (Fz.mk ns) nm = some (mi nm it) ∧ ∀ z ∈ nm, Bd (it z) := by
  obtain ⟨fs, ef, fl, _⟩ := draws_ok (ns := ns) (first := 2) (many := (nm.length : Int)) (base := 1200000000000000000) (by omega) (by omega) (by omega) (by omega) (by omega)
  have hz : nm.length = fs.length := by omega
  unfold m__law_items
  rw [show (12 : Int) * 100000000000000000 = 1200000000000000000 by omega, ef]
  simp only [bs]
  obtain ⟨d, e, h1, h2⟩ := forS_ix (f := m__law_items_L1) (xs := zipI nm fs) (fun i (d : Dc Str It) => d.l.map (·.1) = nm.take i ∧ ∀ kv ∈ d.l, Bd kv.2) (s := Dc.mk []) ⟨rfl, fun kv h => nomatch h⟩ (fun i hi d hd => by
    obtain ⟨h1, h2⟩ := hd
    rw [zip_at hz hi]
    rw [zip_len hz] at hi
    have hx : nm[i]? = some nm[i] := List.getElem?_eq_getElem hi
    have hni := take_nodup nd hi
    generalize fs[i]'(by omega) = y
    generalize nm[i] = x at hx hni
    obtain ⟨t, et, ht⟩ := item_ok y
    have len1 : d.l.length ≤ i := by
      have := congrArg List.length h1
      rw [List.length_map, List.length_take] at this
      omega
    have new1 : ∀ kv ∈ d.l, kv.1 ≠ x := fun kv hk z => hni (by rw [← h1, ← z]; exact List.mem_map.mpr ⟨kv, hk, rfl⟩)
    refine ⟨⟨d.l ++ [(x, t)]⟩, ?_, ?_, fun kv hk => ?_⟩
    · unfold m__law_items_L1
      simp only [et, bs]
      rw [putO_ok (by omega), put_new t new1]
      rfl
    · show (d.l ++ [(x, t)]).map (·.1) = _
      rw [List.map_append, h1, List.take_succ, hx]
      rfl
    · rcases List.mem_append.mp hk with hk | hk
      · exact h2 kv hk
      · rw [List.mem_singleton.mp hk]
        exact ht)
  rw [e]
  rw [zip_len hz, List.take_length] at h1
  have key : ∀ kv ∈ d.l, Wk.getD d.l kv.1 = some kv.2 := fun kv hk => getD_mem (h1 ▸ nd) hk
  have hd : d = mi nm fun z => (Wk.getD d.l z).getD (0, 0, 0, 0, 0, 0, ()) := by
    unfold mi
    rw [← h1, List.map_map]
    obtain ⟨l⟩ := d
    refine congrArg Dc.mk ((List.map_id l).symm.trans (List.map_congr_left fun kv hk => ?_))
    have := key kv hk
    show kv = (kv.1, (Wk.getD l kv.1).getD _)
    rw [this]
    rfl
  refine ⟨fun z => (Wk.getD d.l z).getD (0, 0, 0, 0, 0, 0, ()), ?_, fun z hz => ?_⟩
  · rw [bs, ← hd]
  · rw [← h1] at hz
    obtain ⟨kv, hk, rfl⟩ := List.mem_map.mp hz
    show Bd ((Wk.getD d.l kv.1).getD _)
    rw [key kv hk]
    exact h2 kv hk
theorem room_ok {nm : List Str} {it : Str → It} (hl : nm.length < 60) (hi : ∀ z ∈ nm, Bd (it z)) (c : Int) : ∃ room, m__law_room (mi nm it) c = some room ∧ 0 ≤ room ∧ room ≤ 1000000000 := by
  have s0 : 0 ≤ Sm (fun z => (it z).1) nm := Sm_nn fun z hz => (hi z hz).l0
  have s1 : Sm (fun z => (it z).1) nm ≤ Sm (fun z => (it z).2.1) nm := Sm_le fun z hz => (hi z hz).w0
  have s2 : Sm (fun z => (it z).2.1) nm ≤ Sm (fun z => (it z).2.2.1) nm := Sm_le fun z hz => (hi z hz).m0
  have s3 : Sm (fun z => (it z).2.2.1) nm ≤ 2000000 := by
    have := Sm_le (f := fun z => (it z).2.2.1) (g := fun _ => 29997) (xs := nm) fun z hz => by
      have := (hi z hz).l1
      have := (hi z hz).w1
      have := (hi z hz).m1
      show (it z).2.2.1 ≤ 29997
      omega
    rw [Sm_const] at this
    omega
  unfold m__law_room
  rw [vals_ok (g := fun t : It => t.1) hl, bs, sum_it, bs, vals_ok (g := fun t : It => t.2.1) hl, bs, sum_it, bs, vals_ok (g := fun t : It => t.2.2.1) hl, bs, sum_it, bs]
  generalize Sm (fun z => (it z).1) nm = L at *
  generalize Sm (fun z => (it z).2.1) nm = W at *
  generalize Sm (fun z => (it z).2.2.1) nm = M at *
  generalize c / 4 * 7 = q
  split
  · rw [modO_ok (by omega)]
    have := Int.emod_nonneg q (show L + 1 ≠ 0 by omega)
    have := Int.emod_lt_of_pos q (show 0 < L + 1 by omega)
    exact ⟨_, rfl, by omega, by omega⟩
  · split
    · rw [modO_ok (by omega)]
      have := Int.emod_nonneg q (show W - L + 1 ≠ 0 by omega)
      have := Int.emod_lt_of_pos q (show 0 < W - L + 1 by omega)
      exact ⟨_, rfl, by omega, by omega⟩
    · split
      · rw [modO_ok (by omega)]
        have := Int.emod_nonneg q (show M - W + 20 ≠ 0 by omega)
        have := Int.emod_lt_of_pos q (show 0 < M - W + 20 by omega)
        exact ⟨_, rfl, by omega, by omega⟩
      · exact ⟨_, rfl, by omega, by omega⟩
/-! shared: the checker tells what share tells, and nothing else -/
def Lb (lv : Option (Int × Int × Unit)) : Prop := ∀ p q, lv = some (p, q, ()) → 0 ≤ p ∧ p ≤ 1000000000 ∧ 0 < q ∧ q ≤ 6400
theorem Lb.ok {lv : Option (Int × Int × Unit)} (h : Lb lv) : okLv lv := fun p q e => by
  have := h p q e
  omega
theorem mp_inj {xs : List Str} {f g : Str → Int} (h : mp xs f = mp xs g) : ∀ z ∈ xs, f z = g z := fun z hz => by
  have := mp_get (f := f) hz
  rw [h, mp_get hz] at this
  exact (Option.some.inj this).symm
theorem pour_none {nm : List Str} {w c : Dc Str Int} {room : Int} (hb : PB nm w c) (r0 : 0 ≤ room) (r1 : room ≤ 1000000000) {g : Str → Int} {lv : Option (Int × Int × Unit)} (e : m_pour room w c = some (mp nm g, lv, ())) (hp : Po nm (wt w) (wt c) room g) (h : Sm g nm < room) : lv = none := by
  rcases pour_ok hb r0 r1 rfl with ⟨_, ep⟩ | ⟨hlt, S, Fx, R, ch, un, a, b, hP, hd, hL, ep⟩
  · have := ep.symm.trans e
    injection this with q
    injection q with _ q
    injection q with q _
    exact q.symm
  · exfalso
    have full := hp.e.resolve_left (by omega)
    have e1 := Sm_filter g (fun z => decide (0 < wt w z)) (srtD nm)
    rw [Sm_perm (f := g) (srtD_perm nm)] at e1
    have e2 : Sm g ((srtD nm).filter fun z => decide (0 < wt w z)) = Sm (wt c) ((srtD nm).filter fun z => decide (0 < wt w z)) := Sm_congr fun z hz => by
      obtain ⟨h1, h2⟩ := List.mem_filter.mp hz
      exact full z ((srtD_perm nm).mem_iff.mp h1) (of_decide_eq_true h2)
    have e3 : Sm g ((srtD nm).filter fun z => !decide (0 < wt w z)) = 0 := Sm_zero fun z hz => by
      obtain ⟨h1, h2⟩ := List.mem_filter.mp hz
      rw [Bool.not_eq_true', decide_eq_false_iff_not] at h2
      have hz := (srtD_perm nm).mem_iff.mp h1
      have := (hb.w0 z hz).1
      exact hp.z z hz (by omega)
    omega
/-- two loops, the second of which may end early -/
theorem forSC_ix {β S1 S2 R : Type} {f1 : β → S1 → Option S1} {f2 : β → S2 → Option (Ctl S2 R)} {xs : List β} {r : R} (P : Nat → S1 → S2 → Prop) (B : Nat → S1 → Prop) {s1 : S1} {s2 : S2} (h0 : P 0 s1 s2)
    (stepP : ∀ (i : Nat) (hi : i < xs.length) s1 s2, P i s1 s2 → ∃ s1', f1 xs[i] s1 = some s1' ∧ ((∃ s2', f2 xs[i] s2 = some (.nx s2') ∧ P (i + 1) s1' s2') ∨ (f2 xs[i] s2 = some (.rt r) ∧ B (i + 1) s1')))
    (stepB : ∀ (i : Nat) (hi : i < xs.length) s1, B i s1 → ∃ s1', f1 xs[i] s1 = some s1' ∧ B (i + 1) s1') :
    ∃ r1, forS f1 xs s1 = some r1 ∧ ((∃ r2, forC f2 xs s2 = some (.nx r2) ∧ P xs.length r1 r2) ∨ (forC f2 xs s2 = some (.rt r) ∧ B xs.length r1)) := by
  have keyB : ∀ (m i : Nat) (s1 : S1), i + m = xs.length → B i s1 → ∃ r1, forS f1 (xs.drop i) s1 = some r1 ∧ B xs.length r1 := by
    intro m
    induction m with
    | zero =>
      intro i s1 hi hp
      have e : i = xs.length := by omega
      subst e
      rw [List.drop_length]
      exact ⟨s1, rfl, hp⟩
    | succ m ih =>
      intro i s1 hi hp
      have hl : i < xs.length := by omega
      obtain ⟨a, e, hp'⟩ := stepB i hl s1 hp
      obtain ⟨r1, h1, h2⟩ := ih (i + 1) a (by omega) hp'
      refine ⟨r1, ?_, h2⟩
      rw [List.drop_eq_getElem_cons hl, forS_cons e]
      exact h1
  have key : ∀ (m i : Nat) (s1 : S1) (s2 : S2), i + m = xs.length → P i s1 s2 → ∃ r1, forS f1 (xs.drop i) s1 = some r1 ∧ ((∃ r2, forC f2 (xs.drop i) s2 = some (.nx r2) ∧ P xs.length r1 r2) ∨ (forC f2 (xs.drop i) s2 = some (.rt r) ∧ B xs.length r1)) := by
    intro m
    induction m with
    | zero =>
      intro i s1 s2 hi hp
      have e : i = xs.length := by omega
      subst e
      rw [List.drop_length]
      exact ⟨s1, rfl, .inl ⟨s2, rfl, hp⟩⟩
    | succ m ih =>
      intro i s1 s2 hi hp
      have hl : i < xs.length := by omega
      obtain ⟨a, e, hp'⟩ := stepP i hl s1 s2 hp
      rcases hp' with ⟨b, e2, hp'⟩ | ⟨e2, hb⟩
      · obtain ⟨r1, h1, h2⟩ := ih (i + 1) a b (by omega) hp'
        refine ⟨r1, ?_, ?_⟩
        · rw [List.drop_eq_getElem_cons hl, forS_cons e]
          exact h1
        · rw [List.drop_eq_getElem_cons hl, forC_cons e2]
          exact h2
      · obtain ⟨r1, h1, h2⟩ := keyB m (i + 1) a (by omega) hb
        refine ⟨r1, ?_, .inr ⟨?_, h2⟩⟩
        · rw [List.drop_eq_getElem_cons hl, forS_cons e]
          exact h1
        · rw [List.drop_eq_getElem_cons hl, forC_rt e2]
  have := key xs.length 0 s1 s2 (by omega) h0
  rwa [List.drop_zero] at this
section
variable {nm : List Str} {it : Str → It} {room : Int} (nd : nm.Nodup) (hl : nm.length < 60) (ok : ∀ z ∈ nm, PyData.strOk z = true) (hi : ∀ z ∈ nm, Bd (it z))
include nd hl ok
theorem pour_facts {w c : Str → Int} {xs : List Str} {room : Int} (hx : ∀ z ∈ xs, z ∈ nm) (ndx : xs.Nodup) (hw : ∀ z ∈ xs, 0 ≤ w z ∧ w z ≤ 99) (hc : ∀ z ∈ xs, 0 ≤ c z ∧ c z ≤ 1000000) (r0 : 0 ≤ room) (r1 : room ≤ 1000000000)
    {g : Str → Int} {lv : Option (Int × Int × Unit)} (e : m_pour room (mp xs w) (mp xs c) = some (mp xs g, lv, ())) (hp : Po xs w c room g) :
    Lb lv ∧ (Sm g xs < room → lv = none) ∧ ∀ (sz : Str → Int) (lv' : Option (Int × Int × Unit)), okLv lv' → m_poured room (mp xs w) (mp xs c) (mp xs sz) lv' = some (decide ((∀ z ∈ xs, sz z = g z) ∧ lv' = lv)) := by
  have hb := pb_mk nd hl ok hx ndx hw hc
  obtain ⟨sz0, lv0, e0, hl0, hp0⟩ := poured_ok hb r0 r1
  have q := e0.symm.trans e
  injection q with q
  injection q with q1 q
  injection q with q2 _
  subst q2
  have q1 := mp_inj q1
  refine ⟨hl0, fun h => pour_none hb r0 r1 e ⟨hp.b0, fun z hz => by rw [wt_mp hz]; exact hp.b1 z hz, fun z hz h0 => hp.z z hz (by rwa [wt_mp hz] at h0), hp.s, hp.e.imp id fun hf z hz h0 => by rw [wt_mp hz] at h0 ⊢; exact hf z hz h0⟩ h, fun sz lv' h => ?_⟩
  rw [hp0 sz lv' h]
  exact congrArg some (decide_eq_decide.mpr ⟨fun ⟨a, b⟩ => ⟨fun z hz => (a z hz).trans (q1 z hz), b⟩, fun ⟨a, b⟩ => ⟨fun z hz => (a z hz).trans (q1 z hz).symm, b⟩⟩)
include hi
theorem way3_ok (r0 : 0 ≤ room) (hlt : room < Sm (fun z => (it z).1) nm) : ∃ f0 lvs0, m_given_way room (mi nm it) = some (mp nm f0, 0, lvs0, ()) ∧ lvs0.length ≤ 10 ∧ (∀ lv ∈ lvs0, Lb lv) ∧
    ∀ (f : Str → Int) (L : List (Option (Int × Int × Unit))), (∀ lv ∈ L, okLv lv) → L.length < 1000 → m_way_holds room (mi nm it) (mp nm f) L = some (decide ((∀ z ∈ nm, f z = f0 z) ∧ L = lvs0)) := by
  have sb : Sm (fun z => (it z).1) nm ≤ 1000000 := by
    have := Sm_le (f := fun z => (it z).1) (g := fun _ => 9999) (xs := nm) fun z hz => (hi z hz).l1
    rw [Sm_const] at this
    omega
  have h10 : (irange 0 10).length = 10 := by simp [irange]
  have hx : ∀ r : Int, ∀ z ∈ rnk nm it r, z ∈ nm := fun r z hz => (List.mem_filter.mp hz).1
  have ndx : ∀ r : Int, (rnk nm it r).Nodup := fun r => List.Pairwise.filter _ nd
  have lx : ∀ r : Int, (rnk nm it r).length < 60 := fun r => Nat.lt_of_le_of_lt (List.length_filter_le _ _) hl
  have s0 : ∀ r : Int, 0 ≤ Sm (fun z => (it z).1) (rnk nm it r) := fun r => Sm_nn fun z hz => (hi z (hx r z hz)).l0
  have facts : ∀ (r lack : Int) {g : Str → Int} {lv : Option (Int × Int × Unit)}, 0 < lack → lack ≤ 1000000000 → m_pour (min lack (Sm (fun z => (it z).1) (rnk nm it r))) (mp (rnk nm it r) fun _ => 1) (mp (rnk nm it r) fun z => (it z).1) = some (mp (rnk nm it r) g, lv, ()) → Po (rnk nm it r) (fun _ => 1) (fun z => (it z).1) (min lack (Sm (fun z => (it z).1) (rnk nm it r))) g → _ :=
    fun r lack {g lv} h0 h1 e hp => pour_facts nd hl ok (hx r) (ndx r) (fun _ _ => by omega) (fun z hz => by have := (hi z (hx r z hz)).l0; have := (hi z (hx r z hz)).l1; omega) (by have := s0 r; omega) (by omega) e hp
  obtain ⟨s, e, lack, lvs, f0, rfl, hw, hlv, hlb⟩ := forS_ix (f := m_given_way_L1 (mi nm it)) (xs := irange 0 10) (fun i (s : Int × List (Option (Int × Int × Unit)) × Dc Str Int) => ∃ lack lvs f, s = (lack, lvs, mp nm f) ∧ Wy nm it (Sm (fun z => (it z).1) nm - room) (i : Int) lack f ∧ lvs.length ≤ i ∧ ∀ lv ∈ lvs, Lb lv)
    (s := (Sm (fun z => (it z).1) nm - room, [], mp nm fun z => (it z).1)) ⟨_, _, _, rfl, way_start hi _ (by omega), Nat.le_refl _, fun lv h => nomatch h⟩ (fun i hi2 s hs => by
    obtain ⟨lack, lvs, f, rfl, hw, hlv, hlb⟩ := hs
    rw [irange10 i hi2]
    have hi3 : i < 10 := by omega
    have hl1 := hw.l1
    by_cases hgo : 0 < lack ∧ rnk nm it (i : Int) ≠ []
    · obtain ⟨g, lv, e1, hp, e2⟩ := way_go nd hl ok hi (f := f) (lvs := lvs) hgo.1 hgo.2 (by omega) (by omega)
      have hf := facts i lack hgo.1 (by omega) e1 hp
      exact ⟨_, e2, _, _, _, rfl, way_on nd hl ok hi hw hgo.1 hp, by rw [List.length_append]; simp; omega, fun u hu => by
        rcases List.mem_append.mp hu with hu | hu
        · exact hlb u hu
        · rw [List.mem_singleton.mp hu]
          exact hf.1⟩
    · exact ⟨_, way_stay nd hl ok hi hgo, _, _, _, rfl, way_keep nd hl ok hi hw hgo, by omega, hlb⟩)
  refine ⟨f0, lvs, ?_, by omega, hlb, fun f L hL lL => ?_⟩
  · unfold m_given_way
    simp only [pick0 nd hl, bs, mp_sum]
    rw [rngO_ok (by omega) (by omega) (by omega) (by omega), bs, e]
    rfl
  · obtain ⟨r1, e1, hh⟩ := forSC_ix (f1 := m_given_way_L1 (mi nm it)) (f2 := m_way_holds_L1 (mi nm it) (mp nm f) L) (xs := irange 0 10) (r := false)
      (fun i (s : Int × List (Option (Int × Int × Unit)) × Dc Str Int) (s2 : Int × Int) => ∃ lack lvs cur, s = (lack, lvs, mp nm cur) ∧ Wy nm it (Sm (fun z => (it z).1) nm - room) (i : Int) lack cur ∧ lvs.length ≤ i ∧ s2 = (lack, (lvs.length : Int)) ∧ lvs <+: L ∧ ∀ z ∈ nm, (it z).2.2.2.2.2.1 < (i : Int) → f z = cur z)
      (fun i (s : Int × List (Option (Int × Int × Unit)) × Dc Str Int) => ∃ lack lvs cur, s = (lack, lvs, mp nm cur) ∧ Wy nm it (Sm (fun z => (it z).1) nm - room) (i : Int) lack cur ∧ lvs.length ≤ i ∧ ((∃ z ∈ nm, (it z).2.2.2.2.2.1 < (i : Int) ∧ f z ≠ cur z) ∨ ¬ lvs <+: L))
      (s1 := (Sm (fun z => (it z).1) nm - room, [], mp nm fun z => (it z).1)) (s2 := (Sm (fun z => (it z).1) nm - room, 0)) ⟨_, _, _, rfl, way_start hi _ (by omega), Nat.le_refl _, rfl, List.nil_prefix, fun z hz h => by have := (hi z hz).k0; omega⟩
      (fun i hi2 s s2 hs => by
        obtain ⟨lack, lvs, cur, rfl, hw, hlv, rfl, hpre, hcur⟩ := hs
        rw [irange10 i hi2]
        have hi3 : i < 10 := by omega
        have hl1 := hw.l1
        have keepc : ∀ z ∈ nm, z ∉ rnk nm it (i : Int) → (it z).2.2.2.2.2.1 < (i : Int) + 1 → (it z).2.2.2.2.2.1 < (i : Int) := fun z hz hn h => by
          have : ¬ (it z).2.2.2.2.2.1 = (i : Int) := fun e => hn ((rn_mem nd hl ok hi).mpr ⟨hz, e⟩)
          omega
        have er : m_of_rank (mi nm it) (i : Int) = some (mp (rnk nm it (i : Int)) fun z => (it z).1) := of_rank_ok nd hl (i : Int)
        by_cases hgo : 0 < lack ∧ rnk nm it (i : Int) ≠ []
        · obtain ⟨g, lv, e1, hp, e2⟩ := way_go nd hl ok hi (f := cur) (lvs := lvs) hgo.1 hgo.2 (by omega) (by omega)
          have hf := facts i lack hgo.1 (by omega) e1 hp
          have hon := way_on nd hl ok hi hw hgo.1 hp
          have hlen : (lvs ++ [lv]).length ≤ i + 1 := by rw [List.length_append]; simp; omega
          refine ⟨_, e2, ?_⟩
          have ef : m_way_holds_L1 (mi nm it) (mp nm f) L (i : Int) (lack, (lvs.length : Int)) = some (if h : lvs.length < L.length then (if (∀ z ∈ rnk nm it (i : Int), (it z).1 - f z = g z) ∧ L[lvs.length] = lv then .nx (lack - min lack (Sm (fun z => (it z).1) (rnk nm it (i : Int))), (lvs.length : Int) + 1) else .rt false) else .rt false) := by
            unfold m_way_holds_L1
            simp only [er, bs, qe_nil, mp_sum]
            rw [if_pos (by rw [Bool.and_eq_true, decide_eq_true_eq, Bool.not_eq_true', decide_eq_false_iff_not]; exact hgo), lesser_ok (ndx i) (lx i) (hx i), bs]
            by_cases hlt2 : lvs.length < L.length
            · rw [if_neg (by rw [decide_eq_true_eq]; omega), ones_ok (ndx i) (lx i), bs]
              have eat : atI L (lvs.length : Int) = some L[lvs.length] := by
                rw [atI_ok (by omega) (by omega)]
                exact List.getElem?_eq_getElem _
              rw [eat, bs, hf.2.2 _ _ (hL _ (List.getElem_mem _)), bs, bs, dif_pos hlt2]
              by_cases hq : (∀ z ∈ rnk nm it (i : Int), (it z).1 - f z = g z) ∧ L[lvs.length] = lv
              · rw [decide_eq_true hq, if_pos hq]
                rfl
              · rw [decide_eq_false hq, if_neg hq]
                rfl
            · rw [if_pos (decide_eq_true (by omega)), bs, dif_neg hlt2]
              rfl
          by_cases hlt2 : lvs.length < L.length
          · rw [dif_pos hlt2] at ef
            by_cases hq : (∀ z ∈ rnk nm it (i : Int), (it z).1 - f z = g z) ∧ L[lvs.length] = lv
            · rw [if_pos hq] at ef
              refine .inl ⟨_, ef, _, _, _, rfl, hon, hlen, by rw [List.length_append]; rfl, ?_, fun z hz hr => ?_⟩
              · obtain ⟨t, rfl⟩ := hpre
                have hq2 := hq.2
                rw [List.getElem_append_right (Nat.le_refl _)] at hq2
                cases t with
                | nil =>
                  rw [List.append_nil] at hlt2
                  omega
                | cons a t =>
                  simp at hq2
                  subst hq2
                  exact ⟨t, by rw [List.append_assoc]; rfl⟩
              · show f z = if z ∈ rnk nm it (i : Int) then (it z).1 - g z else cur z
                split
                · rename_i hm
                  have := hq.1 z hm
                  omega
                · rename_i hm
                  exact hcur z hz (keepc z hz hm (by omega))
            · rw [if_neg hq] at ef
              refine .inr ⟨ef, _, _, _, rfl, hon, hlen, ?_⟩
              by_cases ha : ∀ z ∈ rnk nm it (i : Int), (it z).1 - f z = g z
              · refine .inr fun hp2 => hq ⟨ha, ?_⟩
                obtain ⟨t, ht⟩ := hp2
                subst ht
                simp
              · obtain ⟨z, ha⟩ := Classical.not_forall.mp ha
                obtain ⟨hm, ha⟩ := Classical.not_imp.mp ha
                refine .inl ⟨z, hx _ z hm, ?_, ?_⟩
                · have := ((rn_mem nd hl ok hi).mp hm).2
                  omega
                · show f z ≠ if z ∈ rnk nm it (i : Int) then (it z).1 - g z else cur z
                  rw [if_pos hm]
                  omega
          · rw [dif_neg hlt2] at ef
            refine .inr ⟨ef, _, _, _, rfl, hon, hlen, .inr fun hp2 => ?_⟩
            have := hp2.length_le
            rw [List.length_append] at this
            simp at this
            omega
        · refine ⟨_, way_stay nd hl ok hi hgo, ?_⟩
          have hk := way_keep nd hl ok hi hw hgo
          have curm : ∀ z ∈ rnk nm it (i : Int), cur z = (it z).1 := fun z hz => hw.b z (hx _ z hz) (by have := ((rn_mem nd hl ok hi).mp hz).2; omega)
          have ef : m_way_holds_L1 (mi nm it) (mp nm f) L (i : Int) (lack, (lvs.length : Int)) = some (if ∀ z ∈ rnk nm it (i : Int), f z = (it z).1 then .nx (lack, (lvs.length : Int)) else .rt false) := by
            unfold m_way_holds_L1
            simp only [er, bs, qe_nil, mp_sum]
            rw [if_neg (fun q => hgo (by
              rw [Bool.and_eq_true, decide_eq_true_eq, Bool.not_eq_true', decide_eq_false_iff_not] at q
              exact q))]
            rw [mp_keys, lcM_all (fun z => !decide (f z = (it z).1)) (by have := lx i; omega) (fun z hz => by rw [mp_get (hx _ z hz), bs, mp_get hz, bs]), bs]
            by_cases ha : ∀ z ∈ rnk nm it (i : Int), f z = (it z).1
            · rw [if_pos ha, if_neg (by
                rw [List.any_map, List.any_eq_true]
                rintro ⟨z, hz, h⟩
                have h : (!decide (f z = (it z).1)) = true := h
                rw [decide_eq_true (ha z hz)] at h
                cases h)]
            · rw [if_neg ha, if_pos (by
                rw [List.any_map, List.any_eq_true]
                obtain ⟨z, ha⟩ := Classical.not_forall.mp ha
                obtain ⟨hm, ha⟩ := Classical.not_imp.mp ha
                refine ⟨z, hm, ?_⟩
                show (!decide (f z = (it z).1)) = true
                rw [decide_eq_false ha]
                rfl)]
          by_cases ha : ∀ z ∈ rnk nm it (i : Int), f z = (it z).1
          · rw [if_pos ha] at ef
            refine .inl ⟨_, ef, _, _, _, rfl, hk, by omega, rfl, hpre, fun z hz hr => ?_⟩
            by_cases hm : z ∈ rnk nm it (i : Int)
            · rw [ha z hm, curm z hm]
            · exact hcur z hz (keepc z hz hm (by omega))
          · rw [if_neg ha] at ef
            obtain ⟨z, ha⟩ := Classical.not_forall.mp ha
            obtain ⟨hm, ha⟩ := Classical.not_imp.mp ha
            refine .inr ⟨ef, _, _, _, rfl, hk, by omega, .inl ⟨z, hx _ z hm, ?_, ?_⟩⟩
            · have := ((rn_mem nd hl ok hi).mp hm).2
              omega
            · rw [curm z hm]
              exact ha)
      (fun i hi2 s hs => by
        obtain ⟨lack, lvs, cur, rfl, hw, hlv, hbad⟩ := hs
        rw [irange10 i hi2]
        have hi3 : i < 10 := by omega
        have hl1 := hw.l1
        by_cases hgo : 0 < lack ∧ rnk nm it (i : Int) ≠ []
        · obtain ⟨g, lv, e1, hp, e2⟩ := way_go nd hl ok hi (f := cur) (lvs := lvs) hgo.1 hgo.2 (by omega) (by omega)
          refine ⟨_, e2, _, _, _, rfl, way_on nd hl ok hi hw hgo.1 hp, by rw [List.length_append]; simp; omega, ?_⟩
          rcases hbad with ⟨z, hz, hr, hne⟩ | hbad
          · refine .inl ⟨z, hz, by omega, ?_⟩
            show f z ≠ if z ∈ rnk nm it (i : Int) then (it z).1 - g z else cur z
            rw [if_neg fun hm => by have := ((rn_mem nd hl ok hi).mp hm).2; omega]
            exact hne
          · exact .inr fun h => hbad ((List.prefix_append lvs [lv]).trans h)
        · refine ⟨_, way_stay nd hl ok hi hgo, _, _, _, rfl, way_keep nd hl ok hi hw hgo, by omega, ?_⟩
          rcases hbad with ⟨z, hz, hr, hne⟩ | hbad
          · exact .inl ⟨z, hz, by omega, hne⟩
          · exact .inr hbad)
    unfold m_way_holds
    rw [mi_vals, lcM_all (f := fun t : It => some t.1) (fun t : It => t.1) (by rw [List.length_map]; omega) (fun _ _ => rfl)]
    simp only [bs, sum_it]
    rw [rngO_ok (by omega) (by omega) (by omega) (by omega), bs]
    have same := e.symm.trans e1
    rcases hh with ⟨r2, e2, lack2, lvs2, cur, rfl, hw2, hlv2, rfl, hpre, hcur⟩ | ⟨e2, lack2, lvs2, cur, rfl, hw2, hlv2, hbad⟩
    · injection same with same
      injection same with _ same
      injection same with q1 q2
      subst q1
      have q2 := mp_inj q2
      rw [e2]
      simp only [bs]
      refine congrArg some (decide_eq_decide.mpr ⟨fun h => ⟨fun z hz => ?_, ?_⟩, fun h => by rw [h.2]⟩)
      · rw [hcur z hz (by have := (hi z hz).k1; omega), q2 z hz]
      · exact (hpre.eq_of_length (by omega)).symm
    · injection same with same
      injection same with _ same
      injection same with q1 q2
      subst q1
      have q2 := mp_inj q2
      rw [e2]
      refine congrArg some (decide_eq_false fun h => ?_).symm
      rcases hbad with ⟨z, hz, _, hne⟩ | hbad
      · exact hne ((h.1 z hz).trans (q2 z hz))
      · exact hbad (by rw [h.2]; exact List.prefix_refl _)
end
/-! shared, in its three ways -/
section
variable {nm : List Str} {it : Str → It} {room : Int} (nd : nm.Nodup) (hl : nm.length < 60) (ok : ∀ z ∈ nm, PyData.strOk z = true) (hi : ∀ z ∈ nm, Bd (it z))
def fst (it : Str → It) (z : Str) : Int := ((it z).2.1 - (it z).1) * (if decide (0 < (it z).2.2.2.2.1) = true then (1 : Int) else 0)
theorem fst_pos {z : Str} (h : 0 < (it z).2.2.2.2.1) : fst it z = (it z).2.1 - (it z).1 := by
  unfold fst
  rw [if_pos (decide_eq_true h), Int.mul_one]
theorem fst_zero {z : Str} (h : ¬ 0 < (it z).2.2.2.2.1) : fst it z = 0 := by
  unfold fst
  rw [if_neg (by rw [decide_eq_true_eq]; exact h), Int.mul_zero]
include nd hl hi in
theorem first_ok : forS (m_shrunk_holds_L1 (mp nm fun z => (it z).2.1 - (it z).1) (mp nm fun z => (it z).2.2.2.2.1)) nm (Dc.mk []) = some (mp nm (fst it)) := by
  refine build (f := fst it) (fun z hz d => ?_) nd (by omega)
  have := (hi z hz).w0
  have := (hi z hz).w1
  unfold m_shrunk_holds_L1
  rw [mp_get hz, bs, mp_get hz, bs, mulO_ok (by omega) (by omega), bs]
  show (putO d z (fst it z)).bind _ = _
  cases putO d z (fst it z) <;> rfl
include nd hl ok hi
theorem shared_ok (r0 : 0 ≤ room) (r1 : room ≤ 1000000000) : ∃ f0 over0 lvs0, m_share room (mi nm it) = some (mp nm f0, over0, lvs0, ()) ∧ lvs0.length ≤ 10 ∧ (∀ lv ∈ lvs0, Lb lv) ∧
    ∀ (f : Str → Int) (o : Int) (L : List (Option (Int × Int × Unit))), (∀ lv ∈ L, okLv lv) → L.length < 1000 → m_shared room (mi nm it) (mp nm f) o L = some (decide ((∀ z ∈ nm, f z = f0 z) ∧ o = over0 ∧ L = lvs0)) := by
  have self : ∀ z ∈ nm, z ∈ nm := fun _ h => h
  have sw : Sm (fun z => (it z).2.1) nm ≤ 2000000 := by
    have := Sm_le (f := fun z => (it z).2.1) (g := fun _ => 19998) (xs := nm) fun z hz => by have := (hi z hz).l1; have := (hi z hz).w1; show (it z).2.1 ≤ 19998; omega
    rw [Sm_const] at this
    omega
  have sw0 : 0 ≤ Sm (fun z => (it z).2.1) nm := Sm_nn fun z hz => by have := (hi z hz).l0; have := (hi z hz).w0; show 0 ≤ (it z).2.1; omega
  rcases share_ok nd hl ok hi r0 r1 with ⟨h, g, lv, e, hp, es⟩ | ⟨h, h2, g, lv, e, hp, hh⟩ | ⟨h, h2, es⟩
  · have facts := pour_facts nd hl ok self nd (fun z hz => ⟨(hi z hz).g0, (hi z hz).g1⟩) (fun z hz => by have := (hi z hz).m0; have := (hi z hz).m1; show 0 ≤ (it z).2.2.1 - (it z).2.1 ∧ _; omega) (by omega) (by omega) e hp
    refine ⟨_, _, _, es, Nat.le_of_ble_eq_true rfl, fun u hu => (List.mem_singleton.mp hu) ▸ facts.1, fun f o L hL hlen => ?_⟩
    unfold m_shared
    rw [vals_ok (g := fun t : It => t.2.1) hl, bs, sum_it, if_pos (decide_eq_true h)]
    unfold m_grown_holds
    simp only [pick1 nd hl, bs, lesser_ok nd hl self, mp_sum]
    by_cases hc : L.length = 1 ∧ o = room - Sm f nm
    · obtain ⟨x, rfl⟩ := List.length_eq_one_iff.mp hc.1
      rw [if_neg (by rw [decide_eq_true (show (([x] : List (Option (Int × Int × Unit))).length : Int) = 1 from rfl), decide_eq_true hc.2]; decide)]
      simp only [pick3' nd hl, pick2' nd hl, bs, lesser_ok nd hl self, mp_sum]
      rw [show atI [x] (0 : Int) = some x from rfl, bs, facts.2.2 _ _ (hL x List.mem_cons_self)]
      simp only [bs]
      refine congrArg some (decide_eq_decide.mpr ⟨fun ⟨a, b⟩ => ?_, fun ⟨a, _, b⟩ => ⟨fun z hz => by have := a z hz; omega, (List.cons.inj b).1⟩⟩)
      have a : ∀ z ∈ nm, f z = (it z).2.1 + g z := fun z hz => by have := a z hz; omega
      exact ⟨a, by rw [hc.2, Sm_congr a], by rw [b]⟩
    · rw [if_pos (by
        rw [Bool.or_eq_true, Bool.not_eq_true', Bool.not_eq_true', decide_eq_false_iff_not, decide_eq_false_iff_not]
        by_cases q : L.length = 1
        · exact .inr fun q2 => hc ⟨q, q2⟩
        · exact .inl (by omega))]
      refine congrArg some (decide_eq_false fun ⟨a, b, c⟩ => hc ⟨by rw [c]; rfl, ?_⟩).symm
      rw [b, Sm_congr a]
  · have facts := pour_facts nd hl ok self nd (fun z hz => ⟨(hi z hz).s0, (hi z hz).s1⟩) (fun z hz => by have := (hi z hz).w0; have := (hi z hz).w1; show 0 ≤ (it z).2.1 - (it z).1 ∧ _; omega) (by omega) (by omega) e hp
    have sg : Sm (fun z => (it z).2.1 - g z) nm = Sm (fun z => (it z).2.1) nm - Sm g nm := Sm_sub nm
    have gle : ∀ z ∈ nm, g z ≤ fst it z := fun z hz => by
      by_cases q : 0 < (it z).2.2.2.2.1
      · rw [fst_pos q]
        exact hp.b1 z hz
      · rw [fst_zero q, hp.z z hz (by have := (hi z hz).s0; omega)]
        omega
    have sgle : Sm g nm ≤ Sm (fst it) nm := Sm_le gle
    rcases hh with ⟨hs, es⟩ | ⟨hs, g2, lv2, e2, hp2, es⟩
    · refine ⟨_, _, _, es, Nat.le_of_ble_eq_true rfl, fun u hu => (List.mem_singleton.mp hu) ▸ facts.1, fun f o L hL hlen => ?_⟩
      unfold m_shared
      rw [vals_ok (g := fun t : It => t.2.1) hl, bs, sum_it, if_neg (by rw [decide_eq_true_eq]; omega)]
      by_cases ho : o = 0
      · rw [if_neg (by rw [decide_eq_true ho]; decide), vals_ok (g := fun t : It => t.1) hl, bs, sum_it, if_pos (decide_eq_true h2)]
        unfold m_shrunk_holds
        simp only [pick1 nd hl, pick0 nd hl, pick4' nd hl, bs, lesser_ok nd hl self, mp_sum, mi_keys, first_ok nd hl hi]
        rw [if_pos (decide_eq_true (by omega))]
        by_cases hc : L.length = 1
        · obtain ⟨x, rfl⟩ := List.length_eq_one_iff.mp hc
          rw [if_pos (decide_eq_true (by rfl)), show atI [x] (0 : Int) = some x from rfl, bs, facts.2.2 _ _ (hL x List.mem_cons_self)]
          simp only [bs]
          refine congrArg some (decide_eq_decide.mpr ⟨fun ⟨a, b⟩ => ⟨fun z hz => by have := a z hz; omega, ho, by rw [b]⟩, fun ⟨a, _, b⟩ => ⟨fun z hz => by have := a z hz; omega, (List.cons.inj b).1⟩⟩)
        · rw [if_neg (by rw [decide_eq_true_eq]; omega)]
          simp only [bs]
          exact congrArg some (decide_eq_false fun ⟨_, _, c⟩ => hc (by rw [c]; rfl)).symm
      · rw [if_pos (by rw [decide_eq_false ho]; rfl)]
        exact congrArg some (decide_eq_false fun ⟨_, b, _⟩ => ho b).symm
    · have full := hp.e.resolve_left (by omega)
      have gfs : ∀ z ∈ nm, g z = fst it z := fun z hz => by
        by_cases q : 0 < (it z).2.2.2.2.1
        · rw [fst_pos q]
          exact full z hz q
        · rw [fst_zero q, hp.z z hz (by have := (hi z hz).s0; omega)]
      have sgf : Sm g nm = Sm (fst it) nm := Sm_congr gfs
      have hnone : lv = none := facts.2.1 (by omega)
      have sg0 : 0 ≤ Sm g nm := Sm_nn hp.b0
      have facts2 := pour_facts nd hl ok self nd (fun _ _ => by omega) (fun z hz => by
        have := hp.b0 z hz
        have := hp.b1 z hz
        have := (hi z hz).w1
        show 0 ≤ (it z).2.1 - g z - (it z).1 ∧ _
        omega) (by omega) (by omega) e2 hp2
      refine ⟨_, _, _, es, Nat.le_of_ble_eq_true rfl, fun u hu => ?_, fun f o L hL hlen => ?_⟩
      · rcases List.mem_cons.mp hu with rfl | hu
        · exact facts.1
        · exact (List.mem_singleton.mp hu) ▸ facts2.1
      unfold m_shared
      rw [vals_ok (g := fun t : It => t.2.1) hl, bs, sum_it, if_neg (by rw [decide_eq_true_eq]; omega)]
      by_cases ho : o = 0
      · rw [if_neg (by rw [decide_eq_true ho]; decide), vals_ok (g := fun t : It => t.1) hl, bs, sum_it, if_pos (decide_eq_true h2)]
        unfold m_shrunk_holds
        simp only [pick1 nd hl, pick0 nd hl, pick4' nd hl, bs, lesser_ok nd hl self, mp_sum, mi_keys, first_ok nd hl hi]
        rw [if_neg (by rw [decide_eq_true_eq]; omega)]
        by_cases hc : L.length = 2
        · obtain ⟨a, b, rfl⟩ : ∃ a b, L = [a, b] := match L, hc with
            | [a, b], _ => ⟨a, b, rfl⟩
          rw [if_neg (by rw [decide_eq_true (show (([a, b] : List (Option (Int × Int × Unit))).length : Int) = 2 from rfl)]; decide), show atI [a, b] (0 : Int) = some a from rfl, bs, bs]
          cases a with
          | some t =>
            rw [if_pos (show (some t).isSome = true from rfl), bs]
            refine congrArg some (decide_eq_false fun ⟨_, _, c⟩ => ?_).symm
            rw [hnone] at c
            cases (List.cons.inj c).1
          | none =>
            rw [if_neg (by decide), onesI_ok nd hl, bs, show atI [none, b] (1 : Int) = some b from rfl, bs]
            rw [show Sm (fun z => (it z).2.1) nm - room - Sm (fst it) nm = Sm (fun z => (it z).2.1 - g z) nm - room by omega]
            rw [mp_congr (nm := nm) (f := fun z => (it z).2.1 - (it z).1 - fst it z) (g := fun z => (it z).2.1 - g z - (it z).1) (fun z hz => by have := gfs z hz; omega)]
            rw [facts2.2.2 _ _ (hL b (List.mem_cons_of_mem _ List.mem_cons_self))]
            simp only [bs]
            refine congrArg some (decide_eq_decide.mpr ⟨fun ⟨x, y⟩ => ⟨fun z hz => by have := x z hz; have := gfs z hz; omega, ho, by rw [y, hnone]⟩, fun ⟨x, _, y⟩ => ⟨fun z hz => by have := x z hz; have := gfs z hz; omega, (List.cons.inj (List.cons.inj y).2).1⟩⟩)
        · rw [if_pos (by rw [decide_eq_false (show ¬ (L.length : Int) = 2 by omega)]; rfl), bs, if_pos rfl]
          exact congrArg some (decide_eq_false fun ⟨_, _, c⟩ => hc (by rw [c]; rfl)).symm
      · rw [if_pos (by rw [decide_eq_false ho]; rfl)]
        exact congrArg some (decide_eq_false fun ⟨_, b, _⟩ => ho b).symm
  · obtain ⟨f0, lvs0, ew, hlen0, hlb, hway⟩ := way3_ok nd hl ok hi r0 h2
    refine ⟨f0, 0, lvs0, es.trans ew, hlen0, hlb, fun f o L hL hlen => ?_⟩
    unfold m_shared
    rw [vals_ok (g := fun t : It => t.2.1) hl, bs, sum_it, if_neg (by rw [decide_eq_true_eq]; omega)]
    by_cases ho : o = 0
    · rw [if_neg (by rw [decide_eq_true ho]; decide), vals_ok (g := fun t : It => t.1) hl, bs, sum_it, if_neg (by rw [decide_eq_true_eq]; omega), hway f L hL hlen]
      simp only [bs]
      exact congrArg some (decide_eq_decide.mpr ⟨fun ⟨a, b⟩ => ⟨a, ho, b⟩, fun ⟨a, _, b⟩ => ⟨a, b⟩⟩)
    · rw [if_pos (by rw [decide_eq_false ho]; rfl)]
      exact congrArg some (decide_eq_false fun ⟨_, b, _⟩ => ho b).symm
end
theorem bent_ok {nm : List Str} (h0 : 0 < nm.length) (hl : nm.length < 1000) (f : Str → Int) (k : Int) : ∃ g, m__law_bent (mp nm f) nm k = some (mp nm g) := by
  unfold m__law_bent
  have l0 : (0 : Int) < nm.length := by omega
  rw [bs, modO_ok l0, bs]
  obtain ⟨x, e1, hx⟩ := atI_some (xs := nm) (i := k / 4 % (nm.length : Int)) (Int.emod_nonneg _ (by omega)) (Int.emod_lt_of_pos _ l0)
  rw [e1, bs, bs, divO_ok l0 (by omega), bs, modO_ok l0, bs]
  obtain ⟨y, e2, hy⟩ := atI_some (xs := nm) (i := k / 4 / (nm.length : Int) % (nm.length : Int)) (Int.emod_nonneg _ (by omega)) (Int.emod_lt_of_pos _ l0)
  rw [e2, bs, bs, bs, divO_ok l0 (by omega), bs, bs]
  have hx := List.mem_of_getElem? hx
  have hy := List.mem_of_getElem? hy
  generalize (1 : Int) + k / 4 / (nm.length : Int) / (nm.length : Int) % 3 = b
  have put : ∀ {z : Str} (v : Int) (f : Str → Int), z ∈ nm → putO (mp nm f) z v = some (mp nm fun u => if u = z then v else f u) := fun v f hz => mp_put v hz (by omega)
  have s1 : ∃ f1, (if (decide ((1 : Int) < k % 4)) = true then ((Wk.getD (mp nm f).l x).bind fun i_708 => (putO (mp nm f) x (i_708 + b)).bind fun bent_here_709 => some bent_here_709) else (some (mp nm f))) = some (mp nm f1) := by
    split
    · rw [mp_get hx, bs, put _ _ hx]
      exact ⟨_, rfl⟩
    · exact ⟨_, rfl⟩
  obtain ⟨f1, e3⟩ := s1
  rw [e3, bs]
  have s2 : ∃ f2, (if (decide (k % 4 = 3)) = true then ((Wk.getD (mp nm f1).l y).bind fun i_714 => (putO (mp nm f1) y (i_714 - b)).bind fun bent_here_715 => some bent_here_715) else (some (mp nm f1))) = some (mp nm f2) := by
    split
    · rw [mp_get hy, bs, put _ _ hy]
      exact ⟨_, rfl⟩
    · exact ⟨_, rfl⟩
  obtain ⟨f2, e4⟩ := s2
  rw [e4, bs]
  exact ⟨f2, rfl⟩
theorem other_ok {lvs : List (Option (Int × Int × Unit))} (h10 : lvs.length ≤ 10) (hlb : ∀ lv ∈ lvs, Lb lv) (k : Int) : ∃ L, m__law_other lvs k = some L ∧ L.length < 1000 ∧ ∀ lv ∈ L, okLv lv := by
  unfold m__law_other
  have l0 : (0 : Int) < (lvs.length : Int) + 1 := by omega
  rw [bs, modO_ok l0, bs, bs, divO_ok l0 (by omega), bs, bs]
  have p0 := Int.emod_nonneg (k / 6) (show (lvs.length : Int) + 1 ≠ 0 by omega)
  have p1 := Int.emod_lt_of_pos (k / 6) l0
  have hb : 1 ≤ 1 + k / 6 / ((lvs.length : Int) + 1) % 4 ∧ 1 + k / 6 / ((lvs.length : Int) + 1) % 4 ≤ 4 := by omega
  generalize k / 6 % ((lvs.length : Int) + 1) = at_ at p0 p1
  generalize 1 + k / 6 / ((lvs.length : Int) + 1) % 4 = b at hb
  have cl : ∀ lo hi : Option Int, (cut lvs lo hi).length ≤ 10 := fun lo hi => Nat.le_trans (cut_len lvs lo hi) h10
  have co : ∀ (lo hi : Option Int), ∀ lv ∈ cut lvs lo hi, okLv lv := fun lo hi lv h => (hlb lv (cut_mem h)).ok
  have cat3 : ∀ (x : Option (Int × Int × Unit)) (hi1 lo2 : Option Int), okLv x → ∃ L, ((catO (cut lvs none hi1) ([x] : List (Option (Int × Int × Unit)))).bind fun c => (catO c (cut lvs lo2 none)).bind fun d => some d) = some L ∧ L.length < 1000 ∧ ∀ lv ∈ L, okLv lv := fun x hi1 lo2 hx => by
    have c1 := cl none hi1
    have c2 := cl lo2 none
    rw [catO_ok (by show _ + 1 ≤ _; omega), bs, catO_ok (by rw [List.length_append]; show _ + 1 + _ ≤ _; omega), bs]
    refine ⟨_, rfl, by rw [List.length_append, List.length_append]; show _ + 1 + _ < _; omega, fun lv h => ?_⟩
    rcases List.mem_append.mp h with h | h
    · rcases List.mem_append.mp h with h | h
      · exact co _ _ lv h
      · rw [List.mem_singleton.mp h]
        exact hx
    · exact co _ _ lv h
  have okp : ∀ p q : Int, 0 ≤ p → p ≤ 1000000010 → 0 < q → q ≤ 6410 → okLv (some (p, q, ())) := fun p q h1 h2 h3 h4 p' q' e => by
    cases e
    omega
  have okn : okLv none := fun p q e => nomatch e
  split
  · have c1 := cl none (some at_)
    have c2 := cl (some (at_ + 1)) none
    rw [catO_ok (by omega), bs]
    refine ⟨_, rfl, by rw [List.length_append]; omega, fun lv h => ?_⟩
    rcases List.mem_append.mp h with h | h
    · exact co _ _ lv h
    · exact co _ _ lv h
  · split
    · rw [pick4 _ _ _ _ (k := b % 4) (by omega) (by omega), bs]
      refine cat3 _ _ _ ?_
      split
      · exact okn
      · split
        · exact okp _ _ (by omega) (by omega) (by omega) (by omega)
        · split
          · exact okp _ _ (by omega) (by omega) (by omega) (by omega)
          · exact okp _ _ (by omega) (by omega) (by omega) (by omega)
    · split
      · rename_i hat
        rw [Bool.and_eq_true, decide_eq_true_eq, decide_eq_true_eq] at hat
        obtain ⟨x, ex, hx⟩ := atI_some (xs := lvs) (i := at_) p0 hat.2
        have hx := hlb x (List.mem_of_getElem? hx)
        rw [bs, ex, bs]
        cases x with
        | none =>
          rw [if_neg (by decide), bs]
          exact cat3 _ _ _ (okp _ _ (by omega) (by omega) (by omega) (by omega))
        | some t =>
          obtain ⟨p, q, u⟩ := t
          have hx := hx p q rfl
          rw [if_pos (show (some (p, q, u)).isSome = true from rfl)]
          simp only [bs]
          rw [pick3 _ _ _ (k := b % 3) (by omega) (by omega), bs, bs]
          refine cat3 _ _ _ ?_
          split
          · exact okp _ _ (by omega) (by omega) (by omega) (by omega)
          · split
            · exact okn
            · exact okp _ _ (by omega) (by omega) (by omega) (by omega)
      · exact ⟨_, rfl, by omega, fun lv h => (hlb lv h).ok⟩
theorem qe_int (a : Int) : Qe.qe a a = true := decide_eq_true rfl
theorem qe_it (t : It) : Qe.qe t t = true := by
  obtain ⟨a, b, c, d, e, f, u⟩ := t
  show (Qe.qe a a && (Qe.qe b b && (Qe.qe c c && (Qe.qe d d && (Qe.qe e e && (Qe.qe f f && true)))))) = true
  simp only [qe_int, Bool.and_true]
theorem qeD_refl {β : Type} [Rp β] [Qe β] {d : Dc Str β} (nd : (d.l.map (·.1)).Nodup) (h : ∀ x : β, Qe.qe x x = true) : qeD d d = true := by
  unfold qeD
  rw [decide_eq_true rfl, Bool.true_and, List.all_eq_true]
  intro kv hk
  rw [getD_mem nd hk]
  exact h _
theorem qe_mp {nm : List Str} (a b : Str → Int) : Qe.qe (mp nm a) (mp nm b) = decide (∀ z ∈ nm, a z = b z) := by
  show qeD _ _ = _
  unfold qeD
  rw [decide_eq_true (show (mp nm a).l.length = (mp nm b).l.length by unfold mp; rw [List.length_map, List.length_map]), Bool.true_and]
  refine Bool.eq_iff_iff.mpr ?_
  rw [List.all_eq_true, decide_eq_true_eq]
  constructor
  · intro h z hz
    have := h (z, a z) (List.mem_map.mpr ⟨z, hz, rfl⟩)
    rw [mp_get hz] at this
    exact of_decide_eq_true this
  · intro h kv hkv
    obtain ⟨z, hz, rfl⟩ := List.mem_map.mp hkv
    simp only
    rw [mp_get hz]
    exact decide_eq_true (h z hz)
theorem qe_l1 (a b : Option (Int × Int × Unit)) : Qe.qe a b = decide (a = b) := by
  rcases a with _ | ⟨p, q, u⟩ <;> rcases b with _ | ⟨p2, q2, u2⟩
  · rfl
  · rfl
  · rfl
  · show (Qe.qe p p2 && (Qe.qe q q2 && true)) = _
    show (decide (p = p2) && (decide (q = q2) && true)) = _
    simp
theorem qe_lv : ∀ xs ys : List (Option (Int × Int × Unit)), Qe.qe xs ys = decide (xs = ys)
  | [], [] => rfl
  | [], _ :: _ => rfl
  | _ :: _, [] => rfl
  | x :: xs, y :: ys => by
    show (Qe.qe x y && Qe.qe xs ys) = _
    rw [qe_l1, qe_lv xs ys]
    simp
theorem law_main (ns : List Int) (h : ns.length ≤ 63) : m_law (Fz.mk ns) = some true := by
  obtain ⟨c0, e0⟩ := at_ok (ns := ns) 0 (Int.le_refl _)
  obtain ⟨c1, e1⟩ := at_ok (ns := ns) 1 (by omega)
  obtain ⟨nm, en, nl, nd, nok⟩ := names_ok (many := 1 + c0 / 2 % 12) (c := c0 / 24) (by omega) (by omega)
  have hl : nm.length < 60 := by omega
  obtain ⟨it, ei, hi⟩ := items_ok (ns := ns) nd hl
  obtain ⟨room, er, r0, r1⟩ := room_ok hl hi c1
  obtain ⟨f0, over, lvs, es, h10, hlb, hs⟩ := shared_ok nd hl nok hi r0 r1
  have self := hs f0 over lvs (fun lv h => (hlb lv h).ok) (by omega)
  rw [decide_eq_true ⟨fun _ _ => rfl, rfl, rfl⟩] at self
  have ec : catF ([(0 : Int), (0 : Int), (0 : Int)] : List Int) (Fz.mk ns) = some ([0, 0, 0] ++ ns) := if_pos (by show 3 + ns.length ≤ 1000000; omega)
  have cl : ([0, 0, 0] ++ ns : List Int).length = 3 + ns.length := by rw [List.length_append]; rfl
  have turn : ∀ (g : Str → Int) (o : Int) (L : List (Option (Int × Int × Unit))), (∀ lv ∈ L, okLv lv) → L.length < 1000 → m_law_L1 (mi nm it) room (mp nm f0) over lvs (mp nm g, o, L, ()) () = some (.nx ()) := fun g o L h1 h2 => by
    unfold m_law_L1
    simp only [bs, hs g o L h1 h2, qe_mp, qe_lv]
    have eb : decide ((∀ z ∈ nm, g z = f0 z) ∧ o = over ∧ L = lvs) = (decide (∀ z ∈ nm, g z = f0 z) && (decide (o = over) && decide (L = lvs))) := by
      rw [Bool.decide_and, Bool.decide_and]
    rw [eb, decide_eq_true rfl]
    have eh : Qe.qe (Hl.mk (mi nm it, mp nm g, L, ())) (Hl.mk (mi nm it, mp nm g, L, ())) = true := by
      show (Qe.qe (mi nm it) (mi nm it) && (Qe.qe (mp nm g) (mp nm g) && (Qe.qe L L && true))) = true
      rw [show Qe.qe (mi nm it) (mi nm it) = true from qeD_refl (by rw [mi_keys]; exact nd) qe_it, qe_mp, qe_lv, decide_eq_true rfl, decide_eq_true (fun _ _ => rfl)]
      rfl
    rw [eh]
    rfl
  unfold m_law
  simp only [e0, e1, bs, en, ei, er, es, self, ec]
  obtain ⟨x1, ex1, _⟩ := atI_some (xs := ([0, 0, 0] ++ ns : List Int)) (i := (([0, 0, 0] ++ ns : List Int).length : Int) - 1) (by omega) (by omega)
  obtain ⟨x2, ex2, _⟩ := atI_some (xs := ([0, 0, 0] ++ ns : List Int)) (i := (([0, 0, 0] ++ ns : List Int).length : Int) - 2) (by omega) (by omega)
  obtain ⟨x3, ex3, _⟩ := atI_some (xs := ([0, 0, 0] ++ ns : List Int)) (i := (([0, 0, 0] ++ ns : List Int).length : Int) - 3) (by omega) (by omega)
  obtain ⟨g, eg⟩ := bent_ok (nm := nm) (by omega) (by omega) f0 x1
  obtain ⟨L, eL, lL, okL⟩ := other_ok h10 hlb x3
  rw [if_neg (by decide)]
  simp only [ex1, ex2, ex3, bs, eg, eL]
  rw [pick4 _ _ _ _ (k := x2 % 4) (by omega) (by omega), bs]
  have hm : ∃ m, mulO (if x2 % 4 = 0 then (0 : Int) else if x2 % 4 = 1 then 0 else if x2 % 4 = 2 then 0 else 1) (x2 / 4 % 3 - 1) = some m := by
    refine ⟨_, mulO_ok ?_ ?_⟩ <;> (repeat' split) <;> omega
  obtain ⟨m, em⟩ := hm
  rw [em]
  simp only [bs]
  have okv : ∀ lv ∈ lvs, okLv lv := fun lv h => (hlb lv h).ok
  rw [forC_cons (turn _ _ _ okL lL), forC_cons (turn _ _ _ okv (by omega)), forC_cons (turn _ _ _ okv (by omega)), forC_cons (turn _ _ _ okL lL)]
  rfl
end Wk05
set_option synthInstance.maxHeartbeats 4000000
set_option synthInstance.maxSize 20000
open PySem PySem.W PyProof.Rows in
set_option maxRecDepth 100000 in
set_option maxHeartbeats 0 in
theorem PySem.Challenge.cw_boxgalley_k05_whole_shares_checked_holds : PySem.Challenge.rw_boxgalley_k05_whole_shares_checked.Holds := by
  w_on; o_law; k_head; (case hw => w_witness2)
  k_fill
  refine L2.walk_of (l := PySem.Challenge.rw_boxgalley_k05_whole_shares_checked) (n := 63) (k := 5) (x := "_law_script") (CX := fun _ => L2.CX0) (sp := fun w => Wk05.spLaw _) rfl (by decide) rfl ⟨rfl, by decide, by decide⟩ (fun w h Y => PySem.W.kIn_of Y) ?F (fun _ _ a ns hl _ hS => ⟨a, ns, rfl, hS, hl, fun _ => rfl⟩) (fun _ _ _ _ _ h => h)
  case F =>
    intro w mg fa h KX G hmg
    refine' Wk05.all_mk Wk05.law_main KX G hmg ?a_deal ?l_deal ?c_deal ?k_deal ?a_lowest ?l_lowest ?c_lowest ?k_lowest ?a_pour ?l_pour ?c_pour ?k_pour ?a_dealt ?l_dealt ?c_dealt ?k_dealt ?a_poured ?l_poured ?c_poured ?k_poured ?a_ones ?l_ones ?c_ones ?k_ones ?a_picked ?l_picked ?c_picked ?k_picked ?a_lesser ?l_lesser ?c_lesser ?k_lesser ?a_grown ?l_grown ?c_grown ?k_grown ?a_shrunk ?l_shrunk ?c_shrunk ?k_shrunk ?a_of_rank ?l_of_rank ?c_of_rank ?k_of_rank ?a_given_way ?l_given_way ?c_given_way ?k_given_way ?a_share ?l_share ?c_share ?k_share ?a_grown_holds ?l_grown_holds ?c_grown_holds ?k_grown_holds ?a_shrunk_holds ?l_shrunk_holds ?c_shrunk_holds ?k_shrunk_holds ?a_way_holds ?l_way_holds ?c_way_holds ?k_way_holds ?a_shared ?l_shared ?c_shared ?k_shared ?a__law_at ?l__law_at ?c__law_at ?k__law_at ?a__law_mixed ?l__law_mixed ?c__law_mixed ?k__law_mixed ?a__law_draws ?l__law_draws ?c__law_draws ?k__law_draws ?a__law_names ?l__law_names ?c__law_names ?k__law_names ?a__law_item ?l__law_item ?c__law_item ?k__law_item ?a__law_items ?l__law_items ?c__law_items ?k__law_items ?a__law_room ?l__law_room ?c__law_room ?k__law_room ?a__law_bent ?l__law_bent ?c__law_bent ?k__law_bent ?a__law_other ?l__law_other ?c__law_other ?k__law_other ?a_law ?l_law ?c_law ?k_law ?z_all ?z_any ?z_bool ?z_dict ?z_divmod ?z_int ?z_isinstance ?z_len ?z_list ?z_max ?z_min ?z_range ?z_sorted ?z_sum ?z_zip ?ki_RANKS
    (case a_deal => k_is)
    (case l_deal => k_is)
    (case c_deal => k_is)
    (case k_deal => k_is)
    (case a_lowest => k_is)
    (case l_lowest => k_is)
    (case c_lowest => k_is)
    (case k_lowest => k_is)
    (case a_pour => k_is)
    (case l_pour => k_is)
    (case c_pour => k_is)
    (case k_pour => k_is)
    (case a_dealt => k_is)
    (case l_dealt => k_is)
    (case c_dealt => k_is)
    (case k_dealt => k_is)
    (case a_poured => k_is)
    (case l_poured => k_is)
    (case c_poured => k_is)
    (case k_poured => k_is)
    (case a_ones => k_is)
    (case l_ones => k_is)
    (case c_ones => k_is)
    (case k_ones => k_is)
    (case a_picked => k_is)
    (case l_picked => k_is)
    (case c_picked => k_is)
    (case k_picked => k_is)
    (case a_lesser => k_is)
    (case l_lesser => k_is)
    (case c_lesser => k_is)
    (case k_lesser => k_is)
    (case a_grown => k_is)
    (case l_grown => k_is)
    (case c_grown => k_is)
    (case k_grown => k_is)
    (case a_shrunk => k_is)
    (case l_shrunk => k_is)
    (case c_shrunk => k_is)
    (case k_shrunk => k_is)
    (case a_of_rank => k_is)
    (case l_of_rank => k_is)
    (case c_of_rank => k_is)
    (case k_of_rank => k_is)
    (case a_given_way => k_is)
    (case l_given_way => k_is)
    (case c_given_way => k_is)
    (case k_given_way => k_is)
    (case a_share => k_is)
    (case l_share => k_is)
    (case c_share => k_is)
    (case k_share => k_is)
    (case a_grown_holds => k_is)
    (case l_grown_holds => k_is)
    (case c_grown_holds => k_is)
    (case k_grown_holds => k_is)
    (case a_shrunk_holds => k_is)
    (case l_shrunk_holds => k_is)
    (case c_shrunk_holds => k_is)
    (case k_shrunk_holds => k_is)
    (case a_way_holds => k_is)
    (case l_way_holds => k_is)
    (case c_way_holds => k_is)
    (case k_way_holds => k_is)
    (case a_shared => k_is)
    (case l_shared => k_is)
    (case c_shared => k_is)
    (case k_shared => k_is)
    (case a__law_at => k_is)
    (case l__law_at => k_is)
    (case c__law_at => k_is)
    (case k__law_at => k_is)
    (case a__law_mixed => k_is)
    (case l__law_mixed => k_is)
    (case c__law_mixed => k_is)
    (case k__law_mixed => k_is)
    (case a__law_draws => k_is)
    (case l__law_draws => k_is)
    (case c__law_draws => k_is)
    (case k__law_draws => k_is)
    (case a__law_names => k_is)
    (case l__law_names => k_is)
    (case c__law_names => k_is)
    (case k__law_names => k_is)
    (case a__law_item => k_is)
    (case l__law_item => k_is)
    (case c__law_item => k_is)
    (case k__law_item => k_is)
    (case a__law_items => k_is)
    (case l__law_items => k_is)
    (case c__law_items => k_is)
    (case k__law_items => k_is)
    (case a__law_room => k_is)
    (case l__law_room => k_is)
    (case c__law_room => k_is)
    (case k__law_room => k_is)
    (case a__law_bent => k_is)
    (case l__law_bent => k_is)
    (case c__law_bent => k_is)
    (case k__law_bent => k_is)
    (case a__law_other => k_is)
    (case l__law_other => k_is)
    (case c__law_other => k_is)
    (case k__law_other => k_is)
    (case a_law => k_is)
    (case l_law => k_is)
    (case c_law => k_is)
    (case k_law => k_is)
    (case z_all => k_is)
    (case z_any => k_is)
    (case z_bool => k_is)
    (case z_dict => k_is)
    (case z_divmod => k_is)
    (case z_int => k_is)
    (case z_isinstance => k_is)
    (case z_len => k_is)
    (case z_list => k_is)
    (case z_max => k_is)
    (case z_min => k_is)
    (case z_range => k_is)
    (case z_sorted => k_is)
    (case z_sum => k_is)
    (case z_zip => k_is)
    (case ki_RANKS => k_is)
