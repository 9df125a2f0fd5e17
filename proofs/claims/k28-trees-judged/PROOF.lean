import PyProof.Rows.All
import Wide.All
import OpenK.AllK
import Wide.FinOn
import HandS.ForMost
import HandS.TupSets
import HandS.SortRule
import HandS.IsInst
import HandS.Wide
import HandS.WideBits
import HandS.Flow
import HandS.Deep
import HandS.TupAny
import HandS.Exc
import HandS.TryOnly
import HandS.ExcOwn
import HandS.CallSlots
import HandS.WordsExc
import HandS.ExcIs
import HandS.EndBits
import HandS.Defaults
import HandS.SortInts
import HandS.Style
import HandS.Conv
import PyProof.TupleOfSeq
import HandS.TupLen
import KE.KExcIs
import HandS.Rev
import PyProof.ListRange
import HandS.Zip
import KE.DatumOrd
import HandS.DictTup
import PyProof.EnumIter
import HandS.ExcValue
import PyProof.DictMoreH
import HandS.List
import HandS.New0
import HandS.SortKw
import HandS.HotCalls
import KE.GoesEnum
import KE.KStateDown
import HandS.Head0
import HandS.Head1
import HandS.Head2
import HandS.HeadEnd
import HandS.HeadHook1
import HandS.HeadHook2
import PySem.Challenge.RW_edgewide_k28_trees_judged
set_option Elab.async false
set_option linter.all false
set_option maxRecDepth 100000
set_option maxHeartbeats 40000000
/-! Own layer, part A: what a program text makes, as plain Lean data (R), what stands for data on the heap (Rp), what the slots hold (Sl, SA). -/
namespace Py
open PySem PySem.Spec PyProof.Rows L2

structure Er where
  cls : Str
  fld : Option Int := none

/-- a result: a value, a raised error, or «not covered» -/
inductive R (α : Type) where
  | ok (a : α)
  | er (e : Er)
  | bad
def R.bind {α β : Type} : R α → (α → R β) → R β
  | .ok a, k => k a
  | .er e, _ => .er e
  | .bad, _ => .bad
theorem R.bind_pure {α : Type} (m : R α) : (m.bind fun x => .ok x) = m := by cases m <;> rfl
theorem R.bind_assoc {α β γ : Type} (m : R α) (f : α → R β) (g : β → R γ) : (m.bind f).bind g = m.bind fun x => (f x).bind g := by cases m <;> rfl
theorem R.ok_bind {α β : Type} (a : α) (f : α → R β) : (R.ok a).bind f = f a := rfl
/-- errors are not covered here -/
def R.calm {α : Type} : R α → R α
  | .ok a => .ok a
  | .er _ => .bad
  | .bad => .bad
theorem R.ok_calm {α : Type} (a : α) : (R.ok a).calm = R.ok a := rfl
/-- under a condition -/
def chk (c : Prop) [Decidable c] {α : Type} (a : α) : R α := if c then .ok a else .bad
def ofOpt {α : Type} : Option α → R α
  | some a => .ok a
  | none => .bad

def wpR {α : Type} (m : R α) (K : α → Prop) (Z : Er → Prop) : Prop := match m with
  | .ok a => K a
  | .er e => Z e
  | .bad => False
theorem wpR_bind {α β : Type} {m : R α} {k : α → R β} {K : β → Prop} {Z : Er → Prop} (h : wpR (m.bind k) K Z) : wpR m (fun a => wpR (k a) K Z) Z := by
  cases m with
  | ok a => exact h
  | er e => exact h
  | bad => exact h
theorem wpR_mono {α : Type} {m : R α} {K K' : α → Prop} {Z Z' : Er → Prop} (h : wpR m K Z) (hk : ∀ a, K a → K' a) (hz : ∀ e, Z e → Z' e) : wpR m K' Z' := by
  cases m with
  | ok a => exact hk a h
  | er e => exact hz e h
  | bad => exact h
theorem wpR_calm {α : Type} {m : R α} {K : α → Prop} {Z : Er → Prop} (h : wpR m.calm K Z) : wpR m K fun _ => False := by
  cases m with
  | ok a => exact h
  | er e => exact False.elim h
  | bad => exact h
theorem wpR_chk {c : Prop} [Decidable c] {α : Type} {a : α} {K : α → Prop} {Z : Er → Prop} (h : wpR (chk c a) K Z) : c ∧ K a := by
  unfold chk at h
  by_cases e : c
  · rw [if_pos e] at h
    exact ⟨e, h⟩
  · rw [if_neg e] at h
    exact False.elim h
theorem wpR_opt {α : Type} {o : Option α} {K : α → Prop} {Z : Er → Prop} (h : wpR (ofOpt o) K Z) : ∃ a, o = some a ∧ K a := by
  cases o with
  | none => exact False.elim h
  | some a => exact ⟨a, rfl, h⟩

/-! ### data on the heap -/
theorem Same.upd {H : Hp} {p : Addr} {o : HO} (h : H p = none) : Same H (upd H p o) := fun b x e => by
  rw [upd_ne (ne_of_none e h)]
  exact e
structure Rp (α : Type) where
  rep : α → Hp → V → Prop
  mono : ∀ {a : α} {H H' : Hp} {v : V}, Same H H' → rep a H v → rep a H' v
/-- several values in a row -/
structure Tr (τ : Type) where
  rep : τ → Hp → List V → Prop
  mono : ∀ {a : τ} {H H' : Hp} {vs : List V}, Same H H' → rep a H vs → rep a H' vs
def rI : Rp Int := ⟨fun i _ v => v = .int i, fun _ h => h⟩
def rB : Rp Bool := ⟨fun b _ v => v = .bl b, fun _ h => h⟩
def rS : Rp Str := ⟨fun s _ v => v = .str s, fun _ h => h⟩
def rN : Rp Unit := ⟨fun _ _ v => v = .non, fun _ h => h⟩
def rO {α : Type} (ρ : Rp α) : Rp (Option α) :=
  ⟨fun a H v => match a with | none => v = .non | some x => ρ.rep x H v, fun {a H H' v} e h => by
    cases a with
    | none => exact h
    | some x => exact ρ.mono e h⟩
def t0 : Tr Unit := ⟨fun _ _ vs => vs = [], fun _ h => h⟩
def t1 {α : Type} (ρ : Rp α) : Tr α := ⟨fun a H vs => ∃ v, vs = [v] ∧ ρ.rep a H v, fun e ⟨v, h, r⟩ => ⟨v, h, ρ.mono e r⟩⟩
def tc {α τ : Type} (ρ : Rp α) (t : Tr τ) : Tr (α × τ) := ⟨fun a H vs => ∃ v ws, vs = v :: ws ∧ ρ.rep a.1 H v ∧ t.rep a.2 H ws, fun e ⟨v, ws, h, r, q⟩ => ⟨v, ws, h, ρ.mono e r, t.mono e q⟩⟩
inductive RepL {α : Type} (ρ : Rp α) (H : Hp) : List α → List V → Prop
  | nil : RepL ρ H [] []
  | cons {a : α} {as : List α} {v : V} {vs : List V} : ρ.rep a H v → RepL ρ H as vs → RepL ρ H (a :: as) (v :: vs)
theorem RepL.mono {α : Type} {ρ : Rp α} {H H' : Hp} (e : Same H H') : ∀ {as : List α} {vs : List V}, RepL ρ H as vs → RepL ρ H' as vs
  | _, _, .nil => .nil
  | _, _, .cons r t => .cons (ρ.mono e r) (RepL.mono e t)
theorem RepL.length {α : Type} {ρ : Rp α} {H : Hp} : ∀ {as : List α} {vs : List V}, RepL ρ H as vs → as.length = vs.length
  | _, _, .nil => rfl
  | _, _, .cons r t => congrArg (· + 1) (RepL.length t)
theorem RepL.append {α : Type} {ρ : Rp α} {H : Hp} : ∀ {as bs : List α} {vs ws : List V}, RepL ρ H as vs → RepL ρ H bs ws → RepL ρ H (as ++ bs) (vs ++ ws)
  | _, _, _, _, .nil, q => q
  | _, _, _, _, .cons r t, q => .cons r (RepL.append t q)
theorem RepL.get {α : Type} {ρ : Rp α} {H : Hp} : ∀ {as : List α} {vs : List V} {i : Nat} {v : V}, RepL ρ H as vs → vs[i]? = some v → ∃ a, as[i]? = some a ∧ ρ.rep a H v
  | _, _, _, _, .nil, e => by simp at e
  | _, _, 0, _, .cons r _, e => by
    simp at e
    subst e
    exact ⟨_, rfl, r⟩
  | _, _, i + 1, v, .cons _ t, e => by
    obtain ⟨a, h1, h2⟩ := RepL.get (i := i) t (by simpa using e)
    exact ⟨a, by simpa using h1, h2⟩
theorem RepL.got {α : Type} {ρ : Rp α} {H : Hp} : ∀ {as : List α} {vs : List V} {i : Nat} {a : α}, RepL ρ H as vs → as[i]? = some a → ∃ v, vs[i]? = some v ∧ ρ.rep a H v
  | _, _, _, _, .nil, e => by simp at e
  | _, _, 0, _, .cons r _, e => by
    simp at e
    subst e
    exact ⟨_, rfl, r⟩
  | _, _, i + 1, v, .cons _ t, e => by
    obtain ⟨a, h1, h2⟩ := RepL.got (i := i) t (by simpa using e)
    exact ⟨a, by simpa using h1, h2⟩
theorem RepL.take {α : Type} {ρ : Rp α} {H : Hp} : ∀ {as : List α} {vs : List V} (n : Nat), RepL ρ H as vs → RepL ρ H (as.take n) (vs.take n)
  | _, _, 0, _ => .nil
  | _, _, _ + 1, .nil => .nil
  | _, _, n + 1, .cons r t => .cons r (RepL.take n t)
theorem RepL.drop {α : Type} {ρ : Rp α} {H : Hp} : ∀ {as : List α} {vs : List V} (n : Nat), RepL ρ H as vs → RepL ρ H (as.drop n) (vs.drop n)
  | _, _, 0, r => r
  | _, _, _ + 1, .nil => .nil
  | _, _, n + 1, .cons _ t => RepL.drop n t
theorem RepL.set {α : Type} {ρ : Rp α} {H : Hp} {a : α} {v : V} (r : ρ.rep a H v) : ∀ {as : List α} {vs : List V} (i : Nat), RepL ρ H as vs → RepL ρ H (as.set i a) (vs.set i v)
  | _, _, _, .nil => .nil
  | _, _, 0, .cons _ t => .cons r t
  | _, _, i + 1, .cons q t => .cons q (RepL.set r i t)
def tl {α : Type} (ρ : Rp α) : Tr (List α) := ⟨fun a H vs => RepL ρ H a vs, fun e h => h.mono e⟩
/-- a tuple -/
def rTu {τ : Type} (t : Tr τ) : Rp τ := ⟨fun a H v => ∃ p vs, v = .ref p ∧ H p = some (.tup vs) ∧ t.rep a H vs, fun e ⟨p, vs, h, q, r⟩ => ⟨p, vs, h, e p _ q, t.mono e r⟩⟩
/-- a list that stays as it is -/
def rLi {τ : Type} (t : Tr τ) : Rp τ := ⟨fun a H v => ∃ p vs, v = .ref p ∧ H p = some (.lst vs) ∧ t.rep a H vs, fun e ⟨p, vs, h, q, r⟩ => ⟨p, vs, h, e p _ q, t.mono e r⟩⟩
abbrev rT {α : Type} (ρ : Rp α) : Rp (List α) := rTu (tl ρ)
abbrev rL {α : Type} (ρ : Rp α) : Rp (List α) := rLi (tl ρ)
abbrev rP {α β : Type} (ρ : Rp α) (π : Rp β) : Rp (α × β) := rTu (tc ρ (t1 π))
abbrev rC : Rp (Int × Int) := rP rI rI
/-- the script: a list of ints that is read alone -/
def rScr (K : PySem.W.Frag) : Rp (List Int) := ⟨fun ns H v => ∃ p, v = .ref p ∧ SqL K H p (ns.map V.int), fun e ⟨p, h, q⟩ => ⟨p, h, Same.seq e q⟩⟩

/-! ### slots -/
structure PRp where
  p : Hp → V → Prop
  m : ∀ {H H' : Hp} {v : V}, Same H H' → p H v → p H' v
structure ORp where
  p : Hp → HO → Prop
  m : ∀ {H H' : Hp} {o : HO}, Same H H' → p H o → p H' o
  nt : ∀ {H : Hp} {o : HO}, p H o → ∀ vs, o ≠ .tup vs
inductive Sl where
  | any
  | imm (p : PRp)
  | own (a : Option Addr) (o : ORp)
abbrev im {α : Type} (ρ : Rp α) (a : α) : Sl := .imm ⟨fun H v => ρ.rep a H v, fun e h => ρ.mono e h⟩
/-- an entry: what was known, the heap, the objects that may be changed -/
structure En where
  F : Hp
  H : Hp
  ps : Addr → Prop

structure SA (en : En) (Γ : List Sl) (F : Hp) (σ : L2.St) (H : Hp) : Prop where
  len : Γ.length ≤ σ.length
  sub : Same F H
  grow : Same en.F F
  old : ∀ p o, en.H p = some o → ¬ en.ps p → H p = some o
  there : ∀ p, en.H p ≠ none → H p ≠ none
  frz : ∀ p, en.H p ≠ none → en.F p = none → ¬ en.ps p → F p = none ∨ ∃ vs, F p = some (.tup vs)
  val : ∀ (i : Nat) (P : PRp), Γ[i]? = some (.imm P) → ∃ v, σ[i]? = some (some v) ∧ P.p F v
  own : ∀ (i : Nat) (a : Option Addr) (P : ORp), Γ[i]? = some (.own a P) → ∃ p o, σ[i]? = some (some (.ref p)) ∧ F p = none ∧ H p = some o ∧ P.p F o ∧ (en.H p = none ∨ en.ps p) ∧ (∀ q, a = some q → p = q)
  dis : ∀ (i j : Nat) (a b : Option Addr) (P Q : ORp) (p : Addr), i ≠ j → Γ[i]? = some (.own a P) → Γ[j]? = some (.own b Q) → σ[i]? = some (some (.ref p)) → σ[j]? ≠ some (some (.ref p))

/-- the heap grows, what is known grows by what is new -/
structure Ext (F H F' H' : Hp) : Prop where
  f : Same F F'
  h : Same H H'
  s : Same F' H'
  n : ∀ p, H p ≠ none → F p = none → F' p = none ∨ ∃ vs, F' p = some (.tup vs)
theorem Ext.refl {F H : Hp} (e : Same F H) : Ext F H F H := ⟨Same.refl F, Same.refl H, e, fun _ _ h => .inl h⟩
theorem same_ne {H H' : Hp} (e : Same H H') {p : Addr} (h : H p ≠ none) : H' p ≠ none := by
  cases q : H p with
  | none => exact absurd q h
  | some o =>
    rw [e p o q]
    exact fun z => nomatch z
theorem Ext.trans {F H F1 H1 F2 H2 : Hp} (a : Ext F H F1 H1) (b : Ext F1 H1 F2 H2) : Ext F H F2 H2 :=
  ⟨a.f.trans b.f, a.h.trans b.h, b.s, fun p hp hf => (a.n p hp hf).elim (fun z => b.n p (same_ne a.h hp) z) fun ⟨vs, z⟩ => .inr ⟨vs, b.f p _ z⟩⟩
/-- a new object that is known at once -/
theorem Ext.new {F H : Hp} (e : Same F H) {p : Addr} {o : HO} (h : H p = none) : Ext F H (upd F p o) (upd H p o) := by
  have hf : F p = none := by
    cases q : F p with
    | none => rfl
    | some x =>
      rw [e p x q] at h
      cases h
  refine ⟨Same.upd hf, Same.upd h, fun b x q => ?_, fun q hq hn => ?_⟩
  · by_cases hb : b = p
    · subst hb
      rw [upd_same] at q ⊢
      exact q
    · rw [upd_ne hb] at q ⊢
      exact e b x q
  · have : q ≠ p := fun z => by
      subst z
      exact hq h
    exact .inl (by rw [upd_ne this]; exact hn)
/-- a new object that is not known -/
theorem Ext.lay {F H : Hp} (e : Same F H) {p : Addr} {o : HO} (h : H p = none) : Ext F H F (upd H p o) :=
  ⟨Same.refl F, Same.upd h, e.trans (Same.upd h), fun _ _ z => .inl z⟩

section
variable {en : En} {Γ Γ' : List Sl} {F F' H H' : Hp} {σ σ' : L2.St}
theorem SA.ext (s : SA en Γ F σ H) (x : Ext F H F' H') : SA en Γ F' σ H' where
  len := s.len
  sub := x.s
  grow := s.grow.trans x.f
  old := fun p o h hp => x.h p o (s.old p o h hp)
  there := fun p h => same_ne x.h (s.there p h)
  frz := fun p h hf hp => (s.frz p h hf hp).elim (fun z => x.n p (s.there p h) z) fun ⟨vs, z⟩ => .inr ⟨vs, x.f p _ z⟩
  val := fun i P h => by
    obtain ⟨v, h1, h2⟩ := s.val i P h
    exact ⟨v, h1, P.m x.f h2⟩
  own := fun i a P h => by
    obtain ⟨p, o, h1, h2, h3, h4, h5, h6⟩ := s.own i a P h
    refine ⟨p, o, h1, ?_, x.h p o h3, P.m x.f h4, h5, h6⟩
    rcases x.n p (fun z => by rw [h3] at z; cases z) h2 with z | ⟨vs, z⟩
    · exact z
    · have y := x.s p _ z
      rw [x.h p o h3] at y
      exact absurd (Option.some.inj y) (P.nt h4 vs)
  dis := s.dis
/-- a slot is set to a known value -/
theorem SA.put (s : SA en Γ F σ H) {i : Nat} {P : PRp} {v : V} (h : P.p F v) : SA en (Γ.set i (.imm P)) F (σ.set i (some v)) H where
  len := by
    rw [List.length_set, List.length_set]
    exact s.len
  sub := s.sub
  grow := s.grow
  old := s.old
  there := s.there
  frz := s.frz
  val := fun j Q hj => by
    by_cases e : i = j
    · subst e
      by_cases hi : i < Γ.length
      · rw [List.getElem?_set_self hi] at hj
        injection hj with hj
        injection hj with hj
        subst hj
        exact ⟨v, List.getElem?_set_self (Nat.lt_of_lt_of_le hi s.len), h⟩
      · rw [List.getElem?_eq_none (by rw [List.length_set]; omega)] at hj
        cases hj
    · rw [List.getElem?_set_ne e] at hj ⊢
      exact s.val j Q hj
  own := fun j a Q hj => by
    by_cases e : i = j
    · subst e
      by_cases hi : i < Γ.length
      · rw [List.getElem?_set_self hi] at hj
        cases hj
      · rw [List.getElem?_eq_none (by rw [List.length_set]; omega)] at hj
        cases hj
    · rw [List.getElem?_set_ne e] at hj ⊢
      exact s.own j a Q hj
  dis := fun j k a b P' Q p hjk hj hk hp => by
    have ne : ∀ {l : Nat} {a : Option Addr} {P' : ORp}, (Γ.set i (.imm P))[l]? = some (.own a P') → i ≠ l := fun {l a P'} hl e => by
      subst e
      by_cases hi : i < Γ.length
      · rw [List.getElem?_set_self hi] at hl
        cases hl
      · rw [List.getElem?_eq_none (by rw [List.length_set]; omega)] at hl
        cases hl
    have nj := ne hj
    have nk := ne hk
    rw [List.getElem?_set_ne nj] at hj hp
    rw [List.getElem?_set_ne nk] at hk ⊢
    exact s.dis j k a b P' Q p hjk hj hk hp
/-- an object that no slot has, that is not known -/
structure Fresh (en : En) (Γ : List Sl) (F : Hp) (σ : L2.St) (H : Hp) (p : Addr) (o : HO) : Prop where
  f : F p = none
  e : en.H p = none
  n : ∀ (i : Nat) (a : Option Addr) (P : ORp), Γ[i]? = some (.own a P) → σ[i]? ≠ some (some (.ref p))
  h : H p = some o
theorem none_back {H H' : Hp} (e : Same H H') {p : Addr} (h : H' p = none) : H p = none := by
  cases q : H p with
  | none => rfl
  | some x =>
    rw [e p x q] at h
    cases h
theorem SA.gone (s : SA en Γ F σ H) {p : Addr} (hp : H p = none) : en.H p = none := by
  cases q : en.H p with
  | none => rfl
  | some x => exact absurd hp (s.there p (by rw [q]; exact fun z => nomatch z))
theorem SA.ref_ne (s : SA en Γ F σ H) {p : Addr} (hp : H p = none) (i : Nat) (a : Option Addr) (P : ORp) (hi : Γ[i]? = some (.own a P)) : σ[i]? ≠ some (some (.ref p)) := fun z => by
  obtain ⟨q, x, h1, h2, h3, _⟩ := s.own i a P hi
  rw [h1] at z
  injection z with z
  injection z with z
  injection z with z
  subst z
  rw [h3] at hp
  cases hp
/-- a new object is laid -/
theorem SA.lay (s : SA en Γ F σ H) {p : Addr} {o : HO} (hp : H p = none) : SA en Γ F σ (upd H p o) ∧ Fresh en Γ F σ (upd H p o) p o :=
  ⟨s.ext (Ext.lay s.sub hp), none_back s.sub hp, s.gone hp, s.ref_ne hp, upd_same⟩
/-- it becomes known -/
theorem SA.know (s : SA en Γ F σ H) {p : Addr} {o : HO} (h : Fresh en Γ F σ H p o) : SA en Γ (upd F p o) σ H ∧ Same F (upd F p o) := by
  have sf : Same F (upd F p o) := Same.upd h.f
  refine ⟨⟨s.len, fun b x e => ?_, s.grow.trans sf, s.old, s.there, fun b hb hf hps => ?_, fun j Q hj => ?_, fun j b Q hj => ?_, s.dis⟩, sf⟩
  · by_cases z : b = p
    · subst z
      rw [upd_same] at e
      cases e
      exact h.h
    · rw [upd_ne z] at e
      exact s.sub b x e
  · have : b ≠ p := fun z => by
      subst z
      exact hb h.e
    rcases s.frz b hb hf hps with z | ⟨vs, z⟩
    · exact .inl (by rw [upd_ne this]; exact z)
    · exact .inr ⟨vs, by rw [upd_ne this]; exact z⟩
  · obtain ⟨v, g1, g2⟩ := s.val j Q hj
    exact ⟨v, g1, Q.m sf g2⟩
  · obtain ⟨q, x, g1, g2, g3, g4, g5, g6⟩ := s.own j b Q hj
    have : q ≠ p := fun z => by
      subst z
      exact h.n j b Q hj g1
    exact ⟨q, x, g1, by rw [upd_ne this]; exact g2, g3, Q.m sf g4, g5, g6⟩
theorem no_tup {F H : Hp} (sub : Same F H) {p : Addr} {o : HO} (h : F p = none ∨ ∃ vs, F p = some (.tup vs)) (ho : H p = some o) (hm : ∀ vs, o ≠ .tup vs) : F p = none := by
  rcases h with z | ⟨vs, z⟩
  · exact z
  · have y := sub p _ z
    rw [ho] at y
    exact absurd (Option.some.inj y) (hm vs)
/-- a tuple may become known at any time -/
theorem SA.learn (s : SA en Γ F σ H) {p : Addr} {vs : List V} (hp : H p = some (.tup vs)) (hf : F p = none) : SA en Γ (upd F p (.tup vs)) σ H ∧ Same F (upd F p (.tup vs)) := by
  have sf : Same F (upd F p (.tup vs)) := Same.upd hf
  refine ⟨⟨s.len, fun b x e => ?_, s.grow.trans sf, s.old, s.there, fun b hb hf hps => ?_, fun j Q hj => ?_, fun j b Q hj => ?_, s.dis⟩, sf⟩
  · by_cases z : b = p
    · subst z
      rw [upd_same] at e
      cases e
      exact hp
    · rw [upd_ne z] at e
      exact s.sub b x e
  · by_cases z : b = p
    · subst z
      exact .inr ⟨vs, upd_same⟩
    · rcases s.frz b hb hf hps with y | ⟨ws, y⟩
      · exact .inl (by rw [upd_ne z]; exact y)
      · exact .inr ⟨ws, by rw [upd_ne z]; exact y⟩
  · obtain ⟨v, g1, g2⟩ := s.val j Q hj
    exact ⟨v, g1, Q.m sf g2⟩
  · obtain ⟨q, x, g1, g2, g3, g4, g5, g6⟩ := s.own j b Q hj
    have : q ≠ p := fun z => by
      subst z
      rw [hp] at g3
      exact Q.nt g4 vs (Option.some.inj g3).symm
    exact ⟨q, x, g1, by rw [upd_ne this]; exact g2, g3, Q.m sf g4, g5, g6⟩
/-- a slot is set to it -/
theorem SA.putOwn (s : SA en Γ F σ H) {i : Nat} {P : ORp} {p : Addr} {o : HO} (fr : Fresh en Γ F σ H p o) (h : P.p F o) : SA en (Γ.set i (.own none P)) F (σ.set i (some (.ref p))) H := by
  refine ⟨?_, s.sub, s.grow, s.old, s.there, s.frz, fun j Q hj => ?_, fun j a Q hj => ?_, fun j k a b P' Q q hjk hj hk hq => ?_⟩
  · rw [List.length_set, List.length_set]
    exact s.len
  · by_cases e : i = j
    · subst e
      by_cases hi : i < Γ.length
      · rw [List.getElem?_set_self hi] at hj
        cases hj
      · rw [List.getElem?_eq_none (by rw [List.length_set]; omega)] at hj
        cases hj
    · rw [List.getElem?_set_ne e] at hj ⊢
      exact s.val j Q hj
  · by_cases e : i = j
    · subst e
      by_cases hi : i < Γ.length
      · rw [List.getElem?_set_self hi] at hj
        injection hj with hj
        injection hj with h1 h2
        subst h1 h2
        exact ⟨p, o, List.getElem?_set_self (Nat.lt_of_lt_of_le hi s.len), fr.f, fr.h, h, .inl fr.e, fun q z => nomatch z⟩
      · rw [List.getElem?_eq_none (by rw [List.length_set]; omega)] at hj
        cases hj
    · rw [List.getElem?_set_ne e] at hj ⊢
      exact s.own j a Q hj
  · by_cases ej : i = j
    · subst ej
      have ek : i ≠ k := hjk
      rw [List.getElem?_set_ne ek] at hk ⊢
      have hi : i < Γ.length := by
        by_cases hi : i < Γ.length
        · exact hi
        · rw [List.getElem?_eq_none (by rw [List.length_set]; omega)] at hj
          cases hj
      rw [List.getElem?_set_self (Nat.lt_of_lt_of_le hi s.len)] at hq
      injection hq with hq
      injection hq with hq
      injection hq with hq
      subst hq
      exact fr.n _ _ _ hk
    · rw [List.getElem?_set_ne ej] at hj hq
      by_cases ek : i = k
      · subst ek
        intro z
        have hi : i < Γ.length := by
          by_cases hi : i < Γ.length
          · exact hi
          · rw [List.getElem?_eq_none (by rw [List.length_set]; omega)] at hk
            cases hk
        rw [List.getElem?_set_self (Nat.lt_of_lt_of_le hi s.len)] at z
        injection z with z
        injection z with z
        injection z with z
        subst z
        exact fr.n _ _ _ hj hq
      · rw [List.getElem?_set_ne ek] at hk ⊢
        exact s.dis j k a b P' Q q hjk hj hk hq
/-- an object that is not known, that no slot has, that is new since the entry, is changed -/
theorem SA.other (s : SA en Γ F σ H) {p : Addr} {o o' : HO} (fr : Fresh en Γ F σ H p o) : SA en Γ F σ (upd H p o') ∧ Fresh en Γ F σ (upd H p o') p o' := by
  refine ⟨⟨s.len, fun b x e => ?_, s.grow, fun b x e hb => ?_, fun b hb => ?_, s.frz, s.val, fun j b Q hj => ?_, s.dis⟩, fr.f, fr.e, fr.n, upd_same⟩
  · have : b ≠ p := fun z => by
      subst z
      rw [fr.f] at e
      cases e
    rw [upd_ne this]
    exact s.sub b x e
  · have : b ≠ p := fun z => by
      subst z
      rw [fr.e] at e
      cases e
    rw [upd_ne this]
    exact s.old b x e hb
  · have : b ≠ p := fun z => by
      subst z
      exact hb fr.e
    rw [upd_ne this]
    exact s.there b hb
  · obtain ⟨q, x, g1, g2, g3, g4, g5, g6⟩ := s.own j b Q hj
    have : q ≠ p := fun z => by
      subst z
      exact fr.n j b Q hj g1
    exact ⟨q, x, g1, g2, by rw [upd_ne this]; exact g3, g4, g5, g6⟩
/-- what the slots own -/
def Ows (Γ : List Sl) (σ : L2.St) (p : Addr) : Prop := ∃ (i : Nat) (a : Option Addr) (P : ORp), Γ[i]? = some (.own a P) ∧ σ[i]? = some (some (.ref p))
/-- a new entry here -/
theorem SA.re (s : SA en Γ F σ H) : SA ⟨F, H, Ows Γ σ⟩ Γ F σ H where
  len := s.len
  sub := s.sub
  grow := Same.refl F
  old := fun _ _ h _ => h
  there := fun _ h => h
  frz := fun _ _ h _ => .inl h
  val := s.val
  own := fun i a P hi => by
    obtain ⟨p, o, h1, h2, h3, h4, h5, h6⟩ := s.own i a P hi
    exact ⟨p, o, h1, h2, h3, h4, .inr ⟨i, a, P, hi, h1⟩, h6⟩
  dis := s.dis
theorem SA.ows (s : SA en Γ F σ H) {p : Addr} (h : Ows Γ σ p) : en.H p = none ∨ en.ps p := by
  obtain ⟨i, a, P, hi, hs⟩ := h
  obtain ⟨q, x, h1, _, _, _, h5, _⟩ := s.own i a P hi
  rw [hs] at h1
  injection h1 with h1
  injection h1 with h1
  injection h1 with h1
  subst h1
  exact h5
/-- back at the old entry -/
theorem SA.back (s : SA en Γ F σ H) (s' : SA ⟨F, H, Ows Γ σ⟩ Γ' F' σ' H') : SA en Γ' F' σ' H' where
  len := s'.len
  sub := s'.sub
  grow := s.grow.trans s'.grow
  old := fun p o h hp => s'.old p o (s.old p o h hp) fun ⟨i, a, P, hi, hs⟩ => by
    obtain ⟨q, x, h1, _, _, _, h5, _⟩ := s.own i a P hi
    rw [hs] at h1
    injection h1 with h1
    injection h1 with h1
    injection h1 with h1
    subst h1
    rcases h5 with z | z
    · rw [z] at h
      cases h
    · exact hp z
  there := fun p h => s'.there p (s.there p h)
  frz := fun p h hf hp => (s.frz p h hf hp).elim (fun q => s'.frz p (s.there p h) q fun z => (s.ows z).elim (fun y => h y) hp) fun ⟨vs, z⟩ => .inr ⟨vs, s'.grow p _ z⟩
  val := s'.val
  own := fun i a P hi => by
    obtain ⟨p, o, h1, h2, h3, h4, h5, h6⟩ := s'.own i a P hi
    refine ⟨p, o, h1, h2, h3, h4, ?_, h6⟩
    rcases h5 with z | ⟨j, b, Q, hj, hs⟩
    · exact .inl (s.gone z)
    · obtain ⟨q, x, g1, _, _, _, g5, _⟩ := s.own j b Q hj
      rw [hs] at g1
      injection g1 with g1
      injection g1 with g1
      injection g1 with g1
      subst g1
      exact g5
  dis := s'.dis
/-- an untouched object stays fresh -/
theorem Fresh.on {o : HO} {p : Addr} (hm : ∀ vs, o ≠ .tup vs) (fr : Fresh en Γ F σ H p o) (s' : SA ⟨F, H, Ows Γ σ⟩ Γ F' σ H') : Fresh en Γ F' σ H' p o where
  f := by
    rcases s'.frz p (by show H p ≠ none; rw [fr.h]; exact fun z => nomatch z) fr.f fun ⟨i, a, P, hi, hs⟩ => fr.n i a P hi hs with z | ⟨vs, z⟩
    · exact z
    · have y := s'.sub p _ z
      rw [s'.old p o fr.h fun ⟨i, a, P, hi, hs⟩ => fr.n i a P hi hs] at y
      exact absurd (Option.some.inj y) (hm vs)
  e := fr.e
  n := fr.n
  h := s'.old p o fr.h fun ⟨i, a, P, hi, hs⟩ => fr.n i a P hi hs
/-- an own object is changed -/
theorem SA.mut (s : SA en Γ F σ H) {i : Nat} {a : Option Addr} {P P' : ORp} {p : Addr} {o' : HO} (hi : Γ[i]? = some (.own a P)) (hp : σ[i]? = some (some (.ref p))) (h : P'.p F o') : SA en (Γ.set i (.own a P')) F σ (upd H p o') := by
  obtain ⟨p', o, h1, h2, h3, h4, h5, h6⟩ := s.own i a P hi
  rw [hp] at h1
  injection h1 with h1
  injection h1 with h1
  injection h1 with h1
  subst h1
  have hil : i < Γ.length := by
    by_cases z : i < Γ.length
    · exact z
    · rw [List.getElem?_eq_none (by omega)] at hi
      cases hi
  have fne : ∀ b x, F b = some x → b ≠ p := fun b x e z => by
    subst z
    rw [h2] at e
    cases e
  refine ⟨?_, fun b x e => ?_, s.grow, fun b x e hb => ?_, fun b hb => ?_, s.frz, fun j Q hj => ?_, fun j b Q hj => ?_, fun j k b c Q Q' q hjk hj hk hq => ?_⟩
  · rw [List.length_set]
    exact s.len
  · rw [upd_ne (fne b x e)]
    exact s.sub b x e
  · have : b ≠ p := fun z => by
      subst z
      rcases h5 with z | z
      · rw [z] at e
        cases e
      · exact hb z
    rw [upd_ne this]
    exact s.old b x e hb
  · by_cases e : b = p
    · subst e
      rw [upd_same]
      exact fun z => nomatch z
    · rw [upd_ne e]
      exact s.there b hb
  · by_cases e : i = j
    · subst e
      rw [List.getElem?_set_self hil] at hj
      cases hj
    · rw [List.getElem?_set_ne e] at hj
      exact s.val j Q hj
  · by_cases e : i = j
    · subst e
      rw [List.getElem?_set_self hil] at hj
      injection hj with hj
      injection hj with e1 e2
      subst e1 e2
      exact ⟨p, o', hp, h2, upd_same, h, h5, h6⟩
    · rw [List.getElem?_set_ne e] at hj
      obtain ⟨q, x, g1, g2, g3, g4, g5, g6⟩ := s.own j b Q hj
      have : q ≠ p := fun z => by
        subst z
        exact s.dis i j a b P Q _ e hi hj hp g1
      exact ⟨q, x, g1, g2, by rw [upd_ne this]; exact g3, g4, g5, g6⟩
  · have back : ∀ {l : Nat} {b : Option Addr} {Q : ORp}, (Γ.set i (.own a P'))[l]? = some (.own b Q) → ∃ b' Q', Γ[l]? = some (.own b' Q') := fun {l b Q} hl => by
      by_cases e : i = l
      · subst e
        exact ⟨a, P, hi⟩
      · rw [List.getElem?_set_ne e] at hl
        exact ⟨b, Q, hl⟩
    obtain ⟨b', P1, gj⟩ := back hj
    obtain ⟨c', P2, gk⟩ := back hk
    exact s.dis j k b' c' P1 P2 q hjk gj gk hq
/-- an own object that no one else has becomes known -/
theorem SA.give (s : SA en Γ F σ H) {i : Nat} {a0 : Option Addr} {P : ORp} {p : Addr} {o : HO} (hi : Γ[i]? = some (.own a0 P)) (hp : σ[i]? = some (some (.ref p))) (ho : H p = some o) : SA en (Γ.set i .any) (upd F p o) σ H := by
  obtain ⟨p', o', h1, h2, h3, h4, h5, h6⟩ := s.own i _ P hi
  rw [hp] at h1
  injection h1 with h1
  injection h1 with h1
  injection h1 with h1
  subst h1
  rw [ho] at h3
  cases h3
  have sf : Same F (upd F p o) := Same.upd h2
  have ne : ∀ {l : Nat} {x : Sl}, (Γ.set i .any)[l]? = some x → x ≠ .any → i ≠ l := fun {l x} hl hx e => by
    subst e
    by_cases hi : i < Γ.length
    · rw [List.getElem?_set_self hi] at hl
      exact hx (Option.some.inj hl).symm
    · rw [List.getElem?_eq_none (by rw [List.length_set]; omega)] at hl
      cases hl
  refine ⟨?_, fun b x e => ?_, s.grow.trans sf, s.old, s.there, fun b hb hf hps => ?_, fun j Q hj => ?_, fun j b Q hj => ?_, fun j k b c Q Q' q hjk hj hk hq => ?_⟩
  · rw [List.length_set]
    exact s.len
  · by_cases z : b = p
    · subst z
      rw [upd_same] at e
      cases e
      exact ho
    · rw [upd_ne z] at e
      exact s.sub b x e
  · have : b ≠ p := fun z => by
      subst z
      rcases h5 with y | y
      · exact hb y
      · exact hps y
    rcases s.frz b hb hf hps with z | ⟨vs, z⟩
    · exact .inl (by rw [upd_ne this]; exact z)
    · exact .inr ⟨vs, by rw [upd_ne this]; exact z⟩
  · have e := ne hj (fun z => nomatch z)
    rw [List.getElem?_set_ne e] at hj
    obtain ⟨v, g1, g2⟩ := s.val j Q hj
    exact ⟨v, g1, Q.m sf g2⟩
  · have e := ne hj (fun z => nomatch z)
    rw [List.getElem?_set_ne e] at hj
    obtain ⟨q, x, g1, g2, g3, g4, g5, g6⟩ := s.own j b Q hj
    have : q ≠ p := fun z => by
      subst z
      exact s.dis i j a0 b P Q _ e hi hj hp g1
    exact ⟨q, x, g1, by rw [upd_ne this]; exact g2, g3, Q.m sf g4, g5, g6⟩
  · rw [List.getElem?_set_ne (ne hj (fun z => nomatch z))] at hj
    rw [List.getElem?_set_ne (ne hk (fun z => nomatch z))] at hk
    exact s.dis j k b c Q Q' q hjk hj hk hq
/-- less is known -/
inductive SlLe : Sl → Sl → Prop
  | any {s : Sl} : SlLe .any s
  | rfl {s : Sl} : SlLe s s
inductive Le : List Sl → List Sl → Prop
  | nil {l : List Sl} : Le [] l
  | cons {a b : Sl} {l m : List Sl} : SlLe a b → Le l m → Le (a :: l) (b :: m)
theorem Le.len : ∀ {l m : List Sl}, Le l m → l.length ≤ m.length
  | _, _, .nil => Nat.zero_le _
  | _, _, .cons _ t => Nat.succ_le_succ (Le.len t)
theorem Le.get : ∀ {l m : List Sl} {i : Nat} {x : Sl}, Le l m → l[i]? = some x → x = .any ∨ m[i]? = some x
  | _, _, _, _, .nil, e => by simp at e
  | _, _, 0, _, .cons h _, e => by
    simp at e
    subst e
    cases h with
    | any => exact .inl rfl
    | rfl => exact .inr rfl
  | _, _, i + 1, x, .cons _ t, e => by
    rcases Le.get (i := i) t (by simpa using e) with h | h
    · exact .inl h
    · exact .inr (by simpa using h)
theorem Le.refl : ∀ {l : List Sl}, Le l l
  | [] => .nil
  | _ :: _ => .cons .rfl Le.refl
theorem SA.le (s : SA en Γ F σ H) (h : Le Γ' Γ) : SA en Γ' F σ H where
  len := Nat.le_trans h.len s.len
  sub := s.sub
  grow := s.grow
  old := s.old
  there := s.there
  frz := s.frz
  val := fun i P hi => by
    rcases h.get hi with z | z
    · cases z
    · exact s.val i P z
  own := fun i a P hi => by
    rcases h.get hi with z | z
    · cases z
    · exact s.own i a P z
  dis := fun i j a b P Q p hij hi hj hp => by
    rcases h.get hi with z | z
    · cases z
    · rcases h.get hj with y | y
      · cases y
      · exact s.dis i j a b P Q p hij z y hp
end
end Py

/-! Own layer, part B: the judgements (EG, BG, AG, FG, SX) and the rules of expressions. -/
namespace Py
open PySem PySem.Spec PyProof.Rows L2

/-! ### the weakest readings -/
def wE (X : Cx) (e : Expr) : TE := fun σ H Q => ∀ pins s, Inv X pins σ H s → wpAny (model X.prog X.w) X.A (eval e X.env) (EP X pins σ Q) X.xe s
def wT (X : Cx) (e : Expr) : TT := fun σ H Q => ∀ (whole : Sem Value) pins s, (whole = eval e X.env) → Inv X pins σ H s → wpAny (model X.prog X.w) X.A (isTrue e X.env whole) (TP X pins σ Q) X.xe s
def wA (X : Cx) (es : List Expr) : TA := fun σ H Q => ∀ (pos : Pos) pins s, Inv X pins σ H s → wpAny (model X.prog X.w) X.A (spliced (backTo pos (starEach es X.env))) (AP X pins σ Q) X.xe s
def wS (X : Cx) (st : Stmt) : TS := fun D σ H => ∀ pins s, Inv X pins σ H s → wpAny (model X.prog X.w) X.A (exec st X.env) (SP X pins D) X.xe s
def wSs (X : Cx) (sts : List Stmt) : TS := fun D σ H => ∀ pins s, Inv X pins σ H s → wpAny (model X.prog X.w) X.A (execs sts X.env) (SP X pins D) X.xe s
section
variable {X : Cx} {e : Expr} {es : List Expr} {st : Stmt} {sts : List Stmt} {σ : L2.St} {H : Hp}
theorem wE_pe : PE X e (wE X e) := ⟨fun pins s _ _ _ I h => h pins s I⟩
theorem wT_pt : PT X e (wT X e) := ⟨fun pins s _ _ _ I h => h _ pins s rfl I⟩
theorem wA_pa : PA X es (wA X es) := ⟨fun pos pins s _ _ _ I h => h pos pins s I⟩
theorem wS_ps : PS X st (wS X st) := ⟨fun pins s _ _ _ I h => h pins s I⟩
theorem wSs_pss : PSs X sts (wSs X sts) := ⟨fun pins s _ _ _ I h => h pins s I⟩
theorem wE_of {t : TE} {Q : VK} (h : PE X e t) (q : t σ H Q) : wE X e σ H Q := fun pins s I => h.run pins s σ H Q I q
theorem wT_of {t : TT} {Q : Bool → Hp → Prop} (h : PT X e t) (q : t σ H Q) : wT X e σ H Q := fun whole pins s hw I => by
  subst hw
  exact h.run pins s σ H Q I q
theorem wA_of {t : TA} {Q : List V → Hp → Prop} (h : PA X es t) (q : t σ H Q) : wA X es σ H Q := fun pos pins s I => h.run pos pins s σ H Q I q
theorem wS_of {t : TS} {D : Ends} (h : PS X st t) (q : t D σ H) : wS X st D σ H := fun pins s I => h.run pins s σ H D I q
theorem wSs_of {t : TS} {D : Ends} (h : PSs X sts t) (q : t D σ H) : wSs X sts D σ H := fun pins s I => h.run pins s σ H D I q
theorem wSs_lock {D : Ends} {d : Addr} {u : HO} (hd : H d = some u) (mu : Mut (some u)) (k : ∀ od, wSs X sts D σ (upd H d (.frz od u))) : wSs X sts D σ H := fun pins s I => by
  obtain ⟨od, I1⟩ := I.lock hd mu
  exact k od pins s I1
end

/-! ### errors -/
def ErOk (mg : Str → Option Value) (e : Er) (cls : Value) (d : Option Addr) (F : Hp) : Prop :=
  ∃ C, mg e.cls = some (.ref C) ∧ cls = .ref C ∧ match e.fld with
    | none => d = none
    | some n => ∃ a f, d = some a ∧ F a = some (.xd [(f, .int n)])
/-- what is wished of an error, and what the slots hold then -/
structure Wi where
  W : WX
  Γ : List Sl
def Wi.ok (U : Wi) (mg : Str → Option Value) (en : En) (F : Hp) (r : Er) : Prop :=
  ∀ cls d F' σ' H', Same F F' → SA en U.Γ F' σ' H' → ErOk mg r cls d F' → U.W cls d σ' H'
theorem Wi.ok.up {U : Wi} {mg : Str → Option Value} {en : En} {F F1 : Hp} {r : Er} (h : U.ok mg en F r) (e : Same F F1) : U.ok mg en F1 r :=
  fun cls d F' σ' H' s a o => h cls d F' σ' H' (e.trans s) a o

/-! ### the judgements -/
section
variable (X : Cx) (U : Wi) (Γ : List Sl)
/-- an expression: m tells what comes, val the value, Γ' what the slots hold then -/
structure EG (e : Expr) {α ω : Type} (ρ : Rp α) (m : R ω) (val : ω → α) (Γ' : ω → List Sl) : Prop where
  out : ∀ en F σ H Q, SA en Γ F σ H → wpR m (fun w => ∀ v F' H', Same F F' → SA en (Γ' w) F' σ H' → ρ.rep (val w) F' v → Q v H') (U.ok X.mg en F) → wE X e σ H Q
structure BG (e : Expr) {ω : Type} (m : R ω) (val : ω → Bool) (Γ' : ω → List Sl) : Prop where
  out : ∀ en F σ H (Q : Bool → Hp → Prop), SA en Γ F σ H → wpR m (fun w => ∀ F' H', Same F F' → SA en (Γ' w) F' σ H' → Q (val w) H') (U.ok X.mg en F) → wT X e σ H Q
structure AG (es : List Expr) {τ ω : Type} (t : Tr τ) (m : R ω) (val : ω → τ) (Γ' : ω → List Sl) : Prop where
  out : ∀ en F σ H (Q : List V → Hp → Prop), SA en Γ F σ H → wpR m (fun w => ∀ vs F' H', Same F F' → SA en (Γ' w) F' σ H' → t.rep (val w) F' vs → Q vs H') (U.ok X.mg en F) → wA X es σ H Q
/-- an expression that makes a new object -/
structure FG (e : Expr) {ω : Type} (P : ω → ORp) (m : R ω) (Γ' : ω → List Sl) : Prop where
  out : ∀ en F σ H Q, SA en Γ F σ H → wpR m (fun w => ∀ p o F' H', Same F F' → SA en (Γ' w) F' σ H' → Fresh en (Γ' w) F' σ H' p o → (P w).p F' o → Q (.ref p) H') (U.ok X.mg en F) → wE X e σ H Q
abbrev EX (e : Expr) {α : Type} (ρ : Rp α) (m : R α) : Prop := EG X U Γ e ρ m (fun a => a) fun _ => Γ
abbrev BX (e : Expr) (m : R Bool) : Prop := BG X U Γ e m (fun a => a) fun _ => Γ
abbrev AX (es : List Expr) {τ : Type} (t : Tr τ) (m : R τ) : Prop := AG X U Γ es t m (fun a => a) fun _ => Γ
abbrev FX (e : Expr) {α : Type} (P : α → ORp) (m : R α) : Prop := FG X U Γ e P m fun _ => Γ
end

/-- an object that no slot has, that is not known, that was not there or may be changed -/
structure Frs (en : En) (Γ : List Sl) (F : Hp) (σ : L2.St) (H : Hp) (p : Addr) (o : HO) : Prop where
  f : F p = none
  e : en.H p = none ∨ en.ps p
  n : ∀ (i : Nat) (a : Option Addr) (P : ORp), Γ[i]? = some (.own a P) → σ[i]? ≠ some (some (.ref p))
  h : H p = some o
/-- where a block ends -/
inductive Kd where
  | nx (Γ : List Sl)
  | go (Γ : List Sl)
  | bk (Γ : List Sl)
  | ct (Γ : List Sl)
  | rt (p : PRp) (Γ : List Sl)
  | fn (p : PRp) (Γ : List Sl)
  | rf (P : ORp) (Γ : List Sl)
def Kd.sat (k : Kd) (en : En) (F : Hp) (D : Ends) : Prop := match k with
  | .nx Γ => ∀ F' σ' H', Same F F' → SA en Γ F' σ' H' → D.nx σ' H'
  | .go Γ => ∀ F' σ' H', Same F F' → SA en Γ F' σ' H' → D.nx σ' H' ∧ D.ct σ' H'
  | .bk Γ => ∀ F' σ' H', Same F F' → SA en Γ F' σ' H' → D.bk σ' H'
  | .ct Γ => ∀ F' σ' H', Same F F' → SA en Γ F' σ' H' → D.ct σ' H'
  | .rt p Γ => ∀ v F' σ' H', Same F F' → SA en Γ F' σ' H' → p.p F' v → D.rt v H'
  | .fn p Γ => (∀ v F' σ' H', Same F F' → SA en Γ F' σ' H' → p.p F' v → D.rt v H') ∧ ∀ F' σ' H', Same F F' → SA en Γ F' σ' H' → p.p F' .non → D.nx σ' H'
  | .rf P Γ => ∀ p o F' σ' H', Same F F' → SA en Γ F' σ' H' → Frs en Γ F' σ' H' p o → P.p F' o → D.rt (.ref p) H'
theorem Kd.sat.up {k : Kd} {en : En} {F F1 : Hp} {D : Ends} (h : k.sat en F D) (e : Same F F1) : k.sat en F1 D := by
  cases k with
  | nx Γ => exact fun F' σ' H' s a => h F' σ' H' (e.trans s) a
  | go Γ => exact fun F' σ' H' s a => h F' σ' H' (e.trans s) a
  | bk Γ => exact fun F' σ' H' s a => h F' σ' H' (e.trans s) a
  | ct Γ => exact fun F' σ' H' s a => h F' σ' H' (e.trans s) a
  | rt p Γ => exact fun v F' σ' H' s a => h v F' σ' H' (e.trans s) a
  | fn p Γ => exact ⟨fun v F' σ' H' s a => h.1 v F' σ' H' (e.trans s) a, fun F' σ' H' s a => h.2 F' σ' H' (e.trans s) a⟩
  | rf P Γ => exact fun p o F' σ' H' s a => h p o F' σ' H' (e.trans s) a
structure SX (X : Cx) (U : Wi) (Γ : List Sl) (sts : List Stmt) {ω : Type} (I : ω → Kd) (m : R ω) : Prop where
  out : ∀ en F σ H D, SA en Γ F σ H → wpR m (fun o => (I o).sat en F D) (U.ok X.mg en F) → wSs X sts D σ H

/-! ### operations on data -/
/-- what a data operation may answer -/
abbrev QE {γ : Type} (ρ : Rp γ) (F H : Hp) (Q : VK) (z : γ) : Prop := ∀ u F' H', Ext F H F' H' → ρ.rep z F' u → Q u H'
def D2 {α β γ : Type} (r : R2) (ρ1 : Rp α) (ρ2 : Rp β) (ρ : Rp γ) (mr : α → β → R γ) : Prop :=
  ∀ x y v w F H Q, Same F H → ρ1.rep x F v → ρ2.rep y F w → wpR (mr x y) (QE ρ F H Q) (fun _ => False) → r v w H Q
def D1 {α γ : Type} (r : V → Hp → VK → Prop) (ρ1 : Rp α) (ρ : Rp γ) (mr : α → R γ) : Prop :=
  ∀ x v F H Q, Same F H → ρ1.rep x F v → wpR (mr x) (QE ρ F H Q) (fun _ => False) → r v H Q
def DC {τ γ : Type} (r : List V → Hp → VK → Prop) (t : Tr τ) (ρ : Rp γ) (mr : τ → R γ) : Prop :=
  ∀ x vs F H Q, Same F H → t.rep x F vs → wpR (mr x) (QE ρ F H Q) (fun _ => False) → r vs H Q
/-- .. a new object -/
def DF {τ γ : Type} (r : List V → Hp → VK → Prop) (t : Tr τ) (P : γ → ORp) (mr : τ → R γ) : Prop :=
  ∀ x vs F H Q, Same F H → t.rep x F vs → wpR (mr x) (fun z => ∀ p o, H p = none → (P z).p F o → Q (.ref p) (upd H p o)) (fun _ => False) → r vs H Q

section
variable {X : Cx} {U : Wi} {Γ : List Sl} {a b e : Expr} {es : List Expr} {pos : Pos}
variable {α β γ ω ω1 ω2 τ : Type} {ρ1 : Rp α} {ρ2 : Rp β} {ρ : Rp γ} {t : Tr τ}

/-! ### names, constants -/
theorem x_var {ρ : Rp α} {x : α} {n : Str} (i : Nat) (hΓ : Γ[i]? = some (im ρ x) := by rfl) (hN : X.N[i]? = some n := by rfl) (hv : Vis X.env.scope n := by first | exact Or.inl rfl | exact Or.inr (Or.inl rfl) | exact Or.inr (Or.inr rfl))
    (hd : (n == ("__debug__" : Str)) = false := by decide) (hcd : (n == ("__classdict__" : Str)) = false := by decide) : EX X U Γ (.Name n pos) ρ (.ok x) :=
  ⟨fun en F σ H Q s h => wE_of (pe_var hN hv hd hcd) (by
    obtain ⟨v, e1, r⟩ := s.val i _ hΓ
    exact ⟨v, e1, h v F H (Same.refl F) s r⟩)⟩
theorem x_cst {ρ : Rp α} {x : α} {v : V} (hp : PE X e (tC v)) (hr : ∀ F, ρ.rep x F v) : EX X U Γ e ρ (.ok x) :=
  ⟨fun en F σ H Q s h => wE_of hp (h v F H (Same.refl F) s (hr F))⟩
theorem x_int {i j} : EX X U Γ (.Constant (.int i) j pos) rI (.ok i) := x_cst pe_int fun _ => rfl
theorem x_bl {i j} : EX X U Γ (.Constant (.bool i) j pos) rB (.ok i) := x_cst pe_bl fun _ => rfl
theorem x_str {i j} : EX X U Γ (.Constant (.str i) j pos) rS (.ok i) := x_cst pe_str fun _ => rfl
theorem x_non {j} : EX X U Γ (.Constant .none j pos) rN (.ok ()) := x_cst pe_non fun _ => rfl
theorem x_nonO {j} {ρ : Rp α} : EX X U Γ (.Constant .none j pos) (rO ρ) (.ok none) := x_cst pe_non fun _ => rfl
/-- a module's constant -/
theorem x_glob {ρ : Rp α} {x : α} {v : V} {n : Str} {u : Value} (hm : X.mg n = some u) (rv : RelV v u) (hr : ∀ F, ρ.rep x F v) (hg : Gl X n := by rfl) (hd : (n == ("__debug__" : Str)) = false := by decide) : EX X U Γ (.Name n pos) ρ (.ok x) :=
  x_cst (pe_glob hg hm rv hd) hr
/-- .. an expression of its own -/
theorem x_map {ρ' : Rp β} {m : R α} (f : α → β) (hf : ∀ x F v, ρ1.rep x F v → ρ'.rep (f x) F v) (h : EX X U Γ e ρ1 m) : EX X U Γ e ρ' (m.bind fun a => .ok (f a)) :=
  ⟨fun en F σ H Q s q => h.out en F σ H Q s (wpR_mono (wpR_bind q) (fun w k v F' H' e1 s1 r => k v F' H' e1 s1 (hf _ _ _ r)) fun _ z => z)⟩

/-! ### two expressions in a row -/
theorem g_two {m1 : R ω1} {v1 : ω1 → α} {Γ1 : ω1 → List Sl} {m2 : ω1 → R ω2} {v2 : ω1 → ω2 → β} {Γ2 : ω1 → ω2 → List Sl} {mr : ω1 → ω2 → R ω} {K : ω → Hp → Prop}
    (ha : EG X U Γ a ρ1 m1 v1 Γ1) (hb : ∀ w1, EG X U (Γ1 w1) b ρ2 (m2 w1) (v2 w1) (Γ2 w1)) {en : En} {F : Hp} {σ : L2.St} {H : Hp} {Z : V → V → Hp → Prop} (s : SA en Γ F σ H)
    (h : wpR (m1.bind fun w1 => (m2 w1).bind fun w2 => mr w1 w2) (fun w => K w F) (U.ok X.mg en F))
    (hK : ∀ w F1, Same F F1 → K w F → K w F1)
    (hz : ∀ w1 w2 v u F2 H2, Same F F2 → SA en (Γ2 w1 w2) F2 σ H2 → ρ1.rep (v1 w1) F2 v → ρ2.rep (v2 w1 w2) F2 u → wpR (mr w1 w2) (fun w => K w F2) (U.ok X.mg en F2) → Z v u H2) :
    wE X a σ H fun v H1 => wE X b σ H1 fun u H2 => Z v u H2 := by
  refine ha.out en F σ H _ s (wpR_mono (wpR_bind h) (fun w1 k v F1 H1 e1 s1 r1 => ?_) fun _ z => z)
  refine (hb w1).out en F1 σ H1 _ s1 (wpR_mono (wpR_bind k) (fun w2 k2 u F2 H2 e2 s2 r2 => ?_) fun _ z => z.up e1)
  exact hz w1 w2 v u F2 H2 (e1.trans e2) s2 (ρ1.mono e2 r1) r2 (wpR_mono k2 (fun w => hK w F2 (e1.trans e2)) fun _ z => z.up (e1.trans e2))

/-- the shape of a two-place data operation -/
theorem g_data2 {r : R2} {mr : α → β → R γ} (hd : D2 r ρ1 ρ2 ρ mr) {m1 : R ω1} {v1 : ω1 → α} {Γ1 : ω1 → List Sl} {m2 : ω1 → R ω2} {v2 : ω1 → ω2 → β} {Γ2 : ω1 → ω2 → List Sl}
    {val : ω → γ} {Γ' : ω → List Sl} (pk : ω1 → ω2 → γ → ω) (hv : ∀ w1 w2 z, val (pk w1 w2 z) = z) (hΓ : ∀ w1 w2 z, Γ' (pk w1 w2 z) = Γ2 w1 w2)
    (ha : EG X U Γ a ρ1 m1 v1 Γ1) (hb : ∀ w1, EG X U (Γ1 w1) b ρ2 (m2 w1) (v2 w1) (Γ2 w1)) {en : En} {F : Hp} {σ : L2.St} {H : Hp} {Q : VK} (s : SA en Γ F σ H)
    (h : wpR (m1.bind fun w1 => (m2 w1).bind fun w2 => (mr (v1 w1) (v2 w1 w2)).calm.bind fun z => .ok (pk w1 w2 z)) (fun w => ∀ v F' H', Same F F' → SA en (Γ' w) F' σ H' → ρ.rep (val w) F' v → Q v H') (U.ok X.mg en F)) :
    wE X a σ H fun v H1 => wE X b σ H1 fun u H2 => r v u H2 Q := by
  refine g_two (K := fun w F => ∀ v F' H', Same F F' → SA en (Γ' w) F' σ H' → ρ.rep (val w) F' v → Q v H') ha hb s h (fun w F1 e k v F' H' e' => k v F' H' (e.trans e')) fun w1 w2 v u F2 H2 e2 s2 r1 r2 k => ?_
  refine hd _ _ v u F2 H2 Q s2.sub r1 r2 (wpR_mono (wpR_calm (wpR_bind k)) (fun z k u F' H' x ru => ?_) fun _ z => z)
  refine k u F' H' x.f ?_ ?_
  · rw [hΓ]
    exact s2.ext x
  · rw [hv]
    exact ru
theorem g_bin {op : Operator} {r : R2} {mr : α → β → R γ} (ho : OpR X (binaryOp op) r) (hd : D2 r ρ1 ρ2 ρ mr) {m1 : R ω1} {v1 : ω1 → α} {Γ1 : ω1 → List Sl} {m2 : ω1 → R ω2} {v2 : ω1 → ω2 → β} {Γ2 : ω1 → ω2 → List Sl}
    {val : ω → γ} {Γ' : ω → List Sl} (pk : ω1 → ω2 → γ → ω) (hv : ∀ w1 w2 z, val (pk w1 w2 z) = z) (hΓ : ∀ w1 w2 z, Γ' (pk w1 w2 z) = Γ2 w1 w2)
    (ha : EG X U Γ a ρ1 m1 v1 Γ1) (hb : ∀ w1, EG X U (Γ1 w1) b ρ2 (m2 w1) (v2 w1) (Γ2 w1)) :
    EG X U Γ (.BinOp a op b pos) ρ (m1.bind fun w1 => (m2 w1).bind fun w2 => (mr (v1 w1) (v2 w1 w2)).calm.bind fun z => .ok (pk w1 w2 z)) val Γ' :=
  ⟨fun en F σ H Q s h => wE_of (pe_op ho wE_pe wE_pe) (g_data2 hd pk hv hΓ ha hb s h)⟩
theorem g_cmp {op : CmpOp} {r : R2} {mr : α → β → R γ} (ho : OpR X (compareOp op) r) (hd : D2 r ρ1 ρ2 ρ mr) (hm : behindInMarks op b = false) {m1 : R ω1} {v1 : ω1 → α} {Γ1 : ω1 → List Sl} {m2 : ω1 → R ω2} {v2 : ω1 → ω2 → β} {Γ2 : ω1 → ω2 → List Sl}
    {val : ω → γ} {Γ' : ω → List Sl} (pk : ω1 → ω2 → γ → ω) (hv : ∀ w1 w2 z, val (pk w1 w2 z) = z) (hΓ : ∀ w1 w2 z, Γ' (pk w1 w2 z) = Γ2 w1 w2)
    (ha : EG X U Γ a ρ1 m1 v1 Γ1) (hb : ∀ w1, EG X U (Γ1 w1) b ρ2 (m2 w1) (v2 w1) (Γ2 w1)) :
    EG X U Γ (.Compare a [op] [b] pos) ρ (m1.bind fun w1 => (m2 w1).bind fun w2 => (mr (v1 w1) (v2 w1 w2)).calm.bind fun z => .ok (pk w1 w2 z)) val Γ' :=
  ⟨fun en F σ H Q s h => wE_of (pe_cmpR ho wE_pe wE_pe hm) (g_data2 hd pk hv hΓ ha hb s h)⟩
theorem g_ix {r : R2} {mr : α → β → R γ} (hr : IxR X r) (hd : D2 r ρ1 ρ2 ρ mr) (hs : PlainIx b) {m1 : R ω1} {v1 : ω1 → α} {Γ1 : ω1 → List Sl} {m2 : ω1 → R ω2} {v2 : ω1 → ω2 → β} {Γ2 : ω1 → ω2 → List Sl}
    {val : ω → γ} {Γ' : ω → List Sl} (pk : ω1 → ω2 → γ → ω) (hv : ∀ w1 w2 z, val (pk w1 w2 z) = z) (hΓ : ∀ w1 w2 z, Γ' (pk w1 w2 z) = Γ2 w1 w2)
    (ha : EG X U Γ a ρ1 m1 v1 Γ1) (hb : ∀ w1, EG X U (Γ1 w1) b ρ2 (m2 w1) (v2 w1) (Γ2 w1)) :
    EG X U Γ (.Subscript a b pos) ρ (m1.bind fun w1 => (m2 w1).bind fun w2 => (mr (v1 w1) (v2 w1 w2)).calm.bind fun z => .ok (pk w1 w2 z)) val Γ' :=
  ⟨fun en F σ H Q s h => wE_of (pe_ix hr wE_pe wE_pe hs) (g_data2 hd pk hv hΓ ha hb s h)⟩
/-- .. where nothing is changed on the way -/
theorem x_bin {op : Operator} {r : R2} {mr : α → β → R γ} {m1 : R α} {m2 : R β} (ho : OpR X (binaryOp op) r) (hd : D2 r ρ1 ρ2 ρ mr) (ha : EX X U Γ a ρ1 m1) (hb : EX X U Γ b ρ2 m2) :
    EX X U Γ (.BinOp a op b pos) ρ (m1.bind fun x => m2.bind fun y => (mr x y).calm.bind fun z => .ok z) := g_bin ho hd (fun _ _ z => z) (fun _ _ _ => rfl) (fun _ _ _ => rfl) ha fun _ => hb
theorem x_cmp {op : CmpOp} {r : R2} {mr : α → β → R γ} {m1 : R α} {m2 : R β} (ho : OpR X (compareOp op) r) (hd : D2 r ρ1 ρ2 ρ mr) (ha : EX X U Γ a ρ1 m1) (hb : EX X U Γ b ρ2 m2)
    (hm : behindInMarks op b = false := by first | exact nomark _ | rfl) : EX X U Γ (.Compare a [op] [b] pos) ρ (m1.bind fun x => m2.bind fun y => (mr x y).calm.bind fun z => .ok z) :=
  g_cmp ho hd hm (fun _ _ z => z) (fun _ _ _ => rfl) (fun _ _ _ => rfl) ha fun _ => hb
theorem x_ix {r : R2} {mr : α → β → R γ} {m1 : R α} {m2 : R β} (hr : IxR X r) (hd : D2 r ρ1 ρ2 ρ mr) (ha : EX X U Γ a ρ1 m1) (hb : EX X U Γ b ρ2 m2) (hs : PlainIx b := by exact fun _ _ => rfl) :
    EX X U Γ (.Subscript a b pos) ρ (m1.bind fun x => m2.bind fun y => (mr x y).calm.bind fun z => .ok z) := g_ix hr hd hs (fun _ _ z => z) (fun _ _ _ => rfl) (fun _ _ _ => rfl) ha fun _ => hb
theorem x_un {op : UnaryOp} {r : V → Hp → VK → Prop} {mr : α → R γ} {m : R α} (ho : UnR X (unaryOp op) r) (hd : D1 r ρ1 ρ mr) (ha : EX X U Γ a ρ1 m) : EX X U Γ (.UnaryOp op a pos) ρ (m.bind fun x => (mr x).calm.bind fun z => .ok z) :=
  ⟨fun en F σ H Q s h => wE_of (pe_un ho wE_pe) (ha.out en F σ H _ s (wpR_mono (wpR_bind h) (fun x k v F1 H1 e1 s1 r1 =>
    hd x v F1 H1 Q s1.sub r1 (wpR_mono (wpR_calm (wpR_bind k)) (fun z k u F' H' xx ru => k u F' H' (e1.trans xx.f) (s1.ext xx) ru) fun _ z => z)) fun _ z => z))⟩

/-! ### and, or, not, if .. else as values -/
theorem x_one {op} {m : R Bool} (ha : EX X U Γ a rB m) : EX X U Γ (.BoolOp op [a] pos) rB m := ⟨fun en F σ H Q s h => wE_of (pe_one wE_pe) (ha.out en F σ H Q s h)⟩
theorem x_and {m1 m2 : R Bool} {rest : List Expr} (ha : EX X U Γ a rB m1) (hb : EX X U Γ (.BoolOp .And (b :: rest) pos) rB m2) : EX X U Γ (.BoolOp .And (a :: b :: rest) pos) rB (m1.bind fun x => if x = true then m2 else .ok false) :=
  ⟨fun en F σ H Q s h => wE_of (pe_and wE_pe wE_pe) (ha.out en F σ H _ s (wpR_mono (wpR_bind h) (fun x k v F1 H1 e1 s1 r1 => ⟨x, r1, by
    cases x with
    | true => exact hb.out en F1 σ H1 Q s1 (wpR_mono k (fun w k v F' H' e' => k v F' H' (e1.trans e')) fun _ z => z.up e1)
    | false => exact k _ F1 H1 e1 s1 rfl⟩) fun _ z => z))⟩
/-! ### tests -/
theorem g_test {m : R ω} {val : ω → Bool} {Γ' : ω → List Sl} (h : EG X U Γ e rB m val Γ') (he : ∀ whole, isTrue e X.env whole = (do let v ← whole; standAt e.pos; holding [v] (truthy v)) := by intro _; rfl) : BG X U Γ e m val Γ' :=
  ⟨fun en F σ H Q s q => wT_of (pt_val wE_pe he) (h.out en F σ H _ s (wpR_mono q (fun w k v F1 H1 e1 s1 r1 => ⟨val w, r1, k F1 H1 e1 s1⟩) fun _ z => z))⟩
theorem g_tcmp {op : CmpOp} {r : R2} {mr : α → β → R Bool} (ho : OpR X (compareOp op) r) (hd : D2 r ρ1 ρ2 rB mr) (hm : behindInMarks op b = false) {m1 : R ω1} {v1 : ω1 → α} {Γ1 : ω1 → List Sl} {m2 : ω1 → R ω2} {v2 : ω1 → ω2 → β} {Γ2 : ω1 → ω2 → List Sl}
    {val : ω → Bool} {Γ' : ω → List Sl} (pk : ω1 → ω2 → Bool → ω) (hv : ∀ w1 w2 z, val (pk w1 w2 z) = z) (hΓ : ∀ w1 w2 z, Γ' (pk w1 w2 z) = Γ2 w1 w2)
    (ha : EG X U Γ a ρ1 m1 v1 Γ1) (hb : ∀ w1, EG X U (Γ1 w1) b ρ2 (m2 w1) (v2 w1) (Γ2 w1)) :
    BG X U Γ (.Compare a [op] [b] pos) (m1.bind fun w1 => (m2 w1).bind fun w2 => (mr (v1 w1) (v2 w1 w2)).calm.bind fun z => .ok (pk w1 w2 z)) val Γ' :=
  ⟨fun en F σ H Q s h => wT_of (pt_cmpR ho wE_pe wE_pe hm) (g_data2 (ρ := rB) (Q := fun v H' => ∃ k, v = .bl k ∧ Q k H') hd pk hv hΓ ha hb s (wpR_mono h (fun w k v F' H' e1 s1 r1 => ⟨val w, r1, k F' H' e1 s1⟩) fun _ z => z))⟩
theorem x_tcmp {op : CmpOp} {r : R2} {mr : α → β → R Bool} {m1 : R α} {m2 : R β} (ho : OpR X (compareOp op) r) (hd : D2 r ρ1 ρ2 rB mr) (ha : EX X U Γ a ρ1 m1) (hb : EX X U Γ b ρ2 m2)
    (hm : behindInMarks op b = false := by first | exact nomark _ | rfl) : BX X U Γ (.Compare a [op] [b] pos) (m1.bind fun x => m2.bind fun y => (mr x y).calm.bind fun z => .ok z) :=
  g_tcmp ho hd hm (fun _ _ z => z) (fun _ _ _ => rfl) (fun _ _ _ => rfl) ha fun _ => hb
theorem x_tnot {m : R Bool} (ha : BX X U Γ a m) : BX X U Γ (.UnaryOp .Not a pos) (m.bind fun x => .ok !x) :=
  ⟨fun en F σ H Q s h => wT_of (pt_not wT_pt) (ha.out en F σ H _ s (wpR_mono (wpR_bind h) (fun x k F1 H1 e1 s1 => k F1 H1 e1 s1) fun _ z => z))⟩
/-- chains -/
structure WG (X : Cx) (U : Wi) (Γ : List Sl) (e : Expr) (m : R Bool) : Prop where
  out : ∀ en F σ H (Q : Bool → Hp → Prop), SA en Γ F σ H → wpR m (fun w => ∀ F' H', Same F F' → SA en Γ F' σ H' → Q w H') (U.ok X.mg en F) →
    ∀ (whole : Sem Value) pins s, Inv X pins σ H s → wpAny (model X.prog X.w) X.A (isTrue e X.env whole) (TP X pins σ Q) X.xe s
def wW (X : Cx) (e : Expr) : TT := fun σ H Q => ∀ (whole : Sem Value) pins s, Inv X pins σ H s → wpAny (model X.prog X.w) X.A (isTrue e X.env whole) (TP X pins σ Q) X.xe s
theorem wW_pw : PW X e (wW X e) := ⟨fun wh pins s _ _ _ I h => h wh pins s I⟩
theorem x_w {m : R Bool} (h : WG X U Γ e m) : BX X U Γ e m := ⟨fun en F σ H Q s q whole pins s' hw I => by
  subst hw
  exact h.out en F σ H Q s q _ pins s' I⟩
theorem w_and1 {m : R Bool} (ha : BX X U Γ a m) : WG X U Γ (.BoolOp .And [a] pos) m :=
  ⟨fun en F σ H Q s h wh pins s' I => (pw_and1 (pos := pos) wT_pt).run wh pins s' σ H Q I (ha.out en F σ H Q s h)⟩
theorem w_or1 {m : R Bool} (ha : BX X U Γ a m) : WG X U Γ (.BoolOp .Or [a] pos) m :=
  ⟨fun en F σ H Q s h wh pins s' I => (pw_or1 (pos := pos) wT_pt).run wh pins s' σ H Q I (ha.out en F σ H Q s h)⟩
theorem w_and {m1 m2 : R Bool} {rest : List Expr} (ha : BX X U Γ a m1) (hb : WG X U Γ (.BoolOp .And (b :: rest) pos) m2) : WG X U Γ (.BoolOp .And (a :: b :: rest) pos) (m1.bind fun x => if x = true then m2 else .ok false) :=
  ⟨fun en F σ H Q s h wh pins s' I => (pw_and (pos := pos) wT_pt wW_pw).run wh pins s' σ H Q I (ha.out en F σ H _ s (wpR_mono (wpR_bind h) (fun x k F1 H1 e1 s1 => by
    cases x with
    | true => exact hb.out en F1 σ H1 Q s1 (wpR_mono k (fun w k F' H' e' => k F' H' (e1.trans e')) fun _ z => z.up e1)
    | false => exact k F1 H1 e1 s1) fun _ z => z))⟩
theorem w_or {m1 m2 : R Bool} {rest : List Expr} (ha : BX X U Γ a m1) (hb : WG X U Γ (.BoolOp .Or (b :: rest) pos) m2) : WG X U Γ (.BoolOp .Or (a :: b :: rest) pos) (m1.bind fun x => if x = true then .ok true else m2) :=
  ⟨fun en F σ H Q s h wh pins s' I => (pw_or (pos := pos) wT_pt wW_pw).run wh pins s' σ H Q I (ha.out en F σ H _ s (wpR_mono (wpR_bind h) (fun x k F1 H1 e1 s1 => by
    cases x with
    | false => exact hb.out en F1 σ H1 Q s1 (wpR_mono k (fun w k F' H' e' => k F' H' (e1.trans e')) fun _ z => z.up e1)
    | true => exact k F1 H1 e1 s1) fun _ z => z))⟩

/-! ### arguments -/
theorem a_nil {τ : Type} {t : Tr τ} {x : τ} (hx : ∀ F, t.rep x F []) : AX X U Γ [] t (.ok x) := ⟨fun en F σ H Q s h => wA_of pa_nil (h [] F H (Same.refl F) s (hx F))⟩
/-- one more ahead, put together by pk -/
theorem g_acons {τ' : Type} {t' : Tr τ'} {m1 : R ω1} {v1 : ω1 → α} {Γ1 : ω1 → List Sl} {m2 : ω1 → R ω2} {v2 : ω1 → ω2 → τ} {Γ2 : ω1 → ω2 → List Sl} {val : ω → τ'} {Γ' : ω → List Sl} (pk : ω1 → ω2 → ω)
    (hv : ∀ w1 w2 F v vs, ρ1.rep (v1 w1) F v → t.rep (v2 w1 w2) F vs → t'.rep (val (pk w1 w2)) F (v :: vs)) (hΓ : ∀ w1 w2, Γ' (pk w1 w2) = Γ2 w1 w2)
    (ha : EG X U Γ a ρ1 m1 v1 Γ1) (hb : ∀ w1, AG X U (Γ1 w1) es t (m2 w1) (v2 w1) (Γ2 w1)) (hs : starEach (a :: es) X.env = (false, eval a X.env) :: starEach es X.env) :
    AG X U Γ (a :: es) t' (m1.bind fun w1 => (m2 w1).bind fun w2 => .ok (pk w1 w2)) val Γ' :=
  ⟨fun en F σ H Q s h => wA_of (pa_cons wE_pe wA_pa hs) (ha.out en F σ H _ s (wpR_mono (wpR_bind h) (fun w1 k v F1 H1 e1 s1 r1 =>
    (hb w1).out en F1 σ H1 _ s1 (wpR_mono (wpR_bind k) (fun w2 k2 vs F2 H2 e2 s2 r2 => k2 (v :: vs) F2 H2 (e1.trans e2) (by rw [hΓ]; exact s2) (hv w1 w2 F2 v vs (ρ1.mono e2 r1) r2)) fun _ z => z.up e1)) fun _ z => z))⟩
theorem a_one {m : R α} (ha : EX X U Γ a ρ1 m) (hs : starEach [a] X.env = (false, eval a X.env) :: starEach [] X.env := by rfl) : AX X U Γ [a] (t1 ρ1) m := by
  have h : AX X U Γ [a] (t1 ρ1) (m.bind fun x => (R.ok ()).bind fun _ => .ok x) := g_acons (t := t0) (fun x _ => x) (fun x _ F v vs r e => ⟨v, by rw [show vs = [] from e], r⟩) (fun _ _ => rfl) ha (fun _ => a_nil fun _ => rfl) hs
  have e : (m.bind fun x => (R.ok ()).bind fun _ => R.ok x) = m := R.bind_pure m
  rw [e] at h
  exact h
theorem a_cons {m1 : R α} {m2 : R τ} (ha : EX X U Γ a ρ1 m1) (hb : AX X U Γ es t m2) (hs : starEach (a :: es) X.env = (false, eval a X.env) :: starEach es X.env := by rfl) : AX X U Γ (a :: es) (tc ρ1 t) (m1.bind fun x => m2.bind fun y => .ok (x, y)) :=
  g_acons (fun x y => (x, y)) (fun x y F v vs r q => ⟨v, vs, rfl, r, q⟩) (fun _ _ => rfl) ha (fun _ => hb) hs
/-! ### displays, calls of built-ins -/
abbrev oLi {τ : Type} (t : Tr τ) (a : τ) : ORp := ⟨fun F o => ∃ vs, o = .lst vs ∧ t.rep a F vs, fun e ⟨vs, h, r⟩ => ⟨vs, h, t.mono e r⟩, fun ⟨vs, h, _⟩ ws z => by rw [h] at z; cases z⟩
theorem g_tup {m : R ω} {val : ω → τ} {Γ' : ω → List Sl} {k : Nat} (h : AG X U Γ es t m val Γ') (hn : ∀ w F vs, t.rep (val w) F vs → vs.length ≤ sizeLine) : EG X U Γ (.Tuple es k pos) (rTu t) m val Γ' :=
  ⟨fun en F σ H Q s q => wE_of (pe_tup wA_pa) (h.out en F σ H _ s (wpR_mono q (fun w kk vs F1 H1 e1 s1 r => ⟨hn w F1 vs r, fun p hp => by
    have x := Ext.new (o := .tup vs) s1.sub hp
    exact kk (.ref p) _ _ (e1.trans x.f) (s1.ext x) ⟨p, vs, rfl, upd_same, t.mono x.f r⟩⟩) fun _ z => z))⟩
theorem f_lst {m : R ω} {val : ω → τ} {Γ' : ω → List Sl} (h : AG X U Γ es t m val Γ') (hn : ∀ w F vs, t.rep (val w) F vs → vs.length ≤ sizeLine) : FG X U Γ (.List es pos) (fun w => oLi t (val w)) m Γ' :=
  ⟨fun en F σ H Q s q => wE_of (pe_lst wA_pa) (h.out en F σ H _ s (wpR_mono q (fun w kk vs F1 H1 e1 s1 r => ⟨hn w F1 vs r, fun p hp => kk p (.lst vs) F1 _ e1 (s1.lay hp).1 (s1.lay hp).2 ⟨vs, rfl, r⟩⟩) fun _ z => z))⟩
/-- a new list that is known at once -/
theorem x_frz {m : R ω} {val : ω → τ} {Γ' : ω → List Sl} (h : FG X U Γ e (fun w => oLi t (val w)) m Γ') : EG X U Γ e (rLi t) m val Γ' :=
  ⟨fun en F σ H Q s q => h.out en F σ H Q s (wpR_mono q (fun w k p o F1 H1 e1 s1 fr ho => by
    obtain ⟨vs, rfl, r⟩ := ho
    obtain ⟨s2, x⟩ := s1.know fr
    exact k (.ref p) _ _ (e1.trans x) s2 ⟨p, vs, rfl, upd_same, t.mono x r⟩) fun _ z => z)⟩
theorem g_dataC {r : List V → Hp → VK → Prop} {mr : τ → R γ} (hd : DC r t ρ mr) {m : R ω1} {v1 : ω1 → τ} {Γ1 : ω1 → List Sl} {val : ω → γ} {Γ' : ω → List Sl} (pk : ω1 → γ → ω) (hv : ∀ w z, val (pk w z) = z) (hΓ : ∀ w z, Γ' (pk w z) = Γ1 w)
    (ha : AG X U Γ es t m v1 Γ1) {en : En} {F : Hp} {σ : L2.St} {H : Hp} {Q : VK} (s : SA en Γ F σ H)
    (h : wpR (m.bind fun w => (mr (v1 w)).calm.bind fun z => .ok (pk w z)) (fun w => ∀ v F' H', Same F F' → SA en (Γ' w) F' σ H' → ρ.rep (val w) F' v → Q v H') (U.ok X.mg en F)) : tCB r (wA X es) σ H Q :=
  ha.out en F σ H _ s (wpR_mono (wpR_bind h) (fun w k vs F1 H1 e1 s1 r1 =>
    hd (v1 w) vs F1 H1 Q s1.sub r1 (wpR_mono (wpR_calm (wpR_bind k)) (fun z k u F' H' x ru => k u F' H' (e1.trans x.f) (by rw [hΓ]; exact s1.ext x) (by rw [hv]; exact ru)) fun _ z => z)) fun _ z => z)
theorem g_dataF {r : List V → Hp → VK → Prop} {P : γ → ORp} {mr : τ → R γ} (hd : DF r t P mr) {m : R ω1} {v1 : ω1 → τ} {Γ1 : ω1 → List Sl} {val : ω → γ} {Γ' : ω → List Sl} (pk : ω1 → γ → ω) (hv : ∀ w z, val (pk w z) = z) (hΓ : ∀ w z, Γ' (pk w z) = Γ1 w)
    (ha : AG X U Γ es t m v1 Γ1) {en : En} {F : Hp} {σ : L2.St} {H : Hp} {Q : VK} (s : SA en Γ F σ H)
    (h : wpR (m.bind fun w => (mr (v1 w)).calm.bind fun z => .ok (pk w z)) (fun w => ∀ p o F' H', Same F F' → SA en (Γ' w) F' σ H' → Fresh en (Γ' w) F' σ H' p o → (P (val w)).p F' o → Q (.ref p) H') (U.ok X.mg en F)) : tCB r (wA X es) σ H Q :=
  ha.out en F σ H _ s (wpR_mono (wpR_bind h) (fun w k vs F1 H1 e1 s1 r1 =>
    hd (v1 w) vs F1 H1 Q s1.sub r1 (wpR_mono (wpR_calm (wpR_bind k)) (fun z k p o hp ho => k p o F1 _ e1 (by rw [hΓ]; exact (s1.lay hp).1) (by rw [hΓ]; exact (s1.lay hp).2) (by rw [hv]; exact ho)) fun _ z => z)) fun _ z => z)
variable {n : Str} {p : Pos} {id T : String} {r : List V → Hp → VK → Prop}
theorem x_callB {mr : τ → R γ} {m : R τ} (hc : CallR X (.builtin id) r) (hd : DC r t ρ mr) (hm : X.mg n = none) (hv : bootBuiltins n = some (.builtin id)) (ha : AX X U Γ (a :: es) t m) (hg : Gl X n := by rfl)
    (hn : n ≠ "__name__" := by decide) (hdb : (n == ("__debug__" : Str)) = false := by decide) (he : starEach (a :: es) X.env = (false, eval a X.env) :: starEach es X.env := by rfl) (hpl : (backTo pos (starEach es X.env)).any (·.1) = false := by rfl) :
    EX X U Γ (.Call (.Name n p) (a :: es) [] pos) ρ (m.bind fun x => (mr x).calm.bind fun z => .ok z) :=
  ⟨fun en F σ H Q s h => wE_of (pe_callB hc hg hm hv wA_pa hn hdb he hpl) (g_dataC hd (fun _ z => z) (fun _ _ => rfl) (fun _ _ => rfl) ha s h)⟩
theorem x_callTy {mr : τ → R γ} {m : R τ} (hc : CallR X (.type T) r) (hd : DC r t ρ mr) (hm : X.mg n = none) (hv : bootBuiltins n = some (.type T)) (ha : AX X U Γ (a :: es) t m) (hg : Gl X n := by rfl)
    (hn : n ≠ "__name__" := by decide) (hdb : (n == ("__debug__" : Str)) = false := by decide) (he : starEach (a :: es) X.env = (false, eval a X.env) :: starEach es X.env := by rfl) (hpl : (backTo pos (starEach es X.env)).any (·.1) = false := by rfl) :
    EX X U Γ (.Call (.Name n p) (a :: es) [] pos) ρ (m.bind fun x => (mr x).calm.bind fun z => .ok z) :=
  ⟨fun en F σ H Q s h => wE_of (pe_callTy hc hg hm hv wA_pa hn hdb he hpl) (g_dataC hd (fun _ z => z) (fun _ _ => rfl) (fun _ _ => rfl) ha s h)⟩
theorem f_callB {P : γ → ORp} {mr : τ → R γ} {m : R τ} (hc : CallR X (.builtin id) r) (hd : DF r t P mr) (hm : X.mg n = none) (hv : bootBuiltins n = some (.builtin id)) (ha : AX X U Γ (a :: es) t m) (hg : Gl X n := by rfl)
    (hn : n ≠ "__name__" := by decide) (hdb : (n == ("__debug__" : Str)) = false := by decide) (he : starEach (a :: es) X.env = (false, eval a X.env) :: starEach es X.env := by rfl) (hpl : (backTo pos (starEach es X.env)).any (·.1) = false := by rfl) :
    FX X U Γ (.Call (.Name n p) (a :: es) [] pos) P (m.bind fun x => (mr x).calm.bind fun z => .ok z) :=
  ⟨fun en F σ H Q s h => wE_of (pe_callB hc hg hm hv wA_pa hn hdb he hpl) (g_dataF hd (fun _ z => z) (fun _ _ => rfl) (fun _ _ => rfl) ha s h)⟩
theorem f_callTy {P : γ → ORp} {mr : τ → R γ} {m : R τ} (hc : CallR X (.type T) r) (hd : DF r t P mr) (hm : X.mg n = none) (hv : bootBuiltins n = some (.type T)) (ha : AX X U Γ (a :: es) t m) (hg : Gl X n := by rfl)
    (hn : n ≠ "__name__" := by decide) (hdb : (n == ("__debug__" : Str)) = false := by decide) (he : starEach (a :: es) X.env = (false, eval a X.env) :: starEach es X.env := by rfl) (hpl : (backTo pos (starEach es X.env)).any (·.1) = false := by rfl) :
    FX X U Γ (.Call (.Name n p) (a :: es) [] pos) P (m.bind fun x => (mr x).calm.bind fun z => .ok z) :=
  ⟨fun en F σ H Q s h => wE_of (pe_callTy hc hg hm hv wA_pa hn hdb he hpl) (g_dataF hd (fun _ z => z) (fun _ _ => rfl) (fun _ _ => rfl) ha s h)⟩

/-! ### calls of own defs -/
def SpP (mg : Str → Option Value) {τ γ : Type} (t : Tr τ) (ρ : Rp γ) (f : τ → R γ) : Sp := fun vs H Q E => ∃ F x, Same F H ∧ t.rep x F vs ∧
  wpR (f x) (fun z => ∀ v F' H', Ext F H F' H' → ρ.rep z F' v → Q v H') (fun r => ∀ cls d F' H', Ext F H F' H' → ErOk mg r cls d F' → E cls d H')
variable {W : WX} {k : Nat} {f : Addr} {fd : FuncData} {ps : List Str} {ds : List Value} {dvs : List V}
/-- f(e, ..), the defaults dvs behind -/
theorem g_call {τ' : Type} {t' : Tr τ'} {fm : τ' → R γ} {m : R ω1} {v1 : ω1 → τ} {Γ1 : ω1 → List Sl} {val : ω → γ} {Γ' : ω → List Sl} (app : τ → τ') (pk : ω1 → γ → ω) (hv : ∀ w z, val (pk w z) = z) (hΓ : ∀ w z, Γ' (pk w z) = Γ1 w)
    (hap : ∀ x F vs, t.rep x F vs → t'.rep (app x) F (vs ++ dvs)) (hle : ∀ w, Le U.Γ (Γ1 w))
    (G : FnOk X.prog X.w X.K X.mg X.base (L2.CX X.prog X.w) k f fd ps (SpP X.mg t' ρ fm)) (hr : Room k X.A) (hm : X.mg n = some (.ref f)) (hk : PySem.W.keepIn X.K (.ref f) = true) (hb : Binds X.K fd ps ds) (hd : Vals dvs ds) (tk : Takes X U.W)
    (ha : AG X U Γ (a :: es) t m v1 Γ1) (hg : Gl X n) (hdb : (n == ("__debug__" : Str)) = false) (he : starEach (a :: es) X.env = (false, eval a X.env) :: starEach es X.env) (hpl : (backTo pos (starEach es X.env)).any (·.1) = false) :
    EG X U Γ (.Call (.Name n p) (a :: es) [] pos) ρ (m.bind fun w => (fm (app (v1 w))).bind fun z => .ok (pk w z)) val Γ' :=
  ⟨fun en F σ H Q s h => wE_of (pe_callSD G hr hg hm hk hb hd (fun σ => passAt tk σ) wA_pa hdb he hpl) (ha.out en F σ H _ s (wpR_mono (wpR_bind h) (fun w k vs F1 H1 e1 s1 r1 =>
    ⟨F1, app (v1 w), s1.sub, hap _ F1 vs r1, wpR_mono (wpR_bind k) (fun z k v F' H' x ru => k v F' H' (e1.trans x.f) (by rw [hΓ]; exact s1.ext x) (by rw [hv]; exact ru)) fun r z cls d F' H' x o => z cls d F' σ H' (e1.trans x.f) ((s1.ext x).le (hle w)) o⟩) fun _ z => z))⟩
theorem x_call {fm : τ → R γ} {m : R τ} (G : FnOk X.prog X.w X.K X.mg X.base (L2.CX X.prog X.w) k f fd ps (SpP X.mg t ρ fm)) (hr : Room k X.A) (hm : X.mg n = some (.ref f)) (hk : PySem.W.keepIn X.K (.ref f) = true) (hb : Binds X.K fd ps []) (tk : Takes X U.W) (hle : Le U.Γ Γ)
    (ha : AX X U Γ (a :: es) t m) (hg : Gl X n := by rfl) (hdb : (n == ("__debug__" : Str)) = false := by decide) (he : starEach (a :: es) X.env = (false, eval a X.env) :: starEach es X.env := by rfl) (hpl : (backTo pos (starEach es X.env)).any (·.1) = false := by rfl) :
    EX X U Γ (.Call (.Name n p) (a :: es) [] pos) ρ (m.bind fun x => fm x) := by
  have h : EX X U Γ (.Call (.Name n p) (a :: es) [] pos) ρ (m.bind fun x => (fm x).bind fun z => .ok z) := g_call (fun x => x) (fun _ z => z) (fun _ _ => rfl) (fun _ _ => rfl) (fun x F vs r => by rw [List.append_nil]; exact r) (fun _ => hle) G hr hm hk hb .nil tk ha hg hdb he hpl
  simp only [R.bind_pure] at h
  exact h
end
end Py

/-! Own layer, part C: targets, statements, loops, comprehensions, defs. -/
namespace Py
open PySem PySem.Spec PyProof.Rows L2

/-! ### targets -/
/-- slots outside vs are as they were -/
def Chg (σ σ' : L2.St) (vs : List Nat) : Prop := σ'.length = σ.length ∧ ∀ j, j ∉ vs → σ'[j]? = σ[j]?
theorem Chg.refl {σ : L2.St} {vs : List Nat} : Chg σ σ vs := ⟨rfl, fun _ _ => rfl⟩
theorem Chg.trans {σ σ1 σ2 : L2.St} {vs : List Nat} (a : Chg σ σ1 vs) (b : Chg σ1 σ2 vs) : Chg σ σ2 vs := ⟨b.1.trans a.1, fun j h => (b.2 j h).trans (a.2 j h)⟩
theorem Chg.set {σ : L2.St} {vs : List Nat} {i : Nat} {x : Option V} (h : i ∈ vs) : Chg σ (σ.set i x) vs :=
  ⟨List.length_set, fun j hj => List.getElem?_set_ne fun e => hj (by rw [← e]; exact h)⟩
theorem wipe_in {σ : L2.St} : ∀ {vs : List Nat} {j : Nat}, j ∈ vs → j < σ.length → (wipe σ vs)[j]? = some none
  | [], _, h, _ => by cases h
  | v :: vs, j, h, hl => by
    unfold wipe
    by_cases e : v = j
    · subst e
      exact List.getElem?_set_self (by rw [wipe_length]; exact hl)
    · rw [List.getElem?_set_ne e]
      exact wipe_in ((List.mem_cons.mp h).resolve_left fun z => e z.symm) hl
theorem Chg.wipe {σ σ' : L2.St} {vs : List Nat} (h : Chg σ σ' vs) : wipe σ' vs = wipe σ vs := by
  apply List.ext_getElem?
  intro j
  by_cases hj : j ∈ vs
  · by_cases hl : j < σ.length
    · rw [wipe_in hj hl, wipe_in hj (by rw [h.1]; exact hl)]
    · rw [List.getElem?_eq_none (by rw [wipe_length, h.1]; omega), List.getElem?_eq_none (by rw [wipe_length]; omega)]
  · rw [wipe_out hj, wipe_out hj]
    exact h.2 j hj
def wG (X : Cx) (tg : Expr) : L2.TG := fun v σ H Q => ∀ pins s u, Inv X pins σ H s → RelV v u → wpAny (model X.prog X.w) X.A (assign tg X.env u) (fun _ s' => ∃ σ' H', Inv X pins σ' H' s' ∧ Q σ' H') X.xe s
def wGs (X : Cx) (ts : List Expr) : L2.TGs := fun vs σ H Q => ∀ pins s us, Inv X pins σ H s → Vals vs us → wpAny (model X.prog X.w) X.A (assignInOrder ((assignEach ts X.env).map (·.2)) us) (fun _ s' => ∃ σ' H', Inv X pins σ' H' s' ∧ Q σ' H') X.xe s
section
variable {X : Cx} {tg : Expr} {ts : List Expr} {pos : Pos} {α β τ : Type}
theorem wG_pg : PG X tg (wG X tg) := ⟨fun pins s _ _ _ u _ I r h => h pins s u I r⟩
theorem wGs_pgs : PGs X ts (wGs X ts) := ⟨fun pins s _ _ _ us _ I r h => h pins s us I r⟩
theorem wG_of {t : L2.TG} {v : V} {σ : L2.St} {H : Hp} {Q : L2.St → Hp → Prop} (h : PG X tg t) (q : t v σ H Q) : wG X tg v σ H Q := fun pins s u I r => h.run pins s σ H v u Q I r q
theorem wGs_of {t : L2.TGs} {vs : List V} {σ : L2.St} {H : Hp} {Q : L2.St → Hp → Prop} (h : PGs X ts t) (q : t vs σ H Q) : wGs X ts vs σ H Q := fun pins s us I r => h.run pins s σ H vs us Q I r q
/-- a target for a value of ρ: g tells the slots behind; vs are the slots that change -/
structure GT (X : Cx) (tg : Expr) {α : Type} (ρ : Rp α) (vs : List Nat) (g : α → List Sl → List Sl) : Prop where
  keep : ∀ x Γ (j : Nat), j ∉ vs → (g x Γ)[j]? = Γ[j]?
  out : ∀ en Γ F σ H v x (Q : L2.St → Hp → Prop), SA en Γ F σ H → ρ.rep x F v → (∀ σ', SA en (g x Γ) F σ' H → Chg σ σ' vs → Q σ' H) → wG X tg v σ H Q
structure GTs (X : Cx) (ts : List Expr) {τ : Type} (t : Tr τ) (n : Nat) (vs : List Nat) (g : τ → List Sl → List Sl) : Prop where
  len : ∀ x F ws, t.rep x F ws → ws.length = n
  keep : ∀ x Γ (j : Nat), j ∉ vs → (g x Γ)[j]? = Γ[j]?
  out : ∀ en Γ F σ H ws x (Q : L2.St → Hp → Prop), SA en Γ F σ H → t.rep x F ws → (∀ σ', SA en (g x Γ) F σ' H → Chg σ σ' vs → Q σ' H) → wGs X ts ws σ H Q
theorem gt_name {ρ : Rp α} {vs : List Nat} {n : Str} (i : Nat) (hi : i ∈ vs := by decide) (hN : X.N.Nodup) (hn : X.N[i]? = some n := by rfl) (hx : Loc X.env.scope n := by first | exact Or.inl rfl | exact Or.inr rfl)
    (hf : X.fn n = true ∨ X.env.scope.names.lookup n = some .local := by first | exact .inl rfl | exact .inr rfl) : GT X (.Name n pos) ρ vs fun x Γ => Γ.set i (im ρ x) :=
  ⟨fun x Γ j hj => List.getElem?_set_ne fun e => hj (by rw [← e]; exact hi), fun en Γ F σ H v x Q s r h => wG_of (pg_name hN hn hx hf) (h _ (s.put r) (Chg.set hi))⟩
theorem gts_one {ρ : Rp α} {vs : List Nat} {g : α → List Sl → List Sl} (h1 : GT X tg ρ vs g) (hs : (assignEach [tg] X.env).map (·.2) = assign tg X.env :: (assignEach [] X.env).map (·.2) := by rfl) : GTs X [tg] (t1 ρ) 1 vs g where
  len := fun x F ws ⟨v, e, _⟩ => by rw [e]; rfl
  keep := fun x Γ j hj => h1.keep x Γ j hj
  out := fun en Γ F σ H ws x Q s ⟨v, e, r⟩ h => by
    subst e
    exact wGs_of (pgs_cons wG_pg pgs_nil hs) ⟨v, [], rfl, h1.out en Γ F σ H v x _ s r fun σ' s' c => ⟨rfl, h σ' s' c⟩⟩
theorem gts_cons {ρ : Rp α} {t : Tr τ} {vs : List Nat} {n : Nat} {g : α → List Sl → List Sl} {g' : τ → List Sl → List Sl} (h1 : GT X tg ρ vs g) (h2 : GTs X ts t n vs g')
    (hs : (assignEach (tg :: ts) X.env).map (·.2) = assign tg X.env :: (assignEach ts X.env).map (·.2) := by rfl) : GTs X (tg :: ts) (tc ρ t) (n + 1) vs fun x Γ => g' x.2 (g x.1 Γ) where
  len := fun x F ws ⟨v, r, e, _, q⟩ => by
    rw [e, List.length_cons, h2.len _ _ _ q]
  keep := fun x Γ j hj => (h2.keep x.2 _ j hj).trans (h1.keep x.1 Γ j hj)
  out := fun en Γ F σ H ws x Q s ⟨v, r, e, q1, q2⟩ h => by
    subst e
    exact wGs_of (pgs_cons wG_pg wGs_pgs hs) ⟨v, r, rfl, h1.out en Γ F σ H v x.1 _ s q1 fun σ' s' c => h2.out en _ F σ' H r x.2 _ s' q2 fun σ2 s2 c2 => h σ2 s2 (c.trans c2)⟩
theorem gt_tup {t : Tr τ} {vs : List Nat} {n k : Nat} {g : τ → List Sl → List Sl} (hc : X.calm = true) (h : GTs X ts t n vs g) (hn : (assignEach ts X.env).length = n := by rfl) (hst : (assignEach ts X.env).findIdx? (·.1) = none := by rfl) :
    GT X (.Tuple ts k pos) (rTu t) vs g :=
  ⟨fun x Γ j hj => h.keep x Γ j hj, fun en Γ F σ H v x Q s ⟨p, ws, e, hp, r⟩ q => wG_of (pg_tup hc wGs_pgs hn hst) ⟨p, ws, e, .inl (.inl (s.sub p _ hp)), h.len _ _ _ r, h.out en Γ F σ H ws x Q s r q⟩⟩
end

/-! ### blocks -/
def Kd.cut : Kd → Kd
  | .nx _ => .rt ⟨fun _ _ => False, fun _ h => h⟩ []
  | .go Γ => .ct Γ
  | .fn p Γ => .rt p Γ
  | k => k
theorem Kd.sat.cut {k : Kd} {en : En} {F : Hp} {D : Ends} {nx : L2.St → Hp → Prop} (h : k.sat en F D) : k.cut.sat en F { D with nx := nx } := by
  cases k with
  | nx Γ => exact fun v F' σ' H' _ _ z => z.elim
  | go Γ => exact fun F' σ' H' e s => (h F' σ' H' e s).2
  | fn p Γ => exact h.1
  | bk Γ => exact h
  | ct Γ => exact h
  | rt p Γ => exact h
  | rf P Γ => exact h
section
variable {X : Cx} {U : Wi} {Γ : List Sl} {st : Stmt} {sts rest : List Stmt} {e : Expr} {pos : Pos} {α β γ ω ω' : Type} {I : ω → Kd} {I' : ω' → Kd}
/-- one statement -/
structure SG (X : Cx) (U : Wi) (Γ : List Sl) (st : Stmt) {ω : Type} (I : ω → Kd) (m : R ω) : Prop where
  out : ∀ en F σ H D, SA en Γ F σ H → wpR m (fun o => (I o).sat en F D) (U.ok X.mg en F) → wS X st D σ H
/-- what follows -/
inductive Cont (X : Cx) (U : Wi) (rest : List Stmt) {ω : Type} (I : ω → Kd) : Kd → R ω → Prop
  | nx {Γ : List Sl} {m : R ω} : SX X U Γ rest I m → Cont X U rest I (.nx Γ) m
  | rt {p : PRp} {Γ : List Sl} {o : ω} : I o = .rt p Γ → Cont X U rest I (.rt p Γ) (.ok o)
  | rtf {p : PRp} {Γ : List Sl} {o : ω} : I o = .fn p Γ → Cont X U rest I (.rt p Γ) (.ok o)
  | bk {Γ Γ' : List Sl} {o : ω} : I o = .bk Γ' → Le Γ' Γ → Cont X U rest I (.bk Γ) (.ok o)
  | ct {Γ Γ' : List Sl} {o : ω} : I o = .ct Γ' → Le Γ' Γ → Cont X U rest I (.ct Γ) (.ok o)
  | go {Γ Γ' : List Sl} {o : ω} : I o = .go Γ' → Le Γ' Γ → Cont X U rest I (.ct Γ) (.ok o)
  | rf {P : ORp} {Γ : List Sl} {o : ω} : I o = .rf P Γ → Cont X U rest I (.rf P Γ) (.ok o)
  | no {p : PRp} {Γ : List Sl} {m : R ω} : (∀ F v, ¬ p.p F v) → Cont X U rest I (.rt p Γ) m
theorem Cont.sat {k : Kd} {m : R ω} {en : En} {F : Hp} {D : Ends} (c : Cont X U rest I k m) (h : wpR m (fun o => (I o).sat en F D) (U.ok X.mg en F)) : k.sat en F { D with nx := wSs X rest D } := by
  cases c with
  | nx s => exact fun F' σ' H' e a => s.out en F' σ' H' D a (wpR_mono h (fun o z => z.up e) fun _ z => z.up e)
  | rt e =>
    have h' : Kd.sat (I _) en F D := h
    rw [e] at h'
    exact h'
  | rtf e =>
    have h' : Kd.sat (I _) en F D := h
    rw [e] at h'
    exact h'.1
  | bk e l =>
    have h' : Kd.sat (I _) en F D := h
    rw [e] at h'
    exact fun F' σ' H' x a => h' F' σ' H' x (a.le l)
  | ct e l =>
    have h' : Kd.sat (I _) en F D := h
    rw [e] at h'
    exact fun F' σ' H' x a => h' F' σ' H' x (a.le l)
  | go e l =>
    have h' : Kd.sat (I _) en F D := h
    rw [e] at h'
    exact fun F' σ' H' x a => (h' F' σ' H' x (a.le l)).2
  | rf e =>
    have h' : Kd.sat (I _) en F D := h
    rw [e] at h'
    exact h'
  | no hn => exact fun v F' σ' H' _ _ z => (hn _ _ z).elim
theorem s_cons {m : R ω'} {k : ω' → R ω} (h1 : SG X U Γ st I' m) (h2 : ∀ o, Cont X U rest I (I' o) (k o)) : SX X U Γ (st :: rest) I (m.bind k) :=
  ⟨fun en F σ H D s h => wSs_of (pss_cons wS_ps wSs_pss) (h1.out en F σ H { D with nx := wSs X rest D } s (wpR_mono (wpR_bind h) (fun o q => (h2 o).sat q) fun _ z => z))⟩
theorem s_one {m : R ω} (h1 : SG X U Γ st I m) : SX X U Γ [st] I m := ⟨fun en F σ H D s h => wSs_of (pss_one wS_ps) (h1.out en F σ H D s h)⟩
theorem s_nx {o : ω} {Γ' : List Sl} (e : I o = .nx Γ') (l : Le Γ' Γ) : SX X U Γ [] I (.ok o) :=
  ⟨fun en F σ H D s h => wSs_of pss_nil (by
    have h' : Kd.sat (I o) en F D := h
    rw [e] at h'
    exact h' F σ H (Same.refl F) (s.le l))⟩
theorem s_go {o : ω} {Γ' : List Sl} (e : I o = .go Γ') (l : Le Γ' Γ) : SX X U Γ [] I (.ok o) :=
  ⟨fun en F σ H D s h => wSs_of pss_nil (by
    have h' : Kd.sat (I o) en F D := h
    rw [e] at h'
    exact (h' F σ H (Same.refl F) (s.le l)).1)⟩
theorem s_endN {o : ω} {Γ' : List Sl} {p : PRp} (e : I o = .fn p Γ') (l : Le Γ' Γ) (hp : ∀ F, p.p F .non) : SX X U Γ [] I (.ok o) :=
  ⟨fun en F σ H D s h => wSs_of pss_nil (by
    have h' : Kd.sat (I o) en F D := h
    rw [e] at h'
    exact h'.2 F σ H (Same.refl F) (s.le l) (hp F))⟩
/-- return e -/
theorem g_ret {ρ : Rp α} {m : R ω'} {val : ω' → α} {Γ1 : ω' → List Sl} (mk : ω' → ω) (P : ω' → List Sl) (e1 : ∀ w, I (mk w) = .rt ⟨fun H v => ρ.rep (val w) H v, fun e h => ρ.mono e h⟩ (P w)) (l : ∀ w, Le (P w) (Γ1 w)) (he : EG X U Γ e ρ m val Γ1) :
    SG X U Γ (.Return (some e) pos) I (m.bind fun w => .ok (mk w)) :=
  ⟨fun en F σ H D s h => wS_of (ps_ret wE_pe) (he.out en F σ H _ s (wpR_mono (wpR_bind h) (fun w k v F' H' e' s' r => by
    have k' : Kd.sat (I (mk w)) en F D := k
    rw [e1] at k'
    exact k' v F' σ H' e' (s'.le (l w)) r) fun _ z => z))⟩
/-- what stands behind a return, a break is not looked at -/
theorem s_last {m : R ω} (h1 : SG X U Γ st (fun o => (I o).cut) m) : SX X U Γ (st :: rest) I m :=
  ⟨fun en F σ H D s h => wSs_of (pss_cons wS_ps wSs_pss) (h1.out en F σ H { D with nx := wSs X rest D } s (wpR_mono h (fun o q => q.cut) fun _ z => z))⟩

/-! ### if -/
theorem g_if {c : Expr} {A B : List Stmt} {mc : R ω'} {val : ω' → Bool} {Γ1 : ω' → List Sl} {mA mB : ω' → R ω} (hc : BG X U Γ c mc val Γ1) (hA : ∀ w, SX X U (Γ1 w) A I (mA w)) (hB : ∀ w, SX X U (Γ1 w) B I (mB w)) :
    SG X U Γ (.If c A B pos) I (mc.bind fun w => if val w = true then mA w else mB w) :=
  ⟨fun en F σ H D s h => wS_of (ps_if wT_pt wSs_pss wSs_pss) (hc.out en F σ H _ s (wpR_mono (wpR_bind h) (fun w k F1 H1 e1 s1 => by
    cases hv : val w with
    | true =>
      rw [hv, if_pos rfl] at k
      rw [if_pos rfl]
      exact (hA w).out en F1 σ H1 D s1 (wpR_mono k (fun o z => z.up e1) fun _ z => z.up e1)
    | false =>
      rw [hv, if_neg Bool.false_ne_true] at k
      rw [if_neg Bool.false_ne_true]
      exact (hB w).out en F1 σ H1 D s1 (wpR_mono k (fun o z => z.up e1) fun _ z => z.up e1)) fun _ z => z))⟩
/-- if c: A (it never falls through), then the rest -/
theorem s_ifT {c : Expr} {A : List Stmt} {mc : R ω'} {val : ω' → Bool} {Γ1 : ω' → List Sl} {mA mR : ω' → R ω} (hc : BG X U Γ c mc val Γ1) (hA : ∀ w, SX X U (Γ1 w) A (fun o => (I o).cut) (mA w)) (hR : ∀ w, SX X U (Γ1 w) rest I (mR w)) :
    SX X U Γ (.If c A [] pos :: rest) I (mc.bind fun w => if val w = true then mA w else mR w) :=
  ⟨fun en F σ H D s h => wSs_of (pss_cons (ps_if wT_pt wSs_pss pss_nil) wSs_pss) (hc.out en F σ H _ s (wpR_mono (wpR_bind h) (fun w k F1 H1 e1 s1 => by
    cases hv : val w with
    | true =>
      rw [hv, if_pos rfl] at k
      rw [if_pos rfl]
      exact (hA w).out en F1 σ H1 _ s1 (wpR_mono k (fun o z => (z.up e1).cut) fun _ z => z.up e1)
    | false =>
      rw [hv, if_neg Bool.false_ne_true] at k
      rw [if_neg Bool.false_ne_true]
      exact (hR w).out en F1 σ H1 D s1 (wpR_mono k (fun o z => z.up e1) fun _ z => z.up e1)) fun _ z => z))⟩
/-! ### assignments -/
/-- name = e -/
theorem s_set {ρ : Rp α} {n : Str} {p' : Pos} {m : R ω'} {val : ω' → α} {Γ1 : ω' → List Sl} {k : ω' → R ω} (i : Nat) (hN : X.N.Nodup) (he : EG X U Γ e ρ m val Γ1) (hr : ∀ w, SX X U ((Γ1 w).set i (im ρ (val w))) rest I (k w)) (hn : X.N[i]? = some n := by rfl)
    (hx : Loc X.env.scope n := by first | exact Or.inl rfl | exact Or.inr rfl) (hs : swapsWith e (some (.Name n p')) pos.line X.env = pure false := by rfl) (hf : X.fn n = true ∨ X.env.scope.names.lookup n = some .local := by first | exact .inl rfl | exact .inr rfl) :
    SX X U Γ (.Assign [.Name n p'] e pos :: rest) I (m.bind k) :=
  ⟨fun en F σ H D s h => wSs_of (pss_cons (ps_set hN hn hx wE_pe hs hf) wSs_pss) (he.out en F σ H _ s (wpR_mono (wpR_bind h) (fun w q v F' H' e' s' r =>
    (hr w).out en F' _ H' D (s'.put r) (wpR_mono q (fun o z => z.up e') fun _ z => z.up e')) fun _ z => z))⟩
/-- name = a new object -/
theorem s_own {P : ω' → ORp} {n : Str} {p' : Pos} {m : R ω'} {Γ1 : ω' → List Sl} {k : ω' → R ω} (i : Nat) (hN : X.N.Nodup) (he : FG X U Γ e P m Γ1) (hr : ∀ w, SX X U ((Γ1 w).set i (.own none (P w))) rest I (k w)) (hn : X.N[i]? = some n := by rfl)
    (hx : Loc X.env.scope n := by first | exact Or.inl rfl | exact Or.inr rfl) (hs : swapsWith e (some (.Name n p')) pos.line X.env = pure false := by rfl) (hf : X.fn n = true ∨ X.env.scope.names.lookup n = some .local := by first | exact .inl rfl | exact .inr rfl) :
    SX X U Γ (.Assign [.Name n p'] e pos :: rest) I (m.bind k) :=
  ⟨fun en F σ H D s h => wSs_of (pss_cons (ps_set hN hn hx wE_pe hs hf) wSs_pss) (he.out en F σ H _ s (wpR_mono (wpR_bind h) (fun w q p o F' H' e' s' fr r =>
    (hr w).out en F' _ H' D (s'.putOwn fr r) (wpR_mono q (fun o z => z.up e') fun _ z => z.up e')) fun _ z => z))⟩
/-- a target of any form = e -/
theorem s_asg {ρ : Rp α} {tg : Expr} {vs : List Nat} {g : α → List Sl → List Sl} {m : R ω'} {val : ω' → α} {Γ1 : ω' → List Sl} {k : ω' → R ω} (hg : GT X tg ρ vs g) (he : EG X U Γ e ρ m val Γ1) (hr : ∀ w, SX X U (g (val w) (Γ1 w)) rest I (k w))
    (hs : swapsWithSole [tg] e pos.line X.env = pure false := by rfl) (hw : swappedStores [tg] e X.env = pure none := by rfl) (h1 : (assignEach [tg] X.env).map (·.2) = [assign tg X.env] := by rfl) :
    SX X U Γ (.Assign [tg] e pos :: rest) I (m.bind k) :=
  ⟨fun en F σ H D s h => wSs_of (pss_cons (ps_asg wE_pe wG_pg hs hw h1) wSs_pss) (he.out en F σ H _ s (wpR_mono (wpR_bind h) (fun w q v F' H' e' s' r =>
    hg.out en _ F' σ H' v _ _ s' r fun σ' s2 _ => (hr w).out en F' σ' H' D s2 (wpR_mono q (fun o z => z.up e') fun _ z => z.up e')) fun _ z => z))⟩
/-- an expression alone -/
theorem s_expr {ρ : Rp α} {m : R ω'} {val : ω' → α} {Γ1 : ω' → List Sl} {k : ω' → R ω} (he : EG X U Γ e ρ m val Γ1) (hr : ∀ w, SX X U (Γ1 w) rest I (k w)) (hs : swapsWith e none pos.line X.env = pure false := by rfl) :
    SX X U Γ (.Expr e pos :: rest) I (m.bind k) :=
  ⟨fun en F σ H D s h => wSs_of (pss_cons (ps_expr wE_pe hs) wSs_pss) (he.out en F σ H _ s (wpR_mono (wpR_bind h) (fun w q v F' H' e' s' r =>
    (hr w).out en F' _ H' D s' (wpR_mono q (fun o z => z.up e') fun _ z => z.up e')) fun _ z => z))⟩
/-- what a slot owns is known from now on -/
theorem s_give {τ : Type} {t : Tr τ} {x : τ} {m : R ω} {a0 : Option Addr} (i : Nat) (hΓ : Γ[i]? = some (.own a0 (oLi t x))) (hr : SX X U (Γ.set i (im (rLi t) x)) sts I m) : SX X U Γ sts I m :=
  ⟨fun en F σ H D s h => by
    obtain ⟨p, o, h1, h2, h3, h4, h5, h6⟩ := s.own i _ _ hΓ
    obtain ⟨vs, e, r⟩ := h4
    subst e
    have g := s.give hΓ h1 h3
    have sf : Same F (upd F p (.lst vs)) := Same.upd h2
    have hl : i < σ.length := by
      by_cases z : i < σ.length
      · exact z
      · rw [List.getElem?_eq_none (by omega)] at h1
        cases h1
    have g2 := SA.put (i := i) (P := ⟨fun H v => (rLi t).rep x H v, fun e h => (rLi t).mono e h⟩) (v := .ref p) g ⟨p, vs, rfl, upd_same, t.mono sf r⟩
    rw [List.set_set] at g2
    have e2 : σ.set i (some (.ref p)) = σ := by
      apply List.ext_getElem?
      intro j
      by_cases ej : i = j
      · subst ej
        rw [List.getElem?_set_self hl, h1]
      · rw [List.getElem?_set_ne ej]
    rw [e2] at g2
    exact hr.out en _ σ H D g2 (wpR_mono h (fun o z => z.up sf) fun _ z => z.up sf)⟩
end

/-! ### what is walked -/
structure Wk (J : It) (F : Hp) {α : Type} (ρ : Rp α) (xs : List α) : Prop where
  go : ∀ F1 H i x, Same F F1 → Same F1 H → xs[i]? = some x → J.go i H ∧ ∀ v H', J.yld i H v H' → ∃ F', Ext F1 H F' H' ∧ ρ.rep x F' v
  stop : ∀ H i, Same F H → xs.length ≤ i → J.stop i H
theorem Wk.up {J : It} {F F1 : Hp} {α : Type} {ρ : Rp α} {xs : List α} (w : Wk J F ρ xs) (e : Same F F1) : Wk J F1 ρ xs :=
  ⟨fun F2 H i x h1 h2 h3 => w.go F2 H i x (e.trans h1) h2 h3, fun H i h => w.stop H i (e.trans h)⟩
def wI (X : Cx) (tg iter : Expr) : TI := fun σ H R => ∀ pins s, Inv X pins σ H s → wpAny (model X.prog X.w) X.A (eval iter X.env) (fun v s1 => wpAny (model X.prog X.w) X.A (pyIter v) (PIE X pins σ tg R) X.xe s1) X.xe s
theorem wI_pi {X : Cx} {tg iter : Expr} : PI X tg iter (wI X tg iter) := ⟨fun pins s _ _ _ I h => h pins s I⟩
theorem wI_of {X : Cx} {tg iter : Expr} {t : TI} {σ : L2.St} {H : Hp} {R : It → Hp → Prop} (h : PI X tg iter t) (q : t σ H R) : wI X tg iter σ H R := fun pins s I => h.run pins s σ H R I q
structure IG (X : Cx) (U : Wi) (Γ : List Sl) (tg iter : Expr) {α ω : Type} (ρ : Rp α) (m : R ω) (val : ω → List α) (Γ' : ω → List Sl) : Prop where
  out : ∀ en F σ H (R : It → Hp → Prop), SA en Γ F σ H → wpR m (fun w => ∀ J F' H', Same F F' → SA en (Γ' w) F' σ H' → Wk J F' ρ (val w) → R J H') (U.ok X.mg en F) → wI X tg iter σ H R
abbrev IX (X : Cx) (U : Wi) (Γ : List Sl) (tg iter : Expr) {α : Type} (ρ : Rp α) (m : R (List α)) : Prop := IG X U Γ tg iter ρ m (fun a => a) fun _ => Γ
/-- lo, lo + 1, .. below hi -/
def rangeI (lo hi : Int) : List Int := (List.range (hi - lo).toNat).map fun i => lo + (i : Nat)
theorem wk_list {K : PySem.W.Frag} {F : Hp} {α : Type} {ρ : Rp α} {xs : List α} {p : Addr} {vs : List V} (h : F p = some (.lst vs)) (r : RepL ρ F xs vs) : Wk (Itl K p) F ρ xs where
  go := fun F1 H i x e1 e2 hx => by
    have hp : H p = some (.lst vs) := e2 p _ (e1 p _ h)
    obtain ⟨v, hv, rv⟩ := r.got hx
    exact ⟨⟨vs, v, .inl (.inl hp), hv⟩, fun w H' ⟨eH, y⟩ => by
      subst eH
      have ew : w = v := Option.some.inj ((y vs (.inl (.inl hp))).symm.trans hv)
      subst ew
      exact ⟨F1, Ext.refl e2, ρ.mono e1 rv⟩⟩
  stop := fun H i e hi => ⟨vs, .inl (.inl (e p _ h)), by rw [← r.length]; exact hi⟩
theorem wk_tup {K : PySem.W.Frag} {F : Hp} {α : Type} {ρ : Rp α} {xs : List α} {p : Addr} {vs : List V} (h : F p = some (.tup vs)) (r : RepL ρ F xs vs) : Wk (Itt K p) F ρ xs where
  go := fun F1 H i x e1 e2 hx => by
    have hp : H p = some (.tup vs) := e2 p _ (e1 p _ h)
    obtain ⟨v, hv, rv⟩ := r.got hx
    exact ⟨⟨vs, v, .inl (.inl hp), hv⟩, fun w H' ⟨eH, y⟩ => by
      subst eH
      have ew : w = v := Option.some.inj ((y vs (.inl (.inl hp))).symm.trans hv)
      subst ew
      exact ⟨F1, Ext.refl e2, ρ.mono e1 rv⟩⟩
  stop := fun H i e hi => ⟨vs, .inl (.inl (e p _ h)), by rw [← r.length]; exact hi⟩
theorem wk_range {F : Hp} {lo hi : Int} : Wk (Itr lo (hi - lo).toNat) F rI (rangeI lo hi) where
  go := fun F1 H i x e1 e2 hx => by
    unfold rangeI at hx
    rw [List.getElem?_map] at hx
    have hi' : i < (hi - lo).toNat := by
      by_cases z : i < (hi - lo).toNat
      · exact z
      · rw [List.getElem?_eq_none (by rw [List.length_range]; omega)] at hx
        cases hx
    rw [List.getElem?_range hi'] at hx
    have hx' : lo + (i : Nat) = x := Option.some.inj hx
    exact ⟨hi', fun w H' ⟨eH, y⟩ => by
      subst eH
      exact ⟨F1, Ext.refl e2, by rw [y, hx'] <;> rfl⟩⟩
  stop := fun H i e hi' => by
    unfold rangeI at hi'
    rw [List.length_map, List.length_range] at hi'
    exact hi'
section
variable {X : Cx} {U : Wi} {Γ : List Sl} {tg a b e : Expr} {pos p : Pos} {α β ω : Type} {ρ : Rp α}
theorem i_list {m : R ω} {val : ω → List α} {Γ' : ω → List Sl} (h : EG X U Γ e (rL ρ) m val Γ') : IG X U Γ tg e ρ m val Γ' :=
  ⟨fun en F σ H R s q => wI_of (pi_list wE_pe) (h.out en F σ H _ s (wpR_mono q (fun w k v F' H' e1 s1 ⟨p, vs, ev, hp, r⟩ => ⟨p, ev, ⟨vs, .inl (.inl (s1.sub p _ hp))⟩, k _ F' H' e1 s1 (wk_list hp r)⟩) fun _ z => z))⟩
theorem i_tup {m : R ω} {val : ω → List α} {Γ' : ω → List Sl} (h : EG X U Γ e (rT ρ) m val Γ') : IG X U Γ tg e ρ m val Γ' :=
  ⟨fun en F σ H R s q => wI_of (pi_tup wE_pe) (h.out en F σ H _ s (wpR_mono q (fun w k v F' H' e1 s1 ⟨p, vs, ev, hp, r⟩ => ⟨p, ev, ⟨vs, .inl (.inl (s1.sub p _ hp))⟩, k _ F' H' e1 s1 (wk_tup hp r)⟩) fun _ z => z))⟩
theorem i_range1 {m : R Int} (hm : X.mg "range" = none) (h : AX X U Γ [a] (t1 rI) m) (hg : Gl X "range" := by rfl) (hs : starEach [a] X.env = [(false, eval a X.env)] := by rfl) :
    IX X U Γ tg (.Call (.Name "range" p) [a] [] pos) rI (m.bind fun n => chk (-(2 ^ 62) ≤ n ∧ n < 2 ^ 62) (rangeI 0 n)) :=
  ⟨fun en F σ H R s q => wI_of (pi_range1 hg hm wA_pa hs) (h.out en F σ H _ s (wpR_mono (wpR_bind q) (fun n k vs F' H' e1 s1 ⟨v, ev, r⟩ => by
    obtain ⟨⟨b1, b2⟩, k⟩ := wpR_chk k
    refine ⟨n, by rw [ev, show v = V.int n from r], b1, b2, k _ F' H' e1 s1 ?_⟩
    have w := wk_range (F := F') (lo := 0) (hi := n)
    rw [Int.sub_zero] at w
    exact w) fun _ z => z))⟩
theorem i_rangeC {i : Int} {j} {p2 : Pos} (hm : X.mg "range" = none) (hi : -(2 ^ 62) ≤ i ∧ i < 2 ^ 62 := by decide) (hg : Gl X "range" := by rfl) (hs : starEach [.Constant (.int i) j p2] X.env = [(false, eval (.Constant (.int i) j p2) X.env)] := by rfl) :
    IX X U Γ tg (.Call (.Name "range" p) [.Constant (.int i) j p2] [] pos) rI (.ok (rangeI 0 i)) :=
  ⟨fun en F σ H R s q => wI_of (pi_range1 hg hm (pa_cons pe_int pa_nil hs) hs) ⟨i, rfl, hi.1, hi.2, q _ F H (Same.refl F) s (by
    have w := wk_range (F := F) (lo := 0) (hi := i)
    rw [Int.sub_zero] at w
    exact w)⟩⟩
end

/-! ### for -/
inductive Stp (τ γ : Type) where
  | nx (s : τ)
  | bk (s : τ)
  | rt (a : γ)
inductive Out (τ γ : Type) where
  | nx (s : τ)
  | rt (a : γ)
def Stp.kd {τ γ : Type} (Γs : τ → List Sl) (P : γ → PRp × List Sl) : Stp τ γ → Kd
  | .nx s => .go (Γs s)
  | .bk s => .bk (Γs s)
  | .rt a => .rt (P a).1 (P a).2
def Out.kd {τ γ : Type} (Γs : τ → List Sl) (P : γ → PRp × List Sl) : Out τ γ → Kd
  | .nx s => .nx (Γs s)
  | .rt a => .rt (P a).1 (P a).2
def outK {τ γ ω : Type} (k : τ → R ω) (mk : γ → ω) : Out τ γ → R ω
  | .nx s => k s
  | .rt a => .ok (mk a)
/-- a loop that may be left -/
def forS {α τ γ : Type} (f : τ → α → R (Stp τ γ)) : List α → τ → R (Out τ γ)
  | [], s => .ok (.nx s)
  | x :: xs, s => (f s x).bind fun o => match o with
    | .nx s' => forS f xs s'
    | .bk s' => .ok (.nx s')
    | .rt a => .ok (.rt a)
/-- one that runs through -/
def forR {α τ : Type} (f : τ → α → R τ) : List α → τ → R τ
  | [], s => .ok s
  | x :: xs, s => (f s x).bind fun s' => forR f xs s'
section
variable {X : Cx} {U : Wi} {Γ : List Sl} {tg iter : Expr} {body : List Stmt} {pos : Pos} {α τ γ ω : Type} {ρ : Rp α}
theorem g_forS {m : R ω} {val : ω → List α} {Γ1 : ω → List Sl} {vs : List Nat} {g : α → List Sl → List Sl} (Γs : τ → List Sl) (P : γ → PRp × List Sl) (f : ω → τ → α → R (Stp τ γ)) (s0 : ω → τ) (hi : IG X U Γ tg iter ρ m val Γ1) (hg : GT X tg ρ vs g)
    (hb : ∀ w s x, SX X U (g x (Γs s)) body (Stp.kd Γs P) (f w s x))
    (h0 : ∀ w, Le (Γs (s0 w)) (Γ1 w)) (hp : PassesOwn (model X.prog X.w) X.A X.env X.xe) (hc : X.calm = true := by rfl) (hs : ∀ x, foldedSetIterable iter X.env x = pure x := by intro _; rfl) :
    SG X U Γ (.For tg iter body [] pos) (Out.kd Γs P) (m.bind fun w => forS (f w) (val w) (s0 w)) :=
  ⟨fun en F σ H D s h => wS_of (ps_for hp hc wI_pi wG_pg wSs_pss hs) (hi.out en F σ H _ s (wpR_mono (wpR_bind h) (fun w k J F1 H1 e1 s1 wk => by
    refine ⟨fun i m σ H => m = (val w).length - i ∧ i ≤ (val w).length ∧ ∃ st F', Same F1 F' ∧ SA en (Γs st) F' σ H ∧ wpR (forS (f w) ((val w).drop i) st) (fun o => Kd.sat (Out.kd Γs P o) en F' D) (U.ok X.mg en F'),
      ⟨_, rfl, Nat.zero_le _, s0 w, F1, Same.refl F1, s1.le (h0 w), wpR_mono k (fun o z => z.up e1) fun _ z => z.up e1⟩, ?_⟩
    rintro i m σ H ⟨rfl, hi, st, F', eF, sa, q⟩
    by_cases hlt : i < (val w).length
    · have hd : (val w).drop i = (val w)[i] :: (val w).drop (i + 1) := List.drop_eq_getElem_cons hlt
      have hx : (val w)[i]? = some (val w)[i] := List.getElem?_eq_getElem hlt
      obtain ⟨go, yl⟩ := wk.go F' H i _ eF sa.sub hx
      rw [hd] at q
      refine .inr ⟨go, fun σ' H' => i + 1 ≤ (val w).length ∧ ∃ st F', Same F1 F' ∧ SA en (Γs st) F' σ' H' ∧ wpR (forS (f w) ((val w).drop (i + 1)) st) (fun o => Kd.sat (Out.kd Γs P o) en F' D) (U.ok X.mg en F'), fun σ' H' ⟨a1, a2⟩ => ⟨_, by omega, rfl, a1, a2⟩, fun v H' y => ?_⟩
      obtain ⟨F2, xx, rv⟩ := yl v H' y
      refine hg.out en _ F2 σ H' v _ _ (sa.ext xx) rv fun σ2 s2 _ => ?_
      refine (hb w st _).out en F2 σ2 H' _ s2 (wpR_mono (wpR_bind q) (fun o z => ?_) fun _ z => z.up xx.f)
      cases o with
      | nx st' => exact fun F3 σ3 H3 e3 s3 => ⟨⟨hlt, st', F3, eF.trans (xx.f.trans e3), s3, wpR_mono z (fun o z => z.up (xx.f.trans e3)) fun _ z => z.up (xx.f.trans e3)⟩, ⟨hlt, st', F3, eF.trans (xx.f.trans e3), s3, wpR_mono z (fun o z => z.up (xx.f.trans e3)) fun _ z => z.up (xx.f.trans e3)⟩⟩
      | bk st' => exact fun F3 σ3 H3 e3 s3 => z F3 σ3 H3 (xx.f.trans e3) s3
      | rt a => exact fun v F3 σ3 H3 e3 s3 r3 => z v F3 σ3 H3 (xx.f.trans e3) s3 r3
    · have e : i = (val w).length := by omega
      subst e
      rw [List.drop_length] at q
      exact .inl ⟨wk.stop H _ (eF.trans sa.sub) (Nat.le_refl _), q F' σ H (Same.refl F') sa⟩) fun _ z => z))⟩
theorem g_forR {m : R ω} {val : ω → List α} {Γ1 : ω → List Sl} {vs : List Nat} {g : α → List Sl → List Sl} (Γs : τ → List Sl) (f : ω → τ → α → R τ) (s0 : ω → τ) (hi : IG X U Γ tg iter ρ m val Γ1) (hg : GT X tg ρ vs g)
    (hb : ∀ w s x, SX X U (g x (Γs s)) body (fun s' => .go (Γs s')) (f w s x)) (h0 : ∀ w, Le (Γs (s0 w)) (Γ1 w)) (hp : PassesOwn (model X.prog X.w) X.A X.env X.xe) (hc : X.calm = true := by rfl) (hs : ∀ x, foldedSetIterable iter X.env x = pure x := by intro _; rfl) :
    SG X U Γ (.For tg iter body [] pos) (fun s => .nx (Γs s)) (m.bind fun w => forR (f w) (val w) (s0 w)) :=
  ⟨fun en F σ H D s h => wS_of (ps_for hp hc wI_pi wG_pg wSs_pss hs) (hi.out en F σ H _ s (wpR_mono (wpR_bind h) (fun w k J F1 H1 e1 s1 wk => by
    refine ⟨fun i m σ H => m = (val w).length - i ∧ i ≤ (val w).length ∧ ∃ st F', Same F1 F' ∧ SA en (Γs st) F' σ H ∧ wpR (forR (f w) ((val w).drop i) st) (fun o => Kd.sat (.nx (Γs o)) en F' D) (U.ok X.mg en F'),
      ⟨_, rfl, Nat.zero_le _, s0 w, F1, Same.refl F1, s1.le (h0 w), wpR_mono k (fun o z => Kd.sat.up (k := .nx (Γs o)) z e1) fun _ z => z.up e1⟩, ?_⟩
    rintro i m σ H ⟨rfl, hi, st, F', eF, sa, q⟩
    by_cases hlt : i < (val w).length
    · have hd : (val w).drop i = (val w)[i] :: (val w).drop (i + 1) := List.drop_eq_getElem_cons hlt
      have hx : (val w)[i]? = some (val w)[i] := List.getElem?_eq_getElem hlt
      obtain ⟨go, yl⟩ := wk.go F' H i _ eF sa.sub hx
      rw [hd] at q
      refine .inr ⟨go, fun σ' H' => i + 1 ≤ (val w).length ∧ ∃ st F', Same F1 F' ∧ SA en (Γs st) F' σ' H' ∧ wpR (forR (f w) ((val w).drop (i + 1)) st) (fun o => Kd.sat (.nx (Γs o)) en F' D) (U.ok X.mg en F'), fun σ' H' ⟨a1, a2⟩ => ⟨_, by omega, rfl, a1, a2⟩, fun v H' y => ?_⟩
      obtain ⟨F2, xx, rv⟩ := yl v H' y
      refine hg.out en _ F2 σ H' v _ _ (sa.ext xx) rv fun σ2 s2 _ => ?_
      refine (hb w st _).out en F2 σ2 H' _ s2 (wpR_mono (wpR_bind q) (fun st' z => ?_) fun _ z => z.up xx.f)
      exact fun F3 σ3 H3 e3 s3 => ⟨⟨hlt, st', F3, eF.trans (xx.f.trans e3), s3, wpR_mono z (fun o z => Kd.sat.up (k := .nx (Γs o)) z (xx.f.trans e3)) fun _ z => z.up (xx.f.trans e3)⟩, ⟨hlt, st', F3, eF.trans (xx.f.trans e3), s3, wpR_mono z (fun o z => Kd.sat.up (k := .nx (Γs o)) z (xx.f.trans e3)) fun _ z => z.up (xx.f.trans e3)⟩⟩
    · have e : i = (val w).length := by omega
      subst e
      rw [List.drop_length] at q
      exact .inl ⟨wk.stop H _ (eF.trans sa.sub) (Nat.le_refl _), q F' σ H (Same.refl F') sa⟩) fun _ z => z))⟩
end

/-! ### comprehensions -/
/-- the slots at vs are forgotten -/
def wipeΓ (Γ : List Sl) : List Nat → List Sl
  | [] => Γ
  | v :: vs => (wipeΓ Γ vs).set v .any
theorem wipeΓ_get {Γ : List Sl} {i : Nat} {x : Sl} : ∀ {vs : List Nat}, (wipeΓ Γ vs)[i]? = some x → x = .any ∨ (Γ[i]? = some x ∧ i ∉ vs)
  | [], h => .inr ⟨h, by simp⟩
  | v :: vs, h => by
    unfold wipeΓ at h
    by_cases e : v = i
    · subst e
      by_cases hl : v < (wipeΓ Γ vs).length
      · rw [List.getElem?_set_self hl] at h
        exact .inl (Option.some.inj h).symm
      · rw [List.getElem?_eq_none (by rw [List.length_set]; omega)] at h
        cases h
    · rw [List.getElem?_set_ne e] at h
      rcases wipeΓ_get h with z | ⟨z, hn⟩
      · exact .inl z
      · exact .inr ⟨z, by simp only [List.mem_cons, not_or]; exact ⟨fun q => e q.symm, hn⟩⟩
theorem wipeΓ_len {Γ : List Sl} : ∀ {vs : List Nat}, (wipeΓ Γ vs).length = Γ.length
  | [] => rfl
  | v :: vs => by
    unfold wipeΓ
    rw [List.length_set]
    exact wipeΓ_len
theorem wipeΓ_out {Γ : List Sl} {i : Nat} : ∀ {vs : List Nat}, i ∉ vs → (wipeΓ Γ vs)[i]? = Γ[i]?
  | [], _ => rfl
  | v :: vs, h => by
    obtain ⟨h1, h2⟩ := not_or.mp (fun z => h (List.mem_cons.mpr z))
    unfold wipeΓ
    rw [List.getElem?_set_ne fun e => h1 e.symm]
    exact wipeΓ_out h2
theorem SA.wipe {en : En} {Γ : List Sl} {F H : Hp} {σ : L2.St} {vs : List Nat} (s : SA en Γ F σ H) : SA en (wipeΓ Γ vs) F (wipe σ vs) H where
  len := by
    rw [wipeΓ_len, wipe_length]
    exact s.len
  sub := s.sub
  grow := s.grow
  old := s.old
  there := s.there
  frz := s.frz
  val := fun i P h => by
    rcases wipeΓ_get h with z | ⟨z, hn⟩
    · cases z
    · rw [wipe_out hn]
      exact s.val i P z
  own := fun i a P h => by
    rcases wipeΓ_get h with z | ⟨z, hn⟩
    · cases z
    · rw [wipe_out hn]
      exact s.own i a P z
  dis := fun i j a b P Q p hij hi hj hp => by
    rcases wipeΓ_get hi with z | ⟨z, hn⟩
    · cases z
    · rcases wipeΓ_get hj with y | ⟨y, hm⟩
      · cases y
      · rw [wipe_out hn] at hp
        rw [wipe_out hm]
        exact s.dis i j a b P Q p hij z y hp
/-- behind a pure evaluation within a block: what was goes on -/
theorem SA.blk {en : En} {Γ Γ3 : List Sl} {F2 F3 H2 H3 : Hp} {σ σ2 : L2.St} {vs : List Nat} (s : SA en Γ F2 σ H2) (s3 : SA ⟨F2, H2, Ows Γ σ⟩ Γ3 F3 σ2 H3) (e3 : Same F2 F3) (ch : Chg (L2.wipe σ vs) σ2 vs)
    (hk : ∀ j : Nat, j ∉ vs → Γ3[j]? = Γ[j]?) (hn : ∀ (j : Nat) a P, Γ[j]? = some (.own a P) → j ∉ vs) : SA en Γ F3 σ H3 where
  len := s.len
  sub := s3.sub
  grow := s.grow.trans e3
  old := fun p o e hp => s3.old p o (s.old p o e hp) fun ⟨i, a, P, hi, hs⟩ => by
    obtain ⟨q, x, h1, _, _, _, h5, _⟩ := s.own i a P hi
    rw [hs] at h1
    injection h1 with h1
    injection h1 with h1
    injection h1 with h1
    subst h1
    rcases h5 with z | z
    · rw [z] at e
      cases e
    · exact hp z
  there := fun p hp => s3.there p (s.there p hp)
  frz := fun p hp hf hps => (s.frz p hp hf hps).elim (fun q => s3.frz p (s.there p hp) q fun z => (s.ows z).elim (fun y => hp y) hps) fun ⟨vs, z⟩ => .inr ⟨vs, e3 p _ z⟩
  val := fun i P hi => by
    obtain ⟨v, h1, h2⟩ := s.val i P hi
    exact ⟨v, h1, P.m e3 h2⟩
  own := fun i a P hi => by
    obtain ⟨p, o, h1, h2, h3, h4, h5, h6⟩ := s.own i a P hi
    have hv := hn i a P hi
    obtain ⟨q, x, g1, g2, g3, g4, _, _⟩ := s3.own i a P (by rw [hk i hv]; exact hi)
    rw [ch.2 i hv, wipe_out hv, h1] at g1
    injection g1 with g1
    injection g1 with g1
    injection g1 with g1
    subst g1
    exact ⟨p, x, h1, g2, g3, g4, h5, h6⟩
  dis := s.dis
def noOwn (Γ : List Sl) (vs : List Nat) : Bool := vs.all fun j => match Γ[j]? with
  | some (.own _ _) => false
  | _ => true
theorem noOwn_of {Γ : List Sl} {vs : List Nat} (h : noOwn Γ vs = true) (j : Nat) (a : Option Addr) (P : ORp) (hj : Γ[j]? = some (.own a P)) : j ∉ vs := fun hm => by
  have q := List.all_eq_true.mp h j hm
  rw [hj] at q
  cases q
def mapR {α β : Type} (f : α → R β) : List α → R (List β)
  | [] => .ok []
  | x :: xs => (f x).calm.bind fun y => (mapR f xs).bind fun ys => .ok (y :: ys)
/-- with a test -/
def fmR {α β : Type} (c : α → R Bool) (f : α → R β) : List α → R (List β)
  | [] => .ok []
  | x :: xs => (c x).calm.bind fun b => if b = true then (f x).calm.bind fun y => (fmR c f xs).bind fun ys => .ok (y :: ys) else fmR c f xs
/-- no error leaves a comprehension -/
abbrev U0 : Wi := ⟨fun _ _ _ _ => False, []⟩
def wTs (X : Cx) (ifs : List Expr) : TT := fun σ H Q => ∀ pins s, Inv X pins σ H s →
    wpAny (model X.prog X.w) X.A (forIn ifs true fun c r => if r = true then do let ok ← isTrue c X.env (eval c X.env); pure (ForInStep.yield ok) else pure (ForInStep.yield r)) (TP X pins σ Q) X.xe s
theorem wTs_of {X : Cx} {ifs : List Expr} {t : TT} {σ : L2.St} {H : Hp} {Q : Bool → Hp → Prop} (h : PTs X ifs t) (q : t σ H Q) : wTs X ifs σ H Q := fun pins s I => h.run pins s σ H Q I q
structure TsG (X : Cx) (U : Wi) (Γ : List Sl) (ifs : List Expr) (m : R Bool) : Prop where
  out : ∀ en F σ H (Q : Bool → Hp → Prop), SA en Γ F σ H → wpR m (fun w => ∀ F' H', Same F F' → SA en Γ F' σ H' → Q w H') (U.ok X.mg en F) → wTs X ifs σ H Q
section
variable {X : Cx} {U : Wi} {Γ : List Sl} {tg iter elt : Expr} {ifs : List Expr} {scope : Scope} {own : List (Str × Nat)} {pos : Pos} {α β : Type} {ρ : Rp α} {π : Rp β}
theorem ts_nil : TsG X U Γ [] (.ok true) := ⟨fun en F σ H Q s h => wTs_of pts_nil (h F H (Same.refl F) s)⟩
theorem ts_one {c : Expr} {m : R Bool} (hc : BX X U Γ c m) : TsG X U Γ [c] m := ⟨fun en F σ H Q s h => wTs_of (pts_one wT_pt) (hc.out en F σ H Q s h)⟩
theorem wpR_calm2 {γ : Type} {m : R γ} {K : γ → Prop} {Z Z' : Er → Prop} (h : wpR m.calm K Z) : wpR m K Z' := by
  cases m with
  | ok a => exact h
  | er e => exact False.elim h
  | bad => exact h
/-- the readings of a comprehension's block -/
def lG (X : Cx) (scope : Scope) (tg : Expr) : L2.TG := fun v σ H Q => ∀ s H0 C cl fp, wG (X.blk s H0 scope (compEnvC scope cl C X.env) fp) tg v σ H Q
def lT (X : Cx) (scope : Scope) (ifs : List Expr) : TT := fun σ H Q => ∀ s H0 C cl fp, wTs (X.blk s H0 scope (compEnvC scope cl C X.env) fp) ifs σ H Q
def lE (X : Cx) (scope : Scope) (elt : Expr) : TE := fun σ H Q => ∀ s H0 C cl fp, wE (X.blk s H0 scope (compEnvC scope cl C X.env) fp) elt σ H Q
theorem lc_red {m : R (List α)} {g : α → List Sl → List Sl} {c : α → R Bool} {f : α → R β} (hi : IX X U Γ tg iter ρ m)
    (hg : ∀ (s : Shared) (H : Hp) (C : Addr) (cl : List (Str × Addr)) (fp : List Addr), GT (X.blk s H scope (compEnvC scope cl C X.env) fp) tg ρ (own.map (·.2)) g)
    (ht : ∀ (s : Shared) (H : Hp) (C : Addr) (cl : List (Str × Addr)) (fp : List Addr) (x : α), TsG (X.blk s H scope (compEnvC scope cl C X.env) fp) U0 (g x (wipeΓ Γ (own.map (·.2)))) ifs (c x))
    (he : ∀ (s : Shared) (H : Hp) (C : Addr) (cl : List (Str × Addr)) (fp : List Addr) (x : α), EX (X.blk s H scope (compEnvC scope cl C X.env) fp) U0 (g x (wipeΓ Γ (own.map (·.2)))) elt π (f x))
    (hno : noOwn Γ (own.map (·.2)) = true := by rfl)
    {en : En} {F : Hp} {σ : L2.St} {H : Hp} {Q : VK} (s : SA en Γ F σ H)
    (h : wpR (m.bind fun xs => (fmR c f xs).bind fun ys => chk (ys.length ≤ sizeLine) ys) (fun ys => ∀ p o F' H', Same F F' → SA en Γ F' σ H' → Fresh en Γ F' σ H' p o → (oLi (tl π) ys).p F' o → Q (.ref p) H') (U.ok X.mg en F)) :
    tLc (wI X tg iter) (lG X scope tg) (lT X scope ifs) (lE X scope elt) (own.map (·.2)) σ H Q := by
  refine hi.out en F σ H _ s (wpR_mono (wpR_bind h) (fun xs k J F1 H1 e1 s1 wk => fun D hD => ?_) fun _ z => z)
  -- the list, turn by turn
  generalize hvs : own.map (·.2) = vs at *
  have l0 := s1.lay (o := .lst []) hD
  have k2 := wpR_bind k
  cases hall : fmR c f xs with
  | er z =>
    rw [hall] at k2
    exact absurd hall (by
      have : ∀ (xs : List α) (z : Er), fmR c f xs ≠ .er z := by
        intro xs
        induction xs with
        | nil => intro z q; cases q
        | cons x r ih =>
          intro z q
          unfold fmR at q
          cases hc : c x with
          | ok b =>
            rw [hc] at q
            cases b with
            | true =>
              cases hf : f x with
              | ok y =>
                rw [hf] at q
                cases hr : fmR c f r with
                | ok ys => rw [hr] at q; cases q
                | er w => exact ih w hr
                | bad => rw [hr] at q; cases q
              | er w => rw [hf] at q; cases q
              | bad => rw [hf] at q; cases q
            | false => exact ih z q
          | er w => rw [hc] at q; cases q
          | bad => rw [hc] at q; cases q
      exact this xs z)
  | bad =>
    rw [hall] at k2
    exact k2.elim
  | ok zs =>
    rw [hall] at k2
    obtain ⟨hz, k2⟩ := wpR_chk k2
    refine ⟨fun i m H => m = xs.length - i ∧ i ≤ xs.length ∧ ∃ (ys : List β) (ws : List V) (F' : Hp), Same F1 F' ∧ SA en Γ F' σ H ∧ Fresh en Γ F' σ H D (.lst ws) ∧ RepL π F' ys ws ∧ ((fmR c f (xs.drop i)).bind fun r => .ok (ys ++ r)) = .ok zs,
      ⟨_, rfl, Nat.zero_le _, [], [], F1, Same.refl F1, l0.1, l0.2, .nil, by rw [List.drop_zero, hall] <;> rfl⟩, ?_⟩
    rintro i m H ⟨rfl, hil, ys, ws, F', eF, sa, fr, rl, heq⟩
    by_cases hlt : i < xs.length
    · have hd : xs.drop i = xs[i] :: xs.drop (i + 1) := List.drop_eq_getElem_cons hlt
      have hx : xs[i]? = some xs[i] := List.getElem?_eq_getElem hlt
      obtain ⟨go, yl⟩ := wk.go F' H i _ eF sa.sub hx
      rw [hd] at heq
      unfold fmR at heq
      refine .inr ⟨go, fun H => i + 1 ≤ xs.length ∧ ∃ (ys : List β) (ws : List V) (F' : Hp), Same F1 F' ∧ SA en Γ F' σ H ∧ Fresh en Γ F' σ H D (.lst ws) ∧ RepL π F' ys ws ∧ ((fmR c f (xs.drop (i + 1))).bind fun r => .ok (ys ++ r)) = .ok zs, fun H' ⟨a1, a2⟩ => ⟨_, by omega, rfl, a1, a2⟩, fun v H' y => ?_⟩
      obtain ⟨F2, xx, rv⟩ := yl v H' y
      have sa2 := sa.ext xx
      have fr2 : Fresh en Γ F2 σ H' D (.lst ws) := ⟨no_tup xx.s (xx.n D (by rw [fr.h]; exact fun z => nomatch z) fr.f) (xx.h D _ fr.h) (fun _ z => nomatch z), fr.e, fr.n, xx.h D _ fr.h⟩
      -- the block's own entry
      let en2 : En := ⟨F2, H', Ows Γ σ⟩
      have sw : SA en2 (wipeΓ Γ vs) F2 (wipe σ vs) H' := (sa2.re).wipe
      intro s' H0 C cl fp
      refine (hg s' H0 C cl fp).out en2 _ F2 _ H' v _ _ sw rv fun σ2 s2 ch => ⟨?_, ?_⟩
      · have hw := ch.wipe
        have hi2 : wipe (wipe σ vs) vs = wipe σ vs := by
          apply List.ext_getElem?
          intro j
          by_cases hj : j ∈ vs
          · by_cases hl : j < σ.length
            · rw [wipe_in hj (by rw [wipe_length]; exact hl), wipe_in hj hl]
            · rw [List.getElem?_eq_none (by rw [wipe_length, wipe_length]; omega), List.getElem?_eq_none (by rw [wipe_length]; omega)]
          · rw [wipe_out hj]
        exact hw.trans hi2
      · -- behind a pure evaluation of the block
        have bk : ∀ {F3 H3 : Hp}, SA en2 (g xs[i] (wipeΓ Γ vs)) F3 σ2 H3 → Same F2 F3 → SA en Γ F3 σ H3 ∧ Fresh en Γ F3 σ H3 D (.lst ws) := fun {F3 H3} s3 e3 =>
          ⟨sa2.blk s3 e3 ch (fun j hj => by
            rw [(hg s' H0 C cl fp).keep _ _ j hj]
            exact wipeΓ_out hj) (noOwn_of hno),
          ⟨no_tup s3.sub (s3.frz D (by show H' D ≠ none; rw [fr2.h]; exact fun z => nomatch z) fr2.f (fun ⟨j, a, P, hj, hs⟩ => fr2.n j a P hj hs)) (s3.old D _ fr2.h fun ⟨j, a, P, hj, hs⟩ => fr2.n j a P hj hs) (fun _ z => nomatch z), fr2.e, fr2.n, s3.old D _ fr2.h fun ⟨j, a, P, hj, hs⟩ => fr2.n j a P hj hs⟩⟩
        have hq := heq
        intro s'' H0' C' cl' fp'
        cases hcv : c xs[i] with
        | er z => rw [hcv] at hq; cases hq
        | bad => rw [hcv] at hq; cases hq
        | ok b =>
          rw [hcv] at hq
          refine (ht s'' H0' C' cl' fp' xs[i]).out en2 F2 σ2 H' _ s2 ?_
          rw [hcv]
          intro F3 H3 e3 s3
          obtain ⟨sa3, fr3⟩ := bk s3 e3
          cases b with
          | false =>
            rw [if_neg Bool.false_ne_true]
            exact ⟨hlt, ys, ws, F3, eF.trans (xx.f.trans e3), sa3, fr3, (rl.mono (xx.f.trans e3)), hq⟩
          | true =>
            rw [if_pos rfl]
            have hq' : (((f xs[i]).calm.bind fun y => (fmR c f (xs.drop (i + 1))).bind fun ys => R.ok (y :: ys)).bind fun r => R.ok (ys ++ r)) = .ok zs := hq
            intro s4 H04 C4 cl4 fp4
            cases hfv : f xs[i] with
            | er z => rw [hfv] at hq'; cases hq'
            | bad => rw [hfv] at hq'; cases hq'
            | ok y =>
              rw [hfv] at hq'
              have hq2 : (((fmR c f (xs.drop (i + 1))).bind fun ys => R.ok (y :: ys)).bind fun r => R.ok (ys ++ r)) = .ok zs := hq'
              refine (he s4 H04 C4 cl4 fp4 xs[i]).out en2 F3 σ2 H3 _ s3 ?_
              rw [hfv]
              intro u F4 H4 e4 s4' ru
              obtain ⟨sa4, fr4⟩ := bk s4' (e3.trans e4)
              have hq3 : ((fmR c f (xs.drop (i + 1))).bind fun r => R.ok ((ys ++ [y]) ++ r)) = .ok zs := by
                cases hr : fmR c f (xs.drop (i + 1)) with
                | ok r =>
                  rw [hr] at hq2
                  have q3 : R.ok (ys ++ (y :: r)) = .ok zs := hq2
                  show R.ok ((ys ++ [y]) ++ r) = .ok zs
                  rw [List.append_assoc]
                  exact q3
                | er z => rw [hr] at hq2; cases hq2
                | bad => rw [hr] at hq2; cases hq2
              have hlen : ys.length < sizeLine := by
                cases hr : fmR c f (xs.drop (i + 1)) with
                | ok r =>
                  rw [hr] at hq3
                  have q3 : R.ok ((ys ++ [y]) ++ r) = .ok zs := hq3
                  injection q3 with q3
                  rw [← q3, List.length_append, List.length_append, List.length_cons] at hz
                  omega
                | er z => rw [hr] at hq3; cases hq3
                | bad => rw [hr] at hq3; cases hq3
              have ot := sa4.other (o' := .lst (ws ++ [u])) fr4
              have rl4 : RepL π F4 ys ws := rl.mono ((xx.f.trans e3).trans e4)
              exact ⟨ws, fr4.h, by rw [← rl4.length]; exact hlen, hlt, ys ++ [y], ws ++ [u], F4, eF.trans ((xx.f.trans e3).trans e4), ot.1, ot.2, rl4.append (.cons ru .nil), hq3⟩
    · have e : i = xs.length := by omega
      subst e
      rw [List.drop_length] at heq
      have heq' : R.ok (ys ++ []) = .ok zs := heq
      injection heq' with heq'
      rw [List.append_nil] at heq'
      subst heq'
      exact .inl ⟨wk.stop H _ (eF.trans sa.sub) (Nat.le_refl _), k2 D _ F' H (e1.trans eF) sa fr ⟨ws, rfl, rl⟩⟩
/-- [elt for tg in iter if ..] -/
theorem f_lcF {m : R (List α)} {g : α → List Sl → List Sl} {c : α → R Bool} {f : α → R β} (hN : X.N.Nodup) (hi : IX X U Γ tg iter ρ m) (ok : BlkOk X.N X.env.scope scope own)
    (hg : ∀ (s : Shared) (H : Hp) (C : Addr) (cl : List (Str × Addr)) (fp : List Addr), GT (X.blk s H scope (compEnvC scope cl C X.env) fp) tg ρ (own.map (·.2)) g)
    (ht : ∀ (s : Shared) (H : Hp) (C : Addr) (cl : List (Str × Addr)) (fp : List Addr) (x : α), TsG (X.blk s H scope (compEnvC scope cl C X.env) fp) U0 (g x (wipeΓ Γ (own.map (·.2)))) ifs (c x))
    (he : ∀ (s : Shared) (H : Hp) (C : Addr) (cl : List (Str × Addr)) (fp : List Addr) (x : α), EX (X.blk s H scope (compEnvC scope cl C X.env) fp) U0 (g x (wipeΓ Γ (own.map (·.2)))) elt π (f x))
    (hno : noOwn Γ (own.map (·.2)) = true := by rfl)
    (hc : X.calm = true := by rfl) (hs : ∀ x, foldedSetIterable iter X.env x = pure x := by intro _; rfl) :
    FX X U Γ (.ListComp elt [⟨tg, iter, ifs, 0⟩] scope pos) (fun ys => oLi (tl π) ys) (m.bind fun xs => (fmR c f xs).bind fun ys => chk (ys.length ≤ sizeLine) ys) :=
  ⟨fun en F σ H Q s h => wE_of (pe_lc (wi := wI X tg iter) (g := lG X scope tg) (tt := lT X scope ifs) (te := lE X scope elt) hc hN wI_pi ok
    (fun s H C cl fp => ⟨fun pins s' σ H' v u Q I r h => (h s H C cl fp) pins s' u I r⟩) (fun s H C cl fp => ⟨fun pins s' σ H' Q I h => (h s H C cl fp) pins s' I⟩) (fun s H C cl fp => ⟨fun pins s' σ H' Q I h => (h s H C cl fp) pins s' I⟩) hs) (lc_red hi hg ht he hno s h)⟩
/-- name = [..] on one line -/
theorem p_setLc {rest : List Stmt} {ω : Type} {I : ω → Kd} {py spos : Pos} {y : Str} {k : List β → R ω} (i : Nat) {m : R (List α)} {g : α → List Sl → List Sl} {c : α → R Bool} {f : α → R β} (hN : X.N.Nodup) (hi : IX X U Γ tg iter ρ m) (ok : BlkOk X.N X.env.scope scope own)
    (hg : ∀ (s : Shared) (H : Hp) (C : Addr) (cl : List (Str × Addr)) (fp : List Addr), GT (X.blk s H scope (compEnvC scope cl C X.env) fp) tg ρ (own.map (·.2)) g)
    (ht : ∀ (s : Shared) (H : Hp) (C : Addr) (cl : List (Str × Addr)) (fp : List Addr) (x : α), TsG (X.blk s H scope (compEnvC scope cl C X.env) fp) U0 (g x (wipeΓ Γ (own.map (·.2)))) ifs (c x))
    (he : ∀ (s : Shared) (H : Hp) (C : Addr) (cl : List (Str × Addr)) (fp : List Addr) (x : α), EX (X.blk s H scope (compEnvC scope cl C X.env) fp) U0 (g x (wipeΓ Γ (own.map (·.2)))) elt π (f x))
    (hno : noOwn Γ (own.map (·.2)) = true := by rfl)
    (hr : ∀ ys, SX X U (Γ.set i (.own none (oLi (tl π) ys))) rest I (k ys)) (hy : X.N[i]? = some y := by rfl) (hyl : X.env.scope.names.lookup y = some .local := by rfl)
    (hsw : swapsWith (.ListComp elt [⟨tg, iter, ifs, 0⟩] scope pos) (some (.Name y py)) spos.line X.env = pure true := by exact sw_true rfl rfl rfl (by decide +kernel))
    (hc : X.calm = true := by rfl) (hs : ∀ x, foldedSetIterable iter X.env x = pure x := by intro _; rfl) :
    SX X U Γ (.Assign [.Name y py] (.ListComp elt [⟨tg, iter, ifs, 0⟩] scope pos) spos :: rest) I ((m.bind fun xs => (fmR c f xs).bind fun ys => chk (ys.length ≤ sizeLine) ys).bind k) :=
  ⟨fun en F σ H D s h => wSs_of (pss_cons (ps_setLc (i := i) (wi := wI X tg iter) (g := lG X scope tg) (tt := lT X scope ifs) (te := lE X scope elt) hc hN hy hyl hsw wI_pi ok
    (fun s H C cl fp => ⟨fun pins s' σ H' v u Q I r h => (h s H C cl fp) pins s' u I r⟩) (fun s H C cl fp => ⟨fun pins s' σ H' Q I h => (h s H C cl fp) pins s' I⟩) (fun s H C cl fp => ⟨fun pins s' σ H' Q I h => (h s H C cl fp) pins s' I⟩) hs) wSs_pss)
    (lc_red (Q := fun x H1 => gName i x σ H1 (wSs X rest D)) hi hg ht he hno s (wpR_mono (wpR_bind h) (fun ys q p o F' H' e1 s1 fr ho => (hr ys).out en F' _ H' D (s1.putOwn fr ho) (wpR_mono q (fun o z => z.up e1) fun _ z => z.up e1)) fun _ z => z))⟩
/-- without a test -/
theorem fm_map {f : α → R β} : ∀ xs : List α, fmR (fun _ => .ok true) f xs = mapR f xs
  | [] => rfl
  | x :: xs => by
    unfold fmR mapR
    show (f x).calm.bind (fun y => (fmR (fun _ => R.ok true) f xs).bind fun ys => .ok (y :: ys)) = _
    rw [fm_map xs]
end
end Py

/-! Own layer, part D: defs, operations on data. -/
namespace Py
open PySem PySem.Spec PyProof.Rows L2

/-! ### a def -/
/-- the parameters' slots -/
structure Ar {τ : Type} (t : Tr τ) (n : Nat) (sl : τ → List Sl) : Prop where
  out : ∀ a F vs, t.rep a F vs → vs.length = n ∧ (sl a).length = n ∧ ∀ (i : Nat) x, (sl a)[i]? = some x → ∃ P v, x = .imm P ∧ vs[i]? = some v ∧ P.p F v
theorem ar1 {α : Type} {ρ : Rp α} : Ar (t1 ρ) 1 fun a => [im ρ a] := ⟨fun a F vs ⟨v, e, r⟩ => ⟨by rw [e] <;> rfl, rfl, fun i x h => by
  cases i with
  | zero =>
    have h' : im ρ a = x := Option.some.inj h
    exact ⟨_, v, h'.symm, by rw [e] <;> rfl, r⟩
  | succ i => simp at h⟩⟩
theorem arc {α τ : Type} {ρ : Rp α} {t : Tr τ} {n : Nat} {sl : τ → List Sl} (h : Ar t n sl) : Ar (tc ρ t) (n + 1) fun a => im ρ a.1 :: sl a.2 := ⟨fun a F vs ⟨v, ws, e, r, q⟩ => by
  obtain ⟨h1, h2, h3⟩ := h.out a.2 F ws q
  refine ⟨by rw [e, List.length_cons, h1], by rw [List.length_cons, h2], fun i x hx => ?_⟩
  cases i with
  | zero =>
    have h' : im ρ a.1 = x := Option.some.inj hx
    exact ⟨_, v, h'.symm, by rw [e] <;> rfl, r⟩
  | succ i =>
    obtain ⟨P, u, g1, g2, g3⟩ := h3 i x (by simpa using hx)
    exact ⟨P, u, g1, by rw [e]; simpa using g2, g3⟩⟩
section
variable {P : Program} {w : World} {K : PySem.W.Frag} {mg : Str → Option Value} {base : Heap}
/-- where a def's body stands -/
abbrev CxF (P : Program) (w : World) (K : PySem.W.Frag) (mg : Str → Option Value) (base : Heap) (N : List Str) (qual : Str) (st : Stmt) (f : Addr) (cdv : Value) (A : Around) (outer : List Env) (s : Shared) (H : Hp) (E : XK) : Cx :=
  cxOf (L2.CX P w) P w K mg base N qual (defScope st) f cdv A outer s H E
abbrev UF (E : XK) : Wi := ⟨fun cls d _ H => E cls d H, []⟩
/-- a def as it stands behind the top, with defaults or without -/
structure FunZ (K : PySem.W.Frag) (x qual : Str) (st : Stmt) (f : Addr) (fd : FuncData) : Prop where
  ex : ∃ (oc : Value) (od : Option Addr) (dV kV doc pm : Value) (an : Option Addr) (cdv ct : Value) (osl : Array (Option Value)),
    fd = PySem.W.fnOf x qual (defArgs st) (defBody st) (defScope st) dV kV doc pm an cdv ct ∧ K.lookup f = some ⟨oc, od, .func fd, osl⟩ ∧ PySem.W.codeIn K cdv qual = true
  kp : PySem.W.keepIn K (.ref f) = true
theorem FunZ.okX {P : Program} {w : World} {K : PySem.W.Frag} {mg : Str → Option Value} {base : Heap} {x qual : Str} {st : Stmt} {f : Addr} {fd : FuncData} {N ps : List Str} {k : Nat} {sp : Sp} (F : FunZ K x qual st f fd) (S : FnScope N ps (defScope st)) (len : ∀ vs H Q E, sp vs H Q E → vs.length = ps.length)
    (hbody : ∀ (cdv : Value) (A : Around) (outer : List Env) (s : Shared) (H : Hp) (vs : List V) (Q : VK) (E : XK), Room k (A.deeper (envOfC qual (defScope st) s.heap.objs.size f cdv)) → sp vs H Q E →
      ∃ t, PSs (cxOf (L2.CX P w) P w K mg base N qual (defScope st) f cdv A outer s H E) (defBody st) t ∧ t { nx := fun _ H' => Q .non H', rt := Q } (start N vs) H) : FnOk P w K mg base (L2.CX P w) (k + 1) f fd ps sp := by
  obtain ⟨oc, od, dV, kV, doc, pm, an, cdv, ct, osl, rfl, lk, hcd⟩ := F.ex
  exact fn_of lk hcd S len fun A outer s H vs Q E hr hsp => hbody cdv A outer s H vs Q E hr hsp
theorem f_ok {x qual : Str} {st : Stmt} {f : Addr} {fd : FuncData} {N ps : List Str} {k n : Nat} {τ γ : Type} {t : Tr τ} {ρ : Rp γ} {fm : τ → R γ} {sl : τ → List Sl} (Γ0 : τ → List Sl) (Fn : FunZ K x qual st f fd) (S : FnScope N ps (defScope st)) (ar : Ar t n sl) (hn : n = ps.length) (hN : n ≤ N.length)
    (hΓ : ∀ a, Γ0 a = sl a ++ List.replicate (N.length - n) .any)
    (body : ∀ cdv A outer s H E (hr : Room k (A.deeper (envOfC qual (defScope st) s.heap.objs.size f cdv))) (tk : Takes (CxF P w K mg base N qual st f cdv A outer s H E) (UF E).W) (hp : PassesOwn (model P w) (A.deeper (envOfC qual (defScope st) s.heap.objs.size f cdv)) (envOfC qual (defScope st) s.heap.objs.size f cdv) (CxF P w K mg base N qual st f cdv A outer s H E).xe) (a : τ),
      SX (CxF P w K mg base N qual st f cdv A outer s H E) (UF E) (Γ0 a) (defBody st) (fun z : γ => .fn ⟨fun H v => ρ.rep z H v, fun e h => ρ.mono e h⟩ []) (fm a)) :
    FnOk P w K mg base (L2.CX P w) (k + 1) f fd ps (SpP mg t ρ fm) := by
  refine Fn.okX S (fun vs H Q E ⟨F, a, _, r, _⟩ => ?_) (fun cdv A outer s H vs Q E hr ⟨F, a, sF, r, hw⟩ => ?_)
  · rw [← hn]
    exact (ar.out a F vs r).1
  · obtain ⟨h1, h2, h3⟩ := ar.out a F vs r
    refine ⟨_, wSs_pss, ?_⟩
    have hst : ∀ (i : Nat) v, vs[i]? = some v → (L2.start N vs)[i]? = some (some v) := fun i v e => by
      unfold L2.start
      have hl : i < vs.length := (List.getElem?_eq_some_iff.mp e).1
      rw [List.getElem?_append_left (by rw [List.length_map]; exact hl), List.getElem?_map, e] <;> rfl
    have im0 : ∀ (i : Nat) x, (Γ0 a)[i]? = some x → x = .any ∨ ∃ P v, x = .imm P ∧ vs[i]? = some v ∧ P.p F v := fun i x hx => by
      rw [hΓ] at hx
      by_cases hl : i < (sl a).length
      · rw [List.getElem?_append_left hl] at hx
        exact .inr (h3 i x hx)
      · rw [List.getElem?_append_right (by omega), List.getElem?_replicate] at hx
        split at hx
        · exact .inl (Option.some.inj hx).symm
        · cases hx
    have sa : SA ⟨F, H, fun _ => False⟩ (Γ0 a) F (L2.start N vs) H := by
      refine ⟨?_, sF, Same.refl F, fun _ _ h _ => h, fun _ h => h, fun _ _ h _ => .inl h, fun i Q hi => ?_, fun i b Q hi => ?_, fun i j b c Q Q' p _ hi => ?_⟩
      · rw [hΓ, List.length_append, List.length_replicate, h2]
        unfold L2.start
        rw [List.length_append, List.length_map, List.length_replicate, h1]
        exact Nat.le_refl _
      · rcases im0 i _ hi with z | ⟨Q', v, z, hv, hq⟩
        · cases z
        · injection z with z
          subst z
          exact ⟨v, hst i v hv, hq⟩
      · rcases im0 i _ hi with z | ⟨Q', v, z, hv, hq⟩
        · cases z
        · cases z
      · rcases im0 i _ hi with z | ⟨Q', v, z, hv, hq⟩
        · cases z
        · cases z
    have fin : ∀ {F' : Hp} {σ' : L2.St} {H' : Hp}, Same F F' → SA ⟨F, H, fun _ => False⟩ [] F' σ' H' → Ext F H F' H' := fun {F' σ' H'} e s' => ⟨e, fun p o h => s'.old p o h (fun z => z), s'.sub, fun p h hf => s'.frz p h hf fun z => z⟩
    refine (body cdv A outer s H E hr (takes_of rfl rfl rfl rfl) (passes_of rfl) a).out ⟨F, H, fun _ => False⟩ F _ H _ sa (wpR_mono hw (fun z k => ⟨fun v F' σ' H' e s' rv => k v F' H' (fin e s') rv, fun F' σ' H' e s' rv => k .non F' H' (fin e s') rv⟩) fun r z cls d F' σ' H' e s' o => z cls d F' H' (fin e s') o)
/-- a def without parameters is called -/
theorem SpP.nil {τ γ : Type} {t : Tr τ} {ρ : Rp γ} {f : τ → R γ} {vs : List V} {H : Hp} {Q : VK} {E : XK} {F : Hp} {a : τ} (e : Same F H) (r : t.rep a F vs)
    (h : wpR (f a) (fun z => ∀ v F' H', Ext F H F' H' → ρ.rep z F' v → Q v H') (fun r => ∀ cls d F' H', Ext F H F' H' → ErOk mg r cls d F' → E cls d H')) : SpP mg t ρ f vs H Q E := ⟨F, a, e, r, h⟩
end

/-! ### ints -/
theorem dI0 {f : Int → Int → Int} : D2 (rI0 fun i j => .int (f i j)) rI rI rI fun x y => .ok (f x y) := fun x y v w F H Q e rv rw h => ⟨x, y, rv, rw, h _ F H (Ext.refl e) rfl⟩
theorem dIb {f : Int → Int → Bool} : D2 (rI0 fun i j => .bl (f i j)) rI rI rB fun x y => .ok (f x y) := fun x y v w F H Q e rv rw h => ⟨x, y, rv, rw, h _ F H (Ext.refl e) rfl⟩
theorem dIc {C : Int → Int → Prop} [∀ i j, Decidable (C i j)] {f : Int → Int → Int} : D2 (L2.rI C fun i j => .int (f i j)) Py.rI Py.rI Py.rI fun x y => chk (C x y) (f x y) := fun x y v w F H Q e rv rw h => by
  obtain ⟨hc, k⟩ := wpR_chk h
  exact ⟨x, y, rv, rw, hc, k _ F H (Ext.refl e) rfl⟩
instance (i j : Int) : Decidable (CMulW i j) := inferInstanceAs (Decidable (_ < _))
instance (i j : Int) : Decidable (CDivW i j) := inferInstanceAs (Decidable (_ ∧ _))
instance (i j : Int) : Decidable (CPow i j) := inferInstanceAs (Decidable (_ ∧ _ ∧ _))
section
variable {X : Cx} {U : Wi} {Γ : List Sl} {a b e : Expr} {es : List Expr} {pos : Pos} {m1 m2 : R Int}
theorem x_add (ha : EX X U Γ a rI m1) (hb : EX X U Γ b rI m2) : EX X U Γ (.BinOp a .Add b pos) rI (m1.bind fun x => m2.bind fun y => .ok (x + y)) := x_bin op_add dI0 ha hb
theorem x_sub (ha : EX X U Γ a rI m1) (hb : EX X U Γ b rI m2) : EX X U Γ (.BinOp a .Sub b pos) rI (m1.bind fun x => m2.bind fun y => .ok (x - y)) := x_bin op_sub dI0 ha hb
theorem chk_calm {c : Prop} [Decidable c] {α : Type} {a : α} : ((chk c a).calm.bind fun z => .ok z) = chk c a := by
  unfold chk
  by_cases h : c
  · rw [if_pos h] <;> rfl
  · rw [if_neg h] <;> rfl
theorem opt_calm {α : Type} {o : Option α} : ((ofOpt o).calm.bind fun z => .ok z) = ofOpt o := by cases o <;> rfl
theorem x_mul (ha : EX X U Γ a rI m1) (hb : EX X U Γ b rI m2) : EX X U Γ (.BinOp a .Mult b pos) rI (m1.bind fun x => m2.bind fun y => chk (CMulW x y) (x * y)) := by
  have h := x_bin (pos := pos) op_mulW (dIc (C := CMulW) (f := fun i j => i * j)) ha hb
  simp only [chk_calm] at h
  exact h
/-- by written numbers -/
theorem x_mulC {i : Int} {j} {p : Pos} (ha : EX X U Γ a rI m1) (hi : -(2 ^ 64) < i ∧ i < 2 ^ 64 := by decide) : EX X U Γ (.BinOp a .Mult (.Constant (.int i) j p) pos) rI (m1.bind fun x => .ok (x * i)) :=
  ⟨fun en F σ H Q s h => wE_of (pe_op op_mul wE_pe pe_int) (ha.out en F σ H _ s (wpR_mono (wpR_bind h) (fun x k v F1 H1 e1 s1 r1 => ⟨x, i, r1, rfl, .inr hi, k _ F1 H1 e1 s1 rfl⟩) fun _ z => z))⟩
theorem x_mulCl {i : Int} {j} {p : Pos} (ha : EX X U Γ a rI m1) (hi : -(2 ^ 64) < i ∧ i < 2 ^ 64 := by decide) : EX X U Γ (.BinOp (.Constant (.int i) j p) .Mult a pos) rI (m1.bind fun x => .ok (i * x)) :=
  ⟨fun en F σ H Q s h => wE_of (pe_op op_mul pe_int wE_pe) (ha.out en F σ H _ s (wpR_mono (wpR_bind h) (fun x k v F1 H1 e1 s1 r1 => ⟨i, x, rfl, r1, .inl hi, k _ F1 H1 e1 s1 rfl⟩) fun _ z => z))⟩
theorem x_modC {i : Int} {j} {p : Pos} (ha : EX X U Γ a rI m1) (hi : 0 < i := by decide) : EX X U Γ (.BinOp a .Mod (.Constant (.int i) j p) pos) rI (m1.bind fun x => .ok (x % i)) :=
  ⟨fun en F σ H Q s h => wE_of (pe_op op_mod wE_pe pe_int) (ha.out en F σ H _ s (wpR_mono (wpR_bind h) (fun x k v F1 H1 e1 s1 r1 => ⟨x, i, r1, rfl, hi, k _ F1 H1 e1 s1 rfl⟩) fun _ z => z))⟩
theorem x_fdivC {i : Int} {j} {p : Pos} (ha : EX X U Γ a rI m1) (hi : CDivW 0 i := by decide) : EX X U Γ (.BinOp a .FloorDiv (.Constant (.int i) j p) pos) rI (m1.bind fun x => .ok (x / i)) :=
  ⟨fun en F σ H Q s h => wE_of (pe_op op_fdivW wE_pe pe_int) (ha.out en F σ H _ s (wpR_mono (wpR_bind h) (fun x k v F1 H1 e1 s1 r1 => ⟨x, i, r1, rfl, hi, k _ F1 H1 e1 s1 rfl⟩) fun _ z => z))⟩
theorem x_powC {i j : Int} {k1 k2} {p1 p2 : Pos} (v : Int) (hi : CPow i j := by decide) (hv : i ^ j.toNat = v := by decide) : EX X U Γ (.BinOp (.Constant (.int i) k1 p1) .Pow (.Constant (.int j) k2 p2) pos) rI (.ok v) :=
  ⟨fun en F σ H Q s h => wE_of (pe_op op_pow pe_int pe_int) ⟨i, j, rfl, rfl, hi, by show Q (V.int (i ^ j.toNat)) H; rw [hv]; exact h _ F H (Same.refl F) s rfl⟩⟩
theorem x_neg (ha : EX X U Γ a rI m1) : EX X U Γ (.UnaryOp .USub a pos) rI (m1.bind fun x => .ok (-x)) := x_un un_neg (fun x v F H Q e rv h => ⟨x, rv, h _ F H (Ext.refl e) rfl⟩ : D1 (rU fun i => .int (-i)) rI rI fun x => .ok (-x)) ha
theorem dEqI : D2 rEq rI rI rB fun x y => .ok (decide (x = y)) := fun x y v w F H Q e rv rw h => by
  subst rv rw
  refine ⟨rfl, ?_⟩
  rw [dec_int, Bool.beq_eq_decide_eq]
  exact h _ F H (Ext.refl e) rfl
theorem dNeB : D2 rNe rB rB rB fun x y => .ok (!decide (x = y)) := fun x y v w F H Q e rv rw h => by
  subst rv rw
  refine ⟨rfl, ?_⟩
  rw [dec_bl, Bool.beq_eq_decide_eq]
  exact h _ F H (Ext.refl e) rfl
theorem dEqS : D2 rEq rS rS rB fun x y => .ok (decide (x = y)) := fun x y v w F H Q e rv rw h => by
  subst rv rw
  refine ⟨rfl, ?_⟩
  have : decide (V.str x = V.str y) = decide (x = y) := by
    rw [Bool.eq_iff_iff]
    simp
  rw [this]
  exact h _ F H (Ext.refl e) rfl
end

/-! ### data at any depth: equality -/
structure Dt {α : Type} [DecidableEq α] (ρ : Rp α) where
  dat : α → PyData
  dep : Nat
  dp : ∀ K H a v, ρ.rep a H v → Dp K H v (dat a)
  lay : ∀ a, (dat a).canLay0 = true
  dle : ∀ a, (dat a).depth ≤ dep
  eqv : ∀ a b, PyData.eqv (dat a) (dat b) = decide (a = b)
structure Dts {τ : Type} [DecidableEq τ] (t : Tr τ) where
  dat : τ → List PyData
  dep : Nat
  dp : ∀ K H a vs, t.rep a H vs → DpAll K H vs (dat a)
  lay : ∀ a, PyData.canLayAll0 (dat a) = true
  dle : ∀ a, PyData.depthAll (dat a) ≤ dep
  eqv : ∀ a b, PyData.eqvAll (dat a) (dat b) = decide (a = b)
def kI : Dt rI := ⟨fun i => .int i, 0, fun K H a v r => by rw [show v = V.int a from r]; exact .int a, fun _ => by simp [PyData.canLay0], fun _ => by simp [PyData.depth], fun a b => by simp [PyData.eqv, Bool.beq_eq_decide_eq]⟩
def k1 {α : Type} [DecidableEq α] {ρ : Rp α} (d : Dt ρ) : Dts (t1 ρ) where
  dat := fun a => [d.dat a]
  dep := d.dep
  dp := fun K H a vs ⟨v, e, r⟩ => by
    rw [e]
    exact .cons (d.dp K H a v r) .nil
  lay := fun a => by simp [PyData.canLayAll0, d.lay]
  dle := fun a => by
    have := d.dle a
    simp [PyData.depthAll]
    exact this
  eqv := fun a b => by simp [PyData.eqvAll, d.eqv]
def kc {α τ : Type} [DecidableEq α] [DecidableEq τ] {ρ : Rp α} {t : Tr τ} (d : Dt ρ) (ds : Dts t) : Dts (tc ρ t) where
  dat := fun a => d.dat a.1 :: ds.dat a.2
  dep := max d.dep ds.dep
  dp := fun K H a vs ⟨v, ws, e, r, q⟩ => by
    rw [e]
    exact .cons (d.dp K H a.1 v r) (ds.dp K H a.2 ws q)
  lay := fun a => by simp [PyData.canLayAll0, d.lay, ds.lay]
  dle := fun a => by
    have h1 := d.dle a.1
    have h2 := ds.dle a.2
    simp only [PyData.depthAll]
    omega
  eqv := fun a b => by
    obtain ⟨a1, a2⟩ := a
    obtain ⟨b1, b2⟩ := b
    simp only [PyData.eqvAll, d.eqv, ds.eqv, Prod.mk.injEq]
    rw [Bool.eq_iff_iff]
    simp
def kl {α : Type} [DecidableEq α] {ρ : Rp α} (d : Dt ρ) : Dts (tl ρ) where
  dat := fun as => as.map d.dat
  dep := d.dep
  dp := fun K H as vs r => by
    have r' : RepL ρ H as vs := r
    induction r' with
    | nil => exact .nil
    | cons h t ih => exact .cons (d.dp K H _ _ h) (ih t)
  lay := fun as => by
    induction as with
    | nil => simp [PyData.canLayAll0]
    | cons a r ih => simp [PyData.canLayAll0, d.lay, ih]
  dle := fun as => by
    induction as with
    | nil => simp [PyData.depthAll]
    | cons a r ih =>
      have h1 := d.dle a
      simp only [List.map_cons, PyData.depthAll]
      omega
  eqv := fun as => by
    induction as with
    | nil =>
      intro bs
      cases bs <;> simp [PyData.eqvAll]
    | cons a r ih =>
      intro bs
      cases bs with
      | nil => simp [PyData.eqvAll]
      | cons b s =>
        simp only [List.map_cons, PyData.eqvAll, d.eqv, ih, List.cons.injEq]
        rw [Bool.eq_iff_iff]
        simp
def kTu {τ : Type} [DecidableEq τ] {t : Tr τ} (d : Dts t) : Dt (rTu t) where
  dat := fun a => .tuple (d.dat a)
  dep := d.dep + 1
  dp := fun K H a v ⟨p, vs, e, h, r⟩ => by
    rw [e]
    exact .tup (.inl (.inl h)) (d.dp K H a vs r)
  lay := fun a => by simp [PyData.canLay0, d.lay]
  dle := fun a => by
    have := d.dle a
    simp only [PyData.depth]
    omega
  eqv := fun a b => by simp [PyData.eqv, d.eqv]
def kLi {τ : Type} [DecidableEq τ] {t : Tr τ} (d : Dts t) : Dt (rLi t) where
  dat := fun a => .list (d.dat a)
  dep := d.dep + 1
  dp := fun K H a v ⟨p, vs, e, h, r⟩ => by
    rw [e]
    exact .lst (.inl (.inl h)) (d.dp K H a vs r)
  lay := fun a => by simp [PyData.canLay0, d.lay]
  dle := fun a => by
    have := d.dle a
    simp only [PyData.depth]
    omega
  eqv := fun a b => by simp [PyData.eqv, d.eqv]
abbrev kT {α : Type} [DecidableEq α] {ρ : Rp α} (d : Dt ρ) : Dt (rT ρ) := kTu (kl d)
abbrev kL {α : Type} [DecidableEq α] {ρ : Rp α} (d : Dt ρ) : Dt (rL ρ) := kLi (kl d)
abbrev kP {α β : Type} [DecidableEq α] [DecidableEq β] {ρ : Rp α} {π : Rp β} (d : Dt ρ) (e : Dt π) : Dt (rP ρ π) := kTu (kc d (k1 e))
abbrev kC : Dt rC := kP kI kI
theorem Dt.shp {α : Type} [DecidableEq α] {ρ : Rp α} (d : Dt ρ) (h : d.dep ≤ 64) (a : α) : SeqAt.shaped (d.dat a) = true := by
  unfold SeqAt.shaped
  rw [Bool.and_eq_true, decide_eq_true_eq]
  exact ⟨d.lay a, Nat.le_trans (d.dle a) h⟩
theorem dEqD {K : PySem.W.Frag} {α : Type} [DecidableEq α] {ρ : Rp α} (d : Dt ρ) (h : d.dep ≤ 64 := by decide) : D2 (rEqD K) ρ ρ rB fun x y => .ok (decide (x = y)) := fun x y v w F H Q e rv rw q => by
  refine ⟨_, _, d.dp K H x v (ρ.mono e rv), d.dp K H y w (ρ.mono e rw), d.shp h x, d.shp h y, ?_⟩
  rw [d.eqv]
  exact q _ F H (Ext.refl e) rfl
theorem dNeD {K : PySem.W.Frag} {α : Type} [DecidableEq α] {ρ : Rp α} (d : Dt ρ) (h : d.dep ≤ 64 := by decide) : D2 (rNeD K) ρ ρ rB fun x y => .ok (!decide (x = y)) := fun x y v w F H Q e rv rw q => by
  refine ⟨_, _, d.dp K H x v (ρ.mono e rv), d.dp K H y w (ρ.mono e rw), d.shp h x, d.shp h y, ?_⟩
  rw [d.eqv]
  exact q _ F H (Ext.refl e) rfl
theorem any_dat {α : Type} [DecidableEq α] {ρ : Rp α} (d : Dt ρ) (x : α) : ∀ xs : List α, ((xs.map d.dat).any fun z => PyData.eqv z (d.dat x)) = decide (x ∈ xs)
  | [] => by simp
  | y :: r => by
    rw [List.map_cons, List.any_cons, any_dat d x r, d.eqv]
    by_cases h : y = x
    · subst h
      simp
    · have h' : ¬ x = y := fun z => h z.symm
      simp [h, h']
theorem kl_lay {α : Type} [DecidableEq α] {ρ : Rp α} (d : Dt ρ) (xs : List α) : PyData.canLayAll0 (xs.map d.dat) = true := (kl d).lay xs
/-- x in t, t a tuple -/
def rInU (K : PySem.W.Frag) (neg : Bool) : R2 := fun x y H Q => ∃ d ds, Dp K H x d ∧ Dp K H y (.tuple ds) ∧ SeqAt.shaped d = true ∧ PyData.canLayAll0 ds = true ∧ Q (.bl (if neg = true then !(ds.any fun z => PyData.eqv z d) else ds.any fun z => PyData.eqv z d)) H
theorem op_inU {X : Cx} (hu : X.A.units + 65 < cLine) : OpR X (compareOp .In) (rInU X.K false) := by
  intro pins s σ H x y v u Q I rx ry ⟨d, ds, hd, he, sd, se, q⟩
  obtain ⟨as, r1⟩ := Dp.reads I d x v hd rx
  obtain ⟨bs, r2⟩ := Dp.reads I (.tuple ds) y u he ry
  exact SeqAt.in_tuple_reads r2 r1 se (SeqAt.canLay_of_shaped sd) (room_in_shaped sd hu) ⟨.bl _, H, I, rfl, q⟩
theorem op_ninU {X : Cx} (hu : X.A.units + 65 < cLine) : OpR X (compareOp .NotIn) (rInU X.K true) := by
  intro pins s σ H x y v u Q I rx ry ⟨d, ds, hd, he, sd, se, q⟩
  obtain ⟨as, r1⟩ := Dp.reads I d x v hd rx
  obtain ⟨bs, r2⟩ := Dp.reads I (.tuple ds) y u he ry
  exact SeqAt.notIn_tuple_reads r2 r1 se (SeqAt.canLay_of_shaped sd) (room_in_shaped sd hu) ⟨.bl _, H, I, rfl, q⟩
/-- x in xs, answered -/
def hasB {α : Type} [DecidableEq α] (x : α) (xs : List α) : Bool := decide (x ∈ xs)
theorem hasB_iff {α : Type} [DecidableEq α] {x : α} {xs : List α} : hasB x xs = true ↔ x ∈ xs := decide_eq_true_iff
theorem dInU {K : PySem.W.Frag} {α : Type} [DecidableEq α] {ρ : Rp α} (d : Dt ρ) (h : d.dep ≤ 64 := by decide) : D2 (rInU K false) ρ (rT ρ) rB fun x xs => .ok (hasB x xs) := fun x xs v w F H Q e rv rw q => by
  obtain ⟨p, vs, ew, hp, r⟩ := (rT ρ).mono e rw
  refine ⟨_, xs.map d.dat, d.dp K H x v (ρ.mono e rv), by rw [ew]; exact .tup (.inl (.inl hp)) ((kl d).dp K H xs vs r), d.shp h x, kl_lay d xs, ?_⟩
  rw [any_dat]
  exact q _ F H (Ext.refl e) rfl
theorem dNinU {K : PySem.W.Frag} {α : Type} [DecidableEq α] {ρ : Rp α} (d : Dt ρ) (h : d.dep ≤ 64 := by decide) : D2 (rInU K true) ρ (rT ρ) rB fun x xs => .ok (!hasB x xs) := fun x xs v w F H Q e rv rw q => by
  obtain ⟨p, vs, ew, hp, r⟩ := (rT ρ).mono e rw
  refine ⟨_, xs.map d.dat, d.dp K H x v (ρ.mono e rv), by rw [ew]; exact .tup (.inl (.inl hp)) ((kl d).dp K H xs vs r), d.shp h x, kl_lay d xs, ?_⟩
  rw [any_dat]
  exact q _ F H (Ext.refl e) rfl
/-! ### items -/
/-- the j-th of a row of unlike types -/
structure Pj {τ β : Type} (t : Tr τ) (j : Nat) (ρ : Rp β) (f : τ → β) : Prop where
  out : ∀ a F vs, t.rep a F vs → ∃ v, vs[j]? = some v ∧ ρ.rep (f a) F v
theorem pj1 {α : Type} {ρ : Rp α} : Pj (t1 ρ) 0 ρ fun a => a := ⟨fun a F vs ⟨v, e, r⟩ => ⟨v, by rw [e] <;> rfl, r⟩⟩
theorem pj0 {α τ : Type} {ρ : Rp α} {t : Tr τ} : Pj (tc ρ t) 0 ρ fun a => a.1 := ⟨fun a F vs ⟨v, ws, e, r, _⟩ => ⟨v, by rw [e] <;> rfl, r⟩⟩
theorem pjs {α β τ : Type} {ρ : Rp α} {π : Rp β} {t : Tr τ} {j : Nat} {f : τ → β} (h : Pj t j π f) : Pj (tc ρ t) (j + 1) π fun a => f a.2 := ⟨fun a F vs ⟨v, ws, e, r, q⟩ => by
  obtain ⟨u, h1, h2⟩ := h.out a.2 F ws q
  exact ⟨u, by rw [e]; simpa using h1, h2⟩⟩
section
variable {X : Cx} {U : Wi} {Γ : List Sl} {a b e : Expr} {es : List Expr} {pos : Pos} {α β γ τ ω : Type} {ρ : Rp α}
theorem g_pj {t : Tr τ} {π : Rp β} {f : τ → β} {m : R ω} {val : ω → τ} {Γ' : ω → List Sl} {j : Nat} {p2 : Pos} {jj} (hj : Pj t j π f) (ha : EG X U Γ a (rTu t) m val Γ') : EG X U Γ (.Subscript a (.Constant (.int (j : Nat)) jj p2) pos) π m (fun w => f (val w)) Γ' :=
  ⟨fun en F σ H Q s h => wE_of (pe_ix (hs := fun _ _ => rfl) ix_tup wE_pe pe_int) (ha.out en F σ H _ s (wpR_mono h (fun w k v F1 H1 e1 s1 ⟨p, vs, ev, hp, r⟩ => by
    obtain ⟨u, h1, h2⟩ := hj.out _ F1 vs r
    exact ⟨p, vs, (j : Nat), u, ev, rfl, .inl (.inl (s1.sub p _ hp)), atI_nat h1, k u F1 H1 e1 s1 h2⟩) fun _ z => z))⟩
/-- t[0], t[1] .. -/
theorem x_pj {t : Tr τ} {π : Rp β} {f : τ → β} {m : R τ} {p2 : Pos} {jj} (j : Nat) (hj : Pj t j π f) (ha : EX X U Γ a (rTu t) m) : EX X U Γ (.Subscript a (.Constant (.int (j : Nat)) jj p2) pos) π (m.bind fun x => .ok (f x)) :=
  ⟨fun en F σ H Q s h => (g_pj (pos := pos) (p2 := p2) (jj := jj) hj ha).out en F σ H Q s (wpR_mono (wpR_bind h) (fun w k => k) fun _ z => z)⟩
theorem atI_rep {F : Hp} {xs : List α} {vs : List V} {i : Int} {x : α} (r : RepL ρ F xs vs) (h : atI xs i = some x) : ∃ v, atI vs i = some v ∧ ρ.rep x F v := by
  unfold atI at h ⊢
  rw [← r.length]
  cases hi : ixN xs.length i with
  | none => rw [hi] at h; cases h
  | some j =>
    rw [hi] at h
    exact r.got h
theorem dIxT {K : PySem.W.Frag} : D2 (rIxT K) (rT ρ) rI ρ fun xs i => ofOpt (atI xs i) := fun xs i v w F H Q e ⟨p, vs, ev, hp, r⟩ rw h => by
  obtain ⟨x, hx, k⟩ := wpR_opt h
  obtain ⟨u, hu, ru⟩ := atI_rep r hx
  exact ⟨p, vs, i, u, ev, rw, .inl (.inl (e p _ hp)), hu, k u F H (Ext.refl e) ru⟩
theorem dIxL {K : PySem.W.Frag} : D2 (rIxL K) (rL ρ) rI ρ fun xs i => ofOpt (atI xs i) := fun xs i v w F H Q e ⟨p, vs, ev, hp, r⟩ rw h => by
  obtain ⟨x, hx, k⟩ := wpR_opt h
  obtain ⟨u, hu, ru⟩ := atI_rep r hx
  exact ⟨p, vs, i, u, ev, rw, .inl (.inl (e p _ hp)), hu, k u F H (Ext.refl e) ru⟩
theorem dIxS {K : PySem.W.Frag} : D2 (rIxL K) (rScr K) rI rI fun xs i => ofOpt (atI xs i) := fun xs i v w F H Q e ⟨p, ev, hp⟩ rw h => by
  obtain ⟨x, hx, k⟩ := wpR_opt h
  have hu : atI (xs.map V.int) i = some (.int x) := by
    unfold atI at hx ⊢
    rw [List.length_map]
    cases hi : ixN xs.length i with
    | none => rw [hi] at hx; cases hx
    | some j =>
      rw [hi] at hx
      show (xs.map V.int)[j]? = _
      rw [List.getElem?_map, show xs[j]? = some x from hx] <;> rfl
  exact ⟨p, _, i, .int x, ev, rw, Same.seq e hp, hu, k _ F H (Ext.refl e) rfl⟩
theorem x_ixT {m1 : R (List α)} {m2 : R Int} (ha : EX X U Γ a (rT ρ) m1) (hb : EX X U Γ b rI m2) (hs : PlainIx b := by exact fun _ _ => rfl) : EX X U Γ (.Subscript a b pos) ρ (m1.bind fun x => m2.bind fun y => ofOpt (atI x y)) := by
  have h := x_ix (pos := pos) ix_tup dIxT ha hb hs
  simp only [opt_calm] at h
  exact h
theorem x_ixL {m1 : R (List α)} {m2 : R Int} (ha : EX X U Γ a (rL ρ) m1) (hb : EX X U Γ b rI m2) (hs : PlainIx b := by exact fun _ _ => rfl) : EX X U Γ (.Subscript a b pos) ρ (m1.bind fun x => m2.bind fun y => ofOpt (atI x y)) := by
  have h := x_ix (pos := pos) ix_list dIxL ha hb hs
  simp only [opt_calm] at h
  exact h
theorem x_ixS {m1 : R (List Int)} {m2 : R Int} (ha : EX X U Γ a (rScr X.K) m1) (hb : EX X U Γ b rI m2) (hs : PlainIx b := by exact fun _ _ => rfl) : EX X U Γ (.Subscript a b pos) rI (m1.bind fun x => m2.bind fun y => ofOpt (atI x y)) := by
  have h := x_ix (pos := pos) ix_list dIxS ha hb hs
  simp only [opt_calm] at h
  exact h

/-! ### built-ins -/
def rLen (K : PySem.W.Frag) : List V → Hp → VK → Prop := fun xs H Q => ∃ x n, xs = [x] ∧ LenV K x H n ∧ Q (.int n) H
theorem dLenL {K : PySem.W.Frag} : DC (rLen K) (t1 (rL ρ)) rI fun xs => .ok (xs.length : Nat) := fun xs vs F H Q e ⟨v, ev, p, ws, e2, hp, r⟩ h =>
  ⟨v, xs.length, ev, by rw [e2]; exact .inl ⟨ws, .inl (.inl (e p _ hp)), r.length⟩, h _ F H (Ext.refl e) rfl⟩
theorem dLenT {K : PySem.W.Frag} : DC (rLen K) (t1 (rT ρ)) rI fun xs => .ok (xs.length : Nat) := fun xs vs F H Q e ⟨v, ev, p, ws, e2, hp, r⟩ h =>
  ⟨v, xs.length, ev, by rw [e2]; exact .inr ⟨ws, .inl (.inl (e p _ hp)), r.length⟩, h _ F H (Ext.refl e) rfl⟩
theorem dLenS {K : PySem.W.Frag} : DC (rLen K) (t1 (rScr K)) rI fun xs => .ok (xs.length : Nat) := fun xs vs F H Q e ⟨v, ev, p, e2, hp⟩ h =>
  ⟨v, xs.length, ev, by rw [e2]; exact .inl ⟨_, Same.seq e hp, by rw [List.length_map]⟩, h _ F H (Ext.refl e) rfl⟩
theorem x_len {t : Tr τ} {mr : τ → R Int} {m : R τ} {p : Pos} (hd : DC (rLen X.K) t rI mr) (hm : X.mg "len" = none) (ha : AX X U Γ (a :: es) t m) (hg : Gl X "len" := by rfl)
    (he : starEach (a :: es) X.env = (false, eval a X.env) :: starEach es X.env := by rfl) (hpl : (backTo pos (starEach es X.env)).any (·.1) = false := by rfl) :
    EX X U Γ (.Call (.Name "len" p) (a :: es) [] pos) rI (m.bind fun x => (mr x).calm.bind fun z => .ok z) := x_callB call_len hd hm boot_len ha hg (by decide) (by decide) he hpl
theorem bl_rep : ∀ {bs : List Bool} {F : Hp} {vs : List V}, RepL rB F bs vs → vs = bs.map V.bl
  | _, _, _, .nil => rfl
  | _, _, _, .cons r t => by rw [bl_rep t, show _ = V.bl _ from r, List.map_cons]
theorem dAll {K : PySem.W.Frag} : DC (rAll K) (t1 (rL rB)) rB fun bs => .ok (bs.all id) := fun bs vs F H Q e ⟨v, ev, p, ws, e2, hp, r⟩ h =>
  ⟨p, bs, by rw [ev, e2], by rw [← bl_rep r]; exact .inl (.inl (e p _ hp)), h _ F H (Ext.refl e) rfl⟩
theorem dAny {K : PySem.W.Frag} : DC (rAny K) (t1 (rL rB)) rB fun bs => .ok (bs.any id) := fun bs vs F H Q e ⟨v, ev, p, ws, e2, hp, r⟩ h =>
  ⟨p, bs, by rw [ev, e2], by rw [← bl_rep r]; exact .inl (.inl (e p _ hp)), h _ F H (Ext.refl e) rfl⟩
def CDv (j : Int) : Prop := 0 < j ∧ j.natAbs.log2 < 8900
instance (j : Int) : Decidable (CDv j) := inferInstanceAs (Decidable (_ ∧ _))
theorem CDv.ok {i j : Int} (h : CDv j) : CDivP i j := by
  refine ⟨h.1, ?_⟩
  unfold Builtin.divisionGoesByPylong
  have h2 := h.2
  simp only [Bool.and_eq_false_iff, decide_eq_false_iff_not]
  left
  split
  · omega
  · omega
def rDvm : List V → Hp → VK → Prop := fun xs H Q => ∃ i j, xs = [.int i, .int j] ∧ CDivP i j ∧ ∀ p, H p = none → Q (.ref p) (upd H p (.tup [.int (i / j), .int (i % j)]))
theorem dDvm : DC rDvm (tc rI (t1 rI)) rC fun x => chk (CDv x.2) (x.1 / x.2, x.1 % x.2) := fun x vs F H Q e ⟨v, ws, ev, r1, w, ew, r2⟩ h => by
  obtain ⟨hc, k⟩ := wpR_chk h
  refine ⟨x.1, x.2, by rw [ev, ew, show v = V.int x.1 from r1, show w = V.int x.2 from r2], hc.ok, fun p hp => ?_⟩
  exact k _ _ _ (Ext.new e hp) ⟨p, _, rfl, upd_same, _, _, rfl, rfl, _, rfl, rfl⟩
theorem x_dvm {m : R (Int × Int)} {p : Pos} (hm : X.mg "divmod" = none) (ha : AX X U Γ (a :: es) (tc rI (t1 rI)) m) (hg : Gl X "divmod" := by rfl)
    (he : starEach (a :: es) X.env = (false, eval a X.env) :: starEach es X.env := by rfl) (hpl : (backTo pos (starEach es X.env)).any (·.1) = false := by rfl) :
    EX X U Γ (.Call (.Name "divmod" p) (a :: es) [] pos) rC (m.bind fun x => chk (CDv x.2) (x.1 / x.2, x.1 % x.2)) := by
  have h := x_callB (pos := pos) (p := p) call_divmodW dDvm hm (by decide +kernel) ha hg (by decide) (by decide) he hpl
  simp only [chk_calm] at h
  exact h
/-- by a known number -/
theorem x_dvmC {m : R Int} {i : Int} {p : Pos} (hm : X.mg "divmod" = none) (ha : EX X U Γ a rI m) (hb : EX X U Γ b rI (.ok i)) (hi : CDv i := by decide) (hg : Gl X "divmod" := by rfl)
    (he : starEach [a, b] X.env = (false, eval a X.env) :: starEach [b] X.env := by rfl) (he2 : starEach [b] X.env = (false, eval b X.env) :: starEach [] X.env := by rfl) (hpl : (backTo pos (starEach [b] X.env)).any (·.1) = false := by rfl) :
    EX X U Γ (.Call (.Name "divmod" p) [a, b] [] pos) rC (m.bind fun x => .ok (x / i, x % i)) := by
  have h := x_dvm (pos := pos) (p := p) hm (a_cons ha (a_one hb he2) he) hg he hpl
  have e : ((m.bind fun x => (R.ok i).bind fun y => R.ok (x, y)).bind fun x => chk (CDv x.2) (x.1 / x.2, x.1 % x.2)) = m.bind fun x => .ok (x / i, x % i) := by
    cases m with
    | ok x =>
      show chk (CDv i) (x / i, x % i) = .ok (x / i, x % i)
      unfold chk
      rw [if_pos hi]
    | er _ => rfl
    | bad => rfl
  rw [e] at h
  exact h
theorem dMin : DC (fun xs H Q => ∃ i j, xs = [.int i, .int j] ∧ Q (.int (if j < i then j else i)) H) (tc rI (t1 rI)) rI fun x => .ok (if x.2 < x.1 then x.2 else x.1) := fun x vs F H Q e ⟨v, ws, ev, r1, w, ew, r2⟩ h =>
  ⟨x.1, x.2, by rw [ev, ew, show v = V.int x.1 from r1, show w = V.int x.2 from r2], h _ F H (Ext.refl e) rfl⟩
theorem dMax : DC (fun xs H Q => ∃ i j, xs = [.int i, .int j] ∧ Q (.int (if j > i then j else i)) H) (tc rI (t1 rI)) rI fun x => .ok (if x.2 > x.1 then x.2 else x.1) := fun x vs F H Q e ⟨v, ws, ev, r1, w, ew, r2⟩ h =>
  ⟨x.1, x.2, by rw [ev, ew, show v = V.int x.1 from r1, show w = V.int x.2 from r2], h _ F H (Ext.refl e) rfl⟩
theorem dIntB : DC (fun xs H Q => (∃ i, xs = [.int i] ∧ Q (.int i) H) ∨ ∃ k, xs = [.bl k] ∧ Q (.int (if k then 1 else 0)) H) (t1 rB) rI fun x => .ok (if x = true then 1 else 0) := fun x vs F H Q e ⟨v, ev, r1⟩ h =>
  .inr ⟨x, by rw [ev, show v = V.bl x from r1], h _ F H (Ext.refl e) rfl⟩
/-- list(xs), list(t), a slice of a list -/
def rLst (K : PySem.W.Frag) : List V → Hp → VK → Prop := fun xs H Q => ∃ p ys, xs = [.ref p] ∧ (SqL K H p ys ∨ SqT K H p ys) ∧ ∀ l, H l = none → Q (.ref l) (upd H l (.lst ys))
theorem dLstT {K : PySem.W.Frag} : DF (rLst K) (t1 (rT ρ)) (fun ys => oLi (tl ρ) ys) fun xs => .ok xs := fun xs vs F H Q e ⟨v, ev, p, ws, e2, hp, r⟩ h =>
  ⟨p, ws, by rw [ev, e2], .inr (.inl (.inl (e p _ hp))), fun l hl => h l _ hl ⟨ws, rfl, r⟩⟩
theorem rep_int (F : Hp) : ∀ ns : List Int, RepL rI F ns (ns.map V.int)
  | [] => .nil
  | n :: r => .cons rfl (rep_int F r)
def rTup1 (K : PySem.W.Frag) : List V → Hp → VK → Prop := fun xs H Q => ∃ p ys, xs = [.ref p] ∧ ((SqL K H p ys ∧ ∀ l, H l = none → Q (.ref l) (upd H l (.tup ys))) ∨ (SqT K H p ys ∧ Q (.ref p) H))
theorem dTupL {K : PySem.W.Frag} : DC (rTup1 K) (t1 (rL ρ)) (rT ρ) fun xs => .ok xs := fun xs vs F H Q e ⟨v, ev, p, ws, e2, hp, r⟩ h =>
  ⟨p, ws, by rw [ev, e2], .inl ⟨.inl (.inl (e p _ hp)), fun l hl => by
    have x := Ext.new (o := .tup ws) e hl
    exact h _ _ _ x ⟨l, ws, rfl, upd_same, r.mono x.f⟩⟩⟩
/-- xs + ys, a new list -/
theorem f_catL {m1 m2 : R (List α)} (ha : EX X U Γ a (rL ρ) m1) (hb : EX X U Γ b (rL ρ) m2) : FX X U Γ (.BinOp a .Add b pos) (fun ys => oLi (tl ρ) ys) (m1.bind fun x => m2.bind fun y => chk (x.length + y.length ≤ sizeLine) (x ++ y)) :=
  ⟨fun en F σ H Q s h => wE_of (pe_op op_cat wE_pe wE_pe) (ha.out en F σ H _ s (wpR_mono (wpR_bind h) (fun x k v F1 H1 e1 s1 ⟨p, vs, ev, hp, r⟩ =>
    hb.out en F1 σ H1 _ s1 (wpR_mono (wpR_bind k) (fun y k2 u F2 H2 e2 s2 ⟨q, ws, eu, hq, r2⟩ => by
      obtain ⟨hl, k2⟩ := wpR_chk k2
      refine ⟨p, q, vs, ws, ev, eu, s2.sub p _ (e2 p _ hp), s2.sub q _ hq, by rw [← r.length, ← r2.length]; exact hl, fun l hl => ?_⟩
      exact k2 l _ F2 _ (e1.trans e2) (s2.lay hl).1 (s2.lay hl).2 ⟨_, rfl, (r.mono e2).append r2⟩) fun _ z => z.up e1)) fun _ z => z))⟩
/-- xs[lo:hi] -/
def cutL (xs : List α) (lo hi : Option Int) : List α := (xs.drop (HT.sIx xs.length 0 lo)).take (HT.sIx xs.length xs.length hi - HT.sIx xs.length 0 lo)
theorem rep_cut {F : Hp} {xs : List α} {vs : List V} {lo hi : Option Int} (r : RepL ρ F xs vs) : RepL ρ F (cutL xs lo hi) (cutV vs lo hi) := by
  unfold cutL cutV
  rw [← r.length]
  exact (r.drop _).take _
/-- a part of a slice -/
structure OG (X : Cx) (U : Wi) (Γ : List Sl) (e : Option Expr) (m : R (Option Int)) : Prop where
  out : ∀ en F σ H (Q : Option Int → Hp → Prop), SA en Γ F σ H → wpR m (fun w => ∀ F' H', Same F F' → SA en Γ F' σ H' → Q w H') (U.ok X.mg en F) → ∃ t, PO X e t ∧ t σ H Q
def wO (X : Cx) (e : Option Expr) : TO := fun σ H Q => ∃ t, PO X e t ∧ t σ H Q
theorem wO_po {e : Option Expr} : PO X e (wO X e) := ⟨fun pins s σ H Q I ⟨t, h, q⟩ => h.run pins s σ H Q I q⟩
theorem o_none : OG X U Γ none (.ok none) := ⟨fun en F σ H Q s h => ⟨_, po_none, h F H (Same.refl F) s⟩⟩
theorem o_some {m : R Int} (h : EX X U Γ e rI m) : OG X U Γ (some e) (m.bind fun x => .ok (some x)) :=
  ⟨fun en F σ H Q s q => ⟨_, po_some wE_pe, h.out en F σ H _ s (wpR_mono (wpR_bind q) (fun x k v F1 H1 e1 s1 r1 => ⟨x, r1, k F1 H1 e1 s1⟩) fun _ z => z)⟩⟩
theorem f_slL {lo hi : Option Expr} {p2 : Pos} {m : R (List α)} {ml mh : R (Option Int)} (ha : EX X U Γ a (rL ρ) m) (hl : OG X U Γ lo ml) (hh : OG X U Γ hi mh) :
    FX X U Γ (.Subscript a (.Slice lo hi none p2) pos) (fun ys => oLi (tl ρ) ys) (m.bind fun xs => ml.bind fun l => mh.bind fun h => .ok (cutL xs l h)) :=
  ⟨fun en F σ H Q s h => wE_of (pe_slice sl_list wE_pe wO_po wO_po) (ha.out en F σ H _ s (wpR_mono (wpR_bind h) (fun x k v F1 H1 e1 s1 ⟨p, vs, ev, hp, r⟩ =>
    hl.out en F1 σ H1 _ s1 (wpR_mono (wpR_bind k) (fun l k2 F2 H2 e2 s2 => hh.out en F2 σ H2 _ s2 (wpR_mono (wpR_bind k2) (fun hi k3 F3 H3 e3 s3 =>
      ⟨p, vs, ev, .inl (.inl (s3.sub p _ (e3 p _ (e2 p _ hp)))), fun q hq => k3 q _ F3 _ (e1.trans (e2.trans e3)) (s3.lay hq).1 (s3.lay hq).2 ⟨_, rfl, rep_cut (r.mono (e2.trans e3))⟩⟩) fun _ z => z.up (e1.trans e2))) fun _ z => z.up e1)) fun _ z => z))⟩
theorem cut_int (xs : List Int) (lo hi : Option Int) : cutV (xs.map V.int) lo hi = (cutL xs lo hi).map V.int := by
  unfold cutV cutL
  rw [List.length_map, List.map_take, List.map_drop]
theorem f_slS {lo hi : Option Expr} {p2 : Pos} {m : R (List Int)} {ml mh : R (Option Int)} (ha : EX X U Γ a (rScr X.K) m) (hl : OG X U Γ lo ml) (hh : OG X U Γ hi mh) :
    FX X U Γ (.Subscript a (.Slice lo hi none p2) pos) (fun ys => oLi (tl rI) ys) (m.bind fun xs => ml.bind fun l => mh.bind fun h => .ok (cutL xs l h)) :=
  ⟨fun en F σ H Q s h => wE_of (pe_slice sl_list wE_pe wO_po wO_po) (ha.out en F σ H _ s (wpR_mono (wpR_bind h) (fun x k v F1 H1 e1 s1 ⟨p, ev, hp⟩ =>
    hl.out en F1 σ H1 _ s1 (wpR_mono (wpR_bind k) (fun l k2 F2 H2 e2 s2 => hh.out en F2 σ H2 _ s2 (wpR_mono (wpR_bind k2) (fun hi k3 F3 H3 e3 s3 =>
      ⟨p, _, ev, Same.seq (e2.trans (e3.trans s3.sub)) hp, fun q hq => k3 q _ F3 _ (e1.trans (e2.trans e3)) (s3.lay hq).1 (s3.lay hq).2 ⟨_, rfl, by rw [cut_int]; exact rep_int F3 _⟩⟩) fun _ z => z.up (e1.trans e2))) fun _ z => z.up e1)) fun _ z => z))⟩

/-! ### isinstance with a built-in class -/
/-- the class of what stands for a value of ρ -/
structure Ty {α : Type} (ρ : Rp α) (c : α → String) : Prop where
  out : ∀ K H x v, ρ.rep x H v → TyX K H v (.type (c x))
theorem tyB : Ty rB fun _ => "bool" := ⟨fun K H x v r => by rw [show v = V.bl x from r]; exact .base (.bl x)⟩
theorem nnLi {τ : Type} {t : Tr τ} (x : τ) (F : Hp) : ¬ (rLi t).rep x F .non := fun ⟨_, _, h, _⟩ => nomatch h
theorem x_isi {m : R α} {c : α → String} {T : String} {n : Str} {p p2 : Pos} (f : α → Bool) (ht : Ty ρ c) (hf : ∀ x, kitB (c x) T = some (f x)) (hm : X.mg "isinstance" = none) (hn : X.mg n = none) (hv : bootBuiltins n = some (.type T)) (ha : EX X U Γ a ρ m)
    (hg : Gl X "isinstance" := by rfl) (hg2 : Gl X n := by rfl) (hnn : n ≠ "__name__" := by decide) (hnd : (n == ("__debug__" : Str)) = false := by decide)
    (he : starEach [a, .Name n p2] X.env = (false, eval a X.env) :: starEach [.Name n p2] X.env := by rfl) (he2 : starEach [.Name n p2] X.env = (false, eval (.Name n p2) X.env) :: starEach [] X.env := by rfl) (hpl : (backTo pos (starEach [.Name n p2] X.env)).any (·.1) = false := by rfl) :
    EX X U Γ (.Call (.Name "isinstance" p) [a, .Name n p2] [] pos) rB (m.bind fun x => .ok (f x)) :=
  ⟨fun en F σ H Q s h => wE_of (pe_callB call_isi hg hm boot_isinstance (pa_cons wE_pe (pa_cons (pe_bltn (v := .ty T) hg2 hn hv rfl hnn hnd) pa_nil he2) he) (by decide) (by decide) he hpl) (ha.out en F σ H _ s (wpR_mono (wpR_bind h) (fun x k v F1 H1 e1 s1 r1 =>
    ⟨v, .ty T, _, _, f x, rfl, .ty T, ht.out X.K H1 x v (ρ.mono s1.sub r1), kit_ty (hf x), k _ F1 H1 e1 s1 rfl⟩) fun _ z => z))⟩

/-! ### own lists -/
variable {ω' : Type} {I : ω → Kd} {rest : List Stmt} {n : Str}
/-- xs.append(e), xs in slot i -/
theorem s_append {a0 : Option Addr} {p ap cp : Pos} {xs : List α} {m : R α} {k : α → R ω} (i : Nat) (he : EX X U Γ e ρ m) (hr : ∀ y, SX X U (Γ.set i (.own a0 (oLi (tl ρ) (xs ++ [y])))) rest I (k y)) (hΓ : Γ[i]? = some (.own a0 (oLi (tl ρ) xs)) := by rfl) (hN : X.N[i]? = some n := by rfl)
    (hv : Vis X.env.scope n := by first | exact Or.inl rfl | exact Or.inr (Or.inl rfl) | exact Or.inr (Or.inr rfl)) (hd : (n == ("__debug__" : Str)) = false := by decide) (hcd : (n == ("__classdict__" : Str)) = false := by decide)
    (h1 : starEach [e] X.env = (false, eval e X.env) :: starEach [] X.env := by rfl)
    (hpe : ∀ to t, PE X (.Name n p) to → PA X [e] t → PE X (.Call (.Attribute (.Name n p) "append" ap) [e] [] cp) (tBM X.K "list" rAppend to t) := by exact fun _ _ ho ha => pe_bm PySem.F.plainAttrs_list PySem.F.slot_list_append PySem.F.type_list_append mt_append ho ha)
    (hs : swapsWith (.Call (.Attribute (.Name n p) "append" ap) [e] [] cp) none pos.line X.env = pure false := by rfl) :
    SX X U Γ (.Expr (.Call (.Attribute (.Name n p) "append" ap) [e] [] cp) pos :: rest) I (m.bind fun y => (chk (xs.length < sizeLine) ()).bind fun _ => k y) :=
  ⟨fun en F σ H D s h => wSs_of (pss_cons (ps_expr (hpe _ _ (pe_var hN hv hd hcd) (pa_cons wE_pe pa_nil h1)) hs) wSs_pss) (by
    obtain ⟨p, o, g1, g2, g3, ⟨vs, eo, rl⟩, g5, g6⟩ := s.own i _ _ hΓ
    subst eo
    refine ⟨.ref p, g1, .inl ⟨rfl, _, .inl (.inl g3)⟩, ?_⟩
    refine he.out en F σ H _ s (wpR_mono (wpR_bind h) (fun y q u F1 H1 e1 s1 ry => ?_) fun _ z => z)
    obtain ⟨p1, o1, f1, f2, f3, ⟨ws, eo, rl1⟩, f5, f6⟩ := s1.own i _ _ hΓ
    subst eo
    have ep : p1 = p := by
      rw [g1] at f1
      injection f1 with f1
      injection f1 with f1
      injection f1 with f1
      exact f1.symm
    subst ep
    obtain ⟨hl, q⟩ := wpR_chk (wpR_bind q)
    refine ⟨p1, ws, u, rfl, rfl, f3, by rw [← rl1.length]; exact hl, ?_⟩
    exact (hr y).out en F1 σ _ D (s1.mut hΓ f1 ⟨ws ++ [u], rfl, rl1.append (.cons ry .nil)⟩) (wpR_mono q (fun o z => z.up e1) fun _ z => z.up e1))⟩
end
end Py

/-! Own layer, part E: the rules where nothing but slots changes; raise; dicts keyed by tuples. -/
namespace Py
open PySem PySem.Spec PyProof.Rows L2
section
variable {X : Cx} {U : Wi} {Γ : List Sl} {a b c e : Expr} {es : List Expr} {A B sts rest : List Stmt} {pos : Pos} {α β γ τ ω ω' : Type} {ρ : Rp α} {π : Rp β} {I : ω → Kd} {I' : ω' → Kd} {n : Str}

theorem SX.cv {m m' : R ω} (h : SX X U Γ sts I m) (e : m = m') : SX X U Γ sts I m' := by
  rw [← e]
  exact h
theorem FG.cv {P : α → ORp} {m m' : R α} (h : FX X U Γ e P m) (q : m = m') : FX X U Γ e P m' := by
  subst q
  exact h
theorem EG.cv {ρ : Rp α} {m m' : R α} (h : EX X U Γ e ρ m) (q : m = m') : EX X U Γ e ρ m' := by
  rw [← q]
  exact h
/-! ### and, or where the right side can't fail -/
theorem w_and2 {m1 : R Bool} {y : Bool} {r : List Expr} (ha : BX X U Γ a m1) (hb : WG X U Γ (.BoolOp .And (b :: r) pos) (.ok y)) : WG X U Γ (.BoolOp .And (a :: b :: r) pos) (m1.bind fun x => .ok (x && y)) := by
  have h := w_and ha hb
  have e : (fun x : Bool => if x = true then R.ok y else .ok false) = fun x => .ok (x && y) := by
    funext x
    cases x <;> rfl
  rw [e] at h
  exact h
theorem x_test {m : R Bool} (h : EX X U Γ e rB m) (he : ∀ whole, isTrue e X.env whole = (do let v ← whole; standAt e.pos; holding [v] (truthy v)) := by intro _; rfl) : BX X U Γ e m := g_test h he
theorem x_tup {t : Tr τ} {m : R τ} {k : Nat} (h : AX X U Γ es t m) (hn : ∀ w F vs, t.rep w F vs → vs.length ≤ sizeLine) : EX X U Γ (.Tuple es k pos) (rTu t) m := g_tup h hn
theorem f_list {t : Tr τ} {m : R τ} (h : AX X U Γ es t m) (hn : ∀ w F vs, t.rep w F vs → vs.length ≤ sizeLine) : FX X U Γ (.List es pos) (fun w => oLi t w) m := f_lst h hn
theorem x_frzE {t : Tr τ} {m : R τ} (h : FX X U Γ e (fun w => oLi t w) m) : EX X U Γ e (rLi t) m := x_frz (val := fun w => w) h
theorem n1 {ρ : Rp α} {w : α} {F : Hp} {vs : List V} (h : (t1 ρ).rep w F vs) : vs.length = 1 := by
  obtain ⟨v, e, _⟩ := h
  rw [e] <;> rfl
theorem nc {ρ : Rp α} {t : Tr τ} {w : α × τ} {F : Hp} {vs : List V} {k : Nat} (hk : ∀ w F vs, t.rep w F vs → vs.length = k) (h : (tc ρ t).rep w F vs) : vs.length = k + 1 := by
  obtain ⟨v, ws, e, _, q⟩ := h
  rw [e, List.length_cons, hk _ _ _ q]
theorem sz {k m : Nat} (h : k = m) (hm : m ≤ 1000) : k ≤ sizeLine := by
  subst h
  exact Nat.le_of_lt (small1000 hm)

/-! ### statements -/
theorem p_set {p' : Pos} {m : R α} {k : α → R ω} (i : Nat) (hN : X.N.Nodup) (he : EX X U Γ e ρ m) (hr : ∀ w, SX X U (Γ.set i (im ρ w)) rest I (k w)) (hn : X.N[i]? = some n := by rfl)
    (hx : Loc X.env.scope n := by first | exact Or.inl rfl | exact Or.inr rfl) (hs : swapsWith e (some (.Name n p')) pos.line X.env = pure false := by rfl) (hf : X.fn n = true ∨ X.env.scope.names.lookup n = some .local := by first | exact .inl rfl | exact .inr rfl) :
    SX X U Γ (.Assign [.Name n p'] e pos :: rest) I (m.bind k) := s_set i hN he hr hn hx hs hf
theorem p_own {P : ω' → ORp} {p' : Pos} {m : R ω'} {k : ω' → R ω} (i : Nat) (hN : X.N.Nodup) (he : FX X U Γ e P m) (hr : ∀ w, SX X U (Γ.set i (.own none (P w))) rest I (k w)) (hn : X.N[i]? = some n := by rfl)
    (hx : Loc X.env.scope n := by first | exact Or.inl rfl | exact Or.inr rfl) (hs : swapsWith e (some (.Name n p')) pos.line X.env = pure false := by rfl) (hf : X.fn n = true ∨ X.env.scope.names.lookup n = some .local := by first | exact .inl rfl | exact .inr rfl) :
    SX X U Γ (.Assign [.Name n p'] e pos :: rest) I (m.bind k) := s_own i hN he hr hn hx hs hf
theorem p_asg {tg : Expr} {vs : List Nat} {g : α → List Sl → List Sl} {m : R α} {k : α → R ω} (hg : GT X tg ρ vs g) (he : EX X U Γ e ρ m) (hr : ∀ w, SX X U (g w Γ) rest I (k w))
    (hs : swapsWithSole [tg] e pos.line X.env = pure false := by rfl) (hw : swappedStores [tg] e X.env = pure none := by rfl) (h1 : (assignEach [tg] X.env).map (·.2) = [assign tg X.env] := by rfl) :
    SX X U Γ (.Assign [tg] e pos :: rest) I (m.bind k) := s_asg hg he hr hs hw h1
theorem p_expr {m : R α} {k : α → R ω} (he : EX X U Γ e ρ m) (hr : ∀ w, SX X U Γ rest I (k w)) (hs : swapsWith e none pos.line X.env = pure false := by rfl) : SX X U Γ (.Expr e pos :: rest) I (m.bind k) := s_expr he hr hs
theorem p_ret {m : R α} (mk : α → ω) (Γr : List Sl) (e1 : ∀ w, (I (mk w)).cut = .rt ⟨fun H v => ρ.rep w H v, fun e h => ρ.mono e h⟩ Γr) (l : Le Γr Γ) (he : EX X U Γ e ρ m) : SX X U Γ (.Return (some e) pos :: rest) I (m.bind fun w => .ok (mk w)) :=
  s_last (g_ret mk (fun _ => Γr) e1 (fun _ => l) he)
theorem p_retf {I : α → Kd} {m : R α} (Γr : List Sl) (e1 : ∀ w, (I w).cut = .rt ⟨fun H v => ρ.rep w H v, fun e h => ρ.mono e h⟩ Γr) (l : Le Γr Γ) (he : EX X U Γ e ρ m) : SX X U Γ (.Return (some e) pos :: rest) I m := by
  have h := p_ret (rest := rest) (pos := pos) (fun w => w) Γr e1 l he
  rw [R.bind_pure] at h
  exact h
theorem p_ifT {mc : R Bool} {mA mR : R ω} (hc : BX X U Γ c mc) (hA : SX X U Γ A (fun o => (I o).cut) mA) (hR : SX X U Γ rest I mR) : SX X U Γ (.If c A [] pos :: rest) I (mc.bind fun t => if t = true then mA else mR) :=
  s_ifT hc (fun _ => hA) fun _ => hR
theorem p_if2 {mc : R Bool} {mA mB : R ω} (hc : BX X U Γ c mc) (hA : SX X U Γ A I mA) (hB : SX X U Γ B I mB) : SX X U Γ [.If c A B pos] I (mc.bind fun t => if t = true then mA else mB) :=
  s_one (g_if hc (fun _ => hA) fun _ => hB)
/-- if c: A else: B, then the rest: s is what both leave -/
theorem p_ifJ {mc : R Bool} {mA mB : R τ} {k : τ → R ω} (Γs : τ → List Sl) (hc : BX X U Γ c mc) (hA : SX X U Γ A (fun s => .nx (Γs s)) mA) (hB : SX X U Γ B (fun s => .nx (Γs s)) mB) (hr : ∀ s, SX X U (Γs s) rest I (k s)) :
    SX X U Γ (.If c A B pos :: rest) I (mc.bind fun t => (if t = true then mA else mB).bind k) := by
  have h := s_cons (g_if (pos := pos) (I := fun s : τ => Kd.nx (Γs s)) hc (fun _ => hA) fun _ => hB) (fun s => Cont.nx (hr s))
  exact h.cv (by cases mc <;> rfl)
theorem p_for {tg iter : Expr} {body : List Stmt} {m : R (List α)} {vs : List Nat} {g : α → List Sl → List Sl} {k : τ → R ω} (Γs : τ → List Sl) (f : τ → α → R τ) (s0 : τ) (hp : PassesOwn (model X.prog X.w) X.A X.env X.xe) (hi : IX X U Γ tg iter ρ m) (hg : GT X tg ρ vs g)
    (hb : ∀ s x, SX X U (g x (Γs s)) body (fun s' => .go (Γs s')) (f s x)) (h0 : Le (Γs s0) Γ) (hr : ∀ s, SX X U (Γs s) rest I (k s)) (hc : X.calm = true := by rfl) (hs : ∀ x, foldedSetIterable iter X.env x = pure x := by intro _; rfl) :
    SX X U Γ (.For tg iter body [] pos :: rest) I (m.bind fun xs => (forR f xs s0).bind k) := by
  have h := s_cons (g_forR (pos := pos) Γs (fun _ => f) (fun _ => s0) hi hg (fun _ => hb) (fun _ => h0) hp hc hs) (fun s => Cont.nx (hr s))
  exact h.cv (by cases m <;> rfl)
theorem p_forO {tg iter : Expr} {body : List Stmt} {m : R (List α)} {vs : List Nat} {g : α → List Sl → List Sl} {k : τ → R ω} (Γs : τ → List Sl) (P : γ → PRp × List Sl) (mk : γ → ω) (f : τ → α → R (Stp τ γ)) (s0 : τ) (hp : PassesOwn (model X.prog X.w) X.A X.env X.xe) (hi : IX X U Γ tg iter ρ m) (hg : GT X tg ρ vs g)
    (hb : ∀ s x, SX X U (g x (Γs s)) body (Stp.kd Γs P) (f s x)) (h0 : Le (Γs s0) Γ) (hk : ∀ a, Cont X U rest I (.rt (P a).1 (P a).2) (.ok (mk a))) (hr : ∀ s, SX X U (Γs s) rest I (k s)) (hc : X.calm = true := by rfl) (hs : ∀ x, foldedSetIterable iter X.env x = pure x := by intro _; rfl) :
    SX X U Γ (.For tg iter body [] pos :: rest) I (m.bind fun xs => (forS f xs s0).bind (outK k mk)) := by
  have h := s_cons (rest := rest) (I := I) (k := outK k mk) (g_forS (pos := pos) Γs P (fun _ => f) (fun _ => s0) hi hg (fun _ => hb) (fun _ => h0) hp hc hs) (fun o => by
    cases o with
    | nx s => exact Cont.nx (hr s)
    | rt a => exact hk a)
  exact h.cv (by cases m <;> rfl)
/-- raise C('..') -/
theorem p_raise {C : Addr} {cls : Str} {x : Expr} (tk : Takes X U.W) (hk : PMk X x (fun _ H Q => Q (.ref C) none H)) (hm : X.mg cls = some (.ref C)) (l : Le U.Γ Γ) (hc : X.calm = true := by rfl) : SX X U Γ (.Raise (some x) none pos :: rest) I (.er ⟨cls, none⟩) :=
  ⟨fun en F σ H D s h => wSs_of (pss_cons (ps_raise hc tk hk) wSs_pss) (h (.ref C) none F σ H (Same.refl F) (s.le l) ⟨C, hm, rfl, rfl⟩)⟩

end
end Py

/-! Own layer, part F: what the printed proofs name besides: constants, displays, dicts keyed by tuples, own lists read, mixed ifs. -/
namespace Py
open PySem PySem.Spec PyProof.Rows L2

theorem u1 {k : Nat} {A : Around} (hr : Room k A) : A.units + 1 < cLine := hu_of hr
theorem u64 {k : Nat} {A : Around} (hr : Room k A) : A.units + 64 < cLine := hr.units
theorem u65 {k : Nat} {A : Around} (hr : Room k A) : A.units + 65 < cLine := by
  have := hr.un
  unfold cLine at *
  omega
abbrev rtP {γ : Type} (ρ : Rp γ) : γ → PRp × List Sl := fun z => (⟨fun H v => ρ.rep z H v, fun e h => ρ.mono e h⟩, [])
/-- a block that ends or goes on -/
def sumKd {ω τ : Type} (I : ω → Kd) (Γs : τ → List Sl) : Sum ω τ → Kd
  | .inl o => (I o).cut
  | .inr s => .nx (Γs s)
def sumK {ω τ : Type} (k : τ → R ω) : Sum ω τ → R ω
  | .inl o => .ok o
  | .inr s => k s
/-- so many of one type -/
def tn {α : Type} (ρ : Rp α) (k : Nat) : Tr (List α) := ⟨fun a H vs => RepL ρ H a vs ∧ vs.length = k, fun e h => ⟨h.1.mono e, h.2⟩⟩

/-! ### dicts keyed by tuples -/
structure Ky {κ : Type} (ρ : Rp κ) where
  enc : κ → List Key
  inj : ∀ a b, enc a = enc b → a = b
  rep : ∀ a H v, ρ.rep a H v → ∃ p, v = .ref p ∧ H p = some (.tup ((enc a).map kV))
def kyC : Ky rC where
  enc := fun a => [.inl a.1, .inl a.2]
  inj := fun a b h => by
    injection h with h1 h2
    injection h2 with h2 _
    injection h1 with h1
    injection h2 with h2
    exact Prod.ext h1 h2
  rep := fun a H v ⟨p, vs, e, h, v1, ws, e1, r1, v2, e2, r2⟩ => ⟨p, e, by
    rw [h, e1, e2, show v1 = V.int a.1 from r1, show v2 = V.int a.2 from r2]
    rfl⟩
section
variable {κ ν : Type} [DecidableEq κ]
def dGet (xs : List (κ × ν)) (k : κ) : Option ν := (xs.find? fun q => decide (q.1 = k)).map (·.2)
def dPut (xs : List (κ × ν)) (k : κ) (v : ν) : List (κ × ν) :=
  if (xs.any fun q => decide (q.1 = k)) = true then xs.map (fun q => if q.1 = k then (q.1, v) else q) else xs ++ [(k, v)]
end
inductive RepD {κ ν : Type} {ρ : Rp κ} (ky : Ky ρ) (π : Rp ν) (H : Hp) : List (κ × ν) → List (List Key × V) → Prop
  | nil : RepD ky π H [] []
  | cons {k : κ} {x : ν} {xs : List (κ × ν)} {v : V} {kvs : List (List Key × V)} : π.rep x H v → RepD ky π H xs kvs → RepD ky π H ((k, x) :: xs) ((ky.enc k, v) :: kvs)
section
variable {κ ν : Type} {ρ : Rp κ} {ky : Ky ρ} {π : Rp ν} {H H' : Hp}
theorem RepD.mono (e : Same H H') : ∀ {xs : List (κ × ν)} {kvs : List (List Key × V)}, RepD ky π H xs kvs → RepD ky π H' xs kvs
  | _, _, .nil => .nil
  | _, _, .cons r t => .cons (π.mono e r) (RepD.mono e t)
theorem RepD.length : ∀ {xs : List (κ × ν)} {kvs : List (List Key × V)}, RepD ky π H xs kvs → xs.length = kvs.length
  | _, _, .nil => rfl
  | _, _, .cons r t => congrArg (· + 1) (RepD.length t)
variable [DecidableEq κ]
theorem Ky.dec (ky : Ky ρ) (a b : κ) : decide (ky.enc a = ky.enc b) = decide (a = b) := by
  by_cases h : a = b
  · subst h
    simp
  · have h' : ¬ ky.enc a = ky.enc b := fun z => h (ky.inj a b z)
    simp [h, h']
theorem RepD.get : ∀ {xs : List (κ × ν)} {kvs : List (List Key × V)} (k : κ), RepD ky π H xs kvs → match dGet xs k with | none => valV kvs (ky.enc k) = none | some x => ∃ v, valV kvs (ky.enc k) = some v ∧ π.rep x H v
  | _, _, k, .nil => rfl
  | _, _, k, .cons (k := k') (x := x) (v := v) r t => by
    by_cases h : k' = k
    · subst h
      have e : ∀ ys : List (κ × ν), dGet ((k', x) :: ys) k' = some x := fun ys => by simp [dGet]
      rw [e]
      exact ⟨v, valV_pos rfl, r⟩
    · have h' : ¬ ky.enc k' = ky.enc k := fun z => h (ky.inj _ _ z)
      have ih := RepD.get k t
      have e : ∀ ys : List (κ × ν), dGet ((k', x) :: ys) k = dGet ys k := fun ys => by simp [dGet, h]
      rw [e, valV_neg (p := (ky.enc k', v)) h']
      exact ih
theorem RepD.any : ∀ {xs : List (κ × ν)} {kvs : List (List Key × V)} (k : κ), RepD ky π H xs kvs → (kvs.any fun q => decide (q.1 = ky.enc k)) = xs.any fun q => decide (q.1 = k)
  | _, _, k, .nil => rfl
  | _, _, k, .cons (k := k') r t => by
    rw [List.any_cons, List.any_cons, RepD.any k t]
    show (decide (ky.enc k' = ky.enc k) || _) = _
    rw [ky.dec]
theorem RepD.map {x : ν} {v : V} (r : π.rep x H v) : ∀ {xs : List (κ × ν)} {kvs : List (List Key × V)} (k : κ), RepD ky π H xs kvs →
    RepD ky π H (xs.map fun q => if q.1 = k then (q.1, x) else q) (kvs.map fun q => if q.1 = ky.enc k then (q.1, v) else q)
  | _, _, k, .nil => .nil
  | _, _, k, .cons (k := k') (x := x') (v := v') r' t => by
    rw [List.map_cons, List.map_cons]
    by_cases h : k' = k
    · subst h
      simp only [if_pos]
      exact .cons r (RepD.map r k' t)
    · have h' : ¬ ky.enc k' = ky.enc k := fun z => h (ky.inj _ _ z)
      simp only [if_neg h, if_neg h']
      exact .cons r' (RepD.map r k t)
theorem RepD.snoc {k : κ} {x : ν} {v : V} (r : π.rep x H v) : ∀ {xs : List (κ × ν)} {kvs : List (List Key × V)}, RepD ky π H xs kvs → RepD ky π H (xs ++ [(k, x)]) (kvs ++ [(ky.enc k, v)])
  | _, _, .nil => .cons r .nil
  | _, _, .cons r' t => .cons r' (RepD.snoc r t)
theorem RepD.put {xs : List (κ × ν)} {kvs : List (List Key × V)} {k : κ} {x : ν} {v : V} (h : RepD ky π H xs kvs) (r : π.rep x H v) : RepD ky π H (dPut xs k x) (putK kvs (ky.enc k) v) := by
  unfold dPut putK
  rw [h.any k]
  by_cases z : (xs.any fun q => decide (q.1 = k)) = true
  · rw [if_pos z, if_pos z]
    exact h.map r k
  · rw [if_neg z, if_neg z]
    exact h.snoc r
end
abbrev oD {κ ν : Type} {ρ : Rp κ} (ky : Ky ρ) (π : Rp ν) (xs : List (κ × ν)) : ORp := ⟨fun F o => ∃ kvs, o = .dT kvs ∧ RepD ky π F xs kvs, fun e ⟨kvs, h, r⟩ => ⟨kvs, h, RepD.mono e r⟩, fun ⟨vs, h, _⟩ ws z => by rw [h] at z; cases z⟩
/-- a dict that is known: it is locked -/
def rD {κ ν : Type} {ρ : Rp κ} (ky : Ky ρ) (π : Rp ν) : Rp (List (κ × ν)) := ⟨fun xs F v => ∃ p kvs, v = .ref p ∧ (∃ od, F p = some (.frz od (.dT kvs))) ∧ RepD ky π F xs kvs, fun e ⟨p, kvs, h, ⟨od, q⟩, r⟩ => ⟨p, kvs, h, ⟨od, e p _ q⟩, RepD.mono e r⟩⟩

section
variable {X : Cx} {U : Wi} {Γ : List Sl} {a b c e : Expr} {es : List Expr} {A B sts rest : List Stmt} {pos : Pos} {α β γ κ ν τ ω ω' : Type} {ρ : Rp α} {π : Rp β} {I : ω → Kd} {I' : ω' → Kd} {n : Str}

theorem Cont.cut {o : ω} : ∀ {k : Kd}, (I o).cut = k → Cont X U rest I k (.ok o) := by
  intro k h
  cases hI : I o with
  | nx Γ =>
    rw [hI] at h
    subst h
    exact .no fun _ _ z => z
  | go Γ =>
    rw [hI] at h
    subst h
    exact .go hI Le.refl
  | bk Γ =>
    rw [hI] at h
    subst h
    exact .bk hI Le.refl
  | ct Γ =>
    rw [hI] at h
    subst h
    exact .ct hI Le.refl
  | rt p Γ =>
    rw [hI] at h
    subst h
    exact .rt hI
  | fn p Γ =>
    rw [hI] at h
    subst h
    exact .rtf hI
  | rf P Γ =>
    rw [hI] at h
    subst h
    exact .rf hI
/-- if c: A else: B, each of which ends or goes on -/
theorem p_ifS {mc : R Bool} {mA mB : R (Sum ω τ)} {k : τ → R ω} (Γs : τ → List Sl) (hc : BX X U Γ c mc) (hA : SX X U Γ A (sumKd I Γs) mA) (hB : SX X U Γ B (sumKd I Γs) mB) (hr : ∀ s, SX X U (Γs s) rest I (k s)) :
    SX X U Γ (.If c A B pos :: rest) I (mc.bind fun t => (if t = true then mA else mB).bind (sumK k)) := by
  have h := s_cons (rest := rest) (I := I) (k := sumK k) (g_if (pos := pos) hc (fun _ => hA) fun _ => hB) (fun o => by
    cases o with
    | inl o => exact Cont.cut rfl
    | inr s => exact Cont.nx (hr s))
  exact h.cv (by cases mc <;> rfl)

/-! ### constants, displays -/
theorem x_globI {i : Int} (h : ∃ t, X.mg n = some (.int i t)) (hg : Gl X n := by rfl) (hd : (n == ("__debug__" : Str)) = false := by decide) : EX X U Γ (.Name n pos) rI (.ok i) := by
  obtain ⟨t, h⟩ := h
  exact x_glob (v := .int i) h ⟨t, rfl⟩ (fun _ => rfl) hg hd
theorem ln_nil : AX X U Γ [] (tn ρ 0) (.ok []) := a_nil fun _ => ⟨.nil, rfl⟩
theorem ln_cons {k : Nat} {m1 : R α} {m2 : R (List α)} (ha : EX X U Γ a ρ m1) (hb : AX X U Γ es (tn ρ k) m2) (hs : starEach (a :: es) X.env = (false, eval a X.env) :: starEach es X.env := by rfl) : AX X U Γ (a :: es) (tn ρ (k + 1)) (m1.bind fun x => m2.bind fun y => .ok (x :: y)) :=
  g_acons (t' := tn ρ (k + 1)) (val := fun z => z) (fun x y => x :: y) (fun x y F v vs (r : ρ.rep x F v) (q : (tn ρ k).rep y F vs) => ⟨.cons r q.1, congrArg (· + 1) q.2⟩) (fun _ _ => rfl) ha (fun _ => hb) hs
theorem f_listN {k : Nat} {m : R (List α)} (h : AX X U Γ es (tn ρ k) m) (hk : k ≤ 1000 := by decide) : FX X U Γ (.List es pos) (fun w => oLi (tl ρ) w) m :=
  ⟨fun en F σ H Q s q => (f_list (t := tn ρ k) h (fun w F vs r => sz r.2 hk)).out en F σ H Q s (wpR_mono q (fun w kk p o F' H' e1 s1 fr ⟨vs, e, r⟩ => kk p o F' H' e1 s1 fr ⟨vs, e, r.1⟩) fun _ z => z)⟩
theorem x_tupN {j k : Nat} {m : R (List α)} (h : AX X U Γ es (tn ρ k) m) (hk : k ≤ 1000 := by decide) : EX X U Γ (.Tuple es j pos) (rT ρ) m :=
  ⟨fun en F σ H Q s q => (x_tup (t := tn ρ k) h (fun w F vs r => sz r.2 hk)).out en F σ H Q s (wpR_mono q (fun w kk v F' H' e1 s1 ⟨p, vs, ev, hp, r⟩ => kk v F' H' e1 s1 ⟨p, vs, ev, hp, r.1⟩) fun _ z => z)⟩
theorem f_nil {ρ : Rp α} : FX X U Γ (.List [] pos) (fun w => oLi (tl ρ) w) (.ok []) := f_listN ln_nil
theorem x_tup0 {j : Nat} {ρ : Rp α} : EX X U Γ (.Tuple [] j pos) (rT ρ) (.ok []) := x_tupN ln_nil
/-- a comprehension without a test -/
theorem f_lcM {tg iter elt : Expr} {scope : Scope} {own : List (Str × Nat)} {m : R (List α)} {g : α → List Sl → List Sl} {f : α → R β} (hN : X.N.Nodup) (hi : IX X U Γ tg iter ρ m) (ok : BlkOk X.N X.env.scope scope own)
    (hg : ∀ (s : Shared) (H : Hp) (C : Addr) (cl : List (Str × Addr)) (fp : List Addr), GT (X.blk s H scope (compEnvC scope cl C X.env) fp) tg ρ (own.map (·.2)) g)
    (he : ∀ (s : Shared) (H : Hp) (C : Addr) (cl : List (Str × Addr)) (fp : List Addr) (x : α), EX (X.blk s H scope (compEnvC scope cl C X.env) fp) U0 (g x (wipeΓ Γ (own.map (·.2)))) elt π (f x))
    (hno : noOwn Γ (own.map (·.2)) = true := by rfl) (hc : X.calm = true := by rfl) (hs : ∀ x, foldedSetIterable iter X.env x = pure x := by intro _; rfl) :
    FX X U Γ (.ListComp elt [⟨tg, iter, [], 0⟩] scope pos) (fun ys => oLi (tl π) ys) (m.bind fun xs => (mapR f xs).bind fun ys => chk (ys.length ≤ sizeLine) ys) := by
  have h := f_lcF (pos := pos) (c := fun _ => .ok true) hN hi ok hg (fun _ _ _ _ _ _ => ts_nil) he hno hc hs
  simp only [fm_map] at h
  exact h
/-! ### calls with defaults -/
/-! ### own lists read -/
theorem x_ixO {a0 : Option Addr} {xs : List α} {m : R Int} {p2 : Pos} (i : Nat) (hΓ : Γ[i]? = some (.own a0 (oLi (tl ρ) xs))) (hb : EX X U Γ b rI m) (hN : X.N[i]? = some n := by rfl) (hv : Vis X.env.scope n := by first | exact Or.inl rfl | exact Or.inr (Or.inl rfl) | exact Or.inr (Or.inr rfl))
    (hd : (n == ("__debug__" : Str)) = false := by decide) (hcd : (n == ("__classdict__" : Str)) = false := by decide) (hs : PlainIx b := by exact fun _ _ => rfl) : EX X U Γ (.Subscript (.Name n p2) b pos) ρ (m.bind fun y => ofOpt (atI xs y)) :=
  ⟨fun en F σ H Q s h => wE_of (pe_ix ix_list (pe_var hN hv hd hcd) wE_pe hs) (by
    obtain ⟨p, o, g1, g2, g3, ⟨vs, eo, rl⟩, g5, g6⟩ := s.own i _ _ hΓ
    refine ⟨.ref p, g1, hb.out en F σ H _ s (wpR_mono (wpR_bind h) (fun y q u F1 H1 e1 s1 ry => ?_) fun _ z => z)⟩
    obtain ⟨p1, o1, f1, f2, f3, ⟨ws, eo1, rl1⟩, f5, f6⟩ := s1.own i _ _ hΓ
    subst eo1
    rw [g1] at f1
    injection f1 with f1
    injection f1 with f1
    injection f1 with f1
    subst f1
    obtain ⟨x, hx, q⟩ := wpR_opt q
    obtain ⟨v, hv1, rv⟩ := atI_rep rl1 hx
    exact ⟨p, ws, y, v, rfl, ry, .inl (.inl f3), hv1, q v F1 H1 e1 s1 rv⟩)⟩
/-- xs.extend(ys), xs in slot i -/
theorem s_extend {a0 : Option Addr} {p ap cp : Pos} {xs : List α} {m : R (List α)} {k : List α → R ω} (i : Nat) (he : EX X U Γ e (rL ρ) m) (hr : ∀ ys, SX X U (Γ.set i (.own a0 (oLi (tl ρ) (xs ++ ys)))) rest I (k ys)) (hΓ : Γ[i]? = some (.own a0 (oLi (tl ρ) xs)) := by rfl) (hN : X.N[i]? = some n := by rfl)
    (hv : Vis X.env.scope n := by first | exact Or.inl rfl | exact Or.inr (Or.inl rfl) | exact Or.inr (Or.inr rfl)) (hd : (n == ("__debug__" : Str)) = false := by decide) (hcd : (n == ("__classdict__" : Str)) = false := by decide)
    (h1 : starEach [e] X.env = (false, eval e X.env) :: starEach [] X.env := by rfl)
    (hpe : ∀ to t, PE X (.Name n p) to → PA X [e] t → PE X (.Call (.Attribute (.Name n p) "extend" ap) [e] [] cp) (tBM X.K "list" rExtend to t) := by exact fun _ _ ho ha => pe_bm PySem.F.plainAttrs_list PySem.F.slot_list_extend PySem.F.type_list_extend mt_extend ho ha)
    (hs : swapsWith (.Call (.Attribute (.Name n p) "extend" ap) [e] [] cp) none pos.line X.env = pure false := by rfl) :
    SX X U Γ (.Expr (.Call (.Attribute (.Name n p) "extend" ap) [e] [] cp) pos :: rest) I (m.bind fun ys => (chk (xs.length + ys.length ≤ sizeLine) ()).bind fun _ => k ys) :=
  ⟨fun en F σ H D s h => wSs_of (pss_cons (ps_expr (hpe _ _ (pe_var hN hv hd hcd) (pa_cons wE_pe pa_nil h1)) hs) wSs_pss) (by
    obtain ⟨p, o, g1, g2, g3, ⟨vs, eo, rl⟩, g5, g6⟩ := s.own i _ _ hΓ
    subst eo
    refine ⟨.ref p, g1, .inl ⟨rfl, _, .inl (.inl g3)⟩, ?_⟩
    refine he.out en F σ H _ s (wpR_mono (wpR_bind h) (fun ys q u F1 H1 e1 s1 ry => ?_) fun _ z => z)
    obtain ⟨p1, o1, f1, f2, f3, ⟨ws, eo, rl1⟩, f5, f6⟩ := s1.own i _ _ hΓ
    subst eo
    have ep : p1 = p := by
      rw [g1] at f1
      injection f1 with f1
      injection f1 with f1
      injection f1 with f1
      exact f1.symm
    subst ep
    obtain ⟨q0, us, eu, hq0, ru⟩ := ry
    subst eu
    obtain ⟨hl, q⟩ := wpR_chk (wpR_bind q)
    refine ⟨p1, q0, ws, us, rfl, rfl, f3, s1.sub q0 _ hq0, by rw [← rl1.length, ← ru.length]; exact hl, ?_⟩
    exact (hr ys).out en F1 σ _ D (s1.mut hΓ f1 ⟨ws ++ us, rfl, rl1.append ru⟩) (wpR_mono q (fun o z => z.up e1) fun _ z => z.up e1))⟩
/-- .. gives up a dict -/
theorem s_giveD {ρ : Rp κ} {ky : Ky ρ} {π : Rp ν} {x : List (κ × ν)} {m : R ω} {a0 : Option Addr} (i : Nat) (hΓ : Γ[i]? = some (.own a0 (oD ky π x))) (hr : SX X U (Γ.set i (im (rD ky π) x)) sts I m) : SX X U Γ sts I m :=
  ⟨fun en F σ H D s h => by
    obtain ⟨p, o, h1, h2, h3, h4, h5, h6⟩ := s.own i _ _ hΓ
    obtain ⟨vs, e, r⟩ := h4
    subst e
    refine wSs_lock h3 trivial fun od => ?_
    have hi : i < Γ.length := (List.getElem?_eq_some_iff.mp hΓ).1
    have s1 := s.mut (o' := .frz od (.dT vs)) (P' := ⟨fun _ o => o = .frz od (.dT vs), fun _ h => h, fun h ws z => by rw [h] at z; cases z⟩) hΓ h1 rfl
    have g := s1.give (List.getElem?_set_self hi) h1 upd_same
    rw [List.set_set] at g
    have sf : Same F (upd F p (.frz od (.dT vs))) := Same.upd h2
    have hl : i < σ.length := by
      by_cases z : i < σ.length
      · exact z
      · rw [List.getElem?_eq_none (by omega)] at h1
        cases h1
    have rr : (rD ky π).rep x (upd F p (.frz od (.dT vs))) (.ref p) := ⟨p, vs, rfl, ⟨od, upd_same⟩, RepD.mono sf r⟩
    have g2 := SA.put (i := i) (P := ⟨fun H v => (rD ky π).rep x H v, fun e h => (rD ky π).mono e h⟩) (v := .ref p) g rr
    rw [List.set_set] at g2
    have e2 : σ.set i (some (.ref p)) = σ := by
      apply List.ext_getElem?
      intro j
      by_cases ej : i = j
      · subst ej
        rw [List.getElem?_set_self hl, h1]
      · rw [List.getElem?_set_ne ej]
    rw [e2] at g2
    exact hr.out en _ σ _ D g2 (wpR_mono h (fun o z => z.up sf) fun _ z => z.up sf)⟩

/-! ### dicts -/
theorem f_dict {ρ : Rp κ} {ky : Ky ρ} {π : Rp ν} : FX X U Γ (.Dict [] [] pos) (fun _ : Unit => oD ky π []) (.ok ()) :=
  ⟨fun en F σ H Q s h => wE_of pe_dnewT fun p hp => h p (.dT []) F _ (Same.refl F) (s.lay hp).1 (s.lay hp).2 ⟨[], rfl, .nil⟩⟩
/-- where a dict is read: in a slot of one's own, or known -/
structure DG (X : Cx) (U : Wi) (Γ : List Sl) (e : Expr) {κ ν : Type} {ρ : Rp κ} (ky : Ky ρ) (π : Rp ν) (m : R (List (κ × ν))) : Prop where
  out : ∀ en F σ H Q, SA en Γ F σ H → wpR m (fun w => ∀ p kvs F' H', Same F F' → SA en Γ F' σ H' → Rd H' p (.dT kvs) → RepD ky π F' w kvs → (∀ F2 H2, Same F' F2 → SA en Γ F2 σ H2 → ∃ kvs, Rd H2 p (.dT kvs) ∧ RepD ky π F2 w kvs) → Q (.ref p) H') (U.ok X.mg en F) → wE X e σ H Q
theorem d_imm {ρ : Rp κ} {ky : Ky ρ} {π : Rp ν} {m : R (List (κ × ν))} (h : EX X U Γ e (rD ky π) m) : DG X U Γ e ky π m :=
  ⟨fun en F σ H Q s q => h.out en F σ H Q s (wpR_mono q (fun w k v F' H' e1 s1 ⟨p, kvs, ev, ⟨od, hp⟩, r⟩ => by
    subst ev
    exact k p kvs F' H' e1 s1 (.inr ⟨od, s1.sub p _ hp⟩) r fun F2 H2 e2 s2 => ⟨kvs, .inr ⟨od, s2.sub p _ (e2 p _ hp)⟩, RepD.mono e2 r⟩) fun _ z => z)⟩
/-- a comparison by a rule of its own -/
structure CG (X : Cx) (U : Wi) (Γ : List Sl) (op : CmpOp) (a b : Expr) (m : R Bool) : Prop where
  out : ∃ t, PC X op a b t ∧ ∀ en F σ H Q, SA en Γ F σ H → wpR m (fun w => ∀ F' H', Same F F' → SA en Γ F' σ H' → Q (.bl w) H') (U.ok X.mg en F) → t σ H Q
theorem c_val {op : CmpOp} {m : R Bool} (h : CG X U Γ op a b m) (hm : behindInMarks op b = false := by first | exact nomark _ | rfl) : EX X U Γ (.Compare a [op] [b] pos) rB m := by
  obtain ⟨t, h1, h2⟩ := h.out
  exact ⟨fun en F σ H Q s q => wE_of (pe_cmp h1 hm) (h2 en F σ H Q s (wpR_mono q (fun w k F' H' e1 s1 => k _ F' H' e1 s1 rfl) fun _ z => z))⟩
theorem c_tst {op : CmpOp} {m : R Bool} (h : CG X U Γ op a b m) (hm : behindInMarks op b = false := by first | exact nomark _ | rfl) : BX X U Γ (.Compare a [op] [b] pos) m := by
  obtain ⟨t, h1, h2⟩ := h.out
  exact ⟨fun en F σ H Q s q => wT_of (pt_cmp h1 hm) (h2 en F σ H _ s (wpR_mono q (fun w k F' H' e1 s1 => ⟨w, rfl, k F' H' e1 s1⟩) fun _ z => z))⟩
theorem c_notN {α : Type} {ρ : Rp α} {m : R (Option α)} {j} {pos' : Pos} (hr : ∀ x F, ¬ ρ.rep x F .non) (ha : EX X U Γ a (rO ρ) m) : CG X U Γ .IsNot a (.Constant .none j pos') (m.bind fun x => .ok x.isSome) :=
  ⟨_, pc_notN wE_pe, fun en F σ H Q s h => ha.out en F σ H _ s (wpR_mono (wpR_bind h) (fun x k v F1 H1 e1 s1 r1 => by
    have k' := k F1 H1 e1 s1
    cases x with
    | none =>
      rw [show v = .non from r1]
      exact k'
    | some x =>
      have : v ≠ .non := fun z => hr x F1 (by rw [← z]; exact r1)
      show Q (V.bl (!decide (v = .non))) H1
      rw [decide_eq_false this]
      exact k') fun _ z => z)⟩
theorem dget_ok [DecidableEq κ] {ρ : Rp κ} {ky : Ky ρ} {π : Rp ν} {x : List (κ × ν)} {kvs : List (List Key × V)} {k : κ} {v : V} {p : Addr} {F H : Hp} (hp : Rd H p (.dT kvs)) (r : RepD ky π F x kvs) (rk : ρ.rep k H v) :
    ∃ o, DGet H p v o ∧ o.isSome = (dGet x k).isSome ∧ ∀ y, dGet x k = some y → ∃ w, o = some w ∧ π.rep y F w := by
  obtain ⟨b, ev, hb⟩ := ky.rep k H v rk
  subst ev
  refine ⟨_, .inr ⟨kvs, _, b, hp, rfl, hb, rfl⟩, ?_, ?_⟩
  · have g := r.get k
    cases h : dGet x k with
    | none =>
      rw [h] at g
      rw [g] <;> rfl
    | some y =>
      rw [h] at g
      obtain ⟨w, hw, _⟩ := g
      rw [hw] <;> rfl
  · intro y h
    have g := r.get k
    rw [h] at g
    exact g
theorem c_in [DecidableEq κ] {ρ : Rp κ} {ky : Ky ρ} {π : Rp ν} {mk : R κ} {md : R (List (κ × ν))} (hu : X.A.units + 1 < cLine) (ha : EX X U Γ a ρ mk) (hd : DG X U Γ b ky π md) : CG X U Γ .In a b (mk.bind fun k => md.bind fun d => .ok (dGet d k).isSome) :=
  ⟨_, pc_din hu wE_pe wE_pe, fun en F σ H Q s h => ha.out en F σ H _ s (wpR_mono (wpR_bind h) (fun k q v F1 H1 e1 s1 r1 => hd.out en F1 σ H1 _ s1 (wpR_mono (wpR_bind q) (fun d q p kvs F2 H2 e2 s2 hp r2 _ => by
    obtain ⟨o, g1, g2, _⟩ := dget_ok hp r2 (ρ.mono (e2.trans s2.sub) r1)
    exact ⟨p, o, rfl, g1, by rw [g2]; exact q F2 H2 (e1.trans e2) s2⟩) fun _ z => z.up e1)) fun _ z => z)⟩
theorem c_nin [DecidableEq κ] {ρ : Rp κ} {ky : Ky ρ} {π : Rp ν} {mk : R κ} {md : R (List (κ × ν))} (hu : X.A.units + 1 < cLine) (ha : EX X U Γ a ρ mk) (hd : DG X U Γ b ky π md) : CG X U Γ .NotIn a b (mk.bind fun k => md.bind fun d => .ok !(dGet d k).isSome) :=
  ⟨_, pc_dnotin hu wE_pe wE_pe, fun en F σ H Q s h => ha.out en F σ H _ s (wpR_mono (wpR_bind h) (fun k q v F1 H1 e1 s1 r1 => hd.out en F1 σ H1 _ s1 (wpR_mono (wpR_bind q) (fun d q p kvs F2 H2 e2 s2 hp r2 _ => by
    obtain ⟨o, g1, g2, _⟩ := dget_ok hp r2 (ρ.mono (e2.trans s2.sub) r1)
    exact ⟨p, o, rfl, g1, by rw [g2]; exact q F2 H2 (e1.trans e2) s2⟩) fun _ z => z.up e1)) fun _ z => z)⟩
theorem x_dget [DecidableEq κ] {ρ : Rp κ} {ky : Ky ρ} {π : Rp ν} {mk : R κ} {md : R (List (κ × ν))} (hu : X.A.units + 1 < cLine) (hd : DG X U Γ a ky π md) (hb : EX X U Γ b ρ mk) (hs : NoSl b := by exact fun _ => rfl) : EX X U Γ (.Subscript a b pos) π (md.bind fun d => mk.bind fun k => ofOpt (dGet d k)) :=
  ⟨fun en F σ H Q s h => wE_of (pe_dget hu wE_pe wE_pe hs) (hd.out en F σ H _ s (wpR_mono (wpR_bind h) (fun d q p kvs F1 H1 e1 s1 hp r1 st => hb.out en F1 σ H1 _ s1 (wpR_mono (wpR_bind q) (fun k q v F2 H2 e2 s2 r2 => by
    obtain ⟨y, hy, q⟩ := wpR_opt q
    obtain ⟨kvs2, hp2, r3⟩ := st F2 H2 e2 s2
    obtain ⟨o, g1, _, g3⟩ := dget_ok hp2 r3 (ρ.mono s2.sub r2)
    obtain ⟨w, ew, rw'⟩ := g3 y hy
    subst ew
    exact ⟨p, w, rfl, g1, q w F2 H2 (e1.trans e2) s2 rw'⟩) fun _ z => z.up e1)) fun _ z => z))⟩
/-- d[k] = v, d in slot i -/
theorem s_dput [DecidableEq κ] {ρ : Rp κ} {ky : Ky ρ} {π : Rp ν} {x : List (κ × ν)} {mk : R κ} {mv : R ν} {k : ν → κ → R ω} {p p' : Pos} (i : Nat) (hu : X.A.units + 1 < cLine) (hv : EX X U Γ e π mv) (hk : EX X U Γ a ρ mk)
    (hr : ∀ v y, SX X U (Γ.set i (.own a0 (oD ky π (dPut x y v)))) rest I (k v y)) (hΓ : Γ[i]? = some (.own a0 (oD ky π x)) := by rfl) (hN : X.N[i]? = some n := by rfl) (hvi : Vis X.env.scope n := by first | exact Or.inl rfl | exact Or.inr (Or.inl rfl) | exact Or.inr (Or.inr rfl))
    (hd : (n == ("__debug__" : Str)) = false := by decide) (hcd : (n == ("__classdict__" : Str)) = false := by decide) (hs : swapsWith e (some (.Subscript (.Name n p) a p')) pos.line X.env = pure false := by rfl) :
    SX X U Γ (.Assign [.Subscript (.Name n p) a p'] e pos :: rest) I (mv.bind fun v => mk.bind fun y => (chk (x.length < sizeLine) ()).bind fun _ => k v y) :=
  ⟨fun en F σ H D s h => wSs_of (pss_cons (ps_dput hu (pe_var hN hvi hd hcd) wE_pe wE_pe hs) wSs_pss) (hv.out en F σ H _ s (wpR_mono (wpR_bind h) (fun v q w F1 H1 e1 s1 r1 => by
    obtain ⟨p, o, g1, g2, g3, ⟨kvs, eo, r⟩, g5, g6⟩ := s1.own i _ _ hΓ
    refine ⟨.ref p, g1, hk.out en F1 σ H1 _ s1 (wpR_mono (wpR_bind q) (fun y q u F2 H2 e2 s2 r2 => ?_) fun _ z => z.up e1)⟩
    obtain ⟨p2, o2, f1, f2, f3, ⟨kvs2, eo2, r3⟩, f5, f6⟩ := s2.own i _ _ hΓ
    subst eo2
    rw [g1] at f1
    injection f1 with f1
    injection f1 with f1
    injection f1 with f1
    subst f1
    obtain ⟨hl, q⟩ := wpR_chk (wpR_bind q)
    obtain ⟨b, eu, hb⟩ := ky.rep y H2 u (ρ.mono s2.sub r2)
    subst eu
    refine ⟨p, _, rfl, DPut.t f3 hb (by rw [← r3.length]; exact hl), ?_⟩
    exact (hr v y).out en F2 σ _ D (s2.mut hΓ g1 ⟨_, rfl, r3.put (π.mono e2 r1)⟩) (wpR_mono q (fun o z => z.up (e1.trans e2)) fun _ z => z.up (e1.trans e2))) fun _ z => z))⟩
end

/-! ### sorted(set(..)) of cells: see the part on sets -/
/-- the order of cells -/
def ltC (a b : Int × Int) : Bool := decide (a.1 < b.1 ∨ (a.1 = b.1 ∧ a.2 < b.2))
/-- put in its place, once -/
def insC (x : Int × Int) : List (Int × Int) → List (Int × Int)
  | [] => [x]
  | y :: r => if ltC x y = true then x :: y :: r else if x = y then y :: r else y :: insC x r
/-- the rising list of these cells -/
def rise (xs : List (Int × Int)) : List (Int × Int) := xs.foldr insC []
end Py

/-! Own layer, part S: sets of tuples of ints of any size below 9800, of a list or a tuple. The library's own rule ends at 64; here the table may have any power of two of slots. -/
namespace Py
open PySem PySem.Spec PyProof.Rows L2

/-! ### i -> 5 i + 1 meets every slot of a table of 2^k -/
def sN : Nat → Nat
  | 0 => 0
  | b + 1 => 5 * sN b + 1
theorem sN_add (a : Nat) : ∀ b, sN (a + b) = 5 ^ b * sN a + sN b
  | 0 => by simp [sN]
  | b + 1 => by
    show 5 * sN (a + b) + 1 = 5 ^ (b + 1) * sN a + (5 * sN b + 1)
    rw [sN_add a b, Nat.pow_succ, Nat.mul_add, Nat.mul_comm (5 ^ b) 5, Nat.mul_assoc, Nat.add_assoc]
theorem sN_four : ∀ a, 5 ^ a = 4 * sN a + 1
  | 0 => rfl
  | a + 1 => by
    rw [Nat.pow_succ, sN_four a]
    show (4 * sN a + 1) * 5 = 4 * (5 * sN a + 1) + 1
    omega
theorem sN_pow : ∀ k, ∃ q, sN (2 ^ k) = 2 ^ k * (2 * q + 1)
  | 0 => ⟨0, rfl⟩
  | k + 1 => by
    obtain ⟨q, e⟩ := sN_pow k
    have h : sN (2 ^ (k + 1)) = (2 * sN (2 ^ k)) * (2 * sN (2 ^ k) + 1) := by
      rw [Nat.pow_succ, Nat.mul_two, sN_add, sN_four]
      generalize sN (2 ^ k) = x
      rw [Nat.mul_add, Nat.add_mul, Nat.mul_one, Nat.one_mul, show 2 * x * (2 * x) = 4 * x * x by rw [← Nat.mul_assoc, Nat.mul_comm (2 * x) 2, ← Nat.mul_assoc]]
      omega
    refine ⟨2 * (2 ^ k * (2 * q + 1)) * q + 2 ^ k * (2 * q + 1) + q, ?_⟩
    rw [h, e]
    generalize hr : 2 ^ k * (2 * q + 1) = r
    have e1 : 2 * r = 2 ^ (k + 1) * (2 * q + 1) := by rw [← hr, Nat.pow_succ, Nat.mul_comm (2 ^ k) 2, Nat.mul_assoc]
    rw [e1, Nat.mul_assoc]
    congr 1
    rw [← e1, Nat.mul_add, Nat.mul_one, Nat.add_mul, Nat.one_mul]
    have e2 : 2 * q * (2 * r) = 2 * (2 * r * q) := by rw [Nat.mul_comm (2 * q), Nat.mul_left_comm]
    omega
theorem mod_two {M y j : Nat} (h : j < M) : (M * y + j) % (2 * M) = M * (y % 2) + j := by
  have e : M * y + j = (2 * M) * (y / 2) + (M * (y % 2) + j) := by
    have d := Nat.div_add_mod y 2
    have e1 : M * y = M * (2 * (y / 2)) + M * (y % 2) := by rw [← Nat.mul_add, d]
    rw [e1, show M * (2 * (y / 2)) = 2 * M * (y / 2) by rw [Nat.mul_comm 2 M, Nat.mul_assoc], Nat.add_assoc]
  rw [e, Nat.mul_add_mod]
  refine Nat.mod_eq_of_lt ?_
  have z : y % 2 < 2 := Nat.mod_lt _ (by decide)
  rcases (show y % 2 = 0 ∨ y % 2 = 1 by omega) with q | q <;> rw [q] <;> omega
theorem sN_hit : ∀ k j, j < 2 ^ k → ∃ b, b < 2 ^ k ∧ sN b % 2 ^ k = j
  | 0, j, h => ⟨0, Nat.one_pos, by
    have : j = 0 := Nat.lt_one_iff.mp h
    rw [this] <;> rfl⟩
  | k + 1, j, h => by
    have M0 : 0 < 2 ^ k := Nat.pow_pos (by decide)
    obtain ⟨b, hb, e⟩ := sN_hit k (j % 2 ^ k) (Nat.mod_lt _ M0)
    obtain ⟨q, eq⟩ := sN_pow k
    have hp : 2 ^ (k + 1) = 2 * 2 ^ k := by rw [Nat.pow_succ, Nat.mul_comm]
    rw [hp] at h ⊢
    generalize hM : 2 ^ k = M at *
    have jlt : j % M < M := Nat.mod_lt _ M0
    have ej : j = M * (j / M) + j % M := (Nat.div_add_mod j M).symm
    have jd : j / M < 2 := Nat.div_lt_of_lt_mul (by rw [Nat.mul_comm]; exact h)
    have ex : sN b = M * (sN b / M) + j % M := by
      have z := Nat.div_add_mod (sN b) M
      rw [e] at z
      exact z.symm
    by_cases c : (sN b / M) % 2 = j / M
    · refine ⟨b, by omega, ?_⟩
      rw [ex, mod_two jlt, c, ← ej]
    · refine ⟨M + b, by omega, ?_⟩
      have odd : sN (M + b) = M * ((4 * sN b + 1) * (2 * q + 1) + sN b / M) + j % M := by
        rw [sN_add, sN_four, eq, Nat.mul_left_comm, Nat.mul_add M, Nat.add_assoc, ← ex]
      rw [odd, mod_two jlt]
      have o2 : ((4 * sN b + 1) * (2 * q + 1) + sN b / M) % 2 = j / M := by
        have o1 : ((4 * sN b + 1) * (2 * q + 1)) % 2 = 1 := by
          rw [Nat.mul_mod]
          have a1 : (4 * sN b + 1) % 2 = 1 := by omega
          have a2 : (2 * q + 1) % 2 = 1 := by omega
          rw [a1, a2]
        generalize (4 * sN b + 1) * (2 * q + 1) = u at o1 ⊢
        generalize sN b / M = v at c ⊢
        generalize j / M = y at c jd ⊢
        omega
      rw [o2, ← ej]
theorem lcg_sN (m : Nat) : ∀ b, lcgN m b = sN b % (m + 1)
  | 0 => rfl
  | b + 1 => by
    show (lcgN m b * 5 + 1) % (m + 1) = (5 * sN b + 1) % (m + 1)
    rw [lcg_sN m b, Nat.mul_comm, Nat.add_mod, Nat.mul_mod, Nat.mod_mod, ← Nat.mul_mod, ← Nat.add_mod]
/-- the masks of tables of up to 32768 slots -/
def MB (m : Nat) : Prop := ∃ k, (k = 3 ∨ k = 5 ∨ k = 7 ∨ k = 9 ∨ k = 11 ∨ k = 13 ∨ k = 15) ∧ m + 1 = 2 ^ k
theorem MB.le {m : Nat} (h : MB m) : 7 ≤ m ∧ m ≤ 32767 ∧ m % 2 = 1 := by
  obtain ⟨k, c, e⟩ := h
  rcases c with c | c | c | c | c | c | c <;> subst c <;> simp at e <;> omega
theorem MB.cases {m : Nat} (h : MB m) : m = 7 ∨ m = 31 ∨ m = 127 ∨ m = 511 ∨ m = 2047 ∨ m = 8191 ∨ m = 32767 := by
  obtain ⟨k, c, e⟩ := h
  rcases c with c | c | c | c | c | c | c <;> subst c <;> simp at e <;> omega
theorem mb7 : MB 7 := ⟨3, by decide, rfl⟩
theorem mb31 : MB 31 := ⟨5, by decide, rfl⟩
theorem mb127 : MB 127 := ⟨7, by decide, rfl⟩
theorem mb511 : MB 511 := ⟨9, by decide, rfl⟩
theorem mb2047 : MB 2047 := ⟨11, by decide, rfl⟩
theorem mb8191 : MB 8191 := ⟨13, by decide, rfl⟩
theorem mb32767 : MB 32767 := ⟨15, by decide, rfl⟩
/-- a table that becomes too full is made four times as large -/
theorem grows {m n : Nat} (h : MB m) (h1 : m * 3 ≤ (n + 1) * 5) (h2 : n * 5 < m * 3) (h3 : n < 9800) : ∃ M, SetTable.sizeAbove (SetTable.grown (n + 1)) = M + 1 ∧ MB M ∧ (n + 1) * 5 < M * 3 := by
  rcases h.cases with e | e | e | e | e | e | e <;> subst e
  · obtain rfl : n = 4 := by omega
    exact ⟨31, by decide +kernel, mb31, by decide⟩
  · obtain rfl : n = 18 := by omega
    exact ⟨127, by decide +kernel, mb127, by decide⟩
  · obtain rfl : n = 76 := by omega
    exact ⟨511, by decide +kernel, mb511, by decide⟩
  · obtain rfl : n = 306 := by omega
    exact ⟨2047, by decide +kernel, mb2047, by decide⟩
  · obtain rfl : n = 1228 := by omega
    exact ⟨8191, by decide +kernel, mb8191, by decide⟩
  · obtain rfl : n = 4914 := by omega
    exact ⟨32767, by decide +kernel, mb32767, by decide⟩
  · omega
theorem lcg_turn {m : Nat} (hm : MB m) (b : Nat) : lcgN m (m + 1 + b) = lcgN m b := by
  obtain ⟨k, _, e⟩ := hm
  obtain ⟨q, eq⟩ := sN_pow k
  rw [lcg_sN, lcg_sN, sN_add, e, eq, Nat.mul_left_comm, Nat.mul_add_mod]
theorem lcg_meets {m i j : Nat} (hm : MB m) (hi : i ≤ m) (hj : j ≤ m) : ∃ n, n ≤ m ∧ lcgI m i n = j := by
  have hm' := hm
  obtain ⟨k, _, e⟩ := hm
  obtain ⟨a, ha, ea⟩ := sN_hit k i (by omega)
  obtain ⟨b, hb, eb⟩ := sN_hit k j (by omega)
  rw [← e] at ha ea hb eb
  rw [← lcg_sN] at ea eb
  subst ea
  by_cases c : a ≤ b
  · exact ⟨b - a, by omega, by rw [lcgN_add, Nat.add_sub_cancel' c, eb]⟩
  · exact ⟨b + (m + 1) - a, by omega, by rw [lcgN_add, show a + (b + (m + 1) - a) = m + 1 + b by omega, lcg_turn hm', eb]⟩
theorem slot_run {m j : Nat} (hm : MB m) (h : Int) (hj : j ≤ m) : ∃ n, n ≤ m + 12 ∧ runI m (SetTable.bits h) n = j := by
  obtain ⟨n, hn, e⟩ := lcg_meets hm (runI_le m (SetTable.bits h) 12) hj
  exact ⟨12 + n, Nat.add_comm m 12 ▸ Nat.add_le_add_left hn 12, (runI_tail (bits_lt h) n).trans e⟩
theorem way_in (m : Nat) (h : Int) (k : Nat) : way m h k ≤ m := by
  have i0 : SetTable.bits h % (m + 1) ≤ m := Nat.le_of_lt_succ (Nat.mod_lt _ (Nat.succ_pos _))
  have z : (runAt m (SetTable.bits h % (m + 1)) (SetTable.bits h)).j + (runAt m (SetTable.bits h % (m + 1)) (SetTable.bits h)).more ≤ m := by
    have r := runEnd_bd i0
    simp only [runAt]
    omega
  have q := nth_in k _ z
  exact Nat.le_trans (Nat.le_add_right _ _) q
theorem way_meets {m j : Nat} (hm : MB m) (h : Int) (hj : j ≤ m) : ∃ k, k < 10 * SetTable.turns m ∧ way m h k = j := by
  obtain ⟨n, hn, e⟩ := slot_run hm h hj
  obtain ⟨k, hk, e2⟩ := run_nth m (SetTable.bits h) n
  exact ⟨k, by simp only [SetTable.turns]; omega, (congrArg SetTable.Probe.j e2).trans e⟩
theorem lcg_inj {m a b : Nat} (hm : MB m) (ha : a ≤ m) (hb : b ≤ m) (e : lcgN m a = lcgN m b) : a = b := by
  obtain ⟨k, _, em⟩ := hm
  have pl : ((List.range (m + 1)).map (lcgN m)).Perm (List.range (m + 1)) := perm_range (m + 1) _ (by simp) fun j hj => by
    obtain ⟨x, hx, ex⟩ := sN_hit k j (by omega)
    exact List.mem_map.mpr ⟨x, List.mem_range.mpr (by omega), by rw [lcg_sN, em, ex]⟩
  have nd : ((List.range (m + 1)).map (lcgN m)).Nodup := pl.nodup_iff.mpr List.nodup_range
  have pw : ∀ x y, x < y → y ≤ m → lcgN m x ≠ lcgN m y := fun x y h1 h2 => by
    have z := List.pairwise_iff_getElem.mp nd x y (by simp; omega) (by simp; omega) h1
    simpa using z
  rcases Nat.lt_trichotomy a b with c | c | c
  · exact absurd e (pw a b c hb)
  · exact c
  · exact absurd e.symm (pw b a c ha)
theorem lcg_off {m i x y : Nat} (hm : MB m) (hi : i ≤ m) (hx : x ≤ m) (hy : y ≤ m) (e : lcgI m i x = lcgI m i y) : x = y := by
  have hm' := hm
  obtain ⟨k, _, em⟩ := hm
  obtain ⟨a, ha, ea⟩ := sN_hit k i (by omega)
  rw [← em] at ha ea
  rw [← lcg_sN] at ea
  subst ea
  rw [lcgN_add, lcgN_add] at e
  have r : ∀ z, z ≤ m → ∃ w, w ≤ m ∧ lcgN m (a + z) = lcgN m w ∧ (w = a + z ∨ w + (m + 1) = a + z) := fun z hz => by
    by_cases c : a + z ≤ m
    · exact ⟨a + z, c, rfl, .inl rfl⟩
    · refine ⟨a + z - (m + 1), by omega, ?_, .inr (by omega)⟩
      have t := lcg_turn hm' (a + z - (m + 1))
      rw [show m + 1 + (a + z - (m + 1)) = a + z by omega] at t
      exact t
  obtain ⟨u, u1, u2, u3⟩ := r x hx
  obtain ⟨v, v1, v2, v3⟩ := r y hy
  have := lcg_inj hm' u1 v1 (by rw [← u2, ← v2, e])
  omega
/-- few slots taken: few steps -/
theorem few_steps {m K : Nat} (hm : MB m) (h : Int) {ps : List Nat} (hl : ps.length ≤ m) (full : ∀ k, k < K → way m h k ∈ ps) : K ≤ 10 * (12 + ps.length) := by
  refine Classical.byContradiction fun no => ?_
  have i12 := runI_le m (SetTable.bits h) 12
  have nd : ((List.range (ps.length + 1)).map fun n => runI m (SetTable.bits h) (12 + n)).Nodup := by
    rw [List.Nodup, List.pairwise_map, List.pairwise_iff_getElem]
    intro x y hx hy lt z
    simp only [List.length_range] at hx hy
    rw [List.getElem_range, List.getElem_range, runI_tail (bits_lt h), runI_tail (bits_lt h)] at z
    have := lcg_off hm i12 (by omega) (by omega) z
    omega
  have z := nat_nodup_len _ ps nd fun x hx => by
    obtain ⟨n, hn, rfl⟩ := List.mem_map.mp hx
    have hn := List.mem_range.mp hn
    obtain ⟨k, hk, e2⟩ := run_nth m (SetTable.bits h) (12 + n)
    have w : way m h k = runI m (SetTable.bits h) (12 + n) := congrArg SetTable.Probe.j e2
    rw [← w]
    exact full k (by omega)
  rw [List.length_map, List.length_range] at z
  omega

/-! ### a table in which each hash finds its slot again -/
structure TB (t : SetTable) (hs : List Int) : Prop where
  up : Ris t.place.toList
  nod : t.dummies = #[]
  len : t.place.size = hs.length
  msk : MB t.mask
  low : ∀ x ∈ t.place.toList, x ≤ t.mask
  met : ∀ (i : Nat) (h : Int) (j : Nat), hs[i]? = some h → t.place.toList[i]? = some j → ∃ k, way t.mask h k = j ∧ ∀ n, n < k → way t.mask h n ∈ t.place.toList
/-- the way of h ends at step K, the first that is free -/
structure Ends (t : SetTable) (h : Int) (K : Nat) : Prop where
  free : way t.mask h K ∉ t.place.toList
  full : ∀ k, k < K → way t.mask h k ∈ t.place.toList
theorem TB.ends {t : SetTable} {hs : List Int} (T : TB t hs) (hl : hs.length ≤ t.mask) (h : Int) : ∃ K, K < 10 * SetTable.turns t.mask ∧ Ends t h K := by
  obtain ⟨j, j1, j2⟩ := st_missing t.place.toList (t.mask + 1) (by rw [Array.length_toList, T.len]; omega)
  obtain ⟨k, k1, rfl⟩ := way_meets T.msk h (Nat.le_of_lt_succ j1)
  obtain ⟨K, a, b, c⟩ := st_least (p := fun k => way t.mask h k ∉ t.place.toList) k j2
  exact ⟨K, Nat.lt_of_le_of_lt a k1, b, fun n hn => Classical.byContradiction fun z => c n hn z⟩
theorem TB.ahead {t : SetTable} {hs : List Int} (T : TB t hs) {h : Int} {K i j : Nat} (e : Ends t h K) (hi : hs[i]? = some h) (hj : t.place.toList[i]? = some j) : ∃ k, k < K ∧ way t.mask h k = j := by
  obtain ⟨k, rfl, q⟩ := T.met i h j hi hj
  refine ⟨k, Classical.byContradiction fun z => ?_, rfl⟩
  rcases Nat.lt_or_eq_of_le (Nat.not_lt.mp z) with c | c
  · exact e.free (q K c)
  · exact e.free (c ▸ List.mem_of_getElem? hj)
/-- where in a row of slots j would stand -/
abbrev bel (t : SetTable) (j : Nat) : Nat := SetTable.below t.place j
structure PutOk (t : SetTable) (hs : List Int) (h : Int) (j : Nat) : Prop where
  at_ : (t.put j).2 = bel t j
  le : bel t j ≤ hs.length
  tab : TB (t.put j).1 (hs.take (bel t j) ++ h :: hs.drop (bel t j))
  msk : (t.put j).1.mask = t.mask
  led : (t.put j).1.led = t.led
  pla : (t.put j).1.plain = t.plain
  fil : (t.put j).1.fill = hs.length + 1
theorem TB.put {t : SetTable} {hs : List Int} (T : TB t hs) {h : Int} {K : Nat} (e : Ends t h K) : PutOk t hs h (way t.mask h K) := by
  have jm := way_in t.mask h K
  generalize ej : way t.mask h K = j at jm
  have free : j ∉ t.place.toList := ej ▸ e.free
  have cut := (below_cut T.up j).1
  have l1 : bel t j ≤ t.place.toList.length := by rw [Array.length_toList]; exact cut
  have l2 : bel t j ≤ hs.length := T.len ▸ cut
  have len : t.place.toList.length = hs.length := (Array.length_toList).trans T.len
  have pl := put_place t j
  have size : (t.put j).1.place.size = hs.length + 1 := by
    have z := congrArg List.length pl
    rw [len_ins _ l1, len, Array.length_toList] at z
    exact z
  have keep : ∀ x, x ∈ t.place.toList → x ∈ (t.put j).1.place.toList := fun x hx => pl ▸ mem_ins.2 (.inr hx)
  refine ⟨rfl, l2, ⟨ris_insert T.up fun z => free (List.mem_of_getElem? ((Array.getElem?_toList ..).trans z)), put_dm T.nod j, size.trans (len_ins _ l2 h).symm, T.msk, ?_, ?_⟩, rfl, rfl, rfl, ?_⟩
  · intro x hx
    rw [pl] at hx
    exact (mem_ins.1 hx).elim (fun z => z ▸ jm) (T.low x)
  · intro i g y g1 g2
    rw [tins_get hs l2] at g1
    rw [pl, tins_get _ l1] at g2
    have old : ∀ i', hs[i']? = some g → t.place.toList[i']? = some y → ∃ k, way t.mask g k = y ∧ ∀ n, n < k → way t.mask g n ∈ (t.put j).1.place.toList := fun i' a b => by
      obtain ⟨k, c, d⟩ := T.met i' g y a b
      exact ⟨k, c, fun n hn => keep _ (d n hn)⟩
    split at g1 <;> rename_i c
    · rw [if_pos c] at g2
      exact old i g1 g2
    · rw [if_neg c] at g2
      split at g1 <;> rename_i d
      · rw [if_pos d] at g2
        cases g1
        cases g2
        exact ⟨K, ej, fun n hn => keep _ (e.full n hn)⟩
      · rw [if_neg d] at g2
        exact old (i - 1) g1 g2
  · show (t.put j).1.place.size + (t.put j).1.dummies.size = _
    rw [put_dm T.nod j, size]
    rfl

/-! ### the table laid anew -/
theorem free_way {m j : Nat} (hm : MB m) (owner : Array (Option Nat)) (h : Int) (hj : j ≤ m) (hf : oAt owner j = none) :
    ∃ K, SetTable.layClean.free m owner (SetTable.turns m) (SetTable.bits h % (m + 1)) (SetTable.bits h) = some (way m h K) ∧ oAt owner (way m h K) = none ∧ ∀ k, k < K → oAt owner (way m h k) ≠ none := by
  obtain ⟨n, n1, rfl⟩ := slot_run hm h hj
  have e : way m h (off m (SetTable.bits h % (m + 1)) (SetTable.bits h) n) = runI m (SetTable.bits h) n := by
    show (nth m _ _).j = _
    rw [nth_off, itL_run]
    rfl
  obtain ⟨K, a, b, c⟩ := st_least (p := fun k => oAt owner (way m h k) = none) _ (e ▸ hf : oAt owner (way m h (off m (SetTable.bits h % (m + 1)) (SetTable.bits h) n)) = none)
  refine ⟨K, free_spec m owner (SetTable.turns m) n _ _ K (by simp only [SetTable.turns]; omega) a (fun k hk => ?_) ?_, b, c⟩
  · have z := c k hk
    cases y : oAt owner (way m h k) with
    | none => exact absurd y z
    | some v => rfl
  · exact (congrArg Option.isNone b : _)
theorem own_step {m : Nat} (hm : MB m) {done : List Int} {owner : Array (Option Nat)} (W : Own m done owner) (hl : done.length ≤ m) (h : Int) :
    ∃ j, SetTable.layClean.free m owner (SetTable.turns m) (SetTable.bits h % (m + 1)) (SetTable.bits h) = some j ∧ Own m (done ++ [h]) (owner.setIfInBounds j (some done.length)) := by
  obtain ⟨ps, p1, p2⟩ := W.ps
  obtain ⟨i, i1, i2⟩ := st_missing ps (m + 1) (p1 ▸ Nat.lt_succ_of_le hl)
  have hi : oAt owner i = none := Classical.byContradiction fun z => i2 (p2 i (Nat.le_of_lt_succ i1) z)
  obtain ⟨K, a, b, c⟩ := free_way hm owner h (Nat.le_of_lt_succ i1) hi
  have jm := way_in m h K
  refine ⟨_, a, ?_⟩
  generalize ej : way m h K = j at b jm
  have new : oAt (owner.setIfInBounds j (some done.length)) j = some done.length := oAt_set_self _ (by rw [W.sz]; omega)
  have old : ∀ x, x ≠ j → oAt (owner.setIfInBounds j (some done.length)) x = oAt owner x := fun x hx => oAt_set_ne _ hx
  have still : ∀ x, oAt owner x ≠ none → oAt (owner.setIfInBounds j (some done.length)) x ≠ none := fun x hx => by
    rw [old x fun z => hx (z ▸ b)]
    exact hx
  constructor
  · simpa using W.sz
  · intro x k hx e
    by_cases q : x = j
    · subst q
      rw [new] at e
      cases e
      exact ⟨h, K, by simp, ej, fun n hn => still _ (c n hn)⟩
    · rw [old x q] at e
      obtain ⟨g, G, g1, g2, g3⟩ := W.at_ x k hx e
      exact ⟨g, G, by rw [List.getElem?_append_left (List.getElem?_eq_some_iff.mp g1).1, g1], g2, fun n hn => still _ (g3 n hn)⟩
  · intro k hk
    rcases Nat.lt_or_ge k done.length with q | q
    · obtain ⟨x, x1, x2⟩ := W.all k q
      exact ⟨x, x1, by rw [old x fun z => (by rw [z, b] at x2; cases x2)]; exact x2⟩
    · simp at hk
      exact ⟨j, jm, by rw [new, show k = done.length by omega]⟩
  · refine ⟨j :: ps, by simp [p1], fun x hx e => ?_⟩
    by_cases q : x = j
    · exact q ▸ List.mem_cons_self
    · rw [old x q] at e
      exact List.mem_cons_of_mem _ (p2 x hx e)
theorem own_fold {m : Nat} (hm : MB m) : ∀ (rest done : List Int) (owner : Array (Option Nat)), Own m done owner → done.length + rest.length ≤ m →
    ∃ o2, rest.foldl (stepF m) (some (owner, done.length)) = some (o2, done.length + rest.length) ∧ Own m (done ++ rest) o2
  | [], done, owner, W, _ => ⟨owner, rfl, (List.append_nil done).symm ▸ W⟩
  | h :: rest, done, owner, W, hl => by
    simp only [List.length_cons] at hl ⊢
    obtain ⟨j, a, W2⟩ := own_step hm W (by omega) h
    have z := own_fold hm rest _ _ W2 (by simp; omega)
    obtain ⟨o2, b, c⟩ := z
    simp only [List.length_append, List.length_cons, List.length_nil, Nat.zero_add, List.append_assoc, List.cons_append, List.nil_append] at b c
    refine ⟨o2, ?_, c⟩
    rw [List.foldl_cons, stepF_some a, b, show done.length + 1 + rest.length = done.length + (rest.length + 1) by omega]
theorem own_clean {m : Nat} (hm : MB m) {hs : Array Int} (hn : hs.size ≤ m) : ∃ owner, SetTable.layClean m hs = some owner ∧ Own m hs.toList owner := by
  obtain ⟨o, a, b⟩ := own_fold hm hs.toList [] _ (Own.init m) (by simpa using hn)
  refine ⟨o, ?_, b⟩
  rw [layClean_eq]
  exact congrArg (Option.map Prod.fst) a
structure Relaid (t : SetTable) (hs : Array Int) (wanted M : Nat) (t2 : SetTable) (ord : Array Nat) : Prop where
  eq : t.relaid hs wanted = some (t2, ord)
  perm : ord.toList.Perm (List.range hs.size)
  tab : TB t2 (ord.toList.map fun i => hs.getD i 0)
  msk : t2.mask = M
  led : t2.led = t.led
  pla : t2.plain = t.plain
theorem relaid_tb (t : SetTable) {hs : Array Int} {wanted M : Nat} (hw : SetTable.sizeAbove wanted - 1 = M) (hM : MB M) (hn : hs.size ≤ M) : ∃ t2 ord, Relaid t hs wanted M t2 ord := by
  obtain ⟨owner, a, W⟩ := own_clean hM hn
  have ris := ris_live (fun j => owner.getD j none) (List.range (M + 1)) (show List.Pairwise _ _ from List.pairwise_lt_range)
  have r1 : Ris ((liveOf M owner).map Prod.fst) := ris.1
  have nd : ((liveOf M owner).map Prod.fst).Nodup := r1.imp Nat.ne_of_lt
  have inl : ∀ j k, (j, k) ∈ liveOf M owner ↔ j ≤ M ∧ oAt owner j = some k := fun j k => mem_live W.sz
  have all2 : ∀ k, k < hs.size → k ∈ (liveOf M owner).map Prod.snd := fun k hk => by
    obtain ⟨j, j1, j2⟩ := W.all k (by simpa using hk)
    exact List.mem_map.mpr ⟨_, (inl j k).2 ⟨j1, j2⟩, rfl⟩
  have len : (liveOf M owner).length = hs.size := by
    obtain ⟨ps, p1, p2⟩ := W.ps
    have u := nat_nodup_len _ ps nd fun x hx => by
      obtain ⟨⟨y, k⟩, q, rfl⟩ := List.mem_map.mp hx
      have z := (inl y k).1 q
      exact p2 y z.1 (by rw [z.2]; exact fun h => nomatch h)
    have v := nat_nodup_len (List.range hs.size) _ List.nodup_range fun k hk => all2 k (List.mem_range.mp hk)
    simp only [List.length_map, List.length_range] at u v
    have e : hs.toList.length = hs.size := Array.length_toList
    omega
  refine ⟨tabOf t M owner, ((liveOf M owner).map Prod.snd).toArray, ?_, ?_, ⟨r1, rfl, ?_, hM, ?_, ?_⟩, rfl, rfl, rfl⟩
  · rw [relaid_eq, hw, a]
    rfl
  · exact perm_range hs.size _ (by rw [List.length_map, len]) all2
  · simp [tabOf]
  · intro x hx
    exact Nat.le_of_lt_succ (List.mem_range.mp (ris.2 x hx))
  · intro i h j g1 g2
    change (((liveOf M owner).map Prod.snd).map fun i => hs.getD i 0)[i]? = some h at g1
    change ((liveOf M owner).map Prod.fst)[i]? = some j at g2
    rw [List.getElem?_map, List.getElem?_map] at g1
    rw [List.getElem?_map] at g2
    cases q : (liveOf M owner)[i]? with
    | none => rw [q] at g2; cases g2
    | some y =>
      obtain ⟨y, k⟩ := y
      rw [q] at g1 g2
      cases g2
      have z := (inl y k).1 (List.mem_of_getElem? q)
      obtain ⟨g, G, w1, w2, w3⟩ := W.at_ y k z.1 z.2
      have eg : hs.getD k 0 = g := by
        have : hs[k]? = some g := by rw [← Array.getElem?_toList]; exact w1
        simp [Array.getD_eq_getD_getElem?, this]
      have eh : g = h := eg.symm.trans (Option.some.inj g1)
      subst eh
      refine ⟨G, w2, fun n hn => ?_⟩
      cases v : oAt owner (way M g n) with
      | none => exact absurd v (w3 n hn)
      | some k2 => exact List.mem_map.mpr ⟨(_, k2), (inl _ _).2 ⟨way_in M g n, v⟩, rfl⟩

/-! ### the set -/
section
variable {P : Program} {w : World} {A : Around} {E : Value → Shared → Prop} {s : Shared}
/-- at a stands the set of the rows L -/
structure SB (P : Program) (w : World) (h : Heap) (a : Addr) (L : List (Addr × List Int)) (es : Array (Int × Value)) (ep : Nat) (t : SetTable) : Prop where
  obj : ∃ o, h.get? a = some o ∧ o.ExactSet ∧ o.data = .set es ep t
  row : es.toList = rowsOf P w L
  tab : TB t (L.map fun p => thash P w p.2)
  dif : (L.map Prod.snd).Nodup
  tup : ∀ p ∈ L, L2.IsT P w h p.2 p.1
  pla : t.plain = true
  led : w.params.followText "set-order" = true ∨ t.led = true
  gap : L.length * 5 < t.mask * 3
  few : L.length ≤ 9800
variable {a : Addr} {L : List (Addr × List Int)} {es : Array (Int × Value)} {ep : Nat} {t : SetTable}
theorem SB.size (R : SB P w s.heap a L es ep t) : es.size = L.length := by
  rw [← Array.length_toList, R.row]
  simp [rowsOf]
theorem SB.fits (R : SB P w s.heap a L es ep t) : t.fits es.size = true := by
  have q1 := R.tab.len
  have q2 := R.gap
  have q3 := R.size
  simp only [List.length_map] at q1
  simp only [SetTable.fits, SetTable.fill, R.tab.nod, Bool.and_eq_true, beq_iff_eq, decide_eq_true_eq]
  constructor
  · exact q1.trans q3.symm
  · show t.place.size + 0 ≤ t.mask
    omega
theorem SB.at_ (R : SB P w s.heap a L es ep t) {i : Nat} {p : Addr × List Int} (h : L[i]? = some p) : es[i]? = some (thash P w p.2, Value.ref p.1) := by
  have z : es.toList[i]? = some (thash P w p.2, Value.ref p.1) := by rw [R.row, rowsOf, List.getElem?_map, h]; rfl
  exact (Array.getElem?_toList ..).symm.trans z
theorem SB.goes (R : SB P w s.heap a L es ep t) : t.gaveWay = true → False := by
  simp only [SetTable.gaveWay, R.tab.msk.le.2.2]
  decide
abbrev prb (m : Nat) (h : Int) (c : Nat) : SetTable.Probe := nth m (runAt m (SetTable.bits h % (m + 1)) (SetTable.bits h)) c
theorem prb_add (m : Nat) (h : Int) (c n : Nat) : nth m (prb m h c) n = prb m h (c + n) := (nth_add m c _ n).symm
theorem nth_dummy (m : Nat) : ∀ (n : Nat) (p : SetTable.Probe), p.dummy = none → (nth m p n).dummy = none
  | 0, _, h => h
  | n + 1, p, h => nth_dummy m n (adv m p) (by unfold adv; split <;> exact h)
/-- looking for k from step c of its way on -/
theorem look (R : SB P w s.heap a L es ep t) {x : Addr} {k : List Int} {h : Int} (eh : h = thash P w k) (hx : L2.IsT P w s.heap k x) (hu : A.units < cLine) {K : Nat} (hK : K < 10 * SetTable.turns t.mask) (en : Ends t h K) {Q : SetFound → Shared → Prop}
    (yes : k ∈ L.map Prod.snd → Q (.there none) s) (no : k ∉ L.map Prod.snd → Q (.free (way t.mask h K) false) s) :
    ∀ (f c : Nat) (from_ : Option SetTable.Probe), from_.getD (t.probeStart h) = prb t.mask h c → c ≤ K → K - c < f →
      (∀ (i : Nat) (p : Addr × List Int), L[i]? = some p → p.2 = k → ∃ n, c ≤ n ∧ n < K ∧ t.place.toList[i]? = some (way t.mask h n)) →
      wpAny (model P w) A (setSearchFrom a (.ref x) h true f from_) Q E s := by
  intro f
  induction f with
  | zero => intro c _ _ _ z _; exact absurd z (Nat.not_lt_zero _)
  | succ f ih =>
    intro c from_ hs hc hf hn
    obtain ⟨o, o1, _, o3⟩ := R.obj
    have hash : ∀ (i : Nat) (p : Addr × List Int), L[i]? = some p → (fun i => (es[i]?.map Prod.fst).getD 0) i = thash P w p.2 := fun i p hp => by
      show (es[i]?.map Prod.fst).getD 0 = _
      rw [R.at_ hp]
      rfl
    rw [setSearchFrom_succ]
    refine wpAny_bind (wpAny_setState_of o1 o3 R.fits (wp_if_neg R.goes ?_))
    have spec := go_spec t R.tab.up R.tab.nod (fun i => (es[i]?.map Prod.fst).getD 0) h (10 * SetTable.turns t.mask) (K - c) (prb t.mask h c) (nth_dummy _ c _ rfl) (by omega)
      (fun q hq => by rw [prb_add]; exact en.full (c + q) (by omega)) (by rw [prb_add, Nat.add_sub_cancel' hc]; exact en.free)
    rw [hs]
    rcases spec with ⟨q, i, q1, q2, q3, q4, q5⟩ | ⟨q4, q5⟩
    · have q5' : t.probe (fun i => (es[i]?.map Prod.fst).getD 0) h (prb t.mask h c) = some (.candidate (way t.mask h (c + q)) i (prb t.mask h (c + (q + 1)))) := by
        refine q5.trans ?_
        rw [prb_add, prb_add]
      rw [prb_add] at q2
      rw [q5']
      have il : i < L.length := by
        have z := (List.getElem?_eq_some_iff.mp q2).1
        have z2 := R.tab.len
        simp only [List.length_map] at z2
        rw [Array.length_toList] at z
        omega
      obtain ⟨p, hp⟩ : ∃ p, L[i]? = some p := ⟨_, List.getElem?_eq_getElem il⟩
      have pm := List.mem_of_getElem? hp
      have goal : wpAny (model P w) A (searchRest a (.ref x) h true f es t (way t.mask h (c + q)) i (prb t.mask h (c + (q + 1)))) Q E s := by
        have live := slot_live R.tab.up q2
        unfold searchRest
        rw [R.at_ hp]
        refine wpAny_bind (wpAny_holding (wpAny_eqBool_tuple hu (R.tup p pm) hx (wpAny_bind (wpAny_setState_of o1 o3 R.fits ?_))))
        by_cases e : p.2 = k
        · exact wp_if_pos (by simp [e]) (wpAny_pure (yes (List.mem_map.mpr ⟨p, pm, e⟩)))
        · refine wp_if_neg (by simp [e]) ?_
          try refine wpAny_bind (wpAny_pure ?_)
          rw [sameMem]
          dsimp only
          simp only [if_true, live, R.at_ hp]
          refine wpAny_bind (wpAny_isSame_ref_self (wpAny_bind (wpAny_pure ?_)))
          simp only [if_true]
          refine wp_if_neg (by simp [e]) (ih (c + (q + 1)) _ rfl (by omega) (by omega) fun i2 p2 g1 g2 => ?_)
          obtain ⟨n, n1, n2, n3⟩ := hn i2 p2 g1 g2
          refine ⟨n, ?_, n2, n3⟩
          refine Classical.byContradiction fun z => ?_
          rcases Nat.lt_or_eq_of_le (show n ≤ c + q by omega) with y | y
          · refine q4 (n - c) i2 (by omega) (by rw [prb_add, Nat.add_sub_cancel' n1]; exact n3) ?_
            exact (hash i2 p2 g1).trans (by rw [g2, eh])
          · rw [y] at n3
            have l2 := slot_live R.tab.up n3
            rw [live] at l2
            cases l2
            rw [hp] at g1
            cases g1
            exact e g2
      by_cases l : t.led = true
      · refine wp_if_neg (by simp [l]) ?_
        try refine wpAny_bind (wpAny_pure ?_)
        exact goal
      · refine wp_if_pos (by simp [l]) (wpAny_bind (seen_tup hx (fun y hy => ?_) ?_))
        · obtain ⟨e, he, rfl⟩ := List.mem_map.mp hy
          have e1 : e ∈ es.toList := by simp at he; simpa using he.1
          rw [R.row] at e1
          obtain ⟨p2, g1, rfl⟩ := List.mem_map.mp e1
          exact ⟨p2.2, p2.1, rfl, R.tup p2 g1⟩
        · refine wp_if_neg (by decide) ?_
          try refine wpAny_bind (wpAny_pure ?_)
          exact goal
    · have q5' : t.probe (fun i => (es[i]?.map Prod.fst).getD 0) h (prb t.mask h c) = some (.empty (way t.mask h K) none) := by
        refine q5.trans ?_
        rw [prb_add, Nat.add_sub_cancel' hc]
      rw [q5']
      refine wpAny_pure (no fun hm => ?_)
      obtain ⟨p, pm, e⟩ := List.mem_map.mp hm
      obtain ⟨i, il, ei⟩ := List.getElem_of_mem pm
      have hp : L[i]? = some p := by rw [List.getElem?_eq_getElem il, ei]
      obtain ⟨n, n1, n2, n3⟩ := hn i p hp e
      refine q4 (n - c) i (by omega) (by rw [prb_add, Nat.add_sub_cancel' n1]; exact n3) ?_
      exact (hash i p hp).trans (by rw [e, eh])
theorem look_all (R : SB P w s.heap a L es ep t) {x : Addr} {k : List Int} (hx : L2.IsT P w s.heap k x) (hu : A.units < cLine) {Q : SetFound → Shared → Prop}
    (yes : k ∈ L.map Prod.snd → Q (.there none) s) (no : ∀ K, k ∉ L.map Prod.snd → Ends t (thash P w k) K → Q (.free (way t.mask (thash P w k) K) false) s) :
    wpAny (model P w) A (setSearch a (.ref x) (thash P w k) true) Q E s := by
  have g := R.gap
  have m := R.tab.msk.le
  obtain ⟨K, hK, en⟩ := R.tab.ends (by rw [List.length_map]; omega) (thash P w k)
  have fw := R.few
  have ln := R.tab.len
  simp only [List.length_map] at ln
  have big : K < 100000 := by
    have z := few_steps (ps := t.place.toList) R.tab.msk (thash P w k) (by rw [Array.length_toList, ln]; omega) en.full
    rw [Array.length_toList, ln] at z
    omega
  unfold setSearch
  refine look R rfl hx hu hK en yes (fun z => no K z en) 100000 0 none rfl (Nat.zero_le _) (by omega) fun i p hp e => ?_
  have il : i < t.place.toList.length := by
    have z1 := (List.getElem?_eq_some_iff.mp hp).1
    have z2 := R.tab.len
    simp only [List.length_map] at z2
    rw [Array.length_toList]
    omega
  have g1 : (L.map fun p => thash P w p.2)[i]? = some (thash P w k) := by
    rw [List.getElem?_map, hp, ← e]
    rfl
  obtain ⟨n, n1, n2⟩ := R.tab.ahead en g1 (List.getElem?_eq_getElem il)
  exact ⟨n, Nat.zero_le _, n1, by rw [List.getElem?_eq_getElem il, n2]⟩

theorem rows_size {L : List (Addr × List Int)} {es : Array (Int × Value)} (h : es.toList = rowsOf P w L) : es.size = L.length := by
  rw [← Array.length_toList, h]
  simp [rowsOf]
/-- the set as it is between the putting and the making larger -/
structure Loose (P : Program) (w : World) (h : Heap) (a : Addr) (L : List (Addr × List Int)) (es : Array (Int × Value)) (ep : Nat) (t : SetTable) : Prop where
  obj : ∃ o, h.get? a = some o ∧ o.ExactSet ∧ o.data = .set es ep t
  row : es.toList = rowsOf P w L
  tab : TB t (L.map fun p => thash P w p.2)
  dif : (L.map Prod.snd).Nodup
  tup : ∀ p ∈ L, L2.IsT P w h p.2 p.1
  pla : t.plain = true
  led : w.params.followText "set-order" = true ∨ t.led = true
  fit : L.length ≤ t.mask
  few : L.length ≤ 9800
theorem grow (R : Loose P w s.heap a L es ep t) {wanted M : Nat} (hw : SetTable.sizeAbove wanted = M + 1) (hM : MB M) (hn : L.length * 5 < M * 3) {Q : Unit → Shared → Prop}
    (hQ : ∀ h2 L2 es2 ep2 t2, Heap.SameBut a s.heap h2 → SB P w h2 a L2 es2 ep2 t2 → L2.Perm L → Q () { s with heap := h2 }) : wpAny (model P w) A (setRelay a wanted) Q E s := by
  obtain ⟨o, o1, o2, o3⟩ := R.obj
  have sz := rows_size R.row
  have z := R.tab.len
  simp only [List.length_map] at z
  have fit := R.fit
  have few := R.few
  have fits : t.fits es.size = true := by
    simp only [SetTable.fits, SetTable.fill, R.tab.nod, Bool.and_eq_true, beq_iff_eq, decide_eq_true_eq]
    exact ⟨z.trans sz.symm, show t.place.size + 0 ≤ t.mask by omega⟩
  have hM2 := hM.le
  obtain ⟨t2, ord, rl⟩ := relaid_tb t (hs := es.map Prod.fst) (wanted := wanted) (M := M) (by rw [hw]; rfl) hM (by rw [Array.size_map]; omega)
  have pm := rl.perm
  rw [Array.size_map, sz] at pm
  obtain ⟨L2, r1, r2, r3⟩ := order_rows L es ord R.row pm
  have T := rl.tab
  rw [← r3] at T
  have sz2 : (ord.filterMap fun i => es[i]?).size = es.size := by rw [rows_size r1, r2.length_eq, sz]
  rw [setRelay_eq]
  refine wpAny_bind (wpAny_setState_of o1 o3 fits (wp_if_neg (by rw [sizeLine_eq, hw]; omega) ?_))
  try refine wpAny_bind (wpAny_pure ?_)
  rw [rl.eq]
  refine wpAny_bind (wp_if_neg (by rw [sz2]; simp) ?_)
  try refine wpAny_bind (wpAny_pure ?_)
  refine wpAny_pure (wpAny_storeSet_of o1 o3 ?_ (by rw [sz2, sz, sizeLine_eq]; omega))
  have same := Heap.SameBut.update s.heap a (Obj.putSet (ord.filterMap fun i => es[i]?) t2)
  exact hQ _ L2 _ (ep + 1) t2 same ⟨⟨_, store_at o1 o3, o2, rfl⟩, r1, T, (r2.map _).nodup_iff.mpr R.dif, fun p hp => isT_same (R.tup p (r2.mem_iff.mp hp)) o1 o3 same, rl.pla.trans R.pla,
    R.led.imp id fun z => rl.led.trans z, by rw [r2.length_eq, rl.msk]; exact hn, by rw [r2.length_eq]; exact few⟩ r2
/-- one more is put in -/
theorem add_cell (R : SB P w s.heap a L es ep t) {x : Addr} {k : List Int} (hx : L2.IsT P w s.heap k x) (hu : A.units < cLine) (few : k ∉ L.map Prod.snd → L.length < 9800) {Q : Bool → Shared → Prop}
    (hQ : ∀ b h2 L2 es2 ep2 t2, Heap.SameBut a s.heap h2 → SB P w h2 a L2 es2 ep2 t2 → (k ∈ L.map Prod.snd → L2 = L) → (k ∉ L.map Prod.snd → L2.Perm ((x, k) :: L)) → Q b { s with heap := h2 }) :
    wpAny (model P w) A (setAddHashed a (.ref x) (thash P w k)) Q E s := by
  obtain ⟨o, o1, o2, o3⟩ := R.obj
  unfold setAddHashed
  rw [show (100000 : Nat) = 99999 + 1 from rfl, setAddHashedIn_succ]
  refine wpAny_holding (wpAny_bind (wpAny_setState_of o1 o3 R.fits (wp_if_neg (by simp [byScan, Value.scannable]) ?_)))
  try refine wpAny_bind (wpAny_pure ?_)
  refine wpAny_bind (look_all R hx hu (fun z => wpAny_pure (hQ false s.heap L es ep t (Heap.SameBut.refl a s.heap) R (fun _ => rfl) fun y => absurd z y)) fun K new en => ?_)
  have few := few new
  refine wpAny_bind (wpAny_setState_of o1 o3 R.fits ?_)
  dsimp only
  have pt := R.tab.put en
  generalize way t.mask (thash P w k) K = j at pt
  have e1 : t.put j = ((t.put j).1, bel t j) := Prod.ext rfl pt.at_
  rw [e1]
  have pla : (t.put j).1.plain = true := pt.pla.trans R.pla
  have tab := pt.tab
  have msk := pt.msk
  have led := pt.led
  have fil := pt.fil
  have row2 : (SetTable.insertAt es (bel t j) (thash P w k, Value.ref x)).toList = rowsOf P w (L.take (bel t j) ++ (x, k) :: L.drop (bel t j)) := (SetTable.toList_insertAt ..).trans (by rw [rows_put, R.row])
  have hash2 : (L.take (bel t j) ++ (x, k) :: L.drop (bel t j)).map (fun p => thash P w p.2) = (L.map fun p => thash P w p.2).take (bel t j) ++ thash P w k :: (L.map fun p => thash P w p.2).drop (bel t j) := by
    simp [List.map_take, List.map_drop]
  rw [← hash2] at tab
  have pm := put_perm L (bel t j) (x, k)
  simp only [List.length_map] at fil
  generalize (t.put j).1 = t1 at tab pla msk led fil ⊢
  generalize hpos : bel t j = pos at row2 tab pm ⊢
  generalize SetTable.insertAt es pos (thash P w k, Value.ref x) = es1 at row2 ⊢
  generalize L.take pos ++ (x, k) :: L.drop pos = L1 at row2 tab pm
  have len1 : L1.length = L.length + 1 := pm.length_eq
  have sz1 : es1.size = L.length + 1 := (rows_size row2).trans len1
  have gap := R.gap
  have tail : ∀ t1', t1' = t1 → wpAny (model P w) A (storeSet a es1 t1') (fun _ s2 => wpAny (model P w) A (if (!false && t1'.tooFull) = true then (do setRelay a (SetTable.grown (es.size + 1)); pure true) else pure true) Q E s2) E s := by
    intro t1' et
    subst et
    refine wpAny_storeSet_of o1 o3 ?_ (by rw [sz1, sizeLine_eq]; omega)
    have same := Heap.SameBut.update s.heap a (Obj.putSet es1 t1')
    have at1 := store_at (es' := es1) (t' := t1') o1 o3
    generalize s.heap.update a (Obj.putSet es1 t1') = h1 at same at1 ⊢
    have loose : Loose P w h1 a L1 es1 (ep + 1) t1' := ⟨⟨_, at1, o2, rfl⟩, row2, tab, (pm.map Prod.snd).nodup_iff.mpr (List.nodup_cons.mpr ⟨new, R.dif⟩), fun p hp => by
      rcases List.mem_cons.mp (pm.mem_iff.mp hp) with e | hp
      · exact e ▸ isT_same hx o1 o3 same
      · exact isT_same (R.tup p hp) o1 o3 same, pla, R.led.imp id fun z => led.trans z, by rw [len1, msk]; omega, by omega⟩
    by_cases full : t1'.tooFull = true
    · rw [if_pos (by simp [full])]
      have f2 : t.mask * 3 ≤ (L.length + 1) * 5 := by
        have z := full
        simp only [SetTable.tooFull, decide_eq_true_eq, fil, msk] at z
        exact z
      obtain ⟨M, m1, m2, m3⟩ := grows R.tab.msk f2 gap few
      rw [R.size]
      refine wpAny_bind (grow (s := { s with heap := h1 }) loose m1 m2 (by rw [len1]; exact m3) fun h2 L2 es2 ep2 t2 same2 R2 pm2 => ?_)
      exact wpAny_pure (hQ true h2 L2 es2 ep2 t2 (same.trans same2) R2 (fun z => absurd z new) fun _ => pm2.trans pm)
    · rw [if_neg (by simp [full])]
      refine wpAny_pure (hQ true h1 L1 es1 (ep + 1) t1' same ⟨loose.obj, row2, tab, loose.dif, loose.tup, pla, loose.led, ?_, loose.few⟩ (fun z => absurd z new) fun _ => pm)
      have z : ¬ t1'.fill * 5 ≥ t1'.mask * 3 := by simpa [SetTable.tooFull] using full
      rw [fil] at z
      omega
  first
    | (refine wpAny_bind ?_; refine wp_if_pos pla ?_; refine hashBy_tup hx ?_)
    | refine wp_if_pos pla (wpAny_bind (hashBy_tup hx ?_))
  simp only [if_true]
  refine wpAny_bind ?_
  refine wpAny_mono (tail t1 rfl) (fun u s2 z => ?_) fun _ _ z => z
  first
    | exact z
    | (simp only [Bool.not_false, Bool.true_and] at z ⊢
       by_cases full : t1.tooFull = true
       · rw [if_pos full] at z ⊢
         exact z
       · rw [if_neg full] at z ⊢
         exact z)

theorem SB.move {h h2 : Heap} {a : Addr} {L : List (Addr × List Int)} {es : Array (Int × Value)} {ep : Nat} {t : SetTable} (R : SB P w h a L es ep t) (ha : ∀ o, h.get? a = some o → h2.get? a = some o) (ht : ∀ p ∈ L, L2.IsT P w h2 p.2 p.1) : SB P w h2 a L es ep t := by
  obtain ⟨o, o1, o2⟩ := R.obj
  exact { R with obj := ⟨o, ha o o1, o2⟩, tup := ht }
abbrev emptySet (w : World) : Obj := { cls := .type "set", dict := none, data := .set #[] 0 (.fresh 0 0 (!w.params.followText "set-order")) }
theorem sb_empty {h : Heap} {a : Addr} (ho : h.get? a = some (emptySet w)) : SB P w h a [] #[] 0 (.fresh 0 0 (!w.params.followText "set-order")) where
  obj := ⟨_, ho, ⟨rfl, rfl, rfl⟩, rfl⟩
  row := rfl
  tab := ⟨.nil, rfl, rfl, mb7, (fun _ h => nomatch h), fun i h j e => (nomatch e)⟩
  dif := .nil
  tup := fun _ h => nomatch h
  pla := rfl
  led := by
    show _ ∨ (!w.params.followText "set-order") = true
    cases w.params.followText "set-order"
    · exact .inr rfl
    · exact .inl rfl
  gap := by show 0 * 5 < 7 * 3; decide
  few := Nat.zero_le _
/-- at most so many unlike rows -/
def Few (ks : List (Addr × List Int)) : Prop := ∀ L : List (Addr × List Int), (∀ p ∈ L, p ∈ ks) → (L.map Prod.snd).Nodup → L.length ≤ 9800
/-- the rows taken so far: each is in the set by its ints, and nothing else -/
structure Taken (ks : List (Addr × List Int)) (h : Heap) (S : Addr) (P : Program) (w : World) (i : Nat) : Prop where
  ex : ∃ L es ep t, SB P w h S L es ep t ∧ Got ks i L
/-- set.update's loop over rows -/
theorem fill {I : Addr} {fp wr : List Addr} {G : Array GenState → Array GenState → Prop} {n : Nat} {Pv : Nat → Value → Prop} {St : Nat → Shared → Prop} {R : Result → Shared → Prop}
    (W : WalksS P w A.in1 I fp wr G n Pv St) {S : Addr} (hS : S ∉ fp) {ks : List (Addr × List Int)} (hn : n = ks.length) (few : Few ks) (val : ∀ i v, Pv i v → ∃ p, ks[i]? = some p ∧ v = .ref p.1)
    {h0 : Heap} (tup : ∀ p ∈ ks, L2.IsT P w h0 p.2 p.1) (S0 : h0.get? S = none) (w0 : ∀ b ∈ wr, h0.get? b = none) (hu : A.in1.units < cLine) :
    ∀ (m i : Nat) (s : Shared), i + m = n → St i s → (∀ b o, h0.get? b = some o → s.heap.get? b = some o) → Taken ks s.heap S P w i →
      (∀ s2, Moved (S :: wr) G s s2 → Taken ks s2.heap S P w n → (∀ b o, h0.get? b = some o → s2.heap.get? b = some o) → R (.ok (.ret .none)) s2) →
      codeAny (model P w) A (.builtin "set.update.loop" ⟨[.ref S, .ref I], []⟩) R s := by
  have Sw : S ∉ wr := fun z => hS (W.sub _ z)
  have up : ∀ {s s2 : Shared}, Moved wr G s s2 → Moved (S :: wr) G s s2 := fun hm => hm.mono fun b hb => List.mem_cons_of_mem _ hb
  have old : ∀ {s s2 : Shared}, Moved wr G s s2 → (∀ b o, h0.get? b = some o → s.heap.get? b = some o) → ∀ b o, h0.get? b = some o → s2.heap.get? b = some o := fun hm k b o e =>
    hm.heap b o (fun hb => by rw [w0 b hb] at e; cases e) (k b o e)
  have stays : ∀ {s s2 : Shared} {i : Nat}, Moved wr G s s2 → (∀ b o, h0.get? b = some o → s2.heap.get? b = some o) → Taken ks s.heap S P w i → Taken ks s2.heap S P w i := fun hm k ⟨L, es, ep, t, R, g⟩ =>
    ⟨L, es, ep, t, R.move (fun o e => hm.heap S o Sw e) fun p hp => isT_keep (tup p (List.mem_of_mem_take (g.sub p hp))) k, g⟩
  intro m
  induction m with
  | zero =>
    intro i s e st k T hR
    obtain rfl : i = n := e
    refine codeAny_builtin F.entry_set_update_loop (?_ : _)
    rw [Around.under_plainId F.plain_set_update_loop]
    refine wpAny_bind (m := pyNext (.ref I)) (W.done s _ _ st fun s2 hm => ?_)
    have k2 := old hm k
    exact wpAny_pure (hR s2 (up hm) (stays hm k2 T) k2)
  | succ m ih =>
    intro i s e st k T hR
    refine codeAny_builtin F.entry_set_update_loop (?_ : _)
    rw [Around.under_plainId F.plain_set_update_loop]
    refine wpAny_bind (m := pyNext (.ref I)) (W.item i s _ _ (by omega) st fun v s2 hv st2 hm => ?_)
    obtain ⟨p, hp, rfl⟩ := val i v hv
    have k2 := old hm k
    obtain ⟨L, es, ep, t, SR, g⟩ := stays hm k2 T
    have hx : L2.IsT P w s2.heap p.2 p.1 := isT_keep (tup p (List.mem_of_getElem? hp)) k2
    have il : i < ks.length := (List.getElem?_eq_some_iff.mp hp).1
    refine wpAny_bind (m := holding [Value.ref p.1] (setAdd S (.ref p.1))) (wpAny_holding ?_)
    unfold setAdd
    refine wpAny_holding (wpAny_bind (wpAny_pyHash_tuple hu hx ?_))
    refine add_cell (s := { s2 with toks := s2.toks + (p.2.length + 1) }) SR hx hu (fun new => Nat.lt_of_succ_le (few (p :: L) (fun q hq => (List.mem_cons.mp hq).elim (fun z => z ▸ List.mem_of_getElem? hp) fun z => List.mem_of_mem_take (g.sub q z)) (List.nodup_cons.mpr ⟨new, SR.dif⟩))) fun b h3 L3 es3 ep3 t3 same SR3 c1 c2 => ?_
    have g3 : Got ks (i + 1) L3 := by
      by_cases c : p.2 ∈ L.map Prod.snd
      · exact c1 c ▸ g.same hp c
      · exact g.more hp (c2 c)
    have k3 : ∀ b o, h0.get? b = some o → h3.get? b = some o := fun b o q => (same.2 b fun z => by rw [z, S0] at q; cases q).trans (k2 b o q)
    refine wpAny_pure ⟨plainId_quiet F.plain_set_update_loop _, ih (i + 1) _ (by omega) (W.frame _ s2 _ _ st2 (Nat.le_add_right _ _) fun b hb o q => (same.2 b fun z => hS (z ▸ hb)).trans q) k3 ⟨L3, es3, ep3, t3, SR3, g3⟩ fun s4 hm4 T4 k4 => ?_⟩
    exact hR s4 (Moved.trans W.gtrans ((up hm).then_heap (Nat.le_add_right _ _) fun b o hb q => (same.2 b fun z => hb (z ▸ List.mem_cons_self)).trans q) hm4) T4 k4

abbrev withEmpty (w : World) (s : Shared) : Shared := { s with heap := s.heap.push (emptySet w) }
theorem emptyAt (w : World) (s : Shared) : (withEmpty w s).heap.get? s.heap.objs.size = some (emptySet w) := Heap.get?_push_size _ rfl
/-- what set.__init__ leaves of the new set -/
def Made (P : Program) (w : World) (s : Shared) (ks : List (Addr × List Int)) (r : Value) (s2 : Shared) : Prop :=
  r = .none ∧ ∃ h2 tk, s2 = { s with heap := h2, toks := tk } ∧ Taken ks h2 s.heap.objs.size P w ks.length ∧ ∀ b o, s.heap.get? b = some o → h2.get? b = some o
/-- the loop from the new iterator I over l on -/
theorem fill_new {A : Around} {h1 : Heap} {tk1 : Nat} {I l : Addr} {Pv : Nat → Value → Prop} {St : Nat → Shared → Prop} {G : Array GenState → Array GenState → Prop} {ks : List (Addr × List Int)} {n : Nat} (W : WalksS P w A.in1 I [I, l] [I] G n Pv St) (hG : ∀ g g2, G g g2 → g2 = g)
    (hI : I = (withEmpty w s).heap.objs.size) (hl : l < s.heap.objs.size) (hn : n = ks.length) (few : Few ks) (val : ∀ i v, Pv i v → ∃ p, ks[i]? = some p ∧ v = .ref p.1) (tup : ∀ p ∈ ks, L2.IsT P w s.heap p.2 p.1) (hu : A.in1.units < cLine)
    (k1 : ∀ b o, (withEmpty w s).heap.get? b = some o → h1.get? b = some o) (st : St 0 { s with heap := h1, toks := tk1 }) :
    codeAny (model P w) A (.builtin "set.update.loop" ⟨[.ref s.heap.objs.size, .ref I], []⟩) (fun r s2 => r = .ok (.ret .none) ∧ Made P w s ks .none s2) { s with heap := h1, toks := tk1 } := by
  have sz : (withEmpty w s).heap.objs.size = s.heap.objs.size + 1 := Heap.size_push ..
  have nil : ∀ b, s.heap.objs.size ≤ b → s.heap.get? b = none := fun b hb => by
    cases q : s.heap.get? b with
    | none => rfl
    | some o => exact absurd (Nat.lt_of_lt_of_le (Heap.lt_size q) hb) (Nat.lt_irrefl _)
  have S1 : s.heap.objs.size ∉ [I, l] := by
    simp only [List.mem_cons, List.not_mem_nil, or_false, not_or]
    exact ⟨fun z => Nat.lt_irrefl _ (Nat.lt_of_lt_of_eq (Nat.lt_succ_self s.heap.objs.size) ((hI.trans sz).symm.trans z.symm)), Nat.ne_of_gt hl⟩
  refine fill W S1 hn few val tup (nil _ (Nat.le_refl _)) (fun b hb => nil b (by rw [List.mem_singleton.mp hb, hI, sz]; exact Nat.le_succ _)) hu n 0 { s with heap := h1, toks := tk1 } (Nat.zero_add n) st (fun b o e => k1 b o (Heap.get?_push_of_some _ e))
    ⟨[], #[], 0, _, sb_empty (k1 _ _ (emptyAt w s)), Got.zero ks⟩ fun s2 hm T k => ⟨rfl, rfl, s2.heap, s2.toks, ?_, hn ▸ T, k⟩
  have e1 := hG _ _ hm.gens
  have e2 := hm.drawn
  have e3 := hm.os
  obtain ⟨a1, a2, a3, a4, a5⟩ := s2
  simp only at e1 e2 e3
  rw [e1, e2, e3]
end

section
variable {P : Program} {w : World} {A : Around} {E : Value → Shared → Prop} {s : Shared}
set_option maxHeartbeats 3200000 in
/-- set(xs), xs a list or a tuple of tuples of ints -/
theorem call_setB {l : Addr} {items : Array Value} (ks : List (Addr × List Int)) {Q : Value → Shared → Prop} (hh : A.handled = none) (hl : s.heap.IsList l items ∨ s.heap.IsTuple l items) (hit : items.toList = ks.map fun p => Value.ref p.1)
    (hk : ∀ p ∈ ks, L2.IsT P w s.heap p.2 p.1) (few : Few ks) (hu : A.units + 3 < cLine)
    (h : ∀ (h2 : Heap) (tk : Nat), Taken ks h2 s.heap.objs.size P w ks.length → (∀ b o, s.heap.get? b = some o → h2.get? b = some o) → Q (.ref s.heap.objs.size) { s with heap := h2, toks := tk }) :
    wpAny (model P w) A (call (.type "set") [.ref l]) Q E s := by
  have isz : items.size = ks.length := by
    have q := congrArg List.length hit
    simpa using q
  have val : ∀ (i : Nat) (v : Value), items[i]? = some v → ∃ p, ks[i]? = some p ∧ v = .ref p.1 := fun i v hv => by
    have q : items.toList[i]? = some v := (Array.getElem?_toList ..).trans hv
    rw [hit, List.getElem?_map] at q
    obtain ⟨p, p1, p2⟩ := Option.map_eq_some_iff.mp q
    exact ⟨p, p1, p2.symm⟩
  have pack := And.intro val (And.intro hk (And.intro h (And.intro hit (And.intro isz few))))
  clear val hk h hit isz few
  obtain ⟨c, tl, hmro⟩ := F.called_set.mro
  have c1 := F.called_set.made
  have c2 := F.called_set.sub
  have c3 := F.called_set.notType
  have c4 := F.called_set.canCreate
  have c5 := F.typeCall_set_1 (.ref l)
  refine wpAny_call (codeAny_of_tree (?_ : _))
  refine wpAny_pure ⟨Code.quiet_builtin _ (by decide +kernel), codeAny_builtin F.entry_type_call (?_ : _)⟩
  rw [Around.under_plain (weight_type_call_type "set" [.ref l] []) rfl]
  repeat (any_goals (first | assumption | wp_step))
  refine codeAny_mono (code_set_led1 (.ref l) (E := E) (Q₁ := fun obj s1 => obj = .ref s.heap.objs.size ∧ s1 = withEmpty w s) ⟨rfl, rfl⟩) (fun r s1 hr => ?_)
  cases r with
  | error e => exact hr
  | ok fl =>
    cases fl with
    | ret obj =>
      obtain ⟨rfl, rfl⟩ := hr
      have hS := emptyAt w s
      have hT : Shared.TypeIs (withEmpty w s) (.ref s.heap.objs.size) "set" := ⟨_, hS, rfl⟩
      have c6 := F.called_set.init.lookup
      have c7 := F.called_set.init.bind (.ref s.heap.objs.size)
      repeat (any_goals (first | assumption | wp_step))
      refine codeAny_mono (codeAny_call_builtin (R := wants (Made P w s ks) E) F.called_set.init.plain F.entry_set_init (check_set_init_1 hT ?_)) (fun r2 s2 hr2 => ?_)
      · have hh3 : A.in1.in1.in1.handled = none := by simp [hh]
        have new : s.heap.objs.size ≠ (withEmpty w s).heap.objs.size := Nat.ne_of_lt (by rw [Heap.size_push]; exact Nat.lt_succ_self _)
        rcases hl with hl | hl
        · obtain ⟨⟨ocls, odict, odata, oslots⟩, g1, g2, n, g3⟩ := hl
          simp only at g2 g3
          subst g2 g3
          have lS : l < s.heap.objs.size := Heap.lt_size g1
          have g4 : (withEmpty w s).heap.get? l = some { cls := .type "list", dict := odict, data := .seq items n, slots := oslots } := Heap.get?_push_of_some _ g1
          have d1 := F.sub_list_set
          have d2 := F.sub_list_frozenset
          have d3 : (Value.type "list" == Value.type "dict") = false := by decide
          have hl1 : (withEmpty w s).heap.IsList l items := ⟨_, g4, rfl, n, rfl⟩
          have ne : l ≠ (withEmpty w s).heap.objs.size := Nat.ne_of_lt (Nat.lt_of_lt_of_le lS (by rw [Heap.size_push]; exact Nat.le_succ _))
          unfold Builtin.«set.__init__» noKeywords Builtin.Frozenset.updateFrom
          generalize hPI : pyIter = PI
          wp_walk
          subst hPI
          obtain ⟨val, hk, h, hit, isz, few⟩ := pack
          refine wpAny_pyIter_list hl1 (wpAny_bind (wpAny_runValue (?_ : _)))
          have z := fill_new (A := A.in1.in1) (P := P) (tk1 := (withEmpty w s).toks) (h1 := (withEmpty w s).heap.push { cls := .type "list_iterator", data := .fields #[.ref l, .int 0 0] }) (Walks.list (prog := P) (w := w) hh3 _ l ne items).toS (fun _ _ q => q) rfl lS isz few val hk hu (fun b o e => Heap.get?_push_of_some _ e) ⟨⟨_, Heap.get?_push_size _ rfl, rfl, rfl⟩, hl1.push _⟩
          refine codeAny_mono z fun r s2 ⟨e, m⟩ => ?_
          subst e
          obtain ⟨_, h2, tk, e, T, k⟩ := m
          subst e
          exact wpAny_pure (wpAny_pure ⟨rfl, h2, tk, rfl, T, k⟩)
        · obtain ⟨⟨ocls, odict, odata, oslots⟩, g1, g2, n, g3⟩ := hl
          simp only at g2 g3
          subst g2 g3
          have lS : l < s.heap.objs.size := Heap.lt_size g1
          have g4 : (withEmpty w s).heap.get? l = some { cls := .type "tuple", dict := odict, data := .seq items n, slots := oslots } := Heap.get?_push_of_some _ g1
          have d1 := F.sub_tuple_set
          have d2 := F.sub_tuple_frozenset
          have d3 : (Value.type "tuple" == Value.type "dict") = false := by decide
          have hl1 : (withEmpty w s).heap.IsTuple l items := ⟨_, g4, rfl, n, rfl⟩
          have ne : l ≠ (withEmpty w s).heap.objs.size := Nat.ne_of_lt (Nat.lt_of_lt_of_le lS (by rw [Heap.size_push]; exact Nat.le_succ _))
          unfold Builtin.«set.__init__» noKeywords Builtin.Frozenset.updateFrom
          generalize hPI : pyIter = PI
          wp_walk
          subst hPI
          obtain ⟨val, hk, h, hit, isz, few⟩ := pack
          refine wpAny_pyIter_tuple hl1 (wpAny_bind (wpAny_runValue (?_ : _)))
          have z := fill_new (A := A.in1.in1) (P := P) (tk1 := (withEmpty w s).toks) (h1 := (withEmpty w s).heap.push { cls := .type "tuple_iterator", data := .fields #[.ref l, .int 0 0] }) (Walks.tuple (prog := P) (w := w) hh3 _ l ne items).toS (fun _ _ q => q) rfl lS isz few val hk hu (fun b o e => Heap.get?_push_of_some _ e) ⟨⟨_, Heap.get?_push_size _ rfl, rfl, rfl⟩, hl1.push _⟩
          refine codeAny_mono z fun r s2 ⟨e, m⟩ => ?_
          subst e
          obtain ⟨_, h2, tk, e, T, k⟩ := m
          subst e
          exact wpAny_pure (wpAny_pure ⟨rfl, h2, tk, rfl, T, k⟩)
      · cases r2 with
        | error e => exact hr2
        | ok fl2 =>
          cases fl2 with
          | ret r =>
            obtain ⟨rfl, h2, tk, rfl, T, k⟩ := hr2
            repeat (any_goals (first | assumption | wp_step))
            exact pack.2.2.1 _ _ T k
          | _ => exact hr2.elim
    | _ => exact hr.elim
end
end Py

/-! Own layer, part G: sets of cells, and sorted lists of cells, of any ints. -/
namespace Py
open PySem PySem.Spec PyProof.Rows L2 SrtO

/-- two ints as a cell -/
def cel (l : List Int) : Int × Int := (l.getD 0 0, l.getD 1 0)
/-- the row of a set at an address -/
def rowAt (L : List (Addr × List Int)) : Value → Addr × List Int
  | .ref a => (L.find? fun p => decide (p.1 = a)).getD (0, [])
  | _ => (0, [])
theorem rowAt_mem {L : List (Addr × List Int)} (one : ∀ p ∈ L, ∀ r ∈ L, p.1 = r.1 → p = r) {p : Addr × List Int} (hp : p ∈ L) : rowAt L (.ref p.1) = p := by
  show (L.find? fun q => decide (q.1 = p.1)).getD (0, []) = p
  cases e : L.find? fun q => decide (q.1 = p.1) with
  | none => exact absurd (List.find?_eq_none.mp e p hp) (by simp)
  | some q =>
    have e1 : q.1 = p.1 := of_decide_eq_true (List.find?_some (p := fun q : Addr × List Int => decide (q.1 = p.1)) e)
    exact one q (List.mem_of_find?_eq_some e) p hp e1
theorem pair_of_row {P : Program} {w : World} {h : Heap} {p : Addr × List Int} (t : L2.IsT P w h p.2 p.1) (hl : p.2.length = 2) : Srt.IsPair h (.ref p.1) (cel p.2).1 (cel p.2).2 := by
  obtain ⟨a, k⟩ := p
  match k, hl with
  | [x, y], _ =>
    obtain ⟨o, items, n, ho, hc, hd, hi⟩ := t
    generalize e : items.toList = vs at hi
    cases hi with
    | cons h1 hi =>
      cases hi with
      | cons h2 hi =>
        cases hi with
        | nil =>
          obtain ⟨t1, e1⟩ := Value.isInt_shape h1
          obtain ⟨t2, e2⟩ := Value.isInt_shape h2
          subst e1 e2
          refine ⟨a, o, t1, t2, n, rfl, ho, hc, ?_⟩
          have e3 : items = #[.int x t1, .int y t2] := by
            rw [← Array.toList_inj, e]
          rw [hd, e3]
          rfl
section
variable {P : Program} {w : World} {A : Around} {E : Value → Shared → Prop} {s : Shared} {a : Addr} {es : Array (Int × Value)} {ep : Nat} {t : SetTable}
/-! a set of any size walked (as the library's walk of a set of fewer than 4096) -/
theorem iter_big {Q : Value → Shared → Prop} (sat : SetAt s.heap a es ep t) (fit : t.fits es.size = true) (sml : es.size ≤ sizeLine) (r : Ris t.place.toList)
    (ldd : w.params.followText "set-order" = true ∨ t.led = true) (kk : ∀ s₂ I, SetIt P w s a es s₂ I → Q (.ref I) s₂) : wpAny (model P w) A (pyIter (.ref a)) Q E s := by
  obtain ⟨o, o1, ocl, o3⟩ := id sat
  have ty : s.TypeIs (.ref a) "set" := ⟨o, o1, ocl⟩
  have alt : a < s.heap.objs.size := Heap.lt_size o1
  refine wpAny_pyIter_slot ty F.slot_set_iter (wpAny_call_entry F.slot_set_iter ty entry_s_iter ?_ (F.args_set_iter_1 _))
  unfold Builtin.«frozenset.__iter__»
  refine wpAny_bind (m := Builtin.Frozenset.slot0 "__iter__" _) (wpAny_of_eq (a := a) (by rfl) ?_)
  refine wpAny_bind (m := Builtin.Frozenset.sizeOf a) ?_
  unfold Builtin.Frozenset.sizeOf
  refine wpAny_bind (wpAny_setEntries_of o1 o3 fit (wpAny_pure ?_))
  first | refine wpAny_bind (setDrawn_at sat fit ?_) | refine wpAny_bind (wpAny_bind (setDrawn_at sat fit ?_))
  cases eb : w.params.followText "set-order" with
  | true =>
    refine wp_if_neg (by simp) ?_
    first | refine wpAny_bind (wpAny_pure ?_) | refine wpAny_pure ?_
    refine wpAny_bind (wpAny_setEpoch_of o1 o3 fit ?_)
    refine wpAny_bind (wpAny_newObj_type (wpAny_pure ⟨_, rfl, "set_iterator", _, ⟨_, Heap.get?_push_size _ rfl, rfl⟩, slot_si_next.lookup, ?_⟩))
    have nea : a ≠ s.heap.objs.size := Nat.ne_of_lt alt
    have jp := pick_perm (w.params.setOrder a ep) es
    have le1 : ((pickOrder (w.params.setOrder a ep) es).toList.map (·.2)).length = (pickOrder (w.params.setOrder a ep) es).size := by rw [List.length_map, Array.length_toList]
    refine kk _ _ (SetIt.of (fun A' hA' => walks_text (P := P) (ep := ep) hA' nea fit eb) le1 (fun b u e => Heap.get?_push_of_some _ e) rfl rfl rfl (Nat.le_refl _) (fun b hb' => ?_) (jp.map _)
      (fun j v q => ?_) ⟨⟨_, Heap.get?_push_size _ rfl, rfl, rfl⟩, sat.at fun u e => Heap.get?_push_of_some _ e⟩)
    · rcases List.mem_cons.mp hb' with z | z
      · exact .inr (Nat.le_of_eq z.symm)
      · exact .inl (List.mem_singleton.mp z)
    · rw [List.getElem?_map, Array.getElem?_toList]; exact q
  | false =>
    have ledt : t.led = true := ldd.resolve_left (by rw [eb]; exact Bool.false_ne_true)
    cases edr : (!t.plain && decide (es.size > 1)) with
    | false =>
      refine wp_if_neg (by simp) ?_
      first | refine wpAny_bind (wpAny_pure ?_) | refine wpAny_pure ?_
      refine wpAny_bind (wpAny_setEpoch_of o1 o3 fit ?_)
      refine wpAny_bind (wpAny_newObj_type (wpAny_pure ⟨_, rfl, "set_iterator", _, ⟨_, Heap.get?_push_size _ rfl, rfl⟩, slot_si_next.lookup, ?_⟩))
      have nea : a ≠ s.heap.objs.size := Nat.ne_of_lt alt
      have le1 : (es.toList.map (·.2)).length = es.size := by rw [List.length_map, Array.length_toList]
      refine kk _ _ (SetIt.of (fun A' hA' => walks_led (P := P) (ep := ep) hA' nea fit r eb edr ledt) le1 (fun b u e => Heap.get?_push_of_some _ e) rfl rfl rfl (Nat.le_refl _) (fun b hb' => ?_) (List.Perm.refl _)
        (fun j v q => ?_) ⟨⟨_, Heap.get?_push_size _ rfl, rfl, rfl⟩, sat.at fun u e => Heap.get?_push_of_some _ e⟩)
      · rcases List.mem_cons.mp hb' with z | z
        · exact .inr (Nat.le_of_eq z.symm)
        · exact .inl (List.mem_singleton.mp z)
      · rw [List.getElem?_map, Array.getElem?_toList]; exact q
    | true =>
      refine wp_if_pos rfl ?_
      refine wpAny_bind (drawOrder_at _ _ _ _ (Nat.le_of_eq List.length_range) fun ys d jp => ?_)
      have hyl : ys.length = es.size := by rw [jp.length_eq, List.length_range]
      have hsl : (ys.map fun (k : Nat) => rawInt (k : Int)).length ≤ sizeLine := by rw [List.length_map, hyl]; exact sml
      first | refine wpAny_bind (wpAny_newTuple ?_ hsl) | refine wpAny_newTuple ?_ hsl
      have o1b : (s.heap.push { cls := .type "tuple", data := .seq (ys.map fun (k : Nat) => rawInt (k : Int)).toArray }).get? a = some o := Heap.get?_push_of_some _ o1
      refine wpAny_bind (wpAny_setEpoch_of o1b o3 fit ?_)
      refine wpAny_bind (wpAny_newObj_type (wpAny_pure ⟨_, rfl, "set_iterator", _, ⟨_, Heap.get?_push_size _ rfl, rfl⟩, slot_si_next.lookup, ?_⟩))
      have hsz2 : (s.heap.push { cls := .type "tuple", data := .seq (ys.map fun (k : Nat) => rawInt (k : Int)).toArray }).objs.size = s.heap.objs.size + 1 := size_push' _ _
      have nea : a ≠ (s.heap.push { cls := .type "tuple", data := .seq (ys.map fun (k : Nat) => rawInt (k : Int)).toArray }).objs.size := by rw [hsz2]; exact Nat.ne_of_lt (Nat.lt_succ_of_lt (Heap.lt_size o1))
      have hpe : s.heap.objs.size ≠ (s.heap.push { cls := .type "tuple", data := .seq (ys.map fun (k : Nat) => rawInt (k : Int)).toArray }).objs.size := by rw [hsz2]; omega
      have hys : ∀ j ∈ ys, j < es.size := fun j hj => List.mem_range.mp (jp.mem_iff.mp hj)
      have le1 : (ys.map fun q => ((es[q]?).map (·.2)).getD Value.none).length = ys.length := List.length_map _
      have hpm : (ys.map fun q => ((es[q]?).map (·.2)).getD Value.none).Perm (es.toList.map (·.2)) := by
        rw [← range_map es]
        exact jp.map _
      refine kk _ _ (SetIt.of (fun A' hA' => walks_drawn (P := P) (w := w) (ep := ep) (t := t) hA' nea hpe fit hys) le1 (fun b u e => Heap.get?_push_of_some _ (Heap.get?_push_of_some _ e)) rfl rfl rfl ?_ (fun b hb' => ?_) hpm
        (fun j v q => ?_) ⟨⟨_, Heap.get?_push_size _ rfl, rfl, rfl⟩, sat.at fun u e => Heap.get?_push_of_some _ (Heap.get?_push_of_some _ e), Heap.get?_push_of_some _ (Heap.get?_push_size _ rfl)⟩)
      · rw [hsz2]; exact Nat.le_succ _
      · rcases List.mem_cons.mp hb' with z | z
        · exact .inr (by rw [z, hsz2]; exact Nat.le_succ _)
        · rcases List.mem_cons.mp z with z | z
          · exact .inl z
          · exact .inr (Nat.le_of_eq (List.mem_singleton.mp z).symm)
      · rw [List.getElem?_map]
        cases hy : ys[j]? with
        | none => rw [hy] at q; cases q
        | some k =>
          rw [hy] at q
          have q' : (es[k]?).map (·.2) = some v := q
          show some (((es[k]?).map (·.2)).getD Value.none) = some v
          rw [q'] <;> rfl

theorem collect_big {Q : List Value → Shared → Prop} (nh : A.handled = none) (sat : SetAt s.heap a es ep t) (fit : t.fits es.size = true) (sml : es.size ≤ sizeLine) (r : Ris t.place.toList)
    (ldd : w.params.followText "set-order" = true ∨ t.led = true)
    (kk : ∀ s' out, (∀ b o, s.heap.get? b = some o → s'.heap.get? b = some o) → s.heap.objs.size ≤ s'.heap.objs.size → s'.gens = s.gens → s'.os = s.os → out.Perm (es.toList.map (·.2)) → Q out s') :
    wpAny (model P w) A (collect (.ref a)) Q E s := by
  obtain ⟨o, o1, ocl, o3⟩ := id sat
  have alt : a < s.heap.objs.size := Heap.lt_size o1
  have sna : s.heap.objs.size ≠ a := Nat.ne_of_gt alt
  unfold collect
  refine wpAny_bind (wpAny_runValue (codeAny_builtin F.entry_proto_collect ?_))
  rw [Around.under_plainId F.plain_proto_collect _]
  show wpAny _ A.in1 (newList [] >>= fun l => again (.builtin "list.__iadd__" ⟨[l, .ref a], []⟩)) _ _ s
  refine wpAny_bind (wpAny_newObj_type ?_)
  refine wpAny_pure ⟨plainId_quiet F.plain_list_iadd _, codeAny_builtin F.entry_list_iadd ?_⟩
  rw [Around.under_plainId F.plain_list_iadd _]
  have sat0 : (s.heap.push { cls := .type "list", data := .seq ([] : List Value).toArray }).get? s.heap.objs.size = some { cls := .type "list", data := .seq ([] : List Value).toArray } := Heap.get?_push_size _ rfl
  have sat1 : SetAt (s.heap.push { cls := .type "list", data := .seq ([] : List Value).toArray }) a es ep t := sat.at fun u e => Heap.get?_push_of_some _ e
  have zz1 : (s.heap.push { cls := .type "list", data := .seq ([] : List Value).toArray }).objs.size = s.heap.objs.size + 1 := size_push' _ _
  show wpAny _ A.in1 (Builtin.List.listExtendWith (.ref s.heap.objs.size) (.ref a) (.ref s.heap.objs.size)) _ _ _
  unfold Builtin.List.listExtendWith
  refine wpAny_bind (wpAny_typeOf (T := "set") ⟨o, Heap.get?_push_of_some _ o1, ocl⟩ ?_)
  have q1 : Builtin.List.listSameRef (.ref s.heap.objs.size) (.ref a) = false := by simp [Builtin.List.listSameRef, sna]
  have q2 : (Value.type "set" == Value.type "list") = false := by decide
  have q3 : (Value.type "set" == Value.type "tuple") = false := by decide
  simp only [q1, q2, q3, Bool.or_false, Bool.false_eq_true, if_false]
  refine wpAny_bind (iter_big (s := { s with heap := s.heap.push { cls := .type "list", data := .seq ([] : List Value).toArray } }) sat1 fit sml r ldd fun s₂ I itt => ?_)
  obtain ⟨fp, St, out, Pv, k2, g2, o2, t2, jI, jfp, jp, jW, jPv, jst⟩ := itt
  have jI2 : s.heap.objs.size + 1 ≤ I := by rw [← zz1]; exact jI
  have sNf : s.heap.objs.size ∉ fp := fun mm => by
    rcases jfp _ mm with z | z
    · exact sna z
    · have z' : s.heap.objs.size + 1 ≤ s.heap.objs.size := by rw [← zz1]; exact z
      omega
  have o1b := k2 a o (Heap.get?_push_of_some _ o1)
  have ty2 : s₂.TypeIs (.ref a) "set" := ⟨o, o1b, ocl⟩
  refine wpAny_bind (wpAny_holding ?_)
  unfold Builtin.List.listLengthHint
  refine wpAny_bind (wpAny_specialOf ty2 F.slot_set_len.lookup ?_)
  (generalize eid : ("set.__len__" : String) = idz; (fail_if_success (clear eid idz)); wp_delta; rw [show splitId idz = some ("set", "__len__") from by subst eid; decide +kernel]; subst eid)
  refine wpAny_bind (wpAny_isInstance (b := true) ty2 sub_set_self ?_)
  show wpAny _ A.in1 (typeOf (.ref a) >>= _) _ _ _
  refine wpAny_bind (wpAny_typeOf ty2 ?_)
  refine wpAny_pure ?_
  show wpAny _ A.in1 (rule "list.extend.makes-room" >>= fun _ => Builtin.List.listTouch (.ref s.heap.objs.size) >>= fun _ =>
    again (.builtin "list.extend.loop" ⟨[.ref s.heap.objs.size, .ref I, .ref s.heap.objs.size], []⟩)) _ _ _
  refine wpAny_bind (wpAny_rule ?_)
  have sat2 := k2 _ _ sat0
  refine wpAny_bind ?_
  show wpAny _ A.in1 (updateSeq s.heap.objs.size (·.push .none) >>= fun _ => updateSeq s.heap.objs.size (·.pop)) _ _ _
  refine wpAny_bind (wpAny_updateSeq sat2 rfl ?_)
  have sat3 := Heap.get?_update_self (Obj.mapSeq (·.push Value.none)) sat2 rfl
  refine wpAny_updateSeq sat3 rfl ?_
  have sat4 := Heap.get?_update_self (Obj.mapSeq (·.pop)) sat3 rfl
  have others : ∀ b u, b ≠ s.heap.objs.size → s₂.heap.get? b = some u → ((s₂.heap.update s.heap.objs.size (Obj.mapSeq (·.push Value.none))).update s.heap.objs.size (Obj.mapSeq (·.pop))).get? b = some u :=
    fun b u eb e => (Heap.get?_update_other _ _ (Ne.symm eb)).trans ((Heap.get?_update_other _ _ (Ne.symm eb)).trans e)
  have small : out.length ≤ sizeLine := by
    rw [jp.length_eq, List.length_map, Array.length_toList]
    exact sml
  have WW := jW A.in1 nh
  have jst2 : St 0 ((s₂.heap.update s.heap.objs.size (Obj.mapSeq (·.push Value.none))).update s.heap.objs.size (Obj.mapSeq (·.pop))) :=
    WW.frame 0 _ _ jst fun b eb u e => others b u (fun z => sNf (z ▸ eb)) e
  refine wpAny_pure ⟨plainId_quiet F.plain_extend_loop _, codeAny_extend_loopS WW.toS small _ sNf _ out.length 0 _ _ _ rfl (Nat.zero_le _) jst2 sat4 (ItemsOf.nil Pv) fun s' acc' c' mm satE acce => ?_⟩
  show wpAny _ A (load s.heap.objs.size >>= _) _ _ s'
  refine wpAny_bind (wpAny_load satE ?_)
  have eout := items_out acce jPv
  refine wpAny_pure ?_
  show Q acc'.toList s'
  rw [eout]
  refine kk s' out (fun b u e => ?_) (Nat.le_of_lt (Heap.lt_size satE)) (Eq.trans mm.gens g2) (Eq.trans mm.os o2) jp
  have bl1 : b < s.heap.objs.size := Heap.lt_size e
  refine mm.heap b u (fun z => ?_) (others b u (Nat.ne_of_lt bl1) (k2 b u (Heap.get?_push_of_some _ e)))
  rcases List.mem_cons.mp z with z | z
  · first
      | exact absurd bl1 (by rw [z]; exact Nat.lt_irrefl _)
      | exact absurd bl1 (by rw [z]; exact Nat.not_lt_of_le (Nat.le_of_succ_le jI2))
  · have z := List.mem_singleton.mp z
    first
      | exact absurd bl1 (by rw [z]; exact Nat.lt_irrefl _)
      | exact absurd bl1 (by rw [z]; exact Nat.not_lt_of_le (Nat.le_of_succ_le jI2))

end
section
variable {P : Program} {w : World} {A : Around} {E : Value → Shared → Prop} {s : Shared}
/-- sorted(a set of cells) -/
theorem sorted_cells {a : Addr} {L : List (Addr × List Int)} {es : Array (Int × Value)} {ep : Nat} {t : SetTable} {Q : Value → Shared → Prop} (R : SB P w s.heap a L es ep t) (hh : A.handled = none) (h2 : ∀ p ∈ L, p.2.length = 2)
    (hQ : ∀ (h' : Heap) (g : Array GenState) (d : Drawn) (tk : Nat) (q : Addr) (out : List (Addr × List Int)), (∀ b o, s.heap.get? b = some o → h'.get? b = some o) → g = s.gens → s.heap.objs.size ≤ q →
      (∃ c, h'.get? q = some (seqObj "list" (out.map fun p => Value.ref p.1).toArray c)) → out.Perm L → out.Pairwise (fun p r => lexB (cel r.2) (cel p.2) = false) → Q (.ref q) { s with heap := h', gens := g, drawn := d, toks := tk }) :
    wpAny (model P w) A (call (.builtin "sorted") [.ref a]) Q E s := by
  obtain ⟨ob, hob, hex, hda⟩ := R.obj
  have nsz := R.size
  have nfew := R.few
  have uniq : ∀ p ∈ L, ∀ r ∈ L, p.1 = r.1 → p = r := by
    intro p hp r hr e
    have tp := R.tup p hp
    rw [e] at tp
    exact Prod.ext e (tp.inj (R.tup r hr))
  refine Calls.call_function_entry kind_sorted plain_sorted entry_sorted (args_sorted1 _) ?_
  unfold Builtin.«sorted»
  refine wpAny_bind (m := checkCount "sorted" 1 1 _) (wpAny_pure ?_)
  refine wpAny_bind (collect_big (A := A.in1) hh ⟨ob, hob, hex.1, hda⟩ R.fits (by rw [sizeLine_eq]; omega) R.tab.up R.led ?_)
  intro s1 met kp szle gens1 os1 perm1
  have perm2 : met.Perm (L.map fun p => Value.ref p.1) := by
    refine perm1.trans (List.Perm.of_eq ?_)
    rw [R.row]
    simp only [rowsOf, List.map_map]
    rfl
  have len : met.length = L.length := by rw [perm2.length_eq, List.length_map]
  have isp : ∀ h', (∀ b o, s.heap.get? b = some o → h'.get? b = some o) → ∀ v ∈ met, Srt.IsPair h' v (cel (rowAt L v).2).1 (cel (rowAt L v).2).2 := by
    intro h' kh v hv
    obtain ⟨p, hp, rfl⟩ := List.mem_map.mp (perm2.mem_iff.mp hv)
    rw [rowAt_mem uniq hp]
    exact pair_of_row (isT_keep (R.tup p hp) kh) (h2 p hp)
  have bound : met.length ≤ sizeLine := by rw [sizeLine_eq]; omega
  refine wpAny_bind (wpAny_newList ?_ bound)
  have hnew : (s1.heap.push (seqObj "list" met.toArray 0)).get? s1.heap.objs.size = some (seqObj "list" met.toArray 0) := Heap.get?_push_size _ rfl
  have kp2 : ∀ b o, s.heap.get? b = some o → (s1.heap.push (seqObj "list" met.toArray 0)).get? b = some o := fun b o e => Heap.get?_push_of_some _ (kp b o e)
  refine wpAny_bind (wpAny_holding (wpAny_call_entry slot_list_sort ⟨_, hnew, rfl⟩ entry_list_sort
    (list_sort_ord (s := { s1 with heap := s1.heap.push (seqObj "list" met.toArray 0) }) (swo_lex fun v => cel (rowAt L v).2) hnew bound (fun two => pairs_sortableO (k := fun v => cel (rowAt L v).2) (by omega) (fun v hv => isp _ kp2 v hv) fun o e c => ?_) fun out hs hb => ⟨_, rfl, ?_⟩) (args_list_sort _)))
  · have e' := e.symm.trans hnew
    cases e'
    exact absurd (Value.type.inj c) (by decide)
  · have perm3 : out.Perm met := hb.perm
    have e1 : (out.map (rowAt L)).map (fun p => Value.ref p.1) = out := by
      rw [List.map_map]
      refine (List.map_congr_left fun v hv => ?_).trans (List.map_id out)
      obtain ⟨p, hp, rfl⟩ := List.mem_map.mp (perm2.mem_iff.mp (perm3.mem_iff.mp hv))
      show Value.ref (rowAt L (.ref p.1)).1 = _
      rw [rowAt_mem uniq hp] <;> rfl
    have e2 : (L.map fun p => Value.ref p.1).map (rowAt L) = L := by
      rw [List.map_map]
      refine (List.map_congr_left fun p hp => ?_).trans (List.map_id L)
      exact rowAt_mem uniq hp
    obtain ⟨c, hc⟩ := sortedHeap_at (vs := met) (out := out.toArray) hnew
    refine wpAny_pure ⟨_, rfl, ?_⟩
    have eq : ({ s1 with heap := sortedHeap (s1.heap.push (seqObj "list" met.toArray 0)) s1.heap.objs.size met out.toArray } : Shared) = { s with heap := sortedHeap (s1.heap.push (seqObj "list" met.toArray 0)) s1.heap.objs.size met out.toArray, gens := s1.gens, drawn := s1.drawn, toks := s1.toks } := by
      cases s1
      cases s
      cases os1
      rfl
    rw [eq]
    refine hQ _ s1.gens s1.drawn s1.toks s1.heap.objs.size (out.map (rowAt L)) (fun b o e => ?_) gens1 szle ⟨c, by rw [e1]; exact hc⟩ ?_ ?_
    · have lt := Heap.lt_size (kp b o e)
      rw [sortedHeap_old (Nat.ne_of_lt lt) (by rw [size_push']; exact Nat.lt_succ_of_lt lt)]
      exact kp2 b o e
    · have z := (perm3.trans perm2).map (rowAt L)
      rw [e2] at z
      exact z
    · rw [List.pairwise_map]
      exact hs.imp fun h => h
end
/-- the set at a, without the tuples themselves -/
structure SB0 (P : Program) (w : World) (h : Heap) (a : Addr) (L : List (Addr × List Int)) : Prop where
  ex : ∃ (es : Array (Int × Value)) (ep : Nat) (t : SetTable), ∀ h2 : Heap, (∀ o, h.get? a = some o → h2.get? a = some o) → (∀ p ∈ L, L2.IsT P w h2 p.2 p.1) → SB P w h2 a L es ep t
  th : ∃ o, h.get? a = some o
  few : L.length ≤ 9800
  dif : (L.map Prod.snd).Nodup
def SetBO (P : Program) (w : World) (a : Addr) (L : List (Addr × List Int)) : HO := .ext fun h => SB0 P w h a L
theorem SB.low {P : Program} {w : World} {h : Heap} {a : Addr} {L : List (Addr × List Int)} {es : Array (Int × Value)} {ep : Nat} {t : SetTable} (R : SB P w h a L es ep t) : SB0 P w h a L :=
  ⟨⟨es, ep, t, fun _ ha ht => R.move ha ht⟩, (by
    obtain ⟨o, o1, _⟩ := R.obj
    exact ⟨o, o1⟩), R.few, R.dif⟩
theorem setBO_new {P : Program} {w : World} {H : Hp} {h : Heap} {a : Addr} {L : List (Addr × List Int)} (R : SB0 P w h a L) : ObjOk P w H h a (SetBO P w a L) := by
  refine ⟨R, R.th, fun h1 h2 p k => ?_⟩
  have p' : SB0 P w h1 a L := p
  obtain ⟨es, ep, t, f⟩ := p'.ex
  obtain ⟨o, o1⟩ := p'.th
  exact ⟨⟨es, ep, t, fun h3 ha ht => f h3 (fun o e => ha o (k o e)) ht⟩, ⟨o, k o o1⟩, p'.few, p'.dif⟩
/-- set(xs) -/
def rSetB (K : PySem.W.Frag) (P : Program) (w : World) : List V → Hp → VK → Prop := fun xs H Q => ∃ (l : Addr) (ks : List (Addr × List Int)), xs = [V.ref l] ∧ (SqL K H l (ks.map fun p => V.ref p.1) ∨ SqT K H l (ks.map fun p => V.ref p.1)) ∧ (∀ p ∈ ks, SqT K H p.1 (p.2.map V.int)) ∧ Few ks ∧
  ∀ a L, H a = none → (∀ p ∈ L, p ∈ ks) → (∀ p ∈ ks, p.2 ∈ L.map Prod.snd) → (L.map Prod.snd).Nodup → Q (.ref a) (upd H a (SetBO P w a L))
theorem cr_setB {X : Cx} (hc : X.calm = true) (hu : X.A.units + 64 < cLine) : CallR X (.type "set") (rSetB X.K X.prog X.w) := by
  intro pins s σ H xs us Q I r ⟨l, ks, e, hl, hk, hf, q⟩
  subst e
  rw [Vals.ref1 r]
  have src : ∃ items : Array Value, (s.heap.IsList l items ∨ s.heap.IsTuple l items) ∧ items.toList = ks.map fun p => Value.ref p.1 := by
    rcases hl with hl | hl
    · obtain ⟨its, rv, pl, _⟩ := I.list hl
      exact ⟨its.toArray, .inl pl.isList, by simpa using refs_of_vals rv⟩
    · obtain ⟨its, rv, pl, _⟩ := I.tuple hl
      exact ⟨its.toArray, .inr pl, by simpa using refs_of_vals rv⟩
  obtain ⟨items, src, hit⟩ := src
  have hn : H s.heap.objs.size = none := I.hok.fresh (Nat.le_refl _)
  refine call_setB (P := X.prog) (w := X.w) ks (I.ok.hd hc) src hit (fun p hp => I.isT (hk p hp)) hf (by omega) fun h2 tk ⟨L, es, ep, t, R, g⟩ k => ?_
  refine ⟨.ref s.heap.objs.size, upd H s.heap.objs.size (SetBO X.prog X.w s.heap.objs.size L), I.laid (t' := tk) k (Nat.le_refl _) (setBO_new R.low), rfl, q _ L hn (fun p hp => List.mem_of_mem_take (g.sub p hp)) (fun p hp => g.all p ?_) R.dif⟩
  rw [List.take_length]
  exact hp
/-- sorted(set(..)) -/
def rSortSetC (K : PySem.W.Frag) (P : Program) (w : World) : List V → Hp → VK → Prop := fun vs H Q => ∃ a L, vs = [V.ref a] ∧ H a = some (SetBO P w a L) ∧ (∀ p ∈ L, SqT K H p.1 (p.2.map V.int) ∧ p.2.length = 2) ∧
  ∀ (out : List (Addr × List Int)) (q : Addr), out.Perm L → (out.map (·.2)).Nodup → out.Pairwise (fun p r => lexB (cel r.2) (cel p.2) = false) → H q = none → Q (.ref q) (upd H q (.lst (out.map fun p => V.ref p.1)))
theorem cr_sortSetC {X : Cx} (hc : X.calm = true) : CallR X (.builtin "sorted") (rSortSetC X.K X.prog X.w) := by
  intro pins s σ H vs us Q I r ⟨a, L, e, ha, hk, q⟩
  subst e
  have R0 : SB0 X.prog X.w s.heap a L := (I.hok a _ ha).1
  obtain ⟨es, ep, t, R1⟩ := R0.ex
  have R := R1 s.heap (fun _ e => e) fun p hp => I.isT (hk p hp).1
  rw [Vals.ref1 r]
  refine sorted_cells R (I.ok.hd hc) (fun p hp => (hk p hp).2) fun h' g d tk p out kp eg hp ⟨c, hg⟩ pm pw => ?_
  have hn : H p = none := I.hok.fresh hp
  have hz : (out.map fun p => V.ref p.1).length ≤ sizeLine := by
    rw [List.length_map, pm.length_eq, sizeLine_eq]
    have := R.few
    omega
  refine ⟨.ref p, upd H p (.lst (out.map fun p => V.ref p.1)), ?_, rfl, q out p pm ((pm.map _).nodup_iff.mpr R.dif) pw hn⟩
  exact I.call (ch := []) (Un.laid kp hp hn) (I.hok.laid kp hp ⟨hz, _, c, vals_of_refs out, hg⟩) (by rw [eg]; exact I.bare) (fun _ z => nomatch z)

/-! ### rising lists -/
theorem ltC_iff {a b : Int × Int} : ltC a b = true ↔ (a.1 < b.1 ∨ (a.1 = b.1 ∧ a.2 < b.2)) := decide_eq_true_iff
theorem ltC_tri (a b : Int × Int) : ltC a b = true ∨ a = b ∨ ltC b a = true := by
  rw [ltC_iff, ltC_iff, Prod.ext_iff]
  omega
theorem ltC_trans {a b c : Int × Int} (h1 : ltC a b = true) (h2 : ltC b c = true) : ltC a c = true := by
  rw [ltC_iff] at *
  omega
theorem ltC_irrefl (a : Int × Int) : ¬ ltC a a = true := by
  rw [ltC_iff]
  omega
theorem lexB_ltC {a b : Int × Int} (h : lexB b a = false) (ne : a ≠ b) : ltC a b = true := by
  have h1 := lexB_no.mp h
  rcases ltC_tri a b with z | z | z
  · exact z
  · exact absurd z ne
  · exact absurd (ltC_iff.mp z) h1
/-- strictly rising -/
abbrev Up (xs : List (Int × Int)) : Prop := xs.Pairwise fun a b => ltC a b = true
theorem mem_insC (x c : Int × Int) : ∀ xs, c ∈ insC x xs ↔ c = x ∨ c ∈ xs
  | [] => by simp [insC]
  | y :: r => by
    unfold insC
    split
    · simp
    · split
      · next e => subst e; simp
      · rw [List.mem_cons, mem_insC x c r, List.mem_cons]
        constructor
        · rintro (h | h | h)
          · exact .inr (.inl h)
          · exact .inl h
          · exact .inr (.inr h)
        · rintro (h | h | h)
          · exact .inr (.inl h)
          · exact .inl h
          · exact .inr (.inr h)
theorem up_insC (x : Int × Int) : ∀ xs, Up xs → Up (insC x xs)
  | [], _ => List.pairwise_singleton _ _
  | y :: r, h => by
    obtain ⟨h1, h2⟩ := List.pairwise_cons.mp h
    unfold insC
    split
    · next lt =>
      refine List.pairwise_cons.mpr ⟨fun z hz => ?_, h⟩
      rcases List.mem_cons.mp hz with e | e
      · rw [e]; exact lt
      · exact ltC_trans lt (h1 z e)
    · next lt =>
      split
      · exact h
      · next ne =>
        refine List.pairwise_cons.mpr ⟨fun z hz => ?_, up_insC x r h2⟩
        rcases (mem_insC x z r).mp hz with e | e
        · rw [e]
          rcases ltC_tri y x with q | q | q
          · exact q
          · exact absurd q.symm ne
          · exact absurd q lt
        · exact h1 z e
theorem mem_rise (c : Int × Int) : ∀ xs, c ∈ rise xs ↔ c ∈ xs
  | [] => Iff.rfl
  | x :: xs => by
    show c ∈ insC x (rise xs) ↔ _
    rw [mem_insC, mem_rise c xs, List.mem_cons]
theorem up_rise : ∀ xs, Up (rise xs)
  | [] => .nil
  | x :: xs => up_insC x _ (up_rise xs)
theorem up_eq : ∀ {a b : List (Int × Int)}, Up a → Up b → (∀ c, c ∈ a ↔ c ∈ b) → a = b
  | [], [], _, _, _ => rfl
  | [], y :: b, _, _, h => absurd ((h y).mpr List.mem_cons_self) (by simp)
  | x :: a, [], _, _, h => absurd ((h x).mp List.mem_cons_self) (by simp)
  | x :: a, y :: b, ha, hb, h => by
    obtain ⟨a1, a2⟩ := List.pairwise_cons.mp ha
    obtain ⟨b1, b2⟩ := List.pairwise_cons.mp hb
    have e : x = y := by
      rcases List.mem_cons.mp ((h x).mp List.mem_cons_self) with z | z
      · exact z
      · rcases List.mem_cons.mp ((h y).mpr List.mem_cons_self) with q | q
        · exact q.symm
        · exact absurd (ltC_trans (a1 y q) (b1 x z)) (ltC_irrefl x)
    subst e
    refine congrArg _ (up_eq a2 b2 fun c => ⟨fun hc => ?_, fun hc => ?_⟩)
    · rcases List.mem_cons.mp ((h c).mp (List.mem_cons_of_mem _ hc)) with z | z
      · rw [z] at hc
        exact absurd (a1 x hc) (ltC_irrefl x)
      · exact z
    · rcases List.mem_cons.mp ((h c).mpr (List.mem_cons_of_mem _ hc)) with z | z
      · rw [z] at hc
        exact absurd (b1 x hc) (ltC_irrefl x)
      · exact z
theorem rise_up {xs : List (Int × Int)} (h : Up xs) : rise xs = xs := up_eq (up_rise xs) h fun c => mem_rise c xs
theorem len_insC (x : Int × Int) : ∀ xs, (insC x xs).length ≤ xs.length + 1
  | [] => Nat.le_refl _
  | y :: r => by
    unfold insC
    split
    · exact Nat.le_refl _
    · split
      · exact Nat.le_succ _
      · exact Nat.succ_le_succ (len_insC x r)
theorem len_rise : ∀ xs, (rise xs).length ≤ xs.length
  | [] => Nat.le_refl _
  | x :: xs => Nat.le_trans (len_insC x _) (Nat.succ_le_succ (len_rise xs))

/-! ### the set as a value: its cells, rising -/
def RowOk (H : Hp) (p : Addr × List Int) : Prop := H p.1 = some (.tup (p.2.map V.int)) ∧ p.2.length = 2
def SetRep (P : Program) (w : World) (a : List (Int × Int)) (H : Hp) (v : V) : Prop := Up a ∧ ∃ (p : Addr) (L : List (Addr × List Int)), v = .ref p ∧ H p = some (SetBO P w p L) ∧ (∀ q ∈ L, RowOk H q) ∧ ∀ c, c ∈ a ↔ c ∈ L.map fun q => cel q.2
def rSet (P : Program) (w : World) : Rp (List (Int × Int)) where
  rep a H v := SetRep P w a H v
  mono e := fun ⟨u, p, L, h, q, r, m⟩ => ⟨u, p, L, h, e p _ q, fun x hx => ⟨e _ _ (r x hx).1, (r x hx).2⟩, m⟩
theorem rows_of {F : Hp} : ∀ {xs : List (Int × Int)} {vs : List V}, RepL rC F xs vs → ∃ ks : List (Addr × List Int), vs = ks.map (fun p => V.ref p.1) ∧ xs = ks.map (fun p => cel p.2) ∧ ∀ p ∈ ks, RowOk F p
  | _, _, .nil => ⟨[], rfl, rfl, fun _ h => absurd h (by simp)⟩
  | _, _, .cons (a := a) (v := v) ⟨p, ws, e, h, v1, ws2, e1, r1, v2, e2, r2⟩ t => by
    obtain ⟨ks, f1, f2, f3⟩ := rows_of t
    refine ⟨(p, [a.1, a.2]) :: ks, by rw [e, f1] <;> rfl, by rw [f2] <;> rfl, fun q hq => ?_⟩
    rcases List.mem_cons.mp hq with z | z
    · subst z
      refine ⟨?_, rfl⟩
      show F p = _
      rw [h, e1, e2, show v1 = V.int a.1 from r1, show v2 = V.int a.2 from r2] <;> rfl
    · exact f3 q z
theorem rows_rep {F : Hp} : ∀ (ks : List (Addr × List Int)), (∀ p ∈ ks, RowOk F p) → RepL rC F (ks.map fun p => cel p.2) (ks.map fun p => V.ref p.1)
  | [], _ => .nil
  | (a, l) :: ks, h => .cons (by
    obtain ⟨h1, h2⟩ := h _ List.mem_cons_self
    match l, h1, h2 with
    | [x, y], h1, _ => exact ⟨a, _, rfl, h1, .int x, _, rfl, rfl, .int y, rfl, rfl⟩) (rows_rep ks fun p hp => h p (List.mem_cons_of_mem _ hp))
theorem cel_inj {a b : List Int} (ha : a.length = 2) (hb : b.length = 2) (h : cel a = cel b) : a = b := by
  match a, b, ha, hb with
  | [x, y], [z, t], _, _ =>
    have h1 : x = z := congrArg Prod.fst h
    have h2 : y = t := congrArg Prod.snd h
    rw [h1, h2]
theorem nodup_len {α : Type} [DecidableEq α] : ∀ {l m : List α}, l.Nodup → (∀ x ∈ l, x ∈ m) → l.length ≤ m.length
  | [], _, _, _ => Nat.zero_le _
  | x :: l, m, h, k => by
    obtain ⟨h1, h2⟩ := List.nodup_cons.mp h
    have hx := k x List.mem_cons_self
    have z := nodup_len (m := m.erase x) h2 fun y hy => (List.mem_erase_of_ne fun e => h1 (by rw [← e]; exact hy)).mpr (k y (List.mem_cons_of_mem _ hy))
    rw [List.length_erase_of_mem hx] at z
    have := List.length_pos_of_mem hx
    rw [List.length_cons]
    omega
theorem few_of {ks : List (Addr × List Int)} (h : (rise (ks.map fun p => cel p.2)).length ≤ 9800) (two : ∀ p ∈ ks, p.2.length = 2) : Few ks := fun L sub nd => by
  have n1 : (L.map fun p => cel p.2).Nodup := by
    have n2 : L.Pairwise fun p r => p.2 ≠ r.2 := List.pairwise_map.mp nd
    exact List.pairwise_map.mpr (n2.imp_of_mem fun {p r} hp hr z e => z (cel_inj (two p (sub p hp)) (two r (sub r hr)) e))
  have s1 : (L.map fun p => cel p.2) ⊆ rise (ks.map fun p => cel p.2) := fun c hc => by
    obtain ⟨p, hp, e⟩ := List.mem_map.mp hc
    exact (mem_rise c _).mpr (List.mem_map.mpr ⟨p, sub p hp, e⟩)
  have z := nodup_len n1 s1
  rw [List.length_map] at z
  omega
theorem dSetG {K : PySem.W.Frag} {P : Program} {w : World} {xs : List (Int × Int)} {p : Addr} {ws : List V} {F H : Hp} {Q : VK} (hl : (rise xs).length ≤ 9800) (e : Same F H) (hp : SqL K H p ws ∨ SqT K H p ws) (r : RepL rC F xs ws)
    (h : ∀ v F' H', Ext F H F' H' → (rSet P w).rep (rise xs) F' v → Q v H') : rSetB K P w [.ref p] H Q := by
  obtain ⟨ks, f1, f2, f3⟩ := rows_of r
  refine ⟨p, ks, rfl, f1 ▸ hp, fun q hq => .inl (.inl (e _ _ (f3 q hq).1)), few_of (f2 ▸ hl) (fun q hq => (f3 q hq).2), fun a L hn hs hall _ => ?_⟩
  have x := Ext.new (o := SetBO P w a L) e hn
  refine h _ _ _ x ⟨up_rise xs, a, L, rfl, upd_same, fun q hq => ⟨x.f _ _ (f3 q (hs q hq)).1, (f3 q (hs q hq)).2⟩, fun c => ?_⟩
  rw [mem_rise, f2]
  constructor
  · intro hc
    obtain ⟨q, hq, e3⟩ := List.mem_map.mp hc
    obtain ⟨q2, hq2, e4⟩ := List.mem_map.mp (hall q hq)
    exact List.mem_map.mpr ⟨q2, hq2, by rw [← e3]; exact congrArg cel e4⟩
  · intro hc
    obtain ⟨q, hq, e3⟩ := List.mem_map.mp hc
    exact List.mem_map.mpr ⟨q, hs q hq, e3⟩
theorem dSetL {K : PySem.W.Frag} {P : Program} {w : World} : DC (rSetB K P w) (t1 (rL rC)) (rSet P w) fun xs => chk ((rise xs).length ≤ 9800) (rise xs) := fun xs vs F H Q e ⟨v, ev, p, ws, e2, hp, r⟩ h => by
  obtain ⟨hl, h⟩ := wpR_chk h
  rw [ev, e2]
  exact dSetG hl e (.inl (.inl (.inl (e p _ hp)))) r h
theorem dSortSet {K : PySem.W.Frag} {P : Program} {w : World} : DF (rSortSetC K P w) (t1 (rSet P w)) (fun ys => oLi (tl rC) ys) fun a => .ok a := fun a vs F H Q e ⟨v, ev, u, p, L, e2, hp, hr, hm⟩ h => by
  refine ⟨p, L, by rw [ev, e2], e p _ hp, fun q hq => ⟨.inl (.inl (e _ _ (hr q hq).1)), (hr q hq).2⟩, fun out q pm nd pw hn => ?_⟩
  refine h q _ hn ⟨_, rfl, ?_⟩
  have ok : ∀ p ∈ out, RowOk F p := fun p hp => hr p (pm.mem_iff.mp hp)
  have e3 : a = out.map fun p => cel p.2 := by
    refine up_eq u ?_ fun c => ?_
    · rw [Up, List.pairwise_map]
      have nd2 : out.Pairwise fun p r => p.2 ≠ r.2 := List.pairwise_map.mp nd
      refine (List.Pairwise.and pw nd2).imp_of_mem fun {p r} hp hr z => lexB_ltC z.1 fun e => z.2 (cel_inj (ok p hp).2 (ok r hr).2 e)
    · rw [hm]
      exact ((pm.map fun p : Addr × List Int => cel p.2).mem_iff (a := c)).symm
  rw [e3]
  exact rows_rep out ok

/-- set(xs) -/
def sortSet (xs : List (Int × Int)) : R (List (Int × Int)) := chk ((rise xs).length ≤ 9800) (rise xs)
section
variable {X : Cx} {U : Wi} {Γ : List Sl} {e : Expr} {pos p2 p3 p4 : Pos}
theorem x_setL {m : R (List (Int × Int))} (hu : X.A.units + 64 < cLine) (hm : X.mg "set" = none) (he : EX X U Γ e (rL rC) m) (hc : X.calm = true := by rfl) (hg : Gl X "set" := by rfl)
    (h1 : starEach [e] X.env = (false, eval e X.env) :: starEach [] X.env := by rfl) (h2 : (backTo pos (starEach [] X.env)).any (·.1) = false := by rfl) :
    EX X U Γ (.Call (.Name "set" p2) [e] [] pos) (rSet X.prog X.w) (m.bind sortSet) :=
  (x_callTy (cr_setB hc hu) dSetL hm (by decide +kernel) (a_one he h1) hg (by decide) (by decide) h1 h2).cv (by
    cases m with
    | ok x => show ((chk _ _).calm.bind fun z => R.ok z) = _; rw [chk_calm] <;> rfl
    | er r => rfl
    | bad => rfl)
theorem f_sortset {m : R (List (Int × Int))} (hm : X.mg "sorted" = none) (he : EX X U Γ e (rSet X.prog X.w) m) (hc : X.calm = true := by rfl) (hg : Gl X "sorted" := by rfl)
    (h1 : starEach [e] X.env = (false, eval e X.env) :: starEach [] X.env := by rfl) (h2 : (backTo pos (starEach [] X.env)).any (·.1) = false := by rfl) :
    FX X U Γ (.Call (.Name "sorted" p2) [e] [] pos) (fun ys => oLi (tl rC) ys) m := by
  have h := f_callB (p := p2) (pos := pos) (cr_sortSetC hc) dSortSet hm (by decide +kernel) (a_one he h1) hg (by decide) (by decide) h1 h2
  refine h.cv ?_
  cases m <;> rfl
end

/-! ### sorted lists of cells and of ints -/
def inO {α : Type} (lt : α → α → Bool) (x : α) : List α → List α
  | [] => [x]
  | y :: r => if lt y x = true then y :: inO lt x r else x :: y :: r
def srt {α : Type} (lt : α → α → Bool) (xs : List α) : List α := xs.foldr (inO lt) []
/-- the order is one of values: what neither is below the other is the same -/
structure Tot {α : Type} (lt : α → α → Bool) : Prop where
  asym : ∀ a b, lt a b = true → lt b a = false
  tran : ∀ a b c, lt b a = false → lt c b = false → lt c a = false
  same : ∀ a b, lt a b = false → lt b a = false → a = b
section
variable {α : Type} {lt : α → α → Bool}
abbrev Asc (lt : α → α → Bool) (xs : List α) : Prop := xs.Pairwise fun a b => lt b a = false
theorem perm_inO (x : α) : ∀ xs, (inO lt x xs).Perm (x :: xs)
  | [] => .refl _
  | y :: r => by
    unfold inO
    split
    · exact ((perm_inO x r).cons y).trans (.swap x y r)
    · exact .refl _
theorem perm_srt : ∀ xs : List α, (srt lt xs).Perm xs
  | [] => .refl _
  | x :: xs => (perm_inO x _).trans ((perm_srt xs).cons x)
theorem asc_inO (T : Tot lt) (x : α) : ∀ xs, Asc lt xs → Asc lt (inO lt x xs)
  | [], _ => List.pairwise_singleton _ _
  | y :: r, h => by
    obtain ⟨h1, h2⟩ := List.pairwise_cons.mp h
    unfold inO
    split
    · next c =>
      refine List.pairwise_cons.mpr ⟨fun z hz => ?_, asc_inO T x r h2⟩
      rcases List.mem_cons.mp ((perm_inO x r).mem_iff.mp hz) with e | e
      · rw [e]; exact T.asym y x c
      · exact h1 z e
    · next c =>
      have c' : lt y x = false := by simpa using c
      refine List.pairwise_cons.mpr ⟨fun z hz => ?_, h⟩
      rcases List.mem_cons.mp hz with e | e
      · rw [e]; exact c'
      · exact T.tran x y z c' (h1 z e)
theorem asc_srt (T : Tot lt) : ∀ xs : List α, Asc lt (srt lt xs)
  | [] => .nil
  | x :: xs => asc_inO T x _ (asc_srt T xs)
theorem asc_eq (T : Tot lt) : ∀ {xs ys : List α}, Asc lt xs → Asc lt ys → xs.Perm ys → xs = ys
  | [], ys, _, _, p => p.nil_eq
  | x :: xs, [], _, _, p => absurd p.length_eq (by simp)
  | x :: xs, y :: ys, hx, hy, p => by
    obtain ⟨x1, x2⟩ := List.pairwise_cons.mp hx
    obtain ⟨y1, y2⟩ := List.pairwise_cons.mp hy
    have irr : ∀ a : α, lt a a = false := fun a => by
      cases e : lt a a with
      | false => rfl
      | true => exact (T.asym a a e).symm.trans e |>.symm ▸ rfl
    have a1 : lt y x = false := by
      rcases List.mem_cons.mp (p.mem_iff.mpr (List.mem_cons_self (a := y) (l := ys))) with e | e
      · rw [e]; exact irr x
      · exact x1 y e
    have a2 : lt x y = false := by
      rcases List.mem_cons.mp (p.mem_iff.mp (List.mem_cons_self (a := x) (l := xs))) with e | e
      · rw [e]; exact irr y
      · exact y1 x e
    have e := T.same x y a2 a1
    subst e
    rw [asc_eq T x2 y2 p.cons_inv]
end
theorem ltC_no {a b : Int × Int} : ltC a b = false ↔ ¬ (a.1 < b.1 ∨ (a.1 = b.1 ∧ a.2 < b.2)) := decide_eq_false_iff_not
theorem totC : Tot ltC := ⟨fun a b h => by rw [ltC_iff] at h; rw [ltC_no]; omega, fun a b c h1 h2 => by rw [ltC_no] at *; omega, fun a b h1 h2 => by rw [ltC_no] at *; rw [Prod.ext_iff]; omega⟩
/-- sorted(xs) of cells -/
abbrev sortC (xs : List (Int × Int)) : List (Int × Int) := srt ltC xs
theorem up_asc {xs : List (Int × Int)} (h : Up xs) : Asc ltC xs := h.imp fun {a b} z => totC.asym a b z
/-- the cell of a value, by the rows that were told -/
def celOf (ks : List (Addr × List Int)) : V → Int × Int
  | .ref a => cel ((ks.find? fun p => decide (p.1 = a)).getD (0, [])).2
  | _ => (0, 0)
theorem celOf_mem {H : Hp} {ks : List (Addr × List Int)} (hk : ∀ p ∈ ks, RowOk H p) {p : Addr × List Int} (hp : p ∈ ks) : celOf ks (.ref p.1) = cel p.2 := by
  show cel ((ks.find? fun q => decide (q.1 = p.1)).getD (0, [])).2 = _
  cases e : ks.find? fun q => decide (q.1 = p.1) with
  | none => exact absurd (List.find?_eq_none.mp e p hp) (by simp)
  | some q =>
    have e1 : q.1 = p.1 := of_decide_eq_true (List.find?_some (p := fun q : Addr × List Int => decide (q.1 = p.1)) e)
    have a1 := (hk q (List.mem_of_find?_eq_some e)).1
    have a2 := (hk p hp).1
    rw [e1, a2] at a1
    have a3 : p.2.map V.int = q.2.map V.int := by injection a1 with z; injection z
    have a4 : p.2 = q.2 := by
      have inj : ∀ l m : List Int, l.map V.int = m.map V.int → l = m := by
        intro l
        induction l with
        | nil => intro m hm; cases m with
          | nil => rfl
          | cons => cases hm
        | cons x l ih => intro m hm; cases m with
          | nil => cases hm
          | cons y m =>
            injection hm with h1 h2
            injection h1 with h1
            rw [h1, ih m h2]
      exact inj _ _ a3
    show cel q.2 = _
    rw [a4]
theorem dSortC {K : PySem.W.Frag} : DF (rSortedPO K) (t1 (rL rC)) (fun ys => oLi (tl rC) ys) fun xs => .ok (sortC xs) := fun xs vs F H Q e ⟨v, ev, p, ws, e2, hp, r⟩ h => by
  obtain ⟨ks, f1, f2, f3⟩ := rows_of r
  have f4 : ∀ p ∈ ks, RowOk H p := fun p hp => ⟨e _ _ (f3 p hp).1, (f3 p hp).2⟩
  refine ⟨p, ws, celOf ks, by rw [ev, e2], .inl (.inl (e p _ hp)), fun x hx => ?_, fun ys q st sb hn => ?_⟩
  · rw [f1] at hx
    obtain ⟨r0, r1, rfl⟩ := List.mem_map.mp hx
    refine ⟨r0.1, rfl, ?_⟩
    rw [celOf_mem f4 r1, (f4 r0 r1).1]
    obtain ⟨a, l⟩ := r0
    have z := (f3 _ r1).2
    match l, z with
    | [x, y], _ => rfl
  · refine h q _ hn ⟨_, rfl, ?_⟩
    have mem : ∀ y ∈ ys, ∃ p ∈ ks, y = V.ref p.1 := fun y hy => by
      have z := sb.perm.mem_iff.mp hy
      rw [f1] at z
      obtain ⟨p, hp, e⟩ := List.mem_map.mp z
      exact ⟨p, hp, e.symm⟩
    have rep : ∀ zs : List V, (∀ y ∈ zs, ∃ p ∈ ks, y = V.ref p.1) → RepL rC F (zs.map (celOf ks)) zs := by
      intro zs
      induction zs with
      | nil => intro _; exact .nil
      | cons y zs ih =>
        intro hz
        obtain ⟨p, hp, rfl⟩ := hz y List.mem_cons_self
        refine .cons ?_ (ih fun u hu => hz u (List.mem_cons_of_mem _ hu))
        rw [celOf_mem f4 hp]
        have one := rows_rep (F := F) [p] fun q hq => by rw [List.mem_singleton.mp hq]; exact f3 p hp
        cases one with
        | cons r _ => exact r
    have e3 : sortC xs = ys.map (celOf ks) := by
      refine asc_eq totC (asc_srt totC xs) ?_ ((perm_srt xs).trans ?_)
      · rw [Asc, List.pairwise_map]
        refine st.imp fun {a b} z => ?_
        have z' := lexB_no.mp (show lexB (celOf ks b) (celOf ks a) = false from z)
        exact ltC_no.mpr z'
      · have z := (sb.perm.map (celOf ks)).symm
        refine List.Perm.trans (List.Perm.of_eq ?_) z
        rw [f2, f1, List.map_map]
        exact List.map_congr_left fun p hp => (celOf_mem f4 hp).symm
    rw [e3]
    exact rep ys mem
section
variable {X : Cx} {U : Wi} {Γ : List Sl} {e : Expr} {pos p2 p3 p4 : Pos}
theorem f_sortC {m : R (List (Int × Int))} (hm : X.mg "sorted" = none) (he : EX X U Γ e (rL rC) m) (hg : Gl X "sorted" := by rfl)
    (h1 : starEach [e] X.env = (false, eval e X.env) :: starEach [] X.env := by rfl) (h2 : (backTo pos (starEach [] X.env)).any (·.1) = false := by rfl) :
    FX X U Γ (.Call (.Name "sorted" p2) [e] [] pos) (fun ys => oLi (tl rC) ys) (m.bind fun xs => .ok (sortC xs)) :=
  (f_callB cr_sortedPO dSortC hm (by decide +kernel) (a_one he h1) hg (by decide) (by decide) h1 h2).cv (by cases m <;> rfl)
end
end Py

/-! Own layer, part H: how a law ends; plain words about mirrors. -/
namespace Py
open PySem PySem.Spec PyProof.Rows L2
theorem dNotB : D2 rNotB rB rB rB fun x y => .ok (!decide (x = y)) := fun x y v w F H Q e rv rw h =>
  ⟨x, y, rv, rw, h _ F H (Ext.refl e) rfl⟩
section
variable {X : Cx} {U : Wi} {Γ : List Sl} {e : Expr} {α ω : Type} {ρ : Rp α} {sts : List Stmt} {I : ω → Kd}
/-- where the law never comes -/
theorem s_bad : SX X U Γ sts I .bad := ⟨fun en F σ H D s h => h.elim⟩
/-- a value that may be None, where it is none of those -/
theorem x_some {m : R (Option α)} (h : EX X U Γ e (rO ρ) m) : EX X U Γ e ρ (m.bind ofOpt) :=
  ⟨fun en F σ H Q s q => h.out en F σ H Q s (wpR_mono (wpR_bind q) (fun x k v F1 H1 e1 s1 r1 => by
    cases x with
    | none => exact k.elim
    | some y => exact k v F1 H1 e1 s1 r1) fun _ z => z)⟩
end
/-- what a law is asked -/
def SpL (K : PySem.W.Frag) : Sp := fun vs H Q _ => ∃ (a : Addr) (ns : List Int), vs = [.ref a] ∧ SqL K H a (ns.map V.int) ∧ ns.length ≤ 63 ∧ (∀ z ∈ ns, Builtin.Int.intBits z ≤ 1048576) ∧ ∀ H', Q (.bl true) H'
theorem law_fn {P : Program} {w : World} {K : PySem.W.Frag} {mg : Str → Option Value} {base : Heap} {CX : CXT} {k : Nat} {f : Addr} {fd : FuncData} {ps : List Str} {g : List Int → R Bool} (F : FnOk P w K mg base CX k f fd ps (SpP mg (t1 (rScr K)) rB g))
    (h : ∀ ns : List Int, ns.length ≤ 63 → (∀ z ∈ ns, Builtin.Int.intBits z ≤ 1048576) → g ns = .ok true) : FnOk P w K mg base CX k f fd ps (SpL K) :=
  F.imp fun vs H Q E ⟨a, ns, e, hS, hl, hb, q⟩ => by
    subst e
    refine ⟨H, ns, Same.refl H, ⟨.ref a, rfl, a, rfl, hS⟩, ?_⟩
    rw [h ns hl hb]
    exact fun v F' H' _ r => by
      rw [show v = .bl true from r]
      exact q H'
theorem cx_end {P : Program} {w : World} {H : Hp} {s : Shared} {e : Value} {s' : Shared} (h : L2.CX P w [] H s (fun _ _ _ => False) e s') : False := by
  obtain ⟨_, _, _, _, _, _, _, _, _, _, _, _, f⟩ := h
  exact f

/-! ### a mirror that ends well -/
/-- it gives something of which P is true -/
def Gd {α : Type} (m : R α) (P : α → Prop) : Prop := ∃ a, m = .ok a ∧ P a
section
variable {α β γ τ : Type} {P : α → Prop} {Q : β → Prop}
theorem Gd.eq {m : R α} {a : α} (h : Gd m (· = a)) : m = .ok a := by
  obtain ⟨b, e, rfl⟩ := h
  exact e
theorem Gd.of {m : R α} {a : α} (h : m = .ok a) (p : P a) : Gd m P := ⟨a, h, p⟩
theorem Gd.ok {a : α} (p : P a) : Gd (.ok a) P := ⟨a, rfl, p⟩
theorem Gd.mono {m : R α} {P' : α → Prop} (h : Gd m P) (k : ∀ a, P a → P' a) : Gd m P' := by
  obtain ⟨a, e, p⟩ := h
  exact ⟨a, e, k a p⟩
theorem Gd.bind {m : R α} {f : α → R β} (h : Gd m P) (k : ∀ a, P a → Gd (f a) Q) : Gd (m.bind f) Q := by
  obtain ⟨a, e, p⟩ := h
  subst e
  exact k a p
theorem Gd.eqB {m : R α} {a : α} {f : α → R β} (h : m = .ok a) (k : Gd (f a) Q) : Gd (m.bind f) Q := by
  subst h
  exact k
theorem Gd.chk {c : Prop} [Decidable c] {a : α} (hc : c) (p : P a) : Gd (Py.chk c a) P := ⟨a, by unfold Py.chk; rw [if_pos hc], p⟩
theorem Gd.chkB {c : Prop} [Decidable c] {a : α} {f : α → R β} (hc : c) (k : Gd (f a) Q) : Gd ((Py.chk c a).bind f) Q := (Gd.chk (P := fun b => b = a) hc rfl).bind fun b e => by rw [e]; exact k
theorem Gd.optB {o : Option α} {a : α} {f : α → R β} (h : o = some a) (k : Gd (f a) Q) : Gd ((ofOpt o).bind f) Q := by
  subst h
  exact k
theorem Gd.ite {c : Prop} [Decidable c] {m1 m2 : R α} (h1 : c → Gd m1 P) (h2 : ¬ c → Gd m2 P) : Gd (if c then m1 else m2) P := by
  split
  · exact h1 ‹_›
  · exact h2 ‹_›
theorem Gd.forR {I : τ → Prop} {f : τ → α → R τ} : ∀ {xs : List α} {s : τ}, (∀ s x, x ∈ xs → I s → Gd (f s x) I) → I s → Gd (Py.forR f xs s) I
  | [], _, _, h0 => ⟨_, rfl, h0⟩
  | x :: xs, s, h, h0 => (h s x List.mem_cons_self h0).bind fun s' h1 => Gd.forR (fun s y hy => h s y (List.mem_cons_of_mem _ hy)) h1
/-- what is known of what was passed -/
theorem Gd.forRp {I : List α → τ → Prop} {f : τ → α → R τ} : ∀ {pre xs : List α} {s : τ}, (∀ p x q s, xs = p ++ x :: q → I (pre ++ p) s → Gd (f s x) (I (pre ++ p ++ [x]))) → I pre s → Gd (Py.forR f xs s) (I (pre ++ xs))
  | pre, [], s, _, h0 => ⟨_, rfl, by rw [List.append_nil]; exact h0⟩
  | pre, x :: xs, s, h, h0 => by
    refine Gd.bind (P := I (pre ++ [x])) ?_ fun s' h1 => ?_
    · have z := h [] x xs s rfl (by rw [List.append_nil]; exact h0)
      rw [List.append_nil] at z
      exact z
    · have z := Gd.forRp (I := I) (f := f) (pre := pre ++ [x]) (xs := xs) (s := s') (fun p y q s e hi => ?_) h1
      · rw [List.append_assoc] at z
        exact z
      · have k := h (x :: p) y q s (by rw [e] <;> rfl) (by
          have e2 : pre ++ x :: p = pre ++ [x] ++ p := by rw [List.append_assoc] <;> rfl
          rw [e2]
          exact hi)
        have e2 : pre ++ x :: p ++ [y] = pre ++ [x] ++ p ++ [y] := by simp
        rw [e2] at k
        exact k
theorem Gd.forRl {I : List α → τ → Prop} {f : τ → α → R τ} {xs : List α} {s : τ} (h : ∀ p x q s, xs = p ++ x :: q → I p s → Gd (f s x) (I (p ++ [x]))) (h0 : I [] s) : Gd (Py.forR f xs s) (I xs) :=
  Gd.forRp (pre := []) h h0
/-- it goes on -/
abbrev On (I : τ → Prop) : Stp τ γ → Prop := fun o => ∃ s, o = .nx s ∧ I s
abbrev Done (I : τ → Prop) : Out τ γ → Prop := fun o => ∃ s, o = .nx s ∧ I s
theorem Gd.forS {I : τ → Prop} {f : τ → α → R (Stp τ γ)} : ∀ {xs : List α} {s : τ}, (∀ s x, x ∈ xs → I s → Gd (f s x) (On I)) → I s → Gd (Py.forS f xs s) (Done I)
  | [], _, _, h0 => ⟨_, rfl, _, rfl, h0⟩
  | x :: xs, s, h, h0 => (h s x List.mem_cons_self h0).bind fun o h1 => by
    obtain ⟨s', e, h2⟩ := h1
    subst e
    exact Gd.forS (fun s y hy => h s y (List.mem_cons_of_mem _ hy)) h2
theorem Gd.forSB {δ : Type} {I : τ → Prop} {f : τ → α → R (Stp τ γ)} {xs : List α} {s : τ} {k : τ → R δ} {mk : γ → δ} {Q : δ → Prop} (h : ∀ s x, x ∈ xs → I s → Gd (f s x) (On I)) (h0 : I s) (hk : ∀ s, I s → Gd (k s) Q) : Gd ((Py.forS f xs s).bind (outK k mk)) Q :=
  (Gd.forS h h0).bind fun o ⟨s', e, h2⟩ => by
    subst e
    exact hk s' h2
theorem Gd.nx {I : τ → Prop} {s : τ} (h : I s) : Gd (R.ok (Stp.nx s : Stp τ γ)) (On I) := ⟨_, rfl, s, rfl, h⟩
theorem mapR_ok {f : α → R β} {g : α → β} : ∀ {xs : List α}, (∀ x ∈ xs, f x = .ok (g x)) → mapR f xs = .ok (xs.map g)
  | [], _ => rfl
  | x :: xs, h => by
    show (f x).calm.bind _ = _
    rw [h x List.mem_cons_self]
    show (mapR f xs).bind _ = _
    rw [mapR_ok fun y hy => h y (List.mem_cons_of_mem _ hy)]
    rfl
theorem Gd.mapRB {f : α → R β} {g : α → β} {xs : List α} {k : List β → R γ} {Q : γ → Prop} (h : ∀ x ∈ xs, f x = .ok (g x)) (hk : Gd (k (xs.map g)) Q) : Gd ((mapR f xs).bind k) Q := by
  rw [mapR_ok h]
  exact hk
end
/-- bits -/
theorem log2_lt {x : Int} {k : Nat} (h : x.natAbs < 2 ^ k) (hk : 0 < k) : x.natAbs.log2 < k := by
  by_cases z : x.natAbs = 0
  · rw [z]
    exact hk
  · exact (Nat.log2_lt z).mpr h
theorem mulW_ok {i j : Int} (k : Nat) (hk : 0 < k ∧ k ≤ 500000) (hi : i.natAbs < 2 ^ k) (hj : j.natAbs < 2 ^ k) : CMulW i j := by
  have a := log2_lt hi hk.1
  have b := log2_lt hj hk.1
  unfold CMulW
  omega
theorem dv_ok {j : Int} (h : 0 < j) (k : Nat) (hk : 0 < k ∧ k ≤ 8900) (hj : j.natAbs < 2 ^ k) : CDv j := ⟨h, by
  have a := log2_lt hj hk.1
  omega⟩
theorem small_size {n : Nat} (h : n ≤ 100000) : n ≤ sizeLine := by
  rw [sizeLine_eq]
  omega
theorem small_lt {n : Nat} (h : n < 100000) : n < sizeLine := by
  rw [sizeLine_eq]
  omega
theorem mem_rangeI {lo hi x : Int} : x ∈ rangeI lo hi ↔ lo ≤ x ∧ x < hi := by
  unfold rangeI
  rw [List.mem_map]
  constructor
  · rintro ⟨i, hi2, rfl⟩
    have := List.mem_range.mp hi2
    omega
  · rintro ⟨h1, h2⟩
    exact ⟨(x - lo).toNat, List.mem_range.mpr (by omega), by omega⟩
theorem len_rangeI (lo hi : Int) : (rangeI lo hi).length = (hi - lo).toNat := by
  unfold rangeI
  rw [List.length_map, List.length_range]

/-! ### dicts -/
section
variable {κ ν : Type} [DecidableEq κ]
theorem find_map_same (k y : κ) (v : ν) (h : y ≠ k) : ∀ d : List (κ × ν), ((d.map fun q => if q.1 = k then (q.1, v) else q).find? fun q => decide (q.1 = y)).map Prod.snd = (d.find? fun q => decide (q.1 = y)).map Prod.snd
  | [] => rfl
  | q :: d => by
    rw [List.map_cons, List.find?_cons, List.find?_cons]
    by_cases c : q.1 = k
    · rw [if_pos c]
      have n : decide (q.1 = y) = false := decide_eq_false fun z => h (z.symm.trans c)
      simp only [n]
      exact find_map_same k y v h d
    · rw [if_neg c]
      by_cases e : q.1 = y
      · simp [e]
      · simp only [decide_eq_false e]
        exact find_map_same k y v h d
theorem find_map_new (k : κ) (v : ν) : ∀ d : List (κ × ν), (d.any fun q => decide (q.1 = k)) = true → ((d.map fun q => if q.1 = k then (q.1, v) else q).find? fun q => decide (q.1 = k)).map Prod.snd = some v
  | [], h => by simp at h
  | q :: d, h => by
    rw [List.map_cons, List.find?_cons]
    by_cases c : q.1 = k
    · rw [if_pos c]
      simp [c]
    · rw [if_neg c]
      simp only [decide_eq_false c]
      refine find_map_new k v d ?_
      simpa [c] using h
theorem dGet_dPut (d : List (κ × ν)) (k y : κ) (v : ν) : dGet (dPut d k v) y = if y = k then some v else dGet d y := by
  unfold dGet dPut
  split
  · next h =>
    by_cases c : y = k
    · subst c
      rw [if_pos rfl]
      exact find_map_new y v d h
    · rw [if_neg c]
      exact find_map_same k y v c d
  · next h =>
    rw [List.find?_append]
    by_cases c : y = k
    · subst c
      have n : (d.find? fun q => decide (q.1 = y)) = none := by
        rw [List.find?_eq_none]
        intro q hq z
        exact h (List.any_eq_true.mpr ⟨q, hq, z⟩)
      rw [n, if_pos rfl]
      simp
    · rw [if_neg c]
      have n : ([(k, v)].find? fun q => decide (q.1 = y)) = none := by
        simp [Ne.symm c]
      rw [n, Option.or_none]
theorem len_dPut (d : List (κ × ν)) (k : κ) (v : ν) : (dPut d k v).length ≤ d.length + 1 := by
  unfold dPut
  split
  · rw [List.length_map]
    exact Nat.le_succ _
  · simp
/-- a dict of what was passed -/
def SeenBy (p : List κ) (d : List (κ × Bool)) : Prop := d.length ≤ p.length ∧ ∀ y, (dGet d y).isSome = hasB y p
theorem SeenBy.nil : SeenBy ([] : List κ) [] := ⟨Nat.le_refl _, fun y => rfl⟩
theorem SeenBy.put {p : List κ} {d : List (κ × Bool)} (h : SeenBy p d) (k : κ) (v : Bool) : SeenBy (p ++ [k]) (dPut d k v) := by
  refine ⟨?_, fun y => ?_⟩
  · have := len_dPut d k v
    have := h.1
    simp
    omega
  · rw [dGet_dPut]
    by_cases c : y = k
    · rw [if_pos c]
      show true = hasB y (p ++ [k])
      rw [eq_comm, hasB_iff, c]
      simp
    · rw [if_neg c, h.2, Bool.eq_iff_iff, hasB_iff, hasB_iff]
      simp [c]
end
section
variable {α β γ τ : Type}
theorem fmR_ok {c : α → R Bool} {f : α → R β} {p : α → Bool} {g : α → β} : ∀ {xs : List α}, (∀ x ∈ xs, c x = .ok (p x)) → (∀ x ∈ xs, f x = .ok (g x)) → fmR c f xs = .ok ((xs.filter p).map g)
  | [], _, _ => rfl
  | x :: xs, h1, h2 => by
    have ih := fmR_ok (c := c) (f := f) (fun y hy => h1 y (List.mem_cons_of_mem _ hy)) (fun y hy => h2 y (List.mem_cons_of_mem _ hy))
    show (c x).calm.bind _ = _
    rw [h1 x List.mem_cons_self]
    show (if p x = true then _ else _) = _
    by_cases e : p x = true
    · rw [if_pos e, h2 x List.mem_cons_self]
      show (fmR c f xs).bind _ = _
      rw [ih, List.filter_cons_of_pos e]
      rfl
    · rw [if_neg e, ih, List.filter_cons_of_neg e]
theorem Gd.fmRB {c : α → R Bool} {f : α → R β} {p : α → Bool} {g : α → β} {xs : List α} {k : List β → R γ} {Q : γ → Prop} (h1 : ∀ x ∈ xs, c x = .ok (p x)) (h2 : ∀ x ∈ xs, f x = .ok (g x)) (hk : Gd (k ((xs.filter p).map g)) Q) : Gd ((fmR c f xs).bind k) Q := by
  rw [fmR_ok h1 h2]
  exact hk
/-- a loop that is left at the first of a kind -/
theorem forS_any {f : τ → α → R (Stp τ γ)} {p : α → Bool} {a : γ} {s : τ} : ∀ {xs : List α}, (∀ x ∈ xs, f s x = .ok (if p x = true then .rt a else .nx s)) → Py.forS f xs s = .ok (if xs.any p = true then .rt a else .nx s)
  | [], _ => rfl
  | x :: xs, h => by
    show (f s x).bind _ = _
    rw [h x List.mem_cons_self]
    by_cases e : p x = true
    · simp [e, R.bind]
    · simp only [e, if_false, List.any_cons, Bool.false_or, Bool.false_eq_true]
      exact forS_any fun y hy => h y (List.mem_cons_of_mem _ hy)
end
theorem cut_len {α : Type} {xs : List α} {lo hi : Option Int} : (cutL xs lo hi).length ≤ xs.length := by
  unfold cutL
  rw [List.length_take, List.length_drop]
  omega
theorem mod_small {a b : Int} (k : Nat) (hb : 0 < b) (hk : b ≤ 2 ^ k) : (a % b).natAbs < 2 ^ k := by
  have h1 := Int.emod_nonneg a (Int.ne_of_gt hb)
  have h2 := Int.emod_lt_of_pos a hb
  have e : ((2 ^ k : Nat) : Int) = (2 : Int) ^ k := by rw [Int.natCast_pow] <;> rfl
  omega
/-! ### shapes -/
abbrev Shp : Type := List (Int × Int) × Bool
end Py

/-! Own layer, part I: more displays of ranges. -/
namespace Py
open PySem PySem.Spec PyProof.Rows L2
/-- the same words, to be rewritten by step for step -/
theorem ok_bindP {α β : Type} (a : α) (f : α → R β) : (R.ok a).bind f = f a := Eq.trans (R.ok_bind a f) rfl
theorem ok_calmP {α : Type} (a : α) : (R.ok a).calm = R.ok a := Eq.trans (R.ok_calm a) rfl
section
variable {X : Cx} {U : Wi} {Γ : List Sl} {a : Expr} {pos p p2 p3 : Pos}
end
end Py

/-! Own layer, part J: sorted of whatever gives cells: a dict keyed by cells, a tuple of cells. -/
namespace Py
open PySem PySem.Spec PyProof.Rows L2 SrtO
section
variable {P : Program} {w : World} {A : Around} {E : Value → Shared → Prop} {s : Shared}
/-- sorted(x), where going through x gives the rows L in some order -/
theorem sorted_col {a : Addr} {L : List (Addr × List Int)} {Q : Value → Shared → Prop} (uniq : ∀ p ∈ L, ∀ r ∈ L, p.1 = r.1 → p = r) (tup : ∀ p ∈ L, L2.IsT P w s.heap p.2 p.1) (h2 : ∀ p ∈ L, p.2.length = 2) (few : L.length ≤ sizeLine)
    (col : ∀ R : List Value → Shared → Prop, (∀ met s1, (∀ b o, s.heap.get? b = some o → s1.heap.get? b = some o) → s1.gens = s.gens → s1.os = s.os → s1.drawn = s.drawn → met.Perm (L.map fun p => Value.ref p.1) → R met s1) → wpAny (model P w) A.in1 (collect (.ref a)) R E s)
    (hQ : ∀ (h1 h' : Heap) (tk : Nat) (q : Addr) (out : List (Addr × List Int)), (∀ b o, s.heap.get? b = some o → h1.get? b = some o) → (∀ b o, h1.get? b = some o → h'.get? b = some o) → h1.objs.size ≤ q →
      (∃ c, h'.get? q = some (seqObj "list" (out.map fun p => Value.ref p.1).toArray c)) → out.Perm L → out.Pairwise (fun p r => lexB (cel r.2) (cel p.2) = false) → Q (.ref q) { s with heap := h', toks := tk }) :
    wpAny (model P w) A (call (.builtin "sorted") [.ref a]) Q E s := by
  refine Calls.call_function_entry kind_sorted plain_sorted entry_sorted (args_sorted1 _) (?_ : _)
  unfold Builtin.«sorted»
  refine wpAny_bind (m := checkCount "sorted" 1 1 _) (wpAny_pure (wpAny_bind (col _ ?_)))
  intro met s1 kp gens1 os1 dr1 perm2
  have len : met.length = L.length := by rw [perm2.length_eq, List.length_map]
  have isp : ∀ h', (∀ b o, s.heap.get? b = some o → h'.get? b = some o) → ∀ v ∈ met, Srt.IsPair h' v (cel (rowAt L v).2).1 (cel (rowAt L v).2).2 := by
    intro h' kh v hv
    obtain ⟨p, hp, rfl⟩ := List.mem_map.mp (perm2.mem_iff.mp hv)
    rw [rowAt_mem uniq hp]
    exact pair_of_row (isT_keep (tup p hp) kh) (h2 p hp)
  have bound : met.length ≤ sizeLine := len ▸ few
  refine wpAny_bind (wpAny_newList (?_ : _) bound)
  have new : (s1.heap.push (seqObj "list" met.toArray 0)).get? s1.heap.objs.size = some (seqObj "list" met.toArray 0) := Heap.get?_push_size _ rfl
  have kp2 : ∀ b o, s.heap.get? b = some o → (s1.heap.push (seqObj "list" met.toArray 0)).get? b = some o := fun b o e => Heap.get?_push_of_some _ (kp b o e)
  refine wpAny_bind (wpAny_holding (wpAny_call_entry slot_list_sort ⟨_, new, rfl⟩ entry_list_sort
    (list_sort_ord (s := { s1 with heap := s1.heap.push (seqObj "list" met.toArray 0) }) (swo_lex fun v => cel (rowAt L v).2) new bound (fun two => pairs_sortableO (k := fun v => cel (rowAt L v).2) (by omega) (fun v hv => isp _ kp2 v hv) fun o e c => ?_) fun out hs hb => ⟨_, rfl, ?_⟩) (args_list_sort _)))
  · have e' := e.symm.trans new
    cases e'
    exact absurd (Value.type.inj c) (by decide)
  · have perm3 : out.Perm met := hb.perm
    have e1 : (out.map (rowAt L)).map (fun p => Value.ref p.1) = out := by
      rw [List.map_map]
      refine (List.map_congr_left fun v hv => ?_).trans (List.map_id out)
      obtain ⟨p, hp, rfl⟩ := List.mem_map.mp (perm2.mem_iff.mp (perm3.mem_iff.mp hv))
      show Value.ref (rowAt L (.ref p.1)).1 = _
      rw [rowAt_mem uniq hp] <;> rfl
    have e2 : (L.map fun p => Value.ref p.1).map (rowAt L) = L := by
      rw [List.map_map]
      exact (List.map_congr_left fun p hp => rowAt_mem uniq hp).trans (List.map_id L)
    obtain ⟨c, hc⟩ := sortedHeap_at (vs := met) (out := out.toArray) new
    refine wpAny_pure ⟨_, rfl, ?_⟩
    generalize hh : sortedHeap (s1.heap.push (seqObj "list" met.toArray 0)) s1.heap.objs.size met out.toArray = hN at hc
    have eq : ({ s1 with heap := hN } : Shared) = { s with heap := hN, toks := s1.toks } := by
      cases s1
      cases s
      cases os1
      cases gens1
      cases dr1
      rfl
    rw [eq]
    refine hQ s1.heap hN s1.toks s1.heap.objs.size (out.map (rowAt L)) kp (fun b o e => ?_) (Nat.le_refl _) ⟨c, by rw [e1]; exact hc⟩ ?_ ?_
    · have lt := Heap.lt_size e
      rw [← hh, sortedHeap_old (Nat.ne_of_lt lt) (by rw [size_push']; exact Nat.lt_succ_of_lt lt)]
      exact Heap.get?_push_of_some _ e
    · have z := (perm3.trans perm2).map (rowAt L)
      rw [e2] at z
      exact z
    · rw [List.pairwise_map]
      exact hs.imp fun h => h
end

/-- the ints of a key -/
def keyInts (k : List Key) : List Int := k.filterMap fun x => match x with
  | .inl i => some i
  | .inr _ => none
def TwoInts (k : List Key) : Prop := ∃ i j : Int, k = [.inl i, .inl j]
theorem TwoInts.len {k : List Key} (h : TwoInts k) : (keyInts k).length = 2 := by
  obtain ⟨i, j, rfl⟩ := h
  rfl
theorem TwoInts.kv {k : List Key} (h : TwoInts k) : k.map kV = (keyInts k).map V.int := by
  obtain ⟨i, j, rfl⟩ := h
  rfl
theorem rows_pair {H : Hp} : ∀ {kvs : List (List Key × V)} {xs : List (List Key × Addr × Value)}, Paired (fun (p : List Key × V) (q : List Key × Addr × Value) => p.1 = q.1 ∧ H q.2.1 = some (.tup (p.1.map kV)) ∧ RelV p.2 q.2.2) kvs xs → (∀ p ∈ kvs, TwoInts p.1) →
    ∃ L : List (Addr × List Int), (L.map fun p => Value.ref p.1) = xs.map (fun x => Value.ref x.2.1) ∧ L.length = xs.length ∧ (L.map fun p => p.2) = kvs.map (fun p => keyInts p.1) ∧ (∀ p ∈ L, RowOk H p)
  | _, _, .nil, _ => ⟨[], rfl, rfl, rfl, fun _ h => absurd h (by simp)⟩
  | _, _, .cons (a := p) (b := x) h t, ht => by
    obtain ⟨L, l1, l2, l3, l4⟩ := rows_pair t fun q hq => ht q (List.mem_cons_of_mem _ hq)
    have two := ht p List.mem_cons_self
    refine ⟨(x.2.1, keyInts p.1) :: L, by rw [List.map_cons, List.map_cons, l1], by simp [l2], by rw [List.map_cons, List.map_cons, l3], fun q hq => ?_⟩
    rcases List.mem_cons.mp hq with e | e
    · rw [e]
      exact ⟨by rw [← two.kv]; exact h.2.1, two.len⟩
    · exact l4 q e
/-- sorted(d), d keyed by cells -/
def rSortDC : List V → Hp → VK → Prop := fun vs H Q => ∃ (d : Addr) (kvs : List (List Key × V)), vs = [V.ref d] ∧ Rd H d (.dT kvs) ∧ (∀ p ∈ kvs, TwoInts p.1) ∧
  ∀ (out : List (Addr × List Int)) (q : Addr), (out.map fun p => p.2).Perm (kvs.map fun p => keyInts p.1) → out.Pairwise (fun p r => lexB (cel r.2) (cel p.2) = false) → (∀ p ∈ out, RowOk H p) → H q = none → Q (.ref q) (upd H q (.lst (out.map fun p => V.ref p.1)))
theorem cr_sortDC {X : Cx} (hc : X.calm = true) : CallR X (.builtin "sorted") rSortDC := by
  intro pins s σ H vs us Q I r ⟨d, kvs, e, hd, two, q⟩
  subst e
  rw [Vals.ref1 r]
  have okd : ObjOk X.prog X.w H s.heap d (.dT kvs) := hd.elim (fun h => I.hok d _ h) fun ⟨od, h⟩ => (I.hok d _ h).2
  obtain ⟨z, hs, ks, pr, o, es, ep, ho, hx, hdt, he, hn⟩ := okd
  obtain ⟨L, l1, l2, l3, l4⟩ := rows_pair pr two
  have sz : es.size = ks.length := size_of_entries he
  have kl : kvs.length = ks.length := Paired.length pr
  have isT : ∀ p ∈ L, L2.IsT X.prog X.w s.heap p.2 p.1 := fun p hp => I.isT (.inl (.inl (l4 p hp).1))
  have hh : X.A.in1.handled = none := I.ok.hd hc
  refine sorted_col (P := X.prog) (w := X.w) (L := L) (fun p hp r hr e => Prod.ext e ?_) isT (fun p hp => (l4 p hp).2) (by rw [l2]; omega) (fun R hR => ?_) fun h1 h' tk a out kp1 kp2 hsz ⟨c, hg⟩ pm pw => ?_
  · have a1 := isT p hp
    rw [e] at a1
    exact a1.inj (isT r hr)
  · refine PySem.W.kdu_collect (A := X.A.in1) (kdl_raw hs hx hdt) hh ho (by omega) fun h' tk acc k it => ?_
    refine hR _ _ k rfl rfl rfl (List.Perm.of_eq ?_)
    rw [l1]
    have hl : acc.toList.length = ks.length := by rw [Array.length_toList, it.1]; exact sz
    refine List.ext_getElem? fun j => ?_
    rw [List.getElem?_map]
    cases hj : acc.toList[j]? with
    | none =>
      have h1 := List.getElem?_eq_none_iff.mp hj
      rw [List.getElem?_eq_none (by omega)]
      rfl
    | some v =>
      obtain ⟨en, hen, hv⟩ := it.2 j v ((Array.getElem?_toList ..).symm.trans hj)
      have qe := entry_at he j
      rw [hen] at qe
      cases hb : ks[j]? with
      | none => rw [hb] at qe; cases qe
      | some b =>
        rw [hb] at qe
        have e2 : en = entryOfKey (tupleKind (mixKind X.prog X.w)) b := Option.some.inj qe
        rw [hv, e2]
        rfl
  · have I1 : Inv X pins σ H { s with heap := h1, toks := s.toks } := I.kept kp1
    have hn1 : H a = none := I1.hok.fresh hsz
    have hz : (out.map fun p => V.ref p.1).length ≤ sizeLine := by
      rw [List.length_map, pm.length_eq, l2]
      omega
    have J := I1.laid (t' := tk) (a := a) (o := .lst (out.map fun p => V.ref p.1)) (h' := h') kp2 hsz ⟨hz, _, c, vals_of_refs out, hg⟩
    exact ⟨.ref a, _, J, rfl, q out a ((pm.map _).trans (List.Perm.of_eq l3)) pw (fun p hp => l4 p (pm.mem_iff.mp hp)) hn1⟩
theorem repD_two {F : Hp} {ν : Type} {π : Rp ν} : ∀ {xs : List ((Int × Int) × ν)} {kvs : List (List Key × V)}, RepD kyC π F xs kvs → (∀ p ∈ kvs, TwoInts p.1) ∧ (kvs.map fun p => keyInts p.1) = xs.map fun q => [q.1.1, q.1.2]
  | _, _, .nil => ⟨fun _ h => absurd h (by simp), rfl⟩
  | _, _, .cons (k := k) r t => by
    obtain ⟨a, b⟩ := repD_two t
    refine ⟨fun p hp => ?_, by rw [List.map_cons, List.map_cons, b]; rfl⟩
    rcases List.mem_cons.mp hp with e | e
    · rw [e]
      exact ⟨k.1, k.2, rfl⟩
    · exact a p e
theorem SA.learnAll {en : En} {Γ : List Sl} {σ : L2.St} {H : Hp} : ∀ (L : List (Addr × List Int)) {F : Hp}, SA en Γ F σ H → (∀ p ∈ L, RowOk H p) →
    ∃ F', Same F F' ∧ SA en Γ F' σ H ∧ (∀ p ∈ L, RowOk F' p) ∧ ∀ q, F q = none → F' q = none ∨ ∃ vs, F' q = some (.tup vs)
  | [], F, s, _ => ⟨F, Same.refl F, s, fun _ h => absurd h (by simp), fun _ h => .inl h⟩
  | p :: L, F, s, h => by
    obtain ⟨F1, e1, s1, r1, n1⟩ := SA.learnAll L s fun q hq => h q (List.mem_cons_of_mem _ hq)
    have hp := h p List.mem_cons_self
    cases q : F1 p.1 with
    | some o =>
      have y := s1.sub p.1 o q
      rw [hp.1] at y
      refine ⟨F1, e1, s1, fun r hr => ?_, n1⟩
      rcases List.mem_cons.mp hr with z | z
      · rw [z]
        exact ⟨by rw [q, ← y], hp.2⟩
      · exact r1 r z
    | none =>
      obtain ⟨s2, e2⟩ := s1.learn hp.1 q
      refine ⟨_, e1.trans e2, s2, fun r hr => ?_, fun b hb => ?_⟩
      · rcases List.mem_cons.mp hr with z | z
        · rw [z]
          exact ⟨upd_same, hp.2⟩
        · exact ⟨e2 _ _ (r1 r z).1, (r1 r z).2⟩
      · by_cases z : b = p.1
        · subst z
          exact .inr ⟨_, upd_same⟩
        · rw [upd_ne z]
          exact n1 b hb
theorem keyInts_cel {xs : List (Int × Int)} : ∀ {ks : List (List Int)}, ks.Perm (xs.map fun q => [q.1, q.2]) → (ks.map cel).Perm xs := fun {ks} p => by
  have z := p.map cel
  rw [List.map_map] at z
  exact z.trans (List.Perm.of_eq ((List.map_congr_left fun q _ => rfl).trans (List.map_id xs)))
section
variable {X : Cx} {U : Wi} {Γ : List Sl} {e : Expr} {pos p2 : Pos}
/-- sorted(d), d a dict keyed by cells -/
theorem f_sortDG {ν : Type} {π : Rp ν} {m : R (List ((Int × Int) × ν))} (hm : X.mg "sorted" = none) (he : DG X U Γ e kyC π m) (hc : X.calm = true := by rfl) (hg : Gl X "sorted" := by rfl)
    (h1 : starEach [e] X.env = (false, eval e X.env) :: starEach [] X.env := by rfl) (h2 : (backTo pos (starEach [] X.env)).any (·.1) = false := by rfl) :
    FX X U Γ (.Call (.Name "sorted" p2) [e] [] pos) (fun ys => oLi (tl rC) ys) (m.bind fun xs => .ok (sortC (xs.map Prod.fst))) :=
  ⟨fun en F σ H Q s h => wE_of (pe_callB (cr_sortDC hc) hg hm (by decide +kernel) (pa_cons wE_pe pa_nil h1) (by decide) (by decide) h1 h2) (he.out en F σ H _ s (wpR_mono (wpR_bind h) (fun xs k d kvs F1 H1 e1 s1 hd r _ => by
    obtain ⟨two, ks⟩ := repD_two r
    refine ⟨d, kvs, rfl, hd, two, fun out q pm pw ok hn => ?_⟩
    obtain ⟨s2, fr⟩ := s1.lay (o := .lst (out.map fun p => V.ref p.1)) hn
    have ok2 : ∀ p ∈ out, RowOk (upd H1 q (.lst (out.map fun p => V.ref p.1))) p := fun p hp => ⟨Same.upd hn _ _ (ok p hp).1, (ok p hp).2⟩
    obtain ⟨F2, e3, s3, r3, n3⟩ := SA.learnAll out s2 ok2
    refine k q _ F2 _ (e1.trans e3) s3 ⟨no_tup s3.sub (n3 q fr.f) fr.h (fun _ z => nomatch z), fr.e, fr.n, fr.h⟩ ⟨_, rfl, ?_⟩
    have e4 : sortC (xs.map Prod.fst) = out.map fun p => cel p.2 := by
      refine asc_eq totC (asc_srt totC _) ?_ ((perm_srt _).trans ?_)
      · rw [Asc, List.pairwise_map]
        exact pw.imp fun z => ltC_no.mpr (lexB_no.mp z)
      · have z := pm.trans (List.Perm.of_eq ks)
        have y := keyInts_cel (xs := xs.map Prod.fst) (ks := out.map fun p => p.2) (by rw [List.map_map]; exact z)
        rw [List.map_map] at y
        exact y.symm
    rw [e4]
    exact rows_rep out r3) fun _ z => z))⟩
theorem f_sortD {ν : Type} {π : Rp ν} {m : R (List ((Int × Int) × ν))} (hm : X.mg "sorted" = none) (he : EX X U Γ e (rD kyC π) m) (hc : X.calm = true := by rfl) (hg : Gl X "sorted" := by rfl)
    (h1 : starEach [e] X.env = (false, eval e X.env) :: starEach [] X.env := by rfl) (h2 : (backTo pos (starEach [] X.env)).any (·.1) = false := by rfl) :
    FX X U Γ (.Call (.Name "sorted" p2) [e] [] pos) (fun ys => oLi (tl rC) ys) (m.bind fun xs => .ok (sortC (xs.map Prod.fst))) := f_sortDG hm (d_imm he) hc hg h1 h2
end

/-! ### + of lists that are read alone -/
section
variable {X : Cx} {U : Wi} {Γ : List Sl} {a b : Expr} {pos : Pos}
end
end Py

/-! Own layer, part K: a list that is lent to a callee, which changes it. -/
namespace Py
open PySem PySem.Spec PyProof.Rows L2

/-- all is kept but the object at p -/
structure ExtM (p : Addr) (F H F' H' : Hp) : Prop where
  f : Same F F'
  h : ∀ q o, q ≠ p → H q = some o → H' q = some o
  s : Same F' H'
  n : ∀ q, q ≠ p → H q ≠ none → F q = none → F' q = none ∨ ∃ vs, F' q = some (.tup vs)
section
variable {P : Program} {w : World} {K : PySem.W.Frag} {mg : Str → Option Value} {base : Heap}
end

section
variable {en : En} {Γ : List Sl} {F F' H H' : Hp} {σ : L2.St}
/-- behind a callee that changed an own list -/
theorem SA.lent {α : Type} {ρl : Rp α} {l l' : List α} {a0 : Option Addr} {i : Nat} {p : Addr} {ws : List V} (s : SA en Γ F σ H) (hi : Γ[i]? = some (.own a0 (oLi (tl ρl) l))) (hp : σ[i]? = some (some (.ref p))) (x : ExtM p F H F' H') (hf : F' p = none) (ho : H' p = some (.lst ws)) (r : RepL ρl F' l' ws) :
    SA en (Γ.set i (.own a0 (oLi (tl ρl) l'))) F' σ H' := by
  have s1 := s.mut (o' := .lst ws) (P' := ⟨fun _ o => ∃ vs, o = .lst vs, fun _ h => h, fun ⟨vs, h⟩ ws z => by rw [h] at z; cases z⟩) hi hp ⟨ws, rfl⟩
  have e : Ext F (upd H p (.lst ws)) F' H' := by
    refine ⟨x.f, fun q o h => ?_, x.s, fun q h hq => ?_⟩
    · by_cases z : q = p
      · subst z
        rw [upd_same] at h
        rw [ho, ← h]
      · rw [upd_ne z] at h
        exact x.h q o z h
    · by_cases z : q = p
      · subst z
        exact .inl hf
      · rw [upd_ne z] at h
        exact x.n q z h hq
  have s2 := s1.ext e
  have il : i < Γ.length := (List.getElem?_eq_some_iff.mp hi).1
  have hi2 : (Γ.set i (.own a0 ⟨fun _ o => ∃ vs, o = .lst vs, fun _ h => h, fun ⟨vs, h⟩ ws z => by rw [h] at z; cases z⟩))[i]? = some (.own a0 ⟨fun _ o => ∃ vs, o = .lst vs, fun _ h => h, fun ⟨vs, h⟩ ws z => by rw [h] at z; cases z⟩) := List.getElem?_set_self il
  have s3 := s2.mut (o' := .lst ws) (P' := oLi (tl ρl) l') hi2 hp ⟨ws, rfl, r⟩
  rw [List.set_set] at s3
  have e2 : upd H' p (.lst ws) = H' := funext fun q => by
    by_cases z : q = p
    · subst z
      rw [upd_same, ho]
    · rw [upd_ne z]
  rw [e2] at s3
  exact s3
end
section
variable {X : Cx} {U : Wi} {Γ : List Sl} {es : List Expr} {pos p p2 : Pos} {α τ γ : Type} {ρl : Rp α} {ρ : Rp γ} {t : Tr τ} {k : Nat} {f : Addr} {fd : FuncData} {ps : List Str} {n nf : Str}
end

section
variable {X : Cx} {U : Wi} {Γ : List Sl} {e : Expr} {rest : List Stmt} {pos p2 p3 p4 p5 p6 : Pos} {α ω : Type} {ρ : Rp α} {I : ω → Kd} {n d : Str}
theorem ixN0 {m : Nat} (h : 0 < m) : ixN m 0 = some 0 := by
  unfold ixN
  rw [if_pos (Int.le_refl 0), if_pos (by omega)]
  rfl
/-- x[0], d = e, x an own list, e a pair -/
theorem s_st0T {β : Type} {π : Rp β} {l : List α} {m : R (α × β)} {k : α × β → R ω} {a0 : Option Addr} {j kt : Nat} {pt : Pos} (i jd : Nat) (hNd : X.N.Nodup) (he : EX X U Γ e (rP ρ π) m) (hr : ∀ y, SX X U ((Γ.set i (.own a0 (oLi (tl ρ) (l.set 0 y.1)))).set jd (im π y.2)) rest I (k y)) (hΓ : Γ[i]? = some (.own a0 (oLi (tl ρ) l)) := by rfl) (hN : X.N[i]? = some n := by rfl) (hNj : X.N[jd]? = some d := by rfl)
    (hv : Vis X.env.scope n := by first | exact Or.inl rfl | exact Or.inr (Or.inl rfl) | exact Or.inr (Or.inr rfl)) (hd : (n == ("__debug__" : Str)) = false := by decide) (hcd : (n == ("__classdict__" : Str)) = false := by decide)
    (hx : Loc X.env.scope d := by first | exact Or.inl rfl | exact Or.inr rfl) (hf : X.fn d = true ∨ X.env.scope.names.lookup d = some .local := by first | exact .inl rfl | exact .inr rfl)
    (hc : X.calm = true := by rfl) (hn2 : (assignEach [.Subscript (.Name n p2) (.Constant (.int 0) j p3) p4, .Name d p5] X.env).length = 2 := by rfl) (hst : (assignEach [.Subscript (.Name n p2) (.Constant (.int 0) j p3) p4, .Name d p5] X.env).findIdx? (·.1) = none := by rfl)
    (ht : (assignEach [.Subscript (.Name n p2) (.Constant (.int 0) j p3) p4, .Name d p5] X.env).map (·.2) = assign (.Subscript (.Name n p2) (.Constant (.int 0) j p3) p4) X.env :: (assignEach [.Name d p5] X.env).map (·.2) := by rfl) (ht2 : (assignEach [.Name d p5] X.env).map (·.2) = assign (.Name d p5) X.env :: (assignEach [] X.env).map (·.2) := by rfl)
    (hs : swapsWithSole [.Tuple [.Subscript (.Name n p2) (.Constant (.int 0) j p3) p4, .Name d p5] kt pt] e pos.line X.env = pure false := by rfl) (hw : swappedStores [.Tuple [.Subscript (.Name n p2) (.Constant (.int 0) j p3) p4, .Name d p5] kt pt] e X.env = pure none := by rfl) (h1 : (assignEach [.Tuple [.Subscript (.Name n p2) (.Constant (.int 0) j p3) p4, .Name d p5] kt pt] X.env).map (·.2) = [assign (.Tuple [.Subscript (.Name n p2) (.Constant (.int 0) j p3) p4, .Name d p5] kt pt) X.env] := by rfl) :
    SX X U Γ (.Assign [.Tuple [.Subscript (.Name n p2) (.Constant (.int 0) j p3) p4, .Name d p5] kt pt] e pos :: rest) I (m.bind fun y => (chk (0 < l.length) ()).bind fun _ => k y) :=
  ⟨fun en F σ H D s h => wSs_of (pss_cons (ps_asg wE_pe (pg_tup hc (pgs_cons (pg_sub (pe_var hN hv hd hcd) pe_int set_list) (pgs_cons (pg_name hNd hNj hx hf) pgs_nil ht2) ht) hn2 hst) hs hw h1) wSs_pss) (he.out en F σ H _ s (wpR_mono (wpR_bind h) (fun y q v F' H' e' s' ⟨t, vs, ev, ht3, v1, us, eu, r1, v2, eu2, r2⟩ => by
    obtain ⟨pos0, q⟩ := wpR_chk (wpR_bind q)
    obtain ⟨p, o, g1, g2, g3, ⟨ws, eo, rl⟩, g5, g6⟩ := s'.own i _ _ hΓ
    subst eo
    subst eu2
    subst eu
    refine ⟨t, _, ev, .inl (.inl (s'.sub _ _ ht3)), rfl, v1, _, rfl, .ref p, g1, p, ws, 0, 0, rfl, rfl, g3, ixN0 (by rw [← rl.length]; exact pos0), v2, [], rfl, ?_⟩
    exact ⟨rfl, (hr y).out en F' _ _ D (SA.put (i := jd) (P := ⟨fun H v => π.rep y.2 H v, fun e h => π.mono e h⟩) (s'.mut (P' := oLi (tl ρ) (l.set 0 y.1)) hΓ g1 ⟨_, rfl, RepL.set r1 0 rl⟩) r2) (wpR_mono q (fun o z => z.up e') fun _ z => z.up e')⟩) fun _ z => z))⟩
end
end Py

/-! Own layer, part L: expressions that change a state on the way (a lent list). m : R (value × state). -/
namespace Py
open PySem PySem.Spec PyProof.Rows L2
section
variable {X : Cx} {U : Wi} {S : Type} {α β γ τ : Type} {ρ1 : Rp α} {ρ2 : Rp β} {ρ : Rp γ} {t : Tr τ} {a b e : Expr} {es : List Expr} {pos p : Pos}
abbrev ES (X : Cx) (U : Wi) {S : Type} (Γs : S → List Sl) (s : S) (e : Expr) {α : Type} (ρ : Rp α) (m : R (α × S)) : Prop := EG X U (Γs s) e ρ m (fun w => w.1) fun w => Γs w.2
abbrev AS (X : Cx) (U : Wi) {S : Type} (Γs : S → List Sl) (s : S) (es : List Expr) {τ : Type} (t : Tr τ) (m : R (τ × S)) : Prop := AG X U (Γs s) es t m (fun w => w.1) fun w => Γs w.2
variable {Γs : S → List Sl} {s : S}
theorem es_of {m : R γ} (h : EX X U (Γs s) e ρ m) : ES X U Γs s e ρ (m.bind fun x => .ok (x, s)) :=
  ⟨fun en F σ H Q sa q => h.out en F σ H Q sa (wpR_mono (wpR_bind q) (fun x k => k) fun _ z => z)⟩
theorem as_one {m : R (α × S)} (ha : ES X U Γs s a ρ1 m) (hs : starEach [a] X.env = (false, eval a X.env) :: starEach [] X.env := by rfl) : AS X U Γs s [a] (t1 ρ1) m :=
  ⟨fun en F σ H Q sa h => wA_of (pa_cons wE_pe pa_nil hs) (ha.out en F σ H _ sa (wpR_mono h (fun w k v F1 H1 e1 s1 r1 => k [v] F1 H1 e1 s1 ⟨v, rfl, r1⟩) fun _ z => z))⟩
theorem as_cons {m1 : R (α × S)} {m2 : S → R (τ × S)} (ha : ES X U Γs s a ρ1 m1) (hb : ∀ s', AS X U Γs s' es t (m2 s')) (hs : starEach (a :: es) X.env = (false, eval a X.env) :: starEach es X.env := by rfl) :
    AS X U Γs s (a :: es) (tc ρ1 t) (m1.bind fun w1 => (m2 w1.2).bind fun w2 => .ok ((w1.1, w2.1), w2.2)) :=
  g_acons (t' := tc ρ1 t) (ω2 := τ × S) (val := fun w : (α × τ) × S => w.1) (v2 := fun _ w => w.1) (Γ' := fun w => Γs w.2) (pk := fun (w1 : α × S) (w2 : τ × S) => ((w1.1, w2.1), w2.2)) (fun w1 w2 F v vs r q => ⟨v, vs, rfl, r, q⟩) (fun _ _ => rfl) ha (fun w1 => hb w1.2) hs
theorem es_tup {m : R (τ × S)} {k : Nat} (h : AS X U Γs s es t m) (hn : ∀ w F vs, t.rep w F vs → vs.length ≤ sizeLine) : ES X U Γs s (.Tuple es k pos) (rTu t) m := g_tup h fun w => hn w.1
variable {k : Nat} {f : Addr} {fd : FuncData} {ps : List Str} {n nf : Str} {p2 : Pos}
end
end Py

/-! Own layer, part M: statements whose expression changes a state on the way. -/
namespace Py
open PySem PySem.Spec PyProof.Rows L2
section
variable {X : Cx} {U : Wi} {S : Type} {α β γ τ ω κ ν : Type} {ρ : Rp α} {π : Rp β} {t : Tr τ} {a b e c : Expr} {es : List Expr} {rest A B : List Stmt} {pos : Pos} {I : ω → Kd} {n : Str} {Γs : S → List Sl} {s : S}
theorem p_setS {p' : Pos} {m : R (α × S)} {k : α × S → R ω} (i : Nat) (hN : X.N.Nodup) (he : ES X U Γs s e ρ m) (hr : ∀ w, SX X U ((Γs w.2).set i (im ρ w.1)) rest I (k w)) (hn : X.N[i]? = some n := by rfl)
    (hx : Loc X.env.scope n := by first | exact Or.inl rfl | exact Or.inr rfl) (hs : swapsWith e (some (.Name n p')) pos.line X.env = pure false := by rfl) (hf : X.fn n = true ∨ X.env.scope.names.lookup n = some .local := by first | exact .inl rfl | exact .inr rfl) :
    SX X U (Γs s) (.Assign [.Name n p'] e pos :: rest) I (m.bind k) := s_set i hN he hr hn hx hs hf
theorem p_retS {m : R (α × S)} (mk : α × S → ω) (P : α × S → List Sl) (e1 : ∀ w, (I (mk w)).cut = .rt ⟨fun H v => ρ.rep w.1 H v, fun e h => ρ.mono e h⟩ (P w)) (l : ∀ w, Le (P w) (Γs w.2)) (he : ES X U Γs s e ρ m) :
    SX X U (Γs s) (.Return (some e) pos :: rest) I (m.bind fun w => .ok (mk w)) := s_last (g_ret mk P e1 l he)
theorem s_appendS {ρl : Rp α} {a0 : Option Addr} {p ap cp : Pos} {xs : List α} {m : R (α × S)} {k : α × S → R ω} (i : Nat) (he : ES X U Γs s e ρl m) (hr : ∀ w, SX X U ((Γs w.2).set i (.own a0 (oLi (tl ρl) (xs ++ [w.1])))) rest I (k w)) (hΓ : ∀ s, (Γs s)[i]? = some (.own a0 (oLi (tl ρl) xs)) := by exact fun _ => rfl) (hN : X.N[i]? = some n := by rfl)
    (hv : Vis X.env.scope n := by first | exact Or.inl rfl | exact Or.inr (Or.inl rfl) | exact Or.inr (Or.inr rfl)) (hd : (n == ("__debug__" : Str)) = false := by decide) (hcd : (n == ("__classdict__" : Str)) = false := by decide)
    (h1 : starEach [e] X.env = (false, eval e X.env) :: starEach [] X.env := by rfl)
    (hpe : ∀ to t, PE X (.Name n p) to → PA X [e] t → PE X (.Call (.Attribute (.Name n p) "append" ap) [e] [] cp) (tBM X.K "list" rAppend to t) := by exact fun _ _ ho ha => pe_bm PySem.F.plainAttrs_list PySem.F.slot_list_append PySem.F.type_list_append mt_append ho ha)
    (hs : swapsWith (.Call (.Attribute (.Name n p) "append" ap) [e] [] cp) none pos.line X.env = pure false := by rfl) :
    SX X U (Γs s) (.Expr (.Call (.Attribute (.Name n p) "append" ap) [e] [] cp) pos :: rest) I (m.bind fun w => (chk (xs.length < sizeLine) ()).bind fun _ => k w) :=
  ⟨fun en F σ H D sa h => wSs_of (pss_cons (ps_expr (hpe _ _ (pe_var hN hv hd hcd) (pa_cons wE_pe pa_nil h1)) hs) wSs_pss) (by
    obtain ⟨p, o, g1, g2, g3, ⟨vs, eo, rl⟩, g5, g6⟩ := sa.own i _ _ (hΓ s)
    subst eo
    refine ⟨.ref p, g1, .inl ⟨rfl, _, .inl (.inl g3)⟩, he.out en F σ H _ sa (wpR_mono (wpR_bind h) (fun w q u F1 H1 e1 s1 ry => ?_) fun _ z => z)⟩
    obtain ⟨p1, o1, f1, f2, f3, ⟨ws, eo, rl1⟩, f5, f6⟩ := s1.own i _ _ (hΓ w.2)
    subst eo
    have ep : p1 = p := by
      rw [g1] at f1
      injection f1 with f1
      injection f1 with f1
      injection f1 with f1
      exact f1.symm
    subst ep
    obtain ⟨hl, q⟩ := wpR_chk (wpR_bind q)
    refine ⟨p1, ws, u, rfl, rfl, f3, by rw [← rl1.length]; exact hl, ?_⟩
    exact (hr w).out en F1 σ _ D (s1.mut (P' := oLi (tl ρl) (xs ++ [w.1])) (hΓ w.2) f1 ⟨ws ++ [u], rfl, rl1.append (.cons ry .nil)⟩) (wpR_mono q (fun o z => z.up e1) fun _ z => z.up e1))⟩
end
end Py

/-! Own layer, part N: defs that give a new object; more expressions and statements with a state. -/
namespace Py
open PySem PySem.Spec PyProof.Rows L2

/-! ### a def that gives a new object -/
theorem Frs.le {en : En} {Γ Γ' : List Sl} {F H : Hp} {σ : L2.St} {p : Addr} {o : HO} (h : Frs en Γ F σ H p o) (l : Le Γ' Γ) : Frs en Γ' F σ H p o :=
  ⟨h.f, h.e, fun i a P hi => (l.get hi).elim (fun z => by cases z) fun z => h.n i a P z, h.h⟩
theorem Fresh.frs {en : En} {Γ : List Sl} {F H : Hp} {σ : L2.St} {p : Addr} {o : HO} (h : Fresh en Γ F σ H p o) : Frs en Γ F σ H p o := ⟨h.f, .inl h.e, h.n, h.h⟩
theorem Le.any : ∀ {Γ : List Sl} (i : Nat), Le (Γ.set i .any) Γ
  | [], _ => .nil
  | _ :: _, 0 => .cons .any Le.refl
  | _ :: _, i + 1 => .cons .rfl (Le.any i)
section
variable {X : Cx} {U : Wi} {Γ : List Sl} {e : Expr} {rest : List Stmt} {pos p : Pos} {α ω : Type} {I : ω → Kd} {n : Str}
end
section
variable {P : Program} {w : World} {K : PySem.W.Frag} {mg : Str → Option Value} {base : Heap}
end
section
variable {X : Cx} {U : Wi} {Γ : List Sl} {a : Expr} {es : List Expr} {pos p : Pos} {τ γ : Type} {t : Tr τ} {k : Nat} {f : Addr} {fd : FuncData} {ps : List Str} {n : Str}
end

theorem RepL.erase {α : Type} {ρ : Rp α} {H : Hp} : ∀ {as : List α} {vs : List V} (i : Nat), RepL ρ H as vs → RepL ρ H (as.eraseIdx i) (vs.eraseIdx i)
  | _, _, _, .nil => .nil
  | _, _, 0, .cons _ t => t
  | _, _, i + 1, .cons r t => .cons r (RepL.erase i t)

/-! ### more expressions with a state -/
section
variable {X : Cx} {U : Wi} {S : Type} {α β γ τ ω ω' : Type} {ρ1 : Rp α} {ρ2 : Rp β} {ρ : Rp γ} {t : Tr τ} {a b c e : Expr} {es : List Expr} {A B rest : List Stmt} {pos p : Pos} {Γs : S → List Sl} {s : S} {I : ω → Kd} {I' : ω' → Kd} {n : Str}
/-- displays of one type -/
theorem as_n0 : AS X U Γs s [] (tn ρ1 0) (.ok ([], s)) := ⟨fun en F σ H Q sa h => wA_of pa_nil (h [] F H (Same.refl F) sa ⟨.nil, rfl⟩)⟩
theorem as_nc {k : Nat} {m1 : R (α × S)} {m2 : S → R (List α × S)} (ha : ES X U Γs s a ρ1 m1) (hb : ∀ s', AS X U Γs s' es (tn ρ1 k) (m2 s')) (hs : starEach (a :: es) X.env = (false, eval a X.env) :: starEach es X.env := by rfl) :
    AS X U Γs s (a :: es) (tn ρ1 (k + 1)) (m1.bind fun w1 => (m2 w1.2).bind fun w2 => .ok (w1.1 :: w2.1, w2.2)) :=
  g_acons (t' := tn ρ1 (k + 1)) (ω2 := List α × S) (val := fun w : List α × S => w.1) (v2 := fun _ w => w.1) (Γ' := fun w => Γs w.2) (pk := fun (w1 : α × S) (w2 : List α × S) => (w1.1 :: w2.1, w2.2)) (fun w1 w2 F v vs (r : ρ1.rep w1.1 F v) (q : (tn ρ1 k).rep w2.1 F vs) => ⟨.cons r q.1, congrArg (· + 1) q.2⟩) (fun _ _ => rfl) ha (fun w1 => hb w1.2) hs
theorem fs_list {k : Nat} {m : R (List α × S)} (h : AS X U Γs s es (tn ρ1 k) m) (hk : k ≤ 1000 := by decide) : FG X U (Γs s) (.List es pos) (fun w : List α × S => oLi (tl ρ1) w.1) m (fun w => Γs w.2) :=
  ⟨fun en F σ H Q sa q => (f_lst (val := fun w : List α × S => w.1) h (fun w F vs r => sz r.2 hk)).out en F σ H Q sa (wpR_mono q (fun w kk p o F' H' e1 s1 fr ⟨vs, e, r⟩ => kk p o F' H' e1 s1 fr ⟨vs, e, r.1⟩) fun _ z => z)⟩
theorem es_frz {m : R (τ × S)} (h : FG X U (Γs s) e (fun w : τ × S => oLi t w.1) m (fun w => Γs w.2)) : ES X U Γs s e (rLi t) m := x_frz (val := fun w : τ × S => w.1) h
theorem es_map {π : Rp β} {m : R (γ × S)} (f : γ → β) (hf : ∀ x F v, ρ.rep x F v → π.rep (f x) F v) (h : ES X U Γs s e ρ m) : ES X U Γs s e π (m.bind fun w => .ok (f w.1, w.2)) :=
  ⟨fun en F σ H Q sa q => h.out en F σ H Q sa (wpR_mono (wpR_bind q) (fun w k v F' H' e1 s1 r => k v F' H' e1 s1 (hf _ _ _ r)) fun _ z => z)⟩
variable {id T : String} {r : List V → Hp → VK → Prop}
/-! ### more statements with a state -/
end
end Py
namespace Py
open PySem PySem.Spec PyProof.Rows L2
theorem chk_calmP {c : Prop} [Decidable c] {α : Type} {a : α} : (chk c a).calm = chk c a := by
  unfold chk
  by_cases h : c
  · rw [if_pos h] <;> rfl
  · rw [if_neg h] <;> rfl
theorem opt_calmP {α : Type} {o : Option α} : (ofOpt o).calm = ofOpt o := by cases o <;> rfl
section
variable {X : Cx} {U : Wi} {S : Type} {α ω : Type} {ρ : Rp α} {a b : Expr} {rest : List Stmt} {pos : Pos} {Γs : S → List Sl} {s : S} {Γ : List Sl} {I : ω → Kd} {n : Str}
end
end Py
namespace Py
open PySem PySem.Spec PyProof.Rows L2
section
variable {X : Cx} {U : Wi} {Γ : List Sl} {α : Type} {ρ : Rp α} {a : Expr} {pos : Pos}
end
end Py

/-! Own layer, part O: an own list or dict is read as a whole, while it stays one's own. -/
namespace Py
open PySem PySem.Spec PyProof.Rows L2
/-- what of it looks at tuples alone -/
structure TO {α : Type} (ρ : Rp α) : Prop where
  out : ∀ a (F F' : Hp) v, (∀ q vs, F q = some (.tup vs) → F' q = some (.tup vs)) → ρ.rep a F v → ρ.rep a F' v
theorem toS : TO rS := ⟨fun _ _ _ _ _ h => h⟩
section
variable {en : En} {Γ : List Sl} {F H : Hp} {σ : L2.St} {i : Nat} {a0 : Option Addr} {P : ORp} {Q : PRp}
/-- p is forgotten -/
def less (F : Hp) (p : Addr) : Hp := fun q => if q = p then none else F q
end
section
variable {X : Cx} {U : Wi} {Γ : List Sl} {e : Expr} {α τ : Type} {ρ : Rp α} {t : Tr τ} {a0 : Option Addr} {P : ORp} {Q : PRp}
end
end Py

/-! Own layer, part P: slices of tuples. -/
namespace Py
open PySem PySem.Spec PyProof.Rows L2
section
variable {X : Cx} {U : Wi} {S : Type} {Γ : List Sl} {Γs : S → List Sl} {s : S} {α : Type} {ρ : Rp α} {a b : Expr} {pos : Pos}
end
end Py
namespace Py
open PySem PySem.Spec PyProof.Rows L2
/-! ### the keys of a new dict are walked: it is locked for good -/
theorem RepD.keys {κ ν : Type} {ρ : Rp κ} {ky : Ky ρ} {π : Rp ν} {F : Hp} : ∀ {xs : List (κ × ν)} {kvs : List (List Key × V)}, RepD ky π F xs kvs → kvs.map Prod.fst = xs.map fun q => ky.enc q.1
  | _, _, .nil => rfl
  | _, _, .cons r t => by rw [List.map_cons, List.map_cons, RepD.keys t]
section
variable {X : Cx} {U : Wi} {Γ : List Sl} {tg e : Expr} {κ ν : Type} {ρ : Rp κ} {ky : Ky ρ} {π : Rp ν}
variable {n : Str} {pos p p2 : Pos}
end
end Py
namespace Py
open PySem PySem.Spec PyProof.Rows L2
section
variable {X : Cx} {U : Wi} {Γ : List Sl} {γ : Type} {ρ : Rp γ} {n : Str} {pos p : Pos} {k : Nat} {f : Addr} {fd : FuncData} {ps : List Str}
end
end Py

/-! Own layer, part Q: own exception classes: raise, try .. except C as e, isinstance(e, ..). -/
namespace Py
open PySem PySem.Spec PyProof.Rows L2
/-- what a raised class must say -/
structure ExX (K : PySem.W.Frag) (mg : Str → Option Value) (n : Str) (C : Addr) : Prop where
  g : mg n = some (.ref C)
  k : PySem.W.keepIn K (.ref C) = true
  ex : PySem.W.excIn K C [.type "ValueError", .type "Exception", .type "BaseException", .type "object"] "ValueError.__new__" = true
  ty : PySem.W.typeIn K (.ref C) = some (.type "type")
  c : ExcC K C
section
variable {X : Cx} {U : Wi} {Γ : List Sl} {rest : List Stmt} {pos pos2 p p2 : Pos} {ω : Type} {I : ω → Kd} {n m : Str} {C : Addr} {j : Nat}
/-- raise C('..') -/
theorem p_raiseX (T : ExX X.K X.mg n C) (tk : Takes X U.W) (l : Le U.Γ Γ) (hg : Gl X n := by rfl) (hdb : (n == ("__debug__" : Str)) = false := by decide) (hc : X.calm = true := by rfl) :
    SX X U Γ (.Raise (some (.Call (.Name n p) [.Constant (.str m) j p2] [] pos2)) none pos :: rest) I (.er ⟨n, none⟩) :=
  p_raise tk (pmk_own PySem.F.excBase_ValueError T.ex T.g T.k (raises_own T.c.hs T.ty) hg hdb) T.g l hc
end
def catchR {τ : Type} (ct : Str → Option Bool) (mh : Er → R τ) : R τ → R τ
  | .er r => match ct r.cls with
    | some true => if r.fld.isNone = true then (mh r).calm else .bad
    | some false => .er r
    | none => .bad
  | m => m
/-- what is known of the classes of a table -/
structure Ct (mg : Str → Option Value) (ct : Str → Option Bool) (P : Addr → Bool → Prop) : Prop where
  out : ∀ cl b C, ct cl = some b → mg cl = some (.ref C) → P C b
theorem ct_nil {mg : Str → Option Value} {P : Addr → Bool → Prop} : Ct mg (fun _ => none) P := ⟨fun _ _ _ h => nomatch h⟩
theorem ct_cons {mg : Str → Option Value} {P : Addr → Bool → Prop} {n : Str} {C0 : Addr} {b0 : Bool} {ct : Str → Option Bool} (hg : mg n = some (.ref C0)) (h : P C0 b0) (k : Ct mg ct P) : Ct mg (fun s => if s = n then some b0 else ct s) P :=
  ⟨fun cl b C e q => by
    by_cases z : cl = n
    · subst z
      rw [if_pos rfl] at e
      injection e with e
      subst e
      rw [hg] at q
      injection q with q
      injection q with q
      subst q
      exact h
    · rw [if_neg z] at e
      exact k.out cl b C e q⟩
theorem SA.forget {en : En} {Γ : List Sl} {F H : Hp} {σ : L2.St} {i : Nat} (s : SA en Γ F σ H) (hi : ∀ x, Γ[i]? = some x → x = .any) : SA en Γ F (σ.set i none) H := by
  have ne : ∀ {j : Nat} {x : Sl}, Γ[j]? = some x → x ≠ .any → i ≠ j := fun {j x} h k e => by
    subst e
    exact k (hi x h)
  refine ⟨by rw [List.length_set]; exact s.len, s.sub, s.grow, s.old, s.there, s.frz, fun j P h => ?_, fun j a P h => ?_, fun j k a b P Q q hjk hj hk => ?_⟩
  · rw [List.getElem?_set_ne (ne h (fun z => nomatch z))]
    exact s.val j P h
  · rw [List.getElem?_set_ne (ne h (fun z => nomatch z))]
    exact s.own j a P h
  · rw [List.getElem?_set_ne (ne hj (fun z => nomatch z)), List.getElem?_set_ne (ne hk (fun z => nomatch z))]
    exact s.dis j k a b P Q q hjk hj hk
section
variable {X : Cx} {U : Wi} {Γ Γ0 : List Sl} {body suite rest : List Stmt} {b0 : Stmt} {x n : Str} {c : Value} {np pos pos' : Pos} {τ ω : Type} {I : ω → Kd}
end

/-! ### isinstance(e, ..) -/
section
variable {X : Cx} {U : Wi} {Γ : List Sl} {a : Addr} {oe : Obj} {cls : Value} {d : Option Addr} {pn : List (Addr × Obj)} {r : Er} {n T : Str} {pos p p2 p3 : Pos}
/-- a class's name: a global of the program's or a built-in one -/
structure NmC (X : Cx) (e : Expr) (v : V) (u : Value) : Prop where
  pe : PE X e (tC v)
  cv : ClsV v u
theorem nm_own {C : Addr} (hm : X.mg T = some (.ref C)) (hg : Gl X T := by rfl) (hd : (T == ("__debug__" : Str)) = false := by decide) : NmC X (.Name T p) (.ref C) (.ref C) := ⟨pe_glob hg hm rfl hd, .own C⟩
theorem nm_blt {t : String} (hm : X.mg T = none) (hv : bootBuiltins T = some (.type t)) (hg : Gl X T := by rfl) (hn : T ≠ "__name__" := by decide) (hd : (T == ("__debug__" : Str)) = false := by decide) : NmC X (.Name T p) (.ty t) (.type t) := ⟨pe_bltn (v := .ty t) hg hm hv rfl hn hd, .ty t⟩
inductive NmCs (X : Cx) : List Expr → List V → List Value → Prop
  | nil : NmCs X [] [] []
  | cons {e : Expr} {es : List Expr} {v : V} {vs : List V} {u : Value} {us : List Value} (h : NmC X e v u) (t : NmCs X es vs us) (hs : starEach (e :: es) X.env = (false, eval e X.env) :: starEach es X.env) : NmCs X (e :: es) (v :: vs) (u :: us)
theorem NmCs.pa {X : Cx} : ∀ {es : List Expr} {vs : List V} {us : List Value}, NmCs X es vs us → PA X es (fun σ H Q => Q vs H)
  | _, _, _, .nil => ⟨fun pos pins s σ H Q I h => pa_nil.run pos pins s σ H Q I h⟩
  | _, _, _, .cons h t hs => ⟨fun pos pins s σ H Q I q => (pa_cons h.pe t.pa hs).run pos pins s σ H Q I q⟩
theorem NmCs.clv {X : Cx} : ∀ {es : List Expr} {vs : List V} {us : List Value}, NmCs X es vs us → Paired ClsV vs us
  | _, _, _, .nil => .nil
  | _, _, _, .cons h t _ =>   .cons h.cv t.clv
end
end Py

/-! Own layer, part R: list(reversed(t)). -/
namespace RT
open PySem PySem.Spec PyProof.Rows
section
variable {prog : Program} {w : World} {A : Around} {E : Value → Shared → Prop} {s : Shared}
end
end RT
namespace RT
open PySem PySem.Spec PyProof.Rows L2
section
variable {X : Cx}
end
end RT
namespace Py
open PySem PySem.Spec PyProof.Rows L2
section
variable {X : Cx} {U : Wi} {Γ : List Sl} {a : Expr} {pos p p2 p3 : Pos} {α : Type} {ρ : Rp α}
end
/-! ### defaults -/
end Py

/-! Own layer, part T: values of any kind (numbers, truths, texts, None, tuples and lists of such), zip, min of cells, pop of a dict. -/
namespace Py
open PySem PySem.Spec PyProof.Rows L2
inductive Dy where
  | non
  | int (i : Int)
  | bl (b : Bool)
  | str (s : Str)
  | tup (l : List Dy)
  | lst (l : List Dy)
mutual
def Dy.rp : Dy → Hp → V → Prop
  | .non, _, v => v = .non
  | .int i, _, v => v = .int i
  | .bl b, _, v => v = .bl b
  | .str s, _, v => v = .str s
  | .tup l, H, v => ∃ p ws, v = .ref p ∧ H p = some (.tup ws) ∧ Dy.rps l H ws
  | .lst l, H, v => ∃ p ws, v = .ref p ∧ H p = some (.lst ws) ∧ Dy.rps l H ws
def Dy.rps : List Dy → Hp → List V → Prop
  | [], _, ws => ws = []
  | d :: l, H, ws => ∃ v vs, ws = v :: vs ∧ Dy.rp d H v ∧ Dy.rps l H vs
end
mutual
theorem Dy.rp_mono {H H' : Hp} (e : Same H H') : ∀ {d : Dy} {v : V}, d.rp H v → d.rp H' v
  | .non, _, h => by rw [Dy.rp] at *; exact h
  | .int i, _, h => by rw [Dy.rp] at *; exact h
  | .bl b, _, h => by rw [Dy.rp] at *; exact h
  | .str s, _, h => by rw [Dy.rp] at *; exact h
  | .tup l, v, h => by
    rw [Dy.rp] at *
    obtain ⟨p, ws, e1, e2, e3⟩ := h
    exact ⟨p, ws, e1, e p _ e2, Dy.rps_mono e e3⟩
  | .lst l, v, h => by
    rw [Dy.rp] at *
    obtain ⟨p, ws, e1, e2, e3⟩ := h
    exact ⟨p, ws, e1, e p _ e2, Dy.rps_mono e e3⟩
theorem Dy.rps_mono {H H' : Hp} (e : Same H H') : ∀ {l : List Dy} {ws : List V}, Dy.rps l H ws → Dy.rps l H' ws
  | [], _, h => by rw [Dy.rps] at *; exact h
  | d :: l, ws, h => by
    rw [Dy.rps] at *
    obtain ⟨v, vs, e1, e2, e3⟩ := h
    exact ⟨v, vs, e1, Dy.rp_mono e e2, Dy.rps_mono e e3⟩
end
def rY : Rp Dy := ⟨fun d H v => d.rp H v, fun e h => Dy.rp_mono e h⟩
theorem rps_of {F : Hp} : ∀ {l : List Dy} {ws : List V}, RepL rY F l ws → Dy.rps l F ws
  | _, _, .nil => by rw [Dy.rps]
  | _, _, .cons h t => by
    rw [Dy.rps]
    exact ⟨_, _, rfl, h, rps_of t⟩
theorem of_rps {F : Hp} : ∀ {l : List Dy} {ws : List V}, Dy.rps l F ws → RepL rY F l ws
  | [], ws, h => by
    rw [Dy.rps] at h
    rw [h]
    exact .nil
  | d :: l, ws, h => by
    rw [Dy.rps] at h
    obtain ⟨v, vs, e1, e2, e3⟩ := h
    rw [e1]
    exact .cons e2 (of_rps e3)
theorem yTup_iff {l : List Dy} {F : Hp} {v : V} : rY.rep (.tup l) F v ↔ (rT rY).rep l F v := by
  show Dy.rp (.tup l) F v ↔ _
  rw [Dy.rp]
  exact ⟨fun ⟨p, ws, h1, h2, h3⟩ => ⟨p, ws, h1, h2, of_rps h3⟩, fun ⟨p, ws, h1, h2, h3⟩ => ⟨p, ws, h1, h2, rps_of h3⟩⟩
theorem yLst_iff {l : List Dy} {F : Hp} {v : V} : rY.rep (.lst l) F v ↔ (rL rY).rep l F v := by
  show Dy.rp (.lst l) F v ↔ _
  rw [Dy.rp]
  exact ⟨fun ⟨p, ws, h1, h2, h3⟩ => ⟨p, ws, h1, h2, of_rps h3⟩, fun ⟨p, ws, h1, h2, h3⟩ => ⟨p, ws, h1, h2, rps_of h3⟩⟩
/-! ### into it -/
/-- f tells what a typed thing is as one of any kind -/
structure Yn {α : Type} (ρ : Rp α) (f : α → Dy) : Prop where
  out : ∀ x F v, ρ.rep x F v → rY.rep (f x) F v
structure Yns {τ : Type} (t : Tr τ) (f : τ → List Dy) : Prop where
  out : ∀ x F vs, t.rep x F vs → RepL rY F (f x) vs
theorem yI : Yn rI Dy.int := ⟨fun x F v h => by show Dy.rp _ F v; rw [Dy.rp]; exact h⟩
theorem yN : Yn rN fun _ => Dy.non := ⟨fun x F v h => by show Dy.rp _ F v; rw [Dy.rp]; exact h⟩
theorem yY : Yn rY fun d => d := ⟨fun x F v h => h⟩
theorem repL_map {α : Type} {ρ : Rp α} {f : α → Dy} (h : Yn ρ f) {F : Hp} : ∀ {xs : List α} {vs : List V}, RepL ρ F xs vs → RepL rY F (xs.map f) vs
  | _, _, .nil => .nil
  | _, _, .cons r t => .cons (h.out _ _ _ r) (repL_map h t)
theorem yT {α : Type} {ρ : Rp α} {f : α → Dy} (h : Yn ρ f) : Yn (rT ρ) fun xs => .tup (xs.map f) := ⟨fun x F v ⟨p, vs, e1, e2, e3⟩ => yTup_iff.mpr ⟨p, vs, e1, e2, repL_map h e3⟩⟩
theorem yL {α : Type} {ρ : Rp α} {f : α → Dy} (h : Yn ρ f) : Yn (rL ρ) fun xs => .lst (xs.map f) := ⟨fun x F v ⟨p, vs, e1, e2, e3⟩ => yLst_iff.mpr ⟨p, vs, e1, e2, repL_map h e3⟩⟩
theorem y1 {α : Type} {ρ : Rp α} {f : α → Dy} (h : Yn ρ f) : Yns (t1 ρ) fun x => [f x] := ⟨fun x F vs ⟨v, e, r⟩ => by rw [e]; exact .cons (h.out x F v r) .nil⟩
theorem yc {α τ : Type} {ρ : Rp α} {t : Tr τ} {f : α → Dy} {g : τ → List Dy} (h : Yn ρ f) (k : Yns t g) : Yns (tc ρ t) fun x => f x.1 :: g x.2 := ⟨fun x F vs ⟨v, ws, e, r, q⟩ => by rw [e]; exact .cons (h.out _ F v r) (k.out _ F ws q)⟩
theorem yTu {τ : Type} {t : Tr τ} {g : τ → List Dy} (k : Yns t g) : Yn (rTu t) fun x => .tup (g x) := ⟨fun x F v ⟨p, vs, e1, e2, e3⟩ => yTup_iff.mpr ⟨p, vs, e1, e2, k.out x F vs e3⟩⟩
/-! ### out of it -/
structure Yo {α : Type} (ρ : Rp α) (f : Dy → Option α) : Prop where
  out : ∀ d x F v, f d = some x → rY.rep d F v → ρ.rep x F v
structure Yos {τ : Type} (t : Tr τ) (f : List Dy → Option τ) : Prop where
  out : ∀ d x F vs, f d = some x → RepL rY F d vs → t.rep x F vs
def asI : Dy → Option Int
  | .int i => some i
  | _ => none
def allM {α : Type} (f : Dy → Option α) : List Dy → Option (List α)
  | [] => some []
  | d :: l => (f d).bind fun x => (allM f l).map fun r => x :: r
def asT {α : Type} (f : Dy → Option α) : Dy → Option (List α)
  | .tup l => allM f l
  | _ => none
def asL {α : Type} (f : Dy → Option α) : Dy → Option (List α)
  | .lst l => allM f l
  | _ => none
def as1 {α : Type} (f : Dy → Option α) : List Dy → Option α
  | [d] => f d
  | _ => none
def asc {α τ : Type} (f : Dy → Option α) (g : List Dy → Option τ) : List Dy → Option (α × τ)
  | d :: l => (f d).bind fun x => (g l).map fun r => (x, r)
  | _ => none
def asTu {τ : Type} (g : List Dy → Option τ) : Dy → Option τ
  | .tup l => g l
  | _ => none
theorem ouI : Yo rI asI := ⟨fun d x F v e h => by
  cases d <;> simp [asI] at e
  subst e
  have h' : Dy.rp _ F v := h
  rw [Dy.rp] at h'
  exact h'⟩
theorem ouY : Yo rY some := ⟨fun d x F v e h => by injection e with e; rw [← e]; exact h⟩
theorem oall {α : Type} {ρ : Rp α} {f : Dy → Option α} (h : Yo ρ f) {F : Hp} : ∀ {l : List Dy} {xs : List α} {vs : List V}, allM f l = some xs → RepL rY F l vs → RepL ρ F xs vs
  | [], xs, _, e, .nil => by
    injection e with e
    rw [← e]
    exact .nil
  | d :: l, xs, _, e, .cons r t => by
    unfold allM at e
    cases e1 : f d with
    | none => rw [e1] at e; cases e
    | some x =>
      rw [e1] at e
      cases e2 : allM f l with
      | none =>
        have e' : ((allM f l).map fun r => x :: r) = some xs := e
        rw [e2] at e'
        cases e'
      | some r2 =>
        have e' : ((allM f l).map fun r => x :: r) = some xs := e
        rw [e2] at e'
        injection e' with e'
        rw [← e']
        exact .cons (h.out _ _ _ _ e1 r) (oall h e2 t)
theorem ouT {α : Type} {ρ : Rp α} {f : Dy → Option α} (h : Yo ρ f) : Yo (rT ρ) (asT f) := ⟨fun d x F v e r => by
  cases d with
  | tup l =>
    obtain ⟨p, ws, h1, h2, h3⟩ := yTup_iff.mp r
    exact ⟨p, ws, h1, h2, oall h e h3⟩
  | _ => cases e⟩
theorem ouL {α : Type} {ρ : Rp α} {f : Dy → Option α} (h : Yo ρ f) : Yo (rL ρ) (asL f) := ⟨fun d x F v e r => by
  cases d with
  | lst l =>
    obtain ⟨p, ws, h1, h2, h3⟩ := yLst_iff.mp r
    exact ⟨p, ws, h1, h2, oall h e h3⟩
  | _ => cases e⟩
theorem ou1 {α : Type} {ρ : Rp α} {f : Dy → Option α} (h : Yo ρ f) : Yos (t1 ρ) (as1 f) := ⟨fun d x F vs e r => by
  cases r with
  | nil => cases e
  | cons r t =>
    cases t with
    | nil => exact ⟨_, rfl, h.out _ _ _ _ e r⟩
    | cons _ _ => cases e⟩
theorem ouc {α τ : Type} {ρ : Rp α} {t : Tr τ} {f : Dy → Option α} {g : List Dy → Option τ} (h : Yo ρ f) (k : Yos t g) : Yos (tc ρ t) (asc f g) := ⟨fun d x F vs e r => by
  cases r with
  | nil => cases e
  | @cons a as v vs r t =>
    have e0 : ((f a).bind fun y => (g as).map fun r => (y, r)) = some x := e
    cases e1 : f a with
    | none => rw [e1] at e0; cases e0
    | some y =>
      rw [e1] at e0
      have e' : ((g as).map fun r => (y, r)) = some x := e0
      cases e2 : g as with
      | none => rw [e2] at e'; cases e'
      | some z =>
        rw [e2] at e'
        injection e' with e'
        rw [← e']
        exact ⟨_, _, rfl, h.out _ _ _ _ e1 r, k.out _ _ _ _ e2 t⟩⟩
theorem ouTu {τ : Type} {t : Tr τ} {g : List Dy → Option τ} (k : Yos t g) : Yo (rTu t) (asTu g) := ⟨fun d x F v e r => by
  cases d with
  | tup l =>
    obtain ⟨p, ws, h1, h2, h3⟩ := yTup_iff.mp r
    exact ⟨p, ws, h1, h2, k.out _ _ _ _ e h3⟩
  | _ => cases e⟩
section
variable {X : Cx} {U : Wi} {Γ : List Sl} {a b e e2 : Expr} {es : List Expr} {pos p p2 : Pos} {α β : Type} {ρ : Rp α} {π : Rp β}
theorem x_out {f : Dy → Option α} {m : R Dy} (h : Yo ρ f) (ha : EX X U Γ e rY m) : EX X U Γ e ρ (m.bind fun d => ofOpt (f d)) :=
  ⟨fun en F σ H Q s q => ha.out en F σ H Q s (wpR_mono (wpR_bind q) (fun d k v F1 H1 e1 s1 r1 => by
    obtain ⟨x, ex, k⟩ := wpR_opt k
    exact k v F1 H1 e1 s1 (h.out d x F1 v ex r1)) fun _ z => z)⟩
end
/-! ### what may be asked of it -/
def Dy.isN : Dy → Bool
  | .non => true
  | _ => false
def Dy.len : Dy → Option Int
  | .tup l => some (l.length : Nat)
  | .lst l => some (l.length : Nat)
  | _ => none
def Dy.at : Dy → Int → Option Dy
  | .tup l, i => atI l i
  | .lst l, i => atI l i
  | _, _ => none
def Dy.row : Dy → Option (List Dy)
  | .tup l => some l
  | .lst l => some l
  | _ => none
def Dy.zip : Dy → Dy → Option (List (Dy × Dy))
  | .tup l, .tup m => some (l.zip m)
  | .lst l, .lst m => some (l.zip m)
  | _, _ => none
theorem rp_non {d : Dy} {F : Hp} {v : V} (r : rY.rep d F v) : decide (v = .non) = d.isN := by
  have r' : Dy.rp d F v := r
  cases d with
  | non => rw [Dy.rp] at r'; rw [r']; exact decide_eq_true rfl
  | int i => rw [Dy.rp] at r'; rw [r']; exact decide_eq_false (fun z => nomatch z)
  | bl i => rw [Dy.rp] at r'; rw [r']; exact decide_eq_false (fun z => nomatch z)
  | str i => rw [Dy.rp] at r'; rw [r']; exact decide_eq_false (fun z => nomatch z)
  | tup l =>
    obtain ⟨p, ws, h1, _⟩ := yTup_iff.mp r
    rw [h1]
    exact decide_eq_false (fun z => nomatch z)
  | lst l =>
    obtain ⟨p, ws, h1, _⟩ := yLst_iff.mp r
    rw [h1]
    exact decide_eq_false (fun z => nomatch z)
mutual
def Dy.dat : Dy → PyData
  | .non => .none
  | .int i => .int i
  | .bl b => .bool b
  | .str s => .str s
  | .tup l => .tuple (Dy.dats l)
  | .lst l => .list (Dy.dats l)
def Dy.dats : List Dy → List PyData
  | [] => []
  | d :: l => Dy.dat d :: Dy.dats l
end
mutual
theorem Dy.dp {K : PySem.W.Frag} {H : Hp} : ∀ {d : Dy} {v : V}, d.rp H v → Dp K H v d.dat
  | .non, _, h => by rw [Dy.rp] at h; rw [h, Dy.dat]; exact .non
  | .int i, _, h => by rw [Dy.rp] at h; rw [h, Dy.dat]; exact .int i
  | .bl b, _, h => by rw [Dy.rp] at h; rw [h, Dy.dat]; exact .bl b
  | .str s, _, h => by rw [Dy.rp] at h; rw [h, Dy.dat]; exact .str s
  | .tup l, v, h => by
    rw [Dy.rp] at h
    obtain ⟨p, ws, e1, e2, e3⟩ := h
    rw [e1, Dy.dat]
    exact .tup (.inl (.inl e2)) (Dy.dps e3)
  | .lst l, v, h => by
    rw [Dy.rp] at h
    obtain ⟨p, ws, e1, e2, e3⟩ := h
    rw [e1, Dy.dat]
    exact .lst (.inl (.inl e2)) (Dy.dps e3)
theorem Dy.dps {K : PySem.W.Frag} {H : Hp} : ∀ {l : List Dy} {ws : List V}, Dy.rps l H ws → DpAll K H ws (Dy.dats l)
  | [], _, h => by rw [Dy.rps] at h; rw [h, Dy.dats]; exact .nil
  | d :: l, ws, h => by
    rw [Dy.rps] at h
    obtain ⟨v, vs, e1, e2, e3⟩ := h
    rw [e1, Dy.dats]
    exact .cons (Dy.dp e2) (Dy.dps e3)
end
/-- x == y, as Python tells it -/
def Dy.eqv (x y : Dy) : Bool := PyData.eqv x.dat y.dat
def Dy.shp (x : Dy) : Bool := SeqAt.shaped x.dat
theorem dEqY {K : PySem.W.Frag} : D2 (rEqD K) rY rY rB fun x y => chk (x.shp = true ∧ y.shp = true) (x.eqv y) := fun x y v w F H Q e rv rw q => by
  obtain ⟨⟨s1, s2⟩, q⟩ := wpR_chk q
  exact ⟨_, _, Dy.dp (Dy.rp_mono e rv), Dy.dp (Dy.rp_mono e rw), s1, s2, q _ F H (Ext.refl e) rfl⟩
theorem dNeY {K : PySem.W.Frag} : D2 (rNeD K) rY rY rB fun x y => chk (x.shp = true ∧ y.shp = true) (!x.eqv y) := fun x y v w F H Q e rv rw q => by
  obtain ⟨⟨s1, s2⟩, q⟩ := wpR_chk q
  exact ⟨_, _, Dy.dp (Dy.rp_mono e rv), Dy.dp (Dy.rp_mono e rw), s1, s2, q _ F H (Ext.refl e) rfl⟩
/-! ### zip -/
section
variable {X : Cx} {U : Wi} {Γ : List Sl} {a b e e2 : Expr} {es : List Expr} {pos p p2 : Pos} {α β : Type} {ρ : Rp α} {π : Rp β}
theorem c_isNY {m : R Dy} {j} {pos' : Pos} (ha : EX X U Γ a rY m) : CG X U Γ .Is a (.Constant .none j pos') (m.bind fun x => .ok x.isN) :=
  ⟨_, pc_isN wE_pe, fun en F σ H Q s h => ha.out en F σ H _ s (wpR_mono (wpR_bind h) (fun x k v F1 H1 e1 s1 r1 => by
    have k' := k F1 H1 e1 s1
    rw [← rp_non r1] at k'
    exact k') fun _ z => z)⟩
end
end Py

/-! Own layer, part U: pop of a dict by a tuple, min and max of cells. -/
namespace DT
open PySem PySem.W PySem.Calls PyProof.Rows PyProof.V PySem.Spec
section
variable {prog : Program} {w : World} {K : Type} [DecidableEq K] {knd : HeapKind prog w K}
end
end DT
namespace L2.DX
open PySem PySem.Spec PyProof.Rows
section
variable {X : Cx}
end
end L2.DX
namespace Py
open PySem PySem.Spec PyProof.Rows L2
def dDrop {κ ν : Type} [DecidableEq κ] (xs : List (κ × ν)) (k : κ) : List (κ × ν) := xs.filter fun q => decide (q.1 ≠ k)
theorem RepD.drop {κ ν : Type} [DecidableEq κ] {ρ : Rp κ} {ky : Ky ρ} {π : Rp ν} {H : Hp} : ∀ {xs : List (κ × ν)} {kvs : List (List Key × V)} (k : κ), RepD ky π H xs kvs → RepD ky π H (dDrop xs k) (dropK kvs (ky.enc k))
  | _, _, k, .nil => .nil
  | _, _, k, .cons (k := k') (x := x) (xs := xs) (v := v) (kvs := kvs) r t => by
    have ih := RepD.drop k t
    unfold dDrop dropK at *
    by_cases h : k' = k
    · subst h
      rw [List.filter_cons_of_neg (by simp), List.filter_cons_of_neg (by simp)]
      exact ih
    · have h' : ¬ ky.enc k' = ky.enc k := fun z => h (ky.inj _ _ z)
      rw [List.filter_cons_of_pos (by simp [h]), List.filter_cons_of_pos (by simp [h'])]
      exact .cons r ih
section
variable {X : Cx} {U : Wi} {Γ : List Sl} {a b c e : Expr} {es : List Expr} {rest : List Stmt} {pos p ap cp : Pos} {κ ν ω : Type} {I : ω → Kd} {n : Str}
end
/-! ### min and max of cells -/
end Py

/-! Own layer, part V: one type seen as another. -/
namespace Py
open PySem PySem.Spec PyProof.Rows L2
structure Cv {α β : Type} (ρ : Rp α) (π : Rp β) (f : α → β) : Prop where
  out : ∀ x F v, ρ.rep x F v → π.rep (f x) F v
section
variable {α β σ τ : Type} {ρ : Rp α} {π : Rp β} {s : Tr σ} {t : Tr τ} {f : α → β} {g : σ → τ}
theorem cvY {f : α → Dy} (h : Yn ρ f) : Cv ρ rY f := ⟨h.out⟩
end
section
variable {X : Cx} {U : Wi} {Γ : List Sl} {e : Expr} {α β : Type} {ρ : Rp α} {π : Rp β}
theorem x_cv {f : α → β} {m : R α} (h : Cv ρ π f) (ha : EX X U Γ e ρ m) : EX X U Γ e π (m.bind fun x => .ok (f x)) := x_map (ρ' := π) f (fun x F v r => h.out x F v r) ha
end
end Py

/-! Own layer, part W: stores at a computed place, the greatest and the least of whole numbers. -/
namespace Py
open PySem PySem.Spec PyProof.Rows L2
section
variable {X : Cx} {U : Wi} {Γ : List Sl} {a b e : Expr} {rest : List Stmt} {pos p2 p4 : Pos} {α ω : Type} {ρ : Rp α} {I : ω → Kd} {n : Str}
end
end Py

/-! Own layer, part X: zip of rows of unlike kinds (a tuple and a list). -/
namespace ZG
open PySem PySem.Spec PyProof.Rows L2
/-- what the iterator at `it` over the row at `l` does: `xs` are the items, `St` tells how far it is -/
structure Nx (it l : Addr) (St : Nat → Heap → Prop) (xs : Array Value) : Prop where
  some : ∀ {prog : Program} {w : World} {A : Around} {E : Value → Shared → Prop} {s : Shared} {i : Nat} {x : Value} {Q : Value → Shared → Prop}, St i s.heap → xs[i]? = .some x → (∀ h', St (i + 1) h' → Heap.SameBut it s.heap h' → Q x { s with heap := h' }) →
    wpAny (model prog w) A (Builtin.SmallTypes.nextOf (.ref it)) Q E s
  none : ∀ {prog : Program} {w : World} {A : Around} {E : Value → Shared → Prop} {s : Shared} {i : Nat} {Q : Value → Shared → Prop}, A.handled = .none → St i s.heap → xs[i]? = .none →
    (∀ h' e, Heap.ExtBut it s.heap h' → (∃ o, h'.get? e = .some o ∧ o.cls = .type "StopIteration") → E (.ref e) { s with heap := h' }) → wpAny (model prog w) A (Builtin.SmallTypes.nextOf (.ref it)) Q E s
  keep : ∀ {i : Nat} {h h' : Heap}, St i h → (∀ o, h.get? it = .some o → h'.get? it = .some o) → (∀ o, h.get? l = .some o → h'.get? l = .some o) → St i h'
theorem up {a c : Addr} {h h' : Heap} {o : Obj} (hs : Heap.SameBut a h h') (hc : c ≠ a) (e : h.get? c = some o) : h'.get? c = some o := (hs.2 c hc).trans e
def StT (it t : Addr) (xs : Array Value) (i : Nat) (h : Heap) : Prop := h.IsTupleIter it t i ∧ h.IsTuple t xs
def StL (it t : Addr) (xs : Array Value) (i : Nat) (h : Heap) : Prop := h.IsListIter it t i ∧ h.IsList t xs
theorem nxT {it t : Addr} {xs : Array Value} (hne : t ≠ it) : Nx it t (StT it t xs) xs where
  some := fun st hx hQ => RZ.nextOf_tuple_item st.1 st.2 hx fun h' a b => hQ h' ⟨a, st.2.extBut b.extBut hne⟩ b
  none := fun hh st hx hE => RZ.nextOf_tuple_end hh st.1 st.2 hx hE
  keep := fun st k1 k2 => ⟨st.1.at fun o e => k1 o e, let ⟨o, e, r⟩ := st.2; ⟨o, k2 o e, r⟩⟩
theorem nxL {it t : Addr} {xs : Array Value} (hne : t ≠ it) : Nx it t (StL it t xs) xs where
  some := fun st hx hQ => wpAny_nextOf_list_item st.1 st.2 hx fun h' a b => hQ h' ⟨a, st.2.extBut b.extBut hne⟩ b
  none := fun hh st hx hE => wpAny_nextOf_list_end hh st.1 st.2 hx hE
  keep := fun st k1 k2 => ⟨st.1.at fun o e => k1 o e, st.2.at fun o e => k2 o e⟩
section
variable {prog : Program} {w : World} {A : Around} {E : Value → Shared → Prop} {s : Shared} {z TI TO i1 i2 l1 l2 : Addr} {k1 k2 : Nat} {xs ys : Array Value} {S1 S2 : Nat → Heap → Prop}
theorem item {x y a b : Value} {Q : Value → Shared → Prop} (D : ZipApart z TI TO i1 i2 l1 l2) (N1 : Nx i1 l1 S1 xs) (N2 : Nx i2 l2 S2 ys)
    (hz : IsZip s.heap z TI TO .none) (hTI : IsPair s.heap TI (.ref i1) (.ref i2)) (hTO : IsPair s.heap TO a b) (h1 : S1 k1 s.heap) (h2 : S2 k2 s.heap) (hx : xs[k1]? = some x) (hy : ys[k2]? = some y)
    (hQ : ∀ h', IsZip h' z TI TO (rawInt s.heap.objs.size) → IsPair h' TO x y → S1 (k1 + 1) h' → S2 (k2 + 1) h' → IsPair h' s.heap.objs.size x y → h'.objs.size = s.heap.objs.size + 1 →
      (∀ c o, c ≠ z → c ≠ TO → c ≠ i1 → c ≠ i2 → s.heap.get? c = some o → h'.get? c = some o) → Q (.ref s.heap.objs.size) { s with heap := h' }) :
    wpAny (model prog w) A (Builtin.«zip.__next__» ⟨[.ref z], []⟩) (fun fin s' => ∃ v, fin = .done (.ret v) ∧ Q v s') E s := by
  show wpAny _ _ (field (.ref z) 2 >>= _) _ _ _
  refine wpAny_bind (wpAny_field hz rfl (x := .bool false) rfl ?_)
  show wpAny _ _ (field (.ref z) 3 >>= _) _ _ _
  refine wpAny_bind (wpAny_field hz rfl (x := .ref TI) rfl (wpAny_bind (wpAny_seqItems hTI rfl ?_)))
  show wpAny _ _ (Builtin.SmallTypes.ownedTupleIsFree (.ref z) >>= _) _ _ _
  refine wpAny_bind ?_
  unfold Builtin.SmallTypes.ownedTupleIsFree
  refine wpAny_bind (wpAny_field hz rfl (x := .none) rfl (wpAny_pure ?_))
  simp only [if_true]
  refine wpAny_bind (wpAny_rule (wpAny_bind (wpAny_field hz rfl (x := .ref TO) rfl (wpAny_bind (wpAny_setField_rec hz (by simp) fun a1 z1 b1 => ?_)))))
  have z1' : IsZip a1 z TI TO .ellipsis := z1
  refine wpAny_bind ?_
  simp only [List.zipIdx_cons, List.zipIdx_nil, List.forIn_cons, List.forIn_nil]
  refine wpAny_bind (wpAny_bind (wpAny_onRaise ?_))
  show wpAny _ _ (Builtin.SmallTypes.nextOf (.ref i1) >>= _) _ _ _
  refine wpAny_bind (N1.some (N1.keep h1 (fun o e => up b1 D.i1z e) fun o e => up b1 D.l1z e) hx fun a2 t2 b2 => wpAny_pure ?_)
  have o2 : IsPair a2 TO a b := up b2 D.TOi1 (up b1 D.TOz hTO)
  refine wpAny_bind (wpAny_seqItems o2 rfl (wpAny_bind (wpAny_updateSeq_pair o2 fun a3 o3 b3 => ?_)))
  have o3' : IsPair a3 TO x b := o3
  refine wpAny_bind (wpAny_letGo (wpAny_pure (wpAny_bind (wpAny_bind (wpAny_onRaise ?_)))))
  show wpAny _ _ (Builtin.SmallTypes.nextOf (.ref i2) >>= _) _ _ _
  refine wpAny_bind (N2.some (N2.keep h2 (fun o e => up b3 D.TOi2.symm (up b2 D.i12.symm (up b1 D.i2z e))) fun o e => up b3 D.l2TO (up b2 D.l2i1 (up b1 D.l2z e))) hy fun a4 t4 b4 => wpAny_pure ?_)
  have o4 : IsPair a4 TO x b := up b4 D.TOi2 o3'
  refine wpAny_bind (wpAny_seqItems o4 rfl (wpAny_bind (wpAny_updateSeq_pair o4 fun a5 o5 b5 => ?_)))
  have o5' : IsPair a5 TO x y := o5
  refine wpAny_bind (wpAny_letGo (wpAny_pure (wpAny_pure (wpAny_bind (wpAny_seqItems o5' rfl (wpAny_bind (wpAny_newTuple ?_)))))))
  have sz : a5.objs.size = s.heap.objs.size := by rw [b5.1, b4.1, b3.1, b2.1, b1.1]
  have z5 : IsZip a5 z TI TO .ellipsis := up b5 D.TOz.symm (up b4 D.i2z.symm (up b3 D.TOz.symm (up b2 D.i1z.symm z1')))
  have zl : z < a5.objs.size := Heap.lt_size z5
  show wpAny _ _ (Builtin.SmallTypes.ownedTupleHandOut (.ref z) (.ref a5.objs.size) >>= _) _ _ _
  refine wpAny_bind ?_
  unfold Builtin.SmallTypes.ownedTupleHandOut
  have z6 : IsZip (a5.push { cls := .type "tuple", data := .seq #[x, y] }) z TI TO .ellipsis := Heap.get?_push_of_some _ z5
  refine wpAny_bind (wpAny_setField_rec z6 (by simp) fun a7 z7 b7 => ?_)
  have z7' : IsZip a7 z TI TO (rawInt a5.objs.size) := z7
  refine wpAny_setField_rec z7' (by simp) fun a8 z8 b8 => ?_
  have z8' : IsZip a8 z TI TO (rawInt a5.objs.size) := z8
  have hi : ∀ c o, c ≠ z → a5.get? c = some o → a8.get? c = some o := fun c o hc e => up b8 hc (up b7 hc (Heap.get?_push_of_some _ e))
  have p8 : IsPair a8 a5.objs.size x y := up b8 (Nat.ne_of_gt zl) (up b7 (Nat.ne_of_gt zl) (Heap.get?_push_size _ rfl))
  have s8 : a8.objs.size = a5.objs.size + 1 := by rw [b8.1, b7.1, Heap.size_push]
  rw [sz] at z8' p8 s8
  refine wpAny_pure ⟨_, rfl, ?_⟩
  show Q (.ref a5.objs.size) _
  rw [sz]
  have t2' : S1 (k1 + 1) a8 := N1.keep t2 (fun o e => hi _ o D.i1z (up b5 D.TOi1.symm (up b4 D.i12 (up b3 D.TOi1.symm e)))) fun o e => hi _ o D.l1z (up b5 D.l1TO (up b4 D.l1i2 (up b3 D.l1TO e)))
  have t4' : S2 (k2 + 1) a8 := N2.keep t4 (fun o e => hi _ o D.i2z (up b5 D.TOi2.symm e)) fun o e => hi _ o D.l2z (up b5 D.l2TO e)
  exact hQ a8 z8' (hi _ _ D.TOz o5') t2' t4' p8 s8 fun c o c1 c2 c3 c4 e => hi c o c1 (up b5 c2 (up b4 c4 (up b3 c2 (up b2 c3 (up b1 c1 e)))))
theorem stop {a b : Value} {Q : Fin → Shared → Prop} (hh : A.handled = none) (D : ZipApart z TI TO i1 i2 l1 l2) (N1 : Nx i1 l1 S1 xs) (N2 : Nx i2 l2 S2 ys)
    (hz : IsZip s.heap z TI TO .none) (hTI : IsPair s.heap TI (.ref i1) (.ref i2)) (hTO : IsPair s.heap TO a b) (h1 : S1 k1 s.heap) (h2 : S2 k2 s.heap) (hend : xs[k1]? = none ∨ ys[k2]? = none)
    (hE : ∀ h' e, (∀ c o, c ≠ z → c ≠ TO → c ≠ i1 → c ≠ i2 → s.heap.get? c = some o → h'.get? c = some o) → (∃ o, h'.get? e = some o ∧ o.cls = .type "StopIteration") → E (.ref e) { s with heap := h' }) :
    wpAny (model prog w) A (Builtin.«zip.__next__» ⟨[.ref z], []⟩) Q E s := by
  show wpAny _ _ (field (.ref z) 2 >>= _) _ _ _
  refine wpAny_bind (wpAny_field hz rfl (x := .bool false) rfl ?_)
  show wpAny _ _ (field (.ref z) 3 >>= _) _ _ _
  refine wpAny_bind (wpAny_field hz rfl (x := .ref TI) rfl (wpAny_bind (wpAny_seqItems hTI rfl ?_)))
  show wpAny _ _ (Builtin.SmallTypes.ownedTupleIsFree (.ref z) >>= _) _ _ _
  refine wpAny_bind ?_
  unfold Builtin.SmallTypes.ownedTupleIsFree
  refine wpAny_bind (wpAny_field hz rfl (x := .none) rfl (wpAny_pure ?_))
  simp only [if_true]
  refine wpAny_bind (wpAny_rule (wpAny_bind (wpAny_field hz rfl (x := .ref TO) rfl (wpAny_bind (wpAny_setField_rec hz (by simp) fun a1 z1 b1 => ?_)))))
  have z1' : IsZip a1 z TI TO .ellipsis := z1
  refine wpAny_bind ?_
  simp only [List.zipIdx_cons, List.zipIdx_nil, List.forIn_cons, List.forIn_nil]
  refine wpAny_bind (wpAny_bind (wpAny_onRaise ?_))
  show wpAny _ _ (Builtin.SmallTypes.nextOf (.ref i1) >>= _) _ _ _
  have st1 : S1 k1 a1 := N1.keep h1 (fun o e => up b1 D.i1z e) fun o e => up b1 D.l1z e
  cases hx : xs[k1]? with
  | none =>
    refine wpAny_bind (N1.none (s := { s with heap := a1 }) hh st1 hx fun a2 e b2 ⟨oe, f1, f2⟩ => ?_)
    have z2 : IsZip a2 z TI TO .ellipsis := b2 _ _ D.i1z.symm z1'
    have ne : e ≠ z := fun q => by rw [q, z2] at f1; injection f1 with f1; rw [← f1] at f2; simp at f2
    exact wpAny_setField_rec z2 (by simp) fun a3 _ b3 => hE a3 e (fun c o c1 _ c3 _ q => up b3 c1 (b2 _ _ c3 (up b1 c1 q))) ⟨oe, up b3 ne f1, f2⟩
  | some x =>
    have hy : ys[k2]? = none := hend.resolve_left fun q => by rw [hx] at q; cases q
    refine wpAny_bind (N1.some (s := { s with heap := a1 }) st1 hx fun a2 t2 b2 => wpAny_pure ?_)
    have o2 : IsPair a2 TO a b := up b2 D.TOi1 (up b1 D.TOz hTO)
    refine wpAny_bind (wpAny_seqItems o2 rfl (wpAny_bind (wpAny_updateSeq_pair o2 fun a3 o3 b3 => ?_)))
    refine wpAny_bind (wpAny_letGo (wpAny_pure (wpAny_bind (wpAny_bind (wpAny_onRaise ?_)))))
    show wpAny _ _ (Builtin.SmallTypes.nextOf (.ref i2) >>= _) _ _ _
    refine wpAny_bind (N2.none (s := { s with heap := a3 }) hh (N2.keep h2 (fun o e => up b3 D.TOi2.symm (up b2 D.i12.symm (up b1 D.i2z e))) fun o e => up b3 D.l2TO (up b2 D.l2i1 (up b1 D.l2z e))) hy fun a4 e b4 ⟨oe, f1, f2⟩ => ?_)
    have z4 : IsZip a4 z TI TO .ellipsis := b4 _ _ D.i2z.symm (up b3 D.TOz.symm (up b2 D.i1z.symm z1'))
    have ne : e ≠ z := fun q => by rw [q, z4] at f1; injection f1 with f1; rw [← f1] at f2; simp at f2
    exact wpAny_setField_rec z4 (by simp) fun a5 _ b5 => hE a5 e (fun c o c1 c2 c3 c4 q => up b5 c1 (b4 _ _ c4 (up b3 c2 (up b2 c3 (up b1 c1 q))))) ⟨oe, up b5 ne f1, f2⟩
theorem nextItem {x y a b : Value} {Q : Option Value → Shared → Prop} (D : ZipApart z TI TO i1 i2 l1 l2) (N1 : Nx i1 l1 S1 xs) (N2 : Nx i2 l2 S2 ys)
    (hz : IsZip s.heap z TI TO .none) (hTI : IsPair s.heap TI (.ref i1) (.ref i2)) (hTO : IsPair s.heap TO a b) (h1 : S1 k1 s.heap) (h2 : S2 k2 s.heap) (hx : xs[k1]? = some x) (hy : ys[k2]? = some y)
    (hQ : ∀ h', IsZip h' z TI TO (rawInt s.heap.objs.size) → IsPair h' TO x y → S1 (k1 + 1) h' → S2 (k2 + 1) h' → IsPair h' s.heap.objs.size x y → h'.objs.size = s.heap.objs.size + 1 →
      (∀ c o, c ≠ z → c ≠ TO → c ≠ i1 → c ≠ i2 → s.heap.get? c = some o → h'.get? c = some o) → Q (some (.ref s.heap.objs.size)) { s with heap := h' }) : wpAny (model prog w) A (pyNext (.ref z)) Q E s := by
  have hT : s.TypeIs (.ref z) "zip" := ⟨_, hz, rfl⟩
  unfold pyNext
  exact wpAny_bind (wpAny_attempt (wpAny_callSpecial?_slot (name := Str.ofString "__next__") hT F.slot_zip_next (wpAny_call_entry F.slot_zip_next hT F.entry_zip_next
    (item D N1 N2 hz hTI hTO h1 h2 hx hy fun h' q1 q2 q3 q4 q5 q6 q7 => wpAny_pure (hQ h' q1 q2 q3 q4 q5 q6 q7)) (F.args_zip_next_1 _))))
theorem nextStop {a b : Value} {Q : Option Value → Shared → Prop} (hh : A.handled = none) (D : ZipApart z TI TO i1 i2 l1 l2) (N1 : Nx i1 l1 S1 xs) (N2 : Nx i2 l2 S2 ys)
    (hz : IsZip s.heap z TI TO .none) (hTI : IsPair s.heap TI (.ref i1) (.ref i2)) (hTO : IsPair s.heap TO a b) (h1 : S1 k1 s.heap) (h2 : S2 k2 s.heap) (hend : xs[k1]? = none ∨ ys[k2]? = none)
    (hQ : ∀ h', (∀ c o, c ≠ z → c ≠ TO → c ≠ i1 → c ≠ i2 → s.heap.get? c = some o → h'.get? c = some o) → Q none { s with heap := h' }) : wpAny (model prog w) A (pyNext (.ref z)) Q E s := by
  have hT : s.TypeIs (.ref z) "zip" := ⟨_, hz, rfl⟩
  unfold pyNext
  refine wpAny_bind (wpAny_attempt (wpAny_callSpecial?_slot (name := Str.ofString "__next__") hT F.slot_zip_next (wpAny_call_entry F.slot_zip_next hT F.entry_zip_next
    (stop hh D N1 N2 hz hTI hTO h1 h2 hend fun h' e hk ⟨o, ho, hc⟩ => ?_) (F.args_zip_next_1 _))))
  exact wpAny_bind (wpAny_isInstance (T := "StopIteration") (b := true) ⟨o, ho, hc⟩ isSubtype_stop (wpAny_pure (hQ _ hk)))
end
end ZG
namespace ZG
open PySem PySem.Spec PyProof.Rows L2
abbrev A1 (h : Heap) (t : Addr) : Heap := h.push { cls := .type "tuple_iterator", data := .fields #[.ref t, .int 0 0] }
abbrev A2 (h : Heap) (t l : Addr) : Heap := (A1 h t).push { cls := .type "list_iterator", data := .fields #[.ref l, .int 0 0] }
abbrev A3 (h : Heap) (t l : Addr) : Heap := (A2 h t l).push { cls := .type "tuple", data := .seq #[.ref h.objs.size, .ref (A1 h t).objs.size] }
abbrev A4 (h : Heap) (t l : Addr) : Heap := (A3 h t l).push { cls := .type "tuple", data := .seq #[.none, .none] }
abbrev A5 (h : Heap) (t l : Addr) : Heap := (A4 h t l).push { cls := .type "zip", data := .fields #[.none, .bool false, .bool false, .ref (A2 h t l).objs.size, .ref (A3 h t l).objs.size] }
theorem made (t l : Addr) (xs ys : Array Value) :
    Meets (Builtin.«zip.__new__» ⟨[.type "zip", .ref t, .ref l], []⟩) (fun _ R s => s.heap.IsTuple t xs ∧ s.heap.IsList l ys ∧ R (.ok (.ret (.ref (A4 s.heap t l).objs.size))) { s with heap := A5 s.heap t l }) :=
  .of_wp fun prog w A R s h => by
    obtain ⟨hp, g, d, tk, os⟩ := s
    obtain ⟨ht, hl, h⟩ := h
    have hsub := sub_zip
    have q1 : Heap.IsTuple (Shared.heap ⟨hp, g, d, tk, os⟩) t xs := ht
    have q2 : Heap.IsList (Shared.heap ⟨hp.push { cls := .type "tuple_iterator", data := .fields #[.ref t, .int 0 0] }, g, d, tk, os⟩) l ys := Heap.IsList.push hl _
    wp_walk using wpAny_pyIter_tuple q1, wpAny_pyIter_list q2
    exact ⟨_, rfl, h⟩
section
variable {prog : Program} {w : World} {A : Around} {E : Value → Shared → Prop} {s : Shared}
theorem call {t l : Addr} {xs ys : Array Value} {Q : Value → Shared → Prop} (ht : s.heap.IsTuple t xs) (hl : s.heap.IsList l ys)
    (h : ∀ h', IsZip h' (s.heap.objs.size + 4) (s.heap.objs.size + 2) (s.heap.objs.size + 3) .none → IsPair h' (s.heap.objs.size + 2) (.ref s.heap.objs.size) (.ref (s.heap.objs.size + 1)) → IsPair h' (s.heap.objs.size + 3) .none .none →
      h'.IsTupleIter s.heap.objs.size t 0 → h'.IsListIter (s.heap.objs.size + 1) l 0 → (∀ c o, s.heap.get? c = some o → h'.get? c = some o) → Q (.ref (s.heap.objs.size + 4)) { s with heap := h' }) :
    wpAny (model prog w) A (PySem.call (.type "zip") [.ref t, .ref l]) Q E s := by
  refine callType_new F.called_zip (by decide) (F.typeCall_zip_2 _ _) (F.newCall_zip_2 _ _) (fun obj => F.args_object_init_3 obj _ _) F.entry_zip_new (made t l xs ys) ⟨ht, hl, ?_⟩
  have n1 : (A1 s.heap t).objs.size = s.heap.objs.size + 1 := Heap.size_push ..
  have n2 : (A2 s.heap t l).objs.size = s.heap.objs.size + 2 := by rw [Heap.size_push, n1]
  have n3 : (A3 s.heap t l).objs.size = s.heap.objs.size + 3 := by rw [Heap.size_push, n2]
  have n4 : (A4 s.heap t l).objs.size = s.heap.objs.size + 4 := by rw [Heap.size_push, n3]
  have e5 : (A5 s.heap t l).get? (A4 s.heap t l).objs.size = some _ := Heap.get?_push_size _ rfl
  have e4 : (A5 s.heap t l).get? (A3 s.heap t l).objs.size = some _ := Heap.get?_push_of_some _ (Heap.get?_push_size _ rfl)
  have e3 : (A5 s.heap t l).get? (A2 s.heap t l).objs.size = some _ := Heap.get?_push_of_some _ (Heap.get?_push_of_some _ (Heap.get?_push_size _ rfl))
  have e2 : (A5 s.heap t l).get? (A1 s.heap t).objs.size = some _ := Heap.get?_push_of_some _ (Heap.get?_push_of_some _ (Heap.get?_push_of_some _ (Heap.get?_push_size _ rfl)))
  have e1 : (A5 s.heap t l).get? s.heap.objs.size = some _ := Heap.get?_push_of_some _ (Heap.get?_push_of_some _ (Heap.get?_push_of_some _ (Heap.get?_push_of_some _ (Heap.get?_push_size _ rfl))))
  show _ ∧ _
  rw [n2, n3, n4] at e5
  rw [n1, n2] at e3
  rw [n3] at e4
  rw [n1] at e2
  rw [n4]
  exact ⟨⟨_, e5, rfl⟩, h _ e5 e3 e4 ⟨_, e1, rfl, rfl⟩ ⟨_, e2, rfl, rfl⟩ fun c o x => Heap.get?_push_of_some _ (Heap.get?_push_of_some _ (Heap.get?_push_of_some _ (Heap.get?_push_of_some _ (Heap.get?_push_of_some _ x))))⟩
end
/-- the tuple at a and the list at b, as they stand at each turn -/
def ItM (K : PySem.W.Frag) (a b : Addr) : It :=
  ⟨fun i H => ∃ (xs ys : List V) (x y : V), SqT K H a xs ∧ SqL K H b ys ∧ xs[i]? = some x ∧ ys[i]? = some y,
    fun i H v H' => ∃ T x y, v = .ref T ∧ H T = none ∧ H' = upd H T (.tup [x, y]) ∧ (∀ xs, SqT K H a xs → xs[i]? = some x) ∧ ∀ ys, SqL K H b ys → ys[i]? = some y,
    fun i H => ∃ xs ys : List V, SqT K H a xs ∧ SqL K H b ys ∧ (xs.length ≤ i ∨ ys.length ≤ i)⟩
theorem five {z a b c d e : Addr} (h : z ∈ [a, b, c, d, e]) : z = a ∨ z = b ∨ z = c ∨ z = d ∨ z = e := by simpa using h
theorem turn {P : Program} {w : World} {K : PySem.W.Frag} {elts : List Expr} {kk : Nat} {tpos : Pos} {a b z TI TO i1 i2 : Addr} (D : ZipApart z TI TO i1 i2 a b) :
    Turn P w K (.Tuple elts kk tpos) (ItM K a b) [z, TI, TO, i1, i2] z (fun i h => IsZip h z TI TO .none ∧ IsPair h TI (.ref i1) (.ref i2) ∧ (∃ x y, IsPair h TO x y) ∧ h.IsTupleIter i1 a i ∧ h.IsListIter i2 b i) where
  mem := by simp
  obj := fun i h ⟨g1, g2, ⟨x, y, g3⟩, ⟨o1, e1, _, d1⟩, ⟨o2, e2, _, d2⟩⟩ c hc => by
    rcases five hc with q | q | q | q | q
    · rw [q]; exact ⟨_, g1, fun v q => nomatch q⟩
    · rw [q]; exact ⟨_, g2, fun v q => nomatch q⟩
    · rw [q]; exact ⟨_, g3, fun v q => nomatch q⟩
    · rw [q]; exact ⟨o1, e1, fun v q => by rw [d1] at q; cases q⟩
    · rw [q]; exact ⟨o2, e2, fun v q => by rw [d2] at q; cases q⟩
  keep := fun i h h' ⟨g1, g2, ⟨x, y, g3⟩, g4, g5⟩ k => ⟨k z (by simp) _ g1, k TI (by simp) _ g2, ⟨x, y, k TO (by simp) _ g3⟩, g4.at fun o q => k i1 (by simp) o q, g5.at fun o q => k i2 (by simp) o q⟩
  item := by
    intro X hP hw hK hc i pins s σ H E I hf st hg
    subst hP hw hK
    obtain ⟨g1, g2, ⟨x0, y0, g3⟩, g4, g5⟩ := st
    obtain ⟨xs, ys, x, y, hqx, hqy, hx, hy⟩ := hg
    obtain ⟨its, rv, p, _⟩ := I.tuple hqx
    obtain ⟨its2, rv2, p2, _⟩ := I.list hqy
    obtain ⟨u, hu, ru⟩ := rv.get hx
    obtain ⟨u2, hu2, ru2⟩ := rv2.get hy
    have zl : z < s.heap.objs.size := Heap.lt_size g1
    refine nextItem D (nxT (xs := its.toArray) D.l1i1) (nxL (xs := its2.toArray) D.l2i2) g1 g2 g3 ⟨g4, p⟩ ⟨g5, p2.isList⟩ (x := u) (y := u2) (by simpa using hu) (by simpa using hu2) fun h' z' TO' t1 t2 hT hsz hk => ?_
    refine ⟨_, rfl, wpAny_letOwnedTupleGo_zip (s := { s with heap := h' }) z' fun h'' z'' sb => ?_⟩
    have T2 : h''.get? s.heap.objs.size = some { cls := .type "tuple", data := .seq #[u, u2] } := up sb (Nat.ne_of_gt zl) hT
    have new : ObjOk X.prog X.w (upd H s.heap.objs.size (.tup [x, y])) h'' s.heap.objs.size (.tup [x, y]) := ⟨by show 2 ≤ sizeLine; decide, [u, u2], .cons ru (.cons ru2 .nil), ⟨_, T2, rfl, _, rfl⟩⟩
    have I1 : Inv X pins σ (upd H s.heap.objs.size (.tup [x, y])) { s with heap := h'' } :=
      I.turnedNew (t' := s.toks) (ch := [z, TI, TO, i1, i2]) (fun c o hb q => up sb (fun e => hb (by simp [e])) (hk c o (fun e => hb (by simp [e])) (fun e => hb (by simp [e])) (fun e => hb (by simp [e])) (fun e => hb (by simp [e])) q)) hf (Nat.le_refl _) new
    refine ⟨.ref s.heap.objs.size, _, I1, rfl, ⟨_, x, y, rfl, I.hok.fresh (Nat.le_refl _), rfl, fun l hl => by rw [I.tuple_inj hl hqx]; exact hx, fun l hl => by rw [I.list_inj hl hqy]; exact hy⟩, ⟨z'', ?_, ⟨u, u2, ?_⟩, ?_, ?_⟩, fun c hcm => ?_⟩
    · exact up sb D.TIz (hk _ _ D.TIz D.TITO D.TIi1 D.TIi2 g2)
    · exact up sb D.TOz TO'
    · exact t1.1.at fun o q => up sb D.i1z q
    · exact t2.1.at fun o q => up sb D.i2z q
    · have lt : c < s.heap.objs.size := by
        rcases five hcm with q | q | q | q | q
        · rw [q]; exact zl
        · rw [q]; exact Heap.lt_size g2
        · rw [q]; exact Heap.lt_size g3
        · rw [q]; obtain ⟨_, e1, _⟩ := g4; exact Heap.lt_size e1
        · rw [q]; obtain ⟨_, e1, _⟩ := g5; exact Heap.lt_size e1
      rw [upd_ne (Nat.ne_of_lt lt)]
      exact (hf c hcm).1
  done := by
    intro X hP hw hK hc i pins s σ H E I hf st hg
    subst hP hw hK
    obtain ⟨g1, g2, ⟨x0, y0, g3⟩, g4, g5⟩ := st
    obtain ⟨xs, ys, hqx, hqy, hend⟩ := hg
    obtain ⟨its, rv, p, _⟩ := I.tuple hqx
    obtain ⟨its2, rv2, p2, _⟩ := I.list hqy
    have n1 := Paired.length rv
    have n2 := Paired.length rv2
    have he : its.toArray[i]? = none ∨ its2.toArray[i]? = none := hend.elim (fun q => .inl (by simp; omega)) fun q => .inr (by simp; omega)
    exact nextStop (I.ok.hd hc) D (nxT (xs := its.toArray) D.l1i1) (nxL (xs := its2.toArray) D.l2i2) g1 g2 g3 ⟨g4, p⟩ ⟨g5, p2.isList⟩ he fun h' hk => ⟨rfl, I.turnedL (t' := s.toks) (ch := [z, TI, TO, i1, i2]) (fun c o hb q =>
      hk c o (fun e => hb (by simp [e])) (fun e => hb (by simp [e])) (fun e => hb (by simp [e])) (fun e => hb (by simp [e])) q) hf⟩
  self := fun A i s Q E st h => wpAny_pyIter_zip st.1 h
end ZG
namespace Py
open PySem PySem.Spec PyProof.Rows L2
end Py

/-! Own layer, part Y: rows of any kind, list and tuple of them. -/
namespace Py
open PySem PySem.Spec PyProof.Rows L2
end Py

/-! Own layer, part Z: a dict of tuples compared with an empty one. -/
namespace Py
open PySem PySem.Spec PyProof.Rows L2
section
variable {P : Program} {w : World} {A : Around} {E : Value → Shared → Prop} {s : Shared}
end
section
variable {X : Cx} {U : Wi} {Γ : List Sl} {a : Expr} {κ ν : Type} {pos' : Pos}
end
end Py

/-! Own layer, part Aa: a caught exception that is kept: try .. except C as e: kind = e; isinstance(kind, ..) later on. -/
namespace Py
open PySem PySem.Spec PyProof.Rows L2
/-- a kept exception of the class cls -/
def exV (a : Addr) (cls : Value) : HO := .ext fun h => ∃ oe, h.get? a = some oe ∧ Zc cls none oe ∧ ∃ vs, oe.data = .fields vs
theorem exV_ok {P : Program} {w : World} {H : Hp} {h : Heap} {a : Addr} {cls : Value} {oe : Obj} (e : h.get? a = some oe) (z : Zc cls none oe) (d : ∃ vs, oe.data = .fields vs) : ObjOk P w H h a (exV a cls) :=
  ⟨⟨oe, e, z, d⟩, ⟨oe, e⟩, fun _ _ ⟨o, v, q, r⟩ k => ⟨o, k o v, q, r⟩⟩
section
variable {X : Cx} {pins : List (Addr × Obj)} {σ : L2.St} {H : Hp} {s : Shared} {a : Addr} {o : HO} {oe : Obj}
/-- an object that is newer than the entry comes under watch -/
theorem Inv.watch (I : Inv X pins σ H s) (new : X.s_0.heap.get? a = none) (hn : H a = none) (nL : a ≠ X.env.locals) (nc : ∀ x c, X.env.cells.lookup x = some c → c ≠ a) (np : ∀ p ∈ X.pn ++ pins, p.1 ≠ a) (ho : ObjOk X.prog X.w (upd H a o) s.heap a o) : Inv X pins σ (upd H a o) s := by
  have ne0 : ∀ {b u}, X.s_0.heap.get? b = some u → b ≠ a := fun e z => by
    rw [z, new] at e
    cases e
  have neH : ∀ {b u}, H b = some u → b ≠ a := fun e z => by
    rw [z, hn] at e
    cases e
  have B := I.base
  exact ⟨I.ok, I.os, I.bare, ⟨B.keep, B.slot, fun b u e n x => (upd_ne (ne0 e)).trans (B.free b u e n x), B.there, fun b xs e => (upd_ne (neH (B.tups b xs e))).trans (B.tups b xs e), fun b u v e => (upd_ne (neH (B.frzs b u v e))).trans (B.frzs b u v e), fun b ps e => by
      obtain ⟨m, q⟩ := B.tbls b ps e
      exact ⟨m, (upd_ne (neH q)).trans q⟩⟩,
    I.loc, I.cell, (upd_ne nL.symm).trans I.free, fun x c e => (upd_ne (nc x c e)).trans (I.freeC x c e), fun p hp => by
      obtain ⟨h1, h2, h3⟩ := I.pin p hp
      exact ⟨h1, (upd_ne (np p hp)).trans h2, h3⟩,
    HOk.laidN I.hok (fun _ _ z => z) hn ho, I.len⟩
end
/-- what is asked of the suite, which keeps the exception -/
def wKeep (K : PySem.W.Frag) (c : Value) (i : Nat) (ts : Addr → Value → Option Addr → TS) (Wout : WX) (D : L2.Ends) : WX := fun cls d σ H =>
  ∃ b, PySem.W.exmOne K cls c = some b ∧ (b = false → Wout cls d σ H) ∧
    (b = true → d = none ∧ ∀ a, H a = none → ts a cls d { nx := fun σ' H' => D.nx (σ'.set i none) (upd H' a (exV a cls)), rt := fun _ _ => False, bk := fun _ _ => False, ct := fun _ _ => False } (σ.set i (some (.ref a))) H)
section
variable {X : Cx} {x n : Str} {c : Value} {i : Nat} {body suite : List Stmt} {b0 : Stmt} {np pos pos' : Pos} {tb : WX → TS} {ts : Addr → Value → Option Addr → TS} {Wout : WX}
theorem ps_try_keep (hs : X.stack = X.env :: X.outer) (hf : X.env.frame = some X.env.locals) (hex : X.ex = []) (hN : X.N.Nodup) (hi : X.N[i]? = some n) (hln : X.env.kindOf n = some .local) (hc : Names X x c) (tk : Takes X Wout)
    (hb : ∀ (W : WX) (pn : List (Addr × Obj)) (xe : Value → Shared → Prop), Takes (X.tr pn xe) W → PassesOwn (model X.prog X.w) X.A X.env xe → PSs (X.tr pn xe) body (tb W))
    (hsu : ∀ (a : Addr) (oe : Obj) (cls : Value) (d : Option Addr) (pn : List (Addr × Obj)), Zc cls d oe → (∃ vs, oe.data = .fields vs) → PSs (X.suite a ((a, oe) :: pn)) (b0 :: suite) (ts a cls d)) :
    PS X (.Try body [.ExceptHandler (some (.Name x np)) (some n) (b0 :: suite) pos'] [] [] pos) (fun D σ H => tb (wKeep X.K c i ts Wout D) D σ H) := by
  refine ⟨fun pins s σ H D I h => ?_⟩
  have ok := I.ok
  have frames : X.A.frames = some (X.env :: X.outer) := by rw [ok.frames, hs]
  -- what stands behind the body, and what is to be done with an exception of it
  let hd : ExceptHandler := .ExceptHandler (some (.Name x np)) (some n) (b0 :: suite) pos'
  let after : Value → Shared → Prop := fun e s1 => wpAny (model X.prog X.w) X.A (noteFrame e X.env) (fun _ s2 => wpAny (model X.prog X.w) X.A (setFlight e none) (fun _ s3 => wpAny (model X.prog X.w) X.A (handleBy e X.env [hd]) (SP X pins D) X.xe s3) X.xe s2) X.xe s1
  have caught : Takes (X.tr (X.pn ++ pins) after) (wKeep X.K c i ts Wout D) := by
    rintro u s' ⟨a, B, sI, pins', σ', H', cls, d, rfl, J', nb, up, sky, na, os, ag, b, hb1, hno, hyes⟩
    have J : Inv X pins σ' H' sI := J'.ofTry ok
    have sky' : Sky B (X.env :: X.outer) a (Zc cls d) X.env.locals s'.heap := by rw [← hs]; exact sky
    show wpAny (model X.prog X.w) X.A (noteFrame (.ref a) X.env) _ _ _
    refine Sky.land Zc.steady frames hf sky' fun h3 fl3 up3 => ?_
    obtain ⟨oe3, vs3, he3, hz3, hd3⟩ := fl3.there
    have noFrame : a ∉ frs (X.env :: X.outer) := fun hm => by
      obtain ⟨_, o', e', hnf⟩ := fl3.2.2.1.mem hm
      rw [he3] at e'
      cases e'
      exact hnf _ hd3
    have nL : a ≠ X.env.locals := fun z => noFrame (List.mem_filterMap.mpr ⟨X.env, List.mem_cons_self, by rw [hf, z]⟩)
    have nF : a ∉ X.fs := fun hm => by
      obtain ⟨e, he, q⟩ := List.mem_filterMap.mp hm
      exact noFrame (List.mem_filterMap.mpr ⟨e, List.mem_cons_of_mem _ he, q⟩)
    -- a isn't of the elder state
    have young : ∀ b o, sI.heap.get? b = some o → b ≠ a := fun b o e z => by
      subst z
      have e2 := nb b o e (by rw [hs]; exact noFrame)
      have e3 := fl3.2.1
      rw [e2] at e3
      cases e3
    have J3 : Inv X pins σ' H' { s' with heap := h3 } := J.landed nb fl3.1 (up.trans up3) os ag
    have S3 := J3.suite he3 hd3 na nL nF
    refine wpAny_handleBy_cons (codeAny_handlers_test ?_) (by intro q; cases q)
    have look : PySem.W.Looks (model X.prog X.w) h3 (typeOf (.ref a)) cls := fun A Q E s k q => wpAny_typeOf_ref (k _ _ he3) (by rw [hz3.1]; exact q)
    have test : ∀ {Q : Value → Shared → Prop} {E : Value → Shared → Prop}, Q c { s' with heap := h3 } → wpAny (model X.prog X.w) (X.A.mark (some (.ref a))) (eval (.Name x np) X.env) Q E { s' with heap := h3 } := fun q => by
      obtain ⟨hg, hdbg, hm | ⟨hm, hv, hnn⟩⟩ := hc
      · exact ld_glob (X := X.suite a ((a, oe3) :: (X.pn ++ pins))) S3 hg hm q hdbg
      · exact ld_blt (X := X.suite a ((a, oe3) :: (X.pn ++ pins))) S3 hg hm hv q hnn hdbg
    refine test ((PySem.W.exm_one (M := model X.prog X.w) J3.kIn look hb1).here ?_)
    cases b with
    | false =>
      show wpAny _ X.A (handleBy (.ref a) X.env []) _ _ _
      refine wpAny_handleBy_nil ?_
      obtain ⟨k1, k2, k3, oe, vs, T, oT, ts', he, hz, hd', h1, hr⟩ := id fl3
      unfold PySem.passOn
      refine wpAny_bind (wpAny_field he hd' h1 ?_)
      rw [if_neg (show ¬ ((Value.ref T == Value.none) = true) from by simp)]
      have fin : wpAny (model X.prog X.w) X.A (setFlight (.ref a) X.env.frame) (fun _ s4 => wpAny (model X.prog X.w) X.A (throw (.ref a) : Sem Flow) (SP X pins D) X.xe s4) X.xe { s' with heap := h3 } := by
        rw [hf]
        refine HandSPX.setFlight_upZ fl3 fun h4 hh4 up4 => wpAny_throw (tk _ _ ⟨a, B, sI, pins', σ', H', cls, d, rfl, ?_, nb, (up.trans up3).trans up4, .inr (.inr (by rw [hs]; exact hh4)), na, os, ag, hno rfl⟩)
        exact ⟨ok, J'.os, J'.bare, J'.base, J'.loc, J'.cell, J'.free, J'.freeC, fun p hp => J'.pin p (by rcases List.mem_append.mp hp with z | z <;> simp [z]), J'.hok, J'.len⟩
      first
        | exact wpAny_bind (wpAny_pure (wpAny_bind fin))
        | exact wpAny_bind fin
    | true =>
      obtain ⟨rfl, hts⟩ := hyes rfl
      refine codeAny_handlers_suite_as (HandSPX.lands_againZ fl3 fun h4 fl4 up4 => ?_)
      obtain ⟨oe4, vs4, he4, hz4, hd4⟩ := fl4.there
      have S4 := (J.landed (s' := { s' with heap := h4 }) nb fl4.1 ((up.trans up3).trans up4) os ag).suite he4 hd4 na nL nF
      refine store_ok (X := X.suite a ((a, oe4) :: (X.pn ++ pins))) (v := .ref a) S4 hN hi (.inl hln) rfl (fun s5 S5 => ?_) (.inr hln)
      refine wpAny_mono ((hsu a oe4 cls none (X.pn ++ pins) hz4 ⟨_, hd4⟩).run [] s5 _ H' _ S5 (hts a na)) (fun f s6 hsp => ?_) (fun _ _ z => False.elim z)
      cases f with
      | next =>
        obtain ⟨σ6, H6, S6, q6⟩ := hsp
        obtain ⟨p1, p2, p3, p4, p5⟩ := S6.pin (a, oe4) (List.mem_append_left _ List.mem_cons_self)
        have W6 : Inv X pins σ6 (upd H6 a (exV a cls)) s6 := by
          refine Inv.watch (S6.unsuite ok) ?_ p2 nL (fun y cc e z => ?_) (fun p hp => ?_) (exV_ok p1 hz4 ⟨_, hd4⟩)
          · cases q : X.s_0.heap.get? a with
            | none => rfl
            | some u =>
              obtain ⟨u', e'⟩ := J.base.there a u q (by rw [hex]; exact fun z => nomatch z)
              exact absurd rfl (young a u' e')
          · obtain ⟨v, ho, hcell⟩ := (S6.unsuite ok).cell y cc e
            subst z
            exact p5 v (by
              have z2 := hcell.1
              rw [p1] at z2
              cases z2
              exact hcell.2)
          · obtain ⟨e1, _⟩ := J.pin p hp
            exact young p.1 p.2 e1
        exact gone_ok W6 hN hi hln fun s7 J7 => ⟨_, _, J7, q6⟩
      | brk =>
        obtain ⟨_, _, _, q6⟩ := hsp
        exact q6.elim
      | cont =>
        obtain ⟨_, _, _, q6⟩ := hsp
        exact q6.elim
      | ret u =>
        obtain ⟨_, _, _, _, _, q6⟩ := hsp
        exact q6.elim
  refine wpAny_Try_except (wpAny_mono ((hb _ (X.pn ++ pins) after caught PassesOwn.looking).run [] s σ H D (I.toTry _) h) (fun f s1 hsp => ?_) fun e s1 he => he)
  cases f with
  | next =>
    obtain ⟨σ', H', J', q⟩ := hsp
    exact wpAny_execs_nil ⟨σ', H', J'.ofTry ok, q⟩
  | brk =>
    obtain ⟨σ', H', J', q⟩ := hsp
    exact ⟨σ', H', J'.ofTry ok, q⟩
  | cont =>
    obtain ⟨σ', H', J', q⟩ := hsp
    exact ⟨σ', H', J'.ofTry ok, q⟩
  | ret u =>
    obtain ⟨v, σ', H', J', r, q⟩ := hsp
    exact ⟨v, σ', H', J'.ofTry ok, r, q⟩
end
/-- a kept exception, told by its class's name -/
def rXv (mg : Str → Option Value) : Rp Str := ⟨fun n F v => ∃ a C, v = .ref a ∧ mg n = some (.ref C) ∧ F a = some (exV a (.ref C)), fun e ⟨a, C, h1, h2, h3⟩ => ⟨a, C, h1, h2, e a _ h3⟩⟩
section
variable {X : Cx} {U : Wi} {Γ Γ0 : List Sl} {body rest : List Stmt} {x n y : Str} {c : Value} {np pos pos' py pn2 spos : Pos} {τ ω : Type} {I : ω → Kd}
/-- try: body except x as n: y = n -/
theorem p_tryKeep {mb : R τ} {mh : Er → R τ} {k : τ → R ω} (i j : Nat) (ct : Str → Option Bool) (Γ0 : List Sl) (Γs : τ → List Sl) (hN : X.N.Nodup) (hcx : X.mg x = some c) (tk : Takes X U.W) (hle : Le U.Γ Γ0) (hct : Ct X.mg ct fun C b => PySem.W.exmOne X.K (.ref C) c = some b)
    (hb : ∀ (W : WX) (pn : List (Addr × Obj)) (xe : Value → Shared → Prop), Takes (X.tr pn xe) W → PassesOwn (model X.prog X.w) X.A X.env xe → SX (X.tr pn xe) ⟨W, Γ0⟩ Γ body (fun s => .nx (Γs s)) mb)
    (hk : ∀ r, ∃ s, mh r = .ok s ∧ Le (Γs s) (Γ0.set j (im (rO (rXv X.mg)) (some r.cls))))
    (hij : i ≠ j) (hl0 : Nat.ble (i + 1) Γ0.length = true) (hΓ0 : ∀ x, Γ0[i]? = some x → x = .any) (hr : ∀ s, SX X U (Γs s) rest I (k s)) (hi : X.N[i]? = some n := by rfl) (hj : X.N[j]? = some y := by rfl) (hs : X.stack = X.env :: X.outer := by rfl) (hf : X.env.frame = some X.env.locals := by rfl) (hex : X.ex = [] := by rfl)
    (hln : X.env.kindOf n = some .local := by rfl) (hg : Gl X x := by rfl) (hdb : (x == ("__debug__" : Str)) = false := by decide) (hv : Vis X.env.scope n := by first | exact Or.inl rfl | exact Or.inr (Or.inl rfl) | exact Or.inr (Or.inr rfl))
    (hd1 : (n == ("__debug__" : Str)) = false := by decide) (hd2 : (n == ("__classdict__" : Str)) = false := by decide) (hy : Loc X.env.scope y := by first | exact Or.inl rfl | exact Or.inr rfl) (hsw : swapsWith (.Name n pn2) (some (.Name y py)) spos.line X.env = pure false := by rfl)
    (hfy : X.fn y = true ∨ X.env.scope.names.lookup y = some .local := by first | exact .inl rfl | exact .inr rfl) :
    SX X U Γ (.Try body [.ExceptHandler (some (.Name x np)) (some n) [.Assign [.Name y py] (.Name n pn2) spos] pos'] [] [] pos :: rest) I ((catchR ct mh mb).bind k) :=
  ⟨fun en F σ H D s h => wSs_of (pss_cons (ps_try_keep (tb := fun W => fun D σ H => ∀ pn xe, Takes (X.tr pn xe) W → PassesOwn (model X.prog X.w) X.A X.env xe → wSs (X.tr pn xe) body D σ H)
      (ts := fun _ _ _ => tAsg (tVar i) (gName j)) (Wout := U.W) hs hf hex hN hi hln ⟨hg, hdb, .inl hcx⟩ tk
      (fun W pn xe tk' hp' => ⟨fun pins s σ H D I h => h pn xe tk' hp' pins s I⟩) (fun a oe cls d pn _ _ => pss_one (ps_set (X := X.suite a ((a, oe) :: pn)) hN hj hy (pe_var (X := X.suite a ((a, oe) :: pn)) hi hv hd1 hd2) hsw hfy))) wSs_pss) (by
    intro pn xe tkW hp
    refine (hb _ pn xe tkW hp).out en F σ H { D with nx := wSs X rest D } s ?_
    cases mb with
    | bad => exact h.elim
    | ok s' => exact fun F' σ' H' e sa => (hr s').out en F' σ' H' D sa (wpR_mono h (fun o z => z.up e) fun _ z => z.up e)
    | er r =>
      refine fun cls d F' σ' H' e sa ho => ?_
      obtain ⟨C, c1, c2, c3⟩ := ho
      show wKeep X.K c i (fun _ _ _ => tAsg (tVar i) (gName j)) U.W { D with nx := wSs X rest D } cls d σ' H'
      have h' : wpR ((match ct r.cls with | some true => if r.fld.isNone = true then (mh r).calm else .bad | some false => .er r | none => .bad).bind k) (fun o => (I o).sat en F D) (U.ok X.mg en F) := h
      cases hc : ct r.cls with
      | none =>
        rw [hc] at h'
        exact h'.elim
      | some b =>
        have ex := hct.out r.cls b C hc c1
        rw [← c2] at ex
        rw [hc] at h'
        cases b with
        | false =>
          refine ⟨false, ex, fun _ => ?_, fun z => nomatch z⟩
          have h2 : U.ok X.mg en F r := h'
          exact h2 cls d F' σ' H' e (sa.le hle) ⟨C, c1, c2, c3⟩
        | true =>
          have h3 : wpR ((if r.fld.isNone = true then (mh r).calm else .bad).bind k) (fun o => (I o).sat en F D) (U.ok X.mg en F) := h'
          by_cases hn : r.fld.isNone = true
          case neg =>
            rw [if_neg hn] at h3
            exact h3.elim
          rw [if_pos hn] at h3
          have hn' : r.fld = none := by simpa using hn
          have d0 : d = none := by
            rw [hn'] at c3
            exact c3
          obtain ⟨s', es, le⟩ := hk r
          rw [es] at h3
          have h4 : wpR (k s') (fun o => (I o).sat en F D) (U.ok X.mg en F) := h3
          refine ⟨true, ex, (fun z => nomatch z), fun _ => ⟨d0, fun a ha => ?_⟩⟩
          have il : i < σ'.length := Nat.lt_of_lt_of_le (Nat.le_of_ble_eq_true hl0) sa.len
          refine ⟨.ref a, List.getElem?_set_self il, ?_⟩
          show wSs X rest D (((σ'.set i (some (.ref a))).set j (some (.ref a))).set i none) (upd H' a (exV a cls))
          rw [c2]
          have xx := Ext.new (F := F') (H := H') sa.sub (p := a) (o := exV a (.ref C)) ha
          have sb := SA.put (i := j) (P := ⟨fun H v => (rO (rXv X.mg)).rep (some r.cls) H v, fun e h => (rO (rXv X.mg)).mono e h⟩) (v := .ref a) (sa.ext xx) ⟨a, C, rfl, c1, upd_same⟩
          have sc := sb.forget (i := i) (fun x hx => hΓ0 x (by rw [← hx, List.getElem?_set_ne (Ne.symm hij)]))
          have eσ : ((σ'.set i (some (V.ref a))).set j (some (V.ref a))).set i none = (σ'.set j (some (V.ref a))).set i none := by
            rw [List.set_comm _ _ hij, List.set_set]
          rw [eσ]
          exact (hr s').out en _ _ _ D (sc.le le) (wpR_mono h4 (fun o z => z.up (e.trans xx.f)) fun _ z => z.up (e.trans xx.f)))⟩
end
/-! ### isinstance of what was kept -/
section
variable {X : Cx} {a D : Addr} {s : Shared} {H : Hp} {σ : L2.St} {pins : List (Addr × Obj)}
theorem inst_of (I : Inv X pins σ H s) (h : H a = some (exV a (.ref D))) : PySem.W.InstAt s.heap a (Classical.choose (show ∃ oe, s.heap.get? a = some oe ∧ Zc (.ref D) none oe ∧ ∃ vs, oe.data = .fields vs from (I.hok a _ h).1)) D none := by
  obtain ⟨hget, ⟨h1, h2⟩, vs, hv⟩ := Classical.choose_spec (show ∃ oe, s.heap.get? a = some oe ∧ Zc (.ref D) none oe ∧ ∃ vs, oe.data = .fields vs from (I.hok a _ h).1)
  generalize Classical.choose _ = oe at *
  obtain ⟨oc, od, oda, osl⟩ := oe
  dsimp only at h1 h2 hv
  subst h1 h2 hv
  exact ⟨hget, rfl, rfl, trivial⟩
theorem call_isV (C : ExcC X.K D) : CallR X (.builtin "isinstance") (fun xs H Q => ∃ (a : Addr) (c : V) (cv : Value) (b : Bool), xs = [.ref a, c] ∧ H a = some (exV a (.ref D)) ∧ (∀ u, RelV c u → u = cv) ∧ PySem.W.kitOne X.K (.ref D) cv = some b ∧ Q (.bl b) H) := by
  intro pins s σ H xs us Q I r h
  obtain ⟨a, c, cv, b, rfl, ha, hcv, e, q⟩ := h
  obtain ⟨u1, u2, rfl, r1, r2⟩ := vals2 r
  cases (show u1 = Value.ref a from r1)
  have ec := hcv _ r2
  subst ec
  exact PySem.W.kia_one (PySem.W.handS_kitx_exc C.hg C.hk C.hs C.hd C.ha C.hn C.ht C.hm) I.kIn (inst_of I ha) e (fun z => nomatch z) fun tk => ⟨.bl b, H, I.kept (t' := tk) fun _ _ z => z, rfl, q⟩
theorem call_isVT (C : ExcC X.K D) : CallR X (.builtin "isinstance") (fun xs H Q => ∃ (a tp : Addr) (cs : List V) (us : List Value) (b : Bool), xs = [.ref a, .ref tp] ∧ H a = some (exV a (.ref D)) ∧ H tp = some (.tup cs) ∧ Paired ClsV cs us ∧ PySem.W.kitAny X.K (.ref D) us = some b ∧ Q (.bl b) H) := by
  intro pins s σ H xs us Q I r h
  obtain ⟨a, tp, cs, ws, b, rfl, ha, hT, k, e, q⟩ := h
  obtain ⟨u1, u2, rfl, r1, r2⟩ := vals2 r
  cases (show u1 = Value.ref a from r1)
  cases (show u2 = Value.ref tp from r2)
  obtain ⟨_, its, rv, o, h1, h2, n, h3⟩ := (show ObjOk X.prog X.w H s.heap tp (.tup cs) from I.hok tp _ hT)
  have e3 := ClsV.all k rv
  subst e3
  obtain ⟨oc, od, dt, sl⟩ := o
  simp only at h2 h3
  subst h2 h3
  exact PySem.W.kia_tup (PySem.W.handS_kitx_exc C.hg C.hk C.hs C.hd C.ha C.hn C.ht C.hm) I.kIn (inst_of I ha) h1 e (fun z => nomatch z) fun tk => ⟨.bl b, H, I.kept (t' := tk) fun _ _ z => z, rfl, q⟩
end
section
variable {X : Cx} {U : Wi} {Γ : List Sl} {e0 : Expr} {pos p p2 : Pos} {m : R (Option Str)}
theorem x_isV (tb : Str → Option Bool) {v : V} {u : Value} {e : Expr} (hm : X.mg "isinstance" = none) (h0 : EX X U Γ e0 (rO (rXv X.mg)) m) (hT : NmC X e v u)
    (htb : Ct X.mg tb fun C b => ExcC X.K C ∧ PySem.W.kitOne X.K (.ref C) u = some b) (hg : Gl X "isinstance" := by rfl)
    (he : starEach [e0, e] X.env = (false, eval e0 X.env) :: starEach [e] X.env := by rfl) (he2 : starEach [e] X.env = (false, eval e X.env) :: starEach [] X.env := by rfl) (hpl : (backTo pos (starEach [e] X.env)).any (·.1) = false := by rfl) :
    EX X U Γ (.Call (.Name "isinstance" p) [e0, e] [] pos) rB (m.bind fun o => (ofOpt o).bind fun c => ofOpt (tb c)) :=
  ⟨fun en F σ H Q s h => fun pins sh I => by
    refine (pe_callB (r := fun xs H Q => ∃ (a D : Addr) (c : V) (cv : Value) (b : Bool), xs = [.ref a, c] ∧ ExcC X.K D ∧ H a = some (exV a (.ref D)) ∧ (∀ u, RelV c u → u = cv) ∧ PySem.W.kitOne X.K (.ref D) cv = some b ∧ Q (.bl b) H)
      (fun pins s σ H xs us Q I r ⟨a, D, c, cv, b, h1, hC, h2⟩ => call_isV hC pins s σ H xs us Q I r ⟨a, c, cv, b, h1, h2⟩) hg hm boot_isinstance (pa_cons wE_pe (pa_cons hT.pe pa_nil he2) he) (by decide) (by decide) he hpl).run pins sh σ H Q I ?_
    refine h0.out en F σ H _ s (wpR_mono (wpR_bind h) (fun o q v' F' H' e1 s1 r1 => ?_) fun _ z => z)
    cases o with
    | none => exact q.elim
    | some cl =>
      obtain ⟨a, C, h1, h2, h3⟩ := r1
      subst h1
      obtain ⟨b, hb, q⟩ := wpR_opt q
      obtain ⟨hC, hkit⟩ := htb.out cl b C hb h2
      exact ⟨a, C, v, u, b, rfl, hC, s1.sub a _ h3, fun u' ru => hT.cv.eq ru, hkit, q _ F' H' e1 s1 rfl⟩⟩
theorem x_isVT (tb : Str → Option Bool) {vs : List V} {us : List Value} {es : List Expr} {kk : Nat} {tp : Pos} (hm : X.mg "isinstance" = none) (h0 : EX X U Γ e0 (rO (rXv X.mg)) m) (hT : NmCs X es vs us)
    (hlen : us.length ≤ 1000) (htb : Ct X.mg tb fun C b => ExcC X.K C ∧ PySem.W.kitAny X.K (.ref C) us = some b) (hg : Gl X "isinstance" := by rfl)
    (he : starEach [e0, .Tuple es kk tp] X.env = (false, eval e0 X.env) :: starEach [.Tuple es kk tp] X.env := by rfl) (he2 : starEach [.Tuple es kk tp] X.env = (false, eval (.Tuple es kk tp) X.env) :: starEach [] X.env := by rfl) (hpl : (backTo pos (starEach [.Tuple es kk tp] X.env)).any (·.1) = false := by rfl) :
    EX X U Γ (.Call (.Name "isinstance" p) [e0, .Tuple es kk tp] [] pos) rB (m.bind fun o => (ofOpt o).bind fun c => ofOpt (tb c)) :=
  ⟨fun en F σ H Q s h => fun pins sh I => by
    refine (pe_callB (r := fun xs H Q => ∃ (a D tp : Addr) (cs : List V) (us : List Value) (b : Bool), xs = [.ref a, .ref tp] ∧ ExcC X.K D ∧ H a = some (exV a (.ref D)) ∧ H tp = some (.tup cs) ∧ Paired ClsV cs us ∧ PySem.W.kitAny X.K (.ref D) us = some b ∧ Q (.bl b) H)
      (fun pins s σ H xs us Q I r ⟨a, D, tp, cs, us', b, h1, hC, h2⟩ => call_isVT hC pins s σ H xs us Q I r ⟨a, tp, cs, us', b, h1, h2⟩) hg hm boot_isinstance (pa_cons wE_pe (pa_cons (pe_tup hT.pa) pa_nil he2) he) (by decide) (by decide) he hpl).run pins sh σ H Q I ?_
    refine h0.out en F σ H _ s (wpR_mono (wpR_bind h) (fun o q v' F' H' e1 s1 r1 => ?_) fun _ z => z)
    cases o with
    | none => exact q.elim
    | some cl =>
      obtain ⟨a, C, h1, h2, h3⟩ := r1
      subst h1
      obtain ⟨b, hb, q⟩ := wpR_opt q
      obtain ⟨hC, hkit⟩ := htb.out cl b C hb h2
      have l1 := Paired.length hT.clv
      refine ⟨by rw [l1]; exact Nat.le_of_lt (small1000 hlen), fun q' hq => ?_⟩
      have ne : a ≠ q' := fun z => by
        have w := s1.sub a _ h3
        rw [z, hq] at w
        cases w
      exact ⟨a, C, q', vs, us, b, rfl, hC, (upd_ne ne).trans (s1.sub a _ h3), upd_same, hT.clv, hkit, q _ F' _ e1 (s1.ext (Ext.lay s1.sub hq)) rfl⟩⟩
end
end Py

/-! Own layer, part Ab: d.setdefault(k, []).append(x) over a dict of one's own with tuple keys: lists that no slot holds. -/
namespace L2.DX
open PySem PySem.Spec PyProof.Rows
section
variable {X : Cx}
def rSetdT : V → List V → Hp → VK → Prop := fun x xs H Q => ∃ (a : Addr) (kvs : List (List L2.Key × V)) (k : List L2.Key) (b : Addr) (d : V), x = .ref a ∧ xs = [.ref b, d] ∧ H a = some (.dT kvs) ∧ H b = some (.tup (k.map kV)) ∧ kvs.length < sizeLine ∧
  (∀ v, valV kvs k = some v → Q v H) ∧ (valV kvs k = none → Q d (upd H a (.dT (putK kvs k d))))
theorem mt_setdT (hu : X.A.units + 1 < cLine) : MtR X "dict.setdefault" rSetdT := by
  intro pins s σ H x xs v us Q I rx rxs h
  obtain ⟨a, kvs, k, b, d, rfl, rfl, ha, hb, hl, q1, q2⟩ := h
  cases rx
  obtain ⟨u1, u2, rfl, r1, r2⟩ := vals2 rxs
  cases r1
  obtain ⟨z, hd, xs', rel, dd⟩ := dt_of I.hok ha
  have hz : xs'.length ≤ sizeLine := by rw [← Paired.length rel]; exact z
  have r := rel.val k
  refine call_setdefault_heap (hsz := hz) (tupleKind_room_in1 hu) (key_of I.hok hb) hd dd (fun p hp => ?_) fun hn h' dd' hs => ?_
  · rw [hp] at r
    cases ev : valV kvs k with
    | none =>
      rw [ev] at r
      exact (show False from r).elim
    | some v0 =>
      rw [ev] at r
      exact ⟨v0, H, I.tok _, r, q1 v0 ev⟩
  · rw [hn] at r
    cases ev : valV kvs k with
    | some v0 =>
      rw [ev] at r
      exact (show False from r).elim
    | none =>
      have hl2 : (putK kvs k d).length ≤ sizeLine := by
        have := length_putK kvs k d
        omega
      obtain ⟨o, es, ep, hq, h2, h3, h4, _, h5⟩ := dd'
      have I2 : ∀ t', Inv X pins σ (upd H a (.dT (putK kvs k d))) { s with heap := h', toks := t' } := fun t' => d_write I (by rw [ha]; exact True.intro) hs ⟨o, hq⟩ ⟨hl2, hd, _, (rel.put k hb r2).keeps (fun c ys ec => (by rw [upd_ne (ne_of ec ha (fun z => nomatch z))]; exact ec)), o, es, ep, hq, h2, h3, h4, h5⟩
      exact ⟨d, _, I2 _, r2, q2 ev⟩
end
end L2.DX
namespace Py
open PySem PySem.Spec PyProof.Rows L2
/-- one more at the key k -/
def addL {κ ν : Type} [DecidableEq κ] : List (κ × List ν) → κ → ν → List (κ × List ν)
  | [], k, x => [(k, [x])]
  | (k', l) :: m, k, x => if k' = k then (k', l ++ [x]) :: m else (k', l) :: addL m k x
/-- what is there, known to no one -/
structure Hid (en : En) (F H : Hp) (q : Addr) (o : HO) : Prop where
  f : F q = none
  e : en.H q = none ∨ en.ps q
  h : H q = some o
inductive Ents {κ ν : Type} {ρ : Rp κ} (ky : Ky ρ) (π : Rp ν) (en : En) (F H : Hp) : List (List Key × V) → List (κ × List ν) → Prop
  | nil : Ents ky π en F H [] []
  | cons {k : κ} {xs : List ν} {q : Addr} {ws : List V} {kvs : List (List Key × V)} {m : List (κ × List ν)} : Hid en F H q (.lst ws) → en.H q = none → RepL π F xs ws → Ents ky π en F H kvs m → Ents ky π en F H ((ky.enc k, .ref q) :: kvs) ((k, xs) :: m)
section
variable {κ ν : Type} {ρ : Rp κ} {ky : Ky ρ} {π : Rp ν} {en : En} {F F' H H' : Hp}
theorem Ents.stay (hs : ∀ q ws, Hid en F H q (.lst ws) → Hid en F' H' q (.lst ws)) (e : Same F F') : ∀ {kvs : List (List Key × V)} {m : List (κ × List ν)}, Ents ky π en F H kvs m → Ents ky π en F' H' kvs m
  | _, _, .nil => .nil
  | _, _, .cons h z r t => .cons (hs _ _ h) z (r.mono e) (Ents.stay hs e t)
theorem Ents.ref : ∀ {kvs : List (List Key × V)} {m : List (κ × List ν)}, Ents ky π en F H kvs m → ∀ v ∈ kvs.map Prod.snd, ∃ q ws, v = .ref q ∧ Hid en F H q (.lst ws)
  | _, _, .nil, v, h => by cases h
  | _, _, .cons h z r t, v, hv => by
    rcases List.mem_cons.mp hv with z | z
    · exact ⟨_, _, z, h⟩
    · exact t.ref v z
theorem Ents.len : ∀ {kvs : List (List Key × V)} {m : List (κ × List ν)}, Ents ky π en F H kvs m → kvs.length = m.length
  | _, _, .nil => rfl
  | _, _, .cons h z r t => congrArg (· + 1) t.len
variable [DecidableEq κ]
/-- the key's list grows, or there is none -/
theorem Ents.add {k : κ} {x : ν} {v : V} (rv : π.rep x F v) : ∀ {kvs : List (List Key × V)} {m : List (κ × List ν)}, Ents ky π en F H kvs m → (kvs.map Prod.snd).Nodup →
    (valV kvs (ky.enc k) = none ∧ ∀ (H' : Hp) (q : Addr), (∀ p ws, .ref p ∈ kvs.map Prod.snd → Hid en F H p (.lst ws) → Hid en F H' p (.lst ws)) → Hid en F H' q (.lst [v]) → en.H q = none → Ents ky π en F H' (kvs ++ [(ky.enc k, .ref q)]) (addL m k x)) ∨
    ∃ q ws, valV kvs (ky.enc k) = some (.ref q) ∧ Hid en F H q (.lst ws) ∧ .ref q ∈ kvs.map Prod.snd ∧ (∃ l, (k, l) ∈ m ∧ l.length = ws.length) ∧ ∀ H' : Hp, (∀ p ws, p ≠ q → Hid en F H p (.lst ws) → Hid en F H' p (.lst ws)) → Hid en F H' q (.lst (ws ++ [v])) → Ents ky π en F H' kvs (addL m k x)
  | _, _, .nil, _ => .inl ⟨rfl, fun H' q hs hq hz => .cons hq hz (.cons rv .nil) .nil⟩
  | _, _, .cons (k := k') (xs := xs) (q := q) (ws := ws) (kvs := kvs) (m := m) h z0 r t, nd => by
    rw [List.map_cons, List.nodup_cons] at nd
    by_cases e : k' = k
    · subst e
      refine .inr ⟨q, ws, valV_pos rfl, h, by simp, ⟨xs, by simp, r.length⟩, fun H' hs hq => ?_⟩
      unfold addL
      rw [if_pos rfl]
      refine .cons hq z0 (r.append (.cons rv .nil)) ?_
      have st : ∀ {kvs : List (List Key × V)} {m : List (κ × List ν)}, Ents ky π en F H kvs m → V.ref q ∉ kvs.map Prod.snd → Ents ky π en F H' kvs m := by
        intro kvs m t
        induction t with
        | nil => intro _; exact .nil
        | cons h z1 r t ih =>
          intro nm
          rw [List.map_cons, List.mem_cons, not_or] at nm
          exact .cons (hs _ _ (fun z => nm.1 (by rw [z])) h) z1 r (ih nm.2)
      exact st t nd.1
    · have e' : ¬ ky.enc k' = ky.enc k := fun z => e (ky.inj _ _ z)
      have ev : valV ((ky.enc k', V.ref q) :: kvs) (ky.enc k) = valV kvs (ky.enc k) := valV_neg (p := (ky.enc k', V.ref q)) e'
      rcases t.add (k := k) rv nd.2 with ⟨h1, h2⟩ | ⟨q2, ws2, h1, h2, h3, ⟨l, h5, h6⟩, h4⟩
      · refine .inl ⟨ev.trans h1, fun H' q' hs hq hz => ?_⟩
        unfold addL
        rw [if_neg e]
        exact .cons (hs _ _ (by simp) h) z0 r (h2 H' q' (fun p ws hp => hs p ws (List.mem_cons_of_mem _ hp)) hq hz)
      · refine .inr ⟨q2, ws2, ev.trans h1, h2, List.mem_cons_of_mem _ h3, ⟨l, List.mem_cons_of_mem _ h5, h6⟩, fun H' hs hq => ?_⟩
        unfold addL
        rw [if_neg e]
        refine .cons (hs _ _ (fun z => nd.1 ?_) h) z0 r (h4 H' hs hq)
        rw [z]
        exact h3
end
/-- no slot owns anything -/
def NoOwn (Γ : List Sl) : Prop := ∀ (j : Nat) (a : Option Addr) (P : ORp), Γ[j]? ≠ some (.own a P)
section
variable {en : En} {Γ Γ2 : List Sl} {F F' H H' : Hp} {σ σ' : L2.St} {q : Addr} {o : HO}
theorem Hid.move (s : SA en Γ F σ H) (hno : NoOwn Γ) (s3 : SA ⟨F, H, Ows Γ σ⟩ Γ2 F' σ' H') (h : Hid en F H q o) (ho : ∀ vs, o ≠ .tup vs) : Hid en F' H' q o := by
  have no : ¬ Ows Γ σ q := fun ⟨j, a, P, hj, _⟩ => hno j a P hj
  have h' : H' q = some o := s3.old q o h.h no
  exact ⟨no_tup s3.sub (s3.frz q (by show H q ≠ none; rw [h.h]; exact fun z => nomatch z) h.f no) h' ho, h.e, h'⟩
theorem Hid.ext (x : Ext F H F' H') (h : Hid en F H q o) (ho : ∀ vs, o ≠ .tup vs) : Hid en F' H' q o := by
  have h' : H' q = some o := x.h q o h.h
  exact ⟨no_tup x.s (x.n q (by rw [h.h]; exact fun z => nomatch z) h.f) h' ho, h.e, h'⟩
/-- what is known to no one may turn -/
theorem SA.poke {o' : HO} (s : SA en Γ F σ H) (hno : NoOwn Γ) (hf : F q = none) (he : en.H q = none ∨ en.ps q) : SA en Γ F σ (upd H q o') where
  len := s.len
  sub := fun b x e => by rw [upd_ne (fun z => by rw [z, hf] at e; cases e)]; exact s.sub b x e
  grow := s.grow
  old := fun b x e n => by
    rw [upd_ne (fun z => by
      subst z
      rcases he with he | he
      · rw [he] at e
        cases e
      · exact n he)]
    exact s.old b x e n
  there := fun b e => by
    by_cases z : b = q
    · rw [z, upd_same]
      exact fun w => nomatch w
    · rw [upd_ne z]
      exact s.there b e
  frz := s.frz
  val := s.val
  own := fun i a P hi => absurd hi (hno i a P)
  dis := fun i j a b P Q p _ hi _ => absurd hi (hno i a P)
end
/-- a dict of lists in slot i, that no one knows -/
structure DL {κ ν : Type} {ρ : Rp κ} (i : Nat) (ky : Ky ρ) (π : Rp ν) (en : En) (F : Hp) (σ : L2.St) (H : Hp) (m : List (κ × List ν)) : Prop where
  out : ∃ a kvs, σ[i]? = some (some (.ref a)) ∧ Hid en F H a (.dT kvs) ∧ Ents ky π en F H kvs m ∧ (kvs.map Prod.snd).Nodup
section
variable {κ ν : Type} {ρ : Rp κ} {ky : Ky ρ} {π : Rp ν} {en : En} {Γ Γ2 : List Sl} {F F' H H' : Hp} {σ σ' : L2.St} {i : Nat} {m : List (κ × List ν)}
theorem DL.move (s : SA en Γ F σ H) (hno : NoOwn Γ) (s3 : SA ⟨F, H, Ows Γ σ⟩ Γ2 F' σ' H') (e : Same F F') (d : DL i ky π en F σ H m) (hσ : σ'[i]? = σ[i]?) : DL i ky π en F' σ' H' m := by
  obtain ⟨a, kvs, h1, h2, h3, h4⟩ := d.out
  exact ⟨a, kvs, hσ.trans h1, h2.move s hno s3 (fun _ z => nomatch z), h3.stay (fun q ws h => h.move s hno s3 (fun _ z => nomatch z)) e, h4⟩
theorem DL.ext (x : Ext F H F' H') (d : DL i ky π en F σ H m) (hσ : σ'[i]? = σ[i]?) : DL i ky π en F' σ' H' m := by
  obtain ⟨a, kvs, h1, h2, h3, h4⟩ := d.out
  exact ⟨a, kvs, hσ.trans h1, h2.ext x (fun _ z => nomatch z), h3.stay (fun q ws h => h.ext x (fun _ z => nomatch z)) x.f, h4⟩
theorem put_new {kvs : List (List Key × V)} {k : List Key} {v : V} (h : valV kvs k = none) : putK kvs k v = kvs ++ [(k, v)] := by
  unfold putK
  rw [if_neg]
  intro z
  obtain ⟨q, hq, e⟩ := List.any_eq_true.mp z
  unfold valV at h
  have := List.find?_eq_none.mp (Option.map_eq_none_iff.mp h) q hq
  exact this e
variable [DecidableEq κ] {X : Cx} {ways cell mark : Str} {p1 p2 p3 p4 a1 a2 c1 c2 spos : Pos} {jc jm : Nat} {D : L2.Ends} {x : ν} {y : κ}
/-- d.setdefault(k, []).append(x) -/
theorem set_app (hu : X.A.units + 1 < cLine) (sa : SA en Γ F σ H) (hno : NoOwn Γ) (hc : Γ[jc]? = some (im ρ y)) (hm : Γ[jm]? = some (im π x)) (d : DL i ky π en F σ H m) (l1 : m.length < sizeLine) (l2 : ∀ q ∈ m, q.2.length < sizeLine)
    (hw : X.N[i]? = some ways) (hv1 : Vis X.env.scope ways) (hd1 : (ways == ("__debug__" : Str)) = false) (hd1' : (ways == ("__classdict__" : Str)) = false)
    (hnc : X.N[jc]? = some cell) (hv2 : Vis X.env.scope cell) (hd2 : (cell == ("__debug__" : Str)) = false) (hd2' : (cell == ("__classdict__" : Str)) = false)
    (hnm : X.N[jm]? = some mark) (hv3 : Vis X.env.scope mark) (hd3 : (mark == ("__debug__" : Str)) = false) (hd3' : (mark == ("__classdict__" : Str)) = false)
    (hpe : ∀ to t t2, MtR X "dict.setdefault" DX.rSetdT → PE X (.Name ways p1) to → PA X [.Name cell p2, .List [] p3] t → PA X [.Name mark p4] t2 →
      PE X (.Call (.Attribute (.Call (.Attribute (.Name ways p1) "setdefault" a1) [.Name cell p2, .List [] p3] [] c1) "append" a2) [.Name mark p4] [] c2) (tBM X.K "list" rAppend (tBM X.K "dict" DX.rSetdT to t) t2))
    (hs1 : starEach [.Name cell p2, .List [] p3] X.env = (false, eval (.Name cell p2) X.env) :: starEach [.List [] p3] X.env) (hs2 : starEach [.List [] p3] X.env = (false, eval (.List [] p3) X.env) :: starEach [] X.env)
    (hs3 : starEach [.Name mark p4] X.env = (false, eval (.Name mark p4) X.env) :: starEach [] X.env)
    (hsw : swapsWith (.Call (.Attribute (.Call (.Attribute (.Name ways p1) "setdefault" a1) [.Name cell p2, .List [] p3] [] c1) "append" a2) [.Name mark p4] [] c2) none spos.line X.env = pure false)
    (k : ∀ H', SA en Γ F σ H' → DL i ky π en F σ H' (addL m y x) → D.nx σ H') :
    wSs X [.Expr (.Call (.Attribute (.Call (.Attribute (.Name ways p1) "setdefault" a1) [.Name cell p2, .List [] p3] [] c1) "append" a2) [.Name mark p4] [] c2) spos] D σ H := by
  refine wSs_of (pss_one (ps_expr (hpe _ _ _ (DX.mt_setdT hu) (pe_var hw hv1 hd1 hd1') (pa_cons (pe_var hnc hv2 hd2 hd2') (pa_cons (pe_lst pa_nil) pa_nil hs2) hs1) (pa_cons (pe_var hnm hv3 hd3 hd3') pa_nil hs3)) hsw)) ?_
  obtain ⟨a, kvs, g1, ha, he, nd⟩ := d.out
  obtain ⟨vc, gc, rc⟩ := sa.val jc _ hc
  obtain ⟨vm, gm, rm⟩ := sa.val jm _ hm
  obtain ⟨b, ebc, hb⟩ := ky.rep y H vc (ρ.mono sa.sub rc)
  subst ebc
  have lk : kvs.length < sizeLine := by rw [he.len]; exact l1
  refine ⟨.ref a, g1, .inr (.inr (.inl ⟨rfl, .inr ⟨kvs, ha.h⟩⟩)), .ref b, gc, Nat.zero_le _, fun p hp => ?_⟩
  have pa : a ≠ p := fun z => by
    have := ha.h
    rw [z, hp] at this
    cases this
  have pb : b ≠ p := fun z => by
    rw [z, hp] at hb
    cases hb
  have fp : F p = none := none_back sa.sub hp
  have ep : en.H p = none := sa.gone hp
  have h1 : ∀ {q o}, Hid en F H q o → Hid en F (upd H p (.lst [])) q o := fun h => ⟨h.f, h.e, (upd_ne (fun z => by have := h.h; rw [z, hp] at this; cases this)).trans h.h⟩
  have sa1 : SA en Γ F σ (upd H p (.lst [])) := (sa.lay hp).1
  refine ⟨a, kvs, ky.enc y, b, .ref p, rfl, rfl, (h1 ha).h, (upd_ne pb).trans hb, lk, ?_, ?_⟩
  · intro v hv
    rcases (he.stay (H' := upd H p (.lst [])) (fun q ws h => h1 h) (Same.refl F)).add (k := y) (x := x) rm nd with ⟨e1, _⟩ | ⟨q, ws, e1, hq, hmem, ⟨l, hl, el⟩, up⟩
    · rw [e1] at hv
      cases hv
    · rw [e1] at hv
      cases hv
      refine ⟨.inl ⟨rfl, ws, .inl (.inl hq.h)⟩, vm, gm, q, ws, vm, rfl, rfl, hq.h, by rw [← el]; exact l2 _ hl, ?_⟩
      have aq : a ≠ q := fun z => by
        have := (h1 ha).h
        rw [z, hq.h] at this
        cases this
      refine k _ (sa1.poke hno hq.f hq.e) ⟨a, kvs, g1, ⟨ha.f, ha.e, (upd_ne aq).trans (h1 ha).h⟩, up _ (fun p' ws' ne h => ⟨h.f, h.e, (upd_ne ne).trans h.h⟩) ⟨hq.f, hq.e, upd_same⟩, nd⟩
  · intro hv
    rcases (he.stay (H' := upd H p (.lst [])) (fun q ws h => h1 h) (Same.refl F)).add (k := y) (x := x) rm nd with ⟨e1, up⟩ | ⟨q, ws, e1, _⟩
    · rw [put_new hv]
      have hp2 : (upd (upd H p (.lst [])) a (.dT (kvs ++ [(ky.enc y, .ref p)]))) p = some (.lst []) := (upd_ne pa.symm).trans upd_same
      refine ⟨.inl ⟨rfl, [], .inl (.inl hp2)⟩, vm, gm, p, [], vm, rfl, rfl, hp2, by rw [sizeLine_eq]; decide, ?_⟩
      have nin : V.ref p ∉ kvs.map Prod.snd := fun z => by
        obtain ⟨q, ws, e, h⟩ := he.ref _ z
        injection e with e
        have := h.h
        rw [← e, hp] at this
        cases this
      refine k _ ((sa1.poke hno ha.f ha.e).poke hno fp (.inl ep)) ⟨a, kvs ++ [(ky.enc y, .ref p)], g1, ⟨ha.f, ha.e, (upd_ne pa).trans upd_same⟩, up _ p (fun p' ws' hm' h => ⟨h.f, h.e, ?_⟩) ⟨fp, .inl ep, upd_same⟩ ep, ?_⟩
      · have n1 : p' ≠ p := fun z => nin (by rw [← z]; exact hm')
        have n2 : p' ≠ a := fun z => by
          have := h.h
          rw [z, (h1 ha).h] at this
          cases this
        exact (upd_ne n1).trans ((upd_ne n2).trans h.h)
      · rw [List.map_append, List.nodup_append]
        refine ⟨nd, by simp, fun v hv w hw => ?_⟩
        have : w = V.ref p := by simpa using hw
        rw [this]
        exact fun z => nin (by rw [← z]; exact hv)
    · rw [e1] at hv
      cases hv
end
theorem le_set {Γ : List Sl} {j : Nat} {y : Sl} (h : ∀ z, Γ[j]? = some z → z = .any) : Le Γ (Γ.set j y) := by
  have : ∀ (Γ : List Sl) (j : Nat), (∀ z, Γ[j]? = some z → z = .any) → Le Γ (Γ.set j y) := by
    intro Γ
    induction Γ with
    | nil => intro j _; exact .nil
    | cons x l ih =>
      intro j h
      cases j with
      | zero =>
        obtain rfl := h x rfl
        exact .cons .any Le.refl
      | succ j => exact .cons .rfl (ih j h)
  exact this Γ j h
/-! ### the two loops -/
def addM {κ ν : Type} [DecidableEq κ] (d : List (κ × List ν)) (y : κ) (x : ν) : R (List (κ × List ν)) := (chk (d.length < sizeLine ∧ ∀ q ∈ d, q.2.length < sizeLine) ()).bind fun _ => .ok (addL d y x)
def bringM {κ ν : Type} [DecidableEq κ] (lies : ν → R (List κ)) (xs : List ν) (d : List (κ × List ν)) : R (List (κ × List ν)) := forR (fun d x => (lies x).calm.bind fun ys => forR (fun d y => addM d y x) ys d) xs d
theorem noOwn_all {Γ : List Sl} (h : (Γ.all fun s => match s with | .own _ _ => false | _ => true) = true) : NoOwn Γ := fun j a P hj => by
  have := List.all_eq_true.mp h _ (List.mem_of_getElem? hj)
  cases this
theorem NoOwn.set {Γ : List Sl} (h : NoOwn Γ) (j : Nat) (P : PRp) : NoOwn (Γ.set j (.imm P)) := fun l a Q hl => by
  by_cases e : j = l
  · subst e
    by_cases hj : j < Γ.length
    · rw [List.getElem?_set_self hj] at hl
      cases hl
    · rw [List.getElem?_eq_none (by rw [List.length_set]; omega)] at hl
      cases hl
  · rw [List.getElem?_set_ne e] at hl
    exact h l a Q hl
section
variable {κ ν : Type} [DecidableEq κ] {ρ : Rp κ} {ky : Ky ρ} {π : Rp ν} {X : Cx} {ways cell mark : Str} {p1 p2 p3 p4 a1 a2 c1 c2 spos cp mp pos1 pos2 : Pos} {i jc jm : Nat} {itc itm : Expr}
abbrev bStmt (ways cell mark : Str) (p1 p2 p3 p4 a1 a2 c1 c2 spos : Pos) : Stmt := .Expr (.Call (.Attribute (.Call (.Attribute (.Name ways p1) "setdefault" a1) [.Name cell p2, .List [] p3] [] c1) "append" a2) [.Name mark p4] [] c2) spos
/-- what is asked of the names and the places -/
structure BrOk (X : Cx) (ways cell mark : Str) (p1 p2 p3 p4 a1 a2 c1 c2 spos : Pos) (i jc jm : Nat) : Prop where
  hu : X.A.units + 1 < cLine
  hN : X.N.Nodup
  hic : i ≠ jc := by decide
  him : i ≠ jm := by decide
  hw : X.N[i]? = some ways := by rfl
  hv1 : Vis X.env.scope ways := by first | exact Or.inl rfl | exact Or.inr (Or.inl rfl) | exact Or.inr (Or.inr rfl)
  hd1 : (ways == ("__debug__" : Str)) = false := by decide
  hd1' : (ways == ("__classdict__" : Str)) = false := by decide
  hnc : X.N[jc]? = some cell := by rfl
  hv2 : Vis X.env.scope cell := by first | exact Or.inl rfl | exact Or.inr (Or.inl rfl) | exact Or.inr (Or.inr rfl)
  hl2 : Loc X.env.scope cell := by first | exact Or.inl rfl | exact Or.inr rfl
  hf2 : X.fn cell = true ∨ X.env.scope.names.lookup cell = some .local := by first | exact .inl rfl | exact .inr rfl
  hd2 : (cell == ("__debug__" : Str)) = false := by decide
  hd2' : (cell == ("__classdict__" : Str)) = false := by decide
  hnm : X.N[jm]? = some mark := by rfl
  hv3 : Vis X.env.scope mark := by first | exact Or.inl rfl | exact Or.inr (Or.inl rfl) | exact Or.inr (Or.inr rfl)
  hl3 : Loc X.env.scope mark := by first | exact Or.inl rfl | exact Or.inr rfl
  hf3 : X.fn mark = true ∨ X.env.scope.names.lookup mark = some .local := by first | exact .inl rfl | exact .inr rfl
  hd3 : (mark == ("__debug__" : Str)) = false := by decide
  hd3' : (mark == ("__classdict__" : Str)) = false := by decide
  hpe : ∀ to t t2, MtR X "dict.setdefault" DX.rSetdT → PE X (.Name ways p1) to → PA X [.Name cell p2, .List [] p3] t → PA X [.Name mark p4] t2 →
      PE X (.Call (.Attribute (.Call (.Attribute (.Name ways p1) "setdefault" a1) [.Name cell p2, .List [] p3] [] c1) "append" a2) [.Name mark p4] [] c2) (tBM X.K "list" rAppend (tBM X.K "dict" DX.rSetdT to t) t2) := by exact fun _ _ _ hm ho ha h2 => pe_bm PySem.F.plainAttrs_list PySem.F.slot_list_append PySem.F.type_list_append mt_append (pe_bm PySem.F.plainAttrs_dict PySem.F.slot_dict_setdefault PySem.F.type_dict_setdefault hm ho ha) h2
  hs1 : starEach [.Name cell p2, .List [] p3] X.env = (false, eval (.Name cell p2) X.env) :: starEach [.List [] p3] X.env := by rfl
  hs2 : starEach [.List [] p3] X.env = (false, eval (.List [] p3) X.env) :: starEach [] X.env := by rfl
  hs3 : starEach [.Name mark p4] X.env = (false, eval (.Name mark p4) X.env) :: starEach [] X.env := by rfl
  hsw : swapsWith (.Call (.Attribute (.Call (.Attribute (.Name ways p1) "setdefault" a1) [.Name cell p2, .List [] p3] [] c1) "append" a2) [.Name mark p4] [] c2) none spos.line X.env = pure false := by rfl
theorem in_loop (B : BrOk X ways cell mark p1 p2 p3 p4 a1 a2 c1 c2 spos i jc jm) {Γm : List Sl} {x : ν} {mi : R (List κ)} {en : En} {F H : Hp} {σ : L2.St} {D : L2.Ends} {m : List (κ × List ν)} (hno : NoOwn Γm) (hmj : Γm[jm]? = some (im π x)) (hjj : jc ≠ jm) (hca : ∀ z, Γm[jc]? = some z → z = .any) (hcl : jc < Γm.length)
    (hi : IX X U0 Γm (.Name cell cp) itc ρ mi) (hp : PassesOwn (model X.prog X.w) X.A X.env X.xe) (hc : X.calm = true) (hs : ∀ x, foldedSetIterable itc X.env x = pure x) (sa : SA en Γm F σ H) (dl : DL i ky π en F σ H m)
    (h : wpR (mi.calm.bind fun ys => forR (fun d y => addM d y x) ys m) (fun m' => ∀ F' σ' H', Same F F' → SA en Γm F' σ' H' → DL i ky π en F' σ' H' m' → D.nx σ' H') (fun _ => False)) :
    wSs X [.For (.Name cell cp) itc [bStmt ways cell mark p1 p2 p3 p4 a1 a2 c1 c2 spos] [] pos1] D σ H := by
  refine wSs_of (pss_one (ps_for hp hc wI_pi wG_pg wSs_pss hs)) (hi.out _ F σ H _ sa.re (wpR_mono (wpR_calm2 (wpR_bind h)) (fun ys k J F1 H1 e1 s1 wk => ?_) fun _ z => z))
  have sa1 : SA en Γm F1 σ H1 := sa.blk (vs := []) s1 e1 Chg.refl (fun _ _ => rfl) fun j a P hj => absurd hj (hno j a P)
  have dl1 := dl.move sa hno s1 e1 rfl
  refine ⟨fun t n σ H => n = ys.length - t ∧ t ≤ ys.length ∧ ∃ st F', Same F1 F' ∧ SA en Γm F' σ H ∧ DL i ky π en F' σ H st ∧ wpR (forR (fun d y => addM d y x) (ys.drop t) st) (fun m' => ∀ F2 σ' H', Same F' F2 → SA en Γm F2 σ' H' → DL i ky π en F2 σ' H' m' → D.nx σ' H') (fun _ => False),
    ⟨_, rfl, Nat.zero_le _, m, F1, Same.refl F1, sa1, dl1, wpR_mono k (fun m' z F2 σ' H' e2 s2 d2 => z F2 σ' H' (e1.trans e2) s2 d2) fun _ z => z⟩, ?_⟩
  rintro t n σ H ⟨rfl, ht, st, F', eF, sa', dl', q⟩
  by_cases hlt : t < ys.length
  · have hd : ys.drop t = ys[t] :: ys.drop (t + 1) := List.drop_eq_getElem_cons hlt
    obtain ⟨go, yl⟩ := wk.go F' H t _ eF sa'.sub (List.getElem?_eq_getElem hlt)
    rw [hd] at q
    refine .inr ⟨go, fun σ' H' => t + 1 ≤ ys.length ∧ ∃ st F', Same F1 F' ∧ SA en Γm F' σ' H' ∧ DL i ky π en F' σ' H' st ∧ wpR (forR (fun d y => addM d y x) (ys.drop (t + 1)) st) (fun m' => ∀ F2 σ' H', Same F' F2 → SA en Γm F2 σ' H' → DL i ky π en F2 σ' H' m' → D.nx σ' H') (fun _ => False), fun σ' H' ⟨b1, b2⟩ => ⟨_, by omega, rfl, b1, b2⟩, fun v H' y => ?_⟩
    obtain ⟨F2, xx, rv⟩ := yl v H' y
    refine (gt_name (vs := [jc]) jc (by simp) B.hN B.hnc B.hl2 B.hf2).out en _ F2 σ H' v _ _ (sa'.ext xx) rv fun σ2 s2 ch => ?_
    have dl2 : DL i ky π en F2 σ2 H' st := dl'.ext xx (ch.2 i (by simpa using B.hic))
    have q2 : wpR ((addM st ys[t] x).bind fun s' => forR (fun d y => addM d y x) (ys.drop (t + 1)) s') (fun m' => ∀ F2 σ' H', Same F' F2 → SA en Γm F2 σ' H' → DL i ky π en F2 σ' H' m' → D.nx σ' H') (fun _ => False) := q
    have q3 := wpR_bind q2
    unfold addM at q3
    obtain ⟨⟨l1, l2⟩, q4⟩ := wpR_chk (wpR_bind q3)
    have hno2 : NoOwn (Γm.set jc (im ρ ys[t])) := hno.set jc _
    refine set_app B.hu s2 hno2 (jc := jc) (jm := jm) (List.getElem?_set_self hcl) ((List.getElem?_set_ne hjj).trans hmj) dl2 l1 l2 B.hw B.hv1 B.hd1 B.hd1' B.hnc B.hv2 B.hd2 B.hd2' B.hnm B.hv3 B.hd3 B.hd3' B.hpe B.hs1 B.hs2 B.hs3 B.hsw fun H3 s3 d3 => ?_
    have s4 : SA en Γm F2 σ2 H3 := s3.le (le_set hca)
    exact ⟨hlt, _, F2, eF.trans xx.f, s4, d3, wpR_mono q4 (fun m' z F5 σ' H' e2 s2 d2 => z F5 σ' H' (xx.f.trans e2) s2 d2) fun _ z => z⟩
  · have e : t = ys.length := by omega
    subst e
    rw [List.drop_length] at q
    exact .inl ⟨wk.stop H _ (eF.trans sa'.sub) (Nat.le_refl _), q F' σ H (Same.refl F') sa' dl'⟩
/-- the lists become known -/
theorem Ents.know {en : En} {Γ : List Sl} {F H : Hp} {σ : L2.St} (hno : NoOwn Γ) (sa : SA en Γ F σ H) : ∀ {kvs : List (List Key × V)} {m : List (κ × List ν)}, Ents ky π en F H kvs m → (kvs.map Prod.snd).Nodup →
    ∃ F', Same F F' ∧ SA en Γ F' σ H ∧ RepD ky (rL π) F' m kvs ∧ ∀ p, F p = none → V.ref p ∉ kvs.map Prod.snd → F' p = none
  | _, _, .nil, _ => ⟨F, Same.refl F, sa, .nil, fun _ h _ => h⟩
  | _, _, .cons (k := k) (xs := xs) (q := q) (ws := ws) h z r t, nd => by
    rw [List.map_cons, List.nodup_cons] at nd
    obtain ⟨F1, e1, s1, r1, n1⟩ := t.know hno sa nd.2
    have fq : F1 q = none := n1 q h.f nd.1
    obtain ⟨s2, e2⟩ := s1.know (p := q) (o := .lst ws) ⟨fq, z, fun j a P hj => absurd hj (hno j a P), h.h⟩
    refine ⟨_, e1.trans e2, s2, .cons ⟨q, ws, rfl, upd_same, r.mono (e1.trans e2)⟩ (RepD.mono e2 r1), fun p hp hm => ?_⟩
    rw [List.map_cons, List.mem_cons, not_or] at hm
    have : p ≠ q := fun e => hm.1 (by rw [e])
    rw [upd_ne this]
    exact n1 p hp hm.2
theorem SA.ownIn {en : En} {Γ : List Sl} {F H : Hp} {σ : L2.St} {i : Nat} {P : ORp} {a : Addr} {o : HO} (sa : SA en Γ F σ H) (hno : NoOwn Γ) (h1 : σ[i]? = some (some (.ref a))) (hf : F a = none) (ho : H a = some o) (hP : P.p F o) (he : en.H a = none ∨ en.ps a) : SA en (Γ.set i (.own none P)) F σ H where
  len := by rw [List.length_set]; exact sa.len
  sub := sa.sub
  grow := sa.grow
  old := sa.old
  there := sa.there
  frz := sa.frz
  val := fun j Q hj => by
    by_cases e : i = j
    · subst e
      by_cases hl : i < Γ.length
      · rw [List.getElem?_set_self hl] at hj
        cases hj
      · rw [List.getElem?_eq_none (by rw [List.length_set]; omega)] at hj
        cases hj
    · rw [List.getElem?_set_ne e] at hj
      exact sa.val j Q hj
  own := fun j b Q hj => by
    by_cases e : i = j
    · subst e
      by_cases hl : i < Γ.length
      · rw [List.getElem?_set_self hl] at hj
        cases hj
        exact ⟨a, o, h1, hf, ho, hP, he, fun q hq => nomatch hq⟩
      · rw [List.getElem?_eq_none (by rw [List.length_set]; omega)] at hj
        cases hj
    · rw [List.getElem?_set_ne e] at hj
      exact absurd hj (hno j b Q)
  dis := fun j l b c Q R p hne hj hl => by
    by_cases e : i = j
    · subst e
      rw [List.getElem?_set_ne hne] at hl
      exact absurd hl (hno l c R)
    · rw [List.getElem?_set_ne e] at hj
      exact absurd hj (hno j b Q)
theorem Le.any1 {Γ : List Sl} (j : Nat) : Le (Γ.set j .any) Γ := by
  have : ∀ (Γ : List Sl) (j : Nat), Le (Γ.set j .any) Γ := by
    intro Γ
    induction Γ with
    | nil => intro j; exact .nil
    | cons x l ih =>
      intro j
      cases j with
      | zero => exact .cons .any Le.refl
      | succ j => exact .cons .rfl (ih j)
  exact this Γ j
theorem NoOwn.any {Γ : List Sl} (h : NoOwn Γ) (j : Nat) : NoOwn (Γ.set j .any) := fun l a Q hl => by
  by_cases e : j = l
  · subst e
    by_cases hj : j < Γ.length
    · rw [List.getElem?_set_self hj] at hl
      cases hl
    · rw [List.getElem?_eq_none (by rw [List.length_set]; omega)] at hl
      cases hl
  · rw [List.getElem?_set_ne e] at hl
    exact h l a Q hl
theorem no_er {α : Type} {m : R α} {K : α → Prop} {Z Z' : Er → Prop} (h : ∀ e, m ≠ .er e) (w : wpR m K Z) : wpR m K Z' := by
  cases m with
  | ok a => exact w
  | er e => exact absurd rfl (h e)
  | bad => exact w
theorem adds_ne (x : ν) : ∀ (ys : List κ) (st : List (κ × List ν)) (e : Er), forR (fun d y => addM d y x) ys st ≠ .er e
  | [], st, e => fun z => by cases z
  | y :: ys, st, e => fun z => by
    have z' : ((addM st y x).bind fun s' => forR (fun d y => addM d y x) ys s') = .er e := z
    unfold addM chk at z'
    by_cases c : st.length < sizeLine ∧ ∀ q ∈ st, q.2.length < sizeLine
    · rw [if_pos c] at z'
      exact adds_ne x ys _ e z'
    · rw [if_neg c] at z'
      cases z'
theorem turn_ne (m : R (List κ)) (x : ν) (st : List (κ × List ν)) (e : Er) : (m.calm.bind fun ys => forR (fun d y => addM d y x) ys st) ≠ .er e := fun z => by
  cases m with
  | ok ys => exact adds_ne x ys st e z
  | er _ => cases z
  | bad => cases z
variable {U : Wi} {Γ : List Sl} {rest : List Stmt} {ω : Type} {I : ω → Kd} {a0 : Option Addr}
/-- for mark in ..: for cell in ..: ways.setdefault(cell, []).append(mark) -/
theorem p_bring {lies : ν → R (List κ)} {mo : R (List ν)} {k : List (κ × List ν) → R ω} (B : BrOk X ways cell mark p1 p2 p3 p4 a1 a2 c1 c2 spos i jc jm) (Γ1 : List Sl) (h1 : Γ1 = ((Γ.set i .any).set jm .any).set jc .any) (hΓ : Γ[i]? = some (.own a0 (oD ky (rL π) ([] : List (κ × List ν)))))
    (hno : NoOwn Γ1) (hjj : jc ≠ jm) (hcl : Nat.ble (jc + 1) Γ1.length = true) (hml : Nat.ble (jm + 1) Γ1.length = true) (hca : ∀ z, Γ1[jc]? = some z → z = .any) (hma : ∀ z, Γ1[jm]? = some z → z = .any)
    (ho : IX X U Γ (.Name mark mp) itm π mo) (hi : ∀ x, IX X U0 (Γ1.set jm (im π x)) (.Name cell cp) itc ρ (lies x)) (hp : PassesOwn (model X.prog X.w) X.A X.env X.xe) (hr : ∀ m, SX X U (Γ1.set i (.own none (oD ky (rL π) m))) rest I (k m))
    (hc : X.calm = true := by rfl) (hs : ∀ x, foldedSetIterable itc X.env x = pure x := by intro _; rfl) (hs2 : ∀ x, foldedSetIterable itm X.env x = pure x := by intro _; rfl) :
    SX X U Γ (.For (.Name mark mp) itm [.For (.Name cell cp) itc [bStmt ways cell mark p1 p2 p3 p4 a1 a2 c1 c2 spos] [] pos1] [] pos2 :: rest) I (mo.bind fun xs => (bringM lies xs []).bind k) :=
  ⟨fun en F σ H D sa h => wSs_of (pss_cons (ps_for hp hc wI_pi wG_pg wSs_pss hs2) wSs_pss) (ho.out en F σ H _ sa (wpR_mono (wpR_bind h) (fun xs kk J F1 H1 e1 s1 wk => by
    have s1' : SA en Γ1 F1 σ H1 := by
      rw [h1]
      exact ((s1.le (Le.any1 i)).le (Le.any1 jm)).le (Le.any1 jc)
    have dl1 : DL i ky π en F1 σ H1 ([] : List (κ × List ν)) := by
      obtain ⟨p, o, g1, g2, g3, ⟨kvs, eo, rl⟩, g5, g6⟩ := s1.own i _ _ hΓ
      subst eo
      cases rl
      exact ⟨p, [], g1, ⟨g2, g5, g3⟩, .nil, List.Pairwise.nil⟩
    have kk' := wpR_bind kk
    refine ⟨fun t n σ H => n = xs.length - t ∧ t ≤ xs.length ∧ ∃ st F', Same F1 F' ∧ SA en Γ1 F' σ H ∧ DL i ky π en F' σ H st ∧ wpR (bringM lies (xs.drop t) st) (fun m' => wpR (k m') (fun o => (I o).sat en F1 D) (U.ok X.mg en F1)) (U.ok X.mg en F1),
      ⟨_, rfl, Nat.zero_le _, [], F1, Same.refl F1, s1', dl1, wpR_mono kk' (fun m' z => wpR_mono z (fun o z => z.up e1) fun _ z => z.up e1) fun _ z => z.up e1⟩, ?_⟩
    rintro t n σ H ⟨rfl, ht, st, F', eF, sa', dl', q⟩
    by_cases hlt : t < xs.length
    · have hd : xs.drop t = xs[t] :: xs.drop (t + 1) := List.drop_eq_getElem_cons hlt
      obtain ⟨go, yl⟩ := wk.go F' H t _ eF sa'.sub (List.getElem?_eq_getElem hlt)
      rw [hd] at q
      refine .inr ⟨go, fun σ' H' => t + 1 ≤ xs.length ∧ ∃ st F', Same F1 F' ∧ SA en Γ1 F' σ' H' ∧ DL i ky π en F' σ' H' st ∧ wpR (bringM lies (xs.drop (t + 1)) st) (fun m' => wpR (k m') (fun o => (I o).sat en F1 D) (U.ok X.mg en F1)) (U.ok X.mg en F1), fun σ' H' ⟨b1, b2⟩ => ⟨_, by omega, rfl, b1, b2⟩, fun v H' y => ?_⟩
      obtain ⟨F2, xx, rv⟩ := yl v H' y
      refine (gt_name (vs := [jm]) jm (by simp) B.hN B.hnm B.hl3 B.hf3).out en _ F2 σ H' v _ _ (sa'.ext xx) rv fun σ2 s2 ch => ?_
      have dl2 : DL i ky π en F2 σ2 H' st := dl'.ext xx (ch.2 i (by simpa using B.him))
      have q2 : wpR (((lies xs[t]).calm.bind fun ys => forR (fun d y => addM d y xs[t]) ys st).bind fun s' => bringM lies (xs.drop (t + 1)) s') (fun m' => wpR (k m') (fun o => (I o).sat en F1 D) (U.ok X.mg en F1)) (U.ok X.mg en F1) := q
      have lc : jc < Γ1.length := Nat.le_of_ble_eq_true hcl
      have lm : jm < Γ1.length := Nat.le_of_ble_eq_true hml
      refine in_loop B (hno.set jm _) (List.getElem?_set_self lm) hjj (fun z hz => hca z (by rw [← hz, List.getElem?_set_ne (Ne.symm hjj)])) (by rw [List.length_set]; exact lc) (hi _) hp hc hs s2 dl2 (no_er (turn_ne _ _ _) (wpR_mono (wpR_bind q2) (fun m' z => fun F3 σ3 H3 e3 s3 d3 => ?_) fun _ z => z))
      exact ⟨hlt, m', F3, eF.trans (xx.f.trans e3), s3.le (le_set hma), d3, z⟩
    · have e : t = xs.length := by omega
      subst e
      rw [List.drop_length] at q
      refine .inl ⟨wk.stop H _ (eF.trans sa'.sub) (Nat.le_refl _), ?_⟩
      obtain ⟨a, kvs, g1, ha, he, nd⟩ := dl'.out
      obtain ⟨F2, e2, s2, rd, nn⟩ := he.know hno sa' nd
      have na : V.ref a ∉ kvs.map Prod.snd := fun z => by
        obtain ⟨q, ws, e, h⟩ := he.ref _ z
        injection e with e
        have := h.h
        rw [← e, ha.h] at this
        cases this
      have s3 := s2.ownIn hno g1 (nn a ha.f na) ha.h (P := oD ky (rL π) st) ⟨kvs, rfl, rd⟩ ha.e
      exact (hr st).out en F2 σ H D s3 (wpR_mono q (fun o z => z.up (eF.trans e2)) fun _ z => z.up (eF.trans e2))) fun _ z => z))⟩
end
end Py

/-! Own layer, part Ac: d.setdefault(k, x) as a statement, d of one's own with tuple keys. -/
namespace Py
open PySem PySem.Spec PyProof.Rows L2
section
variable {X : Cx} {U : Wi} {Γ : List Sl} {a b : Expr} {rest : List Stmt} {pos p ap cp : Pos} {κ ν ω : Type} {I : ω → Kd} {n : Str}
end
/-! ### texts put together -/
end Py

/-! Own layer, part Ad: an exception that leaves a list comprehension. -/
namespace Py
open PySem PySem.Spec PyProof.Rows L2

section
variable {M : Model} {A : Around} {E : Value → Shared → Prop} {s : Shared} {Z : Obj → Prop} {gr : Heap} {env : Env} {outer : List Env} {L a C : Addr}
end

section
variable {X : Cx} {pins : List (Addr × Obj)} {σ : L2.St} {H : Hp} {s : Shared}
end

section
variable {X : Cx} {U : Wi} {Γ : List Sl} {tg iter elt : Expr} {ifs : List Expr} {scope : Scope} {own : List (Str × Nat)} {pos : Pos} {α β : Type} {ρ : Rp α} {π : Rp β}
end
end Py

/-! Own layer, part Ae: xs.count(x), xs.index(x) of flat things. -/
namespace Py
open PySem PySem.Spec PyProof.Rows L2
/-- a type of flat things -/
structure Flt {α : Type} [DecidableEq α] (ρ : Rp α) (enc : α → V) : Prop where
  rep : ∀ x F v, ρ.rep x F v → v = enc x
  flat : ∀ x, flatV (enc x) = true
  eq : ∀ x y, eqV (enc x) (enc y) = decide (x = y)
section
variable {X : Cx} {U : Wi} {Γ : List Sl} {l a : Expr} {p ap cp : Pos} {n : Str} {α : Type} [DecidableEq α] {ρ : Rp α} {enc : α → V}
theorem Flt.rows (f : Flt ρ enc) {F : Hp} : ∀ {xs : List α} {ws : List V}, RepL ρ F xs ws → ws = xs.map enc
  | _, _, .nil => rfl
  | _, _, .cons r t => by rw [List.map_cons, ← f.rows t, f.rep _ _ _ r]
theorem Flt.all (f : Flt ρ enc) (xs : List α) : (xs.map enc).all flatV = true := by
  rw [List.all_map, List.all_eq_true]
  exact fun x _ => f.flat x
theorem Flt.count (f : Flt ρ enc) (y : α) : ∀ xs : List α, (xs.map enc).countP (fun z => eqV z (enc y)) = xs.countP fun z => decide (z = y)
  | [] => rfl
  | x :: xs => by
    rw [List.map_cons, List.countP_cons, List.countP_cons, f.count y xs, f.eq]
theorem Flt.index (f : Flt ρ enc) {xs : List α} {y : α} {j : Nat} (h : xs.findIdx? (fun z => decide (z = y)) = some j) : ∃ z, (xs.map enc)[j]? = some z ∧ eqV z (enc y) = true ∧ ∀ (m : Nat) (z' : V), m < j → (xs.map enc)[m]? = some z' → eqV z' (enc y) = false := by
  obtain ⟨hl, h1, h2⟩ := List.findIdx?_eq_some_iff_getElem.mp h
  refine ⟨enc xs[j], by rw [List.getElem?_map, List.getElem?_eq_getElem hl]; rfl, by rw [f.eq]; exact h1, fun m z' hm e => ?_⟩
  have := h2 m hm
  rw [List.getElem?_map, List.getElem?_eq_getElem (by omega)] at e
  injection e with e
  rw [← e, f.eq]
  simpa using this
end
end Py

/-! Own layer, part Af: plans, the program's eight classes of objects that never change: data, fields, making, methods by the class, isinstance. -/
namespace Py
open PySem PySem.Spec PyProof.Rows L2
inductive Pl where
  | keep | nothing | everything
  | move (s : Int × Int) (p : Pl)
  | eat (s : List (Int × Int)) (p : Pl)
  | grow (s : List (Int × Int)) (p : Pl)
  | both (a b : Pl)
  | either (a b : Pl)
inductive PK where
  | Keep | Nothing | Everything | Move | Eat | Grow | Both | Either
  deriving DecidableEq
def Pl.kd : Pl → PK
  | .keep => .Keep
  | .nothing => .Nothing
  | .everything => .Everything
  | .move _ _ => .Move
  | .eat _ _ => .Eat
  | .grow _ _ => .Grow
  | .both _ _ => .Both
  | .either _ _ => .Either
abbrev CsL := List (PK × Addr)
def Ob (cs : CsL) (k : PK) (H : Hp) (v : V) (fs : List (Str × V)) : Prop := ∃ C a dx, (k, C) ∈ cs ∧ v = .ref a ∧ H a = some (.ins C dx fs)
theorem Ob.mono {cs : CsL} {k : PK} {H H' : Hp} {v : V} {fs : List (Str × V)} (e : Same H H') : Ob cs k H v fs → Ob cs k H' v fs := fun ⟨C, a, dx, h1, h2, h3⟩ => ⟨C, a, dx, h1, h2, e a _ h3⟩
/-! ### fields -/
section
variable {X : Cx} {U : Wi} {Γ : List Sl} {a e o : Expr} {es : List Expr} {pos p apos : Pos} {α γ τ : Type} {ρ : Rp α} {π : Rp γ} {t : Tr τ} {cs : CsL}
/-! ### making -/
theorem Ext.ins {F H : Hp} (e : Same F H) {x dx : Addr} {o : HO} (nx : H x = none) (ndx : H dx = none) (ne : dx ≠ x) : Ext F H (upd F x o) (upd (upd H dx (.own x)) x o) := by
  have e1 : Ext F H F (upd H dx (.own x)) := Ext.lay e ndx
  exact e1.trans (Ext.new e1.s (by rw [upd_ne (Ne.symm ne)]; exact nx))
end
section
open PySem.W
variable {X : Cx} {C : Addr} {pins : List (Addr × Obj)} {σ : L2.St} {H : Hp} {s : Shared} {Q : VK}
end
section
variable {X : Cx} {U : Wi} {Γ : List Sl} {a e o : Expr} {es : List Expr} {pos p apos : Pos} {α γ τ : Type} {ρ : Rp α} {π : Rp γ} {t : Tr τ} {cs : CsL}
/-! ### methods by the class -/
end
section
variable (P : Program) (w : World) (K : PySem.W.Frag) (mg : Str → Option Value) (base : Heap) (cs : CsL)
end
section
variable {X : Cx} {U : Wi} {Γ : List Sl} {a e o : Expr} {es : List Expr} {pos p apos : Pos} {α γ τ : Type} {ρ : Rp α} {π : Rp γ} {t : Tr τ} {cs : CsL}
/-! ### isinstance -/
theorem RepL.rep {F : Hp} {xs : List α} {vs : List V} (r : RepL ρ F xs vs) : ∀ n : Nat, RepL ρ F (List.replicate n xs).flatten (List.replicate n vs).flatten
  | 0 => .nil
  | n + 1 => by
    rw [List.replicate_succ, List.replicate_succ, List.flatten_cons, List.flatten_cons]
    exact r.append (RepL.rep r n)
end
section
variable {X : Cx} {U : Wi} {Γ Γ0 : List Sl} {body suite rest : List Stmt} {b0 : Stmt} {x : Str} {c : Value} {np pos pos' : Pos} {τ ω : Type} {I : ω → Kd}
end
end Py

/-! Own layer, part Ag: max(xs, default=n). -/
namespace Py
open PySem PySem.Spec PyProof.Rows L2
section
variable {X : Cx} {U : Wi} {Γ : List Sl} {a : Expr} {pos p p2 kpos : Pos} {j : Nat}
end
/-! ### a text or a plan -/
section
variable {X : Cx} {U : Wi} {Γ : List Sl} {e0 e : Expr} {cs : CsL} {p pos : Pos}
end
end Py

/-! Own layer, part Ah: a def that is handed the exception that is handled: x = f(e) in an except clause. -/
namespace Py
open PySem PySem.Spec PyProof.Rows L2
section
variable {P : Program} {w : World} {K : PySem.W.Frag} {mg : Str → Option Value} {base : Heap}
end
section
variable {X : Cx} {U : Wi} {Γ : List Sl} {a : Addr} {oe : Obj} {cls : Value} {d : Option Addr} {r : Er} {n x T y : Str} {pos p p2 p3 : Pos}
end
end Py

/-! Own layer, part Ai: a new list lent to a def, texts in a row of texts, join. -/
namespace Py
open PySem PySem.Spec PyProof.Rows L2
theorem ExtM.ext {p : Addr} {F H F' H' : Hp} {o : HO} (x : ExtM p F H F' H') (hf : F' p = none) (ho : H' p = some o) : Ext F (upd H p o) F' H' := by
  refine ⟨x.f, fun q u h => ?_, x.s, fun q h hq => ?_⟩
  · by_cases z : q = p
    · subst z
      rw [upd_same] at h
      rw [ho, ← h]
    · rw [upd_ne z] at h
      exact x.h q u z h
  · by_cases z : q = p
    · subst z
      exact .inl hf
    · rw [upd_ne z] at h
      exact x.n q z h hq
section
variable {X : Cx} {U : Wi} {Γ : List Sl} {e0 : Expr} {es : List Expr} {pos p p2 ap : Pos} {α τ γ : Type} {ρl : Rp α} {ρ : Rp γ} {t : Tr τ} {k : Nat} {f : Addr} {fd : FuncData} {ps : List Str} {nf : Str}
end
end Py

/-! Own layer, part Aj: shifts, bits; len of a set of cells. -/
namespace Py
open PySem PySem.Spec PyProof.Rows L2
instance (i j : Int) : Decidable (CShl i j) := inferInstanceAs (Decidable (_ ∧ _))
section
variable {X : Cx} {U : Wi} {Γ : List Sl} {a b e : Expr} {pos p2 : Pos} {m1 m2 : R Int}
end
/-! ### a tuple of cells, sorted -/
open SrtO
section
variable {X : Cx} {U : Wi} {Γ : List Sl} {e : Expr} {pos p2 : Pos}
end
end Py

/-! Own layer, part Ak: enumerate of a tuple. -/
namespace EnT
open PySem PySem.Spec PyProof.Rows L2
section
variable {prog : Program} {w : World} {A : Around} {E : Value → Shared → Prop} {s : Shared}
end
/-- the tuple at a as it stands at each turn, each thing in a new pair -/
def Itu (K : PySem.W.Frag) (a : Addr) : It :=
  ⟨fun i H => ∃ (xs : List V) (x : V), SqT K H a xs ∧ xs[i]? = some x, fun i H v H' => ∃ q x, v = .ref q ∧ H q = none ∧ H' = upd H q (.tup [.int (i : Nat), x]) ∧ ∀ xs, SqT K H a xs → xs[i]? = some x, fun i H => ∃ xs : List V, SqT K H a xs ∧ xs.length ≤ i⟩
theorem apart {h : Heap} {t it : Addr} {xs : Array Value} {i : Nat} (hT : h.IsTuple t xs) (hI : h.IsTupleIter it t i) : t ≠ it := fun z => by
  subst z
  obtain ⟨o, h1, h2, _⟩ := hT
  obtain ⟨o2, g1, g2, _⟩ := hI
  rw [h1] at g1
  cases g1
  rw [h2] at g2
  exact absurd (Value.type.inj g2) (by decide)
theorem apart2 {h : Heap} {t e it : Addr} {xs : Array Value} {i : Int} {old : Value} (hT : h.IsTuple t xs) (hE : IsEnum h e it i old) : e ≠ t := fun z => by
  subst z
  obtain ⟨o, h1, h2, _⟩ := hT
  have g1 : h.get? e = some _ := hE
  rw [h1] at g1
  cases g1
  exact absurd (Value.type.inj h2) (by decide)
theorem turn {P : Program} {w : World} {K : PySem.W.Frag} {elts : List Expr} {kk : Nat} {tpos : Pos} (a e it : Addr) :
    Turn P w K (.Tuple elts kk tpos) (Itu K a) [e, it] e (fun i h => (∃ old, IsEnum h e it ((i : Nat) : Int) old) ∧ h.IsTupleIter it a i ∧ e ≠ it) where
  mem := List.mem_cons_self
  obj := fun i h ⟨⟨old, he⟩, ⟨o, ho, hc, hd⟩, _⟩ b hb => by
    rcases List.mem_cons.mp hb with z | z
    · rw [z]
      exact ⟨_, he, fun v q => nomatch q⟩
    · rw [List.mem_singleton.mp z]
      exact ⟨o, ho, fun v q => by rw [hd] at q; cases q⟩
  keep := fun i h h' ⟨⟨old, he⟩, hi, hne⟩ k => ⟨⟨old, k e List.mem_cons_self _ he⟩, hi.at fun o q => k it (List.mem_cons_of_mem _ List.mem_cons_self) o q, hne⟩
  item := by
    intro X hP hw hK hc i pins s σ H E I hf ⟨⟨old, he⟩, hit, hne⟩ ⟨xs, x, hq, hx⟩
    subst hP hw hK
    obtain ⟨its, rv, p, hz⟩ := I.tuple hq
    obtain ⟨u, hu, ru⟩ := rv.get hx
    have hT : s.heap.IsTuple a its.toArray := p
    have le : e < s.heap.objs.size := Heap.lt_size he
    have li : it < s.heap.objs.size := by
      obtain ⟨_, q, _⟩ := hit
      exact Heap.lt_size q
    have lt : i < its.toArray.size := by
      have := (List.getElem?_eq_some_iff.mp hu).1
      simpa using this
    refine wpAny_pyNext_enum_itemD (Draws.tuple (A := X.A.in1) (show X.A.in1.handled = none from I.ok.hd hc) it a (apart hT hit) its.toArray) he (show s.heap.IsTupleIter it a i ∧ s.heap.IsTuple a its.toArray from ⟨hit, hT⟩) lt hne (fun z => ?_) fun u' h' tk hu' ho hst hTp hsz hk => ?_
    · rcases List.mem_cons.mp z with z | z
      · exact hne z
      · exact apart2 hT he (List.mem_singleton.mp z)
    have eu : u' = u := by
      have z : its.toArray[i]? = some u := by simpa using hu
      rw [hu'] at z
      exact Option.some.inj z
    subst eu
    refine ⟨_, rfl, wpAny_letOwnedTupleGo_enum (s := { s with heap := h', toks := tk + 1 }) ho fun h2 he2 sb => ?_⟩
    have q1 : h2.get? s.heap.objs.size = some { cls := .type "tuple", data := .seq #[.int i tk, u'] } := (sb.2 _ (Nat.ne_of_gt le)).trans hTp
    have ok : ObjOk X.prog X.w (upd H s.heap.objs.size (.tup [.int (i : Nat), x])) h2 s.heap.objs.size (.tup [.int (i : Nat), x]) := ⟨by show 2 ≤ sizeLine; decide, [.int i tk, u'], .cons ⟨_, rfl⟩ (.cons ru .nil), ⟨_, q1, rfl, _, rfl⟩⟩
    have I1 : Inv X pins σ (upd H s.heap.objs.size (.tup [.int (i : Nat), x])) { s with heap := h2, toks := tk + 1 } := I.turnedNew (ch := [e, it]) (fun b ob hb q => (sb.2 b (fun z => hb (by simp [z]))).trans (hk b ob (fun z => hb (by simp [z])) (fun z => hb (by simp [z])) q)) hf (Nat.le_refl _) ok
    refine ⟨.ref s.heap.objs.size, _, I1, rfl, ⟨_, x, rfl, I.hok.fresh (Nat.le_refl _), rfl, fun ys hy => by rw [I.tuple_inj hy hq]; exact hx⟩, ⟨⟨u', ?_⟩, hst.1.at fun o q => (sb.2 it (Ne.symm hne)).trans q, hne⟩, fun b hb => ?_⟩
    · have e1 : ((i + 1 : Nat) : Int) = (i : Int) + 1 := by omega
      rw [e1]
      exact he2
    · have lb : b < s.heap.objs.size := by
        rcases List.mem_cons.mp hb with z | z
        · rw [z]
          exact le
        · rw [List.mem_singleton.mp z]
          exact li
      rw [upd_ne (Nat.ne_of_lt lb)]
      exact (hf b hb).1
  done := by
    intro X hP hw hK hc i pins s σ H E I hf ⟨⟨old, he⟩, hit, hne⟩ ⟨xs, hq, hx⟩
    subst hP hw hK
    obtain ⟨its, rv, p, hz⟩ := I.tuple hq
    have hT : s.heap.IsTuple a its.toArray := p
    obtain ⟨f0, f1, f2, f3, f4, f5⟩ := hf it (List.mem_cons_of_mem _ List.mem_cons_self)
    have hl := rv.length
    unfold pyNext
    refine wpAny_bind (wpAny_attempt (wpAny_callSpecial?_slot (name := Str.ofString "__next__") ⟨_, he, rfl⟩ F.slot_enumerate_next (wpAny_call_entry F.slot_enumerate_next ⟨_, he, rfl⟩ F.entry_enumerate_next ?_ (F.args_enumerate_next_1 _))))
    show wpAny _ _ (field (.ref e) 2 >>= _) _ _ _
    refine wpAny_bind (wpAny_field he rfl (x := .ref it) rfl ?_)
    refine wpAny_bind (wpAny_nextOf_tuple_end (I.ok.hd hc) hit hT (by simp; omega) fun h' y eb ⟨o, ho, hcl⟩ => ?_)
    refine wpAny_bind (wpAny_isInstance (T := "StopIteration") (b := true) ⟨o, ho, hcl⟩ isSubtype_stop ?_)
    exact wpAny_pure ⟨rfl, I.turned (t' := s.toks) (fun b o hb q => eb b o hb q) f0 f1 f3 f4 f5⟩
  self := fun A i s Q E ⟨⟨_, he⟩, _⟩ h => wpAny_pyIter_enum he h
end EnT
namespace Py
open PySem PySem.Spec PyProof.Rows L2
section
variable {X : Cx} {U : Wi} {Γ : List Sl} {e : Expr} {pos p : Pos} {α : Type} {ρ : Rp α}
end
end Py

/-! Own layer, part Am: a list lent to a callee in the last place. -/
namespace Py
open PySem PySem.Spec PyProof.Rows L2
/-- the promise of a def whose last parameter is a lent list -/
def SpML {α τ γ : Type} (ρl : Rp α) (t : Tr τ) (ρ : Rp γ) (f : List α → τ → R (γ × List α)) : Sp := fun vs H Q _ => ∃ (F : Hp) (p : Addr) (l : List α) (ws : List V) (x : τ) (us : List V), Same F H ∧ F p = none ∧ H p = some (.lst ws) ∧ RepL ρl F l ws ∧ vs = us ++ [.ref p] ∧ t.rep x F us ∧
  wpR (f l x) (fun z => ∀ v F' H' ws', ExtM p F H F' H' → F' p = none → H' p = some (.lst ws') → RepL ρl F' z.2 ws' → ρ.rep z.1 F' v → Q v H') fun _ => False
section
variable {P : Program} {w : World} {K : PySem.W.Frag} {mg : Str → Option Value} {base : Heap}
theorem f_okML {x qual : Str} {st : Stmt} {f : Addr} {fd : FuncData} {N ps : List Str} {k n : Nat} {α τ γ : Type} {ρl : Rp α} {t : Tr τ} {ρ : Rp γ} {fm : List α → τ → R (γ × List α)} {sl : τ → List Sl} (Γ0 : Addr → List α → τ → List Sl) (Fn : FunZ K x qual st f fd) (S : FnScope N ps (defScope st)) (ar : Ar t n sl) (hn : n + 1 = ps.length) (hN : n + 1 ≤ N.length)
    (hΓ : ∀ p l a, Γ0 p l a = sl a ++ (.own (some p) (oLi (tl ρl) l) :: List.replicate (N.length - (n + 1)) .any))
    (body : ∀ cdv A outer s H E (hr : Room k (A.deeper (envOfC qual (defScope st) s.heap.objs.size f cdv))) (tk : Takes (CxF P w K mg base N qual st f cdv A outer s H E) (UF E).W) (hp : PassesOwn (model P w) (A.deeper (envOfC qual (defScope st) s.heap.objs.size f cdv)) (envOfC qual (defScope st) s.heap.objs.size f cdv) (CxF P w K mg base N qual st f cdv A outer s H E).xe) (p : Addr) (l : List α) (a : τ),
      SX (CxF P w K mg base N qual st f cdv A outer s H E) (UF E) (Γ0 p l a) (defBody st) (fun z : γ × List α => .fn ⟨fun H v => ρ.rep z.1 H v, fun e h => ρ.mono e h⟩ (List.replicate n .any ++ [.own (some p) (oLi (tl ρl) z.2)])) (fm l a)) :
    FnOk P w K mg base (L2.CX P w) (k + 1) f fd ps (SpML ρl t ρ fm) := by
  refine Fn.okX S (fun vs H Q E ⟨F, p, l, ws, a, us, _, _, _, _, ev, r, _⟩ => ?_) (fun cdv A outer s H vs Q E hr ⟨F, p, l, ws, a, us, sF, fp, hp, rl, ev, r, hw⟩ => ?_)
  · rw [ev, List.length_append, List.length_singleton, (ar.out a F us r).1]
    exact hn
  · obtain ⟨h1, h2, h3⟩ := ar.out a F us r
    subst ev
    refine ⟨_, wSs_pss, ?_⟩
    have hst : ∀ (i : Nat) v, (us ++ [V.ref p])[i]? = some v → (L2.start N (us ++ [.ref p]))[i]? = some (some v) := fun i v e => by
      unfold L2.start
      have hl : i < (us ++ [V.ref p]).length := (List.getElem?_eq_some_iff.mp e).1
      rw [List.getElem?_append_left (by rw [List.length_map]; exact hl), List.getElem?_map, e] <;> rfl
    have hst1 : ∀ (i : Nat) v, us[i]? = some v → (L2.start N (us ++ [.ref p]))[i]? = some (some v) := fun i v e => hst i v (by
      rw [List.getElem?_append_left (List.getElem?_eq_some_iff.mp e).1]
      exact e)
    have z0 : (Γ0 p l a)[n]? = some (.own (some p) (oLi (tl ρl) l)) := by
      rw [hΓ, List.getElem?_append_right (by omega), h2, Nat.sub_self]
      rfl
    have im0 : ∀ (i : Nat) x, i ≠ n → (Γ0 p l a)[i]? = some x → x = .any ∨ ∃ P v, x = .imm P ∧ us[i]? = some v ∧ P.p F v := fun i x hi hx => by
      rw [hΓ] at hx
      by_cases hl : i < (sl a).length
      · rw [List.getElem?_append_left hl] at hx
        exact .inr (h3 i x hx)
      · rw [List.getElem?_append_right (by omega)] at hx
        obtain ⟨j, hj⟩ : ∃ j, i - (sl a).length = j + 1 := ⟨i - (sl a).length - 1, by omega⟩
        rw [hj, List.getElem?_cons_succ, List.getElem?_replicate] at hx
        split at hx
        · exact .inl (Option.some.inj hx).symm
        · cases hx
    have sa : SA ⟨F, H, fun q => q = p⟩ (Γ0 p l a) F (L2.start N (us ++ [.ref p])) H := by
      refine ⟨?_, sF, Same.refl F, fun _ _ h _ => h, fun _ h => h, fun _ _ h _ => .inl h, fun i Q hi => ?_, fun i b Q hi => ?_, fun i j b c Q Q' q hij hi hj => ?_⟩
      · rw [hΓ, List.length_append, List.length_cons, List.length_replicate, h2]
        unfold L2.start
        rw [List.length_append, List.length_map, List.length_replicate, List.length_append, List.length_singleton, h1]
        omega
      · by_cases e : i = n
        · subst e
          rw [z0] at hi
          cases hi
        · rcases im0 i _ e hi with z | ⟨Q', v, z, hv, hq⟩
          · cases z
          · injection z with z
            subst z
            exact ⟨v, hst1 i v hv, hq⟩
      · by_cases e : i = n
        · subst e
          rw [z0] at hi
          injection hi with hi
          injection hi with e1 e2
          subst e1 e2
          exact ⟨p, _, hst _ _ (by rw [List.getElem?_append_right (by omega), h1, Nat.sub_self]; rfl), fp, hp, ⟨ws, rfl, rl⟩, .inr rfl, fun q z => Option.some.inj z⟩
        · rcases im0 i _ e hi with z | ⟨Q', v, z, hv, hq⟩ <;> cases z
      · by_cases e : i = n
        · by_cases e2 : j = n
          · exact absurd (e.trans e2.symm) hij
          · rcases im0 j _ e2 hj with z | ⟨Q', v, z, hv, hq⟩ <;> cases z
        · rcases im0 i _ e hi with z | ⟨Q', v, z, hv, hq⟩ <;> cases z
    refine (body cdv A outer s H E hr (takes_of rfl rfl rfl rfl) (passes_of rfl) p l a).out ⟨F, H, fun q => q = p⟩ F _ H _ sa (wpR_mono hw (fun z k => ?_) fun r z => z.elim)
    have fin : ∀ {F' : Hp} {σ' : L2.St} {H' : Hp} {v : V}, Same F F' → SA ⟨F, H, fun q => q = p⟩ (List.replicate n .any ++ [.own (some p) (oLi (tl ρl) z.2)]) F' σ' H' → ρ.rep z.1 F' v → Q v H' := fun {F' σ' H' v} e s' rv => by
      obtain ⟨q, o, g1, g2, g3, ⟨ws', g4, g5⟩, _, g7⟩ := s'.own n (some p) (oLi (tl ρl) z.2) (by
        rw [List.getElem?_append_right (by rw [List.length_replicate]; exact Nat.le_refl _), List.length_replicate, Nat.sub_self]
        rfl)
      obtain rfl : q = p := g7 p rfl
      subst g4
      exact k v F' H' ws' ⟨e, fun b o hb h => s'.old b o h hb, s'.sub, fun b hb h hf => s'.frz b h hf hb⟩ g2 g3 g5 rv
    exact ⟨fun v F' σ' H' e s' rv => fin e s' rv, fun F' σ' H' e s' rv => fin e s' rv⟩
end
section
variable {X : Cx} {U : Wi} {S : Type} {α β γ τ : Type} {ρ1 : Rp α} {ρ : Rp γ} {t : Tr τ} {a b e : Expr} {es : List Expr} {pos p p2 : Pos} {Γs : S → List Sl} {s : S} {n nf : Str} {k : Nat} {f : Addr} {fd : FuncData} {ps : List Str}
/-- arguments, the last one the name of the own list in slot i -/
structure AL (X : Cx) (U : Wi) {S : Type} (Γs : S → List Sl) (i : Nat) (s : S) (es : List Expr) {τ : Type} (t : Tr τ) (m : R (τ × S)) : Prop where
  out : ∀ en F σ H (Q : List V → Hp → Prop) (q : Addr), σ[i]? = some (some (.ref q)) → SA en (Γs s) F σ H → wpR m (fun w => ∀ us F' H', Same F F' → SA en (Γs w.2) F' σ H' → t.rep w.1 F' us → Q (us ++ [.ref q]) H') (U.ok X.mg en F) → wA X es σ H Q
theorem al_one {m : R (α × S)} (i : Nat) (ha : ES X U Γs s a ρ1 m) (hN : X.N[i]? = some n := by rfl) (hv : Vis X.env.scope n := by first | exact Or.inl rfl | exact Or.inr (Or.inl rfl) | exact Or.inr (Or.inr rfl)) (hd : (n == ("__debug__" : Str)) = false := by decide) (hcd : (n == ("__classdict__" : Str)) = false := by decide)
    (hs : starEach [a, .Name n p2] X.env = (false, eval a X.env) :: starEach [.Name n p2] X.env := by rfl) (hs2 : starEach [.Name n p2] X.env = (false, eval (.Name n p2) X.env) :: starEach [] X.env := by rfl) : AL X U Γs i s [a, .Name n p2] (t1 ρ1) m :=
  ⟨fun en F σ H Q q hq sa h => wA_of (pa_cons wE_pe (pa_cons (pe_var hN hv hd hcd) pa_nil hs2) hs) (ha.out en F σ H _ sa (wpR_mono h (fun w k v F1 H1 e1 s1 r1 => ⟨.ref q, hq, k [v] F1 H1 e1 s1 ⟨v, rfl, r1⟩⟩) fun _ z => z))⟩
theorem al_cons {m1 : R (α × S)} {m2 : S → R (τ × S)} {i : Nat} (ha : ES X U Γs s a ρ1 m1) (hb : ∀ s', AL X U Γs i s' es t (m2 s')) (hs : starEach (a :: es) X.env = (false, eval a X.env) :: starEach es X.env := by rfl) :
    AL X U Γs i s (a :: es) (tc ρ1 t) (m1.bind fun w1 => (m2 w1.2).bind fun w2 => .ok ((w1.1, w2.1), w2.2)) :=
  ⟨fun en F σ H Q q hq sa h => wA_of (pa_cons wE_pe wA_pa hs) (ha.out en F σ H _ sa (wpR_mono (wpR_bind h) (fun w1 k v F1 H1 e1 s1 r1 => (hb w1.2).out en F1 σ H1 _ q hq s1 (wpR_mono (wpR_bind k) (fun w2 k us F2 H2 e2 s2 r2 => k (v :: us) F2 H2 (e1.trans e2) s2 ⟨v, us, rfl, ρ1.mono e2 r1, r2⟩) fun _ z => z.up e1)) fun _ z => z))⟩
theorem fs_catL {m1 : R (List α × S)} {m2 : S → R (List α × S)} (ha : ES X U Γs s a (rL ρ1) m1) (hb : ∀ s', ES X U Γs s' b (rL ρ1) (m2 s')) :
    FG X U (Γs s) (.BinOp a .Add b pos) (fun w : List α × S => oLi (tl ρ1) w.1) (m1.bind fun w1 => (m2 w1.2).bind fun w2 => (chk (w1.1.length + w2.1.length ≤ sizeLine) (w1.1 ++ w2.1)).bind fun z => .ok (z, w2.2)) (fun w => Γs w.2) :=
  ⟨fun en F σ H Q s h => wE_of (pe_op op_cat wE_pe wE_pe) (ha.out en F σ H _ s (wpR_mono (wpR_bind h) (fun w1 k v F1 H1 e1 s1 ⟨p, vs, ev, hp, r⟩ =>
    (hb w1.2).out en F1 σ H1 _ s1 (wpR_mono (wpR_bind k) (fun w2 k2 u F2 H2 e2 s2 ⟨q, ws, eu, hq, r2⟩ => by
      obtain ⟨hl, k2⟩ := wpR_chk (wpR_bind k2)
      refine ⟨p, q, vs, ws, ev, eu, s2.sub p _ (e2 p _ hp), s2.sub q _ hq, by rw [← r.length, ← r2.length]; exact hl, fun l hl => ?_⟩
      exact k2 l _ F2 _ (e1.trans e2) (s2.lay hl).1 (s2.lay hl).2 ⟨_, rfl, (r.mono e2).append r2⟩) fun _ z => z.up e1)) fun _ z => z))⟩
/-- a call that changes the list in slot i, its last argument -/
theorem es_callML {σl : Type} {ρl : Rp σl} {fm : List σl → τ → R (γ × List σl)} {m : R (τ × S)} {a0 : Option Addr} (i : Nat) (get : S → List σl) (put : S → List σl → S) (G : FnOk X.prog X.w X.K X.mg X.base (L2.CX X.prog X.w) k f fd ps (SpML ρl t ρ fm)) (hr : Room k X.A) (hm : X.mg nf = some (.ref f)) (hk : PySem.W.keepIn X.K (.ref f) = true) (hb : Binds X.K fd ps []) (tk : Takes X U.W)
    (ha : AL X U Γs i s (a :: es) t m) (hΓ : ∀ s, (Γs s)[i]? = some (.own a0 (oLi (tl ρl) (get s)))) (hp : ∀ s l, (Γs s).set i (.own a0 (oLi (tl ρl) l)) = Γs (put s l))
    (hg : Gl X nf := by rfl) (hdb : (nf == ("__debug__" : Str)) = false := by decide) (he : starEach (a :: es) X.env = (false, eval a X.env) :: starEach es X.env := by rfl) (hpl : (backTo pos (starEach es X.env)).any (·.1) = false := by rfl) :
    ES X U Γs s (.Call (.Name nf p) (a :: es) [] pos) ρ (m.bind fun w => (fm (get w.2) w.1).calm.bind fun z => .ok (z.1, put w.2 z.2)) :=
  ⟨fun en F σ H Q sa h => wE_of (pe_callSD G hr hg hm hk hb .nil (fun σ => passAt tk σ) wA_pa hdb he hpl) (by
    obtain ⟨q, o, g1, g2, g3, ⟨ws, eo, rl⟩, g5, g6⟩ := sa.own i _ _ (hΓ s)
    refine ha.out en F σ H _ q g1 sa (wpR_mono (wpR_bind h) (fun w kk us F1 H1 e1 s1 r1 => ?_) fun _ z => z)
    obtain ⟨q1, o1, f1, f2, f3, ⟨ws1, eo1, rl1⟩, f5, f6⟩ := s1.own i _ _ (hΓ w.2)
    rw [g1] at f1
    injection f1 with f1
    injection f1 with f1
    injection f1 with f1
    subst f1
    subst eo1
    refine ⟨F1, q, get w.2, ws1, w.1, us, s1.sub, f2, f3, rl1, by rw [List.append_nil], r1, wpR_mono (wpR_calm (wpR_bind kk)) (fun z k v F' H' ws' ex hf ho rr rv => ?_) fun _ z => z⟩
    have s2 := s1.lent (hΓ w.2) g1 ex hf ho rr
    rw [hp] at s2
    exact k v F' H' (e1.trans ex.f) s2 rv)⟩
end
end Py

/-! Own layer, part Al: a law's end over the head by facts (one kernel run of the top; nothing of the top is written out). -/
namespace Py
open PySem PySem.Spec PyProof.Rows L2
/-! ### the part of the heap: the module's names; their codes, defaults, namespaces; methods; their codes -/
def nxtP (g : Addr → Option Obj) (f : Obj → List Addr) (as : List Addr) : List Addr := as.flatMap fun a => match g a with
  | some o => f o
  | none => []
def refsF (o : Obj) : List Addr := match o.data with
  | .func fd => He.refV fd.code ++ He.refV fd.defaults
  | .cls cd => [cd.ns]
  | _ => []
def refsN (o : Obj) : List Addr := match o.data with
  | .dict es _ => es.toList.flatMap fun e => He.refV e.val
  | _ => []
def asP3 (g : Addr → Option Obj) (a1 a2 a3 : List Addr) : List Addr := mainGlobals :: (a1 ++ (a2 ++ (a3 ++ nxtP g refsF a3)))
def asP2 (g : Addr → Option Obj) (a1 a2 : List Addr) : List Addr := asP3 g a1 a2 (nxtP g refsN a2)
def asP1 (g : Addr → Option Obj) (a1 : List Addr) : List Addr := asP2 g a1 (nxtP g refsF a1)
def asP (g : Addr → Option Obj) : List Addr := asP1 g (nxtP g refsN [mainGlobals])
/-- the head's look: the defs, the names, own facts -/
def obsPG (fa : List He.Fa) (fn : List He.DefD) (ex : PySem.W.Frag → Bool) (g : Addr → Option Obj) : He.AlD × Bool := (He.obsD fa fn (He.frG g (asP g)), ex (He.frG g (asP g)))
def hookP (fa : List He.Fa) (fn : List He.DefD) (ex : PySem.W.Frag → Bool) : PySem.W.Hook where
  α := He.AlD × Bool
  obs := fun s => obsPG fa fn ex s.heap.get?
  val := fun _ => (He.valD fn, true)
  says := fun _ h => ∃ K : PySem.W.Frag, K.In h ∧ He.SaysD fa fn K ∧ ex K = true
  of := fun _ _ e => ⟨_, He.frG_in, congrArg (fun z : He.AlD × Bool => z.1) e, congrArg (fun z : He.AlD × Bool => z.2) e⟩
  keeps := fun _ _ _ ⟨K, hK, c⟩ k => ⟨K, PySem.W.Frag.In.keeps hK k, c⟩
theorem obsPG_eq {fa : List He.Fa} {fn : List He.DefD} {ex : PySem.W.Frag → Bool} {g : Addr → Option Obj} {s : Shared} (h : ∀ a, g a = s.heap.get? a) : obsPG fa fn ex g = (hookP fa fn ex).obs s := by
  have e : g = s.heap.get? := funext h
  rw [e] <;> rfl
theorem ba_d {p : Prop} [Decidable p] {b : Bool} (h : (decide p && b) = true) : p ∧ b = true := ⟨of_decide_eq_true (He.ba h).1, (He.ba h).2⟩
theorem walk_ofP {l : PySem.W.OpenLaw} {n k : Nat} {q : Program} {loose : List Str} {XP : (Str → Option Value) → Heap → Prop} {YP : World → Heap → Prop} {d : DefRec} {CX : World → CXT} {x : Str}
    (hn : l.most = some n) (hn2 : n ≤ sizeLine) (hdf : d.params.defaults = []) (hr : Room k callerA)
    (F : ∀ (w : World) (mg : Str → Option Value) (fa : Addr) (h : Heap), YP w h → h.Ns mainGlobals mg → mg d.name = some (.ref fa) →
      ∃ (K : PySem.W.Frag) (fd : FuncData) (sp : Sp), K.In h ∧ (∀ (s : Shared) (u : Value), BindsTo s fd ⟨[u], []⟩ [(x, u)]) ∧
        (∀ (H : Hp) (a : Addr) (ns : List Int), ns.length ≤ n → (∀ z ∈ ns, Builtin.Int.intBits z ≤ 1048576) → Only H → SqL K H a (ns.map V.int) → sp [.ref a] H (fun v _ => v = .bl true) fun _ _ _ => False) ∧
        ∀ base : Heap, K.In base → base.Ns mainGlobals mg → FnOk l.prog w K mg base (CX w) k fa fd [x] sp)
    (hCX : ∀ (w : World) (H : Hp) (s : Shared) (e : Value) (s' : Shared), CX w [] H s (fun _ _ _ => False) e s' → False) :
    PySem.W.WalkO q loose XP YP l.row.toRowW d [] (fun f vs => PySem.call f vs) := by
  refine Att.attach_callB hn hdf fun w s₀ s₁ mg mb fa o pm cd doc a vs ns G Y ho hd hcd hmg hobj hints hlen hbits hg => ?_
  obtain ⟨K, fd, sp, KX, hb, hsp, hF⟩ := F w mg fa _ Y G.T.g hmg
  exact law_call KX G.T.g G.T.b G.T.builtins G.T.nolimit hg hobj hints (Nat.le_trans hlen hn2) hr hF hb (fun H hO hS => hsp H a ns hlen hbits hO hS) fun H e s' => hCX w H s₁ e s'
section
variable {K : PySem.W.Frag} {x qual : Str} {st : Stmt} {dvs : List V} {kws : List (Str × V)} {f : Addr} {fd : FuncData} {ps : List Str}
theorem fz_d (F : FunD K x qual (defArgs st) (defBody st) (defScope st) dvs kws f fd) : FunZ K x qual st f fd :=
  let ⟨oc, od, dV, kV, doc, pm, an, cdv, ct, osl, e, l, c, _, _⟩ := F.ex
  ⟨⟨oc, od, dV, kV, doc, pm, an, cdv, ct, osl, e, l, c⟩, F.kp⟩
end
end Py

namespace G
open PySem PySem.Spec PyProof.Rows L2 Py
def topS (i : Nat) : Stmt := PySem.Challenge.pw_edgewide_k28_trees_judged.main.body.getD i (.Pass ⟨0, 0, 0, 0⟩)
abbrev s_law_cell : Stmt := topS 41
theorem sc_law_cell : FnScope ["script", "k"] ["script", "k"] (defScope s_law_cell) := ⟨rfl, rfl, rfl, by decide +kernel, rfl, by decide +kernel, by decide +kernel⟩
abbrev s_law_deal : Stmt := topS 42
theorem sc_law_deal : FnScope ["cell", "salt", "one", "number", "j"] ["cell", "salt"] (defScope s_law_deal) := ⟨rfl, rfl, rfl, by decide +kernel, rfl, by decide +kernel, by decide +kernel⟩
abbrev s_law_piece : Stmt := topS 43
theorem sc_law_piece : FnScope ["number", "steps", "k", "way", "many", "step", "at", "row", "column"] ["number"] (defScope s_law_piece) := ⟨rfl, rfl, rfl, by decide +kernel, rfl, by decide +kernel, by decide +kernel⟩
abbrev s_law_base : Stmt := topS 45
theorem sc_law_base : FnScope ["number", "by", "way", "row", "column"] ["number"] (defScope s_law_base) := ⟨rfl, rfl, rfl, by decide +kernel, rfl, by decide +kernel, by decide +kernel⟩
abbrev s_law_kept : Stmt := topS 44
theorem sc_law_kept : FnScope ["row", "column"] ["row", "column"] (defScope s_law_kept) := ⟨rfl, rfl, rfl, by decide +kernel, rfl, by decide +kernel, by decide +kernel⟩
abbrev s_law_marked : Stmt := topS 46
theorem sc_law_marked : FnScope ["number", "piece", "most", "cells", "k", "base", "many", "step", "way", "at"] ["number", "piece", "most"] (defScope s_law_marked) := ⟨rfl, rfl, rfl, by decide +kernel, rfl, by decide +kernel, by decide +kernel⟩
abbrev s_law_less : Stmt := topS 48
theorem sc_law_less : FnScope ["cell", "step"] ["cell", "step"] (defScope s_law_less) := ⟨rfl, rfl, rfl, by decide +kernel, rfl, by decide +kernel, by decide +kernel⟩
abbrev s_law_led : Stmt := topS 47
theorem sc_law_led : FnScope ["cell", "step"] ["cell", "step"] (defScope s_law_led) := ⟨rfl, rfl, rfl, by decide +kernel, rfl, by decide +kernel, by decide +kernel⟩
abbrev s_law_greatest : Stmt := topS 49
abbrev N_law_greatest : List Str := ["cells", "piece", "held", "cell", "found", "place", "step"]
theorem sc_law_greatest : FnScope ["cells", "piece", "held", "cell", "found", "place", "step"] ["cells", "piece"] (defScope s_law_greatest) := ⟨rfl, rfl, rfl, by decide +kernel, rfl, by decide +kernel, by decide +kernel⟩
abbrev s_law_brought : Stmt := topS 50
theorem sc_law_brought : FnScope ["found", "piece", "cells", "mark", "step"] ["found", "piece"] (defScope s_law_brought) := ⟨rfl, rfl, rfl, by decide +kernel, rfl, by decide +kernel, by decide +kernel⟩
abbrev slook_finite : Stmt := topS 29
theorem sclook_finite : FnScope ["shape"] ["shape"] (defScope slook_finite) := ⟨rfl, rfl, rfl, by decide +kernel, rfl, by decide +kernel, by decide +kernel⟩
abbrev srising : Stmt := topS 13
theorem scrising : FnScope ["cells"] ["cells"] (defScope srising) := ⟨rfl, rfl, rfl, by decide +kernel, rfl, by decide +kernel, by decide +kernel⟩
abbrev smirrored : Stmt := topS 18
abbrev Nmirrored : List Str := ["piece", "row", "column"]
theorem scmirrored : FnScope ["piece", "row", "column"] ["piece"] (defScope smirrored) := ⟨rfl, rfl, rfl, by decide +kernel, rfl, by decide +kernel, by decide +kernel⟩
abbrev smoved_cell : Stmt := topS 15
theorem scmoved_cell : FnScope ["cell", "step"] ["cell", "step"] (defScope smoved_cell) := ⟨rfl, rfl, rfl, by decide +kernel, rfl, by decide +kernel, by decide +kernel⟩
abbrev slies_on : Stmt := topS 19
abbrev Nlies_on : List Str := ["piece", "cell", "step"]
theorem sclies_on : FnScope ["piece", "cell", "step"] ["piece", "cell"] (defScope slies_on) := ⟨rfl, rfl, rfl, by decide +kernel, rfl, by decide +kernel, by decide +kernel⟩
abbrev sreached : Stmt := topS 22
theorem screached : FnScope ["cells", "piece", "told", "cell"] ["cells", "piece"] (defScope sreached) := ⟨rfl, rfl, rfl, by decide +kernel, rfl, by decide +kernel, by decide +kernel⟩
abbrev sless_cell : Stmt := topS 16
theorem scless_cell : FnScope ["cell", "step"] ["cell", "step"] (defScope sless_cell) := ⟨rfl, rfl, rfl, by decide +kernel, rfl, by decide +kernel, by decide +kernel⟩
abbrev skept_at : Stmt := topS 23
abbrev Nkept_at : List Str := ["cells", "piece", "held", "cell", "told", "place", "there"]
theorem sckept_at : FnScope ["cells", "piece", "held", "cell", "told", "place", "there"] ["cells", "piece"] (defScope skept_at) := ⟨rfl, rfl, rfl, by decide +kernel, rfl, by decide +kernel, by decide +kernel⟩
abbrev seaten : Stmt := topS 24
theorem sceaten : FnScope ["shape", "piece", "cells", "rest"] ["shape", "piece"] (defScope seaten) := ⟨rfl, rfl, rfl, by decide +kernel, rfl, by decide +kernel, by decide +kernel⟩
abbrev sbringing : Stmt := topS 30
theorem scbringing : FnScope ["found", "piece", "ways", "mark", "cell"] ["found", "piece"] (defScope sbringing) := ⟨rfl, rfl, rfl, by decide +kernel, rfl, by decide +kernel, by decide +kernel⟩
abbrev smarks : Stmt := topS 31
theorem scmarks : FnScope ["shape", "piece", "found", "ways", "cell"] ["shape", "piece"] (defScope smarks) := ⟨rfl, rfl, rfl, by decide +kernel, rfl, by decide +kernel, by decide +kernel⟩
abbrev sgreatest : Stmt := topS 32
theorem scgreatest : FnScope ["shape", "piece", "word", "found"] ["shape", "piece"] (defScope sgreatest) := ⟨rfl, rfl, rfl, by decide +kernel, rfl, by decide +kernel, by decide +kernel⟩
abbrev sis_brought : Stmt := topS 33
abbrev Nis_brought : List Str := ["piece", "taken", "cell", "mark"]
theorem scis_brought : FnScope ["piece", "taken", "cell", "mark"] ["piece", "taken", "cell"] (defScope sis_brought) := ⟨rfl, rfl, rfl, by decide +kernel, rfl, by decide +kernel, by decide +kernel⟩
abbrev stried : Stmt := topS 34
abbrev Ntried : List Str := ["cells", "ways", "piece", "taken", "many", "open_cells", "cases", "mark", "cell", "found", "tree"]
theorem sctried : FnScope ["cells", "ways", "piece", "taken", "many", "open_cells", "cases", "mark", "cell", "found", "tree"] ["cells", "ways", "piece", "taken", "many"] (defScope stried) := ⟨rfl, rfl, rfl, by decide +kernel, rfl, by decide +kernel, by decide +kernel⟩
abbrev sfewest_and_tree : Stmt := topS 35
theorem scfewest_and_tree : FnScope ["shape", "piece", "found", "ways", "tree", "many", "best", "more"] ["shape", "piece"] (defScope sfewest_and_tree) := ⟨rfl, rfl, rfl, by decide +kernel, rfl, by decide +kernel, by decide +kernel⟩
abbrev sfewer_paper : Stmt := topS 37
theorem scfewer_paper : FnScope ["shape", "piece"] ["shape", "piece"] (defScope sfewer_paper) := ⟨rfl, rfl, rfl, by decide +kernel, rfl, by decide +kernel, by decide +kernel⟩
abbrev sfewest : Stmt := topS 36
theorem scfewest : FnScope ["shape", "piece"] ["shape", "piece"] (defScope sfewest) := ⟨rfl, rfl, rfl, by decide +kernel, rfl, by decide +kernel, by decide +kernel⟩
abbrev s_law_on : Stmt := topS 51
abbrev N_law_on : List Str := ["piece", "taken", "cell", "mark"]
theorem sc_law_on : FnScope ["piece", "taken", "cell", "mark"] ["piece", "taken", "cell"] (defScope s_law_on) := ⟨rfl, rfl, rfl, by decide +kernel, rfl, by decide +kernel, by decide +kernel⟩
abbrev s_law_ways : Stmt := topS 52
abbrev N_law_ways : List Str := ["found", "piece", "cell", "mark"]
theorem sc_law_ways : FnScope ["found", "piece", "cell", "mark"] ["found", "piece", "cell"] (defScope s_law_ways) := ⟨rfl, rfl, rfl, by decide +kernel, rfl, by decide +kernel, by decide +kernel⟩
abbrev s_law_right : Stmt := topS 53
abbrev N_law_right : List Str := ["cells", "piece", "found", "taken", "many", "tree", "cell", "cases", "mark", "case"]
theorem sc_law_right : FnScope ["cells", "piece", "found", "taken", "many", "tree", "cell", "cases", "mark", "case"] ["cells", "piece", "found", "taken", "many", "tree"] (defScope s_law_right) := ⟨rfl, rfl, rfl, by decide +kernel, rfl, by decide +kernel, by decide +kernel⟩
abbrev shas : Stmt := topS 14
theorem schas : FnScope ["shape", "cell", "cells", "rest"] ["shape", "cell"] (defScope shas) := ⟨rfl, rfl, rfl, by decide +kernel, rfl, by decide +kernel, by decide +kernel⟩
abbrev splaces_on : Stmt := topS 26
abbrev Nplaces_on : List Str := ["piece", "cell", "step"]
theorem scplaces_on : FnScope ["piece", "cell", "step"] ["piece", "cell"] (defScope splaces_on) := ⟨rfl, rfl, rfl, by decide +kernel, rfl, by decide +kernel, by decide +kernel⟩
abbrev swhole_at : Stmt := topS 20
abbrev Nwhole_at : List Str := ["shape", "piece", "cell", "there"]
theorem scwhole_at : FnScope ["shape", "piece", "cell", "there"] ["shape", "piece", "cell"] (defScope swhole_at) := ⟨rfl, rfl, rfl, by decide +kernel, rfl, by decide +kernel, by decide +kernel⟩
abbrev stree_right : Stmt := topS 38
abbrev Ntree_right : List Str := ["shape", "piece", "taken", "many", "tree", "cell", "cases", "place", "mark", "case"]
theorem sctree_right : FnScope ["shape", "piece", "taken", "many", "tree", "cell", "cases", "place", "mark", "case"] ["shape", "piece", "taken", "many", "tree"] (defScope stree_right) := ⟨rfl, rfl, rfl, by decide +kernel, rfl, by decide +kernel, by decide +kernel⟩
abbrev sfewer_right : Stmt := topS 39
theorem scfewer_right : FnScope ["shape", "piece", "many", "tree"] ["shape", "piece", "many", "tree"] (defScope sfewer_right) := ⟨rfl, rfl, rfl, by decide +kernel, rfl, by decide +kernel, by decide +kernel⟩
abbrev s_law_tree : Stmt := topS 54
abbrev N_law_tree : List Str := ["cells", "piece", "found", "taken", "many", "pot", "free", "cases", "at", "mark", "cell"]
theorem sc_law_tree : FnScope ["cells", "piece", "found", "taken", "many", "pot", "free", "cases", "at", "mark", "cell"] ["cells", "piece", "found", "taken", "many", "pot"] (defScope s_law_tree) := ⟨rfl, rfl, rfl, by decide +kernel, rfl, by decide +kernel, by decide +kernel⟩
abbrev s_law_spoilt : Stmt := topS 55
theorem sc_law_spoilt : FnScope ["cells", "tree", "pot", "cell", "cases", "way", "at", "spot", "mark", "case"] ["cells", "tree", "pot"] (defScope s_law_spoilt) := ⟨rfl, rfl, rfl, by decide +kernel, rfl, by decide +kernel, by decide +kernel⟩
abbrev s_law_endless : Stmt := topS 56
theorem sc_law_endless : FnScope ["shape", "piece", "many", "tree", "kind", "e"] ["shape", "piece", "many", "tree"] (defScope s_law_endless) := ⟨rfl, rfl, rfl, by decide +kernel, rfl, by decide +kernel, by decide +kernel⟩
abbrev slaw : Stmt := topS 57
theorem sclaw : FnScope ["script", "cell", "piece", "number", "found", "cells", "told", "many", "pot", "tree", "spoil"] ["script"] (defScope slaw) := ⟨rfl, rfl, rfl, by decide +kernel, rfl, by decide +kernel, by decide +kernel⟩
/-- where the defs and the classes lie -/
structure Adr where
  f_law_cell : Addr
  f_law_deal : Addr
  f_law_piece : Addr
  f_law_base : Addr
  f_law_kept : Addr
  f_law_marked : Addr
  f_law_less : Addr
  f_law_led : Addr
  f_law_greatest : Addr
  f_law_brought : Addr
  flook_finite : Addr
  frising : Addr
  fmirrored : Addr
  fmoved_cell : Addr
  flies_on : Addr
  freached : Addr
  fless_cell : Addr
  fkept_at : Addr
  featen : Addr
  fbringing : Addr
  fmarks : Addr
  fgreatest : Addr
  fis_brought : Addr
  ftried : Addr
  ffewest_and_tree : Addr
  ffewer_paper : Addr
  ffewest : Addr
  f_law_on : Addr
  f_law_ways : Addr
  f_law_right : Addr
  fhas : Addr
  fplaces_on : Addr
  fwhole_at : Addr
  ftree_right : Addr
  ffewer_right : Addr
  f_law_tree : Addr
  f_law_spoilt : Addr
  f_law_endless : Addr
  flaw : Addr
  d_law_cell : FuncData
  d_law_deal : FuncData
  d_law_piece : FuncData
  d_law_base : FuncData
  d_law_kept : FuncData
  d_law_marked : FuncData
  d_law_less : FuncData
  d_law_led : FuncData
  d_law_greatest : FuncData
  d_law_brought : FuncData
  dlook_finite : FuncData
  drising : FuncData
  dmirrored : FuncData
  dmoved_cell : FuncData
  dlies_on : FuncData
  dreached : FuncData
  dless_cell : FuncData
  dkept_at : FuncData
  deaten : FuncData
  dbringing : FuncData
  dmarks : FuncData
  dgreatest : FuncData
  dis_brought : FuncData
  dtried : FuncData
  dfewest_and_tree : FuncData
  dfewer_paper : FuncData
  dfewest : FuncData
  d_law_on : FuncData
  d_law_ways : FuncData
  d_law_right : FuncData
  dhas : FuncData
  dplaces_on : FuncData
  dwhole_at : FuncData
  dtree_right : FuncData
  dfewer_right : FuncData
  d_law_tree : FuncData
  d_law_spoilt : FuncData
  d_law_endless : FuncData
  dlaw : FuncData
  c_BadCell : Addr
  c_BadDeed : Addr
  c_BadPiece : Addr
  c_BadTurn : Addr
  c_Endless : Addr
  c_MossError : Addr
  c_NoCell : Addr
  c_NoMarks : Addr
  c_NoText : Addr
  c_TooMany : Addr
  c_TooWide : Addr
/-! ### the mirrors -/
def m_law_cell (v_script : List Int) (v_k : Int) : R Int :=
  if (decide (v_k < ((v_script).length : Int))) = true then ofOpt (atI v_script v_k) else R.ok (0 : Int)
def m_law_deal (v_cell : Int) (v_salt : Int) : R Int :=
  if (decide ((1000000000000000000 : Int) ≤ v_cell)) = true then R.ok (v_cell - (1000000000000000000 : Int)) else let one_2182 : Int := (v_cell % (2147483629 : Int)); let number_2183 : Int := (0 : Int); (forR (τ := (Int × Int)) (fun s_2184 x_2185 => ((((((chk (CMulW ((15 : Int) * x_2185) x_2185) (((15 : Int) * x_2185) * x_2185)).bind fun x_2186 => R.ok (s_2184.1 + x_2186)).bind fun x_2187 => R.ok (x_2187 + ((31 : Int) * v_salt))).bind fun x_2188 => R.ok (x_2188 + (11 : Int))).bind fun x_2189 => R.ok (x_2189 * (48271 : Int))).bind fun x_2190 => R.ok (x_2190 % (2147483647 : Int))).bind fun one_2191 => ((chk (CMulW one_2191 one_2191) (one_2191 * one_2191)).bind fun x_2192 => R.ok (x_2192 % (2147483629 : Int))).bind fun one_2193 => let number_2194 : Int := ((s_2184.2 * (998244353 : Int)) + (((one_2193 * (69621 : Int)) % (2147483587 : Int)) / (7 : Int))); R.ok (one_2193, number_2194)) (rangeI 0 (24 : Int)) (one_2182, number_2183)).bind fun s_2195 => R.ok s_2195.2
def m_law_piece (v_number : Int) : R ((List (Int × Int)) × Int) :=
  let p_2215 : (Int × Int) := (v_number / (8 : Int), v_number % (8 : Int)); let p_2216 : (Int × Int) := (p_2215.1 / (5 : Int), p_2215.1 % (5 : Int)); ((if (decide (p_2215.2 = (0 : Int))) = true then let p_2217 : (Int × Int) := (p_2216.1 / (12 : Int), p_2216.1 % (12 : Int)); R.ok (p_2217.1, p_2217.2) else R.ok (p_2216.1, p_2216.2)) : R (Int × Int)).bind fun s_2218 => (chk (-(2 ^ 62) ≤ ((1 : Int) + s_2218.2) ∧ ((1 : Int) + s_2218.2) < 2 ^ 62) (rangeI 0 ((1 : Int) + s_2218.2))).bind fun x_2231 => (forR (τ := (Int × (List ((Int × Int) × Bool)))) (fun s_2219 x_2220 => let p_2221 : (Int × Int) := (s_2219.1 / (25 : Int), s_2219.1 % (25 : Int)); let step_2222 : (Int × Int) := (((p_2221.2 / (5 : Int)) - (2 : Int)), ((p_2221.2 % (5 : Int)) - (2 : Int))); ((if (decide (p_2215.2 = (1 : Int))) = true then (chk (CDv (((2 : Int) * (1000000 : Int)) + (1 : Int))) (p_2221.1 / (((2 : Int) * (1000000 : Int)) + (1 : Int)), p_2221.1 % (((2 : Int) * (1000000 : Int)) + (1 : Int)))).bind fun p_2223 => (chk (CDv (((2 : Int) * (1000000 : Int)) + (1 : Int))) (p_2223.1 / (((2 : Int) * (1000000 : Int)) + (1 : Int)), p_2223.1 % (((2 : Int) * (1000000 : Int)) + (1 : Int)))).bind fun p_2224 => let step_2225 : (Int × Int) := ((p_2223.2 - (1000000 : Int)), (p_2224.2 - (1000000 : Int))); R.ok (p_2224.1, step_2225) else R.ok (p_2221.1, step_2222)) : R (Int × (Int × Int))).bind fun s_2226 => let v_2227 : Bool := true; let k_2228 : (Int × Int) := s_2226.2; (chk (s_2219.2.length < sizeLine) ()).bind fun _ => let steps_2229 : List ((Int × Int) × Bool) := (dPut s_2219.2 k_2228 v_2227); R.ok (s_2226.1, steps_2229)) x_2231 (s_2218.1, ([] : List ((Int × Int) × Bool)))).bind fun s_2230 => R.ok ((sortC (s_2230.2.map Prod.fst)), s_2230.1)
def m_law_base (v_number : Int) : R ((Int × Int) × Int) :=
  let p_2251 : (Int × Int) := (v_number / (5 : Int), v_number % (5 : Int)); if (decide ((1 : Int) < p_2251.2)) = true then R.ok (((0 : Int), (0 : Int)), p_2251.1) else (((ofOpt (atI [(((2 : Int) * (1000000000000 : Int)) + (1 : Int)), (2 : Int)] p_2251.2)).bind fun x_2252 => R.ok (p_2251.1, x_2252)).bind fun x_2253 => chk (CDv x_2253.2) (x_2253.1 / x_2253.2, x_2253.1 % x_2253.2)).bind fun p_2254 => (((ofOpt (atI [(((2 : Int) * (1000000000000 : Int)) + (1 : Int)), (2 : Int)] p_2251.2)).bind fun x_2255 => R.ok (p_2254.1, x_2255)).bind fun x_2256 => chk (CDv x_2256.2) (x_2256.1 / x_2256.2, x_2256.1 % x_2256.2)).bind fun p_2257 => (ofOpt (atI [(1 : Int), ((2 : Int) * (1000000000000 : Int))] p_2251.2)).bind fun by_2258 => (((chk (CMulW p_2254.2 by_2258) (p_2254.2 * by_2258)).bind fun x_2259 => R.ok (x_2259 - (1000000000000 : Int))).bind fun x_2261 => ((chk (CMulW p_2257.2 by_2258) (p_2257.2 * by_2258)).bind fun x_2260 => R.ok (x_2260 - (1000000000000 : Int))).bind fun x_2262 => R.ok (x_2261, x_2262)).bind fun x_2263 => R.ok (x_2263, p_2257.1)
def m_law_kept (v_row : Int) (v_column : Int) : R (Int × Int) :=
  R.ok ((if (if v_row < (1000000000000 : Int) then v_row else (1000000000000 : Int)) > (-(1000000000000 : Int)) then (if v_row < (1000000000000 : Int) then v_row else (1000000000000 : Int)) else (-(1000000000000 : Int))), (if (if v_column < (1000000000000 : Int) then v_column else (1000000000000 : Int)) > (-(1000000000000 : Int)) then (if v_column < (1000000000000 : Int) then v_column else (1000000000000 : Int)) else (-(1000000000000 : Int))))
def m_law_marked (v_number : Int) (v_piece : List (Int × Int)) (v_most : Int) : R ((List (Int × Int)) × Int) :=
  (m_law_base v_number).bind fun p_2283 => (chk (CDv (v_most + (1 : Int))) (p_2283.2 / (v_most + (1 : Int)), p_2283.2 % (v_most + (1 : Int)))).bind fun p_2284 => (chk (-(2 ^ 62) ≤ p_2284.2 ∧ p_2284.2 < 2 ^ 62) (rangeI 0 p_2284.2)).bind fun x_2301 => (forR (τ := (Int × (List ((Int × Int) × Bool)))) (fun s_2285 x_2286 => let p_2287 : (Int × Int) := (s_2285.1 / (36 : Int), s_2285.1 % (36 : Int)); (forR (τ := List ((Int × Int) × Bool)) (fun s_2288 x_2289 => let v_2290 : Bool := true; (m_law_kept ((p_2283.1.1 + (p_2287.2 / (6 : Int))) + x_2289.1) ((p_2283.1.2 + (p_2287.2 % (6 : Int))) + x_2289.2)).bind fun k_2291 => (chk (s_2288.length < sizeLine) ()).bind fun _ => let cells_2292 : List ((Int × Int) × Bool) := (dPut s_2288 k_2291 v_2290); R.ok cells_2292) v_piece s_2285.2).bind fun s_2293 => R.ok (p_2287.1, s_2293)) x_2301 (p_2284.1, ([] : List ((Int × Int) × Bool)))).bind fun s_2294 => let p_2295 : (Int × Int) := (s_2294.1 / (4 : Int), s_2294.1 % (4 : Int)); ((if (decide (p_2295.2 = (0 : Int))) = true then let p_2296 : (Int × Int) := (p_2295.1 / (49 : Int), p_2295.1 % (49 : Int)); let v_2297 : Bool := true; (m_law_kept ((p_2283.1.1 + (p_2296.2 / (7 : Int))) - (1 : Int)) ((p_2283.1.2 + (p_2296.2 % (7 : Int))) - (1 : Int))).bind fun k_2298 => (chk (s_2294.2.length < sizeLine) ()).bind fun _ => let cells_2299 : List ((Int × Int) × Bool) := (dPut s_2294.2 k_2298 v_2297); R.ok (p_2296.1, cells_2299) else R.ok (p_2295.1, s_2294.2)) : R (Int × (List ((Int × Int) × Bool)))).bind fun s_2300 => R.ok ((sortC (s_2300.2.map Prod.fst)), s_2300.1)
def m_law_less (v_cell : (Int × Int)) (v_step : (Int × Int)) : R (Int × Int) :=
  R.ok ((v_cell.1 - v_step.1), (v_cell.2 - v_step.2))
def m_law_led (v_cell : (Int × Int)) (v_step : (Int × Int)) : R (Int × Int) :=
  R.ok ((v_cell.1 + v_step.1), (v_cell.2 + v_step.2))
def m_law_greatest (v_cells : List (Int × Int)) (v_piece : List (Int × Int)) : R (List (Int × Int)) :=
  (forR (τ := List ((Int × Int) × Bool)) (fun s_2323 x_2324 => let v_2325 : Bool := true; let k_2326 : (Int × Int) := x_2324; (chk (s_2323.length < sizeLine) ()).bind fun _ => let held_2327 : List ((Int × Int) × Bool) := (dPut s_2323 k_2326 v_2325); R.ok held_2327) v_cells ([] : List ((Int × Int) × Bool))).bind fun s_2328 => let found_2329 : List (Int × Int) := ([] : List (Int × Int)); (forR (τ := List (Int × Int)) (fun s_2330 x_2331 => (((ofOpt (atI v_piece (0 : Int))).bind fun x_2332 => R.ok (x_2331, x_2332)).bind fun x_2333 => m_law_less x_2333.1 x_2333.2).bind fun place_2334 => (((mapR (fun y_2335 => (m_law_led place_2334 y_2335).bind fun x_2336 => R.ok ((dGet s_2328 x_2336).isSome)) v_piece).bind fun ys => chk (ys.length ≤ sizeLine) ys).bind fun x_2337 => R.ok ((x_2337).all id)).bind fun x_2339 => if x_2339 = true then let y_2338 : (Int × Int) := place_2334; (chk (s_2330.length < sizeLine) ()).bind fun _ => R.ok (s_2330 ++ [y_2338]) else R.ok s_2330) v_cells found_2329).bind fun s_2340 => R.ok s_2340
def m_law_brought (v_found : List (Int × Int)) (v_piece : List (Int × Int)) : R (List (Int × Int)) :=
  (forR (τ := List ((Int × Int) × Bool)) (fun s_2352 x_2353 => (forR (τ := List ((Int × Int) × Bool)) (fun s_2354 x_2355 => let v_2356 : Bool := true; (m_law_led x_2353 x_2355).bind fun k_2357 => (chk (s_2354.length < sizeLine) ()).bind fun _ => let cells_2358 : List ((Int × Int) × Bool) := (dPut s_2354 k_2357 v_2356); R.ok cells_2358) v_piece s_2352).bind fun s_2359 => R.ok s_2359) v_found ([] : List ((Int × Int) × Bool))).bind fun s_2360 => R.ok (sortC (s_2360.map Prod.fst))
def m_look_finite (v_shape : ((List (Int × Int)) × Bool)) : R Unit :=
  if v_shape.2 = true then R.er ⟨"Endless", none⟩ else R.ok ()
def m_rising (v_cells : List (Int × Int)) : R (List (Int × Int)) :=
  (sortSet v_cells).bind fun x_2367 => R.ok x_2367
def m_mirrored (v_piece : List (Int × Int)) : R (List (Int × Int)) :=
  ((mapR (fun y_2369 => R.ok (((0 : Int) - y_2369.1), ((0 : Int) - y_2369.2))) v_piece).bind fun ys => chk (ys.length ≤ sizeLine) ys).bind fun x_2370 => m_rising x_2370
def m_moved_cell (v_cell : (Int × Int)) (v_step : (Int × Int)) : R (Int × Int) :=
  R.ok ((v_cell.1 + v_step.1), (v_cell.2 + v_step.2))
def m_lies_on (v_piece : List (Int × Int)) (v_cell : (Int × Int)) : R (List (Int × Int)) :=
  (mapR (fun y_2375 => m_moved_cell y_2375 v_cell) v_piece).bind fun ys => chk (ys.length ≤ sizeLine) ys
def m_reached (v_cells : List (Int × Int)) (v_piece : List (Int × Int)) : R (List (Int × Int)) :=
  let told_2378 : List (Int × Int) := ([] : List (Int × Int)); (forR (τ := List (Int × Int)) (fun s_2379 x_2380 => (m_lies_on v_piece x_2380).bind fun y_2381 => (chk (s_2379.length + y_2381.length ≤ sizeLine) ()).bind fun _ => R.ok (s_2379 ++ y_2381)) v_cells told_2378).bind fun s_2382 => m_rising s_2382
def m_less_cell (v_cell : (Int × Int)) (v_step : (Int × Int)) : R (Int × Int) :=
  R.ok ((v_cell.1 - v_step.1), (v_cell.2 - v_step.2))
def m_kept_at (v_cells : List (Int × Int)) (v_piece : List (Int × Int)) : R (List (Int × Int)) :=
  (forR (τ := List ((Int × Int) × Bool)) (fun s_2404 x_2405 => let v_2406 : Bool := true; let k_2407 : (Int × Int) := x_2405; (chk (s_2404.length < sizeLine) ()).bind fun _ => let held_2408 : List ((Int × Int) × Bool) := (dPut s_2404 k_2407 v_2406); R.ok held_2408) v_cells ([] : List ((Int × Int) × Bool))).bind fun s_2409 => let told_2410 : List (Int × Int) := ([] : List (Int × Int)); (forR (τ := List (Int × Int)) (fun s_2411 x_2412 => (((ofOpt (atI v_piece (0 : Int))).bind fun x_2413 => R.ok (x_2412, x_2413)).bind fun x_2414 => m_less_cell x_2414.1 x_2414.2).bind fun place_2415 => (((m_lies_on v_piece place_2415).bind fun x_2417 => (mapR (fun y_2416 => R.ok ((dGet s_2409 y_2416).isSome)) x_2417).bind fun ys => chk (ys.length ≤ sizeLine) ys).bind fun x_2418 => R.ok ((x_2418).all id)).bind fun x_2420 => if x_2420 = true then let y_2419 : (Int × Int) := place_2415; (chk (s_2411.length < sizeLine) ()).bind fun _ => R.ok (s_2411 ++ [y_2419]) else R.ok s_2411) v_cells told_2410).bind fun s_2421 => R.ok s_2421
def m_eaten (v_shape : ((List (Int × Int)) × Bool)) (v_piece : List (Int × Int)) : R ((List (Int × Int)) × Bool) :=
  let p_2423 : ((List (Int × Int)) × Bool) := v_shape; if p_2423.2 = true then (((m_mirrored v_piece).bind fun x_2424 => R.ok (p_2423.1, x_2424)).bind fun x_2425 => m_reached x_2425.1 x_2425.2).bind fun x_2426 => R.ok (x_2426, true) else (m_kept_at p_2423.1 v_piece).bind fun x_2427 => R.ok (x_2427, false)
def m_bringing (v_found : List (Int × Int)) (v_piece : List (Int × Int)) : R (List ((Int × Int) × List (Int × Int))) :=
  (R.ok v_found).bind fun x_2434 => (bringM (fun x_2433 => m_lies_on v_piece x_2433) x_2434 []).bind fun s_2435 => R.ok s_2435
def m_marks (v_shape : ((List (Int × Int)) × Bool)) (v_piece : List (Int × Int)) : R (Str × Dy) :=
  (m_look_finite v_shape).bind fun _ => ((m_eaten v_shape v_piece).bind fun x_2440 => R.ok x_2440.1).bind fun found_2441 => (m_bringing found_2441 v_piece).bind fun ways_2442 => (forS (τ := Unit) (γ := (Str × Dy)) (fun s_2443 x_2444 => if (!(dGet ways_2442 x_2444).isSome) = true then R.ok (Stp.rt (("bare" : Str), ((fun x => Dy.tup [Dy.int x.1, Dy.int x.2]) x_2444))) else R.ok (Stp.nx ())) v_shape.1 ()).bind (outK (fun s_2445 => R.ok (("marks" : Str), ((fun xs => Dy.tup (List.map (fun x => Dy.tup [Dy.int x.1, Dy.int x.2]) xs)) found_2441))) (fun a => a))
def m_greatest (v_shape : ((List (Int × Int)) × Bool)) (v_piece : List (Int × Int)) : R (List (Int × Int)) :=
  (m_marks v_shape v_piece).bind fun p_2447 => if (decide (p_2447.1 = ("bare" : Str))) = true then R.er ⟨"NoMarks", none⟩ else ofOpt ((asT (asTu (asc asI (as1 asI)))) p_2447.2)
def m_is_brought (v_piece : List (Int × Int)) (v_taken : List (Int × Int)) (v_cell : (Int × Int)) : R Bool :=
  ((mapR (fun y_2457 => (m_less_cell v_cell y_2457).bind fun x_2458 => R.ok (hasB x_2458 v_piece)) v_taken).bind fun ys => chk (ys.length ≤ sizeLine) ys).bind fun x_2459 => R.ok ((x_2459).any id)
def m_tried : Nat → (List (Int × Int)) → (List ((Int × Int) × List (Int × Int))) → (List (Int × Int)) → (List (Int × Int)) → Int → R ((Option (List (Int × Int))) × Dy)
  | 0, _, _, _, _, _ => R.bad
  | fu + 1, v_cells, v_ways, v_piece, v_taken, v_many => ((fmR (fun y_2479 => (m_is_brought v_piece v_taken y_2479).bind fun x_2480 => R.ok (!x_2480)) (fun y_2479 => R.ok y_2479) v_cells).bind fun ys => chk (ys.length ≤ sizeLine) ys).bind fun open_cells_2481 => if (decide (open_cells_2481 = ([] : List (Int × Int)))) = true then R.ok (some v_taken, ((fun _ => Dy.non) ())) else let cases_2482 : List ((Int × Int) × Dy) := ([] : List ((Int × Int) × Dy)); ((if (decide ((0 : Int) < v_many)) = true then ((ofOpt (atI open_cells_2481 (0 : Int))).bind fun x_2483 => ofOpt (dGet v_ways x_2483)).bind fun x_2494 => (forS (τ := List ((Int × Int) × Dy)) (γ := ((Option (List (Int × Int))) × Dy)) (fun s_2484 x_2485 => ((((((chk ((v_taken).length + ([x_2485]).length ≤ sizeLine) (v_taken ++ [x_2485])).bind fun x_2486 => R.ok (x_2486, (v_many - (1 : Int)))).bind fun x_2487 => R.ok (v_piece, x_2487)).bind fun x_2488 => R.ok (v_ways, x_2488)).bind fun x_2489 => R.ok (v_cells, x_2489)).bind fun x_2490 => m_tried fu x_2490.1 x_2490.2.1 x_2490.2.2.1 x_2490.2.2.2.1 x_2490.2.2.2.2).bind fun p_2491 => if (p_2491.1).isSome = true then R.ok (Stp.rt (p_2491.1, ((fun _ => Dy.non) ()))) else let y_2492 : ((Int × Int) × Dy) := (x_2485, p_2491.2); (chk (s_2484.length < sizeLine) ()).bind fun _ => R.ok (Stp.nx (s_2484 ++ [y_2492]))) x_2494 cases_2482).bind (outK (fun s_2493 => R.ok (Sum.inr s_2493)) (fun a => Sum.inl a)) else R.ok (Sum.inr cases_2482)) : R (Sum ((Option (List (Int × Int))) × Dy) (List ((Int × Int) × Dy)))).bind (sumK fun s_2495 => (((ofOpt (atI open_cells_2481 (0 : Int))).bind fun x_2496 => R.ok (x_2496, s_2495)).bind fun x_2497 => R.ok ((fun x => Dy.tup [(fun x => Dy.tup [Dy.int x.1, Dy.int x.2]) x.1, (fun xs => Dy.lst (List.map (fun x => Dy.tup [(fun x => Dy.tup [Dy.int x.1, Dy.int x.2]) x.1, (fun d => d) x.2]) xs)) x.2]) x_2497)).bind fun x_2498 => R.ok ((none : Option (List (Int × Int))), x_2498))
def m_fewest_and_tree (v_shape : ((List (Int × Int)) × Bool)) (v_piece : List (Int × Int)) : R ((List (Int × Int)) × Dy) :=
  (m_greatest v_shape v_piece).bind fun found_2507 => if (decide ((12 : Int) < ((found_2507).length : Int))) = true then R.er ⟨"TooMany", none⟩ else (m_bringing found_2507 v_piece).bind fun ways_2508 => let tree_2509 : Dy := ((fun _ => Dy.non) ()); (chk (-(2 ^ 62) ≤ (((found_2507).length : Int) + (1 : Int)) ∧ (((found_2507).length : Int) + (1 : Int)) < 2 ^ 62) (rangeI 0 (((found_2507).length : Int) + (1 : Int)))).bind fun x_2519 => (forS (τ := Dy) (γ := ((List (Int × Int)) × Dy)) (fun s_2510 x_2511 => (m_tried 15 v_shape.1 ways_2508 v_piece ([] : List (Int × Int)) x_2511).bind fun p_2512 => if (p_2512.1).isSome = true then ((((ofOpt p_2512.1).bind fun x_2513 => R.ok (sortC x_2513)).bind fun x_2514 => R.ok x_2514).bind fun x_2515 => R.ok (x_2515, s_2510)).bind fun x_2516 => R.ok (Stp.rt x_2516) else let tree_2517 : Dy := p_2512.2; R.ok (Stp.nx tree_2517)) x_2519 tree_2509).bind (outK (fun s_2518 => R.ok (found_2507, s_2518)) (fun a => a))
def m_fewer_paper (v_shape : ((List (Int × Int)) × Bool)) (v_piece : List (Int × Int)) : R Dy :=
  (m_fewest_and_tree v_shape v_piece).bind fun x_2521 => R.ok x_2521.2
def m_fewest (v_shape : ((List (Int × Int)) × Bool)) (v_piece : List (Int × Int)) : R (List (Int × Int)) :=
  (m_fewest_and_tree v_shape v_piece).bind fun x_2524 => R.ok x_2524.1
def m_law_on (v_piece : List (Int × Int)) (v_taken : List (Int × Int)) (v_cell : (Int × Int)) : R Bool :=
  ((fmR (fun y_2531 => (m_law_less v_cell y_2531).bind fun x_2532 => R.ok (hasB x_2532 v_piece)) (fun y_2531 => R.ok y_2531) v_taken).bind fun ys => chk (ys.length ≤ sizeLine) ys).bind fun x_2533 => R.ok (!decide (x_2533 = ([] : List (Int × Int))))
def m_law_ways (v_found : List (Int × Int)) (v_piece : List (Int × Int)) (v_cell : (Int × Int)) : R (List (Int × Int)) :=
  (fmR (fun y_2537 => (m_law_less v_cell y_2537).bind fun x_2538 => R.ok (hasB x_2538 v_piece)) (fun y_2537 => R.ok y_2537) v_found).bind fun ys => chk (ys.length ≤ sizeLine) ys
def m_law_right : Nat → (List (Int × Int)) → (List (Int × Int)) → (List (Int × Int)) → (List (Int × Int)) → Int → ((Int × Int) × (List ((Int × Int) × Dy))) → R Bool
  | 0, _, _, _, _, _, _ => R.bad
  | fu + 1, v_cells, v_piece, v_found, v_taken, v_many, v_tree => let p_2555 : ((Int × Int) × (List ((Int × Int) × Dy))) := v_tree; (if (!hasB p_2555.1 v_cells) = true then R.ok true else m_law_on v_piece v_taken p_2555.1).bind fun x_2572 => if x_2572 = true then R.ok false else if (decide (v_many = (0 : Int))) = true then chk (Dy.shp ((fun xs => Dy.lst (List.map (fun x => Dy.tup [(fun x => Dy.tup [Dy.int x.1, Dy.int x.2]) x.1, (fun d => d) x.2]) xs)) p_2555.2) = true ∧ Dy.shp ((fun xs => Dy.lst (List.map (fun x => Dy.tup [(fun x => Dy.tup [Dy.int x.1, Dy.int x.2]) x.1, (fun d => d) x.2]) xs)) ([] : List ((Int × Int) × Dy))) = true) (Dy.eqv ((fun xs => Dy.lst (List.map (fun x => Dy.tup [(fun x => Dy.tup [Dy.int x.1, Dy.int x.2]) x.1, (fun d => d) x.2]) xs)) p_2555.2) ((fun xs => Dy.lst (List.map (fun x => Dy.tup [(fun x => Dy.tup [Dy.int x.1, Dy.int x.2]) x.1, (fun d => d) x.2]) xs)) ([] : List ((Int × Int) × Dy)))) else (((mapR (fun y_2556 => R.ok y_2556.1) p_2555.2).bind fun ys => chk (ys.length ≤ sizeLine) ys).bind fun x_2557 => (m_law_ways v_found v_piece p_2555.1).bind fun x_2558 => R.ok (!decide (x_2557 = x_2558))).bind fun x_2571 => if x_2571 = true then R.ok false else (forS (τ := Unit) (γ := Bool) (fun s_2559 x_2560 => (((((((chk ((v_taken).length + ([x_2560.1]).length ≤ sizeLine) (v_taken ++ [x_2560.1])).bind fun x_2562 => ((ofOpt ((asTu (asc (asTu (asc asI (as1 asI))) (as1 (asL (asTu (asc (asTu (asc asI (as1 asI))) (as1 some))))))) x_2560.2)).bind fun x_2561 => R.ok ((v_many - (1 : Int)), x_2561)).bind fun x_2563 => R.ok (x_2562, x_2563)).bind fun x_2564 => R.ok (v_found, x_2564)).bind fun x_2565 => R.ok (v_piece, x_2565)).bind fun x_2566 => R.ok (v_cells, x_2566)).bind fun x_2567 => m_law_right fu x_2567.1 x_2567.2.1 x_2567.2.2.1 x_2567.2.2.2.1 x_2567.2.2.2.2.1 x_2567.2.2.2.2.2).bind fun x_2568 => R.ok (!x_2568)).bind fun x_2569 => if x_2569 = true then R.ok (Stp.rt false) else R.ok (Stp.nx ())) p_2555.2 ()).bind (outK (fun s_2570 => R.ok true) (fun a => a))
def m_has (v_shape : ((List (Int × Int)) × Bool)) (v_cell : (Int × Int)) : R Bool :=
  let p_2582 : ((List (Int × Int)) × Bool) := v_shape; R.ok (!decide ((hasB v_cell p_2582.1) = p_2582.2))
def m_places_on (v_piece : List (Int × Int)) (v_cell : (Int × Int)) : R (List (Int × Int)) :=
  ((mapR (fun y_2588 => m_less_cell v_cell y_2588) v_piece).bind fun ys => chk (ys.length ≤ sizeLine) ys).bind fun x_2589 => R.ok (sortC x_2589)
def m_whole_at (v_shape : ((List (Int × Int)) × Bool)) (v_piece : List (Int × Int)) (v_cell : (Int × Int)) : R Bool :=
  ((m_lies_on v_piece v_cell).bind fun x_2595 => (mapR (fun y_2594 => m_has v_shape y_2594) x_2595).bind fun ys => chk (ys.length ≤ sizeLine) ys).bind fun x_2596 => R.ok ((x_2596).all id)
def m_tree_right : Nat → ((List (Int × Int)) × Bool) → (List (Int × Int)) → (List (Int × Int)) → Int → ((Int × Int) × (List ((Int × Int) × Dy))) → R Bool
  | 0, _, _, _, _, _ => R.bad
  | fu + 1, v_shape, v_piece, v_taken, v_many, v_tree => let p_2610 : ((Int × Int) × (List ((Int × Int) × Dy))) := v_tree; (((m_has v_shape p_2610.1).bind fun x_2611 => R.ok (!x_2611)).bind fun x_2612 => if x_2612 = true then R.ok true else m_is_brought v_piece v_taken p_2610.1).bind fun x_2627 => if x_2627 = true then R.ok false else if (decide (v_many = (0 : Int))) = true then chk (Dy.shp ((fun xs => Dy.lst (List.map (fun x => Dy.tup [(fun x => Dy.tup [Dy.int x.1, Dy.int x.2]) x.1, (fun d => d) x.2]) xs)) p_2610.2) = true ∧ Dy.shp ((fun xs => Dy.lst (List.map (fun x => Dy.tup [(fun x => Dy.tup [Dy.int x.1, Dy.int x.2]) x.1, (fun d => d) x.2]) xs)) ([] : List ((Int × Int) × Dy))) = true) (Dy.eqv ((fun xs => Dy.lst (List.map (fun x => Dy.tup [(fun x => Dy.tup [Dy.int x.1, Dy.int x.2]) x.1, (fun d => d) x.2]) xs)) p_2610.2) ((fun xs => Dy.lst (List.map (fun x => Dy.tup [(fun x => Dy.tup [Dy.int x.1, Dy.int x.2]) x.1, (fun d => d) x.2]) xs)) ([] : List ((Int × Int) × Dy)))) else (((mapR (fun y_2613 => R.ok y_2613.1) p_2610.2).bind fun ys => chk (ys.length ≤ sizeLine) ys).bind fun x_2616 => ((m_places_on v_piece p_2610.1).bind fun x_2615 => (fmR (fun y_2614 => m_whole_at v_shape v_piece y_2614) (fun y_2614 => R.ok y_2614) x_2615).bind fun ys => chk (ys.length ≤ sizeLine) ys).bind fun x_2617 => R.ok (!decide (x_2616 = x_2617))).bind fun x_2626 => if x_2626 = true then R.ok false else ((mapR (fun y_2618 => ((((chk ((v_taken).length + ([y_2618.1]).length ≤ sizeLine) (v_taken ++ [y_2618.1])).bind fun x_2620 => ((ofOpt ((asTu (asc (asTu (asc asI (as1 asI))) (as1 (asL (asTu (asc (asTu (asc asI (as1 asI))) (as1 some))))))) y_2618.2)).bind fun x_2619 => R.ok ((v_many - (1 : Int)), x_2619)).bind fun x_2621 => R.ok (x_2620, x_2621)).bind fun x_2622 => R.ok (v_piece, x_2622)).bind fun x_2623 => R.ok (v_shape, x_2623)).bind fun x_2624 => m_tree_right fu x_2624.1 x_2624.2.1 x_2624.2.2.1 x_2624.2.2.2.1 x_2624.2.2.2.2) p_2610.2).bind fun ys => chk (ys.length ≤ sizeLine) ys).bind fun x_2625 => R.ok ((x_2625).all id)
def m_fewer_right (v_shape : ((List (Int × Int)) × Bool)) (v_piece : List (Int × Int)) (v_many : Int) (v_tree : ((Int × Int) × (List ((Int × Int) × Dy)))) : R Bool :=
  (m_look_finite v_shape).bind fun _ => m_tree_right 15 v_shape v_piece ([] : List (Int × Int)) v_many v_tree
def m_law_tree : Nat → List Int → (List (Int × Int)) → (List (Int × Int)) → (List (Int × Int)) → (List (Int × Int)) → Int → R (((Int × Int) × (List ((Int × Int) × Dy))) × List Int)
  | 0, _, _, _, _, _, _ => R.bad
  | fu + 1, v_pot, v_cells, v_piece, v_found, v_taken, v_many => ((fmR (fun y_2667 => (m_law_on v_piece v_taken y_2667).bind fun x_2668 => R.ok (!x_2668)) (fun y_2667 => R.ok y_2667) v_cells).bind fun ys => chk (ys.length ≤ sizeLine) ys).bind fun free_2669 => ((if (decide (free_2669 = ([] : List (Int × Int)))) = true then let free_2670 : List (Int × Int) := v_cells; R.ok free_2670 else R.ok free_2669) : R (List (Int × Int))).bind fun s_2671 => (((ofOpt (atI v_pot (0 : Int))).bind fun x_2672 => R.ok (x_2672, ((s_2671).length : Int))).bind fun x_2673 => chk (CDv x_2673.2) (x_2673.1 / x_2673.2, x_2673.1 % x_2673.2)).bind fun p_2674 => (chk (0 < v_pot.length) ()).bind fun _ => let cases_2675 : List ((Int × Int) × Dy) := ([] : List ((Int × Int) × Dy)); ((if (decide ((0 : Int) < v_many)) = true then ((((ofOpt (atI s_2671 p_2674.2)).bind fun x_2676 => R.ok (v_piece, x_2676)).bind fun x_2677 => R.ok (v_found, x_2677)).bind fun x_2678 => m_law_ways x_2678.1 x_2678.2.1 x_2678.2.2).bind fun x_2690 => (forR (τ := ((List Int) × (List ((Int × Int) × Dy)))) (fun s_2679 x_2680 => ((chk ((v_taken).length + ([x_2680]).length ≤ sizeLine) (v_taken ++ [x_2680])).bind fun x_2683 => (m_law_tree fu s_2679.1 v_cells v_piece v_found x_2683 (v_many - (1 : Int))).calm.bind fun z_2682 => R.ok ((x_2680, ((fun x => Dy.tup [(fun x => Dy.tup [Dy.int x.1, Dy.int x.2]) x.1, (fun xs => Dy.lst (List.map (fun x => Dy.tup [(fun x => Dy.tup [Dy.int x.1, Dy.int x.2]) x.1, (fun d => d) x.2]) xs)) x.2]) z_2682.1)), z_2682.2)).bind fun w_2681 => (chk (s_2679.2.length < sizeLine) ()).bind fun _ => R.ok (w_2681.2, (s_2679.2 ++ [w_2681.1]))) x_2690 ((v_pot.set 0 p_2674.1), cases_2675)).bind fun s_2689 => R.ok (s_2689.1, s_2689.2) else R.ok ((v_pot.set 0 p_2674.1), cases_2675)) : R ((List Int) × (List ((Int × Int) × Dy)))).bind fun s_2691 => ((ofOpt (atI s_2671 p_2674.2)).bind fun x_2692 => R.ok (x_2692, s_2691.2)).bind fun x_2693 => R.ok (x_2693, s_2691.1)
def m_law_spoilt : Nat → List Int → (List (Int × Int)) → ((Int × Int) × (List ((Int × Int) × Dy))) → R (((Int × Int) × (List ((Int × Int) × Dy))) × List Int)
  | 0, _, _, _ => R.bad
  | fu + 1, v_pot, v_cells, v_tree => let p_2749 : ((Int × Int) × (List ((Int × Int) × Dy))) := v_tree; ((ofOpt (atI v_pot (0 : Int))).bind fun x_2750 => R.ok (x_2750 / (10 : Int), x_2750 % (10 : Int))).bind fun p_2751 => (chk (0 < v_pot.length) ()).bind fun _ => (((ofOpt (atI (v_pot.set 0 p_2751.1) (0 : Int))).bind fun x_2752 => R.ok (x_2752, (if ((p_2749.2).length : Int) > (1 : Int) then ((p_2749.2).length : Int) else (1 : Int)))).bind fun x_2753 => chk (CDv x_2753.2) (x_2753.1 / x_2753.2, x_2753.1 % x_2753.2)).bind fun p_2754 => (chk (0 < (v_pot.set 0 p_2751.1).length) ()).bind fun _ => let pot_2755 : List Int := ((v_pot.set 0 p_2751.1).set 0 p_2754.1); (((ofOpt (atI pot_2755 (0 : Int))).bind fun x_2756 => R.ok (x_2756, ((v_cells).length : Int))).bind fun x_2757 => chk (CDv x_2757.2) (x_2757.1 / x_2757.2, x_2757.1 % x_2757.2)).bind fun p_2758 => (chk (0 < pot_2755.length) ()).bind fun _ => let pot_2759 : List Int := (pot_2755.set 0 p_2758.1); (if (decide (p_2751.2 < (3 : Int))) = true then chk (Dy.shp ((fun xs => Dy.lst (List.map (fun x => Dy.tup [(fun x => Dy.tup [Dy.int x.1, Dy.int x.2]) x.1, (fun d => d) x.2]) xs)) p_2749.2) = true ∧ Dy.shp ((fun xs => Dy.lst (List.map (fun x => Dy.tup [(fun x => Dy.tup [Dy.int x.1, Dy.int x.2]) x.1, (fun d => d) x.2]) xs)) ([] : List ((Int × Int) × Dy))) = true) (!Dy.eqv ((fun xs => Dy.lst (List.map (fun x => Dy.tup [(fun x => Dy.tup [Dy.int x.1, Dy.int x.2]) x.1, (fun d => d) x.2]) xs)) p_2749.2) ((fun xs => Dy.lst (List.map (fun x => Dy.tup [(fun x => Dy.tup [Dy.int x.1, Dy.int x.2]) x.1, (fun d => d) x.2]) xs)) ([] : List ((Int × Int) × Dy)))) else R.ok false).bind fun x_2799 => if x_2799 = true then (ofOpt (atI p_2749.2 p_2754.2)).bind fun p_2760 => (ofOpt ((asTu (asc (asTu (asc asI (as1 asI))) (as1 (asL (asTu (asc (asTu (asc asI (as1 asI))) (as1 some))))))) p_2760.2)).bind fun x_2762 => (m_law_spoilt fu pot_2759 v_cells x_2762).calm.bind fun z_2761 => (chk ((cutL p_2749.2 none (some p_2754.2)).length + ([(p_2760.1, ((fun x => Dy.tup [(fun x => Dy.tup [Dy.int x.1, Dy.int x.2]) x.1, (fun xs => Dy.lst (List.map (fun x => Dy.tup [(fun x => Dy.tup [Dy.int x.1, Dy.int x.2]) x.1, (fun d => d) x.2]) xs)) x.2]) z_2761.1))]).length ≤ sizeLine) (cutL p_2749.2 none (some p_2754.2) ++ [(p_2760.1, ((fun x => Dy.tup [(fun x => Dy.tup [Dy.int x.1, Dy.int x.2]) x.1, (fun xs => Dy.lst (List.map (fun x => Dy.tup [(fun x => Dy.tup [Dy.int x.1, Dy.int x.2]) x.1, (fun d => d) x.2]) xs)) x.2]) z_2761.1))])).bind fun x_2763 => (chk ((x_2763).length + (cutL p_2749.2 (some (p_2754.2 + (1 : Int))) none).length ≤ sizeLine) (x_2763 ++ cutL p_2749.2 (some (p_2754.2 + (1 : Int))) none)).bind fun x_2764 => R.ok ((p_2749.1, x_2764), z_2761.2) else if (decide (p_2751.2 = (3 : Int))) = true then ((chk ((cutL p_2749.2 none (some p_2754.2)).length + (cutL p_2749.2 (some (p_2754.2 + (1 : Int))) none).length ≤ sizeLine) (cutL p_2749.2 none (some p_2754.2) ++ cutL p_2749.2 (some (p_2754.2 + (1 : Int))) none)).bind fun x_2771 => R.ok (p_2749.1, x_2771)).bind fun x_2772 => R.ok (x_2772, pot_2759) else (if (decide (p_2751.2 = (4 : Int))) = true then chk (Dy.shp ((fun xs => Dy.lst (List.map (fun x => Dy.tup [(fun x => Dy.tup [Dy.int x.1, Dy.int x.2]) x.1, (fun d => d) x.2]) xs)) p_2749.2) = true ∧ Dy.shp ((fun xs => Dy.lst (List.map (fun x => Dy.tup [(fun x => Dy.tup [Dy.int x.1, Dy.int x.2]) x.1, (fun d => d) x.2]) xs)) ([] : List ((Int × Int) × Dy))) = true) (!Dy.eqv ((fun xs => Dy.lst (List.map (fun x => Dy.tup [(fun x => Dy.tup [Dy.int x.1, Dy.int x.2]) x.1, (fun d => d) x.2]) xs)) p_2749.2) ((fun xs => Dy.lst (List.map (fun x => Dy.tup [(fun x => Dy.tup [Dy.int x.1, Dy.int x.2]) x.1, (fun d => d) x.2]) xs)) ([] : List ((Int × Int) × Dy)))) else R.ok false).bind fun x_2798 => if x_2798 = true then (((((ofOpt (atI p_2749.2 p_2754.2)).bind fun x_2774 => R.ok (x_2774 :: [])).bind fun x_2775 => chk ((cutL p_2749.2 none (some p_2754.2)).length + (x_2775).length ≤ sizeLine) (cutL p_2749.2 none (some p_2754.2) ++ x_2775)).bind fun x_2776 => chk ((x_2776).length + (cutL p_2749.2 (some p_2754.2) none).length ≤ sizeLine) (x_2776 ++ cutL p_2749.2 (some p_2754.2) none)).bind fun x_2777 => R.ok (p_2749.1, x_2777)).bind fun x_2778 => R.ok (x_2778, pot_2759) else (if (decide (p_2751.2 = (5 : Int))) = true then chk (Dy.shp ((fun xs => Dy.lst (List.map (fun x => Dy.tup [(fun x => Dy.tup [Dy.int x.1, Dy.int x.2]) x.1, (fun d => d) x.2]) xs)) p_2749.2) = true ∧ Dy.shp ((fun xs => Dy.lst (List.map (fun x => Dy.tup [(fun x => Dy.tup [Dy.int x.1, Dy.int x.2]) x.1, (fun d => d) x.2]) xs)) ([] : List ((Int × Int) × Dy))) = true) (!Dy.eqv ((fun xs => Dy.lst (List.map (fun x => Dy.tup [(fun x => Dy.tup [Dy.int x.1, Dy.int x.2]) x.1, (fun d => d) x.2]) xs)) p_2749.2) ((fun xs => Dy.lst (List.map (fun x => Dy.tup [(fun x => Dy.tup [Dy.int x.1, Dy.int x.2]) x.1, (fun d => d) x.2]) xs)) ([] : List ((Int × Int) × Dy)))) else R.ok false).bind fun x_2797 => if x_2797 = true then (ofOpt (atI p_2749.2 p_2754.2)).bind fun p_2779 => (((chk ((cutL p_2749.2 none (some p_2754.2)).length + ([((p_2779.1.1, (p_2779.1.2 + (1 : Int))), p_2779.2)]).length ≤ sizeLine) (cutL p_2749.2 none (some p_2754.2) ++ [((p_2779.1.1, (p_2779.1.2 + (1 : Int))), p_2779.2)])).bind fun x_2780 => chk ((x_2780).length + (cutL p_2749.2 (some (p_2754.2 + (1 : Int))) none).length ≤ sizeLine) (x_2780 ++ cutL p_2749.2 (some (p_2754.2 + (1 : Int))) none)).bind fun x_2781 => R.ok (p_2749.1, x_2781)).bind fun x_2782 => R.ok (x_2782, pot_2759) else if (decide (p_2751.2 = (6 : Int))) = true then ((ofOpt (atI v_cells p_2758.2)).bind fun x_2783 => R.ok (x_2783, p_2749.2)).bind fun x_2784 => R.ok (x_2784, pot_2759) else if (decide (p_2751.2 = (7 : Int))) = true then R.ok ((((p_2749.1.1 - (10000000 : Int)), p_2749.1.2), p_2749.2), pot_2759) else if ((decide (p_2751.2 = (8 : Int))) && (decide ((1 : Int) < ((p_2749.2).length : Int)))) = true then ((chk ((cutL p_2749.2 (some (1 : Int)) none).length + (cutL p_2749.2 none (some (1 : Int))).length ≤ sizeLine) (cutL p_2749.2 (some (1 : Int)) none ++ cutL p_2749.2 none (some (1 : Int)))).bind fun x_2785 => R.ok (p_2749.1, x_2785)).bind fun x_2786 => R.ok (x_2786, pot_2759) else (((((((ofOpt (atI v_cells p_2758.2)).bind fun x_2790 => R.ok (x_2790, ([] : List Int))).bind fun x_2791 => R.ok ((fun x => Dy.tup [(fun x => Dy.tup [Dy.int x.1, Dy.int x.2]) x.1, (fun xs => Dy.lst (List.map Dy.int xs)) x.2]) x_2791)).bind fun x_2792 => R.ok (p_2749.1, x_2792)).bind fun x_2793 => R.ok (x_2793 :: [])).bind fun x_2794 => chk ((p_2749.2).length + (x_2794).length ≤ sizeLine) (p_2749.2 ++ x_2794)).bind fun x_2795 => R.ok (p_2749.1, x_2795)).bind fun x_2796 => R.ok (x_2796, pot_2759)
def m_law_endless (v_shape : ((List (Int × Int)) × Bool)) (v_piece : List (Int × Int)) (v_many : Int) (v_tree : ((Int × Int) × (List ((Int × Int) × Dy)))) : R Bool :=
  let kind_2825 : Option Str := (none : Option Str); (catchR (fun s => if s = ("Endless" : Str) then some true else if s = ("NoMarks" : Str) then some true else if s = ("TooMany" : Str) then some true else none) (fun r_2836 => R.ok (some r_2836.cls)) (((m_fewer_right v_shape v_piece v_many v_tree).bind fun _ => R.ok kind_2825) : R (Option Str))).bind fun s_2841 => ((ofOpt s_2841).bind fun cl_2842 => ofOpt ((fun s => if s = ("Endless" : Str) then some false else if s = ("NoMarks" : Str) then some true else if s = ("TooMany" : Str) then some true else none) cl_2842)).bind fun x_2846 => if x_2846 = true then R.ok false else ((ofOpt s_2841).bind fun cl_2843 => ofOpt ((fun s => if s = ("Endless" : Str) then some true else if s = ("NoMarks" : Str) then some false else if s = ("TooMany" : Str) then some false else none) cl_2843)).bind fun x_2845 => if x_2845 = true then (ofOpt s_2841).bind fun cl_2844 => ofOpt ((fun s => if s = ("Endless" : Str) then some true else if s = ("NoMarks" : Str) then some true else if s = ("TooMany" : Str) then some true else none) cl_2844) else R.ok false
def m_law (v_script : List Int) : R Bool :=
  ((((m_law_cell v_script (0 : Int)).bind fun x_2859 => R.ok (x_2859, (1 : Int))).bind fun x_2860 => m_law_deal x_2860.1 x_2860.2).bind fun x_2861 => m_law_piece x_2861).bind fun p_2862 => (((m_law_cell v_script (1 : Int)).bind fun x_2863 => R.ok (x_2863 :: [])).bind fun x_2864 => chk ((x_2864).length + (cutL v_script (some (2 : Int)) (some (10 : Int))).length ≤ sizeLine) (x_2864 ++ cutL v_script (some (2 : Int)) (some (10 : Int)))).bind fun x_2915 => (forS (τ := Unit) (γ := Bool) (fun s_2865 x_2866 => (((m_law_deal x_2866 (2 : Int)).bind fun x_2867 => R.ok (x_2867, (p_2862.1, (4 : Int)))).bind fun x_2868 => m_law_marked x_2868.1 x_2868.2.1 x_2868.2.2).bind fun p_2869 => ((m_law_greatest p_2869.1 p_2862.1).bind fun x_2870 => R.ok (sortC x_2870)).bind fun found_2871 => ((((m_law_brought found_2871 p_2862.1).bind fun x_2872 => R.ok x_2872).bind fun x_2873 => R.ok (decide (x_2873 = p_2869.1))).bind fun x_2874 => R.ok (x_2874 && (decide (((found_2871).length : Int) ≤ (12 : Int))))).bind fun x_2913 => ((if x_2913 = true then (m_fewer_paper (p_2869.1, false) p_2862.1).bind fun told_2875 => ((m_fewest (p_2869.1, false) p_2862.1).bind fun x_2876 => R.ok ((x_2876).length : Int)).bind fun many_2877 => if (!decide (((told_2875).isN) = (decide (many_2877 = (0 : Int))))) = true then R.ok (Sum.inl (Stp.rt false)) else (if (decide ((0 : Int) < many_2877)) = true then (((((((ofOpt ((asTu (asc (asTu (asc asI (as1 asI))) (as1 (asL (asTu (asc (asTu (asc asI (as1 asI))) (as1 some))))))) told_2875)).bind fun x_2878 => R.ok ((many_2877 - (1 : Int)), x_2878)).bind fun x_2879 => R.ok (([] : List (Int × Int)), x_2879)).bind fun x_2880 => R.ok (found_2871, x_2880)).bind fun x_2881 => R.ok (p_2862.1, x_2881)).bind fun x_2882 => R.ok (p_2869.1, x_2882)).bind fun x_2883 => m_law_right 15 x_2883.1 x_2883.2.1 x_2883.2.2.1 x_2883.2.2.2.1 x_2883.2.2.2.2.1 x_2883.2.2.2.2.2).bind fun x_2884 => R.ok (!x_2884) else R.ok false).bind fun x_2891 => if x_2891 = true then R.ok (Sum.inl (Stp.rt false)) else (if (decide ((0 : Int) < many_2877)) = true then (((((ofOpt ((asTu (asc (asTu (asc asI (as1 asI))) (as1 (asL (asTu (asc (asTu (asc asI (as1 asI))) (as1 some))))))) told_2875)).bind fun x_2885 => R.ok ((many_2877 - (1 : Int)), x_2885)).bind fun x_2886 => R.ok (p_2862.1, x_2886)).bind fun x_2887 => R.ok ((p_2869.1, false), x_2887)).bind fun x_2888 => m_fewer_right x_2888.1 x_2888.2.1 x_2888.2.2.1 x_2888.2.2.2).bind fun x_2889 => R.ok (!decide (x_2889 = true)) else R.ok false).bind fun x_2890 => if x_2890 = true then R.ok (Sum.inl (Stp.rt false)) else R.ok (Sum.inr ()) else R.ok (Sum.inr ())) : R (Sum _ Unit)).bind (sumK fun s_2892 => if (!decide (p_2869.1 = ([] : List (Int × Int)))) = true then let pot_2893 : List Int := [p_2869.2]; ((ofOpt (atI pot_2893 (0 : Int))).bind fun x_2894 => R.ok (x_2894 / (4 : Int), x_2894 % (4 : Int))).bind fun p_2895 => (chk (0 < pot_2893.length) ()).bind fun _ => let pot_2896 : List Int := (pot_2893.set 0 p_2895.1); (m_law_tree 6 pot_2896 p_2869.1 p_2862.1 found_2871 ([] : List (Int × Int)) (if ((2 : Int) + (if (decide (((p_2862.1).length : Int) < (4 : Int))) = true then (1 : Int) else 0)) < p_2895.2 then ((2 : Int) + (if (decide (((p_2862.1).length : Int) < (4 : Int))) = true then (1 : Int) else 0)) else p_2895.2)).calm.bind fun tree_2897 => ((ofOpt (atI tree_2897.2 (0 : Int))).bind fun x_2898 => R.ok (x_2898 / (2 : Int), x_2898 % (2 : Int))).bind fun p_2899 => (chk (0 < tree_2897.2.length) ()).bind fun _ => let pot_2900 : List Int := (tree_2897.2.set 0 p_2899.1); ((if (decide (p_2899.2 = (1 : Int))) = true then (m_law_spoilt 6 pot_2900 p_2869.1 tree_2897.1).calm.bind fun tree_2901 => R.ok tree_2901.1 else R.ok tree_2897.1) : R ((Int × Int) × (List ((Int × Int) × Dy)))).bind fun s_2903 => (if (decide (p_2899.2 = (p_2895.2 % (2 : Int)))) = true then (m_law_endless (p_2869.1, true) p_2862.1 p_2895.2 s_2903).bind fun x_2904 => R.ok (!x_2904) else R.ok false).bind fun x_2908 => if x_2908 = true then R.ok (Stp.rt false) else (m_fewer_right (p_2869.1, false) p_2862.1 p_2895.2 s_2903).bind fun told_2905 => (if (!true) = true then R.ok true else (m_law_right 15 p_2869.1 p_2862.1 found_2871 ([] : List (Int × Int)) p_2895.2 s_2903).bind fun x_2906 => R.ok (!decide (told_2905 = x_2906))).bind fun x_2907 => if x_2907 = true then R.ok (Stp.rt false) else R.ok (Stp.nx ()) else R.ok (Stp.nx ()))) x_2915 ()).bind (outK (fun s_2914 => R.ok true) (fun a => a))
/-- what stands behind the top -/
structure Txt (K : PySem.W.Frag) (mg : Str → Option Value) (Ad : Adr) : Prop where
  gc_BadCell : mg "BadCell" = some (.ref Ad.c_BadCell)
  gc_BadDeed : mg "BadDeed" = some (.ref Ad.c_BadDeed)
  gc_BadPiece : mg "BadPiece" = some (.ref Ad.c_BadPiece)
  gc_BadTurn : mg "BadTurn" = some (.ref Ad.c_BadTurn)
  gc_Endless : mg "Endless" = some (.ref Ad.c_Endless)
  gc_MossError : mg "MossError" = some (.ref Ad.c_MossError)
  gc_NoCell : mg "NoCell" = some (.ref Ad.c_NoCell)
  gc_NoMarks : mg "NoMarks" = some (.ref Ad.c_NoMarks)
  gc_NoText : mg "NoText" = some (.ref Ad.c_NoText)
  gc_TooMany : mg "TooMany" = some (.ref Ad.c_TooMany)
  gc_TooWide : mg "TooWide" = some (.ref Ad.c_TooWide)
  x_Endless : ExX K mg "Endless" Ad.c_Endless
  x_NoMarks : ExX K mg "NoMarks" Ad.c_NoMarks
  x_TooMany : ExX K mg "TooMany" Ad.c_TooMany
  e_Endless_MossError : PySem.W.exmOne K (.ref Ad.c_Endless) (.ref Ad.c_MossError) = some true
  e_NoMarks_MossError : PySem.W.exmOne K (.ref Ad.c_NoMarks) (.ref Ad.c_MossError) = some true
  e_TooMany_MossError : PySem.W.exmOne K (.ref Ad.c_TooMany) (.ref Ad.c_MossError) = some true
  i_Endless_Endless : PySem.W.kitOne K (.ref Ad.c_Endless) (.ref Ad.c_Endless) = some true
  i_Endless_ValueError : PySem.W.kitOne K (.ref Ad.c_Endless) (.type "ValueError") = some true
  i_NoMarks_Endless : PySem.W.kitOne K (.ref Ad.c_NoMarks) (.ref Ad.c_Endless) = some false
  i_NoMarks_ValueError : PySem.W.kitOne K (.ref Ad.c_NoMarks) (.type "ValueError") = some true
  i_TooMany_Endless : PySem.W.kitOne K (.ref Ad.c_TooMany) (.ref Ad.c_Endless) = some false
  i_TooMany_ValueError : PySem.W.kitOne K (.ref Ad.c_TooMany) (.type "ValueError") = some true
  t_Endless_BadCell_BadDeed_BadPiece_BadTurn_NoCell_NoMarks_NoText_TooMany_TooWide : PySem.W.kitAny K (.ref Ad.c_Endless) [.ref Ad.c_BadCell, .ref Ad.c_BadDeed, .ref Ad.c_BadPiece, .ref Ad.c_BadTurn, .ref Ad.c_NoCell, .ref Ad.c_NoMarks, .ref Ad.c_NoText, .ref Ad.c_TooMany, .ref Ad.c_TooWide] = some false
  t_NoMarks_BadCell_BadDeed_BadPiece_BadTurn_NoCell_NoMarks_NoText_TooMany_TooWide : PySem.W.kitAny K (.ref Ad.c_NoMarks) [.ref Ad.c_BadCell, .ref Ad.c_BadDeed, .ref Ad.c_BadPiece, .ref Ad.c_BadTurn, .ref Ad.c_NoCell, .ref Ad.c_NoMarks, .ref Ad.c_NoText, .ref Ad.c_TooMany, .ref Ad.c_TooWide] = some true
  t_TooMany_BadCell_BadDeed_BadPiece_BadTurn_NoCell_NoMarks_NoText_TooMany_TooWide : PySem.W.kitAny K (.ref Ad.c_TooMany) [.ref Ad.c_BadCell, .ref Ad.c_BadDeed, .ref Ad.c_BadPiece, .ref Ad.c_BadTurn, .ref Ad.c_NoCell, .ref Ad.c_NoMarks, .ref Ad.c_NoText, .ref Ad.c_TooMany, .ref Ad.c_TooWide] = some true
  F__law_cell : FunZ K "_law_cell" "_law_cell" s_law_cell Ad.f_law_cell Ad.d_law_cell
  g__law_cell : mg "_law_cell" = some (.ref Ad.f_law_cell)
  k__law_cell : PySem.W.keepIn K (.ref Ad.f_law_cell) = true
  b__law_cell : Binds K Ad.d_law_cell ["script", "k"] []
  F__law_deal : FunZ K "_law_deal" "_law_deal" s_law_deal Ad.f_law_deal Ad.d_law_deal
  g__law_deal : mg "_law_deal" = some (.ref Ad.f_law_deal)
  k__law_deal : PySem.W.keepIn K (.ref Ad.f_law_deal) = true
  b__law_deal : Binds K Ad.d_law_deal ["cell", "salt"] []
  F__law_piece : FunZ K "_law_piece" "_law_piece" s_law_piece Ad.f_law_piece Ad.d_law_piece
  g__law_piece : mg "_law_piece" = some (.ref Ad.f_law_piece)
  k__law_piece : PySem.W.keepIn K (.ref Ad.f_law_piece) = true
  b__law_piece : Binds K Ad.d_law_piece ["number"] []
  F__law_base : FunZ K "_law_base" "_law_base" s_law_base Ad.f_law_base Ad.d_law_base
  g__law_base : mg "_law_base" = some (.ref Ad.f_law_base)
  k__law_base : PySem.W.keepIn K (.ref Ad.f_law_base) = true
  b__law_base : Binds K Ad.d_law_base ["number"] []
  F__law_kept : FunZ K "_law_kept" "_law_kept" s_law_kept Ad.f_law_kept Ad.d_law_kept
  g__law_kept : mg "_law_kept" = some (.ref Ad.f_law_kept)
  k__law_kept : PySem.W.keepIn K (.ref Ad.f_law_kept) = true
  b__law_kept : Binds K Ad.d_law_kept ["row", "column"] []
  F__law_marked : FunZ K "_law_marked" "_law_marked" s_law_marked Ad.f_law_marked Ad.d_law_marked
  g__law_marked : mg "_law_marked" = some (.ref Ad.f_law_marked)
  k__law_marked : PySem.W.keepIn K (.ref Ad.f_law_marked) = true
  b__law_marked : Binds K Ad.d_law_marked ["number", "piece", "most"] []
  F__law_less : FunZ K "_law_less" "_law_less" s_law_less Ad.f_law_less Ad.d_law_less
  g__law_less : mg "_law_less" = some (.ref Ad.f_law_less)
  k__law_less : PySem.W.keepIn K (.ref Ad.f_law_less) = true
  b__law_less : Binds K Ad.d_law_less ["cell", "step"] []
  F__law_led : FunZ K "_law_led" "_law_led" s_law_led Ad.f_law_led Ad.d_law_led
  g__law_led : mg "_law_led" = some (.ref Ad.f_law_led)
  k__law_led : PySem.W.keepIn K (.ref Ad.f_law_led) = true
  b__law_led : Binds K Ad.d_law_led ["cell", "step"] []
  F__law_greatest : FunZ K "_law_greatest" "_law_greatest" s_law_greatest Ad.f_law_greatest Ad.d_law_greatest
  g__law_greatest : mg "_law_greatest" = some (.ref Ad.f_law_greatest)
  k__law_greatest : PySem.W.keepIn K (.ref Ad.f_law_greatest) = true
  b__law_greatest : Binds K Ad.d_law_greatest ["cells", "piece"] []
  F__law_brought : FunZ K "_law_brought" "_law_brought" s_law_brought Ad.f_law_brought Ad.d_law_brought
  g__law_brought : mg "_law_brought" = some (.ref Ad.f_law_brought)
  k__law_brought : PySem.W.keepIn K (.ref Ad.f_law_brought) = true
  b__law_brought : Binds K Ad.d_law_brought ["found", "piece"] []
  F_look_finite : FunZ K "look_finite" "look_finite" slook_finite Ad.flook_finite Ad.dlook_finite
  g_look_finite : mg "look_finite" = some (.ref Ad.flook_finite)
  k_look_finite : PySem.W.keepIn K (.ref Ad.flook_finite) = true
  b_look_finite : Binds K Ad.dlook_finite ["shape"] []
  F_rising : FunZ K "rising" "rising" srising Ad.frising Ad.drising
  g_rising : mg "rising" = some (.ref Ad.frising)
  k_rising : PySem.W.keepIn K (.ref Ad.frising) = true
  b_rising : Binds K Ad.drising ["cells"] []
  F_mirrored : FunZ K "mirrored" "mirrored" smirrored Ad.fmirrored Ad.dmirrored
  g_mirrored : mg "mirrored" = some (.ref Ad.fmirrored)
  k_mirrored : PySem.W.keepIn K (.ref Ad.fmirrored) = true
  b_mirrored : Binds K Ad.dmirrored ["piece"] []
  F_moved_cell : FunZ K "moved_cell" "moved_cell" smoved_cell Ad.fmoved_cell Ad.dmoved_cell
  g_moved_cell : mg "moved_cell" = some (.ref Ad.fmoved_cell)
  k_moved_cell : PySem.W.keepIn K (.ref Ad.fmoved_cell) = true
  b_moved_cell : Binds K Ad.dmoved_cell ["cell", "step"] []
  F_lies_on : FunZ K "lies_on" "lies_on" slies_on Ad.flies_on Ad.dlies_on
  g_lies_on : mg "lies_on" = some (.ref Ad.flies_on)
  k_lies_on : PySem.W.keepIn K (.ref Ad.flies_on) = true
  b_lies_on : Binds K Ad.dlies_on ["piece", "cell"] []
  F_reached : FunZ K "reached" "reached" sreached Ad.freached Ad.dreached
  g_reached : mg "reached" = some (.ref Ad.freached)
  k_reached : PySem.W.keepIn K (.ref Ad.freached) = true
  b_reached : Binds K Ad.dreached ["cells", "piece"] []
  F_less_cell : FunZ K "less_cell" "less_cell" sless_cell Ad.fless_cell Ad.dless_cell
  g_less_cell : mg "less_cell" = some (.ref Ad.fless_cell)
  k_less_cell : PySem.W.keepIn K (.ref Ad.fless_cell) = true
  b_less_cell : Binds K Ad.dless_cell ["cell", "step"] []
  F_kept_at : FunZ K "kept_at" "kept_at" skept_at Ad.fkept_at Ad.dkept_at
  g_kept_at : mg "kept_at" = some (.ref Ad.fkept_at)
  k_kept_at : PySem.W.keepIn K (.ref Ad.fkept_at) = true
  b_kept_at : Binds K Ad.dkept_at ["cells", "piece"] []
  F_eaten : FunZ K "eaten" "eaten" seaten Ad.featen Ad.deaten
  g_eaten : mg "eaten" = some (.ref Ad.featen)
  k_eaten : PySem.W.keepIn K (.ref Ad.featen) = true
  b_eaten : Binds K Ad.deaten ["shape", "piece"] []
  F_bringing : FunZ K "bringing" "bringing" sbringing Ad.fbringing Ad.dbringing
  g_bringing : mg "bringing" = some (.ref Ad.fbringing)
  k_bringing : PySem.W.keepIn K (.ref Ad.fbringing) = true
  b_bringing : Binds K Ad.dbringing ["found", "piece"] []
  F_marks : FunZ K "marks" "marks" smarks Ad.fmarks Ad.dmarks
  g_marks : mg "marks" = some (.ref Ad.fmarks)
  k_marks : PySem.W.keepIn K (.ref Ad.fmarks) = true
  b_marks : Binds K Ad.dmarks ["shape", "piece"] []
  F_greatest : FunZ K "greatest" "greatest" sgreatest Ad.fgreatest Ad.dgreatest
  g_greatest : mg "greatest" = some (.ref Ad.fgreatest)
  k_greatest : PySem.W.keepIn K (.ref Ad.fgreatest) = true
  b_greatest : Binds K Ad.dgreatest ["shape", "piece"] []
  F_is_brought : FunZ K "is_brought" "is_brought" sis_brought Ad.fis_brought Ad.dis_brought
  g_is_brought : mg "is_brought" = some (.ref Ad.fis_brought)
  k_is_brought : PySem.W.keepIn K (.ref Ad.fis_brought) = true
  b_is_brought : Binds K Ad.dis_brought ["piece", "taken", "cell"] []
  F_tried : FunZ K "tried" "tried" stried Ad.ftried Ad.dtried
  g_tried : mg "tried" = some (.ref Ad.ftried)
  k_tried : PySem.W.keepIn K (.ref Ad.ftried) = true
  b_tried : Binds K Ad.dtried ["cells", "ways", "piece", "taken", "many"] []
  F_fewest_and_tree : FunZ K "fewest_and_tree" "fewest_and_tree" sfewest_and_tree Ad.ffewest_and_tree Ad.dfewest_and_tree
  g_fewest_and_tree : mg "fewest_and_tree" = some (.ref Ad.ffewest_and_tree)
  k_fewest_and_tree : PySem.W.keepIn K (.ref Ad.ffewest_and_tree) = true
  b_fewest_and_tree : Binds K Ad.dfewest_and_tree ["shape", "piece"] []
  F_fewer_paper : FunZ K "fewer_paper" "fewer_paper" sfewer_paper Ad.ffewer_paper Ad.dfewer_paper
  g_fewer_paper : mg "fewer_paper" = some (.ref Ad.ffewer_paper)
  k_fewer_paper : PySem.W.keepIn K (.ref Ad.ffewer_paper) = true
  b_fewer_paper : Binds K Ad.dfewer_paper ["shape", "piece"] []
  F_fewest : FunZ K "fewest" "fewest" sfewest Ad.ffewest Ad.dfewest
  g_fewest : mg "fewest" = some (.ref Ad.ffewest)
  k_fewest : PySem.W.keepIn K (.ref Ad.ffewest) = true
  b_fewest : Binds K Ad.dfewest ["shape", "piece"] []
  F__law_on : FunZ K "_law_on" "_law_on" s_law_on Ad.f_law_on Ad.d_law_on
  g__law_on : mg "_law_on" = some (.ref Ad.f_law_on)
  k__law_on : PySem.W.keepIn K (.ref Ad.f_law_on) = true
  b__law_on : Binds K Ad.d_law_on ["piece", "taken", "cell"] []
  F__law_ways : FunZ K "_law_ways" "_law_ways" s_law_ways Ad.f_law_ways Ad.d_law_ways
  g__law_ways : mg "_law_ways" = some (.ref Ad.f_law_ways)
  k__law_ways : PySem.W.keepIn K (.ref Ad.f_law_ways) = true
  b__law_ways : Binds K Ad.d_law_ways ["found", "piece", "cell"] []
  F__law_right : FunZ K "_law_right" "_law_right" s_law_right Ad.f_law_right Ad.d_law_right
  g__law_right : mg "_law_right" = some (.ref Ad.f_law_right)
  k__law_right : PySem.W.keepIn K (.ref Ad.f_law_right) = true
  b__law_right : Binds K Ad.d_law_right ["cells", "piece", "found", "taken", "many", "tree"] []
  F_has : FunZ K "has" "has" shas Ad.fhas Ad.dhas
  g_has : mg "has" = some (.ref Ad.fhas)
  k_has : PySem.W.keepIn K (.ref Ad.fhas) = true
  b_has : Binds K Ad.dhas ["shape", "cell"] []
  F_places_on : FunZ K "places_on" "places_on" splaces_on Ad.fplaces_on Ad.dplaces_on
  g_places_on : mg "places_on" = some (.ref Ad.fplaces_on)
  k_places_on : PySem.W.keepIn K (.ref Ad.fplaces_on) = true
  b_places_on : Binds K Ad.dplaces_on ["piece", "cell"] []
  F_whole_at : FunZ K "whole_at" "whole_at" swhole_at Ad.fwhole_at Ad.dwhole_at
  g_whole_at : mg "whole_at" = some (.ref Ad.fwhole_at)
  k_whole_at : PySem.W.keepIn K (.ref Ad.fwhole_at) = true
  b_whole_at : Binds K Ad.dwhole_at ["shape", "piece", "cell"] []
  F_tree_right : FunZ K "tree_right" "tree_right" stree_right Ad.ftree_right Ad.dtree_right
  g_tree_right : mg "tree_right" = some (.ref Ad.ftree_right)
  k_tree_right : PySem.W.keepIn K (.ref Ad.ftree_right) = true
  b_tree_right : Binds K Ad.dtree_right ["shape", "piece", "taken", "many", "tree"] []
  F_fewer_right : FunZ K "fewer_right" "fewer_right" sfewer_right Ad.ffewer_right Ad.dfewer_right
  g_fewer_right : mg "fewer_right" = some (.ref Ad.ffewer_right)
  k_fewer_right : PySem.W.keepIn K (.ref Ad.ffewer_right) = true
  b_fewer_right : Binds K Ad.dfewer_right ["shape", "piece", "many", "tree"] []
  F__law_tree : FunZ K "_law_tree" "_law_tree" s_law_tree Ad.f_law_tree Ad.d_law_tree
  g__law_tree : mg "_law_tree" = some (.ref Ad.f_law_tree)
  k__law_tree : PySem.W.keepIn K (.ref Ad.f_law_tree) = true
  b__law_tree : Binds K Ad.d_law_tree ["cells", "piece", "found", "taken", "many", "pot"] []
  F__law_spoilt : FunZ K "_law_spoilt" "_law_spoilt" s_law_spoilt Ad.f_law_spoilt Ad.d_law_spoilt
  g__law_spoilt : mg "_law_spoilt" = some (.ref Ad.f_law_spoilt)
  k__law_spoilt : PySem.W.keepIn K (.ref Ad.f_law_spoilt) = true
  b__law_spoilt : Binds K Ad.d_law_spoilt ["cells", "tree", "pot"] []
  F__law_endless : FunZ K "_law_endless" "_law_endless" s_law_endless Ad.f_law_endless Ad.d_law_endless
  g__law_endless : mg "_law_endless" = some (.ref Ad.f_law_endless)
  k__law_endless : PySem.W.keepIn K (.ref Ad.f_law_endless) = true
  b__law_endless : Binds K Ad.d_law_endless ["shape", "piece", "many", "tree"] []
  F_law : FunZ K "law" "law" slaw Ad.flaw Ad.dlaw
  g_law : mg "law" = some (.ref Ad.flaw)
  k_law : PySem.W.keepIn K (.ref Ad.flaw) = true
  b_law : Binds K Ad.dlaw ["script"] []
  n_ValueError : mg "ValueError" = none
  n_all : mg "all" = none
  n_any : mg "any" = none
  n_bool : mg "bool" = none
  n_divmod : mg "divmod" = none
  n_int : mg "int" = none
  n_isinstance : mg "isinstance" = none
  n_len : mg "len" = none
  n_list : mg "list" = none
  n_max : mg "max" = none
  n_min : mg "min" = none
  n_range : mg "range" = none
  n_set : mg "set" = none
  n_sorted : mg "sorted" = none
  n_tuple : mg "tuple" = none
  c_MOST_MARKS : ∃ t, mg "MOST_MARKS" = some (.int 12 t)
section
variable {P : Program} {w : World} {K : PySem.W.Frag} {mg : Str → Option Value} {base : Heap} {Ad : Adr}
theorem w_law_cell (T : Txt K mg Ad) : FnOk P w K mg base (L2.CX P w) 1 Ad.f_law_cell Ad.d_law_cell ["script", "k"] (SpP mg (tc (rScr K) (t1 rI)) rI (fun a => m_law_cell a.1 a.2)) :=
  have hnd := sc_law_cell.nd
  f_ok (fun a => [im (rScr K) a.1, im rI a.2]) T.F__law_cell sc_law_cell (arc ar1) rfl (by decide) (fun _ => rfl) (fun cdv A outer s H E hr tk hp a => SX.cv (
    (p_ifT (x_tcmp op_lt dIb (x_var 1 rfl) (x_len dLenS T.n_len (a_one (x_var 0 rfl)))) (p_retf [] (fun _ => rfl) .nil (x_ixS (x_var 0 rfl) (x_var 1 rfl))) (p_retf [] (fun _ => rfl) .nil x_int))) (by unfold m_law_cell; simp only [ok_bindP, ok_calmP, chk_calmP, opt_calmP, R.bind_pure, R.bind_assoc] <;> rfl))
theorem w_law_deal (T : Txt K mg Ad) : FnOk P w K mg base (L2.CX P w) 1 Ad.f_law_deal Ad.d_law_deal ["cell", "salt"] (SpP mg (tc rI (t1 rI)) rI (fun a => m_law_deal a.1 a.2)) :=
  have hnd := sc_law_deal.nd
  f_ok (fun a => [im rI a.1, im rI a.2, .any, .any, .any]) T.F__law_deal sc_law_deal (arc ar1) rfl (by decide) (fun _ => rfl) (fun cdv A outer s H E hr tk hp a => SX.cv (
    (p_ifT (x_tcmp op_ge dIb (x_var 0 rfl) (x_powC 1000000000000000000)) (p_retf [] (fun _ => rfl) .nil (x_sub (x_var 0 rfl) (x_powC 1000000000000000000))) (p_set 2 hnd (x_modC (x_var 0 rfl)) (fun one_2182 => (p_set 3 hnd x_int (fun number_2183 => (p_for (vs := [4]) (fun (s : (Int × Int)) => [im rI a.1, im rI a.2, im rI s.1, im rI s.2, .any]) _ (one_2182, number_2183) hp (i_rangeC T.n_range) (gt_name 4 (by decide) hnd) (fun s_2184 x_2185 => (p_set 2 hnd (x_modC (x_mulC (x_add (x_add (x_add (x_var 2 rfl) (x_mul (x_mulCl (x_var 4 rfl)) (x_var 4 rfl))) (x_mulCl (x_var 1 rfl))) x_int))) (fun one_2191 => (p_set 2 hnd (x_modC (x_mul (x_var 2 rfl) (x_var 2 rfl))) (fun one_2193 => (p_set 3 hnd (x_add (x_mulC (x_var 3 rfl)) (x_fdivC (x_modC (x_mulC (x_var 2 rfl))))) (fun number_2194 => (s_go (o := (one_2193, number_2194)) rfl (.cons .rfl (.cons .rfl (.cons .rfl (.cons .rfl (.cons .any .nil))))))))))))) (.cons .rfl (.cons .rfl (.cons .rfl (.cons .rfl (.cons .any .nil))))) (fun s_2195 => (p_retf [] (fun _ => rfl) .nil (x_var 3 rfl)))))))))) (by unfold m_law_deal; simp only [ok_bindP, ok_calmP, chk_calmP, opt_calmP, R.bind_pure, R.bind_assoc] <;> rfl))
theorem w_law_piece (T : Txt K mg Ad) : FnOk P w K mg base (L2.CX P w) 1 Ad.f_law_piece Ad.d_law_piece ["number"] (SpP mg (t1 rI) (rTu (tc (rT rC) (t1 rI))) (fun a => m_law_piece a)) :=
  have hnd := sc_law_piece.nd
  f_ok (fun a => [im rI a, .any, .any, .any, .any, .any, .any, .any, .any]) T.F__law_piece sc_law_piece ar1 rfl (by decide) (fun _ => rfl) (fun cdv A outer s H E hr tk hp a => SX.cv (
    (p_asg (vs := [0, 3]) (gt_tup rfl (gts_cons (gt_name 0 (by decide) hnd) (gts_one (gt_name 3 (by decide) hnd)))) (x_dvmC T.n_divmod (x_var 0 rfl) x_int) (fun p_2215 => (p_asg (vs := [4, 0]) (gt_tup rfl (gts_cons (gt_name 0 (by decide) hnd) (gts_one (gt_name 4 (by decide) hnd)))) (x_dvmC T.n_divmod (x_var 0 rfl) x_int) (fun p_2216 => (p_ifJ (fun (s : (Int × Int)) => [im rI s.1, .any, .any, im rI p_2215.2, im rI s.2, .any, .any, .any, .any]) (x_tcmp op_eq dEqI (x_var 3 rfl) x_int) (p_asg (vs := [4, 0]) (gt_tup rfl (gts_cons (gt_name 0 (by decide) hnd) (gts_one (gt_name 4 (by decide) hnd)))) (x_dvmC T.n_divmod (x_var 0 rfl) x_int) (fun p_2217 => (s_nx (o := (p_2217.1, p_2217.2)) rfl (.cons .rfl (.cons .any (.cons .any (.cons .rfl (.cons .rfl (.cons .any (.cons .any (.cons .any (.cons .any .nil)))))))))))) (s_nx (o := (p_2216.1, p_2216.2)) rfl (.cons .rfl (.cons .any (.cons .any (.cons .rfl (.cons .rfl (.cons .any (.cons .any (.cons .any (.cons .any .nil)))))))))) (fun s_2218 => (p_own 1 hnd (f_dict (ky := kyC) (π := rB)) (fun _ => (p_for (vs := [2]) (fun (s : (Int × (List ((Int × Int) × Bool)))) => [im rI s.1, .own none (oD kyC rB s.2), .any, im rI p_2215.2, im rI s_2218.2, .any, .any, .any, .any]) _ (s_2218.1, ([] : List ((Int × Int) × Bool))) hp (i_range1 T.n_range (a_one (x_add x_int (x_var 4 rfl)))) (gt_name 2 (by decide) hnd) (fun s_2219 x_2220 => (p_asg (vs := [6, 0]) (gt_tup rfl (gts_cons (gt_name 0 (by decide) hnd) (gts_one (gt_name 6 (by decide) hnd)))) (x_dvmC T.n_divmod (x_var 0 rfl) x_int) (fun p_2221 => (p_set 5 hnd (x_tup (a_cons (x_sub (x_fdivC (x_var 6 rfl)) x_int) (a_one (x_sub (x_modC (x_var 6 rfl)) x_int))) (fun _ _ _ h => sz ((nc (fun _ _ _ h => n1 h)) h) (by decide))) (fun step_2222 => (p_ifJ (fun (s : (Int × (Int × Int))) => [im rI s.1, .own none (oD kyC rB s_2219.2), im rI x_2220, im rI p_2215.2, im rI s_2218.2, im rC s.2, im rI p_2221.2, .any, .any]) (x_tcmp op_eq dEqI (x_var 3 rfl) x_int) (p_asg (vs := [0, 7]) (gt_tup rfl (gts_cons (gt_name 0 (by decide) hnd) (gts_one (gt_name 7 (by decide) hnd)))) (x_dvm T.n_divmod (a_cons (x_var 0 rfl) (a_one (x_add (x_mulCl (x_powC 1000000)) x_int)))) (fun p_2223 => (p_asg (vs := [8, 0]) (gt_tup rfl (gts_cons (gt_name 0 (by decide) hnd) (gts_one (gt_name 8 (by decide) hnd)))) (x_dvm T.n_divmod (a_cons (x_var 0 rfl) (a_one (x_add (x_mulCl (x_powC 1000000)) x_int)))) (fun p_2224 => (p_set 5 hnd (x_tup (a_cons (x_sub (x_var 7 rfl) (x_powC 1000000)) (a_one (x_sub (x_var 8 rfl) (x_powC 1000000)))) (fun _ _ _ h => sz ((nc (fun _ _ _ h => n1 h)) h) (by decide))) (fun step_2225 => (s_nx (o := (p_2224.1, step_2225)) rfl (.cons .rfl (.cons .rfl (.cons .rfl (.cons .rfl (.cons .rfl (.cons .rfl (.cons .rfl (.cons .any (.cons .any .nil)))))))))))))))) (s_nx (o := (p_2221.1, step_2222)) rfl (.cons .rfl (.cons .rfl (.cons .rfl (.cons .rfl (.cons .rfl (.cons .rfl (.cons .rfl (.cons .any (.cons .any .nil)))))))))) (fun s_2226 => (s_dput 1 (u1 hr) x_bl (x_var 5 rfl) (fun v_2227 k_2228 => (let steps_2229 : List ((Int × Int) × Bool) := (dPut s_2219.2 k_2228 v_2227); (s_go (o := (s_2226.1, steps_2229)) rfl (.cons .rfl (.cons .rfl (.cons .any (.cons .rfl (.cons .rfl (.cons .any (.cons .any (.cons .any (.cons .any .nil)))))))))))))))))))) (.cons .rfl (.cons .rfl (.cons .any (.cons .rfl (.cons .rfl (.cons .any (.cons .any (.cons .any (.cons .any .nil))))))))) (fun s_2230 => (s_giveD 1 rfl (p_retf [] (fun _ => rfl) .nil (x_tup (a_cons (x_callTy call_tuple_of dTupL T.n_tuple (by decide +kernel) (a_one (x_frzE (f_sortD T.n_sorted (x_var 1 rfl))))) (a_one (x_var 0 rfl))) (fun _ _ _ h => sz ((nc (fun _ _ _ h => n1 h)) h) (by decide)))))))))))))))) (by unfold m_law_piece; simp only [ok_bindP, ok_calmP, chk_calmP, opt_calmP, R.bind_pure, R.bind_assoc] <;> rfl))
theorem w_law_base (T : Txt K mg Ad) : FnOk P w K mg base (L2.CX P w) 1 Ad.f_law_base Ad.d_law_base ["number"] (SpP mg (t1 rI) (rTu (tc rC (t1 rI))) (fun a => m_law_base a)) :=
  have hnd := sc_law_base.nd
  f_ok (fun a => [im rI a, .any, .any, .any, .any]) T.F__law_base sc_law_base ar1 rfl (by decide) (fun _ => rfl) (fun cdv A outer s H E hr tk hp a => SX.cv (
    (p_asg (vs := [0, 2]) (gt_tup rfl (gts_cons (gt_name 0 (by decide) hnd) (gts_one (gt_name 2 (by decide) hnd)))) (x_dvmC T.n_divmod (x_var 0 rfl) x_int) (fun p_2251 => (p_ifT (x_tcmp op_gt dIb (x_var 2 rfl) x_int) (p_retf [] (fun _ => rfl) .nil (x_tup (a_cons (x_tup (a_cons x_int (a_one x_int)) (fun _ _ _ h => sz ((nc (fun _ _ _ h => n1 h)) h) (by decide))) (a_one (x_var 0 rfl))) (fun _ _ _ h => sz ((nc (fun _ _ _ h => n1 h)) h) (by decide)))) (p_asg (vs := [0, 3]) (gt_tup rfl (gts_cons (gt_name 0 (by decide) hnd) (gts_one (gt_name 3 (by decide) hnd)))) (x_dvm T.n_divmod (a_cons (x_var 0 rfl) (a_one (x_ixL (x_frzE (f_listN (k := 2) (ln_cons (x_add (x_mulCl (x_powC 1000000000000)) x_int) (ln_cons x_int ln_nil)))) (x_var 2 rfl))))) (fun p_2254 => (p_asg (vs := [4, 0]) (gt_tup rfl (gts_cons (gt_name 0 (by decide) hnd) (gts_one (gt_name 4 (by decide) hnd)))) (x_dvm T.n_divmod (a_cons (x_var 0 rfl) (a_one (x_ixL (x_frzE (f_listN (k := 2) (ln_cons (x_add (x_mulCl (x_powC 1000000000000)) x_int) (ln_cons x_int ln_nil)))) (x_var 2 rfl))))) (fun p_2257 => (p_set 1 hnd (x_ixL (x_frzE (f_listN (k := 2) (ln_cons x_int (ln_cons (x_mulCl (x_powC 1000000000000)) ln_nil)))) (x_var 2 rfl)) (fun by_2258 => (p_retf [] (fun _ => rfl) .nil (x_tup (a_cons (x_tup (a_cons (x_sub (x_mul (x_var 3 rfl) (x_var 1 rfl)) (x_powC 1000000000000)) (a_one (x_sub (x_mul (x_var 4 rfl) (x_var 1 rfl)) (x_powC 1000000000000)))) (fun _ _ _ h => sz ((nc (fun _ _ _ h => n1 h)) h) (by decide))) (a_one (x_var 0 rfl))) (fun _ _ _ h => sz ((nc (fun _ _ _ h => n1 h)) h) (by decide)))))))))))))) (by unfold m_law_base; simp only [ok_bindP, ok_calmP, chk_calmP, opt_calmP, R.bind_pure, R.bind_assoc] <;> rfl))
theorem w_law_kept (T : Txt K mg Ad) : FnOk P w K mg base (L2.CX P w) 1 Ad.f_law_kept Ad.d_law_kept ["row", "column"] (SpP mg (tc rI (t1 rI)) rC (fun a => m_law_kept a.1 a.2)) :=
  have hnd := sc_law_kept.nd
  f_ok (fun a => [im rI a.1, im rI a.2]) T.F__law_kept sc_law_kept (arc ar1) rfl (by decide) (fun _ => rfl) (fun cdv A outer s H E hr tk hp a => SX.cv (
    (p_retf [] (fun _ => rfl) .nil (x_tup (a_cons (x_callB (call_max2 rfl) dMax T.n_max (by decide +kernel) (a_cons (x_neg (x_powC 1000000000000)) (a_one (x_callB (call_min2 rfl) dMin T.n_min (by decide +kernel) (a_cons (x_powC 1000000000000) (a_one (x_var 0 rfl))))))) (a_one (x_callB (call_max2 rfl) dMax T.n_max (by decide +kernel) (a_cons (x_neg (x_powC 1000000000000)) (a_one (x_callB (call_min2 rfl) dMin T.n_min (by decide +kernel) (a_cons (x_powC 1000000000000) (a_one (x_var 1 rfl))))))))) (fun _ _ _ h => sz ((nc (fun _ _ _ h => n1 h)) h) (by decide))))) (by unfold m_law_kept; simp only [ok_bindP, ok_calmP, chk_calmP, opt_calmP, R.bind_pure, R.bind_assoc] <;> rfl))
theorem w_law_marked (T : Txt K mg Ad) : FnOk P w K mg base (L2.CX P w) 2 Ad.f_law_marked Ad.d_law_marked ["number", "piece", "most"] (SpP mg (tc rI (tc (rT rC) (t1 rI))) (rTu (tc (rT rC) (t1 rI))) (fun a => m_law_marked a.1 a.2.1 a.2.2)) :=
  have hnd := sc_law_marked.nd
  f_ok (fun a => [im rI a.1, im (rT rC) a.2.1, im rI a.2.2, .any, .any, .any, .any, .any, .any, .any]) T.F__law_marked sc_law_marked (arc (arc ar1)) rfl (by decide) (fun _ => rfl) (fun cdv A outer s H E hr tk hp a => SX.cv (
    (p_asg (vs := [5, 0]) (gt_tup rfl (gts_cons (gt_name 5 (by decide) hnd) (gts_one (gt_name 0 (by decide) hnd)))) (x_call (w_law_base T) (hr.mono (by decide)) T.g__law_base T.k__law_base T.b__law_base tk .nil (a_one (x_var 0 rfl))) (fun p_2283 => (p_asg (vs := [6, 0]) (gt_tup rfl (gts_cons (gt_name 0 (by decide) hnd) (gts_one (gt_name 6 (by decide) hnd)))) (x_dvm T.n_divmod (a_cons (x_var 0 rfl) (a_one (x_add (x_var 2 rfl) x_int)))) (fun p_2284 => (p_own 3 hnd (f_dict (ky := kyC) (π := rB)) (fun _ => (p_for (vs := [4]) (fun (s : (Int × (List ((Int × Int) × Bool)))) => [im rI s.1, im (rT rC) a.2.1, im rI a.2.2, .own none (oD kyC rB s.2), .any, im rC p_2283.1, im rI p_2284.2, .any, .any, .any]) _ (p_2284.1, ([] : List ((Int × Int) × Bool))) hp (i_range1 T.n_range (a_one (x_var 6 rfl))) (gt_name 4 (by decide) hnd) (fun s_2285 x_2286 => (p_asg (vs := [9, 0]) (gt_tup rfl (gts_cons (gt_name 0 (by decide) hnd) (gts_one (gt_name 9 (by decide) hnd)))) (x_dvmC T.n_divmod (x_var 0 rfl) x_int) (fun p_2287 => (p_for (vs := [7]) (fun (s : List ((Int × Int) × Bool)) => [im rI p_2287.1, im (rT rC) a.2.1, im rI a.2.2, .own none (oD kyC rB s), im rI x_2286, im rC p_2283.1, im rI p_2284.2, .any, .any, im rI p_2287.2]) _ s_2285.2 hp (i_tup (x_var 1 rfl)) (gt_name 7 (by decide) hnd) (fun s_2288 x_2289 => (s_dput 3 (u1 hr) x_bl (x_call (w_law_kept T) (hr.mono (by decide)) T.g__law_kept T.k__law_kept T.b__law_kept tk .nil (a_cons (x_add (x_add (x_pj 0 pj0 (x_var 5 rfl)) (x_fdivC (x_var 9 rfl))) (x_pj 0 pj0 (x_var 7 rfl))) (a_one (x_add (x_add (x_pj 1 (pjs pj1) (x_var 5 rfl)) (x_modC (x_var 9 rfl))) (x_pj 1 (pjs pj1) (x_var 7 rfl)))))) (fun v_2290 k_2291 => (let cells_2292 : List ((Int × Int) × Bool) := (dPut s_2288 k_2291 v_2290); (s_go (o := cells_2292) rfl (.cons .rfl (.cons .rfl (.cons .rfl (.cons .rfl (.cons .rfl (.cons .rfl (.cons .rfl (.cons .any (.cons .any (.cons .rfl .nil))))))))))))))) (.cons .rfl (.cons .rfl (.cons .rfl (.cons .rfl (.cons .rfl (.cons .rfl (.cons .rfl (.cons .any (.cons .any (.cons .rfl .nil)))))))))) (fun s_2293 => (s_go (o := (p_2287.1, s_2293)) rfl (.cons .rfl (.cons .rfl (.cons .rfl (.cons .rfl (.cons .any (.cons .rfl (.cons .rfl (.cons .any (.cons .any (.cons .any .nil)))))))))))))))) (.cons .rfl (.cons .rfl (.cons .rfl (.cons .rfl (.cons .any (.cons .rfl (.cons .rfl (.cons .any (.cons .any (.cons .any .nil)))))))))) (fun s_2294 => (p_asg (vs := [0, 8]) (gt_tup rfl (gts_cons (gt_name 0 (by decide) hnd) (gts_one (gt_name 8 (by decide) hnd)))) (x_dvmC T.n_divmod (x_var 0 rfl) x_int) (fun p_2295 => (p_ifJ (fun (s : (Int × (List ((Int × Int) × Bool)))) => [im rI s.1, im (rT rC) a.2.1, im rI a.2.2, .own none (oD kyC rB s.2), .any, im rC p_2283.1, im rI p_2284.2, .any, im rI p_2295.2, .any]) (x_tcmp op_eq dEqI (x_var 8 rfl) x_int) (p_asg (vs := [9, 0]) (gt_tup rfl (gts_cons (gt_name 0 (by decide) hnd) (gts_one (gt_name 9 (by decide) hnd)))) (x_dvmC T.n_divmod (x_var 0 rfl) x_int) (fun p_2296 => (s_dput 3 (u1 hr) x_bl (x_call (w_law_kept T) (hr.mono (by decide)) T.g__law_kept T.k__law_kept T.b__law_kept tk .nil (a_cons (x_sub (x_add (x_pj 0 pj0 (x_var 5 rfl)) (x_fdivC (x_var 9 rfl))) x_int) (a_one (x_sub (x_add (x_pj 1 (pjs pj1) (x_var 5 rfl)) (x_modC (x_var 9 rfl))) x_int)))) (fun v_2297 k_2298 => (let cells_2299 : List ((Int × Int) × Bool) := (dPut s_2294.2 k_2298 v_2297); (s_nx (o := (p_2296.1, cells_2299)) rfl (.cons .rfl (.cons .rfl (.cons .rfl (.cons .rfl (.cons .any (.cons .rfl (.cons .rfl (.cons .any (.cons .rfl (.cons .any .nil)))))))))))))))) (s_nx (o := (p_2295.1, s_2294.2)) rfl (.cons .rfl (.cons .rfl (.cons .rfl (.cons .rfl (.cons .any (.cons .rfl (.cons .rfl (.cons .any (.cons .rfl (.cons .any .nil))))))))))) (fun s_2300 => (s_giveD 3 rfl (p_retf [] (fun _ => rfl) .nil (x_tup (a_cons (x_callTy call_tuple_of dTupL T.n_tuple (by decide +kernel) (a_one (x_frzE (f_sortD T.n_sorted (x_var 3 rfl))))) (a_one (x_var 0 rfl))) (fun _ _ _ h => sz ((nc (fun _ _ _ h => n1 h)) h) (by decide)))))))))))))))))) (by unfold m_law_marked; simp only [ok_bindP, ok_calmP, chk_calmP, opt_calmP, R.bind_pure, R.bind_assoc] <;> rfl))
theorem w_law_less (T : Txt K mg Ad) : FnOk P w K mg base (L2.CX P w) 1 Ad.f_law_less Ad.d_law_less ["cell", "step"] (SpP mg (tc rC (t1 rC)) rC (fun a => m_law_less a.1 a.2)) :=
  have hnd := sc_law_less.nd
  f_ok (fun a => [im rC a.1, im rC a.2]) T.F__law_less sc_law_less (arc ar1) rfl (by decide) (fun _ => rfl) (fun cdv A outer s H E hr tk hp a => SX.cv (
    (p_retf [] (fun _ => rfl) .nil (x_tup (a_cons (x_sub (x_pj 0 pj0 (x_var 0 rfl)) (x_pj 0 pj0 (x_var 1 rfl))) (a_one (x_sub (x_pj 1 (pjs pj1) (x_var 0 rfl)) (x_pj 1 (pjs pj1) (x_var 1 rfl))))) (fun _ _ _ h => sz ((nc (fun _ _ _ h => n1 h)) h) (by decide))))) (by unfold m_law_less; simp only [ok_bindP, ok_calmP, chk_calmP, opt_calmP, R.bind_pure, R.bind_assoc] <;> rfl))
theorem w_law_led (T : Txt K mg Ad) : FnOk P w K mg base (L2.CX P w) 1 Ad.f_law_led Ad.d_law_led ["cell", "step"] (SpP mg (tc rC (t1 rC)) rC (fun a => m_law_led a.1 a.2)) :=
  have hnd := sc_law_led.nd
  f_ok (fun a => [im rC a.1, im rC a.2]) T.F__law_led sc_law_led (arc ar1) rfl (by decide) (fun _ => rfl) (fun cdv A outer s H E hr tk hp a => SX.cv (
    (p_retf [] (fun _ => rfl) .nil (x_tup (a_cons (x_add (x_pj 0 pj0 (x_var 0 rfl)) (x_pj 0 pj0 (x_var 1 rfl))) (a_one (x_add (x_pj 1 (pjs pj1) (x_var 0 rfl)) (x_pj 1 (pjs pj1) (x_var 1 rfl))))) (fun _ _ _ h => sz ((nc (fun _ _ _ h => n1 h)) h) (by decide))))) (by unfold m_law_led; simp only [ok_bindP, ok_calmP, chk_calmP, opt_calmP, R.bind_pure, R.bind_assoc] <;> rfl))
theorem w_law_greatest (T : Txt K mg Ad) : FnOk P w K mg base (L2.CX P w) 2 Ad.f_law_greatest Ad.d_law_greatest ["cells", "piece"] (SpP mg (tc (rT rC) (t1 (rT rC))) (rL rC) (fun a => m_law_greatest a.1 a.2)) :=
  have hnd := sc_law_greatest.nd
  f_ok (fun a => [im (rT rC) a.1, im (rT rC) a.2, .any, .any, .any, .any, .any]) T.F__law_greatest sc_law_greatest (arc ar1) rfl (by decide) (fun _ => rfl) (fun cdv A outer s H E hr tk hp a => SX.cv (
    (p_own 2 hnd (f_dict (ky := kyC) (π := rB)) (fun _ => (p_for (vs := [3]) (fun (s : List ((Int × Int) × Bool)) => [im (rT rC) a.1, im (rT rC) a.2, .own none (oD kyC rB s), .any, .any, .any, .any]) _ ([] : List ((Int × Int) × Bool)) hp (i_tup (x_var 0 rfl)) (gt_name 3 (by decide) hnd) (fun s_2323 x_2324 => (s_dput 2 (u1 hr) x_bl (x_var 3 rfl) (fun v_2325 k_2326 => (let held_2327 : List ((Int × Int) × Bool) := (dPut s_2323 k_2326 v_2325); (s_go (o := held_2327) rfl (.cons .rfl (.cons .rfl (.cons .rfl (.cons .any (.cons .any (.cons .any (.cons .any .nil)))))))))))) (.cons .rfl (.cons .rfl (.cons .rfl (.cons .any (.cons .any (.cons .any (.cons .any .nil))))))) (fun s_2328 => (p_own 4 hnd (f_nil (ρ := rC)) (fun found_2329 => (s_giveD 2 rfl (p_for (vs := [3]) (fun (s : List (Int × Int)) => [im (rT rC) a.1, im (rT rC) a.2, im (rD kyC rB) s_2328, .any, .own none (oLi (tl rC) s), .any, .any]) _ found_2329 hp (i_tup (x_var 0 rfl)) (gt_name 3 (by decide) hnd) (fun s_2330 x_2331 => (p_set 5 hnd (x_call (w_law_less T) (hr.mono (by decide)) T.g__law_less T.k__law_less T.b__law_less tk .nil (a_cons (x_var 3 rfl) (a_one (x_ixT (x_var 1 rfl) x_int)))) (fun place_2334 => (p_if2 (x_test (x_callB (cr_all rfl) dAll T.n_all (by decide +kernel) (a_one (x_frzE (f_lcM (own := [("step", 6)]) hnd (i_tup (x_var 1 rfl)) (blkOk_by (N := N_law_greatest) (sc := defScope s_law_greatest) (by decide +kernel)) (fun _ _ _ _ _ => (gt_name 6 (by decide) hnd)) (fun _ _ _ _ _ y_2335 => (c_val (c_in (u1 hr) (x_call (w_law_led T) (hr.mono (by decide)) T.g__law_led T.k__law_led T.b__law_led takes0 .nil (a_cons (x_var 5 rfl) (a_one (x_var 6 rfl)))) (d_imm (x_var 2 rfl)))))))))) (s_append 4 (x_var 5 rfl) (fun y_2338 => (s_go (o := (s_2330 ++ [y_2338])) rfl (.cons .rfl (.cons .rfl (.cons .rfl (.cons .any (.cons .rfl (.cons .any (.cons .any .nil)))))))))) (s_go (o := s_2330) rfl (.cons .rfl (.cons .rfl (.cons .rfl (.cons .any (.cons .rfl (.cons .any (.cons .any .nil)))))))))))) (.cons .rfl (.cons .rfl (.cons .rfl (.cons .any (.cons .rfl (.cons .any (.cons .any .nil))))))) (fun s_2340 => (s_give 4 rfl (p_retf [] (fun _ => rfl) .nil (x_var 4 rfl))))))))))))) (by unfold m_law_greatest; simp only [ok_bindP, ok_calmP, chk_calmP, opt_calmP, R.bind_pure, R.bind_assoc] <;> rfl))
theorem w_law_brought (T : Txt K mg Ad) : FnOk P w K mg base (L2.CX P w) 2 Ad.f_law_brought Ad.d_law_brought ["found", "piece"] (SpP mg (tc (rL rC) (t1 (rT rC))) (rL rC) (fun a => m_law_brought a.1 a.2)) :=
  have hnd := sc_law_brought.nd
  f_ok (fun a => [im (rL rC) a.1, im (rT rC) a.2, .any, .any, .any]) T.F__law_brought sc_law_brought (arc ar1) rfl (by decide) (fun _ => rfl) (fun cdv A outer s H E hr tk hp a => SX.cv (
    (p_own 2 hnd (f_dict (ky := kyC) (π := rB)) (fun _ => (p_for (vs := [3]) (fun (s : List ((Int × Int) × Bool)) => [im (rL rC) a.1, im (rT rC) a.2, .own none (oD kyC rB s), .any, .any]) _ ([] : List ((Int × Int) × Bool)) hp (i_list (x_var 0 rfl)) (gt_name 3 (by decide) hnd) (fun s_2352 x_2353 => (p_for (vs := [4]) (fun (s : List ((Int × Int) × Bool)) => [im (rL rC) a.1, im (rT rC) a.2, .own none (oD kyC rB s), im rC x_2353, .any]) _ s_2352 hp (i_tup (x_var 1 rfl)) (gt_name 4 (by decide) hnd) (fun s_2354 x_2355 => (s_dput 2 (u1 hr) x_bl (x_call (w_law_led T) (hr.mono (by decide)) T.g__law_led T.k__law_led T.b__law_led tk .nil (a_cons (x_var 3 rfl) (a_one (x_var 4 rfl)))) (fun v_2356 k_2357 => (let cells_2358 : List ((Int × Int) × Bool) := (dPut s_2354 k_2357 v_2356); (s_go (o := cells_2358) rfl (.cons .rfl (.cons .rfl (.cons .rfl (.cons .rfl (.cons .any .nil)))))))))) (.cons .rfl (.cons .rfl (.cons .rfl (.cons .rfl (.cons .any .nil))))) (fun s_2359 => (s_go (o := s_2359) rfl (.cons .rfl (.cons .rfl (.cons .rfl (.cons .any (.cons .any .nil))))))))) (.cons .rfl (.cons .rfl (.cons .rfl (.cons .any (.cons .any .nil))))) (fun s_2360 => (s_giveD 2 rfl (p_retf [] (fun _ => rfl) .nil (x_frzE (f_sortD T.n_sorted (x_var 2 rfl)))))))))) (by unfold m_law_brought; simp only [ok_bindP, ok_calmP, chk_calmP, opt_calmP, R.bind_pure, R.bind_assoc] <;> rfl))
theorem w_look_finite (T : Txt K mg Ad) : FnOk P w K mg base (L2.CX P w) 1 Ad.flook_finite Ad.dlook_finite ["shape"] (SpP mg (t1 (rTu (tc (rT rC) (t1 rB)))) rN (fun a => m_look_finite a)) :=
  have hnd := sclook_finite.nd
  f_ok (fun a => [im (rTu (tc (rT rC) (t1 rB))) a]) T.F_look_finite sclook_finite ar1 rfl (by decide) (fun _ => rfl) (fun cdv A outer s H E hr tk hp a => SX.cv (
    (p_ifT (x_test (x_pj 1 (pjs pj1) (x_var 0 rfl))) (p_raiseX T.x_Endless tk .nil) (s_endN rfl .nil (fun _ => rfl)))) (by unfold m_look_finite; simp only [ok_bindP, ok_calmP, chk_calmP, opt_calmP, R.bind_pure, R.bind_assoc] <;> rfl))
theorem w_rising (T : Txt K mg Ad) : FnOk P w K mg base (L2.CX P w) 1 Ad.frising Ad.drising ["cells"] (SpP mg (t1 (rL rC)) (rT rC) (fun a => m_rising a)) :=
  have hnd := scrising.nd
  f_ok (fun a => [im (rL rC) a]) T.F_rising scrising ar1 rfl (by decide) (fun _ => rfl) (fun cdv A outer s H E hr tk hp a => SX.cv (
    (p_retf [] (fun _ => rfl) .nil (x_callTy call_tuple_of dTupL T.n_tuple (by decide +kernel) (a_one (x_frzE (f_sortset T.n_sorted (x_setL (u64 hr) T.n_set (x_var 0 rfl)))))))) (by unfold m_rising; simp only [ok_bindP, ok_calmP, chk_calmP, opt_calmP, R.bind_pure, R.bind_assoc] <;> rfl))
theorem w_mirrored (T : Txt K mg Ad) : FnOk P w K mg base (L2.CX P w) 2 Ad.fmirrored Ad.dmirrored ["piece"] (SpP mg (t1 (rT rC)) (rT rC) (fun a => m_mirrored a)) :=
  have hnd := scmirrored.nd
  f_ok (fun a => [im (rT rC) a, .any, .any]) T.F_mirrored scmirrored ar1 rfl (by decide) (fun _ => rfl) (fun cdv A outer s H E hr tk hp a => SX.cv (
    (p_retf [] (fun _ => rfl) .nil (x_call (w_rising T) (hr.mono (by decide)) T.g_rising T.k_rising T.b_rising tk .nil (a_one (x_frzE (f_lcM (own := [("row", 1), ("column", 2)]) hnd (i_tup (x_var 0 rfl)) (blkOk_by (N := Nmirrored) (sc := defScope smirrored) (by decide +kernel)) (fun _ _ _ _ _ => (gt_tup rfl (gts_cons (gt_name 1 (by decide) hnd) (gts_one (gt_name 2 (by decide) hnd))))) (fun _ _ _ _ _ y_2369 => (x_tup (a_cons (x_sub x_int (x_var 1 rfl)) (a_one (x_sub x_int (x_var 2 rfl)))) (fun _ _ _ h => sz ((nc (fun _ _ _ h => n1 h)) h) (by decide)))))))))) (by unfold m_mirrored; simp only [ok_bindP, ok_calmP, chk_calmP, opt_calmP, R.bind_pure, R.bind_assoc] <;> rfl))
theorem w_moved_cell (T : Txt K mg Ad) : FnOk P w K mg base (L2.CX P w) 1 Ad.fmoved_cell Ad.dmoved_cell ["cell", "step"] (SpP mg (tc rC (t1 rC)) rC (fun a => m_moved_cell a.1 a.2)) :=
  have hnd := scmoved_cell.nd
  f_ok (fun a => [im rC a.1, im rC a.2]) T.F_moved_cell scmoved_cell (arc ar1) rfl (by decide) (fun _ => rfl) (fun cdv A outer s H E hr tk hp a => SX.cv (
    (p_retf [] (fun _ => rfl) .nil (x_tup (a_cons (x_add (x_pj 0 pj0 (x_var 0 rfl)) (x_pj 0 pj0 (x_var 1 rfl))) (a_one (x_add (x_pj 1 (pjs pj1) (x_var 0 rfl)) (x_pj 1 (pjs pj1) (x_var 1 rfl))))) (fun _ _ _ h => sz ((nc (fun _ _ _ h => n1 h)) h) (by decide))))) (by unfold m_moved_cell; simp only [ok_bindP, ok_calmP, chk_calmP, opt_calmP, R.bind_pure, R.bind_assoc] <;> rfl))
theorem w_lies_on (T : Txt K mg Ad) : FnOk P w K mg base (L2.CX P w) 2 Ad.flies_on Ad.dlies_on ["piece", "cell"] (SpP mg (tc (rT rC) (t1 rC)) (rL rC) (fun a => m_lies_on a.1 a.2)) :=
  have hnd := sclies_on.nd
  f_ok (fun a => [im (rT rC) a.1, im rC a.2, .any]) T.F_lies_on sclies_on (arc ar1) rfl (by decide) (fun _ => rfl) (fun cdv A outer s H E hr tk hp a => SX.cv (
    (p_retf [] (fun _ => rfl) .nil (x_frzE (f_lcM (own := [("step", 2)]) hnd (i_tup (x_var 0 rfl)) (blkOk_by (N := Nlies_on) (sc := defScope slies_on) (by decide +kernel)) (fun _ _ _ _ _ => (gt_name 2 (by decide) hnd)) (fun _ _ _ _ _ y_2375 => (x_call (w_moved_cell T) (hr.mono (by decide)) T.g_moved_cell T.k_moved_cell T.b_moved_cell takes0 .nil (a_cons (x_var 2 rfl) (a_one (x_var 1 rfl))))))))) (by unfold m_lies_on; simp only [ok_bindP, ok_calmP, chk_calmP, opt_calmP, R.bind_pure, R.bind_assoc] <;> rfl))
theorem w_reached (T : Txt K mg Ad) : FnOk P w K mg base (L2.CX P w) 3 Ad.freached Ad.dreached ["cells", "piece"] (SpP mg (tc (rT rC) (t1 (rT rC))) (rT rC) (fun a => m_reached a.1 a.2)) :=
  have hnd := screached.nd
  f_ok (fun a => [im (rT rC) a.1, im (rT rC) a.2, .any, .any]) T.F_reached screached (arc ar1) rfl (by decide) (fun _ => rfl) (fun cdv A outer s H E hr tk hp a => SX.cv (
    (p_own 2 hnd (f_nil (ρ := rC)) (fun told_2378 => (p_for (vs := [3]) (fun (s : List (Int × Int)) => [im (rT rC) a.1, im (rT rC) a.2, .own none (oLi (tl rC) s), .any]) _ told_2378 hp (i_tup (x_var 0 rfl)) (gt_name 3 (by decide) hnd) (fun s_2379 x_2380 => (s_extend 2 (x_call (w_lies_on T) (hr.mono (by decide)) T.g_lies_on T.k_lies_on T.b_lies_on tk .nil (a_cons (x_var 1 rfl) (a_one (x_var 3 rfl)))) (fun y_2381 => (s_go (o := (s_2379 ++ y_2381)) rfl (.cons .rfl (.cons .rfl (.cons .rfl (.cons .any .nil)))))))) (.cons .rfl (.cons .rfl (.cons .rfl (.cons .any .nil)))) (fun s_2382 => (s_give 2 rfl (p_retf [] (fun _ => rfl) .nil (x_call (w_rising T) (hr.mono (by decide)) T.g_rising T.k_rising T.b_rising tk .nil (a_one (x_var 2 rfl)))))))))) (by unfold m_reached; simp only [ok_bindP, ok_calmP, chk_calmP, opt_calmP, R.bind_pure, R.bind_assoc] <;> rfl))
theorem w_less_cell (T : Txt K mg Ad) : FnOk P w K mg base (L2.CX P w) 1 Ad.fless_cell Ad.dless_cell ["cell", "step"] (SpP mg (tc rC (t1 rC)) rC (fun a => m_less_cell a.1 a.2)) :=
  have hnd := scless_cell.nd
  f_ok (fun a => [im rC a.1, im rC a.2]) T.F_less_cell scless_cell (arc ar1) rfl (by decide) (fun _ => rfl) (fun cdv A outer s H E hr tk hp a => SX.cv (
    (p_retf [] (fun _ => rfl) .nil (x_tup (a_cons (x_sub (x_pj 0 pj0 (x_var 0 rfl)) (x_pj 0 pj0 (x_var 1 rfl))) (a_one (x_sub (x_pj 1 (pjs pj1) (x_var 0 rfl)) (x_pj 1 (pjs pj1) (x_var 1 rfl))))) (fun _ _ _ h => sz ((nc (fun _ _ _ h => n1 h)) h) (by decide))))) (by unfold m_less_cell; simp only [ok_bindP, ok_calmP, chk_calmP, opt_calmP, R.bind_pure, R.bind_assoc] <;> rfl))
theorem w_kept_at (T : Txt K mg Ad) : FnOk P w K mg base (L2.CX P w) 3 Ad.fkept_at Ad.dkept_at ["cells", "piece"] (SpP mg (tc (rT rC) (t1 (rT rC))) (rT rC) (fun a => m_kept_at a.1 a.2)) :=
  have hnd := sckept_at.nd
  f_ok (fun a => [im (rT rC) a.1, im (rT rC) a.2, .any, .any, .any, .any, .any]) T.F_kept_at sckept_at (arc ar1) rfl (by decide) (fun _ => rfl) (fun cdv A outer s H E hr tk hp a => SX.cv (
    (p_own 2 hnd (f_dict (ky := kyC) (π := rB)) (fun _ => (p_for (vs := [3]) (fun (s : List ((Int × Int) × Bool)) => [im (rT rC) a.1, im (rT rC) a.2, .own none (oD kyC rB s), .any, .any, .any, .any]) _ ([] : List ((Int × Int) × Bool)) hp (i_tup (x_var 0 rfl)) (gt_name 3 (by decide) hnd) (fun s_2404 x_2405 => (s_dput 2 (u1 hr) x_bl (x_var 3 rfl) (fun v_2406 k_2407 => (let held_2408 : List ((Int × Int) × Bool) := (dPut s_2404 k_2407 v_2406); (s_go (o := held_2408) rfl (.cons .rfl (.cons .rfl (.cons .rfl (.cons .any (.cons .any (.cons .any (.cons .any .nil)))))))))))) (.cons .rfl (.cons .rfl (.cons .rfl (.cons .any (.cons .any (.cons .any (.cons .any .nil))))))) (fun s_2409 => (p_own 4 hnd (f_nil (ρ := rC)) (fun told_2410 => (s_giveD 2 rfl (p_for (vs := [3]) (fun (s : List (Int × Int)) => [im (rT rC) a.1, im (rT rC) a.2, im (rD kyC rB) s_2409, .any, .own none (oLi (tl rC) s), .any, .any]) _ told_2410 hp (i_tup (x_var 0 rfl)) (gt_name 3 (by decide) hnd) (fun s_2411 x_2412 => (p_set 5 hnd (x_call (w_less_cell T) (hr.mono (by decide)) T.g_less_cell T.k_less_cell T.b_less_cell tk .nil (a_cons (x_var 3 rfl) (a_one (x_ixT (x_var 1 rfl) x_int)))) (fun place_2415 => (p_if2 (x_test (x_callB (cr_all rfl) dAll T.n_all (by decide +kernel) (a_one (x_frzE (f_lcM (own := [("there", 6)]) hnd (i_list (x_call (w_lies_on T) (hr.mono (by decide)) T.g_lies_on T.k_lies_on T.b_lies_on tk .nil (a_cons (x_var 1 rfl) (a_one (x_var 5 rfl))))) (blkOk_by (N := Nkept_at) (sc := defScope skept_at) (by decide +kernel)) (fun _ _ _ _ _ => (gt_name 6 (by decide) hnd)) (fun _ _ _ _ _ y_2416 => (c_val (c_in (u1 hr) (x_var 6 rfl) (d_imm (x_var 2 rfl)))))))))) (s_append 4 (x_var 5 rfl) (fun y_2419 => (s_go (o := (s_2411 ++ [y_2419])) rfl (.cons .rfl (.cons .rfl (.cons .rfl (.cons .any (.cons .rfl (.cons .any (.cons .any .nil)))))))))) (s_go (o := s_2411) rfl (.cons .rfl (.cons .rfl (.cons .rfl (.cons .any (.cons .rfl (.cons .any (.cons .any .nil)))))))))))) (.cons .rfl (.cons .rfl (.cons .rfl (.cons .any (.cons .rfl (.cons .any (.cons .any .nil))))))) (fun s_2421 => (s_give 4 rfl (p_retf [] (fun _ => rfl) .nil (x_callTy call_tuple_of dTupL T.n_tuple (by decide +kernel) (a_one (x_var 4 rfl))))))))))))))) (by unfold m_kept_at; simp only [ok_bindP, ok_calmP, chk_calmP, opt_calmP, R.bind_pure, R.bind_assoc] <;> rfl))
theorem w_eaten (T : Txt K mg Ad) : FnOk P w K mg base (L2.CX P w) 4 Ad.featen Ad.deaten ["shape", "piece"] (SpP mg (tc (rTu (tc (rT rC) (t1 rB))) (t1 (rT rC))) (rTu (tc (rT rC) (t1 rB))) (fun a => m_eaten a.1 a.2)) :=
  have hnd := sceaten.nd
  f_ok (fun a => [im (rTu (tc (rT rC) (t1 rB))) a.1, im (rT rC) a.2, .any, .any]) T.F_eaten sceaten (arc ar1) rfl (by decide) (fun _ => rfl) (fun cdv A outer s H E hr tk hp a => SX.cv (
    (p_asg (vs := [2, 3]) (gt_tup rfl (gts_cons (gt_name 2 (by decide) hnd) (gts_one (gt_name 3 (by decide) hnd)))) (x_var 0 rfl) (fun p_2423 => (p_ifT (x_test (x_var 3 rfl)) (p_retf [] (fun _ => rfl) .nil (x_tup (a_cons (x_call (w_reached T) (hr.mono (by decide)) T.g_reached T.k_reached T.b_reached tk .nil (a_cons (x_var 2 rfl) (a_one (x_call (w_mirrored T) (hr.mono (by decide)) T.g_mirrored T.k_mirrored T.b_mirrored tk .nil (a_one (x_var 1 rfl)))))) (a_one x_bl)) (fun _ _ _ h => sz ((nc (fun _ _ _ h => n1 h)) h) (by decide)))) (p_retf [] (fun _ => rfl) .nil (x_tup (a_cons (x_call (w_kept_at T) (hr.mono (by decide)) T.g_kept_at T.k_kept_at T.b_kept_at tk .nil (a_cons (x_var 2 rfl) (a_one (x_var 1 rfl)))) (a_one x_bl)) (fun _ _ _ h => sz ((nc (fun _ _ _ h => n1 h)) h) (by decide)))))))) (by unfold m_eaten; simp only [ok_bindP, ok_calmP, chk_calmP, opt_calmP, R.bind_pure, R.bind_assoc] <;> rfl))
theorem w_bringing (T : Txt K mg Ad) : FnOk P w K mg base (L2.CX P w) 3 Ad.fbringing Ad.dbringing ["found", "piece"] (SpP mg (tc (rT rC) (t1 (rT rC))) (rD kyC (rL rC)) (fun a => m_bringing a.1 a.2)) :=
  have hnd := scbringing.nd
  f_ok (fun a => [im (rT rC) a.1, im (rT rC) a.2, .any, .any, .any]) T.F_bringing scbringing (arc ar1) rfl (by decide) (fun _ => rfl) (fun cdv A outer s H E hr tk hp a => SX.cv (
    (p_own 2 hnd (f_dict (ky := kyC) (π := (rL rC))) (fun _ => (p_bring (i := 2) (jc := 4) (jm := 3) { hu := u1 hr, hN := hnd } [im (rT rC) a.1, im (rT rC) a.2, .any, .any, .any] rfl rfl (noOwn_all rfl) (by decide) rfl rfl (fun z h => by injection h with h; exact h.symm) (fun z h => by injection h with h; exact h.symm) (i_tup (x_var 0 rfl)) (fun x_2433 => (i_list (x_call (w_lies_on T) (hr.mono (by decide)) T.g_lies_on T.k_lies_on T.b_lies_on takes0 .nil (a_cons (x_var 1 rfl) (a_one (x_var 3 rfl)))))) hp (fun s_2435 => (s_giveD 2 rfl (p_retf [] (fun _ => rfl) .nil (x_var 2 rfl)))))))) (by unfold m_bringing; simp only [ok_bindP, ok_calmP, chk_calmP, opt_calmP, R.bind_pure, R.bind_assoc] <;> rfl))
theorem w_marks (T : Txt K mg Ad) : FnOk P w K mg base (L2.CX P w) 5 Ad.fmarks Ad.dmarks ["shape", "piece"] (SpP mg (tc (rTu (tc (rT rC) (t1 rB))) (t1 (rT rC))) (rTu (tc rS (t1 rY))) (fun a => m_marks a.1 a.2)) :=
  have hnd := scmarks.nd
  f_ok (fun a => [im (rTu (tc (rT rC) (t1 rB))) a.1, im (rT rC) a.2, .any, .any, .any]) T.F_marks scmarks (arc ar1) rfl (by decide) (fun _ => rfl) (fun cdv A outer s H E hr tk hp a => SX.cv (
    (p_expr (x_call (w_look_finite T) (hr.mono (by decide)) T.g_look_finite T.k_look_finite T.b_look_finite tk .nil (a_one (x_var 0 rfl))) (fun _ => (p_set 2 hnd (x_pj 0 pj0 (x_call (w_eaten T) (hr.mono (by decide)) T.g_eaten T.k_eaten T.b_eaten tk .nil (a_cons (x_var 0 rfl) (a_one (x_var 1 rfl))))) (fun found_2441 => (p_set 3 hnd (x_call (w_bringing T) (hr.mono (by decide)) T.g_bringing T.k_bringing T.b_bringing tk .nil (a_cons (x_var 2 rfl) (a_one (x_var 1 rfl)))) (fun ways_2442 => (p_forO (vs := [4]) (fun (s : Unit) => [im (rTu (tc (rT rC) (t1 rB))) a.1, im (rT rC) a.2, im (rT rC) found_2441, im (rD kyC (rL rC)) ways_2442, .any]) (rtP (rTu (tc rS (t1 rY)))) (fun a => a) _ () hp (i_tup (x_pj 0 pj0 (x_var 0 rfl))) (gt_name 4 (by decide) hnd) (fun s_2443 x_2444 => (p_ifT (c_tst (c_nin (u1 hr) (x_var 4 rfl) (d_imm (x_var 3 rfl)))) (p_ret (fun w => Stp.rt w) [] (fun _ => rfl) .nil (x_tup (a_cons x_str (a_one (x_cv (cvY (yTu (yc yI (y1 yI)))) (x_var 4 rfl)))) (fun _ _ _ h => sz ((nc (fun _ _ _ h => n1 h)) h) (by decide)))) (s_go (o := (Stp.nx ())) rfl (.cons .rfl (.cons .rfl (.cons .rfl (.cons .rfl (.cons .any .nil)))))))) (.cons .rfl (.cons .rfl (.cons .rfl (.cons .rfl (.cons .any .nil))))) (fun a => .rtf rfl) (fun s_2445 => (p_retf [] (fun _ => rfl) .nil (x_tup (a_cons x_str (a_one (x_cv (cvY (yT (yTu (yc yI (y1 yI))))) (x_var 2 rfl)))) (fun _ _ _ h => sz ((nc (fun _ _ _ h => n1 h)) h) (by decide))))))))))))) (by unfold m_marks; simp only [ok_bindP, ok_calmP, chk_calmP, opt_calmP, R.bind_pure, R.bind_assoc] <;> rfl))
theorem w_greatest (T : Txt K mg Ad) : FnOk P w K mg base (L2.CX P w) 6 Ad.fgreatest Ad.dgreatest ["shape", "piece"] (SpP mg (tc (rTu (tc (rT rC) (t1 rB))) (t1 (rT rC))) (rT rC) (fun a => m_greatest a.1 a.2)) :=
  have hnd := scgreatest.nd
  f_ok (fun a => [im (rTu (tc (rT rC) (t1 rB))) a.1, im (rT rC) a.2, .any, .any]) T.F_greatest scgreatest (arc ar1) rfl (by decide) (fun _ => rfl) (fun cdv A outer s H E hr tk hp a => SX.cv (
    (p_asg (vs := [3, 2]) (gt_tup rfl (gts_cons (gt_name 2 (by decide) hnd) (gts_one (gt_name 3 (by decide) hnd)))) (x_call (w_marks T) (hr.mono (by decide)) T.g_marks T.k_marks T.b_marks tk .nil (a_cons (x_var 0 rfl) (a_one (x_var 1 rfl)))) (fun p_2447 => (p_ifT (x_tcmp op_eq dEqS (x_var 2 rfl) x_str) (p_raiseX T.x_NoMarks tk .nil) (p_retf [] (fun _ => rfl) .nil (x_out (ouT (ouTu (ouc ouI (ou1 ouI)))) (x_var 3 rfl))))))) (by unfold m_greatest; simp only [ok_bindP, ok_calmP, chk_calmP, opt_calmP, R.bind_pure, R.bind_assoc] <;> rfl))
theorem w_is_brought (T : Txt K mg Ad) : FnOk P w K mg base (L2.CX P w) 2 Ad.fis_brought Ad.dis_brought ["piece", "taken", "cell"] (SpP mg (tc (rT rC) (tc (rL rC) (t1 rC))) rB (fun a => m_is_brought a.1 a.2.1 a.2.2)) :=
  have hnd := scis_brought.nd
  f_ok (fun a => [im (rT rC) a.1, im (rL rC) a.2.1, im rC a.2.2, .any]) T.F_is_brought scis_brought (arc (arc ar1)) rfl (by decide) (fun _ => rfl) (fun cdv A outer s H E hr tk hp a => SX.cv (
    (p_retf [] (fun _ => rfl) .nil (x_callB (cr_any rfl) dAny T.n_any (by decide +kernel) (a_one (x_frzE (f_lcM (own := [("mark", 3)]) hnd (i_list (x_var 1 rfl)) (blkOk_by (N := Nis_brought) (sc := defScope sis_brought) (by decide +kernel)) (fun _ _ _ _ _ => (gt_name 3 (by decide) hnd)) (fun _ _ _ _ _ y_2457 => (x_cmp (op_inU (u65 hr)) (dInU kC) (x_call (w_less_cell T) (hr.mono (by decide)) T.g_less_cell T.k_less_cell T.b_less_cell takes0 .nil (a_cons (x_var 2 rfl) (a_one (x_var 3 rfl)))) (x_var 0 rfl))))))))) (by unfold m_is_brought; simp only [ok_bindP, ok_calmP, chk_calmP, opt_calmP, R.bind_pure, R.bind_assoc] <;> rfl))
theorem w_tried (T : Txt K mg Ad) (fu : Nat) : FnOk P w K mg base (L2.CX P w) (3 + fu) Ad.ftried Ad.dtried ["cells", "ways", "piece", "taken", "many"] (SpP mg (tc (rL rC) (tc (rD kyC (rL rC)) (tc (rT rC) (tc (rL rC) (t1 rI))))) (rTu (tc (rO (rL rC)) (t1 rY))) (fun a => m_tried fu a.1 a.2.1 a.2.2.1 a.2.2.2.1 a.2.2.2.2)) := by
  have hnd := sctried.nd
  induction fu with
  | zero => exact f_ok (fun a => [im (rL rC) a.1, im (rD kyC (rL rC)) a.2.1, im (rT rC) a.2.2.1, im (rL rC) a.2.2.2.1, im rI a.2.2.2.2, .any, .any, .any, .any, .any, .any]) T.F_tried sctried (arc (arc (arc (arc ar1)))) rfl (by decide) (fun _ => rfl) (fun cdv A outer s H E hr tk hp a => SX.cv (s_bad) (by simp only [m_tried]))
  | succ fu ih => exact f_ok (fun a => [im (rL rC) a.1, im (rD kyC (rL rC)) a.2.1, im (rT rC) a.2.2.1, im (rL rC) a.2.2.2.1, im rI a.2.2.2.2, .any, .any, .any, .any, .any, .any]) T.F_tried sctried (arc (arc (arc (arc ar1)))) rfl (by decide) (fun _ => rfl) (fun cdv A outer s H E hr tk hp a => SX.cv (
    (p_setLc 5 (own := [("cell", 8)]) hnd (i_list (x_var 0 rfl)) (blkOk_by (N := Ntried) (sc := defScope stried) (by decide +kernel)) (fun _ _ _ _ _ => (gt_name 8 (by decide) hnd)) (fun _ _ _ _ _ y_2479 => (ts_one (x_tnot (x_test (x_call (w_is_brought T) (hr.mono (Nat.le_add_right_of_le (by decide))) T.g_is_brought T.k_is_brought T.b_is_brought takes0 .nil (a_cons (x_var 2 rfl) (a_cons (x_var 3 rfl) (a_one (x_var 8 rfl))))))))) (fun _ _ _ _ _ y_2479 => (x_var 8 rfl)) (hr := fun open_cells_2481 => (s_give 5 rfl (p_ifT (x_tcmp (op_eqD (u64 hr)) (dEqD (kL kC)) (x_var 5 rfl) (x_frzE (f_nil (ρ := rC)))) (p_retf [] (fun _ => rfl) .nil (x_tup (a_cons (x_map (ρ' := (rO (rL rC))) some (fun _ _ _ h => h) (x_var 3 rfl)) (a_one (x_cv (cvY yN) x_non))) (fun _ _ _ h => sz ((nc (fun _ _ _ h => n1 h)) h) (by decide)))) (p_own 6 hnd (f_nil (ρ := (rTu (tc rC (t1 rY))))) (fun cases_2482 => (p_ifS (fun (s : List ((Int × Int) × Dy)) => [im (rL rC) a.1, im (rD kyC (rL rC)) a.2.1, im (rT rC) a.2.2.1, im (rL rC) a.2.2.2.1, im rI a.2.2.2.2, im (rL rC) open_cells_2481, .own none (oLi (tl (rTu (tc rC (t1 rY)))) s), .any, .any, .any, .any]) (x_tcmp op_gt dIb (x_var 4 rfl) x_int) (p_forO (vs := [7]) (fun (s : List ((Int × Int) × Dy)) => [im (rL rC) a.1, im (rD kyC (rL rC)) a.2.1, im (rT rC) a.2.2.1, im (rL rC) a.2.2.2.1, im rI a.2.2.2.2, im (rL rC) open_cells_2481, .own none (oLi (tl (rTu (tc rC (t1 rY)))) s), .any, .any, .any, .any]) (rtP (rTu (tc (rO (rL rC)) (t1 rY)))) (fun a => Sum.inl a) _ cases_2482 hp (i_list (x_dget (u1 hr) (d_imm (x_var 1 rfl)) (x_ixL (x_var 5 rfl) x_int) (hs := fun _ _ => rfl))) (gt_name 7 (by decide) hnd) (fun s_2484 x_2485 => (p_asg (vs := [9, 10]) (gt_tup rfl (gts_cons (gt_name 9 (by decide) hnd) (gts_one (gt_name 10 (by decide) hnd)))) (x_call ih (hr.mono (Nat.le_refl _)) T.g_tried T.k_tried T.b_tried tk .nil (a_cons (x_var 0 rfl) (a_cons (x_var 1 rfl) (a_cons (x_var 2 rfl) (a_cons (x_frzE (f_catL (x_var 3 rfl) (x_frzE (f_listN (k := 1) (ln_cons (x_var 7 rfl) ln_nil))))) (a_one (x_sub (x_var 4 rfl) x_int))))))) (fun p_2491 => (p_ifT (c_tst (c_notN nnLi (x_var 9 rfl))) (p_ret (fun w => Stp.rt w) [] (fun _ => rfl) .nil (x_tup (a_cons (x_var 9 rfl) (a_one (x_cv (cvY yN) x_non))) (fun _ _ _ h => sz ((nc (fun _ _ _ h => n1 h)) h) (by decide)))) (s_append 6 (x_tup (a_cons (x_var 7 rfl) (a_one (x_var 10 rfl))) (fun _ _ _ h => sz ((nc (fun _ _ _ h => n1 h)) h) (by decide))) (fun y_2492 => (s_go (o := (Stp.nx (s_2484 ++ [y_2492]))) rfl (.cons .rfl (.cons .rfl (.cons .rfl (.cons .rfl (.cons .rfl (.cons .rfl (.cons .rfl (.cons .any (.cons .any (.cons .any (.cons .any .nil)))))))))))))))))) (.cons .rfl (.cons .rfl (.cons .rfl (.cons .rfl (.cons .rfl (.cons .rfl (.cons .rfl (.cons .any (.cons .any (.cons .any (.cons .any .nil))))))))))) (fun a => .rt rfl) (fun s_2493 => (s_nx (o := (Sum.inr s_2493)) rfl (.cons .rfl (.cons .rfl (.cons .rfl (.cons .rfl (.cons .rfl (.cons .rfl (.cons .rfl (.cons .any (.cons .any (.cons .any (.cons .any .nil)))))))))))))) (s_nx (o := (Sum.inr cases_2482)) rfl (.cons .rfl (.cons .rfl (.cons .rfl (.cons .rfl (.cons .rfl (.cons .rfl (.cons .rfl (.cons .any (.cons .any (.cons .any (.cons .any .nil)))))))))))) (fun s_2495 => (s_give 6 rfl (p_retf [] (fun _ => rfl) .nil (x_tup (a_cons (x_nonO (ρ := (rL rC))) (a_one (x_cv (cvY (yTu (yc (yTu (yc yI (y1 yI))) (y1 (yL (yTu (yc (yTu (yc yI (y1 yI))) (y1 yY)))))))) (x_tup (a_cons (x_ixL (x_var 5 rfl) x_int) (a_one (x_var 6 rfl))) (fun _ _ _ h => sz ((nc (fun _ _ _ h => n1 h)) h) (by decide)))))) (fun _ _ _ h => sz ((nc (fun _ _ _ h => n1 h)) h) (by decide)))))))))))))) (by simp only [m_tried, ok_bindP, ok_calmP, chk_calmP, opt_calmP, R.bind_pure, R.bind_assoc] <;> rfl))
theorem w_fewest_and_tree (T : Txt K mg Ad) : FnOk P w K mg base (L2.CX P w) 19 Ad.ffewest_and_tree Ad.dfewest_and_tree ["shape", "piece"] (SpP mg (tc (rTu (tc (rT rC) (t1 rB))) (t1 (rT rC))) (rTu (tc (rT rC) (t1 rY))) (fun a => m_fewest_and_tree a.1 a.2)) :=
  have hnd := scfewest_and_tree.nd
  f_ok (fun a => [im (rTu (tc (rT rC) (t1 rB))) a.1, im (rT rC) a.2, .any, .any, .any, .any, .any, .any]) T.F_fewest_and_tree scfewest_and_tree (arc ar1) rfl (by decide) (fun _ => rfl) (fun cdv A outer s H E hr tk hp a => SX.cv (
    (p_set 2 hnd (x_call (w_greatest T) (hr.mono (by decide)) T.g_greatest T.k_greatest T.b_greatest tk .nil (a_cons (x_var 0 rfl) (a_one (x_var 1 rfl)))) (fun found_2507 => (p_ifT (x_tcmp op_gt dIb (x_len dLenT T.n_len (a_one (x_var 2 rfl))) (x_globI T.c_MOST_MARKS)) (p_raiseX T.x_TooMany tk .nil) (p_set 3 hnd (x_call (w_bringing T) (hr.mono (by decide)) T.g_bringing T.k_bringing T.b_bringing tk .nil (a_cons (x_var 2 rfl) (a_one (x_var 1 rfl)))) (fun ways_2508 => (p_set 4 hnd (x_cv (cvY yN) x_non) (fun tree_2509 => (p_forO (vs := [5]) (fun (s : Dy) => [im (rTu (tc (rT rC) (t1 rB))) a.1, im (rT rC) a.2, im (rT rC) found_2507, im (rD kyC (rL rC)) ways_2508, im rY s, .any, .any, .any]) (rtP (rTu (tc (rT rC) (t1 rY)))) (fun a => a) _ tree_2509 hp (i_range1 T.n_range (a_one (x_add (x_len dLenT T.n_len (a_one (x_var 2 rfl))) x_int))) (gt_name 5 (by decide) hnd) (fun s_2510 x_2511 => (p_asg (vs := [6, 7]) (gt_tup rfl (gts_cons (gt_name 6 (by decide) hnd) (gts_one (gt_name 7 (by decide) hnd)))) (x_call (w_tried T 15) (hr.mono (by decide)) T.g_tried T.k_tried T.b_tried tk .nil (a_cons (x_frzE (f_callTy call_list_of dLstT T.n_list (by decide +kernel) (a_one (x_pj 0 pj0 (x_var 0 rfl))))) (a_cons (x_var 3 rfl) (a_cons (x_var 1 rfl) (a_cons (x_frzE (f_nil (ρ := rC))) (a_one (x_var 5 rfl))))))) (fun p_2512 => (p_ifT (c_tst (c_notN nnLi (x_var 6 rfl))) (p_ret (fun w => Stp.rt w) [] (fun _ => rfl) .nil (x_tup (a_cons (x_callTy call_tuple_of dTupL T.n_tuple (by decide +kernel) (a_one (x_frzE (f_sortC T.n_sorted (x_some (x_var 6 rfl)))))) (a_one (x_var 4 rfl))) (fun _ _ _ h => sz ((nc (fun _ _ _ h => n1 h)) h) (by decide)))) (p_set 4 hnd (x_var 7 rfl) (fun tree_2517 => (s_go (o := (Stp.nx tree_2517)) rfl (.cons .rfl (.cons .rfl (.cons .rfl (.cons .rfl (.cons .rfl (.cons .any (.cons .any (.cons .any .nil))))))))))))))) (.cons .rfl (.cons .rfl (.cons .rfl (.cons .rfl (.cons .rfl (.cons .any (.cons .any (.cons .any .nil)))))))) (fun a => .rtf rfl) (fun s_2518 => (p_retf [] (fun _ => rfl) .nil (x_tup (a_cons (x_var 2 rfl) (a_one (x_var 4 rfl))) (fun _ _ _ h => sz ((nc (fun _ _ _ h => n1 h)) h) (by decide)))))))))))))) (by unfold m_fewest_and_tree; simp only [ok_bindP, ok_calmP, chk_calmP, opt_calmP, R.bind_pure, R.bind_assoc] <;> rfl))
theorem w_fewer_paper (T : Txt K mg Ad) : FnOk P w K mg base (L2.CX P w) 20 Ad.ffewer_paper Ad.dfewer_paper ["shape", "piece"] (SpP mg (tc (rTu (tc (rT rC) (t1 rB))) (t1 (rT rC))) rY (fun a => m_fewer_paper a.1 a.2)) :=
  have hnd := scfewer_paper.nd
  f_ok (fun a => [im (rTu (tc (rT rC) (t1 rB))) a.1, im (rT rC) a.2]) T.F_fewer_paper scfewer_paper (arc ar1) rfl (by decide) (fun _ => rfl) (fun cdv A outer s H E hr tk hp a => SX.cv (
    (p_retf [] (fun _ => rfl) .nil (x_pj 1 (pjs pj1) (x_call (w_fewest_and_tree T) (hr.mono (by decide)) T.g_fewest_and_tree T.k_fewest_and_tree T.b_fewest_and_tree tk .nil (a_cons (x_var 0 rfl) (a_one (x_var 1 rfl))))))) (by unfold m_fewer_paper; simp only [ok_bindP, ok_calmP, chk_calmP, opt_calmP, R.bind_pure, R.bind_assoc] <;> rfl))
theorem w_fewest (T : Txt K mg Ad) : FnOk P w K mg base (L2.CX P w) 20 Ad.ffewest Ad.dfewest ["shape", "piece"] (SpP mg (tc (rTu (tc (rT rC) (t1 rB))) (t1 (rT rC))) (rT rC) (fun a => m_fewest a.1 a.2)) :=
  have hnd := scfewest.nd
  f_ok (fun a => [im (rTu (tc (rT rC) (t1 rB))) a.1, im (rT rC) a.2]) T.F_fewest scfewest (arc ar1) rfl (by decide) (fun _ => rfl) (fun cdv A outer s H E hr tk hp a => SX.cv (
    (p_retf [] (fun _ => rfl) .nil (x_pj 0 pj0 (x_call (w_fewest_and_tree T) (hr.mono (by decide)) T.g_fewest_and_tree T.k_fewest_and_tree T.b_fewest_and_tree tk .nil (a_cons (x_var 0 rfl) (a_one (x_var 1 rfl))))))) (by unfold m_fewest; simp only [ok_bindP, ok_calmP, chk_calmP, opt_calmP, R.bind_pure, R.bind_assoc] <;> rfl))
theorem w_law_on (T : Txt K mg Ad) : FnOk P w K mg base (L2.CX P w) 2 Ad.f_law_on Ad.d_law_on ["piece", "taken", "cell"] (SpP mg (tc (rT rC) (tc (rL rC) (t1 rC))) rB (fun a => m_law_on a.1 a.2.1 a.2.2)) :=
  have hnd := sc_law_on.nd
  f_ok (fun a => [im (rT rC) a.1, im (rL rC) a.2.1, im rC a.2.2, .any]) T.F__law_on sc_law_on (arc (arc ar1)) rfl (by decide) (fun _ => rfl) (fun cdv A outer s H E hr tk hp a => SX.cv (
    (p_retf [] (fun _ => rfl) .nil (x_cmp (op_neD (u64 hr)) (dNeD (kL kC)) (x_frzE (f_lcF (own := [("mark", 3)]) hnd (i_list (x_var 1 rfl)) (blkOk_by (N := N_law_on) (sc := defScope s_law_on) (by decide +kernel)) (fun _ _ _ _ _ => (gt_name 3 (by decide) hnd)) (fun _ _ _ _ _ y_2531 => (ts_one (x_tcmp (op_inU (u65 hr)) (dInU kC) (x_call (w_law_less T) (hr.mono (by decide)) T.g__law_less T.k__law_less T.b__law_less takes0 .nil (a_cons (x_var 2 rfl) (a_one (x_var 3 rfl)))) (x_var 0 rfl)))) (fun _ _ _ _ _ y_2531 => (x_var 3 rfl)))) (x_frzE (f_nil (ρ := rC)))))) (by unfold m_law_on; simp only [ok_bindP, ok_calmP, chk_calmP, opt_calmP, R.bind_pure, R.bind_assoc] <;> rfl))
theorem w_law_ways (T : Txt K mg Ad) : FnOk P w K mg base (L2.CX P w) 2 Ad.f_law_ways Ad.d_law_ways ["found", "piece", "cell"] (SpP mg (tc (rL rC) (tc (rT rC) (t1 rC))) (rL rC) (fun a => m_law_ways a.1 a.2.1 a.2.2)) :=
  have hnd := sc_law_ways.nd
  f_ok (fun a => [im (rL rC) a.1, im (rT rC) a.2.1, im rC a.2.2, .any]) T.F__law_ways sc_law_ways (arc (arc ar1)) rfl (by decide) (fun _ => rfl) (fun cdv A outer s H E hr tk hp a => SX.cv (
    (p_retf [] (fun _ => rfl) .nil (x_frzE (f_lcF (own := [("mark", 3)]) hnd (i_list (x_var 0 rfl)) (blkOk_by (N := N_law_ways) (sc := defScope s_law_ways) (by decide +kernel)) (fun _ _ _ _ _ => (gt_name 3 (by decide) hnd)) (fun _ _ _ _ _ y_2537 => (ts_one (x_tcmp (op_inU (u65 hr)) (dInU kC) (x_call (w_law_less T) (hr.mono (by decide)) T.g__law_less T.k__law_less T.b__law_less takes0 .nil (a_cons (x_var 2 rfl) (a_one (x_var 3 rfl)))) (x_var 1 rfl)))) (fun _ _ _ _ _ y_2537 => (x_var 3 rfl)))))) (by unfold m_law_ways; simp only [ok_bindP, ok_calmP, chk_calmP, opt_calmP, R.bind_pure, R.bind_assoc] <;> rfl))
theorem w_law_right (T : Txt K mg Ad) (fu : Nat) : FnOk P w K mg base (L2.CX P w) (3 + fu) Ad.f_law_right Ad.d_law_right ["cells", "piece", "found", "taken", "many", "tree"] (SpP mg (tc (rT rC) (tc (rT rC) (tc (rL rC) (tc (rL rC) (tc rI (t1 (rTu (tc rC (t1 (rL (rTu (tc rC (t1 rY))))))))))))) rB (fun a => m_law_right fu a.1 a.2.1 a.2.2.1 a.2.2.2.1 a.2.2.2.2.1 a.2.2.2.2.2)) := by
  have hnd := sc_law_right.nd
  induction fu with
  | zero => exact f_ok (fun a => [im (rT rC) a.1, im (rT rC) a.2.1, im (rL rC) a.2.2.1, im (rL rC) a.2.2.2.1, im rI a.2.2.2.2.1, im (rTu (tc rC (t1 (rL (rTu (tc rC (t1 rY))))))) a.2.2.2.2.2, .any, .any, .any, .any]) T.F__law_right sc_law_right (arc (arc (arc (arc (arc ar1))))) rfl (by decide) (fun _ => rfl) (fun cdv A outer s H E hr tk hp a => SX.cv (s_bad) (by simp only [m_law_right]))
  | succ fu ih => exact f_ok (fun a => [im (rT rC) a.1, im (rT rC) a.2.1, im (rL rC) a.2.2.1, im (rL rC) a.2.2.2.1, im rI a.2.2.2.2.1, im (rTu (tc rC (t1 (rL (rTu (tc rC (t1 rY))))))) a.2.2.2.2.2, .any, .any, .any, .any]) T.F__law_right sc_law_right (arc (arc (arc (arc (arc ar1))))) rfl (by decide) (fun _ => rfl) (fun cdv A outer s H E hr tk hp a => SX.cv (
    (p_asg (vs := [7, 6]) (gt_tup rfl (gts_cons (gt_name 6 (by decide) hnd) (gts_one (gt_name 7 (by decide) hnd)))) (x_var 5 rfl) (fun p_2555 => (p_ifT (x_w (w_or (x_tcmp (op_ninU (u65 hr)) (dNinU kC) (x_var 6 rfl) (x_var 0 rfl)) (w_or1 (x_test (x_call (w_law_on T) (hr.mono (Nat.le_add_right_of_le (by decide))) T.g__law_on T.k__law_on T.b__law_on tk .nil (a_cons (x_var 1 rfl) (a_cons (x_var 3 rfl) (a_one (x_var 6 rfl))))))))) (p_retf [] (fun _ => rfl) .nil x_bl) (p_ifT (x_tcmp op_eq dEqI (x_var 4 rfl) x_int) (p_retf [] (fun _ => rfl) .nil (x_cmp (op_eqD (u64 hr)) dEqY (x_cv (cvY (yL (yTu (yc (yTu (yc yI (y1 yI))) (y1 yY))))) (x_var 7 rfl)) (x_cv (cvY (yL (yTu (yc (yTu (yc yI (y1 yI))) (y1 yY))))) (x_frzE (f_nil (ρ := (rTu (tc rC (t1 rY))))))))) (p_ifT (x_tcmp (op_neD (u64 hr)) (dNeD (kL kC)) (x_frzE (f_lcM (own := [("case", 9)]) hnd (i_list (x_var 7 rfl)) (blkOk_by (N := N_law_right) (sc := defScope s_law_right) (by decide +kernel)) (fun _ _ _ _ _ => (gt_name 9 (by decide) hnd)) (fun _ _ _ _ _ y_2556 => (x_pj 0 pj0 (x_var 9 rfl))))) (x_call (w_law_ways T) (hr.mono (Nat.le_add_right_of_le (by decide))) T.g__law_ways T.k__law_ways T.b__law_ways tk .nil (a_cons (x_var 2 rfl) (a_cons (x_var 1 rfl) (a_one (x_var 6 rfl)))))) (p_retf [] (fun _ => rfl) .nil x_bl) (p_forO (vs := [9, 8]) (fun (s : Unit) => [im (rT rC) a.1, im (rT rC) a.2.1, im (rL rC) a.2.2.1, im (rL rC) a.2.2.2.1, im rI a.2.2.2.2.1, im (rTu (tc rC (t1 (rL (rTu (tc rC (t1 rY))))))) a.2.2.2.2.2, im rC p_2555.1, im (rL (rTu (tc rC (t1 rY)))) p_2555.2, .any, .any]) (rtP rB) (fun a => a) _ () hp (i_list (x_var 7 rfl)) (gt_tup rfl (gts_cons (gt_name 8 (by decide) hnd) (gts_one (gt_name 9 (by decide) hnd)))) (fun s_2559 x_2560 => (p_ifT (x_tnot (x_test (x_call ih (hr.mono (Nat.le_refl _)) T.g__law_right T.k__law_right T.b__law_right tk .nil (a_cons (x_var 0 rfl) (a_cons (x_var 1 rfl) (a_cons (x_var 2 rfl) (a_cons (x_frzE (f_catL (x_var 3 rfl) (x_frzE (f_listN (k := 1) (ln_cons (x_var 8 rfl) ln_nil))))) (a_cons (x_sub (x_var 4 rfl) x_int) (a_one (x_out (ouTu (ouc (ouTu (ouc ouI (ou1 ouI))) (ou1 (ouL (ouTu (ouc (ouTu (ouc ouI (ou1 ouI))) (ou1 ouY))))))) (x_var 9 rfl))))))))))) (p_ret (fun w => Stp.rt w) [] (fun _ => rfl) .nil x_bl) (s_go (o := (Stp.nx ())) rfl (.cons .rfl (.cons .rfl (.cons .rfl (.cons .rfl (.cons .rfl (.cons .rfl (.cons .rfl (.cons .rfl (.cons .any (.cons .any .nil))))))))))))) (.cons .rfl (.cons .rfl (.cons .rfl (.cons .rfl (.cons .rfl (.cons .rfl (.cons .rfl (.cons .rfl (.cons .any (.cons .any .nil)))))))))) (fun a => .rtf rfl) (fun s_2570 => (p_retf [] (fun _ => rfl) .nil x_bl))))))))) (by simp only [m_law_right, ok_bindP, ok_calmP, chk_calmP, opt_calmP, R.bind_pure, R.bind_assoc] <;> rfl))
theorem w_has (T : Txt K mg Ad) : FnOk P w K mg base (L2.CX P w) 1 Ad.fhas Ad.dhas ["shape", "cell"] (SpP mg (tc (rTu (tc (rT rC) (t1 rB))) (t1 rC)) rB (fun a => m_has a.1 a.2)) :=
  have hnd := schas.nd
  f_ok (fun a => [im (rTu (tc (rT rC) (t1 rB))) a.1, im rC a.2, .any, .any]) T.F_has schas (arc ar1) rfl (by decide) (fun _ => rfl) (fun cdv A outer s H E hr tk hp a => SX.cv (
    (p_asg (vs := [2, 3]) (gt_tup rfl (gts_cons (gt_name 2 (by decide) hnd) (gts_one (gt_name 3 (by decide) hnd)))) (x_var 0 rfl) (fun p_2582 => (p_retf [] (fun _ => rfl) .nil (x_cmp op_ne dNeB (x_cmp (op_inU (u65 hr)) (dInU kC) (x_var 1 rfl) (x_var 2 rfl)) (x_var 3 rfl)))))) (by unfold m_has; simp only [ok_bindP, ok_calmP, chk_calmP, opt_calmP, R.bind_pure, R.bind_assoc] <;> rfl))
theorem w_places_on (T : Txt K mg Ad) : FnOk P w K mg base (L2.CX P w) 2 Ad.fplaces_on Ad.dplaces_on ["piece", "cell"] (SpP mg (tc (rT rC) (t1 rC)) (rL rC) (fun a => m_places_on a.1 a.2)) :=
  have hnd := scplaces_on.nd
  f_ok (fun a => [im (rT rC) a.1, im rC a.2, .any]) T.F_places_on scplaces_on (arc ar1) rfl (by decide) (fun _ => rfl) (fun cdv A outer s H E hr tk hp a => SX.cv (
    (p_retf [] (fun _ => rfl) .nil (x_frzE (f_sortC T.n_sorted (x_frzE (f_lcM (own := [("step", 2)]) hnd (i_tup (x_var 0 rfl)) (blkOk_by (N := Nplaces_on) (sc := defScope splaces_on) (by decide +kernel)) (fun _ _ _ _ _ => (gt_name 2 (by decide) hnd)) (fun _ _ _ _ _ y_2588 => (x_call (w_less_cell T) (hr.mono (by decide)) T.g_less_cell T.k_less_cell T.b_less_cell takes0 .nil (a_cons (x_var 1 rfl) (a_one (x_var 2 rfl))))))))))) (by unfold m_places_on; simp only [ok_bindP, ok_calmP, chk_calmP, opt_calmP, R.bind_pure, R.bind_assoc] <;> rfl))
theorem w_whole_at (T : Txt K mg Ad) : FnOk P w K mg base (L2.CX P w) 3 Ad.fwhole_at Ad.dwhole_at ["shape", "piece", "cell"] (SpP mg (tc (rTu (tc (rT rC) (t1 rB))) (tc (rT rC) (t1 rC))) rB (fun a => m_whole_at a.1 a.2.1 a.2.2)) :=
  have hnd := scwhole_at.nd
  f_ok (fun a => [im (rTu (tc (rT rC) (t1 rB))) a.1, im (rT rC) a.2.1, im rC a.2.2, .any]) T.F_whole_at scwhole_at (arc (arc ar1)) rfl (by decide) (fun _ => rfl) (fun cdv A outer s H E hr tk hp a => SX.cv (
    (p_retf [] (fun _ => rfl) .nil (x_callB (cr_all rfl) dAll T.n_all (by decide +kernel) (a_one (x_frzE (f_lcM (own := [("there", 3)]) hnd (i_list (x_call (w_lies_on T) (hr.mono (by decide)) T.g_lies_on T.k_lies_on T.b_lies_on tk .nil (a_cons (x_var 1 rfl) (a_one (x_var 2 rfl))))) (blkOk_by (N := Nwhole_at) (sc := defScope swhole_at) (by decide +kernel)) (fun _ _ _ _ _ => (gt_name 3 (by decide) hnd)) (fun _ _ _ _ _ y_2594 => (x_call (w_has T) (hr.mono (by decide)) T.g_has T.k_has T.b_has takes0 .nil (a_cons (x_var 0 rfl) (a_one (x_var 3 rfl))))))))))) (by unfold m_whole_at; simp only [ok_bindP, ok_calmP, chk_calmP, opt_calmP, R.bind_pure, R.bind_assoc] <;> rfl))
theorem w_tree_right (T : Txt K mg Ad) (fu : Nat) : FnOk P w K mg base (L2.CX P w) (4 + fu) Ad.ftree_right Ad.dtree_right ["shape", "piece", "taken", "many", "tree"] (SpP mg (tc (rTu (tc (rT rC) (t1 rB))) (tc (rT rC) (tc (rL rC) (tc rI (t1 (rTu (tc rC (t1 (rL (rTu (tc rC (t1 rY)))))))))))) rB (fun a => m_tree_right fu a.1 a.2.1 a.2.2.1 a.2.2.2.1 a.2.2.2.2)) := by
  have hnd := sctree_right.nd
  induction fu with
  | zero => exact f_ok (fun a => [im (rTu (tc (rT rC) (t1 rB))) a.1, im (rT rC) a.2.1, im (rL rC) a.2.2.1, im rI a.2.2.2.1, im (rTu (tc rC (t1 (rL (rTu (tc rC (t1 rY))))))) a.2.2.2.2, .any, .any, .any, .any, .any]) T.F_tree_right sctree_right (arc (arc (arc (arc ar1)))) rfl (by decide) (fun _ => rfl) (fun cdv A outer s H E hr tk hp a => SX.cv (s_bad) (by simp only [m_tree_right]))
  | succ fu ih => exact f_ok (fun a => [im (rTu (tc (rT rC) (t1 rB))) a.1, im (rT rC) a.2.1, im (rL rC) a.2.2.1, im rI a.2.2.2.1, im (rTu (tc rC (t1 (rL (rTu (tc rC (t1 rY))))))) a.2.2.2.2, .any, .any, .any, .any, .any]) T.F_tree_right sctree_right (arc (arc (arc (arc ar1)))) rfl (by decide) (fun _ => rfl) (fun cdv A outer s H E hr tk hp a => SX.cv (
    (p_asg (vs := [6, 5]) (gt_tup rfl (gts_cons (gt_name 5 (by decide) hnd) (gts_one (gt_name 6 (by decide) hnd)))) (x_var 4 rfl) (fun p_2610 => (p_ifT (x_w (w_or (x_tnot (x_test (x_call (w_has T) (hr.mono (Nat.le_add_right_of_le (by decide))) T.g_has T.k_has T.b_has tk .nil (a_cons (x_var 0 rfl) (a_one (x_var 5 rfl)))))) (w_or1 (x_test (x_call (w_is_brought T) (hr.mono (Nat.le_add_right_of_le (by decide))) T.g_is_brought T.k_is_brought T.b_is_brought tk .nil (a_cons (x_var 1 rfl) (a_cons (x_var 2 rfl) (a_one (x_var 5 rfl))))))))) (p_retf [] (fun _ => rfl) .nil x_bl) (p_ifT (x_tcmp op_eq dEqI (x_var 3 rfl) x_int) (p_retf [] (fun _ => rfl) .nil (x_cmp (op_eqD (u64 hr)) dEqY (x_cv (cvY (yL (yTu (yc (yTu (yc yI (y1 yI))) (y1 yY))))) (x_var 6 rfl)) (x_cv (cvY (yL (yTu (yc (yTu (yc yI (y1 yI))) (y1 yY))))) (x_frzE (f_nil (ρ := (rTu (tc rC (t1 rY))))))))) (p_ifT (x_tcmp (op_neD (u64 hr)) (dNeD (kL kC)) (x_frzE (f_lcM (own := [("mark", 8), ("case", 9)]) hnd (i_list (x_var 6 rfl)) (blkOk_by (N := Ntree_right) (sc := defScope stree_right) (by decide +kernel)) (fun _ _ _ _ _ => (gt_tup rfl (gts_cons (gt_name 8 (by decide) hnd) (gts_one (gt_name 9 (by decide) hnd))))) (fun _ _ _ _ _ y_2613 => (x_var 8 rfl)))) (x_frzE (f_lcF (own := [("place", 7)]) hnd (i_list (x_call (w_places_on T) (hr.mono (Nat.le_add_right_of_le (by decide))) T.g_places_on T.k_places_on T.b_places_on tk .nil (a_cons (x_var 1 rfl) (a_one (x_var 5 rfl))))) (blkOk_by (N := Ntree_right) (sc := defScope stree_right) (by decide +kernel)) (fun _ _ _ _ _ => (gt_name 7 (by decide) hnd)) (fun _ _ _ _ _ y_2614 => (ts_one (x_test (x_call (w_whole_at T) (hr.mono (Nat.le_add_right_of_le (by decide))) T.g_whole_at T.k_whole_at T.b_whole_at takes0 .nil (a_cons (x_var 0 rfl) (a_cons (x_var 1 rfl) (a_one (x_var 7 rfl)))))))) (fun _ _ _ _ _ y_2614 => (x_var 7 rfl))))) (p_retf [] (fun _ => rfl) .nil x_bl) (p_retf [] (fun _ => rfl) .nil (x_callB (cr_all rfl) dAll T.n_all (by decide +kernel) (a_one (x_frzE (f_lcM (own := [("mark", 8), ("case", 9)]) hnd (i_list (x_var 6 rfl)) (blkOk_by (N := Ntree_right) (sc := defScope stree_right) (by decide +kernel)) (fun _ _ _ _ _ => (gt_tup rfl (gts_cons (gt_name 8 (by decide) hnd) (gts_one (gt_name 9 (by decide) hnd))))) (fun _ _ _ _ _ y_2618 => (x_call ih (hr.mono (Nat.le_refl _)) T.g_tree_right T.k_tree_right T.b_tree_right takes0 .nil (a_cons (x_var 0 rfl) (a_cons (x_var 1 rfl) (a_cons (x_frzE (f_catL (x_var 2 rfl) (x_frzE (f_listN (k := 1) (ln_cons (x_var 8 rfl) ln_nil))))) (a_cons (x_sub (x_var 3 rfl) x_int) (a_one (x_out (ouTu (ouc (ouTu (ouc ouI (ou1 ouI))) (ou1 (ouL (ouTu (ouc (ouTu (ouc ouI (ou1 ouI))) (ou1 ouY))))))) (x_var 9 rfl)))))))))))))))))))) (by simp only [m_tree_right, ok_bindP, ok_calmP, chk_calmP, opt_calmP, R.bind_pure, R.bind_assoc] <;> rfl))
theorem w_fewer_right (T : Txt K mg Ad) : FnOk P w K mg base (L2.CX P w) 20 Ad.ffewer_right Ad.dfewer_right ["shape", "piece", "many", "tree"] (SpP mg (tc (rTu (tc (rT rC) (t1 rB))) (tc (rT rC) (tc rI (t1 (rTu (tc rC (t1 (rL (rTu (tc rC (t1 rY))))))))))) rB (fun a => m_fewer_right a.1 a.2.1 a.2.2.1 a.2.2.2)) :=
  have hnd := scfewer_right.nd
  f_ok (fun a => [im (rTu (tc (rT rC) (t1 rB))) a.1, im (rT rC) a.2.1, im rI a.2.2.1, im (rTu (tc rC (t1 (rL (rTu (tc rC (t1 rY))))))) a.2.2.2]) T.F_fewer_right scfewer_right (arc (arc (arc ar1))) rfl (by decide) (fun _ => rfl) (fun cdv A outer s H E hr tk hp a => SX.cv (
    (p_expr (x_call (w_look_finite T) (hr.mono (by decide)) T.g_look_finite T.k_look_finite T.b_look_finite tk .nil (a_one (x_var 0 rfl))) (fun _ => (p_retf [] (fun _ => rfl) .nil (x_call (w_tree_right T 15) (hr.mono (by decide)) T.g_tree_right T.k_tree_right T.b_tree_right tk .nil (a_cons (x_var 0 rfl) (a_cons (x_var 1 rfl) (a_cons (x_frzE (f_nil (ρ := rC))) (a_cons (x_var 2 rfl) (a_one (x_var 3 rfl))))))))))) (by unfold m_fewer_right; simp only [ok_bindP, ok_calmP, chk_calmP, opt_calmP, R.bind_pure, R.bind_assoc] <;> rfl))
theorem w_law_tree (T : Txt K mg Ad) (fu : Nat) : FnOk P w K mg base (L2.CX P w) (3 + fu) Ad.f_law_tree Ad.d_law_tree ["cells", "piece", "found", "taken", "many", "pot"] (SpML rI (tc (rT rC) (tc (rT rC) (tc (rL rC) (tc (rL rC) (t1 rI))))) (rTu (tc rC (t1 (rL (rTu (tc rC (t1 rY))))))) (fun l a => m_law_tree fu l a.1 a.2.1 a.2.2.1 a.2.2.2.1 a.2.2.2.2)) := by
  have hnd := sc_law_tree.nd
  induction fu with
  | zero => exact f_okML (fun p l a => [im (rT rC) a.1, im (rT rC) a.2.1, im (rL rC) a.2.2.1, im (rL rC) a.2.2.2.1, im rI a.2.2.2.2, .own (some p) (oLi (tl rI) l), .any, .any, .any, .any, .any]) T.F__law_tree sc_law_tree (arc (arc (arc (arc ar1)))) rfl (by decide) (fun _ _ _ => rfl) (fun cdv A outer s H E hr tk hp p l a => SX.cv (s_bad) (by simp only [m_law_tree]))
  | succ fu ih => exact f_okML (fun p l a => [im (rT rC) a.1, im (rT rC) a.2.1, im (rL rC) a.2.2.1, im (rL rC) a.2.2.2.1, im rI a.2.2.2.2, .own (some p) (oLi (tl rI) l), .any, .any, .any, .any, .any]) T.F__law_tree sc_law_tree (arc (arc (arc (arc ar1)))) rfl (by decide) (fun _ _ _ => rfl) (fun cdv A outer s H E hr tk hp p l a => SX.cv (
    (p_setLc 6 (own := [("cell", 10)]) hnd (i_tup (x_var 0 rfl)) (blkOk_by (N := N_law_tree) (sc := defScope s_law_tree) (by decide +kernel)) (fun _ _ _ _ _ => (gt_name 10 (by decide) hnd)) (fun _ _ _ _ _ y_2667 => (ts_one (x_tnot (x_test (x_call (w_law_on T) (hr.mono (Nat.le_add_right_of_le (by decide))) T.g__law_on T.k__law_on T.b__law_on takes0 .nil (a_cons (x_var 1 rfl) (a_cons (x_var 3 rfl) (a_one (x_var 10 rfl))))))))) (fun _ _ _ _ _ y_2667 => (x_var 10 rfl)) (hr := fun free_2669 => (s_give 6 rfl (p_ifJ (fun (s : List (Int × Int)) => [im (rT rC) a.1, im (rT rC) a.2.1, im (rL rC) a.2.2.1, im (rL rC) a.2.2.2.1, im rI a.2.2.2.2, .own (some p) (oLi (tl rI) l), im (rL rC) s, .any, .any, .any, .any]) (x_tcmp (op_eqD (u64 hr)) (dEqD (kL kC)) (x_var 6 rfl) (x_frzE (f_nil (ρ := rC)))) (p_set 6 hnd (x_frzE (f_callTy call_list_of dLstT T.n_list (by decide +kernel) (a_one (x_var 0 rfl)))) (fun free_2670 => (s_nx (o := free_2670) rfl (.cons .rfl (.cons .rfl (.cons .rfl (.cons .rfl (.cons .rfl (.cons .rfl (.cons .rfl (.cons .any (.cons .any (.cons .any (.cons .any .nil)))))))))))))) (s_nx (o := free_2669) rfl (.cons .rfl (.cons .rfl (.cons .rfl (.cons .rfl (.cons .rfl (.cons .rfl (.cons .rfl (.cons .any (.cons .any (.cons .any (.cons .any .nil)))))))))))) (fun s_2671 => (s_st0T 5 8 hnd (x_dvm T.n_divmod (a_cons (x_ixO 5 rfl x_int) (a_one (x_len dLenL T.n_len (a_one (x_var 6 rfl)))))) (fun p_2674 => (p_own 7 hnd (f_nil (ρ := (rTu (tc rC (t1 rY))))) (fun cases_2675 => (p_ifJ (fun (s : ((List Int) × (List ((Int × Int) × Dy)))) => [im (rT rC) a.1, im (rT rC) a.2.1, im (rL rC) a.2.2.1, im (rL rC) a.2.2.2.1, im rI a.2.2.2.2, .own (some p) (oLi (tl rI) s.1), im (rL rC) s_2671, .own none (oLi (tl (rTu (tc rC (t1 rY)))) s.2), im rI p_2674.2, .any, .any]) (x_tcmp op_gt dIb (x_var 4 rfl) x_int) (p_for (vs := [9]) (fun (s : ((List Int) × (List ((Int × Int) × Dy)))) => [im (rT rC) a.1, im (rT rC) a.2.1, im (rL rC) a.2.2.1, im (rL rC) a.2.2.2.1, im rI a.2.2.2.2, .own (some p) (oLi (tl rI) s.1), im (rL rC) s_2671, .own none (oLi (tl (rTu (tc rC (t1 rY)))) s.2), im rI p_2674.2, .any, .any]) _ ((l.set 0 p_2674.1), cases_2675) hp (i_list (x_call (w_law_ways T) (hr.mono (Nat.le_add_right_of_le (by decide))) T.g__law_ways T.k__law_ways T.b__law_ways tk .nil (a_cons (x_var 2 rfl) (a_cons (x_var 1 rfl) (a_one (x_ixL (x_var 6 rfl) (x_var 8 rfl))))))) (gt_name 9 (by decide) hnd) (fun s_2679 x_2680 => (s_appendS (Γs := fun s => [im (rT rC) a.1, im (rT rC) a.2.1, im (rL rC) a.2.2.1, im (rL rC) a.2.2.2.1, im rI a.2.2.2.2, .own (some p) (oLi (tl rI) s), im (rL rC) s_2671, .own none (oLi (tl (rTu (tc rC (t1 rY)))) s_2679.2), im rI p_2674.2, im rC x_2680, .any]) (s := s_2679.1) 7 (es_tup (Γs := fun s => [im (rT rC) a.1, im (rT rC) a.2.1, im (rL rC) a.2.2.1, im (rL rC) a.2.2.2.1, im rI a.2.2.2.2, .own (some p) (oLi (tl rI) s), im (rL rC) s_2671, .own none (oLi (tl (rTu (tc rC (t1 rY)))) s_2679.2), im rI p_2674.2, im rC x_2680, .any]) (s := s_2679.1) (as_cons (Γs := fun s => [im (rT rC) a.1, im (rT rC) a.2.1, im (rL rC) a.2.2.1, im (rL rC) a.2.2.2.1, im rI a.2.2.2.2, .own (some p) (oLi (tl rI) s), im (rL rC) s_2671, .own none (oLi (tl (rTu (tc rC (t1 rY)))) s_2679.2), im rI p_2674.2, im rC x_2680, .any]) (s := s_2679.1) (es_of (Γs := fun s => [im (rT rC) a.1, im (rT rC) a.2.1, im (rL rC) a.2.2.1, im (rL rC) a.2.2.2.1, im rI a.2.2.2.2, .own (some p) (oLi (tl rI) s), im (rL rC) s_2671, .own none (oLi (tl (rTu (tc rC (t1 rY)))) s_2679.2), im rI p_2674.2, im rC x_2680, .any]) (s := s_2679.1) (x_var 9 rfl)) (fun s_2684 => (as_one (Γs := fun s => [im (rT rC) a.1, im (rT rC) a.2.1, im (rL rC) a.2.2.1, im (rL rC) a.2.2.2.1, im rI a.2.2.2.2, .own (some p) (oLi (tl rI) s), im (rL rC) s_2671, .own none (oLi (tl (rTu (tc rC (t1 rY)))) s_2679.2), im rI p_2674.2, im rC x_2680, .any]) (s := s_2684) (es_map (π := rY) (fun x => Dy.tup [(fun x => Dy.tup [Dy.int x.1, Dy.int x.2]) x.1, (fun xs => Dy.lst (List.map (fun x => Dy.tup [(fun x => Dy.tup [Dy.int x.1, Dy.int x.2]) x.1, (fun d => d) x.2]) xs)) x.2]) (yTu (yc (yTu (yc yI (y1 yI))) (y1 (yL (yTu (yc (yTu (yc yI (y1 yI))) (y1 yY))))))).out (es_callML (Γs := fun s => [im (rT rC) a.1, im (rT rC) a.2.1, im (rL rC) a.2.2.1, im (rL rC) a.2.2.2.1, im rI a.2.2.2.2, .own (some p) (oLi (tl rI) s), im (rL rC) s_2671, .own none (oLi (tl (rTu (tc rC (t1 rY)))) s_2679.2), im rI p_2674.2, im rC x_2680, .any]) (s := s_2684) 5 (fun s => s) (fun _ l => l) ih (hr.mono (Nat.le_refl _)) T.g__law_tree T.k__law_tree T.b__law_tree tk (al_cons (Γs := fun s => [im (rT rC) a.1, im (rT rC) a.2.1, im (rL rC) a.2.2.1, im (rL rC) a.2.2.2.1, im rI a.2.2.2.2, .own (some p) (oLi (tl rI) s), im (rL rC) s_2671, .own none (oLi (tl (rTu (tc rC (t1 rY)))) s_2679.2), im rI p_2674.2, im rC x_2680, .any]) (s := s_2684) (es_of (Γs := fun s => [im (rT rC) a.1, im (rT rC) a.2.1, im (rL rC) a.2.2.1, im (rL rC) a.2.2.2.1, im rI a.2.2.2.2, .own (some p) (oLi (tl rI) s), im (rL rC) s_2671, .own none (oLi (tl (rTu (tc rC (t1 rY)))) s_2679.2), im rI p_2674.2, im rC x_2680, .any]) (s := s_2684) (x_var 0 rfl)) (fun s_2685 => (al_cons (Γs := fun s => [im (rT rC) a.1, im (rT rC) a.2.1, im (rL rC) a.2.2.1, im (rL rC) a.2.2.2.1, im rI a.2.2.2.2, .own (some p) (oLi (tl rI) s), im (rL rC) s_2671, .own none (oLi (tl (rTu (tc rC (t1 rY)))) s_2679.2), im rI p_2674.2, im rC x_2680, .any]) (s := s_2685) (es_of (Γs := fun s => [im (rT rC) a.1, im (rT rC) a.2.1, im (rL rC) a.2.2.1, im (rL rC) a.2.2.2.1, im rI a.2.2.2.2, .own (some p) (oLi (tl rI) s), im (rL rC) s_2671, .own none (oLi (tl (rTu (tc rC (t1 rY)))) s_2679.2), im rI p_2674.2, im rC x_2680, .any]) (s := s_2685) (x_var 1 rfl)) (fun s_2686 => (al_cons (Γs := fun s => [im (rT rC) a.1, im (rT rC) a.2.1, im (rL rC) a.2.2.1, im (rL rC) a.2.2.2.1, im rI a.2.2.2.2, .own (some p) (oLi (tl rI) s), im (rL rC) s_2671, .own none (oLi (tl (rTu (tc rC (t1 rY)))) s_2679.2), im rI p_2674.2, im rC x_2680, .any]) (s := s_2686) (es_of (Γs := fun s => [im (rT rC) a.1, im (rT rC) a.2.1, im (rL rC) a.2.2.1, im (rL rC) a.2.2.2.1, im rI a.2.2.2.2, .own (some p) (oLi (tl rI) s), im (rL rC) s_2671, .own none (oLi (tl (rTu (tc rC (t1 rY)))) s_2679.2), im rI p_2674.2, im rC x_2680, .any]) (s := s_2686) (x_var 2 rfl)) (fun s_2687 => (al_cons (Γs := fun s => [im (rT rC) a.1, im (rT rC) a.2.1, im (rL rC) a.2.2.1, im (rL rC) a.2.2.2.1, im rI a.2.2.2.2, .own (some p) (oLi (tl rI) s), im (rL rC) s_2671, .own none (oLi (tl (rTu (tc rC (t1 rY)))) s_2679.2), im rI p_2674.2, im rC x_2680, .any]) (s := s_2687) (es_of (Γs := fun s => [im (rT rC) a.1, im (rT rC) a.2.1, im (rL rC) a.2.2.1, im (rL rC) a.2.2.2.1, im rI a.2.2.2.2, .own (some p) (oLi (tl rI) s), im (rL rC) s_2671, .own none (oLi (tl (rTu (tc rC (t1 rY)))) s_2679.2), im rI p_2674.2, im rC x_2680, .any]) (s := s_2687) (x_frzE (f_catL (x_var 3 rfl) (x_frzE (f_listN (k := 1) (ln_cons (x_var 9 rfl) ln_nil)))))) (fun s_2688 => (al_one (Γs := fun s => [im (rT rC) a.1, im (rT rC) a.2.1, im (rL rC) a.2.2.1, im (rL rC) a.2.2.2.1, im rI a.2.2.2.2, .own (some p) (oLi (tl rI) s), im (rL rC) s_2671, .own none (oLi (tl (rTu (tc rC (t1 rY)))) s_2679.2), im rI p_2674.2, im rC x_2680, .any]) (s := s_2688) 5 (es_of (Γs := fun s => [im (rT rC) a.1, im (rT rC) a.2.1, im (rL rC) a.2.2.1, im (rL rC) a.2.2.2.1, im rI a.2.2.2.2, .own (some p) (oLi (tl rI) s), im (rL rC) s_2671, .own none (oLi (tl (rTu (tc rC (t1 rY)))) s_2679.2), im rI p_2674.2, im rC x_2680, .any]) (s := s_2688) (x_sub (x_var 4 rfl) x_int))))))))))) (fun _ => rfl) (fun _ _ => rfl)))))) (fun _ _ _ h => sz ((nc (fun _ _ _ h => n1 h)) h) (by decide))) (fun w_2681 => (s_go (o := (w_2681.2, (s_2679.2 ++ [w_2681.1]))) rfl (.cons .rfl (.cons .rfl (.cons .rfl (.cons .rfl (.cons .rfl (.cons .rfl (.cons .rfl (.cons .rfl (.cons .rfl (.cons .any (.cons .any .nil))))))))))))))) (.cons .rfl (.cons .rfl (.cons .rfl (.cons .rfl (.cons .rfl (.cons .rfl (.cons .rfl (.cons .rfl (.cons .rfl (.cons .any (.cons .any .nil))))))))))) (fun s_2689 => (s_nx (o := (s_2689.1, s_2689.2)) rfl (.cons .rfl (.cons .rfl (.cons .rfl (.cons .rfl (.cons .rfl (.cons .rfl (.cons .rfl (.cons .rfl (.cons .rfl (.cons .any (.cons .any .nil)))))))))))))) (s_nx (o := ((l.set 0 p_2674.1), cases_2675)) rfl (.cons .rfl (.cons .rfl (.cons .rfl (.cons .rfl (.cons .rfl (.cons .rfl (.cons .rfl (.cons .rfl (.cons .rfl (.cons .any (.cons .any .nil)))))))))))) (fun s_2691 => (s_give 7 rfl (p_ret (fun w => (w, s_2691.1)) [.any, .any, .any, .any, .any, .own (some p) (oLi (tl rI) s_2691.1)] (fun _ => rfl) (.cons .any (.cons .any (.cons .any (.cons .any (.cons .any (.cons .rfl .nil)))))) (x_tup (a_cons (x_ixL (x_var 6 rfl) (x_var 8 rfl)) (a_one (x_var 7 rfl))) (fun _ _ _ h => sz ((nc (fun _ _ _ h => n1 h)) h) (by decide))))))))))))))))) (by simp only [m_law_tree, ok_bindP, ok_calmP, chk_calmP, opt_calmP, R.bind_pure, R.bind_assoc] <;> rfl))
theorem w_law_spoilt (T : Txt K mg Ad) (fu : Nat) : FnOk P w K mg base (L2.CX P w) (1 + fu) Ad.f_law_spoilt Ad.d_law_spoilt ["cells", "tree", "pot"] (SpML rI (tc (rT rC) (t1 (rTu (tc rC (t1 (rL (rTu (tc rC (t1 rY))))))))) (rTu (tc rC (t1 (rL (rTu (tc rC (t1 rY))))))) (fun l a => m_law_spoilt fu l a.1 a.2)) := by
  have hnd := sc_law_spoilt.nd
  induction fu with
  | zero => exact f_okML (fun p l a => [im (rT rC) a.1, im (rTu (tc rC (t1 (rL (rTu (tc rC (t1 rY))))))) a.2, .own (some p) (oLi (tl rI) l), .any, .any, .any, .any, .any, .any, .any]) T.F__law_spoilt sc_law_spoilt (arc ar1) rfl (by decide) (fun _ _ _ => rfl) (fun cdv A outer s H E hr tk hp p l a => SX.cv (s_bad) (by simp only [m_law_spoilt]))
  | succ fu ih => exact f_okML (fun p l a => [im (rT rC) a.1, im (rTu (tc rC (t1 (rL (rTu (tc rC (t1 rY))))))) a.2, .own (some p) (oLi (tl rI) l), .any, .any, .any, .any, .any, .any, .any]) T.F__law_spoilt sc_law_spoilt (arc ar1) rfl (by decide) (fun _ _ _ => rfl) (fun cdv A outer s H E hr tk hp p l a => SX.cv (
    (p_asg (vs := [4, 3]) (gt_tup rfl (gts_cons (gt_name 3 (by decide) hnd) (gts_one (gt_name 4 (by decide) hnd)))) (x_var 1 rfl) (fun p_2749 => (s_st0T 2 5 hnd (x_dvmC T.n_divmod (x_ixO 2 rfl x_int) x_int) (fun p_2751 => (s_st0T 2 6 hnd (x_dvm T.n_divmod (a_cons (x_ixO 2 rfl x_int) (a_one (x_callB (call_max2 rfl) dMax T.n_max (by decide +kernel) (a_cons x_int (a_one (x_len dLenL T.n_len (a_one (x_var 4 rfl))))))))) (fun p_2754 => (let pot_2755 : List Int := ((l.set 0 p_2751.1).set 0 p_2754.1); (s_st0T 2 7 hnd (x_dvm T.n_divmod (a_cons (x_ixO 2 rfl x_int) (a_one (x_len dLenT T.n_len (a_one (x_var 0 rfl)))))) (fun p_2758 => (let pot_2759 : List Int := (pot_2755.set 0 p_2758.1); (p_ifT (x_w (w_and (x_tcmp op_lt dIb (x_var 5 rfl) x_int) (w_and1 (x_tcmp (op_neD (u64 hr)) dNeY (x_cv (cvY (yL (yTu (yc (yTu (yc yI (y1 yI))) (y1 yY))))) (x_var 4 rfl)) (x_cv (cvY (yL (yTu (yc (yTu (yc yI (y1 yI))) (y1 yY))))) (x_frzE (f_nil (ρ := (rTu (tc rC (t1 rY))))))))))) (p_asg (vs := [9, 8]) (gt_tup rfl (gts_cons (gt_name 8 (by decide) hnd) (gts_one (gt_name 9 (by decide) hnd)))) (x_ixL (x_var 4 rfl) (x_var 6 rfl)) (fun p_2760 => (p_retS (Γs := fun s => [im (rT rC) a.1, im (rTu (tc rC (t1 (rL (rTu (tc rC (t1 rY))))))) a.2, .own (some p) (oLi (tl rI) s), im rC p_2749.1, im (rL (rTu (tc rC (t1 rY)))) p_2749.2, im rI p_2751.2, im rI p_2754.2, im rI p_2758.2, im rC p_2760.1, im rY p_2760.2]) (s := pot_2759) (fun w => (w.1, w.2)) (fun w => [.any, .any, .own (some p) (oLi (tl rI) w.2)]) (fun _ => rfl) (fun _ => (.cons .any (.cons .any (.cons .rfl .nil)))) (es_tup (Γs := fun s => [im (rT rC) a.1, im (rTu (tc rC (t1 (rL (rTu (tc rC (t1 rY))))))) a.2, .own (some p) (oLi (tl rI) s), im rC p_2749.1, im (rL (rTu (tc rC (t1 rY)))) p_2749.2, im rI p_2751.2, im rI p_2754.2, im rI p_2758.2, im rC p_2760.1, im rY p_2760.2]) (s := pot_2759) (as_cons (Γs := fun s => [im (rT rC) a.1, im (rTu (tc rC (t1 (rL (rTu (tc rC (t1 rY))))))) a.2, .own (some p) (oLi (tl rI) s), im rC p_2749.1, im (rL (rTu (tc rC (t1 rY)))) p_2749.2, im rI p_2751.2, im rI p_2754.2, im rI p_2758.2, im rC p_2760.1, im rY p_2760.2]) (s := pot_2759) (es_of (Γs := fun s => [im (rT rC) a.1, im (rTu (tc rC (t1 (rL (rTu (tc rC (t1 rY))))))) a.2, .own (some p) (oLi (tl rI) s), im rC p_2749.1, im (rL (rTu (tc rC (t1 rY)))) p_2749.2, im rI p_2751.2, im rI p_2754.2, im rI p_2758.2, im rC p_2760.1, im rY p_2760.2]) (s := pot_2759) (x_var 3 rfl)) (fun s_2765 => (as_one (Γs := fun s => [im (rT rC) a.1, im (rTu (tc rC (t1 (rL (rTu (tc rC (t1 rY))))))) a.2, .own (some p) (oLi (tl rI) s), im rC p_2749.1, im (rL (rTu (tc rC (t1 rY)))) p_2749.2, im rI p_2751.2, im rI p_2754.2, im rI p_2758.2, im rC p_2760.1, im rY p_2760.2]) (s := s_2765) (es_frz (Γs := fun s => [im (rT rC) a.1, im (rTu (tc rC (t1 (rL (rTu (tc rC (t1 rY))))))) a.2, .own (some p) (oLi (tl rI) s), im rC p_2749.1, im (rL (rTu (tc rC (t1 rY)))) p_2749.2, im rI p_2751.2, im rI p_2754.2, im rI p_2758.2, im rC p_2760.1, im rY p_2760.2]) (s := s_2765) (fs_catL (Γs := fun s => [im (rT rC) a.1, im (rTu (tc rC (t1 (rL (rTu (tc rC (t1 rY))))))) a.2, .own (some p) (oLi (tl rI) s), im rC p_2749.1, im (rL (rTu (tc rC (t1 rY)))) p_2749.2, im rI p_2751.2, im rI p_2754.2, im rI p_2758.2, im rC p_2760.1, im rY p_2760.2]) (s := s_2765) (es_frz (Γs := fun s => [im (rT rC) a.1, im (rTu (tc rC (t1 (rL (rTu (tc rC (t1 rY))))))) a.2, .own (some p) (oLi (tl rI) s), im rC p_2749.1, im (rL (rTu (tc rC (t1 rY)))) p_2749.2, im rI p_2751.2, im rI p_2754.2, im rI p_2758.2, im rC p_2760.1, im rY p_2760.2]) (s := s_2765) (fs_catL (Γs := fun s => [im (rT rC) a.1, im (rTu (tc rC (t1 (rL (rTu (tc rC (t1 rY))))))) a.2, .own (some p) (oLi (tl rI) s), im rC p_2749.1, im (rL (rTu (tc rC (t1 rY)))) p_2749.2, im rI p_2751.2, im rI p_2754.2, im rI p_2758.2, im rC p_2760.1, im rY p_2760.2]) (s := s_2765) (es_of (Γs := fun s => [im (rT rC) a.1, im (rTu (tc rC (t1 (rL (rTu (tc rC (t1 rY))))))) a.2, .own (some p) (oLi (tl rI) s), im rC p_2749.1, im (rL (rTu (tc rC (t1 rY)))) p_2749.2, im rI p_2751.2, im rI p_2754.2, im rI p_2758.2, im rC p_2760.1, im rY p_2760.2]) (s := s_2765) (x_frzE (f_slL (x_var 4 rfl) o_none (o_some (x_var 6 rfl))))) (fun s_2767 => (es_frz (Γs := fun s => [im (rT rC) a.1, im (rTu (tc rC (t1 (rL (rTu (tc rC (t1 rY))))))) a.2, .own (some p) (oLi (tl rI) s), im rC p_2749.1, im (rL (rTu (tc rC (t1 rY)))) p_2749.2, im rI p_2751.2, im rI p_2754.2, im rI p_2758.2, im rC p_2760.1, im rY p_2760.2]) (s := s_2767) (fs_list (Γs := fun s => [im (rT rC) a.1, im (rTu (tc rC (t1 (rL (rTu (tc rC (t1 rY))))))) a.2, .own (some p) (oLi (tl rI) s), im rC p_2749.1, im (rL (rTu (tc rC (t1 rY)))) p_2749.2, im rI p_2751.2, im rI p_2754.2, im rI p_2758.2, im rC p_2760.1, im rY p_2760.2]) (s := s_2767) (k := 1) (as_nc (Γs := fun s => [im (rT rC) a.1, im (rTu (tc rC (t1 (rL (rTu (tc rC (t1 rY))))))) a.2, .own (some p) (oLi (tl rI) s), im rC p_2749.1, im (rL (rTu (tc rC (t1 rY)))) p_2749.2, im rI p_2751.2, im rI p_2754.2, im rI p_2758.2, im rC p_2760.1, im rY p_2760.2]) (s := s_2767) (es_tup (Γs := fun s => [im (rT rC) a.1, im (rTu (tc rC (t1 (rL (rTu (tc rC (t1 rY))))))) a.2, .own (some p) (oLi (tl rI) s), im rC p_2749.1, im (rL (rTu (tc rC (t1 rY)))) p_2749.2, im rI p_2751.2, im rI p_2754.2, im rI p_2758.2, im rC p_2760.1, im rY p_2760.2]) (s := s_2767) (as_cons (Γs := fun s => [im (rT rC) a.1, im (rTu (tc rC (t1 (rL (rTu (tc rC (t1 rY))))))) a.2, .own (some p) (oLi (tl rI) s), im rC p_2749.1, im (rL (rTu (tc rC (t1 rY)))) p_2749.2, im rI p_2751.2, im rI p_2754.2, im rI p_2758.2, im rC p_2760.1, im rY p_2760.2]) (s := s_2767) (es_of (Γs := fun s => [im (rT rC) a.1, im (rTu (tc rC (t1 (rL (rTu (tc rC (t1 rY))))))) a.2, .own (some p) (oLi (tl rI) s), im rC p_2749.1, im (rL (rTu (tc rC (t1 rY)))) p_2749.2, im rI p_2751.2, im rI p_2754.2, im rI p_2758.2, im rC p_2760.1, im rY p_2760.2]) (s := s_2767) (x_var 8 rfl)) (fun s_2769 => (as_one (Γs := fun s => [im (rT rC) a.1, im (rTu (tc rC (t1 (rL (rTu (tc rC (t1 rY))))))) a.2, .own (some p) (oLi (tl rI) s), im rC p_2749.1, im (rL (rTu (tc rC (t1 rY)))) p_2749.2, im rI p_2751.2, im rI p_2754.2, im rI p_2758.2, im rC p_2760.1, im rY p_2760.2]) (s := s_2769) (es_map (π := rY) (fun x => Dy.tup [(fun x => Dy.tup [Dy.int x.1, Dy.int x.2]) x.1, (fun xs => Dy.lst (List.map (fun x => Dy.tup [(fun x => Dy.tup [Dy.int x.1, Dy.int x.2]) x.1, (fun d => d) x.2]) xs)) x.2]) (yTu (yc (yTu (yc yI (y1 yI))) (y1 (yL (yTu (yc (yTu (yc yI (y1 yI))) (y1 yY))))))).out (es_callML (Γs := fun s => [im (rT rC) a.1, im (rTu (tc rC (t1 (rL (rTu (tc rC (t1 rY))))))) a.2, .own (some p) (oLi (tl rI) s), im rC p_2749.1, im (rL (rTu (tc rC (t1 rY)))) p_2749.2, im rI p_2751.2, im rI p_2754.2, im rI p_2758.2, im rC p_2760.1, im rY p_2760.2]) (s := s_2769) 2 (fun s => s) (fun _ l => l) ih (hr.mono (Nat.le_refl _)) T.g__law_spoilt T.k__law_spoilt T.b__law_spoilt tk (al_cons (Γs := fun s => [im (rT rC) a.1, im (rTu (tc rC (t1 (rL (rTu (tc rC (t1 rY))))))) a.2, .own (some p) (oLi (tl rI) s), im rC p_2749.1, im (rL (rTu (tc rC (t1 rY)))) p_2749.2, im rI p_2751.2, im rI p_2754.2, im rI p_2758.2, im rC p_2760.1, im rY p_2760.2]) (s := s_2769) (es_of (Γs := fun s => [im (rT rC) a.1, im (rTu (tc rC (t1 (rL (rTu (tc rC (t1 rY))))))) a.2, .own (some p) (oLi (tl rI) s), im rC p_2749.1, im (rL (rTu (tc rC (t1 rY)))) p_2749.2, im rI p_2751.2, im rI p_2754.2, im rI p_2758.2, im rC p_2760.1, im rY p_2760.2]) (s := s_2769) (x_var 0 rfl)) (fun s_2770 => (al_one (Γs := fun s => [im (rT rC) a.1, im (rTu (tc rC (t1 (rL (rTu (tc rC (t1 rY))))))) a.2, .own (some p) (oLi (tl rI) s), im rC p_2749.1, im (rL (rTu (tc rC (t1 rY)))) p_2749.2, im rI p_2751.2, im rI p_2754.2, im rI p_2758.2, im rC p_2760.1, im rY p_2760.2]) (s := s_2770) 2 (es_of (Γs := fun s => [im (rT rC) a.1, im (rTu (tc rC (t1 (rL (rTu (tc rC (t1 rY))))))) a.2, .own (some p) (oLi (tl rI) s), im rC p_2749.1, im (rL (rTu (tc rC (t1 rY)))) p_2749.2, im rI p_2751.2, im rI p_2754.2, im rI p_2758.2, im rC p_2760.1, im rY p_2760.2]) (s := s_2770) (x_out (ouTu (ouc (ouTu (ouc ouI (ou1 ouI))) (ou1 (ouL (ouTu (ouc (ouTu (ouc ouI (ou1 ouI))) (ou1 ouY))))))) (x_var 9 rfl)))))) (fun _ => rfl) (fun _ _ => rfl)))))) (fun _ _ _ h => sz ((nc (fun _ _ _ h => n1 h)) h) (by decide))) (fun s_2768 => (as_n0 (Γs := fun s => [im (rT rC) a.1, im (rTu (tc rC (t1 (rL (rTu (tc rC (t1 rY))))))) a.2, .own (some p) (oLi (tl rI) s), im rC p_2749.1, im (rL (rTu (tc rC (t1 rY)))) p_2749.2, im rI p_2751.2, im rI p_2754.2, im rI p_2758.2, im rC p_2760.1, im rY p_2760.2]) (s := s_2768))))))))) (fun s_2766 => (es_of (Γs := fun s => [im (rT rC) a.1, im (rTu (tc rC (t1 (rL (rTu (tc rC (t1 rY))))))) a.2, .own (some p) (oLi (tl rI) s), im rC p_2749.1, im (rL (rTu (tc rC (t1 rY)))) p_2749.2, im rI p_2751.2, im rI p_2754.2, im rI p_2758.2, im rC p_2760.1, im rY p_2760.2]) (s := s_2766) (x_frzE (f_slL (x_var 4 rfl) (o_some (x_add (x_var 6 rfl) x_int)) o_none))))))))) (fun _ _ _ h => sz ((nc (fun _ _ _ h => n1 h)) h) (by decide)))))) (p_ifT (x_tcmp op_eq dEqI (x_var 5 rfl) x_int) (p_ret (fun w => (w, pot_2759)) [.any, .any, .own (some p) (oLi (tl rI) pot_2759)] (fun _ => rfl) (.cons .any (.cons .any (.cons .rfl .nil))) (x_tup (a_cons (x_var 3 rfl) (a_one (x_frzE (f_catL (x_frzE (f_slL (x_var 4 rfl) o_none (o_some (x_var 6 rfl)))) (x_frzE (f_slL (x_var 4 rfl) (o_some (x_add (x_var 6 rfl) x_int)) o_none)))))) (fun _ _ _ h => sz ((nc (fun _ _ _ h => n1 h)) h) (by decide)))) (p_ifT (x_w (w_and (x_tcmp op_eq dEqI (x_var 5 rfl) x_int) (w_and1 (x_tcmp (op_neD (u64 hr)) dNeY (x_cv (cvY (yL (yTu (yc (yTu (yc yI (y1 yI))) (y1 yY))))) (x_var 4 rfl)) (x_cv (cvY (yL (yTu (yc (yTu (yc yI (y1 yI))) (y1 yY))))) (x_frzE (f_nil (ρ := (rTu (tc rC (t1 rY))))))))))) (p_ret (fun w => (w, pot_2759)) [.any, .any, .own (some p) (oLi (tl rI) pot_2759)] (fun _ => rfl) (.cons .any (.cons .any (.cons .rfl .nil))) (x_tup (a_cons (x_var 3 rfl) (a_one (x_frzE (f_catL (x_frzE (f_catL (x_frzE (f_slL (x_var 4 rfl) o_none (o_some (x_var 6 rfl)))) (x_frzE (f_listN (k := 1) (ln_cons (x_ixL (x_var 4 rfl) (x_var 6 rfl)) ln_nil))))) (x_frzE (f_slL (x_var 4 rfl) (o_some (x_var 6 rfl)) o_none)))))) (fun _ _ _ h => sz ((nc (fun _ _ _ h => n1 h)) h) (by decide)))) (p_ifT (x_w (w_and (x_tcmp op_eq dEqI (x_var 5 rfl) x_int) (w_and1 (x_tcmp (op_neD (u64 hr)) dNeY (x_cv (cvY (yL (yTu (yc (yTu (yc yI (y1 yI))) (y1 yY))))) (x_var 4 rfl)) (x_cv (cvY (yL (yTu (yc (yTu (yc yI (y1 yI))) (y1 yY))))) (x_frzE (f_nil (ρ := (rTu (tc rC (t1 rY))))))))))) (p_asg (vs := [9, 8]) (gt_tup rfl (gts_cons (gt_name 8 (by decide) hnd) (gts_one (gt_name 9 (by decide) hnd)))) (x_ixL (x_var 4 rfl) (x_var 6 rfl)) (fun p_2779 => (p_ret (fun w => (w, pot_2759)) [.any, .any, .own (some p) (oLi (tl rI) pot_2759)] (fun _ => rfl) (.cons .any (.cons .any (.cons .rfl .nil))) (x_tup (a_cons (x_var 3 rfl) (a_one (x_frzE (f_catL (x_frzE (f_catL (x_frzE (f_slL (x_var 4 rfl) o_none (o_some (x_var 6 rfl)))) (x_frzE (f_listN (k := 1) (ln_cons (x_tup (a_cons (x_tup (a_cons (x_pj 0 pj0 (x_var 8 rfl)) (a_one (x_add (x_pj 1 (pjs pj1) (x_var 8 rfl)) x_int))) (fun _ _ _ h => sz ((nc (fun _ _ _ h => n1 h)) h) (by decide))) (a_one (x_var 9 rfl))) (fun _ _ _ h => sz ((nc (fun _ _ _ h => n1 h)) h) (by decide))) ln_nil))))) (x_frzE (f_slL (x_var 4 rfl) (o_some (x_add (x_var 6 rfl) x_int)) o_none)))))) (fun _ _ _ h => sz ((nc (fun _ _ _ h => n1 h)) h) (by decide)))))) (p_ifT (x_tcmp op_eq dEqI (x_var 5 rfl) x_int) (p_ret (fun w => (w, pot_2759)) [.any, .any, .own (some p) (oLi (tl rI) pot_2759)] (fun _ => rfl) (.cons .any (.cons .any (.cons .rfl .nil))) (x_tup (a_cons (x_ixT (x_var 0 rfl) (x_var 7 rfl)) (a_one (x_var 4 rfl))) (fun _ _ _ h => sz ((nc (fun _ _ _ h => n1 h)) h) (by decide)))) (p_ifT (x_tcmp op_eq dEqI (x_var 5 rfl) x_int) (p_ret (fun w => (w, pot_2759)) [.any, .any, .own (some p) (oLi (tl rI) pot_2759)] (fun _ => rfl) (.cons .any (.cons .any (.cons .rfl .nil))) (x_tup (a_cons (x_tup (a_cons (x_sub (x_pj 0 pj0 (x_var 3 rfl)) (x_powC 10000000)) (a_one (x_pj 1 (pjs pj1) (x_var 3 rfl)))) (fun _ _ _ h => sz ((nc (fun _ _ _ h => n1 h)) h) (by decide))) (a_one (x_var 4 rfl))) (fun _ _ _ h => sz ((nc (fun _ _ _ h => n1 h)) h) (by decide)))) (p_ifT (x_w (w_and2 (x_tcmp op_eq dEqI (x_var 5 rfl) x_int) (w_and1 (x_tcmp op_gt dIb (x_len dLenL T.n_len (a_one (x_var 4 rfl))) x_int)))) (p_ret (fun w => (w, pot_2759)) [.any, .any, .own (some p) (oLi (tl rI) pot_2759)] (fun _ => rfl) (.cons .any (.cons .any (.cons .rfl .nil))) (x_tup (a_cons (x_var 3 rfl) (a_one (x_frzE (f_catL (x_frzE (f_slL (x_var 4 rfl) (o_some x_int) o_none)) (x_frzE (f_slL (x_var 4 rfl) o_none (o_some x_int))))))) (fun _ _ _ h => sz ((nc (fun _ _ _ h => n1 h)) h) (by decide)))) (p_ret (fun w => (w, pot_2759)) [.any, .any, .own (some p) (oLi (tl rI) pot_2759)] (fun _ => rfl) (.cons .any (.cons .any (.cons .rfl .nil))) (x_tup (a_cons (x_var 3 rfl) (a_one (x_frzE (f_catL (x_var 4 rfl) (x_frzE (f_listN (k := 1) (ln_cons (x_tup (a_cons (x_var 3 rfl) (a_one (x_cv (cvY (yTu (yc (yTu (yc yI (y1 yI))) (y1 (yL yI))))) (x_tup (a_cons (x_ixT (x_var 0 rfl) (x_var 7 rfl)) (a_one (x_frzE (f_nil (ρ := rI))))) (fun _ _ _ h => sz ((nc (fun _ _ _ h => n1 h)) h) (by decide)))))) (fun _ _ _ h => sz ((nc (fun _ _ _ h => n1 h)) h) (by decide))) ln_nil))))))) (fun _ _ _ h => sz ((nc (fun _ _ _ h => n1 h)) h) (by decide)))))))))))))))))))))) (by simp only [m_law_spoilt, ok_bindP, ok_calmP, chk_calmP, opt_calmP, R.bind_pure, R.bind_assoc] <;> rfl))
theorem w_law_endless (T : Txt K mg Ad) : FnOk P w K mg base (L2.CX P w) 21 Ad.f_law_endless Ad.d_law_endless ["shape", "piece", "many", "tree"] (SpP mg (tc (rTu (tc (rT rC) (t1 rB))) (tc (rT rC) (tc rI (t1 (rTu (tc rC (t1 (rL (rTu (tc rC (t1 rY))))))))))) rB (fun a => m_law_endless a.1 a.2.1 a.2.2.1 a.2.2.2)) :=
  have hnd := sc_law_endless.nd
  f_ok (fun a => [im (rTu (tc (rT rC) (t1 rB))) a.1, im (rT rC) a.2.1, im rI a.2.2.1, im (rTu (tc rC (t1 (rL (rTu (tc rC (t1 rY))))))) a.2.2.2, .any, .any]) T.F__law_endless sc_law_endless (arc (arc (arc ar1))) rfl (by decide) (fun _ => rfl) (fun cdv A outer s H E hr tk hp a => SX.cv (
    (p_set 4 hnd (x_nonO (ρ := (rXv mg))) (fun kind_2825 => (p_tryKeep (mh := fun r_2836 => R.ok (some r_2836.cls)) 5 4 (fun s => if s = ("Endless" : Str) then some true else if s = ("NoMarks" : Str) then some true else if s = ("TooMany" : Str) then some true else none) [im (rTu (tc (rT rC) (t1 rB))) a.1, im (rT rC) a.2.1, im rI a.2.2.1, im (rTu (tc rC (t1 (rL (rTu (tc rC (t1 rY))))))) a.2.2.2, im (rO (rXv mg)) kind_2825, .any] (fun (s : Option Str) => [im (rTu (tc (rT rC) (t1 rB))) a.1, im (rT rC) a.2.1, im rI a.2.2.1, im (rTu (tc rC (t1 (rL (rTu (tc rC (t1 rY))))))) a.2.2.2, im (rO (rXv mg)) s, .any]) hnd T.gc_MossError tk .nil (ct_cons T.x_Endless.g T.e_Endless_MossError (ct_cons T.x_NoMarks.g T.e_NoMarks_MossError (ct_cons T.x_TooMany.g T.e_TooMany_MossError ct_nil))) (fun W_2826 pn_2827 xe_2828 tk_2829 hp_2830 => (p_expr (x_call (w_fewer_right T) (hr.mono (by decide)) T.g_fewer_right T.k_fewer_right T.b_fewer_right tk_2829 (.cons .rfl (.cons .rfl (.cons .rfl (.cons .rfl (.cons .rfl (.cons .any .nil)))))) (a_cons (x_var 0 rfl) (a_cons (x_var 1 rfl) (a_cons (x_var 2 rfl) (a_one (x_var 3 rfl)))))) (fun _ => (s_nx (o := kind_2825) rfl (.cons .rfl (.cons .rfl (.cons .rfl (.cons .rfl (.cons .rfl (.cons .any .nil)))))))))) (fun r_2836 => ⟨_, rfl, (.cons .rfl (.cons .rfl (.cons .rfl (.cons .rfl (.cons .rfl (.cons .any .nil))))))⟩) (by decide) rfl (fun x h => by injection h with h; exact h.symm) (fun s_2841 => (p_ifT (x_test (x_isVT (fun s => if s = ("Endless" : Str) then some false else if s = ("NoMarks" : Str) then some true else if s = ("TooMany" : Str) then some true else none) T.n_isinstance (x_var 4 rfl) (.cons (nm_own T.gc_BadCell) (.cons (nm_own T.gc_BadDeed) (.cons (nm_own T.gc_BadPiece) (.cons (nm_own T.gc_BadTurn) (.cons (nm_own T.gc_NoCell) (.cons (nm_own T.gc_NoMarks) (.cons (nm_own T.gc_NoText) (.cons (nm_own T.gc_TooMany) (.cons (nm_own T.gc_TooWide) .nil rfl) rfl) rfl) rfl) rfl) rfl) rfl) rfl) rfl) (Nat.le_of_ble_eq_true rfl) (ct_cons T.x_Endless.g ⟨T.x_Endless.c, T.t_Endless_BadCell_BadDeed_BadPiece_BadTurn_NoCell_NoMarks_NoText_TooMany_TooWide⟩ (ct_cons T.x_NoMarks.g ⟨T.x_NoMarks.c, T.t_NoMarks_BadCell_BadDeed_BadPiece_BadTurn_NoCell_NoMarks_NoText_TooMany_TooWide⟩ (ct_cons T.x_TooMany.g ⟨T.x_TooMany.c, T.t_TooMany_BadCell_BadDeed_BadPiece_BadTurn_NoCell_NoMarks_NoText_TooMany_TooWide⟩ ct_nil))))) (p_retf [] (fun _ => rfl) .nil x_bl) (p_retf [] (fun _ => rfl) .nil (x_and (x_isV (fun s => if s = ("Endless" : Str) then some true else if s = ("NoMarks" : Str) then some false else if s = ("TooMany" : Str) then some false else none) T.n_isinstance (x_var 4 rfl) (nm_own T.gc_Endless) (ct_cons T.x_Endless.g ⟨T.x_Endless.c, T.i_Endless_Endless⟩ (ct_cons T.x_NoMarks.g ⟨T.x_NoMarks.c, T.i_NoMarks_Endless⟩ (ct_cons T.x_TooMany.g ⟨T.x_TooMany.c, T.i_TooMany_Endless⟩ ct_nil)))) (x_one (x_isV (fun s => if s = ("Endless" : Str) then some true else if s = ("NoMarks" : Str) then some true else if s = ("TooMany" : Str) then some true else none) T.n_isinstance (x_var 4 rfl) (nm_blt T.n_ValueError (by decide +kernel)) (ct_cons T.x_Endless.g ⟨T.x_Endless.c, T.i_Endless_ValueError⟩ (ct_cons T.x_NoMarks.g ⟨T.x_NoMarks.c, T.i_NoMarks_ValueError⟩ (ct_cons T.x_TooMany.g ⟨T.x_TooMany.c, T.i_TooMany_ValueError⟩ ct_nil))))))))))))) (by unfold m_law_endless; simp only [ok_bindP, ok_calmP, chk_calmP, opt_calmP, R.bind_pure, R.bind_assoc] <;> rfl))
theorem w_law (T : Txt K mg Ad) : FnOk P w K mg base (L2.CX P w) 22 Ad.flaw Ad.dlaw ["script"] (SpP mg (t1 (rScr K)) rB (fun a => m_law a)) :=
  have hnd := sclaw.nd
  f_ok (fun a => [im (rScr K) a, .any, .any, .any, .any, .any, .any, .any, .any, .any, .any]) T.F_law sclaw ar1 rfl (by decide) (fun _ => rfl) (fun cdv A outer s H E hr tk hp a => SX.cv (
    (p_asg (vs := [3, 2]) (gt_tup rfl (gts_cons (gt_name 2 (by decide) hnd) (gts_one (gt_name 3 (by decide) hnd)))) (x_call (w_law_piece T) (hr.mono (by decide)) T.g__law_piece T.k__law_piece T.b__law_piece tk .nil (a_one (x_call (w_law_deal T) (hr.mono (by decide)) T.g__law_deal T.k__law_deal T.b__law_deal tk .nil (a_cons (x_call (w_law_cell T) (hr.mono (by decide)) T.g__law_cell T.k__law_cell T.b__law_cell tk .nil (a_cons (x_var 0 rfl) (a_one x_int))) (a_one x_int))))) (fun p_2862 => (p_forO (vs := [1]) (fun (s : Unit) => [im (rScr K) a, .any, im (rT rC) p_2862.1, .any, .any, .any, .any, .any, .any, .any, .any]) (rtP rB) (fun a => a) _ () hp (i_list (x_frzE (f_catL (x_frzE (f_listN (k := 1) (ln_cons (x_call (w_law_cell T) (hr.mono (by decide)) T.g__law_cell T.k__law_cell T.b__law_cell tk .nil (a_cons (x_var 0 rfl) (a_one x_int))) ln_nil))) (x_frzE (f_slS (x_var 0 rfl) (o_some x_int) (o_some x_int)))))) (gt_name 1 (by decide) hnd) (fun s_2865 x_2866 => (p_asg (vs := [5, 3]) (gt_tup rfl (gts_cons (gt_name 5 (by decide) hnd) (gts_one (gt_name 3 (by decide) hnd)))) (x_call (w_law_marked T) (hr.mono (by decide)) T.g__law_marked T.k__law_marked T.b__law_marked tk .nil (a_cons (x_call (w_law_deal T) (hr.mono (by decide)) T.g__law_deal T.k__law_deal T.b__law_deal tk .nil (a_cons (x_var 1 rfl) (a_one x_int))) (a_cons (x_var 2 rfl) (a_one x_int)))) (fun p_2869 => (p_set 4 hnd (x_frzE (f_sortC T.n_sorted (x_call (w_law_greatest T) (hr.mono (by decide)) T.g__law_greatest T.k__law_greatest T.b__law_greatest tk .nil (a_cons (x_var 5 rfl) (a_one (x_var 2 rfl)))))) (fun found_2871 => (p_ifS (fun (s : Unit) => [im (rScr K) a, im rI x_2866, im (rT rC) p_2862.1, im rI p_2869.2, im (rL rC) found_2871, im (rT rC) p_2869.1, .any, .any, .any, .any, .any]) (x_w (w_and2 (x_tcmp (op_eqD (u64 hr)) (dEqD (kT kC)) (x_callTy call_tuple_of dTupL T.n_tuple (by decide +kernel) (a_one (x_call (w_law_brought T) (hr.mono (by decide)) T.g__law_brought T.k__law_brought T.b__law_brought tk .nil (a_cons (x_var 4 rfl) (a_one (x_var 2 rfl)))))) (x_var 5 rfl)) (w_and1 (x_tcmp op_le dIb (x_len dLenL T.n_len (a_one (x_var 4 rfl))) x_int)))) (p_set 6 hnd (x_call (w_fewer_paper T) (hr.mono (by decide)) T.g_fewer_paper T.k_fewer_paper T.b_fewer_paper tk .nil (a_cons (x_tup (a_cons (x_var 5 rfl) (a_one x_bl)) (fun _ _ _ h => sz ((nc (fun _ _ _ h => n1 h)) h) (by decide))) (a_one (x_var 2 rfl)))) (fun told_2875 => (p_set 7 hnd (x_len dLenT T.n_len (a_one (x_call (w_fewest T) (hr.mono (by decide)) T.g_fewest T.k_fewest T.b_fewest tk .nil (a_cons (x_tup (a_cons (x_var 5 rfl) (a_one x_bl)) (fun _ _ _ h => sz ((nc (fun _ _ _ h => n1 h)) h) (by decide))) (a_one (x_var 2 rfl)))))) (fun many_2877 => (p_ifT (x_tcmp op_ne dNeB (c_val (c_isNY (x_var 6 rfl))) (x_cmp op_eq dEqI (x_var 7 rfl) x_int)) (p_ret (fun w => Sum.inl (Stp.rt w)) [] (fun _ => rfl) .nil x_bl) (p_ifT (x_w (w_and (x_tcmp op_gt dIb (x_var 7 rfl) x_int) (w_and1 (x_tnot (x_test (x_call (w_law_right T 15) (hr.mono (by decide)) T.g__law_right T.k__law_right T.b__law_right tk .nil (a_cons (x_var 5 rfl) (a_cons (x_var 2 rfl) (a_cons (x_var 4 rfl) (a_cons (x_frzE (f_nil (ρ := rC))) (a_cons (x_sub (x_var 7 rfl) x_int) (a_one (x_out (ouTu (ouc (ouTu (ouc ouI (ou1 ouI))) (ou1 (ouL (ouTu (ouc (ouTu (ouc ouI (ou1 ouI))) (ou1 ouY))))))) (x_var 6 rfl)))))))))))))) (p_ret (fun w => Sum.inl (Stp.rt w)) [] (fun _ => rfl) .nil x_bl) (p_ifT (x_w (w_and (x_tcmp op_gt dIb (x_var 7 rfl) x_int) (w_and1 (x_tcmp op_notBl dNotB (x_call (w_fewer_right T) (hr.mono (by decide)) T.g_fewer_right T.k_fewer_right T.b_fewer_right tk .nil (a_cons (x_tup (a_cons (x_var 5 rfl) (a_one x_bl)) (fun _ _ _ h => sz ((nc (fun _ _ _ h => n1 h)) h) (by decide))) (a_cons (x_var 2 rfl) (a_cons (x_sub (x_var 7 rfl) x_int) (a_one (x_out (ouTu (ouc (ouTu (ouc ouI (ou1 ouI))) (ou1 (ouL (ouTu (ouc (ouTu (ouc ouI (ou1 ouI))) (ou1 ouY))))))) (x_var 6 rfl))))))) x_bl)))) (p_ret (fun w => Sum.inl (Stp.rt w)) [] (fun _ => rfl) .nil x_bl) (s_nx (o := (Sum.inr ())) rfl (.cons .rfl (.cons .rfl (.cons .rfl (.cons .rfl (.cons .rfl (.cons .rfl (.cons .any (.cons .any (.cons .any (.cons .any (.cons .any .nil))))))))))))))))))) (s_nx (o := (Sum.inr ())) rfl (.cons .rfl (.cons .rfl (.cons .rfl (.cons .rfl (.cons .rfl (.cons .rfl (.cons .any (.cons .any (.cons .any (.cons .any (.cons .any .nil)))))))))))) (fun s_2892 => (p_if2 (x_tcmp (op_neD (u64 hr)) (dNeD (kT kC)) (x_var 5 rfl) (x_tup0 (ρ := rC))) (p_own 8 hnd (f_listN (k := 1) (ln_cons (x_var 3 rfl) ln_nil)) (fun pot_2893 => (s_st0T 8 7 hnd (x_dvmC T.n_divmod (x_ixO 8 rfl x_int) x_int) (fun p_2895 => (let pot_2896 : List Int := (pot_2893.set 0 p_2895.1); (p_setS (Γs := fun s => [im (rScr K) a, im rI x_2866, im (rT rC) p_2862.1, im rI p_2869.2, im (rL rC) found_2871, im (rT rC) p_2869.1, .any, im rI p_2895.2, .own none (oLi (tl rI) s), .any, .any]) (s := pot_2896) 9 hnd (es_callML (Γs := fun s => [im (rScr K) a, im rI x_2866, im (rT rC) p_2862.1, im rI p_2869.2, im (rL rC) found_2871, im (rT rC) p_2869.1, .any, im rI p_2895.2, .own none (oLi (tl rI) s), .any, .any]) (s := pot_2896) 8 (fun s => s) (fun _ l => l) (w_law_tree T 6) (hr.mono (by decide)) T.g__law_tree T.k__law_tree T.b__law_tree tk (al_cons (Γs := fun s => [im (rScr K) a, im rI x_2866, im (rT rC) p_2862.1, im rI p_2869.2, im (rL rC) found_2871, im (rT rC) p_2869.1, .any, im rI p_2895.2, .own none (oLi (tl rI) s), .any, .any]) (s := pot_2896) (es_of (Γs := fun s => [im (rScr K) a, im rI x_2866, im (rT rC) p_2862.1, im rI p_2869.2, im (rL rC) found_2871, im (rT rC) p_2869.1, .any, im rI p_2895.2, .own none (oLi (tl rI) s), .any, .any]) (s := pot_2896) (x_var 5 rfl)) (fun s_2909 => (al_cons (Γs := fun s => [im (rScr K) a, im rI x_2866, im (rT rC) p_2862.1, im rI p_2869.2, im (rL rC) found_2871, im (rT rC) p_2869.1, .any, im rI p_2895.2, .own none (oLi (tl rI) s), .any, .any]) (s := s_2909) (es_of (Γs := fun s => [im (rScr K) a, im rI x_2866, im (rT rC) p_2862.1, im rI p_2869.2, im (rL rC) found_2871, im (rT rC) p_2869.1, .any, im rI p_2895.2, .own none (oLi (tl rI) s), .any, .any]) (s := s_2909) (x_var 2 rfl)) (fun s_2910 => (al_cons (Γs := fun s => [im (rScr K) a, im rI x_2866, im (rT rC) p_2862.1, im rI p_2869.2, im (rL rC) found_2871, im (rT rC) p_2869.1, .any, im rI p_2895.2, .own none (oLi (tl rI) s), .any, .any]) (s := s_2910) (es_of (Γs := fun s => [im (rScr K) a, im rI x_2866, im (rT rC) p_2862.1, im rI p_2869.2, im (rL rC) found_2871, im (rT rC) p_2869.1, .any, im rI p_2895.2, .own none (oLi (tl rI) s), .any, .any]) (s := s_2910) (x_var 4 rfl)) (fun s_2911 => (al_cons (Γs := fun s => [im (rScr K) a, im rI x_2866, im (rT rC) p_2862.1, im rI p_2869.2, im (rL rC) found_2871, im (rT rC) p_2869.1, .any, im rI p_2895.2, .own none (oLi (tl rI) s), .any, .any]) (s := s_2911) (es_of (Γs := fun s => [im (rScr K) a, im rI x_2866, im (rT rC) p_2862.1, im rI p_2869.2, im (rL rC) found_2871, im (rT rC) p_2869.1, .any, im rI p_2895.2, .own none (oLi (tl rI) s), .any, .any]) (s := s_2911) (x_frzE (f_nil (ρ := rC)))) (fun s_2912 => (al_one (Γs := fun s => [im (rScr K) a, im rI x_2866, im (rT rC) p_2862.1, im rI p_2869.2, im (rL rC) found_2871, im (rT rC) p_2869.1, .any, im rI p_2895.2, .own none (oLi (tl rI) s), .any, .any]) (s := s_2912) 8 (es_of (Γs := fun s => [im (rScr K) a, im rI x_2866, im (rT rC) p_2862.1, im rI p_2869.2, im (rL rC) found_2871, im (rT rC) p_2869.1, .any, im rI p_2895.2, .own none (oLi (tl rI) s), .any, .any]) (s := s_2912) (x_callB (call_min2 rfl) dMin T.n_min (by decide +kernel) (a_cons (x_var 7 rfl) (a_one (x_add x_int (x_callTy call_int1 dIntB T.n_int (by decide +kernel) (a_one (x_cmp op_lt dIb (x_len dLenT T.n_len (a_one (x_var 2 rfl))) x_int))))))))))))))))) (fun _ => rfl) (fun _ _ => rfl)) (fun tree_2897 => (s_st0T 8 10 hnd (x_dvmC T.n_divmod (x_ixO 8 rfl x_int) x_int) (fun p_2899 => (let pot_2900 : List Int := (tree_2897.2.set 0 p_2899.1); (p_ifJ (fun (s : ((Int × Int) × (List ((Int × Int) × Dy)))) => [im (rScr K) a, im rI x_2866, im (rT rC) p_2862.1, im rI p_2869.2, im (rL rC) found_2871, im (rT rC) p_2869.1, .any, im rI p_2895.2, .any, im (rTu (tc rC (t1 (rL (rTu (tc rC (t1 rY))))))) s, im rI p_2899.2]) (x_tcmp op_eq dEqI (x_var 10 rfl) x_int) (p_setS (Γs := fun s => [im (rScr K) a, im rI x_2866, im (rT rC) p_2862.1, im rI p_2869.2, im (rL rC) found_2871, im (rT rC) p_2869.1, .any, im rI p_2895.2, .own none (oLi (tl rI) s), im (rTu (tc rC (t1 (rL (rTu (tc rC (t1 rY))))))) tree_2897.1, im rI p_2899.2]) (s := pot_2900) 9 hnd (es_callML (Γs := fun s => [im (rScr K) a, im rI x_2866, im (rT rC) p_2862.1, im rI p_2869.2, im (rL rC) found_2871, im (rT rC) p_2869.1, .any, im rI p_2895.2, .own none (oLi (tl rI) s), im (rTu (tc rC (t1 (rL (rTu (tc rC (t1 rY))))))) tree_2897.1, im rI p_2899.2]) (s := pot_2900) 8 (fun s => s) (fun _ l => l) (w_law_spoilt T 6) (hr.mono (by decide)) T.g__law_spoilt T.k__law_spoilt T.b__law_spoilt tk (al_cons (Γs := fun s => [im (rScr K) a, im rI x_2866, im (rT rC) p_2862.1, im rI p_2869.2, im (rL rC) found_2871, im (rT rC) p_2869.1, .any, im rI p_2895.2, .own none (oLi (tl rI) s), im (rTu (tc rC (t1 (rL (rTu (tc rC (t1 rY))))))) tree_2897.1, im rI p_2899.2]) (s := pot_2900) (es_of (Γs := fun s => [im (rScr K) a, im rI x_2866, im (rT rC) p_2862.1, im rI p_2869.2, im (rL rC) found_2871, im (rT rC) p_2869.1, .any, im rI p_2895.2, .own none (oLi (tl rI) s), im (rTu (tc rC (t1 (rL (rTu (tc rC (t1 rY))))))) tree_2897.1, im rI p_2899.2]) (s := pot_2900) (x_var 5 rfl)) (fun s_2902 => (al_one (Γs := fun s => [im (rScr K) a, im rI x_2866, im (rT rC) p_2862.1, im rI p_2869.2, im (rL rC) found_2871, im (rT rC) p_2869.1, .any, im rI p_2895.2, .own none (oLi (tl rI) s), im (rTu (tc rC (t1 (rL (rTu (tc rC (t1 rY))))))) tree_2897.1, im rI p_2899.2]) (s := s_2902) 8 (es_of (Γs := fun s => [im (rScr K) a, im rI x_2866, im (rT rC) p_2862.1, im rI p_2869.2, im (rL rC) found_2871, im (rT rC) p_2869.1, .any, im rI p_2895.2, .own none (oLi (tl rI) s), im (rTu (tc rC (t1 (rL (rTu (tc rC (t1 rY))))))) tree_2897.1, im rI p_2899.2]) (s := s_2902) (x_var 9 rfl))))) (fun _ => rfl) (fun _ _ => rfl)) (fun tree_2901 => (s_nx (o := tree_2901.1) rfl (.cons .rfl (.cons .rfl (.cons .rfl (.cons .rfl (.cons .rfl (.cons .rfl (.cons .any (.cons .rfl (.cons .any (.cons .rfl (.cons .rfl .nil)))))))))))))) (s_nx (o := tree_2897.1) rfl (.cons .rfl (.cons .rfl (.cons .rfl (.cons .rfl (.cons .rfl (.cons .rfl (.cons .any (.cons .rfl (.cons .any (.cons .rfl (.cons .rfl .nil)))))))))))) (fun s_2903 => (p_ifT (x_w (w_and (x_tcmp op_eq dEqI (x_var 10 rfl) (x_modC (x_var 7 rfl))) (w_and1 (x_tnot (x_test (x_call (w_law_endless T) (hr.mono (by decide)) T.g__law_endless T.k__law_endless T.b__law_endless tk .nil (a_cons (x_tup (a_cons (x_var 5 rfl) (a_one x_bl)) (fun _ _ _ h => sz ((nc (fun _ _ _ h => n1 h)) h) (by decide))) (a_cons (x_var 2 rfl) (a_cons (x_var 7 rfl) (a_one (x_var 9 rfl))))))))))) (p_ret (fun w => Stp.rt w) [] (fun _ => rfl) .nil x_bl) (p_set 6 hnd (x_call (w_fewer_right T) (hr.mono (by decide)) T.g_fewer_right T.k_fewer_right T.b_fewer_right tk .nil (a_cons (x_tup (a_cons (x_var 5 rfl) (a_one x_bl)) (fun _ _ _ h => sz ((nc (fun _ _ _ h => n1 h)) h) (by decide))) (a_cons (x_var 2 rfl) (a_cons (x_var 7 rfl) (a_one (x_var 9 rfl)))))) (fun told_2905 => (p_ifT (x_w (w_or (x_tnot (x_test (x_isi (T := "bool") (fun _ => true) tyB (fun _ => by decide +kernel) T.n_isinstance T.n_bool (by decide +kernel) (x_var 6 rfl)))) (w_or1 (x_tcmp op_ne dNeB (x_var 6 rfl) (x_call (w_law_right T 15) (hr.mono (by decide)) T.g__law_right T.k__law_right T.b__law_right tk .nil (a_cons (x_var 5 rfl) (a_cons (x_var 2 rfl) (a_cons (x_var 4 rfl) (a_cons (x_frzE (f_nil (ρ := rC))) (a_cons (x_var 7 rfl) (a_one (x_var 9 rfl)))))))))))) (p_ret (fun w => Stp.rt w) [] (fun _ => rfl) .nil x_bl) (s_go (o := (Stp.nx ())) rfl (.cons .rfl (.cons .any (.cons .rfl (.cons .any (.cons .any (.cons .any (.cons .any (.cons .any (.cons .any (.cons .any (.cons .any .nil)))))))))))))))))))))))))))) (s_go (o := (Stp.nx ())) rfl (.cons .rfl (.cons .any (.cons .rfl (.cons .any (.cons .any (.cons .any (.cons .any (.cons .any (.cons .any (.cons .any (.cons .any .nil)))))))))))))))))))) (.cons .rfl (.cons .any (.cons .rfl (.cons .any (.cons .any (.cons .any (.cons .any (.cons .any (.cons .any (.cons .any (.cons .any .nil))))))))))) (fun a => .rtf rfl) (fun s_2914 => (p_retf [] (fun _ => rfl) .nil x_bl)))))) (by unfold m_law; simp only [ok_bindP, ok_calmP, chk_calmP, opt_calmP, R.bind_pure, R.bind_assoc] <;> rfl))
end
end G

namespace G
open PySem PySem.Spec PyProof.Rows L2 Py
theorem at2 {α : Type} (a b : α) (i : Int) (h0 : 0 ≤ i) (h : i < 2) : ∃ x, atI [a, b] i = some x ∧ (x = a ∨ x = b) := by
  have h' : i = 0 ∨ i = 1 := by omega
  rcases h' with rfl | rfl
  · exact ⟨a, rfl, by simp⟩
  · exact ⟨b, rfl, by simp⟩
theorem atN {α : Type} {xs : List α} (i : Int) (h0 : 0 ≤ i) (h : i < (xs.length : Nat)) : ∃ x, atI xs i = some x ∧ x ∈ xs := by
  obtain ⟨k, rfl⟩ : ∃ k : Nat, i = (k : Int) := ⟨i.toNat, by omega⟩
  have hk : k < xs.length := by omega
  exact ⟨xs[k], atI_nat (List.getElem?_eq_getElem hk), List.getElem_mem hk⟩
theorem up_nodup {xs : List (Int × Int)} (h : Up xs) : xs.Nodup := (List.Pairwise.imp (fun {a b} (z : ltC a b = true) (e : a = b) => ltC_irrefl a (by rw [← e] at z; exact z)) h : xs.Pairwise (· ≠ ·))
theorem sortC_rise {xs : List (Int × Int)} (h : xs.Nodup) : sortC xs = rise xs := by
  have p : (rise xs).Perm xs := (List.perm_ext_iff_of_nodup (up_nodup (up_rise xs)) h).mpr fun c => mem_rise c xs
  exact asc_eq totC (asc_srt totC xs) (up_asc (up_rise xs)) ((perm_srt xs).trans p.symm)
theorem keys_dPut {κ ν : Type} [DecidableEq κ] (d : List (κ × ν)) (k : κ) (v : ν) : (dPut d k v).map Prod.fst = if k ∈ d.map Prod.fst then d.map Prod.fst else d.map Prod.fst ++ [k] := by
  unfold dPut
  by_cases h : (d.any fun q => decide (q.1 = k)) = true
  · have hm : k ∈ d.map Prod.fst := by
      obtain ⟨q, hq, e⟩ := List.any_eq_true.mp h
      exact List.mem_map.mpr ⟨q, hq, by simpa using e⟩
    rw [if_pos h, if_pos hm, List.map_map]
    refine List.map_congr_left fun q _ => ?_
    by_cases e : q.1 = k <;> simp [e]
  · have hm : k ∉ d.map Prod.fst := fun z => by
      obtain ⟨q, hq, e⟩ := List.mem_map.mp z
      exact h (List.any_eq_true.mpr ⟨q, hq, by simpa using e⟩)
    rw [if_neg h, if_neg hm, List.map_append]
    rfl
/-- a dict's keys, as a set -/
structure Keys {κ ν : Type} (d : List (κ × ν)) (S : κ → Prop) (n : Nat) : Prop where
  nd : (d.map Prod.fst).Nodup
  mem : ∀ c, c ∈ d.map Prod.fst ↔ S c
  len : d.length ≤ n
theorem Keys.nil {κ ν : Type} : Keys ([] : List (κ × ν)) (fun _ => False) 0 := ⟨List.Pairwise.nil, fun c => by simp, Nat.le_refl _⟩
theorem Keys.put {κ ν : Type} [DecidableEq κ] {d : List (κ × ν)} {S : κ → Prop} {n : Nat} (h : Keys d S n) (k : κ) (v : ν) : Keys (dPut d k v) (fun c => S c ∨ c = k) (n + 1) := by
  refine ⟨?_, fun c => ?_, ?_⟩
  · rw [keys_dPut]
    split
    · exact h.nd
    · next hk =>
      exact List.nodup_append.mpr ⟨h.nd, by simp, fun a ha b hb e => by
        rw [List.mem_singleton.mp hb] at e
        exact hk (e ▸ ha)⟩
  · rw [keys_dPut]
    split
    · next hk =>
      rw [h.mem]
      exact ⟨.inl, fun z => z.elim id fun e => by rw [e]; exact (h.mem k).mp hk⟩
    · rw [List.mem_append, h.mem, List.mem_singleton]
  · have := len_dPut d k v
    have := h.len
    omega
theorem Keys.cong {κ ν : Type} {d : List (κ × ν)} {S T : κ → Prop} {n : Nat} (h : Keys d S n) (e : ∀ c, S c ↔ T c) : Keys d T n := ⟨h.nd, fun c => (h.mem c).trans (e c), h.len⟩
theorem Keys.sorted {ν : Type} {d : List ((Int × Int) × ν)} {S : Int × Int → Prop} {n : Nat} (h : Keys d S n) : Up (sortC (d.map Prod.fst)) ∧ (∀ c, c ∈ sortC (d.map Prod.fst) ↔ S c) ∧ (sortC (d.map Prod.fst)).length ≤ n := by
  refine ⟨?_, fun c => ?_, ?_⟩
  · rw [sortC_rise h.nd]
    exact up_rise _
  · rw [sortC_rise h.nd, mem_rise, h.mem]
  · rw [sortC_rise h.nd]
    exact Nat.le_trans (len_rise _) (by rw [List.length_map]; exact h.len)
theorem cell_ok (ns : List Int) {k : Int} (h : 0 ≤ k) : Gd (m_law_cell ns k) fun _ => True := by
  unfold m_law_cell
  refine Gd.ite (fun c => ?_) fun _ => Gd.ok trivial
  simp only [decide_eq_true_eq] at c
  obtain ⟨x, e, _⟩ := atN (xs := ns) k h c
  rw [e]
  exact Gd.of rfl trivial
theorem deal2_ok (c salt : Int) : Gd (m_law_deal c salt) fun _ => True := by
  unfold m_law_deal
  refine Gd.ite (fun _ => Gd.ok trivial) fun _ => ?_
  refine (Gd.forR (I := fun _ => True) (fun s x hx _ => ?_) trivial).bind fun s _ => Gd.ok trivial
  have hx2 := mem_rangeI.mp hx
  refine Gd.bind (P := fun r : Int => r.natAbs < 2 ^ 31) (Gd.bind (P := fun _ => True) (Gd.bind (P := fun _ => True) (Gd.bind (P := fun _ => True) (Gd.bind (P := fun _ => True) (Gd.bind (P := fun _ => True) (Gd.chk (mulW_ok 20 (by decide) (by omega) (by omega)) trivial) fun _ _ => Gd.ok trivial) fun _ _ => Gd.ok trivial) fun _ _ => Gd.ok trivial) fun _ _ => Gd.ok trivial) fun a _ => Gd.ok (mod_small 31 (by decide) (by decide))) fun one h1 => ?_
  exact Gd.bind (P := fun _ => True) (Gd.bind (P := fun _ => True) (Gd.chk (mulW_ok 31 (by decide) h1 h1) trivial) fun _ _ => Gd.ok trivial) fun _ _ => Gd.ok trivial
/-- a piece -/
structure Pce (p : List (Int × Int)) : Prop where
  up : Up p
  ne : p ≠ []
  len : p.length ≤ 12
theorem piece2_ok (n : Int) : Gd (m_law_piece n) fun r => Pce r.1 := by
  unfold m_law_piece
  refine Gd.bind (P := fun s : Int × Int => 0 ≤ s.2 ∧ s.2 < 12) (Gd.ite (fun _ => Gd.ok (by dsimp only; omega)) fun _ => Gd.ok (by dsimp only; omega)) fun s hs => ?_
  refine Gd.chkB (by omega) ?_
  refine (Gd.forRl (I := fun p (t : Int × List ((Int × Int) × Bool)) => ∃ S, Keys t.2 S p.length ∧ (p ≠ [] → ∃ c, S c)) (fun p x q t e hi => ?_) ⟨_, .nil, fun z => absurd rfl z⟩).bind fun t hi => ?_
  · obtain ⟨S, i2, i4⟩ := hi
    have z := congrArg List.length e
    rw [len_rangeI] at z
    simp only [List.length_append, List.length_cons] at z
    refine Gd.bind (P := fun _ => True) (Gd.ite (fun _ => ?_) fun _ => Gd.ok trivial) fun k _ => ?_
    · exact Gd.chkB (dv_ok (by decide) 30 (by decide) (by decide)) (Gd.chkB (dv_ok (by decide) 30 (by decide) (by decide)) (Gd.ok trivial))
    · exact Gd.chkB (small_lt (by have := i2.len; omega)) (Gd.ok ⟨fun c => S c ∨ c = k.2, by rw [List.length_append]; exact i2.put _ _, fun _ => ⟨_, .inr rfl⟩⟩)
  · obtain ⟨S, i2, i4⟩ := hi
    obtain ⟨s1, s2, s3⟩ := i2.sorted
    rw [len_rangeI] at s3
    refine Gd.ok ⟨s1, fun z => ?_, by show (sortC _).length ≤ 12; omega⟩
    have ne : rangeI 0 (1 + s.2) ≠ [] := fun z => by
      have := congrArg List.length z
      rw [len_rangeI] at this
      simp at this
      omega
    obtain ⟨c, hc⟩ := i4 ne
    have this := (s2 c).mpr hc
    have z' : sortC (t.2.map Prod.fst) = [] := z
    rw [z'] at this
    cases this
theorem base2_ok (n : Int) : Gd (m_law_base n) fun _ => True := by
  unfold m_law_base
  refine Gd.ite (fun _ => Gd.ok trivial) fun h => ?_
  simp only [decide_eq_true_eq] at h
  have w0 : 0 ≤ n % 5 := by omega
  have w1 : n % 5 < 2 := by
    have h' : ¬ (1 : Int) < n % 5 := h
    omega
  obtain ⟨x, ex, hx⟩ := at2 ((2 : Int) * 1000000000000 + 1) 2 (n % 5) w0 w1
  have dv : CDv x := by rcases hx with rfl | rfl <;> exact dv_ok (by decide) 50 (by decide) (by decide)
  have x1 : 0 < x ∧ x ≤ 2000000000001 := by rcases hx with rfl | rfl <;> decide
  obtain ⟨y, ey, hy⟩ := at2 (1 : Int) ((2 : Int) * 1000000000000) (n % 5) w0 w1
  have y1 : y.natAbs < 2 ^ 50 := by rcases hy with rfl | rfl <;> decide
  refine Gd.bind (P := fun p : Int × Int => 0 ≤ p.2 ∧ p.2 < x) (Gd.bind (P := fun q => q.2 = x) (Gd.optB ex (Gd.ok rfl)) fun q e => ?_) fun p hp => ?_
  · rw [e]
    exact Gd.chk dv ⟨Int.emod_nonneg _ (by omega), Int.emod_lt_of_pos _ x1.1⟩
  refine Gd.bind (P := fun p : Int × Int => 0 ≤ p.2 ∧ p.2 < x) (Gd.bind (P := fun q => q.2 = x) (Gd.optB ex (Gd.ok rfl)) fun q e => ?_) fun p' hp' => ?_
  · rw [e]
    exact Gd.chk dv ⟨Int.emod_nonneg _ (by omega), Int.emod_lt_of_pos _ x1.1⟩
  refine Gd.optB ey ?_
  refine Gd.bind (P := fun _ => True) (Gd.bind (P := fun _ => True) (Gd.chkB (mulW_ok 50 (by decide) (by omega) y1) (Gd.ok trivial)) fun _ _ => Gd.bind (P := fun _ => True) (Gd.chkB (mulW_ok 50 (by decide) (by omega) y1) (Gd.ok trivial)) fun _ _ => Gd.ok trivial) fun _ _ => Gd.ok trivial
/-- for x in xs: d[f x] = True -/
theorem Keys.fill {α κ : Type} [DecidableEq κ] {d : List (κ × Bool)} {S : κ → Prop} {n : Nat} {xs : List α} (f : α → κ) (h : Keys d S n) (hn : n + xs.length ≤ 90000) :
    Gd (forR (fun d x => (chk (d.length < sizeLine) ()).bind fun _ => R.ok (dPut d (f x) true)) xs d) fun d' => Keys d' (fun c => S c ∨ ∃ x ∈ xs, c = f x) (n + xs.length) := by
  refine Gd.forRl (I := fun p d' => Keys d' (fun c => S c ∨ ∃ x ∈ p, c = f x) (n + p.length)) (fun p x t s e hi => ?_) (h.cong fun c => by simp)
  have z := congrArg List.length e
  simp only [List.length_append, List.length_cons] at z
  have := hi.len
  refine Gd.chkB (small_lt (by omega)) (Gd.ok ?_)
  have k := hi.put (f x) true
  rw [List.length_append]
  refine Keys.cong k fun c => ?_
  constructor
  · rintro ((h | ⟨y, hy, e⟩) | h)
    · exact .inl h
    · exact .inr ⟨y, List.mem_append_left _ hy, e⟩
    · exact .inr ⟨x, List.mem_append_right _ List.mem_cons_self, h⟩
  · rintro (h | ⟨y, hy, e⟩)
    · exact .inl (.inl h)
    · rcases List.mem_append.mp hy with q | q
      · exact .inl (.inr ⟨y, q, e⟩)
      · rw [List.mem_singleton.mp q] at e
        exact .inr e
/-- .. where the turn is any that puts f x -/
theorem Keys.fillM {α κ : Type} [DecidableEq κ] {d : List (κ × Bool)} {S : κ → Prop} {n : Nat} {xs : List α} (f : α → κ) {g : List (κ × Bool) → α → R (List (κ × Bool))} (h : Keys d S n) (hn : n + xs.length ≤ 90000)
    (hg : ∀ d x, x ∈ xs → d.length ≤ 90000 → g d x = .ok (dPut d (f x) true)) :
    Gd (forR g xs d) fun d' => Keys d' (fun c => S c ∨ ∃ x ∈ xs, c = f x) (n + xs.length) := by
  refine Gd.forRl (I := fun p d' => Keys d' (fun c => S c ∨ ∃ x ∈ p, c = f x) (n + p.length)) (fun p x t s e hi => ?_) (h.cong fun c => by simp)
  have z := congrArg List.length e
  simp only [List.length_append, List.length_cons] at z
  have := hi.len
  refine Gd.of (hg s x (by rw [e]; simp) (by omega)) ?_
  have k := hi.put (f x) true
  rw [List.length_append]
  refine Keys.cong k fun c => ?_
  constructor
  · rintro ((h | ⟨y, hy, e⟩) | h)
    · exact .inl h
    · exact .inr ⟨y, List.mem_append_left _ hy, e⟩
    · exact .inr ⟨x, List.mem_append_right _ List.mem_cons_self, h⟩
  · rintro (h | ⟨y, hy, e⟩)
    · exact .inl (.inl h)
    · rcases List.mem_append.mp hy with q | q
      · exact .inl (.inr ⟨y, q, e⟩)
      · rw [List.mem_singleton.mp q] at e
        exact .inr e
theorem Keys.fill2M {α β κ : Type} [DecidableEq κ] {d : List (κ × Bool)} {S : κ → Prop} {n : Nat} {xs : List α} {ys : List β} (f : α → β → κ) {g : α → List (κ × Bool) → β → R (List (κ × Bool))} (h : Keys d S n) (hn : n + xs.length * ys.length ≤ 90000)
    (hg : ∀ x d y, x ∈ xs → y ∈ ys → d.length ≤ 90000 → g x d y = .ok (dPut d (f x y) true)) :
    Gd (forR (fun d x => (forR (g x) ys d).bind fun d' => R.ok d') xs d) fun d' => Keys d' (fun c => S c ∨ ∃ x ∈ xs, ∃ y ∈ ys, c = f x y) (n + xs.length * ys.length) := by
  refine Gd.forRl (I := fun p d' => Keys d' (fun c => S c ∨ ∃ x ∈ p, ∃ y ∈ ys, c = f x y) (n + p.length * ys.length)) (fun p x t s e hi => ?_) (by simp only [List.length_nil, Nat.zero_mul, Nat.add_zero]; exact h.cong fun c => by simp)
  have z := congrArg List.length e
  simp only [List.length_append, List.length_cons] at z
  have z2 : (p.length + 1) * ys.length ≤ xs.length * ys.length := Nat.mul_le_mul_right _ (by omega)
  rw [Nat.add_mul, Nat.one_mul] at z2
  refine (Keys.fillM (xs := ys) (f x) hi (by omega) fun d y hy hd => hg x d y (by rw [e]; simp) hy hd).bind fun d' k => Gd.ok ?_
  have e2 : n + (p ++ [x]).length * ys.length = n + p.length * ys.length + ys.length := by
    rw [List.length_append, List.length_singleton, Nat.add_mul, Nat.one_mul, Nat.add_assoc]
  rw [e2]
  refine Keys.cong k fun c => ?_
  constructor
  · rintro ((h | ⟨y, hy, e⟩) | h)
    · exact .inl h
    · exact .inr ⟨y, List.mem_append_left _ hy, e⟩
    · exact .inr ⟨x, List.mem_append_right _ List.mem_cons_self, h⟩
  · rintro (h | ⟨y, hy, e⟩)
    · exact .inl (.inl h)
    · rcases List.mem_append.mp hy with q | q
      · exact .inl (.inr ⟨y, q, e⟩)
      · rw [List.mem_singleton.mp q] at e
        exact .inr e
theorem dGet_some {κ ν : Type} [DecidableEq κ] (d : List (κ × ν)) (k : κ) : (dGet d k).isSome = decide (k ∈ d.map Prod.fst) := by
  unfold dGet
  rw [Option.isSome_map, Bool.eq_iff_iff, List.find?_isSome, decide_eq_true_eq, List.mem_map]
  constructor
  · rintro ⟨q, hq, e⟩
    exact ⟨q, hq, by simpa using e⟩
  · rintro ⟨q, hq, e⟩
    exact ⟨q, hq, by simpa using e⟩
theorem Keys.has {κ ν : Type} [DecidableEq κ] {d : List (κ × ν)} {S : κ → Prop} [DecidablePred S] {n : Nat} (h : Keys d S n) (k : κ) : (dGet d k).isSome = decide (S k) := by
  rw [dGet_some, Bool.eq_iff_iff, decide_eq_true_eq, decide_eq_true_eq, h.mem]
theorem lies_ok (p : List (Int × Int)) (c : Int × Int) (h : p.length ≤ 9800) : m_lies_on p c = .ok (p.map fun s => (c.1 + s.1, c.2 + s.2)) := by
  refine Gd.eq ?_
  unfold m_lies_on
  exact Gd.mapRB (g := fun s => (c.1 + s.1, c.2 + s.2)) (fun x _ => by show m_moved_cell x c = _; unfold m_moved_cell; rw [Int.add_comm x.1, Int.add_comm x.2]) (Gd.chk (small_size (by rw [List.length_map]; omega)) rfl)
theorem up_shift {xs : List (Int × Int)} (h : Up xs) (s : Int × Int) : Up (xs.map fun c => (c.1 - s.1, c.2 - s.2)) := List.pairwise_map.mpr (List.Pairwise.imp (fun {a b} z => by
  rw [ltC_iff] at *
  simp only
  omega) h)
/-- all the cells at which the piece lies on cells alone -/
theorem kept_ok (cs p : List (Int × Int)) (hu : Up cs) (hc : cs.length ≤ 9800) (hp : p.length ≤ 9800) (ne : p ≠ []) : Gd (m_kept_at cs p) fun r => Up r ∧ (∀ c, c ∈ r ↔ ∀ s ∈ p, (c.1 + s.1, c.2 + s.2) ∈ cs) ∧ r.length ≤ cs.length := by
  obtain ⟨s0, ps, rfl⟩ := List.exists_cons_of_ne_nil ne
  unfold m_kept_at
  refine (Keys.fillM (xs := cs) (fun c => c) .nil (by omega) fun d x _ hd => ?_).bind fun d hd => ?_
  · exact Gd.eq (Gd.chkB (small_lt (by omega)) (Gd.ok rfl))
  · have hd' : Keys d (fun c => c ∈ cs) (0 + cs.length) := hd.cong fun c => by simp
    refine (Gd.forRl (I := fun q (t : List (Int × Int)) => t = (q.map fun c => (c.1 - s0.1, c.2 - s0.2)).filter fun c => (s0 :: ps).all fun s => decide ((c.1 + s.1, c.2 + s.2) ∈ cs)) (fun q x r t e hi => ?_) rfl).bind fun t ht => Gd.ok ?_
    · have z := congrArg List.length e
      simp only [List.length_append, List.length_cons] at z
      refine Gd.bind (P := fun y => y = (x.1 - s0.1, x.2 - s0.2)) (Gd.bind (P := fun y => y = (x, s0)) (Gd.optB (a := s0) (show atI (s0 :: ps) ((0 : Nat) : Int) = some s0 from atI_nat rfl) (Gd.ok rfl)) fun y e => by subst e; exact Gd.ok rfl) fun y ey => ?_
      subst ey
      refine Gd.bind (P := fun b => b = (s0 :: ps).all fun s => decide ((x.1 - s0.1 + s.1, x.2 - s0.2 + s.2) ∈ cs)) ?_ fun b eb => ?_
      · refine Gd.bind (P := fun ys => ys = (s0 :: ps).map fun s => decide ((x.1 - s0.1 + s.1, x.2 - s0.2 + s.2) ∈ cs)) (Gd.eqB (lies_ok _ _ hp) (Gd.mapRB (g := fun c => decide (c ∈ cs)) (fun y _ => by rw [hd'.has]) (Gd.chk (small_size (by rw [List.length_map, List.length_map]; omega)) (by rw [List.map_map]; rfl)))) fun ys e => Gd.ok ?_
        subst e
        rw [List.all_map]
        rfl
      · have lt : t.length ≤ q.length := by
          rw [hi]
          exact Nat.le_trans (List.length_filter_le ..) (by rw [List.length_map]; exact Nat.le_refl _)
        refine Gd.ite (fun hb => Gd.chkB (small_lt (by omega)) (Gd.ok ?_)) fun hb => Gd.ok ?_
        · rw [hi, List.map_append, List.filter_append]
          congr 1
          rw [eb] at hb
          exact (List.filter_cons_of_pos (p := fun c => (s0 :: ps).all fun s => decide ((c.1 + s.1, c.2 + s.2) ∈ cs)) (a := (x.1 - s0.1, x.2 - s0.2)) (l := []) hb).symm
        · rw [hi, List.map_append, List.filter_append]
          rw [eb] at hb
          have k := List.filter_cons_of_neg (p := fun c => (s0 :: ps).all fun s => decide ((c.1 + s.1, c.2 + s.2) ∈ cs)) (a := (x.1 - s0.1, x.2 - s0.2)) (l := []) hb
          rw [List.map_singleton, k, List.filter_nil, List.append_nil]
    · subst ht
      refine ⟨List.Pairwise.filter _ (up_shift hu s0), fun c => ?_, Nat.le_trans (List.length_filter_le ..) (by rw [List.length_map]; exact Nat.le_refl _)⟩
      rw [List.mem_filter, List.mem_map, List.all_eq_true]
      constructor
      · rintro ⟨_, h⟩ s hs
        simpa using h s hs
      · intro h
        exact ⟨⟨(c.1 + s0.1, c.2 + s0.2), h s0 List.mem_cons_self, by ext <;> simp⟩, fun s hs => by simpa using h s hs⟩
def InEro (cs p : List (Int × Int)) (c : Int × Int) : Prop := ∀ s ∈ p, (c.1 + s.1, c.2 + s.2) ∈ cs
theorem forS_find {α γ : Type} {f : Unit → α → R (Stp Unit γ)} {q : α → Bool} {g : α → γ} : ∀ {xs : List α}, (∀ x ∈ xs, f () x = .ok (if q x = true then .rt (g x) else .nx ())) → Py.forS f xs () = .ok (match xs.find? q with | some x => .rt (g x) | none => .nx ())
  | [], _ => rfl
  | x :: xs, h => by
    show R.bind (f () x) _ = _
    rw [h x List.mem_cons_self]
    by_cases c : q x = true
    · rw [if_pos c, List.find?_cons_of_pos c]
      rfl
    · rw [if_neg c, List.find?_cons_of_neg c]
      exact forS_find fun y hy => h y (List.mem_cons_of_mem _ hy)
def OutOk {τ γ : Type} (I : τ → Prop) (Q : γ → Prop) : Out τ γ → Prop
  | .nx s => I s
  | .rt a => Q a
def StpOk {τ γ : Type} (I : τ → Prop) (Q : γ → Prop) : Stp τ γ → Prop
  | .nx s => I s
  | .bk _ => False
  | .rt a => Q a
theorem forS_gd {α τ γ : Type} {f : τ → α → R (Stp τ γ)} {I : List α → τ → Prop} {Q : γ → Prop} : ∀ {xs : List α} {s : τ}, (∀ s x r, I (x :: r) s → (∀ y ∈ x :: r, y ∈ xs) → Gd (f s x) (StpOk (I r) Q)) → I xs s → Gd (Py.forS f xs s) (OutOk (I []) Q)
  | [], s, _, h0 => Gd.ok h0
  | x :: xs, s, h, h0 => by
    obtain ⟨o, e, p⟩ := h s x xs h0 fun _ hy => hy
    show Gd (R.bind (f s x) _) _
    rw [e]
    cases o with
    | nx s' => exact forS_gd (xs := xs) (s := s') (fun s y r hi hy => h s y r hi fun z hz => List.mem_cons_of_mem _ (hy z hz)) p
    | bk s' => exact p.elim
    | rt a => exact Gd.ok p
theorem add_get {κ ν : Type} [DecidableEq κ] : ∀ (m : List (κ × List ν)) (k : κ) (x : ν) (c : κ), dGet (addL m k x) c = if k = c then some (((dGet m k).getD []) ++ [x]) else dGet m c
  | [], k, x, c => by
    unfold addL
    by_cases h : k = c
    · subst h
      simp [dGet]
    · simp [dGet, h]
  | (k', l) :: m, k, x, c => by
    unfold addL
    by_cases e : k' = k
    · subst e
      rw [if_pos rfl]
      by_cases h : k' = c
      · subst h
        simp [dGet]
      · simp [dGet, h]
    · rw [if_neg e]
      have ih := add_get m k x c
      by_cases h : k' = c
      · subst h
        simp [dGet, e]
        exact fun z => absurd z.symm e
      · have e1 : ∀ l' (ys : List (κ × List ν)), dGet ((k', l') :: ys) c = dGet ys c := fun l' ys => by simp [dGet, h]
        have e2 : ∀ l' (ys : List (κ × List ν)), dGet ((k', l') :: ys) k = dGet ys k := fun l' ys => by simp [dGet, e]
        rw [e1, e1, e2]
        exact ih
theorem add_len {κ ν : Type} [DecidableEq κ] : ∀ (m : List (κ × List ν)) (k : κ) (x : ν), (addL m k x).length ≤ m.length + 1
  | [], _, _ => Nat.le_refl _
  | (k', l) :: m, k, x => by
    unfold addL
    split
    · simp
    · have := add_len m k x
      simp only [List.length_cons]
      omega
theorem add_lens {κ ν : Type} [DecidableEq κ] {n : Nat} : ∀ (m : List (κ × List ν)) (k : κ) (x : ν), (∀ q ∈ m, q.2.length ≤ n) → ∀ q ∈ addL m k x, q.2.length ≤ n + 1
  | [], _, _, _, q, h => by
    rw [List.mem_singleton.mp h]
    simp
  | (k', l) :: m, k, x, h, q, hq => by
    unfold addL at hq
    have h0 := h (k', l) List.mem_cons_self
    split at hq
    · rcases List.mem_cons.mp hq with rfl | hq
      · simp only [List.length_append, List.length_singleton] at *
        omega
      · have := h q (List.mem_cons_of_mem _ hq)
        omega
    · rcases List.mem_cons.mp hq with rfl | hq
      · dsimp only at *
        omega
      · exact add_lens m k x (fun r hr => h r (List.mem_cons_of_mem _ hr)) q hq
structure Br {κ ν : Type} [DecidableEq κ] (L : ν → List κ) (xs : List ν) (n : Nat) (d : List (κ × List ν)) : Prop where
  len : d.length ≤ n
  lens : ∀ q ∈ d, q.2.length ≤ n
  get : ∀ c, dGet d c = if ∃ x ∈ xs, c ∈ L x then some (xs.filter fun x => decide (c ∈ L x)) else none
theorem bring_in {κ ν : Type} [DecidableEq κ] {x : ν} {ys : List κ} {n : Nat} {d : List (κ × List ν)} {g : κ → Option (List ν)} (nd : ys.Nodup) (l : d.length ≤ n) (ls : ∀ q ∈ d, q.2.length ≤ n) (hg : ∀ c, dGet d c = g c) (hn : n + ys.length ≤ 90000) :
    Gd (forR (fun d y => addM d y x) ys d) fun d' => d'.length ≤ n + ys.length ∧ (∀ q ∈ d', q.2.length ≤ n + ys.length) ∧ ∀ c, dGet d' c = if c ∈ ys then some ((g c).getD [] ++ [x]) else g c := by
  refine Gd.forRl (I := fun p d' => d'.length ≤ n + p.length ∧ (∀ q ∈ d', q.2.length ≤ n + p.length) ∧ ∀ c, dGet d' c = if c ∈ p then some ((g c).getD [] ++ [x]) else g c) (fun p y q d' e hi => ?_) ⟨l, ls, fun c => by rw [hg]; simp⟩
  obtain ⟨i1, i2, i3⟩ := hi
  have z := congrArg List.length e
  simp only [List.length_append, List.length_cons] at z
  have ny : y ∉ p := by
    rw [e, List.nodup_append] at nd
    exact fun h => nd.2.2 y h y List.mem_cons_self rfl
  unfold addM
  refine Gd.chkB ⟨small_lt (by omega), fun q hq => small_lt (by have := i2 q hq; omega)⟩ (Gd.ok ⟨?_, fun q hq => ?_, fun c => ?_⟩)
  · have := add_len d' y x
    rw [List.length_append, List.length_singleton]
    omega
  · have := add_lens d' y x i2 q hq
    rw [List.length_append, List.length_singleton]
    omega
  · rw [add_get, i3, i3]
    by_cases h : y = c
    · subst h
      rw [if_pos rfl, if_neg ny, if_pos (by simp)]
    · rw [if_neg h]
      have : c ∈ p ++ [y] ↔ c ∈ p := by simp [Ne.symm h]
      by_cases hc : c ∈ p
      · rw [if_pos hc, if_pos (this.mpr hc)]
      · rw [if_neg hc, if_neg fun z => hc (this.mp z)]
theorem bring_ok {κ ν : Type} [DecidableEq κ] {lies : ν → R (List κ)} {L : ν → List κ} {xs : List ν} {w : Nat} (hl : ∀ x ∈ xs, lies x = .ok (L x)) (nd : ∀ x ∈ xs, (L x).Nodup) (hw : ∀ x ∈ xs, (L x).length ≤ w) (hn : xs.length * w ≤ 90000) :
    Gd (bringM lies xs []) (Br L xs (xs.length * w)) := by
  unfold bringM
  refine (Gd.forRl (I := fun p d => Br L p (p.length * w) d) (fun p x q d e hi => ?_) ⟨by simp, fun q h => (by cases h), fun c => (by rw [if_neg (by simp)]; rfl)⟩)
  have z := congrArg List.length e
  simp only [List.length_append, List.length_cons] at z
  have hx : x ∈ xs := by rw [e]; simp
  have z2 : (p.length + 1) * w ≤ xs.length * w := Nat.mul_le_mul_right _ (by omega)
  rw [Nat.add_mul, Nat.one_mul] at z2
  have wx := hw x hx
  rw [hl x hx]
  refine (bring_in (nd x hx) hi.len hi.lens hi.get (by omega)).mono fun d' h => ?_
  have e2 : (p ++ [x]).length * w = p.length * w + w := by rw [List.length_append, List.length_singleton, Nat.add_mul, Nat.one_mul]
  refine ⟨by rw [e2]; have := h.1; omega, fun r hr => by rw [e2]; have := h.2.1 r hr; omega, fun c => ?_⟩
  rw [h.2.2 c, List.filter_append]
  by_cases hc : c ∈ L x
  · have h1 : ∃ y ∈ p ++ [x], c ∈ L y := ⟨x, by simp, hc⟩
    have hx1 : [x].filter (fun y => decide (c ∈ L y)) = [x] := by simp [hc]
    rw [if_pos hc, if_pos h1, hx1]
    by_cases hp : ∃ y ∈ p, c ∈ L y
    · rw [if_pos hp]
      rfl
    · rw [if_neg hp]
      have : p.filter (fun y => decide (c ∈ L y)) = [] := by
        rw [List.filter_eq_nil_iff]
        intro y hy h
        exact hp ⟨y, hy, by simpa using h⟩
      rw [this]
      rfl
  · have hx1 : [x].filter (fun y => decide (c ∈ L y)) = [] := by simp [hc]
    rw [if_neg hc, hx1, List.append_nil]
    by_cases hp : ∃ y ∈ p, c ∈ L y
    · have h1 : ∃ y ∈ p ++ [x], c ∈ L y := by
        obtain ⟨y, hy, hcy⟩ := hp
        exact ⟨y, List.mem_append_left _ hy, hcy⟩
      rw [if_pos hp, if_pos h1]
    · have h1 : ¬ ∃ y ∈ p ++ [x], c ∈ L y := by
        rintro ⟨y, hy, hcy⟩
        rcases List.mem_append.mp hy with h | h
        · exact hp ⟨y, h, hcy⟩
        · rw [List.mem_singleton.mp h] at hcy
          exact hc hcy
      rw [if_neg hp, if_neg h1]
def dyC (c : Int × Int) : Dy := .tup [.int c.1, .int c.2]
theorem marked_ok (n : Int) {p : List (Int × Int)} (lp : p.length ≤ 12) : Gd (m_law_marked n p 4) fun r => Up r.1 ∧ r.1.length ≤ 73 := by
  unfold m_law_marked
  refine (base2_ok _).bind fun b _ => ?_
  refine Gd.chkB (dv_ok (by decide) 10 (by decide) (by decide)) ?_
  dsimp only
  have c0 := Int.emod_nonneg b.2 (show (4 : Int) + 1 ≠ 0 by decide)
  have c1 := Int.emod_lt_of_pos b.2 (show (0 : Int) < 4 + 1 by decide)
  refine Gd.chkB (by omega) ?_
  refine Gd.bind (P := fun t : Int × List ((Int × Int) × Bool) => ∃ S, Keys t.2 S 72) ((Gd.forRl (I := fun q (t : Int × List ((Int × Int) × Bool)) => ∃ S, Keys t.2 S (12 * q.length)) (fun q x q2 t e hi => ?_) ⟨_, .nil⟩).mono fun t h => ?_) fun t ht => ?_
  · obtain ⟨S, hk⟩ := hi
    have z := congrArg List.length e
    rw [len_rangeI] at z
    simp only [List.length_append, List.length_cons] at z
    refine (Gd.forRl (I := fun q' (u : List ((Int × Int) × Bool)) => ∃ S, Keys u S (12 * q.length + q'.length)) (fun q' x' q2' u e' hi' => ?_) ⟨S, hk⟩).bind fun u hu => Gd.ok ?_
    · obtain ⟨S', hk'⟩ := hi'
      have z' := congrArg List.length e'
      simp only [List.length_append, List.length_cons] at z'
      refine Gd.bind (P := fun _ => True) (Gd.of rfl trivial) fun k _ => ?_
      refine Gd.chkB (small_lt (by have := hk'.len; omega)) (Gd.ok ⟨fun c => S' c ∨ c = k, ?_⟩)
      rw [List.length_append]
      exact hk'.put _ _
    · obtain ⟨S', hk'⟩ := hu
      exact ⟨S', hk'.nd, hk'.mem, by have := hk'.len; rw [List.length_append]; simp only [List.length_cons, List.length_nil]; omega⟩
  · obtain ⟨S, hk⟩ := h
    refine ⟨S, hk.nd, hk.mem, ?_⟩
    have := hk.len
    rw [len_rangeI] at this
    omega
  · obtain ⟨S, hk⟩ := ht
    refine Gd.bind (P := fun u : Int × List ((Int × Int) × Bool) => ∃ S, Keys u.2 S 73) (Gd.ite (fun _ => ?_) fun _ => Gd.ok ⟨S, hk.nd, hk.mem, by show t.2.length ≤ 73; have := hk.len; omega⟩) fun u hu => ?_
    · refine Gd.bind (P := fun _ => True) (Gd.of rfl trivial) fun k _ => ?_
      exact Gd.chkB (small_lt (by have := hk.len; omega)) (Gd.ok ⟨_, hk.put k true⟩)
    · obtain ⟨S, hk⟩ := hu
      obtain ⟨u1, _, u3⟩ := hk.sorted
      exact Gd.ok ⟨u1, u3⟩
def pl (c s : Int × Int) : Int × Int := (c.1 + s.1, c.2 + s.2)
/-- the greatest marks -/
def Gm (cells p : List (Int × Int)) (f : List (Int × Int)) : Prop := Up f ∧ (∀ c, c ∈ f ↔ InEro cells p c) ∧ f.length ≤ cells.length
def On (f p : List (Int × Int)) (c : Int × Int) : Prop := ∃ m ∈ f, c ∈ p.map (pl m)
def told (cells f p : List (Int × Int)) [DecidablePred (On f p)] : Str × Dy := match cells.find? fun c => !decide (On f p c) with
  | some c => (("bare" : Str), dyC c)
  | none => (("marks" : Str), .tup (f.map dyC))
theorem nd_up {xs : List (Int × Int)} (h : Up xs) : xs.Nodup := (List.Pairwise.imp (fun {a b} (z : ltC a b = true) (e : a = b) => ltC_irrefl a (by rw [← e] at z; exact z)) h : xs.Pairwise (· ≠ ·))
theorem nd_pl {p : List (Int × Int)} (u : Up p) (m : Int × Int) : (p.map (pl m)).Nodup := List.pairwise_map.mpr (List.Pairwise.imp (fun {a b} (z : a ≠ b) (e : pl m a = pl m b) => z (by
  have e1 := congrArg Prod.fst e
  have e2 := congrArg Prod.snd e
  unfold pl at e1 e2
  ext <;> simp at * <;> omega)) (nd_up u))
open Classical in
theorem marks_ok {cells p : List (Int × Int)} (uc : Up cells) (lc : cells.length ≤ 73) (hp : Pce p) : ∃ f, Gm cells p f ∧ m_marks (cells, false) p = .ok (told cells f p) := by
  have lp := hp.len
  obtain ⟨f, ef, f1, f2, f3⟩ := kept_ok cells p uc (by omega) (by omega) hp.ne
  refine ⟨f, ⟨f1, f2, f3⟩, Gd.eq ?_⟩
  have pr : f.length * 12 ≤ 73 * 12 := Nat.mul_le_mul_right _ (by omega)
  unfold m_marks
  refine Gd.eqB (a := ()) rfl ?_
  refine Gd.bind (P := fun r => r = f) (Gd.bind (P := fun r : Shp => r.1 = f) ?_ fun r e => Gd.ok e) fun r e => ?_
  · unfold m_eaten
    refine Gd.ite (fun h => by cases h) fun _ => ?_
    exact Gd.eqB ef (Gd.ok rfl)
  subst e
  refine Gd.bind (P := fun d => Br (fun m => p.map (pl m)) r (r.length * 12) d) ?_ fun d hd => ?_
  · unfold m_bringing
    refine Gd.bind (P := fun d => Br (fun m => p.map (pl m)) r (r.length * 12) d) (bring_ok (fun x _ => lies_ok p x (by omega)) (fun x _ => nd_pl hp.up x) (fun x _ => by rw [List.length_map]; exact lp) (by omega)) fun d hd => Gd.ok hd
  · have hs : ∀ c, (dGet d c).isSome = decide (On r p c) := fun c => by
      have : (dGet d c).isSome = true ↔ On r p c := by
        rw [hd.get]
        unfold On
        by_cases h : ∃ x ∈ r, c ∈ p.map (pl x)
        · rw [if_pos h]
          exact ⟨fun _ => h, fun _ => rfl⟩
        · rw [if_neg h]
          exact ⟨fun z => (by cases z), fun z => absurd z h⟩
      by_cases h : On r p c
      · rw [decide_eq_true h]
        exact this.mpr h
      · rw [decide_eq_false h]
        exact Bool.eq_false_iff.mpr fun z => h (this.mp z)
    rw [forS_find (q := fun c => !decide (On r p c)) (g := fun c => (("bare" : Str), dyC c)) (fun c _ => ?_)]
    · unfold told
      cases cells.find? fun c => !decide (On r p c) <;> exact Gd.ok rfl
    · dsimp only
      rw [hs]
      cases decide (On r p c) <;> rfl
theorem greatest_ok {cells p f : List (Int × Int)} (uc : Up cells) (lc : cells.length ≤ 73) (hp : Pce p) (hf : Gm cells p f) : m_law_greatest cells p = .ok f := by
  have lp := hp.len
  obtain ⟨s0, ps, rfl⟩ := List.exists_cons_of_ne_nil hp.ne
  refine Gd.eq ?_
  unfold m_law_greatest
  refine (Keys.fillM (xs := cells) (fun c => c) .nil (by omega) fun d x _ hd => ?_).bind fun d hd => ?_
  · exact Gd.eq (Gd.chkB (small_lt (by omega)) (Gd.ok rfl))
  have hd' : Keys d (fun c => c ∈ cells) (0 + cells.length) := hd.cong fun c => by simp
  have hk : ∀ k, (dGet d k).isSome = decide (k ∈ cells) := fun k => by rw [hd'.has]
  let q : Int × Int → Bool := fun c => (s0 :: ps).all fun s => decide (pl c s ∈ cells)
  refine Gd.bind (P := fun t => t = (cells.map fun c : Int × Int => (c.1 - s0.1, c.2 - s0.2)).filter q) (Gd.forRl (I := fun (r : List (Int × Int)) t => t = (r.map fun c : Int × Int => (c.1 - s0.1, c.2 - s0.2)).filter q) (fun r x r2 t e hi => ?_) rfl) fun t et => Gd.ok ?_
  · have z := congrArg List.length e
    simp only [List.length_append, List.length_cons] at z
    refine Gd.bind (P := fun y => y = (x.1 - s0.1, x.2 - s0.2)) (Gd.bind (P := fun y => y = (x, s0)) (Gd.optB (a := s0) (show atI (s0 :: ps) ((0 : Nat) : Int) = some s0 from atI_nat rfl) (Gd.ok rfl)) fun y e => by subst e; exact Gd.ok rfl) fun y ey => ?_
    subst ey
    have lt : t.length ≤ r.length := by
      rw [hi]
      exact Nat.le_trans (List.length_filter_le ..) (by rw [List.length_map]; exact Nat.le_refl _)
    refine Gd.bind (P := fun b => b = q (x.1 - s0.1, x.2 - s0.2)) (Gd.bind (P := fun ys => ys = (s0 :: ps).map fun s => decide (pl (x.1 - s0.1, x.2 - s0.2) s ∈ cells)) (Gd.mapRB (g := fun s => decide (pl (x.1 - s0.1, x.2 - s0.2) s ∈ cells)) (fun s _ => ?_) (Gd.chk (small_size (by rw [List.length_map]; omega)) rfl)) fun ys e => Gd.ok (by rw [e, List.all_map]; rfl)) fun b eb => ?_
    · rw [← hk]
      rfl
    · subst eb
      refine Gd.ite (fun hb => Gd.chkB (small_lt (by omega)) (Gd.ok ?_)) fun hb => Gd.ok ?_
      · rw [hi, List.map_append, List.filter_append]
        congr 1
        exact (List.filter_cons_of_pos (p := q) (a := (x.1 - s0.1, x.2 - s0.2)) (l := []) hb).symm
      · have k := List.filter_cons_of_neg (p := q) (a := (x.1 - s0.1, x.2 - s0.2)) (l := []) hb
        rw [hi, List.map_append, List.filter_append, List.map_singleton, k, List.filter_nil, List.append_nil]
  · subst et
    refine up_eq (List.Pairwise.filter _ (up_shift uc s0)) hf.1 fun c => ?_
    rw [List.mem_filter, List.mem_map, hf.2.1]
    constructor
    · rintro ⟨_, h⟩ s hs
      exact of_decide_eq_true (List.all_eq_true.mp h s hs)
    · intro h
      refine ⟨⟨(c.1 + s0.1, c.2 + s0.2), h s0 List.mem_cons_self, by ext <;> simp⟩, List.all_eq_true.mpr fun s hs => decide_eq_true (h s hs)⟩
/-! ### two values told alike -/
def OkD : Nat → Dy → Prop
  | 0, _ => False
  | n + 1, .tup l => l.length ≤ 1000 ∧ ∀ x ∈ l, OkD n x
  | n + 1, .lst l => l.length ≤ 1000 ∧ ∀ x ∈ l, OkD n x
  | _ + 1, .str s => PyData.strOk s = true
  | _ + 1, _ => True
mutual
theorem eqv_refl : ∀ d : Dy, PyData.eqv d.dat d.dat = true
  | .non => by simp [Dy.dat, PyData.eqv]
  | .int i => by simp [Dy.dat, PyData.eqv]
  | .bl i => by simp [Dy.dat, PyData.eqv]
  | .str i => by simp [Dy.dat, PyData.eqv]
  | .tup l => by
    rw [Dy.dat]
    simp only [PyData.eqv]
    exact eqvs_refl l
  | .lst l => by
    rw [Dy.dat]
    simp only [PyData.eqv]
    exact eqvs_refl l
theorem eqvs_refl : ∀ l : List Dy, PyData.eqvAll (Dy.dats l) (Dy.dats l) = true
  | [] => by simp [Dy.dats, PyData.eqvAll]
  | d :: l => by
    rw [Dy.dats]
    simp only [PyData.eqvAll]
    rw [eqv_refl d, eqvs_refl l]
    rfl
end
theorem lay_rows {n : Nat} : ∀ {l : List Dy}, (∀ x ∈ l, x.dat.canLay0 = true ∧ x.dat.depth ≤ n) → PyData.canLayAll0 (Dy.dats l) = true ∧ PyData.depthAll (Dy.dats l) ≤ n
  | [], _ => by
    rw [Dy.dats]
    exact ⟨by simp [PyData.canLayAll0], by simp [PyData.depthAll]⟩
  | d :: l, h => by
    obtain ⟨a, b⟩ := h d List.mem_cons_self
    obtain ⟨c, e⟩ := lay_rows (l := l) fun x hx => h x (List.mem_cons_of_mem _ hx)
    rw [Dy.dats]
    refine ⟨by simp [PyData.canLayAll0, a, c], ?_⟩
    simp only [PyData.depthAll]
    omega
theorem lay_of : ∀ (n : Nat) (d : Dy), OkD n d → d.dat.canLay0 = true ∧ d.dat.depth ≤ n
  | 0, _, h => h.elim
  | n + 1, d, h => by
    cases d with
    | non => exact ⟨by simp [Dy.dat, PyData.canLay0], by simp [Dy.dat, PyData.depth]⟩
    | int i => exact ⟨by simp [Dy.dat, PyData.canLay0], by simp [Dy.dat, PyData.depth]⟩
    | bl i => exact ⟨by simp [Dy.dat, PyData.canLay0], by simp [Dy.dat, PyData.depth]⟩
    | str i =>
      have h' : PyData.strOk i = true := h
      exact ⟨by simp [Dy.dat, PyData.canLay0, h'], by simp [Dy.dat, PyData.depth]⟩
    | tup l =>
      rw [Dy.dat]
      obtain ⟨a, b⟩ := lay_rows (n := n) (l := l) fun x hx => lay_of n x (h.2 x hx)
      exact ⟨by simp [PyData.canLay0, a], by simp only [PyData.depth]; omega⟩
    | lst l =>
      rw [Dy.dat]
      obtain ⟨a, b⟩ := lay_rows (n := n) (l := l) fun x hx => lay_of n x (h.2 x hx)
      exact ⟨by simp [PyData.canLay0, a], by simp only [PyData.depth]; omega⟩
theorem shp_of {n : Nat} {d : Dy} (h : OkD n d) (hn : n ≤ 60) : d.shp = true := by
  obtain ⟨a, b⟩ := lay_of n d h
  unfold Dy.shp SeqAt.shaped
  simp [a]
  omega
theorem allM_ok {α β : Type} {f : Dy → Option β} {g : α → Dy} {h : α → β} : ∀ {xs : List α}, (∀ x ∈ xs, f (g x) = some (h x)) → allM f (xs.map g) = some (xs.map h)
  | [], _ => rfl
  | x :: xs, w => by
    rw [List.map_cons, List.map_cons]
    unfold allM
    rw [w x List.mem_cons_self, allM_ok fun y hy => w y (List.mem_cons_of_mem _ hy)]
    rfl
/-- the marks on a cell -/
def ways (f p : List (Int × Int)) (c : Int × Int) : List (Int × Int) := f.filter fun x => decide (c ∈ p.map (pl x))
theorem in_pl {p : List (Int × Int)} {c o : Int × Int} : c ∈ p.map (pl o) ↔ (c.1 - o.1, c.2 - o.2) ∈ p := by
  rw [List.mem_map]
  unfold pl
  constructor
  · rintro ⟨s, hs, rfl⟩
    have e : ((o.1 + s.1, o.2 + s.2).1 - o.1, (o.1 + s.1, o.2 + s.2).2 - o.2) = s := by ext <;> simp <;> omega
    rw [e]
    exact hs
  · intro h
    exact ⟨_, h, by ext <;> simp <;> omega⟩
open Classical in
theorem greatest2 {cells p f : List (Int × Int)} (hp : Pce p) (hf : Gm cells p f) (em : m_marks (cells, false) p = .ok (told cells f p)) : m_greatest (cells, false) p = if (cells.find? fun c => !decide (On f p c)).isSome = true then .er ⟨"NoMarks", none⟩ else .ok f := by
  unfold m_greatest
  rw [em]
  unfold told
  cases cells.find? fun c => !decide (On f p c) with
  | some c =>
    show (if decide (("bare" : Str) = "bare") = true then (R.er ⟨"NoMarks", none⟩ : R (List (Int × Int))) else ofOpt (asT (asTu (asc asI (as1 asI))) (dyC c))) = _
    rw [if_pos (by decide +kernel)]
    rfl
  | none =>
    show (if decide (("marks" : Str) = "bare") = true then (R.er ⟨"NoMarks", none⟩ : R (List (Int × Int))) else ofOpt (allM (asTu (asc asI (as1 asI))) (f.map dyC))) = _
    rw [if_neg (by decide +kernel)]
    have e := allM_ok (f := asTu (asc asI (as1 asI))) (g := dyC) (h := fun c => c) (xs := f) fun x _ => rfl
    rw [List.map_id'] at e
    rw [e]
    rfl
def onB (t p : List (Int × Int)) (c : Int × Int) : Bool := t.any fun m => hasB (c.1 - m.1, c.2 - m.2) p
theorem onB_iff {t p : List (Int × Int)} {c : Int × Int} : onB t p c = true ↔ On t p c := by
  unfold onB On
  rw [List.any_eq_true]
  constructor
  · rintro ⟨m, hm, h⟩
    exact ⟨m, hm, in_pl.mpr ((hasB_iff).mp h)⟩
  · rintro ⟨m, hm, h⟩
    exact ⟨m, hm, (hasB_iff).mpr (in_pl.mp h)⟩
theorem onB_false {t p : List (Int × Int)} {c : Int × Int} : onB t p c = false ↔ ¬ On t p c := by rw [← onB_iff]; simp
theorem is_brought_ok {t p : List (Int × Int)} (c : Int × Int) (h : t.length ≤ 1000) : m_is_brought p t c = .ok (onB t p c) := by
  refine Gd.eq ?_
  unfold m_is_brought
  exact Gd.bind (P := fun ys => ys = t.map fun m => hasB (c.1 - m.1, c.2 - m.2) p) (Gd.mapRB (g := fun m => hasB (c.1 - m.1, c.2 - m.2) p) (fun m _ => rfl) (Gd.chk (small_size (by rw [List.length_map]; omega)) rfl)) fun ys e => Gd.ok (by rw [e, List.any_map]; rfl)
theorem ways_eq (f p : List (Int × Int)) (c : Int × Int) : (f.filter fun m => hasB (c.1 - m.1, c.2 - m.2) p) = ways f p c := by
  unfold ways
  refine List.filter_congr fun m _ => ?_
  rw [Bool.eq_iff_iff, hasB_iff, decide_eq_true_iff, in_pl]
theorem brought_ok {p f : List (Int × Int)} (h : f.length * p.length ≤ 9000) : ∃ r, m_law_brought f p = .ok r ∧ Up r ∧ (∀ c, c ∈ r ↔ On f p c) ∧ r.length ≤ f.length * p.length := by
  show Gd (m_law_brought f p) fun r => Up r ∧ (∀ c, c ∈ r ↔ On f p c) ∧ r.length ≤ f.length * p.length
  unfold m_law_brought
  refine (Keys.fill2M (xs := f) (ys := p) (fun x y => (x.1 + y.1, x.2 + y.2)) .nil (by omega) fun x d y _ _ hd => ?_).bind fun d hd => ?_
  · exact Gd.eq (Gd.eqB rfl (Gd.chkB (small_lt (by omega)) (Gd.ok rfl)))
  · obtain ⟨u, m, l⟩ := hd.sorted
    refine Gd.ok ⟨u, fun c => ?_, by omega⟩
    rw [m]
    unfold On
    simp only [List.mem_map, false_or]
    constructor
    · rintro ⟨x, hx, y, hy, e⟩
      exact ⟨x, hx, y, hy, e.symm⟩
    · rintro ⟨x, hx, y, hy, e⟩
      exact ⟨x, hx, y, hy, e.symm⟩
theorem On.mono {s t p : List (Int × Int)} {c : Int × Int} (h : ∀ m ∈ s, m ∈ t) : On s p c → On t p c := fun ⟨m, hm, hc⟩ => ⟨m, h m hm, hc⟩
theorem bring_d {p f : List (Int × Int)} (hp : Pce p) (lf : f.length ≤ 100) : ∃ d, m_bringing f p = .ok d ∧ ∀ c, dGet d c = if ∃ x ∈ f, c ∈ p.map (pl x) then some (ways f p c) else none := by
  have lp := hp.len
  show Gd (m_bringing f p) fun d => ∀ c, dGet d c = if ∃ x ∈ f, c ∈ p.map (pl x) then some (ways f p c) else none
  have pr : f.length * 12 ≤ 100 * 12 := Nat.mul_le_mul_right _ lf
  unfold m_bringing
  refine Gd.bind (P := fun d => Br (fun m => p.map (pl m)) f (f.length * 12) d) (bring_ok (fun x _ => lies_ok p x (by omega)) (fun x _ => nd_pl hp.up x) (fun x _ => by rw [List.length_map]; exact lp) (by omega)) fun d hd => Gd.ok fun c => ?_
  rw [hd.get]
  by_cases h : ∃ x ∈ f, c ∈ p.map (pl x)
  · rw [if_pos h, if_pos h]
    exact congrArg some (List.filter_congr fun x _ => decide_eq_decide.mpr Iff.rfl)
  · rw [if_neg h, if_neg h]
/-! ### the search -/
section
variable (cells p f : List (Int × Int))
/-- so many more marks bring all -/
def Comp (k : Nat) (t : List (Int × Int)) : Prop := ∃ ex, ex.length ≤ k ∧ (∀ m ∈ ex, m ∈ f) ∧ ∀ c ∈ cells, On (t ++ ex) p c
def T (c : Int × Int) (cs : List ((Int × Int) × Dy)) : Dy := Dy.tup [Dy.tup [Dy.int c.1, Dy.int c.2], Dy.lst (cs.map fun x => Dy.tup [Dy.tup [Dy.int x.1.1, Dy.int x.1.2], x.2])]
/-- a right tree -/
def RT : Nat → List (Int × Int) → Dy → Prop
  | 0, t, d => ∃ c, d = T c [] ∧ c ∈ cells ∧ onB t p c = false
  | k + 1, t, d => ∃ c cs, d = T c cs ∧ c ∈ cells ∧ onB t p c = false ∧ cs.map Prod.fst = ways f p c ∧ ∀ x ∈ cs, RT k (t ++ [x.1]) x.2
end
theorem no_comp0 {cells p f t : List (Int × Int)} {c : Int × Int} (hc : c ∈ cells) (ho : onB t p c = false) : ¬ Comp cells p f 0 t := by
  rintro ⟨ex, l, _, h⟩
  rw [List.eq_nil_of_length_eq_zero (Nat.le_zero.mp l), List.append_nil] at h
  exact onB_false.mp ho (h c hc)
theorem no_comp {cells p f t : List (Int × Int)} {c : Int × Int} {k : Nat} (hc : c ∈ cells) (ho : onB t p c = false) (h : ∀ m ∈ ways f p c, ¬ Comp cells p f k (t ++ [m])) : ¬ Comp cells p f (k + 1) t := by
  rintro ⟨ex, l, hf, cov⟩
  obtain ⟨m, hm, hcm⟩ := cov c hc
  rcases List.mem_append.mp hm with hm | hm
  · exact onB_false.mp ho ⟨m, hm, hcm⟩
  · refine h m (List.mem_filter.mpr ⟨hf m hm, decide_eq_true hcm⟩) ⟨ex.erase m, ?_, fun x hx => hf x (List.mem_of_mem_erase hx), fun c hc => On.mono (fun x hx => ?_) (cov c hc)⟩
    · rw [List.length_erase_of_mem hm]
      omega
    · rcases List.mem_append.mp hx with hx | hx
      · exact List.mem_append_left _ (List.mem_append_left _ hx)
      · by_cases e : x = m
        · subst e
          exact List.mem_append_left _ (List.mem_append_right _ List.mem_cons_self)
        · exact List.mem_append_right _ ((List.mem_erase_of_ne e).mpr hx)
/-- what the search tells -/
def Tr (cells p f : List (Int × Int)) (k : Nat) (t : List (Int × Int)) (r : Option (List (Int × Int)) × Dy) : Prop :=
  (∃ ex, r = (some (t ++ ex), Dy.non) ∧ ex.length ≤ k ∧ (∀ m ∈ ex, m ∈ f) ∧ ∀ c ∈ cells, On (t ++ ex) p c) ∨ (∃ d, r = (none, d) ∧ RT cells p f k t d ∧ ¬ Comp cells p f k t)
theorem tried_ok {cells p f : List (Int × Int)} {d : List ((Int × Int) × List (Int × Int))} (lc : cells.length ≤ 1000) (lf : f.length ≤ 1000) (hd : ∀ c ∈ cells, dGet d c = some (ways f p c)) : ∀ (n k : Nat) (t : List (Int × Int)), k < n → t.length + k ≤ 500 → Gd (m_tried n cells d p t (k : Int)) (Tr cells p f k t)
  | 0, _, _, h, _ => absurd h (Nat.not_lt_zero _)
  | n + 1, k, t, hk, ht => by
    unfold m_tried
    have lo := List.length_filter_le (fun c => !onB t p c) cells
    refine Gd.bind (P := fun o => o = cells.filter fun c => !onB t p c) (Gd.fmRB (p := fun c => !onB t p c) (g := fun c => c) (fun c _ => by rw [is_brought_ok c (by omega)]; rfl) (fun c _ => rfl) (Gd.chk (small_size (by rw [List.length_map]; omega)) (by rw [List.map_id']))) fun o eo => ?_
    refine Gd.ite (fun h => Gd.ok (.inl ⟨[], by rw [List.append_nil], Nat.zero_le _, fun m hm => (nomatch hm), fun c hc => ?_⟩)) fun h => ?_
    · have h' := of_decide_eq_true h
      rw [eo, List.filter_eq_nil_iff] at h'
      have := h' c hc
      rw [List.append_nil]
      exact onB_iff.mp (by simpa using this)
    have h' : o ≠ [] := fun z => h (decide_eq_true z)
    obtain ⟨c, rest, ec⟩ := List.exists_cons_of_ne_nil h'
    have hc : c ∈ cells ∧ onB t p c = false := by
      have : c ∈ cells.filter fun c => !onB t p c := by rw [← eo, ec]; exact List.mem_cons_self
      obtain ⟨h1, h2⟩ := List.mem_filter.mp this
      exact ⟨h1, by simpa using h2⟩
    have a0 : ofOpt (atI o (0 : Int)) = .ok c := by
      rw [ec]
      exact congrArg ofOpt (show atI (c :: rest) ((0 : Nat) : Int) = some c from atI_nat rfl)
    dsimp only
    cases k with
    | zero =>
      refine Gd.bind (P := fun s => s = Sum.inr []) (Gd.ite (fun h => absurd h (by decide)) fun _ => Gd.ok rfl) fun s es => ?_
      subst es
      refine Gd.bind (P := fun z => z = T c []) (Gd.bind (P := fun z => z = (c, [])) (Gd.eqB a0 (Gd.ok rfl)) fun z e => Gd.ok (by rw [e]; rfl)) fun z e => Gd.ok (.inr ⟨z, rfl, ?_, no_comp0 hc.1 hc.2⟩)
      exact ⟨c, e, hc.1, hc.2⟩
    | succ k =>
      have lw : (ways f p c).length ≤ f.length := List.length_filter_le _ _
      refine Gd.bind (P := fun s : Sum (Option (List (Int × Int)) × Dy) (List ((Int × Int) × Dy)) => match s with | .inl r => Tr cells p f (k + 1) t r | .inr cs => cs.map Prod.fst = ways f p c ∧ (∀ x ∈ cs, RT cells p f k (t ++ [x.1]) x.2) ∧ ∀ m ∈ ways f p c, ¬ Comp cells p f k (t ++ [m])) (Gd.ite (fun _ => ?_) fun z => absurd (decide_eq_true (by omega)) z) fun s hs => ?_
      · refine Gd.bind (P := fun w => w = ways f p c) (Gd.eqB a0 (by rw [hd c hc.1]; exact Gd.ok rfl)) fun w ew => ?_
        subst ew
        refine (forS_gd (I := fun rem (cs : List ((Int × Int) × Dy)) => ∃ q, ways f p c = q ++ rem ∧ cs.map Prod.fst = q ∧ (∀ x ∈ cs, RT cells p f k (t ++ [x.1]) x.2) ∧ ∀ m ∈ q, ¬ Comp cells p f k (t ++ [m])) (Q := Tr cells p f (k + 1) t) (fun cs m rem hi _ => ?_) ⟨[], rfl, rfl, fun x hx => absurd hx List.not_mem_nil, fun m hm => absurd hm List.not_mem_nil⟩).bind fun o ho => ?_
        · obtain ⟨q, e1, e2, e3, e4⟩ := hi
          have z := congrArg List.length e1
          simp only [List.length_append, List.length_cons] at z
          have lq := congrArg List.length e2
          rw [List.length_map] at lq
          have hm : m ∈ f := by
            have : m ∈ ways f p c := by rw [e1]; simp
            exact (List.mem_filter.mp this).1
          refine Gd.bind (P := Tr cells p f k (t ++ [m])) ?_ fun r hr => ?_
          · have ek : ((k + 1 : Nat) : Int) - 1 = (k : Int) := by omega
            have es : chk (t.length + [m].length ≤ sizeLine) (t ++ [m]) = .ok (t ++ [m]) := if_pos (small_size (by simp; omega))
            rw [es, ek]
            exact tried_ok lc lf hd n k (t ++ [m]) (by omega) (by rw [List.length_append]; simp; omega)
          · rcases hr with ⟨ex, er, l, hf, cov⟩ | ⟨dd, er, hrt, hn⟩
            · rw [er]
              refine Gd.ite (fun _ => Gd.ok (.inl ⟨m :: ex, by rw [List.append_assoc]; rfl, by rw [List.length_cons]; omega, fun x hx => ?_, fun c hc => ?_⟩)) fun h => absurd rfl h
              · rcases List.mem_cons.mp hx with rfl | hx
                · exact hm
                · exact hf x hx
              · have := cov c hc
                rwa [List.append_assoc] at this
            · rw [er]
              refine Gd.ite (fun h => by cases h) fun _ => Gd.chkB (small_lt (by omega)) (Gd.ok ⟨q ++ [m], by rw [e1, List.append_assoc]; rfl, by rw [List.map_append, e2]; rfl, fun x hx => ?_, fun x hx => ?_⟩)
              · rcases List.mem_append.mp hx with hx | hx
                · exact e3 x hx
                · rw [List.mem_singleton.mp hx]
                  exact hrt
              · rcases List.mem_append.mp hx with hx | hx
                · exact e4 x hx
                · rw [List.mem_singleton.mp hx]
                  exact hn
        · cases o with
          | rt r => exact Gd.ok ho
          | nx cs =>
            obtain ⟨q, e1, e2, e3, e4⟩ := ho
            rw [List.append_nil] at e1
            subst e1
            exact Gd.ok ⟨e2, e3, e4⟩
      · cases s with
        | inl r => exact Gd.ok hs
        | inr cs =>
          obtain ⟨h1, h2, h3⟩ := hs
          refine Gd.bind (P := fun z => z = T c cs) (Gd.bind (P := fun z => z = (c, cs)) (Gd.eqB a0 (Gd.ok rfl)) fun z e => Gd.ok (by rw [e]; rfl)) fun z e => Gd.ok (.inr ⟨z, rfl, ?_, no_comp hc.1 hc.2 h3⟩)
          exact ⟨c, cs, e, hc.1, hc.2, h1, h2⟩
/-- the fewest marks, the tree -/
structure Few (cells p f : List (Int × Int)) (r : List (Int × Int) × Dy) (best : List (Int × Int)) (j : Nat) : Prop where
  few : r.1 = sortC best
  len : best.length = j
  sub : ∀ m ∈ best, m ∈ f
  cov : ∀ c ∈ cells, On best p c
  tree : (j = 0 ∧ r.2 = Dy.non) ∨ ∃ i, j = i + 1 ∧ RT cells p f i [] r.2
  no : ∀ i, i < j → ¬ Comp cells p f i []
theorem range_cons {a b : Int} (h : a < b) : rangeI a b = a :: rangeI (a + 1) b := by
  unfold rangeI
  obtain ⟨n, hn⟩ : ∃ n : Nat, (b - a).toNat = n + 1 := ⟨(b - a).toNat - 1, by omega⟩
  have e2 : (b - (a + 1)).toNat = n := by omega
  rw [hn, e2, List.range_succ_eq_map, List.map_cons, List.map_map]
  congr 1
  · simp
  · refine List.map_congr_left fun x _ => ?_
    simp
    omega
theorem range_nil {a b : Int} (h : b ≤ a) : rangeI a b = [] := by
  unfold rangeI
  have : (b - a).toNat = 0 := by omega
  rw [this]
  rfl
theorem few_ok {cells p f : List (Int × Int)} (lc : cells.length ≤ 73) (hp : Pce p) (hf : Gm cells p f) (hon : ∀ c ∈ cells, On f p c) (eg : m_greatest (cells, false) p = .ok f) (l12 : f.length ≤ 12) :
    ∃ r, m_fewest_and_tree (cells, false) p = .ok r ∧ ∃ best j, Few cells p f r best j := by
  show Gd (m_fewest_and_tree (cells, false) p) fun r => ∃ best j, Few cells p f r best j
  obtain ⟨d, ed, hd⟩ := bring_d hp (f := f) (by omega)
  have hd' : ∀ c ∈ cells, dGet d c = some (ways f p c) := fun c hc => by rw [hd, if_pos (show ∃ x ∈ f, c ∈ p.map (pl x) from hon c hc)]
  unfold m_fewest_and_tree
  refine Gd.eqB eg (Gd.ite (fun h => by have := of_decide_eq_true h; omega) fun _ => Gd.eqB ed ?_)
  dsimp only
  refine Gd.chkB (by omega) ?_
  let Inv : Nat → Dy → Prop := fun j s => ((j = 0 ∧ s = Dy.non) ∨ ∃ i, j = i + 1 ∧ RT cells p f i [] s) ∧ ∀ i, i < j → ¬ Comp cells p f i []
  refine (forS_gd (I := fun rem s => ∃ j : Nat, j ≤ f.length + 1 ∧ rem = rangeI (j : Int) ((f.length : Int) + 1) ∧ Inv j s) (Q := fun r => ∃ best j, Few cells p f r best j) (fun s x rem hi _ => ?_) ⟨0, Nat.zero_le _, rfl, .inl ⟨rfl, rfl⟩, fun i h => absurd h (Nat.not_lt_zero _)⟩).bind fun o ho => ?_
  · obtain ⟨j, hj, er, hv, hno⟩ := hi
    have jl : j < f.length + 1 := by
      by_cases h : (j : Int) < (f.length : Int) + 1
      · omega
      · rw [range_nil (by omega)] at er
        cases er
    rw [range_cons (by omega)] at er
    injection er with e1 e2
    subst e1
    refine Gd.bind (P := Tr cells p f j []) (tried_ok (by omega) (by omega) hd' 15 j [] (by omega) (by simp; omega)) fun r hr => ?_
    rcases hr with ⟨ex, er, l, hsub, cov⟩ | ⟨dd, er, hrt, hn⟩
    · rw [er]
      refine Gd.ite (fun _ => ?_) fun h => absurd rfl h
      refine Gd.bind (P := fun z => z = (sortC ex, s)) (Gd.ok rfl) fun z ez => Gd.ok ⟨ex, j, by rw [ez], ?_, hsub, cov, by rw [ez]; exact hv, hno⟩
      refine Nat.le_antisymm l (Nat.le_of_not_lt fun hlt => ?_)
      exact hno ex.length hlt ⟨ex, Nat.le_refl _, hsub, cov⟩
    · rw [er]
      refine Gd.ite (fun h => by cases h) fun _ => Gd.ok ⟨j + 1, by omega, by rw [e2]; congr 1, .inr ⟨j, rfl, hrt⟩, fun i hi => ?_⟩
      rcases Nat.lt_succ_iff_lt_or_eq.mp hi with h | h
      · exact hno i h
      · subst h
        exact hn
  · cases o with
    | rt r => exact Gd.ok ho
    | nx s =>
      obtain ⟨j, hj, er, hv, hno⟩ := ho
      have jl : f.length < j := by
        by_cases h : (j : Int) < (f.length : Int) + 1
        · rw [range_cons h] at er
          cases er
        · omega
      exact absurd (show Comp cells p f f.length [] from ⟨f, Nat.le_refl _, fun m h => h, fun c hc => by rw [List.nil_append]; exact hon c hc⟩) (hno f.length jl)
abbrev cv (d : Dy) : Option ((Int × Int) × List ((Int × Int) × Dy)) := (asTu (asc (asTu (asc asI (as1 asI))) (as1 (asL (asTu (asc (asTu (asc asI (as1 asI))) (as1 some))))))) d
theorem cv_all : ∀ cs : List ((Int × Int) × Dy), allM (asTu (asc (asTu (asc asI (as1 asI))) (as1 some))) (cs.map fun x => Dy.tup [Dy.tup [Dy.int x.1.1, Dy.int x.1.2], x.2]) = some cs
  | [] => rfl
  | x :: cs => by
    rw [List.map_cons]
    unfold allM
    rw [cv_all cs]
    rfl
theorem cv_T (c : Int × Int) (cs : List ((Int × Int) × Dy)) : cv (T c cs) = some (c, cs) := by
  show (some c).bind (fun x => (allM (asTu (asc (asTu (asc asI (as1 asI))) (as1 some))) (cs.map fun x => Dy.tup [Dy.tup [Dy.int x.1.1, Dy.int x.1.2], x.2])).map fun r => (x, r)) = _
  rw [cv_all]
  rfl
theorem nil_eq : chk (Dy.shp (Dy.lst (List.map (fun x : (Int × Int) × Dy => Dy.tup [Dy.tup [Dy.int x.1.1, Dy.int x.1.2], x.2]) [])) = true ∧ Dy.shp (Dy.lst (List.map (fun x : (Int × Int) × Dy => Dy.tup [Dy.tup [Dy.int x.1.1, Dy.int x.1.2], x.2]) [])) = true) (Dy.eqv (Dy.lst (List.map (fun x : (Int × Int) × Dy => Dy.tup [Dy.tup [Dy.int x.1.1, Dy.int x.1.2], x.2]) [])) (Dy.lst (List.map (fun x : (Int × Int) × Dy => Dy.tup [Dy.tup [Dy.int x.1.1, Dy.int x.1.2], x.2]) []))) = .ok true := by
  unfold chk
  rw [if_pos (by decide +kernel)]
  exact congrArg R.ok (by decide +kernel)
theorem RT.cv {cells p f t : List (Int × Int)} : ∀ {k : Nat} {d : Dy}, RT cells p f k t d → ∃ c cs, d = T c cs ∧ c ∈ cells ∧ onB t p c = false
  | 0, _, ⟨c, e, h1, h2⟩ => ⟨c, [], e, h1, h2⟩
  | _ + 1, _, ⟨c, cs, e, h1, h2, _⟩ => ⟨c, cs, e, h1, h2⟩
theorem T_inj {c c' : Int × Int} {cs cs' : List ((Int × Int) × Dy)} (h : T c cs = T c' cs') : c = c' ∧ cs = cs' := by
  have := congrArg G.cv h
  rw [cv_T, cv_T] at this
  injection this with this
  injection this with h1 h2
  exact ⟨h1, h2⟩
def ms (c s : Int × Int) : Int × Int := (c.1 - s.1, c.2 - s.2)
def P (p : List (Int × Int)) (c : Int × Int) : List (Int × Int) := sortC (p.map (ms c))
theorem places_ok (p : List (Int × Int)) (c : Int × Int) (h : p.length ≤ 9800) : m_places_on p c = .ok (P p c) := by
  refine Gd.eq ?_
  unfold m_places_on
  exact Gd.bind (P := fun r => r = p.map (ms c)) (Gd.mapRB (g := ms c) (fun x _ => rfl) (Gd.chk (small_size (by rw [List.length_map]; omega)) rfl)) fun r e => Gd.ok (by rw [e]; rfl)
theorem has_ok (cells : List (Int × Int)) (c : Int × Int) : m_has (cells, false) c = .ok (hasB c cells) := by
  show R.ok (!decide (hasB c cells = false)) = _
  cases hasB c cells <;> rfl
def Wh (cells p : List (Int × Int)) (c : Int × Int) : Bool := (p.map fun s => hasB (pl c s) cells).all id
theorem whole_ok (cells p : List (Int × Int)) (c : Int × Int) (h : p.length ≤ 9800) : m_whole_at (cells, false) p c = .ok (Wh cells p c) := by
  refine Gd.eq ?_
  unfold m_whole_at
  refine Gd.bind (P := fun r => r = p.map fun s => hasB (pl c s) cells) (Gd.eqB (lies_ok p c h) (Gd.mapRB (g := fun x => hasB x cells) (fun x _ => has_ok cells x) (Gd.chk (small_size (by simp; omega)) (by rw [List.map_map]; rfl)))) fun r e => Gd.ok (by rw [e]; rfl)
theorem nd_ms {p : List (Int × Int)} (u : Up p) (c : Int × Int) : (p.map (ms c)).Nodup := List.pairwise_map.mpr (List.Pairwise.imp (fun {a b} (z : a ≠ b) (e : ms c a = ms c b) => z (by
  have e1 := congrArg Prod.fst e
  have e2 := congrArg Prod.snd e
  unfold ms at e1 e2
  ext <;> simp at * <;> omega)) (nd_up u))
theorem wh_eq {cells p f : List (Int × Int)} (hp : Pce p) (hf : Gm cells p f) (c : Int × Int) : (P p c).filter (Wh cells p) = ways f p c := by
  have eP : P p c = rise (p.map (ms c)) := sortC_rise (nd_ms hp.up c)
  refine up_eq (List.Pairwise.filter _ (by rw [eP]; exact up_rise _)) (List.Pairwise.filter _ hf.1) fun m => ?_
  rw [List.mem_filter, eP, mem_rise, List.mem_map]
  unfold ways
  rw [List.mem_filter, decide_eq_true_iff, hf.2.1, in_pl]
  have hw : Wh cells p m = true ↔ InEro cells p m := by
    unfold Wh InEro
    rw [List.all_map, List.all_eq_true]
    exact forall_congr' fun s => forall_congr' fun _ => hasB_iff
  rw [hw]
  constructor
  · rintro ⟨⟨s, hs, e⟩, h⟩
    refine ⟨h, ?_⟩
    rw [← e]
    have : (c.1 - (ms c s).1, c.2 - (ms c s).2) = s := by unfold ms; ext <;> simp <;> omega
    rw [this]
    exact hs
  · rintro ⟨h, hs⟩
    exact ⟨⟨_, hs, by unfold ms; ext <;> simp <;> omega⟩, h⟩
theorem tree_step {cells p f : List (Int × Int)} (lf : f.length ≤ 1000) (hp : Pce p) (hf : Gm cells p f) {n : Nat} {t : List (Int × Int)} {c : Int × Int} {cs : List ((Int × Int) × Dy)} {k : Nat} (ht : t.length + k ≤ 500) (hc : c ∈ cells) (ho : onB t p c = false) (v : Bool) (lc : cs.length ≤ 1000)
    (h : if cs.map Prod.fst = ways f p c then (∀ x ∈ cs, ∃ c3 cs3, cv x.2 = some (c3, cs3) ∧ m_tree_right n (cells, false) p (t ++ [x.1]) (k : Int) (c3, cs3) = .ok v) ∧ (cs.map fun _ => v).all id = v else v = false) :
    m_tree_right (n + 1) (cells, false) p t ((k + 1 : Nat) : Int) (c, cs) = .ok v := by
  have lp := hp.len
  refine Gd.eq ?_
  unfold m_tree_right
  dsimp only
  have hb : hasB c cells = true := hasB_iff.mpr hc
  refine Gd.eqB (a := false) (by rw [has_ok, hb, is_brought_ok c (by omega), ho]; rfl) (Gd.ite (fun h => by cases h) fun _ => ?_)
  refine Gd.ite (fun z => by have := of_decide_eq_true z; omega) fun _ => ?_
  have lP : (P p c).length = p.length := by
    unfold P
    rw [(perm_srt _).length_eq, List.length_map]
  have lF := List.length_filter_le (Wh cells p) (P p c)
  refine Gd.bind (P := fun b => b = !decide (cs.map Prod.fst = ways f p c)) (Gd.bind (P := fun o => o = cs.map Prod.fst) (Gd.mapRB (g := fun y : (Int × Int) × Dy => y.1) (fun y _ => rfl) (Gd.chk (small_size (by rw [List.length_map]; omega)) rfl)) fun o eo => Gd.bind (P := fun o => o = ways f p c) (Gd.eqB (places_ok p c (by omega)) (Gd.fmRB (p := Wh cells p) (g := fun m => m) (fun m _ => whole_ok cells p m (by omega)) (fun m _ => rfl) (Gd.chk (small_size (by rw [List.length_map]; omega)) (by rw [List.map_id', wh_eq hp hf])))) fun o2 eo2 => Gd.ok (by rw [eo, eo2])) fun b eb => ?_
  subst eb
  by_cases hw : cs.map Prod.fst = ways f p c
  · rw [if_pos hw] at h
    rw [decide_eq_true hw]
    refine Gd.ite (fun h => by cases h) fun _ => ?_
    refine Gd.bind (P := fun o => o = cs.map fun _ => v) (Gd.mapRB (g := fun _ => v) (fun x hx => ?_) (Gd.chk (small_size (by rw [List.length_map]; omega)) rfl)) fun o eo => Gd.ok (by rw [eo]; exact h.2)
    obtain ⟨c3, cs3, e3, hr⟩ := h.1 x hx
    have ek : ((k + 1 : Nat) : Int) - 1 = (k : Int) := by omega
    have es : chk (t.length + [x.1].length ≤ sizeLine) (t ++ [x.1]) = .ok (t ++ [x.1]) := if_pos (small_size (by simp; omega))
    have ev : ofOpt (cv x.2) = .ok (c3, cs3) := by rw [e3]; rfl
    rw [es, ek]
    simp only [ok_bindP]
    rw [ev]
    simp only [ok_bindP]
    exact hr
  · rw [if_neg hw] at h
    rw [decide_eq_false hw]
    exact Gd.ite (fun _ => Gd.ok h.symm) fun z => absurd rfl z
theorem tree_true {cells p f : List (Int × Int)} (lf : f.length ≤ 1000) (hp : Pce p) (hf : Gm cells p f) : ∀ (n k : Nat) (t : List (Int × Int)) (c : Int × Int) (cs : List ((Int × Int) × Dy)), k < n → t.length + k ≤ 500 → RT cells p f k t (T c cs) → m_tree_right n (cells, false) p t (k : Int) (c, cs) = .ok true
  | 0, _, _, _, _, h, _, _ => absurd h (Nat.not_lt_zero _)
  | n + 1, 0, t, c, cs, hk, ht, h => by
    obtain ⟨c', e, hc, ho⟩ := h
    obtain ⟨rfl, rfl⟩ := T_inj e
    refine Gd.eq ?_
    unfold m_tree_right
    dsimp only
    have hb : hasB c cells = true := hasB_iff.mpr hc
    refine Gd.eqB (a := false) (by rw [has_ok, hb, is_brought_ok c (by omega), ho]; rfl) (Gd.ite (fun h => by cases h) fun _ => ?_)
    exact Gd.ite (fun _ => Gd.of nil_eq rfl) fun z => absurd rfl z
  | n + 1, k + 1, t, c, cs, hk, ht, h => by
    obtain ⟨c2, cs2, e2, hc, ho, hw, hr⟩ := h
    obtain ⟨rfl, rfl⟩ := T_inj e2
    have ll := congrArg List.length hw
    rw [List.length_map] at ll
    have lw2 : (ways f p c).length ≤ f.length := List.length_filter_le _ _
    refine tree_step lf hp hf (by omega) hc ho true (by omega) ?_
    rw [if_pos hw]
    refine ⟨fun x hx => ?_, by rw [List.all_eq_true]; intro b hb; obtain ⟨_, _, rfl⟩ := List.mem_map.mp hb; rfl⟩
    have hx' := hr x hx
    obtain ⟨c3, cs3, e3, _, _⟩ := hx'.cv
    rw [e3] at hx'
    exact ⟨c3, cs3, by rw [e3, cv_T], tree_true lf hp hf n k _ c3 cs3 (by omega) (by rw [List.length_append]; simp; omega) hx'⟩
/-! ### trees as they come -/
abbrev TT : Type := (Int × Int) × List ((Int × Int) × Dy)
def enc (cs : List ((Int × Int) × Dy)) : Dy := Dy.lst (cs.map fun x => Dy.tup [Dy.tup [Dy.int x.1.1, Dy.int x.1.2], x.2])
def WT (B : Nat) : Nat → TT → Prop
  | 0, _ => False
  | n + 1, t => t.2.length ≤ B ∧ ∀ x ∈ t.2, ∃ t' : TT, x.2 = T t'.1 t'.2 ∧ WT B n t'
theorem WT.mono {B B' : Nat} (hB : B ≤ B') : ∀ {n n' : Nat} {t : TT}, n ≤ n' → WT B n t → WT B' n' t
  | 0, _, _, _, h => h.elim
  | n + 1, 0, _, hn, _ => absurd hn (by omega)
  | n + 1, n' + 1, t, hn, h => ⟨Nat.le_trans h.1 hB, fun x hx => by
    obtain ⟨t', e, w⟩ := h.2 x hx
    exact ⟨t', e, WT.mono hB (by omega) w⟩⟩
theorem okc (n : Nat) (c : Int × Int) : OkD (n + 2) (Dy.tup [Dy.int c.1, Dy.int c.2]) := ⟨by show 2 ≤ 1000; decide, fun x hx => by
  rcases List.mem_cons.mp hx with rfl | hx
  · trivial
  · rw [List.mem_singleton.mp hx]
    trivial⟩
mutual
theorem WT.okl {B : Nat} (hB : B ≤ 1000) : ∀ {n : Nat} {t : TT}, WT B (n + 1) t → OkD (3 * n + 4) (enc t.2) := fun {n t} h => ⟨by rw [List.length_map]; exact Nat.le_trans h.1 hB, fun y hy => by
  obtain ⟨x, hx, rfl⟩ := List.mem_map.mp hy
  obtain ⟨t', e, w⟩ := h.2 x hx
  refine ⟨by show 2 ≤ 1000; decide, fun z hz => ?_⟩
  rcases List.mem_cons.mp hz with rfl | hz
  · exact okc (3 * n) x.1
  · rw [List.mem_singleton.mp hz]
    show OkD (3 * n + 2) x.2
    rw [e]
    exact WT.okd hB w⟩
theorem WT.okd {B : Nat} (hB : B ≤ 1000) : ∀ {n : Nat} {t : TT}, WT B n t → OkD (3 * n + 2) (T t.1 t.2)
  | 0, _, h => h.elim
  | n + 1, t, h => ⟨by show 2 ≤ 1000; decide, fun z hz => by
    rcases List.mem_cons.mp hz with rfl | hz
    · exact okc (3 * n + 2) t.1
    · rw [List.mem_singleton.mp hz]
      exact WT.okl hB h⟩
end
theorem nilq {B n : Nat} {t : TT} (hB : B ≤ 1000) (hn : n ≤ 15) (h : WT B n t) : chk (Dy.shp (enc t.2) = true ∧ Dy.shp (enc []) = true) (Dy.eqv (enc t.2) (enc [])) = .ok (decide (t.2 = [])) := by
  cases n with
  | zero => exact h.elim
  | succ n =>
    have s1 : Dy.shp (enc t.2) = true := shp_of (WT.okl hB h) (by omega)
    have s2 : Dy.shp (enc []) = true := by decide +kernel
    have e : Dy.eqv (enc t.2) (enc []) = decide (t.2 = []) := by
      cases ht : t.2 with
      | nil => exact eqv_refl _
      | cons x xs => simp [enc, Dy.eqv, Dy.dat, Dy.dats, PyData.eqv, PyData.eqvAll]
    unfold chk
    rw [if_pos ⟨s1, s2⟩, e]
theorem nilnq {B n : Nat} {t : TT} (hB : B ≤ 1000) (hn : n ≤ 15) (h : WT B n t) : chk (Dy.shp (enc t.2) = true ∧ Dy.shp (enc []) = true) (!Dy.eqv (enc t.2) (enc [])) = .ok (!decide (t.2 = [])) := by
  have k := nilq hB hn h
  unfold chk at k ⊢
  split at k
  · next hc =>
    rw [if_pos hc]
    injection k with k
    rw [k]
  · cases k
theorem law_on_ok {t p : List (Int × Int)} (c : Int × Int) (h : t.length ≤ 1000) : m_law_on p t c = .ok (onB t p c) := by
  have lw := List.length_filter_le (fun m => hasB (c.1 - m.1, c.2 - m.2) p) t
  refine Gd.eq ?_
  unfold m_law_on
  refine Gd.bind (P := fun o => o = t.filter fun m => hasB (c.1 - m.1, c.2 - m.2) p) (Gd.fmRB (p := fun m => hasB (c.1 - m.1, c.2 - m.2) p) (g := fun m => m) (fun m _ => rfl) (fun m _ => rfl) (Gd.chk (small_size (by rw [List.length_map]; omega)) (by rw [List.map_id']))) fun o eo => Gd.ok ?_
  rw [eo]
  unfold onB
  rw [Bool.eq_iff_iff, List.any_eq_true, Bool.not_eq_true', decide_eq_false_iff_not, List.filter_eq_nil_iff]
  constructor
  · intro k
    refine Classical.byContradiction fun z => k fun m hm e => z ⟨m, hm, e⟩
  · rintro ⟨m, hm, e⟩ k
    exact k m hm e
theorem law_ways_ok {f p : List (Int × Int)} (c : Int × Int) (h : f.length ≤ 1000) : m_law_ways f p c = .ok (ways f p c) := by
  have lw := List.length_filter_le (fun m => hasB (c.1 - m.1, c.2 - m.2) p) f
  refine Gd.eq ?_
  unfold m_law_ways
  exact Gd.fmRB (p := fun m => hasB (c.1 - m.1, c.2 - m.2) p) (g := fun m => m) (fun m _ => rfl) (fun m _ => rfl) (Gd.chk (small_size (by rw [List.length_map]; omega)) (by rw [List.map_id', ways_eq]))
theorem any_all {α : Type} (g : α → Bool) : ∀ xs : List α, xs.any (fun y => !g y) = !(xs.all g)
  | [] => rfl
  | x :: xs => by
    rw [List.any_cons, List.all_cons, any_all g xs]
    cases g x <;> rfl
/-- the law's look and the program's are one -/
theorem rights_eq {cells p f : List (Int × Int)} (lf : f.length ≤ 1000) (hp : Pce p) (hf : Gm cells p f) : ∀ (n d : Nat) (t : List (Int × Int)) (m : Int) (x : TT), d ≤ n → d ≤ 15 → t.length + d ≤ 500 → WT 900 d x → ∃ v, m_law_right n cells p f t m x = .ok v ∧ m_tree_right n (cells, false) p t m x = .ok v
  | _, 0, _, _, _, _, _, _, h => h.elim
  | 0, d + 1, _, _, _, hd, _, _, _ => absurd hd (by omega)
  | n + 1, d + 1, t, m, x, hd, h15, ht, hw => by
    have lp := hp.len
    have hA1 : (if (!hasB x.1 cells) = true then (R.ok true : R Bool) else m_law_on p t x.1) = .ok (!hasB x.1 cells || onB t p x.1) := by
      rw [law_on_ok _ (by omega)]
      cases hasB x.1 cells <;> rfl
    have hA2 : (((m_has (cells, false) x.1).bind fun y => R.ok (!y)).bind fun y => if y = true then (R.ok true : R Bool) else m_is_brought p t x.1) = .ok (!hasB x.1 cells || onB t p x.1) := by
      rw [has_ok, is_brought_ok _ (by omega)]
      cases hasB x.1 cells <;> rfl
    cases hb : (!hasB x.1 cells || onB t p x.1) with
    | true =>
      rw [hb] at hA1 hA2
      refine ⟨false, Gd.eq ?_, Gd.eq ?_⟩
      · unfold m_law_right
        dsimp only
        exact Gd.eqB hA1 (Gd.ite (fun _ => Gd.ok rfl) fun h => absurd rfl h)
      · unfold m_tree_right
        dsimp only
        exact Gd.eqB hA2 (Gd.ite (fun _ => Gd.ok rfl) fun h => absurd rfl h)
    | false =>
      rw [hb] at hA1 hA2
      by_cases hm : m = 0
      · refine ⟨decide (x.2 = []), Gd.eq ?_, Gd.eq ?_⟩
        · unfold m_law_right
          dsimp only
          exact Gd.eqB hA1 (Gd.ite (fun h => by cases h) fun _ => Gd.ite (fun _ => Gd.of (nilq (by decide) h15 hw) rfl) fun h => absurd (decide_eq_true hm) h)
        · unfold m_tree_right
          dsimp only
          exact Gd.eqB hA2 (Gd.ite (fun h => by cases h) fun _ => Gd.ite (fun _ => Gd.of (nilq (by decide) h15 hw) rfl) fun h => absurd (decide_eq_true hm) h)
      have lF := List.length_filter_le (Wh cells p) (P p x.1)
      have lP : (P p x.1).length = p.length := by
        unfold P
        rw [(perm_srt _).length_eq, List.length_map]
      have lx := hw.1
      have gB1 : Gd (((mapR (fun y : (Int × Int) × Dy => R.ok y.1) x.2).bind fun ys => chk (ys.length ≤ sizeLine) ys).bind fun y => (m_law_ways f p x.1).bind fun z => R.ok (!decide (y = z))) fun b => b = !decide (x.2.map Prod.fst = ways f p x.1) :=
        Gd.bind (P := fun o => o = x.2.map Prod.fst) (Gd.mapRB (g := fun y : (Int × Int) × Dy => y.1) (fun y _ => rfl) (Gd.chk (small_size (by rw [List.length_map]; omega)) rfl)) fun o eo => Gd.bind (P := fun o => o = ways f p x.1) (Gd.of (law_ways_ok _ lf) rfl) fun o2 eo2 => Gd.ok (by rw [eo, eo2])
      have gB2 : Gd (((mapR (fun y : (Int × Int) × Dy => R.ok y.1) x.2).bind fun ys => chk (ys.length ≤ sizeLine) ys).bind fun y => ((m_places_on p x.1).bind fun z => (fmR (fun y => m_whole_at (cells, false) p y) (fun y => R.ok y) z).bind fun ys => chk (ys.length ≤ sizeLine) ys).bind fun z => R.ok (!decide (y = z))) fun b => b = !decide (x.2.map Prod.fst = ways f p x.1) :=
        Gd.bind (P := fun o => o = x.2.map Prod.fst) (Gd.mapRB (g := fun y : (Int × Int) × Dy => y.1) (fun y _ => rfl) (Gd.chk (small_size (by rw [List.length_map]; omega)) rfl)) fun o eo => Gd.bind (P := fun o => o = ways f p x.1) (Gd.eqB (places_ok p x.1 (by omega)) (Gd.fmRB (p := Wh cells p) (g := fun m => m) (fun m _ => whole_ok cells p m (by omega)) (fun m _ => rfl) (Gd.chk (small_size (by rw [List.length_map]; omega)) (by rw [List.map_id', wh_eq hp hf])))) fun o2 eo2 => Gd.ok (by rw [eo, eo2])
      by_cases hW : x.2.map Prod.fst = ways f p x.1
      · obtain ⟨g, hg⟩ : ∃ g : (Int × Int) × Dy → Bool, ∀ y ∈ x.2, ∃ t' : TT, cv y.2 = some t' ∧ m_law_right n cells p f (t ++ [y.1]) (m - 1) t' = .ok (g y) ∧ m_tree_right n (cells, false) p (t ++ [y.1]) (m - 1) t' = .ok (g y) := by
          have ex : ∀ y ∈ x.2, ∃ v, ∃ t' : TT, cv y.2 = some t' ∧ m_law_right n cells p f (t ++ [y.1]) (m - 1) t' = .ok v ∧ m_tree_right n (cells, false) p (t ++ [y.1]) (m - 1) t' = .ok v := fun y hy => by
            obtain ⟨t', e, w⟩ := hw.2 y hy
            obtain ⟨v, h1, h2⟩ := rights_eq lf hp hf n d (t ++ [y.1]) (m - 1) t' (by omega) (by omega) (by rw [List.length_append, List.length_singleton]; omega) w
            exact ⟨v, t', by rw [e, cv_T], h1, h2⟩
          refine ⟨fun y => @dite Bool (∃ v, ∃ t' : TT, cv y.2 = some t' ∧ m_law_right n cells p f (t ++ [y.1]) (m - 1) t' = .ok v ∧ m_tree_right n (cells, false) p (t ++ [y.1]) (m - 1) t' = .ok v) (Classical.propDecidable _) (fun h => h.choose) fun _ => false, fun y hy => ?_⟩
          have h := ex y hy
          dsimp only
          rw [dif_pos h]
          exact h.choose_spec
        have es : ∀ y : (Int × Int) × Dy, chk (t.length + [y.1].length ≤ sizeLine) (t ++ [y.1]) = .ok (t ++ [y.1]) := fun y => if_pos (small_size (by simp; omega))
        refine ⟨x.2.all g, Gd.eq ?_, Gd.eq ?_⟩
        · unfold m_law_right
          dsimp only
          refine Gd.eqB hA1 (Gd.ite (fun h => by cases h) fun _ => Gd.ite (fun h => absurd (of_decide_eq_true h) hm) fun _ => gB1.bind fun b eb => ?_)
          rw [decide_eq_true hW] at eb
          subst eb
          refine Gd.ite (fun h => by cases h) fun _ => ?_
          refine Gd.eqB (forS_any (p := fun y => !g y) (a := false) (s := ()) fun y hy => ?_) ?_
          · obtain ⟨t', e1, e2, _⟩ := hg y hy
            have ev : ofOpt (cv y.2) = .ok t' := by rw [e1]; rfl
            rw [es]
            simp only [ok_bindP]
            rw [ev]
            simp only [ok_bindP]
            rw [e2]
            simp only [ok_bindP]
            cases g y <;> rfl
          · rw [any_all]
            cases x.2.all g <;> exact Gd.ok rfl
        · unfold m_tree_right
          dsimp only
          refine Gd.eqB hA2 (Gd.ite (fun h => by cases h) fun _ => Gd.ite (fun h => absurd (of_decide_eq_true h) hm) fun _ => gB2.bind fun b eb => ?_)
          rw [decide_eq_true hW] at eb
          subst eb
          refine Gd.ite (fun h => by cases h) fun _ => ?_
          refine Gd.bind (P := fun o => o = x.2.map g) (Gd.mapRB (g := g) (fun y hy => ?_) (Gd.chk (small_size (by rw [List.length_map]; omega)) rfl)) fun o eo => Gd.ok (by rw [eo, List.all_map]; rfl)
          obtain ⟨t', e1, _, e2⟩ := hg y hy
          have ev : ofOpt (cv y.2) = .ok t' := by rw [e1]; rfl
          rw [es]
          simp only [ok_bindP]
          rw [ev]
          simp only [ok_bindP]
          exact e2
      · refine ⟨false, Gd.eq ?_, Gd.eq ?_⟩
        · unfold m_law_right
          dsimp only
          refine Gd.eqB hA1 (Gd.ite (fun h => by cases h) fun _ => Gd.ite (fun h => absurd (of_decide_eq_true h) hm) fun _ => gB1.bind fun b eb => ?_)
          rw [decide_eq_false hW] at eb
          subst eb
          exact Gd.ite (fun _ => Gd.ok rfl) fun h => absurd rfl h
        · unfold m_tree_right
          dsimp only
          refine Gd.eqB hA2 (Gd.ite (fun h => by cases h) fun _ => Gd.ite (fun h => absurd (of_decide_eq_true h) hm) fun _ => gB2.bind fun b eb => ?_)
          rw [decide_eq_false hW] at eb
          subst eb
          exact Gd.ite (fun _ => Gd.ok rfl) fun h => absurd rfl h
theorem RT.wt {cells p f : List (Int × Int)} (lf : f.length ≤ 900) : ∀ {k : Nat} {t : List (Int × Int)} {x : TT}, RT cells p f k t (T x.1 x.2) → WT 900 (k + 1) x
  | 0, t, x, h => by
    obtain ⟨c, e, _⟩ := h
    obtain ⟨_, e2⟩ := T_inj e
    exact ⟨by rw [e2]; exact Nat.zero_le _, fun y hy => by rw [e2] at hy; exact absurd hy List.not_mem_nil⟩
  | k + 1, t, x, h => by
    obtain ⟨c, cs, e, _, _, hw, hr⟩ := h
    obtain ⟨_, e2⟩ := T_inj e
    have ll := congrArg List.length hw
    rw [List.length_map] at ll
    have lw2 : (ways f p c).length ≤ f.length := List.length_filter_le _ _
    refine ⟨by rw [e2]; omega, fun y hy => ?_⟩
    rw [e2] at hy
    have h2 := hr y hy
    obtain ⟨c3, cs3, e3, _, _⟩ := h2.cv
    rw [e3] at h2
    exact ⟨(c3, cs3), e3, RT.wt lf (x := (c3, cs3)) h2⟩
/-! ### the law's trees -/
theorem dv_len {n : Nat} (h0 : 0 < n) (h : n ≤ 1000) : CDv (n : Int) := dv_ok (by omega) 10 (by decide) (by rw [Int.natAbs_natCast]; omega)
theorem law_tree_ok {cells p f : List (Int × Int)} (ne : cells ≠ []) (lc : cells.length ≤ 73) (lf : f.length ≤ 73) : ∀ (n k : Nat) (pot : List Int) (t : List (Int × Int)), k < n → t.length + k ≤ 400 → pot.length = 1 → Gd (m_law_tree n pot cells p f t (k : Int)) fun r => WT 73 (k + 1) r.1 ∧ r.2.length = 1
  | 0, _, _, _, h, _, _ => absurd h (Nat.not_lt_zero _)
  | n + 1, k, pot, t, hk, ht, hpot => by
    obtain ⟨q0, rfl⟩ := List.length_eq_one_iff.mp hpot
    unfold m_law_tree
    have lo := List.length_filter_le (fun c => !onB t p c) cells
    refine Gd.bind (P := fun o : List (Int × Int) => o.length ≤ 73) (Gd.fmRB (p := fun c => !onB t p c) (g := fun c => c) (fun c _ => by rw [law_on_ok c (by omega)]; rfl) (fun c _ => rfl) (Gd.chk (small_size (by rw [List.length_map]; omega)) (by rw [List.map_id']; omega))) fun o lo2 => ?_
    refine Gd.bind (P := fun s : List (Int × Int) => 0 < s.length ∧ s.length ≤ 73) (Gd.ite (fun _ => Gd.ok ⟨List.length_pos_iff.mpr ne, lc⟩) fun h => Gd.ok ⟨List.length_pos_iff.mpr fun z => h (decide_eq_true z), lo2⟩) fun s hs => ?_
    refine Gd.bind (P := fun r : Int × Int => 0 ≤ r.2 ∧ r.2 < (s.length : Int)) (Gd.bind (P := fun y : Int × Int => y.2 = (s.length : Int)) (Gd.optB (a := q0) rfl (Gd.ok rfl)) fun y ey => ?_) fun r hr => ?_
    · rw [ey]
      exact Gd.chk (dv_len hs.1 (by omega)) ⟨Int.emod_nonneg _ (by omega), Int.emod_lt_of_pos _ (by omega)⟩
    refine Gd.chkB (by show 0 < 1; decide) ?_
    dsimp only
    obtain ⟨c, ec, hc⟩ := atN r.2 hr.1 hr.2
    refine Gd.bind (P := fun u : List Int × List ((Int × Int) × Dy) => u.1.length = 1 ∧ u.2.length ≤ 73 ∧ ∀ x ∈ u.2, ∃ t' : TT, x.2 = T t'.1 t'.2 ∧ WT 73 k t') (Gd.ite (fun hk0 => ?_) fun _ => Gd.ok ⟨rfl, Nat.zero_le _, fun x hx => absurd hx List.not_mem_nil⟩) fun u hu => ?_
    · obtain ⟨k', rfl⟩ : ∃ k', k = k' + 1 := ⟨k - 1, by have := of_decide_eq_true hk0; omega⟩
      refine Gd.bind (P := fun w : List (Int × Int) => w.length ≤ 73) (Gd.bind (P := fun y : List (Int × Int) × (List (Int × Int) × (Int × Int)) => y = (f, (p, c))) (Gd.bind (P := fun y : List (Int × Int) × (Int × Int) => y = (p, c)) (Gd.optB ec (Gd.ok rfl)) fun y e => Gd.ok (by rw [e])) fun y e => by rw [e]; exact Gd.of (law_ways_ok (f := f) (p := p) c (by omega)) (Nat.le_trans (List.length_filter_le ..) lf)) fun w hw => ?_
      refine Gd.bind (P := fun u : List Int × List ((Int × Int) × Dy) => u.1.length = 1 ∧ u.2.length = w.length ∧ ∀ x ∈ u.2, ∃ t' : TT, x.2 = T t'.1 t'.2 ∧ WT 73 (k' + 1) t') (Gd.forRl (I := fun (q : List (Int × Int)) (u : List Int × List ((Int × Int) × Dy)) => u.1.length = 1 ∧ u.2.length = q.length ∧ ∀ x ∈ u.2, ∃ t' : TT, x.2 = T t'.1 t'.2 ∧ WT 73 (k' + 1) t') (fun q m r u e hi => ?_) ⟨rfl, rfl, fun x hx => absurd hx List.not_mem_nil⟩) fun u hu => Gd.ok ⟨hu.1, by rw [hu.2.1]; exact hw, hu.2.2⟩
      have z := congrArg List.length e
      simp only [List.length_append, List.length_cons] at z
      refine Gd.bind (P := fun w : ((Int × Int) × Dy) × List Int => w.2.length = 1 ∧ ∃ t' : TT, w.1.2 = T t'.1 t'.2 ∧ WT 73 (k' + 1) t') ?_ fun w hw2 => ?_
      · refine Gd.chkB (small_size (by simp; omega)) ?_
        have ek : ((k' + 1 : Nat) : Int) - 1 = (k' : Int) := by omega
        rw [ek]
        obtain ⟨v, ev, hv⟩ := law_tree_ok ne lc lf n k' u.1 (t ++ [m]) (by omega) (by rw [List.length_append, List.length_singleton]; omega) hi.1
        rw [ev]
        exact Gd.ok ⟨hv.2, v.1, rfl, hv.1⟩
      · refine Gd.chkB (small_lt (by have := hi.2.1; omega)) (Gd.ok ⟨hw2.1, by rw [List.length_append, List.length_append, List.length_singleton, List.length_singleton]; exact congrArg (· + 1) hi.2.1, fun x hx => ?_⟩)
        rcases List.mem_append.mp hx with h | h
        · exact hi.2.2 x h
        · rw [List.mem_singleton.mp h]
          exact hw2.2
    · exact Gd.bind (P := fun y : (Int × Int) × List ((Int × Int) × Dy) => y = (c, u.2)) (Gd.optB ec (Gd.ok rfl)) fun y e => Gd.ok ⟨by rw [e]; exact ⟨hu.2.1, hu.2.2⟩, hu.1⟩
theorem mem_cut {α : Type} {xs : List α} {lo hi : Option Int} {x : α} (h : x ∈ cutL xs lo hi) : x ∈ xs := by
  unfold cutL at h
  exact List.mem_of_mem_drop (List.mem_of_mem_take h)
theorem spoilt_ok {cells : List (Int × Int)} (ne : cells ≠ []) (lc : cells.length ≤ 73) {B : Nat} (hB : B ≤ 400) : ∀ (n d : Nat) (pot : List Int) (x : TT), d ≤ n → d ≤ 14 → pot.length = 1 → WT B d x → Gd (m_law_spoilt n pot cells x) fun r => WT (2 * B + 2) (d + 1) r.1
  | _, 0, _, _, _, _, _, h => h.elim
  | 0, d + 1, _, _, hd, _, _, _ => absurd hd (by omega)
  | n + 1, d + 1, pot, x, hd, h14, hpot, hw => by
    obtain ⟨q0, rfl⟩ := List.length_eq_one_iff.mp hpot
    have lx := hw.1
    have up : ∀ y ∈ x.2, ∃ t' : TT, y.2 = T t'.1 t'.2 ∧ WT (2 * B + 2) (d + 1) t' := fun y hy => by
      obtain ⟨t', e, w⟩ := hw.2 y hy
      exact ⟨t', e, WT.mono (by omega) (by omega) w⟩
    have cl : ∀ lo hi, (cutL x.2 lo hi).length ≤ x.2.length := fun lo hi => cut_len
    have mk : ∀ (c : Int × Int) (ys : List ((Int × Int) × Dy)), ys.length ≤ 2 * B + 2 → (∀ y ∈ ys, ∃ t' : TT, y.2 = T t'.1 t'.2 ∧ WT (2 * B + 2) (d + 1) t') → WT (2 * B + 2) (d + 1 + 1) (c, ys) := fun c ys h1 h2 => ⟨h1, h2⟩
    have lpos : 0 < cells.length := List.length_pos_iff.mpr ne
    unfold m_law_spoilt
    dsimp only
    refine Gd.bind (P := fun _ => True) (Gd.optB (a := q0) rfl (Gd.ok trivial)) fun w _ => ?_
    refine Gd.chkB (by show 0 < 1; decide) ?_
    refine Gd.bind (P := fun r : Int × Int => 0 ≤ r.2 ∧ r.2 < if (x.2.length : Int) > 1 then (x.2.length : Int) else 1) (Gd.bind (P := fun y : Int × Int => y.2 = if (x.2.length : Int) > 1 then (x.2.length : Int) else 1) (Gd.optB (a := w.1) rfl (Gd.ok rfl)) fun y ey => ?_) fun at_ hat => ?_
    · have pos : 0 < y.2 := by rw [ey]; split <;> omega
      have le : y.2 ≤ 1000 := by rw [ey]; split <;> omega
      refine Gd.chk (dv_ok pos 10 (by decide) (by omega)) ⟨Int.emod_nonneg _ (by omega), ?_⟩
      rw [← ey]
      exact Int.emod_lt_of_pos _ pos
    refine Gd.chkB (by show 0 < 1; decide) ?_
    refine Gd.bind (P := fun r : Int × Int => 0 ≤ r.2 ∧ r.2 < (cells.length : Int)) (Gd.bind (P := fun y : Int × Int => y.2 = (cells.length : Int)) (Gd.optB (a := at_.1) rfl (Gd.ok rfl)) fun y ey => ?_) fun sp hsp => ?_
    · rw [ey]
      exact Gd.chk (dv_len lpos (by omega)) ⟨Int.emod_nonneg _ (by omega), Int.emod_lt_of_pos _ (by omega)⟩
    refine Gd.chkB (by show 0 < 1; decide) ?_
    obtain ⟨cs, ecs, hcs⟩ := atN sp.2 hsp.1 hsp.2
    have atx : x.2 ≠ [] → ∃ y, atI x.2 at_.2 = some y ∧ y ∈ x.2 := fun h => by
      have : 0 < x.2.length := List.length_pos_iff.mpr h
      have h2 := hat.2
      refine atN at_.2 hat.1 ?_
      split at h2 <;> omega
    have nq := nilnq (by omega) (by omega) hw
    have one : ∀ (ys : List ((Int × Int) × Dy)) (lo hi : Option Int), ys.length ≤ 1 → (∀ y ∈ ys, ∃ t' : TT, y.2 = T t'.1 t'.2 ∧ WT (2 * B + 2) (d + 1) t') → ∀ lo2 hi2, (cutL x.2 lo hi ++ ys ++ cutL x.2 lo2 hi2).length ≤ 2 * B + 2 ∧ ∀ y ∈ cutL x.2 lo hi ++ ys ++ cutL x.2 lo2 hi2, ∃ t' : TT, y.2 = T t'.1 t'.2 ∧ WT (2 * B + 2) (d + 1) t' := fun ys lo hi h1 h2 lo2 hi2 => by
      have a := cl lo hi
      have b := cl lo2 hi2
      refine ⟨by rw [List.length_append, List.length_append]; omega, fun y hy => ?_⟩
      rcases List.mem_append.mp hy with hy | hy
      · rcases List.mem_append.mp hy with hy | hy
        · exact up y (mem_cut hy)
        · exact h2 y hy
      · exact up y (mem_cut hy)
    refine Gd.bind (P := fun b => b = true → x.2 ≠ []) (Gd.ite (fun _ => Gd.of nq (by simp)) fun _ => Gd.ok (by simp)) fun b hb => ?_
    refine Gd.ite (fun h => ?_) fun _ => ?_
    · obtain ⟨y, ey, hy⟩ := atx (hb h)
      obtain ⟨t', et, wt⟩ := hw.2 y hy
      refine Gd.optB ey ?_
      refine Gd.optB (a := t') (show cv y.2 = some t' by rw [et, cv_T]) ?_
      obtain ⟨z, ez, hz⟩ := spoilt_ok ne lc hB n d ((([q0].set 0 w.1).set 0 at_.1).set 0 sp.1) t' (by omega) (by omega) rfl wt
      rw [ez]
      have o := one [(y.1, T z.1.1 z.1.2)] none (some at_.2) (by simp) (fun q hq => by rw [List.mem_singleton.mp hq]; exact ⟨z.1, rfl, hz⟩) (some (at_.2 + 1)) none
      have c1 := cl none (some at_.2)
      have c2 := cl (some (at_.2 + 1)) none
      refine Gd.chkB (small_size (by simp only [List.length_singleton]; omega)) ?_
      refine Gd.chkB (small_size (by rw [List.length_append, List.length_singleton]; omega)) ?_
      exact Gd.ok (mk _ _ o.1 o.2)
    refine Gd.ite (fun _ => ?_) fun _ => ?_
    · have o := one [] none (some at_.2) (by simp) (fun q hq => absurd hq List.not_mem_nil) (some (at_.2 + 1)) none
      rw [List.append_nil] at o
      have c1 := cl none (some at_.2)
      have c2 := cl (some (at_.2 + 1)) none
      exact Gd.bind (P := fun r : TT => WT (2 * B + 2) (d + 1 + 1) r) (Gd.chkB (small_size (by omega)) (Gd.ok (mk _ _ o.1 o.2))) fun r hr => Gd.ok hr
    refine Gd.bind (P := fun b => b = true → x.2 ≠ []) (Gd.ite (fun _ => Gd.of nq (by simp)) fun _ => Gd.ok (by simp)) fun b hb => ?_
    refine Gd.ite (fun h => ?_) fun _ => ?_
    · obtain ⟨y, ey, hy⟩ := atx (hb h)
      have o := one [y] none (some at_.2) (by simp) (fun q hq => by rw [List.mem_singleton.mp hq]; exact up y hy) (some at_.2) none
      have c1 := cl none (some at_.2)
      have c2 := cl (some at_.2) none
      refine Gd.bind (P := fun r : TT => WT (2 * B + 2) (d + 1 + 1) r) (Gd.bind (P := fun r => r = cutL x.2 none (some at_.2) ++ [y] ++ cutL x.2 (some at_.2) none) (Gd.bind (P := fun r => r = cutL x.2 none (some at_.2) ++ [y]) (Gd.bind (P := fun r => r = [y]) (Gd.optB ey (Gd.ok rfl)) fun r e => by rw [e]; exact Gd.chk (small_size (by simp only [List.length_singleton]; omega)) rfl) fun r e => by rw [e]; exact Gd.chk (small_size (by rw [List.length_append, List.length_singleton]; omega)) rfl) fun r e => Gd.ok (by rw [e]; exact mk _ _ o.1 o.2)) fun r hr => Gd.ok hr
    refine Gd.bind (P := fun b => b = true → x.2 ≠ []) (Gd.ite (fun _ => Gd.of nq (by simp)) fun _ => Gd.ok (by simp)) fun b hb => ?_
    refine Gd.ite (fun h => ?_) fun _ => ?_
    · obtain ⟨y, ey, hy⟩ := atx (hb h)
      have o := one [((y.1.1, y.1.2 + 1), y.2)] none (some at_.2) (by simp) (fun q hq => by rw [List.mem_singleton.mp hq]; exact up y hy) (some (at_.2 + 1)) none
      have c1 := cl none (some at_.2)
      have c2 := cl (some (at_.2 + 1)) none
      refine Gd.optB ey ?_
      exact Gd.bind (P := fun r : TT => WT (2 * B + 2) (d + 1 + 1) r) (Gd.bind (P := fun r => r = cutL x.2 none (some at_.2) ++ [((y.1.1, y.1.2 + 1), y.2)] ++ cutL x.2 (some (at_.2 + 1)) none) (Gd.chkB (small_size (by simp only [List.length_singleton]; omega)) (Gd.chk (small_size (by rw [List.length_append, List.length_singleton]; omega)) rfl)) fun r e => Gd.ok (by rw [e]; exact mk _ _ o.1 o.2)) fun r hr => Gd.ok hr
    refine Gd.ite (fun _ => ?_) fun _ => ?_
    · exact Gd.bind (P := fun r : TT => WT (2 * B + 2) (d + 1 + 1) r) (Gd.optB ecs (Gd.ok (mk _ _ (by omega) up))) fun r hr => Gd.ok hr
    refine Gd.ite (fun _ => Gd.ok (mk _ _ (by omega) up)) fun _ => ?_
    refine Gd.ite (fun _ => ?_) fun _ => ?_
    · have o := one [] (some 1) none (by simp) (fun q hq => absurd hq List.not_mem_nil) none (some 1)
      rw [List.append_nil] at o
      have c1 := cl (some 1) none
      have c2 := cl none (some 1)
      exact Gd.bind (P := fun r : TT => WT (2 * B + 2) (d + 1 + 1) r) (Gd.chkB (small_size (by omega)) (Gd.ok (mk _ _ o.1 o.2))) fun r hr => Gd.ok hr
    · refine Gd.bind (P := fun r : TT => WT (2 * B + 2) (d + 1 + 1) r) (Gd.bind (P := fun r => r = x.2 ++ [(x.1, T cs [])]) (Gd.bind (P := fun r => r = [(x.1, T cs [])]) (Gd.bind (P := fun r => r = (x.1, T cs [])) (Gd.bind (P := fun r => r = T cs []) (Gd.bind (P := fun r => r = (cs, ([] : List Int))) (Gd.optB ecs (Gd.ok rfl)) fun r e => Gd.ok (by rw [e]; rfl)) fun r e => Gd.ok (by rw [e])) fun r e => Gd.ok (by rw [e])) fun r e => by rw [e]; exact Gd.chk (small_size (by simp only [List.length_singleton]; omega)) rfl) fun r e => Gd.ok (by
        rw [e]
        refine mk _ _ (by rw [List.length_append, List.length_singleton]; omega) fun y hy => ?_
        rcases List.mem_append.mp hy with hy | hy
        · exact up y hy
        · rw [List.mem_singleton.mp hy]
          exact ⟨(cs, []), rfl, Nat.zero_le _, fun z hz => absurd hz List.not_mem_nil⟩)) fun r hr => Gd.ok hr
theorem endless_ok (cells p : List (Int × Int)) (m : Int) (x : TT) : m_law_endless (cells, true) p m x = .ok true := by
  unfold m_law_endless
  have e : m_fewer_right (cells, true) p m x = .er ⟨"Endless", none⟩ := by
    unfold m_fewer_right
    rfl
  rw [e]
  rfl
theorem fright {cells p : List (Int × Int)} {m : Int} {x : TT} {v : Bool} (h : m_tree_right 15 (cells, false) p [] m x = .ok v) : m_fewer_right (cells, false) p m x = .ok v := by
  unfold m_fewer_right
  have e0 : m_look_finite (cells, false) = .ok () := rfl
  rw [e0]
  simp only [ok_bindP]
  exact h
/-! ### the law -/
open Classical in
theorem law_ok (ns : List Int) (hl : ns.length ≤ 63) (_ : ∀ z ∈ ns, Builtin.Int.intBits z ≤ 1048576) : m_law ns = .ok true := by
  refine Gd.eq ?_
  unfold m_law
  refine Gd.bind (P := fun r => Pce r.1) (Gd.bind (P := fun _ => True) (Gd.bind (P := fun _ => True) ((cell_ok ns (by decide)).bind fun _ _ => Gd.ok trivial) fun _ _ => deal2_ok _ _) fun _ _ => piece2_ok _) fun p hp => ?_
  have lp := hp.len
  refine Gd.bind (P := fun _ => True) (Gd.bind (P := fun r => r.length = 1) ((cell_ok ns (by decide)).bind fun _ _ => Gd.ok rfl) fun r hr => ?_) fun xs _ => ?_
  · have cl := cut_len (xs := ns) (lo := some 2) (hi := some 10)
    exact Gd.chk (small_size (by omega)) trivial
  refine Gd.forSB (I := fun _ => True) (fun s x hx _ => ?_) trivial fun s _ => Gd.ok rfl
  refine Gd.bind (P := fun r => Up r.1 ∧ r.1.length ≤ 73) (Gd.bind (P := fun r => r.2.1 = p.1 ∧ r.2.2 = 4) ((deal2_ok _ _).bind fun _ _ => Gd.ok ⟨rfl, rfl⟩) fun r hr => by rw [hr.1, hr.2]; exact marked_ok _ lp) fun cs hcs => ?_
  obtain ⟨uc, lc⟩ := hcs
  obtain ⟨f, hf, em⟩ := marks_ok uc lc hp
  have lf := hf.2.2
  have sf : sortC f = f := by rw [sortC_rise (nd_up hf.1)]; exact rise_up hf.1
  have eg := greatest2 hp hf em
  refine Gd.bind (P := fun r => r = f) (Gd.eqB (greatest_ok uc lc hp hf) (Gd.ok sf)) fun fd efd => ?_
  subst efd
  have pr : fd.length * p.1.length ≤ 73 * 12 := Nat.mul_le_mul (by omega) lp
  obtain ⟨bq, eb, ub, mb, _⟩ := brought_ok (f := fd) (p := p.1) (by omega)
  refine Gd.bind (P := fun b => b = true → (∀ c ∈ cs.1, On fd p.1 c) ∧ fd.length ≤ 12) (Gd.bind (P := fun b => b = true → ∀ c ∈ cs.1, On fd p.1 c) (Gd.bind (P := fun r => r = bq) (Gd.eqB eb (Gd.ok rfl)) fun r hr => Gd.ok fun h c hc => (mb c).mp (by have := of_decide_eq_true h; rw [← hr, this]; exact hc)) fun b hb => Gd.ok fun h => by
    obtain ⟨h1, h2⟩ := Bool.and_eq_true_iff.mp h
    have := of_decide_eq_true h2
    exact ⟨hb h1, by omega⟩) fun b hb => ?_
  refine Gd.bind (P := fun s : Sum (Stp Unit Bool) Unit => s = Sum.inr ()) (Gd.ite (fun h => ?_) fun _ => Gd.ok rfl) fun s es => ?_
  · obtain ⟨hon, l12⟩ := hb h
    have eo : m_greatest (cs.1, false) p.1 = .ok fd := by
      rw [eg, if_neg]
      cases hx : cs.1.find? fun c => !decide (On fd p.1 c) with
      | none => decide
      | some c =>
        have a := List.find?_some hx
        have b := List.mem_of_find?_eq_some hx
        have := hon c b
        simp [this] at a
    obtain ⟨r, er, best, j, hF⟩ := few_ok lc hp hf hon eo l12
    have e1 : m_fewer_paper (cs.1, false) p.1 = .ok r.2 := by
      unfold m_fewer_paper
      rw [er]
      rfl
    have e2 : m_fewest (cs.1, false) p.1 = .ok r.1 := by
      unfold m_fewest
      rw [er]
      rfl
    have lb : r.1.length = j := by rw [hF.few]; exact (perm_srt _).length_eq.trans hF.len
    have jf : j ≤ fd.length := Nat.le_of_not_lt fun hl => hF.no fd.length hl ⟨fd, Nat.le_refl _, fun m h => h, fun c hc => On.mono (fun m hm => hF.sub m hm) (hF.cov c hc)⟩
    refine Gd.eqB e1 ?_
    refine Gd.bind (P := fun n => n = (j : Int)) (Gd.eqB e2 (Gd.ok (by rw [lb]))) fun n en => ?_
    subst en
    rcases hF.tree with ⟨j0, rn⟩ | ⟨i, ji, hrt⟩
    · subst j0
      rw [rn]
      refine Gd.ite (fun h => by simp [Dy.isN] at h) fun _ => ?_
      refine Gd.bind (P := fun b => b = false) (Gd.ite (fun h => absurd (of_decide_eq_true h) (by decide)) fun _ => Gd.ok rfl) fun b e => ?_
      subst e
      refine Gd.ite (fun h => by cases h) fun _ => ?_
      refine Gd.bind (P := fun b => b = false) (Gd.ite (fun h => absurd (of_decide_eq_true h) (by decide)) fun _ => Gd.ok rfl) fun b e => ?_
      subst e
      exact Gd.ite (fun h => by cases h) fun _ => Gd.ok rfl
    · obtain ⟨c, cs2, et, hc, ho⟩ := hrt.cv
      have hrt2 := hrt
      rw [et] at hrt2
      have w := RT.wt (x := (c, cs2)) (by omega) hrt2
      obtain ⟨v, v1, v2⟩ := rights_eq (by omega) hp hf 15 (i + 1) [] (i : Int) (c, cs2) (by omega) (by omega) (by simp; omega) (WT.mono (Nat.le_refl _) (Nat.le_refl _) w)
      have tt := tree_true (by omega) hp hf 15 i [] c cs2 (by omega) (by simp; omega) hrt2
      rw [tt] at v2
      injection v2 with v2
      subst v2
      have ek : (j : Int) - 1 = (i : Int) := by omega
      have ev : ofOpt (cv r.2) = .ok (c, cs2) := by rw [et, cv_T]; rfl
      refine Gd.ite (fun h => by
        rw [et] at h
        have : ¬ (j = 0) := by omega
        simp [T, Dy.isN, this] at h) fun _ => ?_
      refine Gd.bind (P := fun b => b = false) (Gd.ite (fun _ => Gd.eqB (a := true) ?_ (Gd.ok rfl)) fun _ => Gd.ok rfl) fun b e => ?_
      · rw [ev]
        simp only [ok_bindP]
        rw [ek]
        exact v1
      subst e
      refine Gd.ite (fun h => by cases h) fun _ => ?_
      refine Gd.bind (P := fun b => b = false) (Gd.ite (fun _ => Gd.eqB (a := true) ?_ (Gd.ok rfl)) fun _ => Gd.ok rfl) fun b e => ?_
      · rw [ev]
        simp only [ok_bindP]
        rw [ek]
        exact fright tt
      subst e
      exact Gd.ite (fun h => by cases h) fun _ => Gd.ok rfl
  subst es
  refine Gd.ite (fun hne => ?_) fun _ => Gd.nx trivial
  have ne : cs.1 ≠ [] := fun z => by rw [z] at hne; simp at hne
  dsimp only
  refine Gd.bind (P := fun r : Int × Int => 0 ≤ r.2 ∧ r.2 < 4) (Gd.optB (a := cs.2) rfl (Gd.ok ⟨Int.emod_nonneg _ (by decide), Int.emod_lt_of_pos _ (by decide)⟩)) fun r hr => ?_
  refine Gd.chkB (by show 0 < 1; decide) ?_
  obtain ⟨k, hk, ek⟩ : ∃ k : Nat, k ≤ 3 ∧ (if ((2 : Int) + (if (decide (((p.1).length : Int) < (4 : Int))) = true then (1 : Int) else 0)) < r.2 then ((2 : Int) + (if (decide (((p.1).length : Int) < (4 : Int))) = true then (1 : Int) else 0)) else r.2) = (k : Int) := by
    refine ⟨(if ((2 : Int) + (if (decide (((p.1).length : Int) < (4 : Int))) = true then (1 : Int) else 0)) < r.2 then ((2 : Int) + (if (decide (((p.1).length : Int) < (4 : Int))) = true then (1 : Int) else 0)) else r.2).toNat, ?_, ?_⟩ <;> (repeat' split) <;> omega
  rw [ek]
  obtain ⟨tr, etr, wtr, ltr⟩ := law_tree_ok ne lc (by omega) 6 k ([cs.2].set 0 r.1) [] (by omega) (by simp; omega) rfl (p := p.1) (f := fd)
  rw [etr]
  refine Gd.eqB (a := tr) rfl ?_
  obtain ⟨q1, eq1⟩ := List.length_eq_one_iff.mp ltr
  rw [eq1]
  refine Gd.bind (P := fun _ => True) (Gd.optB (a := q1) rfl (Gd.ok trivial)) fun u _ => ?_
  refine Gd.chkB (by show 0 < 1; decide) ?_
  refine Gd.bind (P := fun s : TT => WT 900 6 s) (Gd.ite (fun _ => ?_) fun _ => Gd.ok (WT.mono (by decide) (by omega) wtr)) fun s hs => ?_
  · obtain ⟨z, ez, hz⟩ := spoilt_ok ne lc (B := 73) (by decide) 6 (k + 1) ([q1].set 0 u.1) tr.1 (by omega) (by omega) rfl wtr
    rw [ez]
    exact Gd.ok (WT.mono (by decide) (by omega) hz)
  refine Gd.bind (P := fun b => b = false) (Gd.ite (fun _ => Gd.eqB (endless_ok _ _ _ _) (Gd.ok rfl)) fun _ => Gd.ok rfl) fun b e => ?_
  subst e
  refine Gd.ite (fun h => by cases h) fun _ => ?_
  obtain ⟨v, v1, v2⟩ := rights_eq (by omega) hp hf 15 6 [] r.2 s (by decide) (by decide) (by simp) hs
  refine Gd.eqB (fright v2) ?_
  refine Gd.bind (P := fun b => b = false) (Gd.ite (fun h => by simp at h) fun _ => Gd.eqB v1 (Gd.ok (by simp))) fun b e => ?_
  subst e
  exact Gd.ite (fun h => by cases h) fun _ => Gd.nx trivial
end G

namespace G
open PySem PySem.Spec PyProof.Rows L2 Py
def dd_law_cell : He.DefD := ⟨("_law_cell", none), "_law_cell", "_law_cell", defArgs s_law_cell, defBody s_law_cell, defScope s_law_cell, [], []⟩
def dd_law_deal : He.DefD := ⟨("_law_deal", none), "_law_deal", "_law_deal", defArgs s_law_deal, defBody s_law_deal, defScope s_law_deal, [], []⟩
def dd_law_piece : He.DefD := ⟨("_law_piece", none), "_law_piece", "_law_piece", defArgs s_law_piece, defBody s_law_piece, defScope s_law_piece, [], []⟩
def dd_law_base : He.DefD := ⟨("_law_base", none), "_law_base", "_law_base", defArgs s_law_base, defBody s_law_base, defScope s_law_base, [], []⟩
def dd_law_kept : He.DefD := ⟨("_law_kept", none), "_law_kept", "_law_kept", defArgs s_law_kept, defBody s_law_kept, defScope s_law_kept, [], []⟩
def dd_law_marked : He.DefD := ⟨("_law_marked", none), "_law_marked", "_law_marked", defArgs s_law_marked, defBody s_law_marked, defScope s_law_marked, [], []⟩
def dd_law_less : He.DefD := ⟨("_law_less", none), "_law_less", "_law_less", defArgs s_law_less, defBody s_law_less, defScope s_law_less, [], []⟩
def dd_law_led : He.DefD := ⟨("_law_led", none), "_law_led", "_law_led", defArgs s_law_led, defBody s_law_led, defScope s_law_led, [], []⟩
def dd_law_greatest : He.DefD := ⟨("_law_greatest", none), "_law_greatest", "_law_greatest", defArgs s_law_greatest, defBody s_law_greatest, defScope s_law_greatest, [], []⟩
def dd_law_brought : He.DefD := ⟨("_law_brought", none), "_law_brought", "_law_brought", defArgs s_law_brought, defBody s_law_brought, defScope s_law_brought, [], []⟩
def ddlook_finite : He.DefD := ⟨("look_finite", none), "look_finite", "look_finite", defArgs slook_finite, defBody slook_finite, defScope slook_finite, [], []⟩
def ddrising : He.DefD := ⟨("rising", none), "rising", "rising", defArgs srising, defBody srising, defScope srising, [], []⟩
def ddmirrored : He.DefD := ⟨("mirrored", none), "mirrored", "mirrored", defArgs smirrored, defBody smirrored, defScope smirrored, [], []⟩
def ddmoved_cell : He.DefD := ⟨("moved_cell", none), "moved_cell", "moved_cell", defArgs smoved_cell, defBody smoved_cell, defScope smoved_cell, [], []⟩
def ddlies_on : He.DefD := ⟨("lies_on", none), "lies_on", "lies_on", defArgs slies_on, defBody slies_on, defScope slies_on, [], []⟩
def ddreached : He.DefD := ⟨("reached", none), "reached", "reached", defArgs sreached, defBody sreached, defScope sreached, [], []⟩
def ddless_cell : He.DefD := ⟨("less_cell", none), "less_cell", "less_cell", defArgs sless_cell, defBody sless_cell, defScope sless_cell, [], []⟩
def ddkept_at : He.DefD := ⟨("kept_at", none), "kept_at", "kept_at", defArgs skept_at, defBody skept_at, defScope skept_at, [], []⟩
def ddeaten : He.DefD := ⟨("eaten", none), "eaten", "eaten", defArgs seaten, defBody seaten, defScope seaten, [], []⟩
def ddbringing : He.DefD := ⟨("bringing", none), "bringing", "bringing", defArgs sbringing, defBody sbringing, defScope sbringing, [], []⟩
def ddmarks : He.DefD := ⟨("marks", none), "marks", "marks", defArgs smarks, defBody smarks, defScope smarks, [], []⟩
def ddgreatest : He.DefD := ⟨("greatest", none), "greatest", "greatest", defArgs sgreatest, defBody sgreatest, defScope sgreatest, [], []⟩
def ddis_brought : He.DefD := ⟨("is_brought", none), "is_brought", "is_brought", defArgs sis_brought, defBody sis_brought, defScope sis_brought, [], []⟩
def ddtried : He.DefD := ⟨("tried", none), "tried", "tried", defArgs stried, defBody stried, defScope stried, [], []⟩
def ddfewest_and_tree : He.DefD := ⟨("fewest_and_tree", none), "fewest_and_tree", "fewest_and_tree", defArgs sfewest_and_tree, defBody sfewest_and_tree, defScope sfewest_and_tree, [], []⟩
def ddfewer_paper : He.DefD := ⟨("fewer_paper", none), "fewer_paper", "fewer_paper", defArgs sfewer_paper, defBody sfewer_paper, defScope sfewer_paper, [], []⟩
def ddfewest : He.DefD := ⟨("fewest", none), "fewest", "fewest", defArgs sfewest, defBody sfewest, defScope sfewest, [], []⟩
def dd_law_on : He.DefD := ⟨("_law_on", none), "_law_on", "_law_on", defArgs s_law_on, defBody s_law_on, defScope s_law_on, [], []⟩
def dd_law_ways : He.DefD := ⟨("_law_ways", none), "_law_ways", "_law_ways", defArgs s_law_ways, defBody s_law_ways, defScope s_law_ways, [], []⟩
def dd_law_right : He.DefD := ⟨("_law_right", none), "_law_right", "_law_right", defArgs s_law_right, defBody s_law_right, defScope s_law_right, [], []⟩
def ddhas : He.DefD := ⟨("has", none), "has", "has", defArgs shas, defBody shas, defScope shas, [], []⟩
def ddplaces_on : He.DefD := ⟨("places_on", none), "places_on", "places_on", defArgs splaces_on, defBody splaces_on, defScope splaces_on, [], []⟩
def ddwhole_at : He.DefD := ⟨("whole_at", none), "whole_at", "whole_at", defArgs swhole_at, defBody swhole_at, defScope swhole_at, [], []⟩
def ddtree_right : He.DefD := ⟨("tree_right", none), "tree_right", "tree_right", defArgs stree_right, defBody stree_right, defScope stree_right, [], []⟩
def ddfewer_right : He.DefD := ⟨("fewer_right", none), "fewer_right", "fewer_right", defArgs sfewer_right, defBody sfewer_right, defScope sfewer_right, [], []⟩
def dd_law_tree : He.DefD := ⟨("_law_tree", none), "_law_tree", "_law_tree", defArgs s_law_tree, defBody s_law_tree, defScope s_law_tree, [], []⟩
def dd_law_spoilt : He.DefD := ⟨("_law_spoilt", none), "_law_spoilt", "_law_spoilt", defArgs s_law_spoilt, defBody s_law_spoilt, defScope s_law_spoilt, [], []⟩
def dd_law_endless : He.DefD := ⟨("_law_endless", none), "_law_endless", "_law_endless", defArgs s_law_endless, defBody s_law_endless, defScope s_law_endless, [], []⟩
def ddlaw : He.DefD := ⟨("law", none), "law", "law", defArgs slaw, defBody slaw, defScope slaw, [], []⟩
def fnl0 : List He.DefD := [dd_law_cell, dd_law_deal, dd_law_piece, dd_law_base, dd_law_kept, dd_law_marked, dd_law_less, dd_law_led, dd_law_greatest, dd_law_brought, ddlook_finite, ddrising, ddmirrored, ddmoved_cell, ddlies_on, ddreached]
def fnl1 : List He.DefD := [ddless_cell, ddkept_at, ddeaten, ddbringing, ddmarks, ddgreatest, ddis_brought, ddtried, ddfewest_and_tree, ddfewer_paper, ddfewest, dd_law_on, dd_law_ways, dd_law_right, ddhas, ddplaces_on]
def fnl2 : List He.DefD := [ddwhole_at, ddtree_right, ddfewer_right, dd_law_tree, dd_law_spoilt, dd_law_endless, ddlaw]
def fnl : List He.DefD := fnl0 ++ fnl1 ++ fnl2
def fal0 : List He.Fa := [.glo "BadCell", .glo "BadDeed", .glo "BadPiece", .glo "BadTurn", .glo "Endless", .glo "MossError", .glo "NoCell", .glo "NoMarks", .glo "NoText", .glo "TooMany", .glo "TooWide", .glo "_law_cell", .glo "_law_deal", .glo "_law_piece", .glo "_law_base", .glo "_law_kept"]
def fal1 : List He.Fa := [.glo "_law_marked", .glo "_law_less", .glo "_law_led", .glo "_law_greatest", .glo "_law_brought", .glo "look_finite", .glo "rising", .glo "mirrored", .glo "moved_cell", .glo "lies_on", .glo "reached", .glo "less_cell", .glo "kept_at", .glo "eaten", .glo "bringing", .glo "marks"]
def fal2 : List He.Fa := [.glo "greatest", .glo "is_brought", .glo "tried", .glo "fewest_and_tree", .glo "fewer_paper", .glo "fewest", .glo "_law_on", .glo "_law_ways", .glo "_law_right", .glo "has", .glo "places_on", .glo "whole_at", .glo "tree_right", .glo "fewer_right", .glo "_law_tree", .glo "_law_spoilt"]
def fal3 : List He.Fa := [.glo "_law_endless", .glo "law", .free "ValueError", .free "all", .free "any", .free "bool", .free "divmod", .free "int", .free "isinstance", .free "len", .free "list", .free "max", .free "min", .free "range", .free "set", .free "sorted"]
def fal4 : List He.Fa := [.free "tuple", .int "MOST_MARKS" 12]
def fal : List He.Fa := fal0 ++ fal1 ++ fal2 ++ fal3 ++ fal4
def exl0 (K : PySem.W.Frag) : Bool := decide (PySem.W.subIn K (.ref (He.ga K "Endless")) (.type "BaseException") = some true) &&
  (decide (PySem.W.hasDictIn K (He.ga K "Endless") = true) &&
  (decide (PySem.W.typeIn K (.ref (He.ga K "Endless")) = some (.type "type")) &&
  (decide (PySem.W.subIn K (.ref (He.ga K "MossError")) (.type "BaseException") = some true) &&
  (decide (PySem.W.hasDictIn K (He.ga K "MossError") = true) &&
  (decide (PySem.W.typeIn K (.ref (He.ga K "MossError")) = some (.type "type")) &&
  (decide (PySem.W.subIn K (.ref (He.ga K "NoMarks")) (.type "BaseException") = some true) &&
  (decide (PySem.W.hasDictIn K (He.ga K "NoMarks") = true) &&
  (decide (PySem.W.typeIn K (.ref (He.ga K "NoMarks")) = some (.type "type")) &&
  (decide (PySem.W.subIn K (.ref (He.ga K "TooMany")) (.type "BaseException") = some true) &&
  (decide (PySem.W.hasDictIn K (He.ga K "TooMany") = true) &&
  (decide (PySem.W.typeIn K (.ref (He.ga K "TooMany")) = some (.type "type")) &&
  (decide (PySem.W.keepIn K (.ref (He.ga K "Endless")) = true) &&
  (decide (PySem.W.excIn K (He.ga K "Endless") [.type "ValueError", .type "Exception", .type "BaseException", .type "object"] "ValueError.__new__" = true) &&
  (decide (PySem.W.findIn K (.ref (He.ga K "Endless")) "__getattribute__" = some (some (.builtin "BaseException.__getattribute__"))) &&
  (decide (PySem.W.findIn K (.ref (He.ga K "Endless")) "__getattr__" = some none) &&
  (true))))))))))))))))
def exl1 (K : PySem.W.Frag) : Bool := decide (PySem.W.findIn K (.ref (He.ga K "Endless")) "__class__" = some (some (.builtin "object.__class__"))) &&
  (decide (PySem.W.mroIn K (He.ga K "Endless") (.type "object") = some true) &&
  (decide (PySem.W.keepIn K (.ref (He.ga K "NoMarks")) = true) &&
  (decide (PySem.W.excIn K (He.ga K "NoMarks") [.type "ValueError", .type "Exception", .type "BaseException", .type "object"] "ValueError.__new__" = true) &&
  (decide (PySem.W.findIn K (.ref (He.ga K "NoMarks")) "__getattribute__" = some (some (.builtin "BaseException.__getattribute__"))) &&
  (decide (PySem.W.findIn K (.ref (He.ga K "NoMarks")) "__getattr__" = some none) &&
  (decide (PySem.W.findIn K (.ref (He.ga K "NoMarks")) "__class__" = some (some (.builtin "object.__class__"))) &&
  (decide (PySem.W.mroIn K (He.ga K "NoMarks") (.type "object") = some true) &&
  (decide (PySem.W.keepIn K (.ref (He.ga K "TooMany")) = true) &&
  (decide (PySem.W.excIn K (He.ga K "TooMany") [.type "ValueError", .type "Exception", .type "BaseException", .type "object"] "ValueError.__new__" = true) &&
  (decide (PySem.W.findIn K (.ref (He.ga K "TooMany")) "__getattribute__" = some (some (.builtin "BaseException.__getattribute__"))) &&
  (decide (PySem.W.findIn K (.ref (He.ga K "TooMany")) "__getattr__" = some none) &&
  (decide (PySem.W.findIn K (.ref (He.ga K "TooMany")) "__class__" = some (some (.builtin "object.__class__"))) &&
  (decide (PySem.W.mroIn K (He.ga K "TooMany") (.type "object") = some true) &&
  (decide (PySem.W.specialIn K (.builtin "object.__class__") "__get__" = some (some (.builtin "getset_descriptor.__get__"))) &&
  (decide (PySem.W.takesIn K (.builtin "object.__class__") = some true) &&
  (true))))))))))))))))
def exl2 (K : PySem.W.Frag) : Bool := decide (PySem.W.subIn K (.ref (He.ga K "Endless")) (.ref (He.ga K "MossError")) = some true) &&
  (decide (PySem.W.subIn K (.ref (He.ga K "NoMarks")) (.ref (He.ga K "MossError")) = some true) &&
  (decide (PySem.W.subIn K (.ref (He.ga K "TooMany")) (.ref (He.ga K "MossError")) = some true) &&
  (decide (PySem.W.kitOne K (.ref (He.ga K "Endless")) (.ref (He.ga K "Endless")) = some true) &&
  (decide (PySem.W.kitOne K (.ref (He.ga K "Endless")) (.type "ValueError") = some true) &&
  (decide (PySem.W.kitOne K (.ref (He.ga K "NoMarks")) (.ref (He.ga K "Endless")) = some false) &&
  (decide (PySem.W.kitOne K (.ref (He.ga K "NoMarks")) (.type "ValueError") = some true) &&
  (decide (PySem.W.kitOne K (.ref (He.ga K "TooMany")) (.ref (He.ga K "Endless")) = some false) &&
  (decide (PySem.W.kitOne K (.ref (He.ga K "TooMany")) (.type "ValueError") = some true) &&
  (decide (PySem.W.kitAny K (.ref (He.ga K "Endless")) [.ref (He.ga K "BadCell"), .ref (He.ga K "BadDeed"), .ref (He.ga K "BadPiece"), .ref (He.ga K "BadTurn"), .ref (He.ga K "NoCell"), .ref (He.ga K "NoMarks"), .ref (He.ga K "NoText"), .ref (He.ga K "TooMany"), .ref (He.ga K "TooWide")] = some false) &&
  (decide (PySem.W.kitAny K (.ref (He.ga K "NoMarks")) [.ref (He.ga K "BadCell"), .ref (He.ga K "BadDeed"), .ref (He.ga K "BadPiece"), .ref (He.ga K "BadTurn"), .ref (He.ga K "NoCell"), .ref (He.ga K "NoMarks"), .ref (He.ga K "NoText"), .ref (He.ga K "TooMany"), .ref (He.ga K "TooWide")] = some true) &&
  (decide (PySem.W.kitAny K (.ref (He.ga K "TooMany")) [.ref (He.ga K "BadCell"), .ref (He.ga K "BadDeed"), .ref (He.ga K "BadPiece"), .ref (He.ga K "BadTurn"), .ref (He.ga K "NoCell"), .ref (He.ga K "NoMarks"), .ref (He.ga K "NoText"), .ref (He.ga K "TooMany"), .ref (He.ga K "TooWide")] = some true) &&
  (true))))))))))))
def exl (K : PySem.W.Frag) : Bool := exl0 K && (exl1 K && (exl2 K && (true)))
def nml0 : List Str := ["MossError", "BadCell", "BadPiece", "BadTurn", "TooMany", "Endless", "TooWide", "NoCell", "NoMarks", "NoText", "BadDeed", "rising", "has", "moved_cell", "less_cell", "mirrored"]
def nml1 : List Str := ["lies_on", "whole_at", "reached", "kept_at", "eaten", "places_on", "MOST_MARKS", "look_finite", "bringing", "marks", "greatest", "is_brought", "tried", "fewest_and_tree", "fewest", "fewer_paper"]
def nml2 : List Str := ["tree_right", "fewer_right", "_law_cell", "_law_deal", "_law_piece", "_law_kept", "_law_base", "_law_marked", "_law_led", "_law_less", "_law_greatest", "_law_brought", "_law_on", "_law_ways", "_law_right", "_law_tree"]
def nml3 : List Str := ["_law_spoilt", "_law_endless"]
def nml : List Str := nml0 ++ nml1 ++ nml2 ++ nml3
open PySem.W in
abbrev R0 : OpenRow := OpenLaw.row PySem.Challenge.rw_edgewide_k28_trees_judged
abbrev hk0 : PySem.W.Hook := Py.hookP fal fnl exl
def ob0 (s : PySem.W.SharedT) : He.AlD × Bool := Py.obsPG fal fnl exl (HandSHeadRun.getT s)
theorem ob0_eq (s : PySem.W.SharedT) : ob0 s = hk0.obs s.abs := Py.obsPG_eq (HandSHeadRun.getT_eq s)
set_option maxHeartbeats 0 in
theorem run0 (w : World) : HandSHeadRun.RunEq R0 (PySem.W.view R0.prog [57]) hk0 ob0 60000 nml w := by
  intro os
  kernel_rfl
theorem all_mk {w : World} {K : PySem.W.Frag} {h : Heap} {mg : Str → Option Value} {fa : Addr} (X : K.In h) (G : h.Ns mainGlobals mg) (hfa : mg "law" = some (.ref fa)) (c : He.SaysD fal fnl K) (e : exl K = true) :
    ∃ fd : FuncData, (∀ (s : Shared) (v : Value), BindsTo s fd ⟨[v], []⟩ [("script", v)]) ∧ ∀ base : Heap, K.In base → base.Ns mainGlobals mg → FnOk (PySem.Challenge.rw_edgewide_k28_trees_judged).prog w K mg base (L2.CX (PySem.Challenge.rw_edgewide_k28_trees_judged).prog w) 22 fa fd ["script"] (SpL K) := by
  obtain ⟨d_law_cell, D_law_cell⟩ := c.def_ 0 (d := dd_law_cell) rfl
  obtain ⟨d_law_deal, D_law_deal⟩ := c.def_ 1 (d := dd_law_deal) rfl
  obtain ⟨d_law_piece, D_law_piece⟩ := c.def_ 2 (d := dd_law_piece) rfl
  obtain ⟨d_law_base, D_law_base⟩ := c.def_ 3 (d := dd_law_base) rfl
  obtain ⟨d_law_kept, D_law_kept⟩ := c.def_ 4 (d := dd_law_kept) rfl
  obtain ⟨d_law_marked, D_law_marked⟩ := c.def_ 5 (d := dd_law_marked) rfl
  obtain ⟨d_law_less, D_law_less⟩ := c.def_ 6 (d := dd_law_less) rfl
  obtain ⟨d_law_led, D_law_led⟩ := c.def_ 7 (d := dd_law_led) rfl
  obtain ⟨d_law_greatest, D_law_greatest⟩ := c.def_ 8 (d := dd_law_greatest) rfl
  obtain ⟨d_law_brought, D_law_brought⟩ := c.def_ 9 (d := dd_law_brought) rfl
  obtain ⟨dlook_finite, Dlook_finite⟩ := c.def_ 10 (d := ddlook_finite) rfl
  obtain ⟨drising, Drising⟩ := c.def_ 11 (d := ddrising) rfl
  obtain ⟨dmirrored, Dmirrored⟩ := c.def_ 12 (d := ddmirrored) rfl
  obtain ⟨dmoved_cell, Dmoved_cell⟩ := c.def_ 13 (d := ddmoved_cell) rfl
  obtain ⟨dlies_on, Dlies_on⟩ := c.def_ 14 (d := ddlies_on) rfl
  obtain ⟨dreached, Dreached⟩ := c.def_ 15 (d := ddreached) rfl
  obtain ⟨dless_cell, Dless_cell⟩ := c.def_ 16 (d := ddless_cell) rfl
  obtain ⟨dkept_at, Dkept_at⟩ := c.def_ 17 (d := ddkept_at) rfl
  obtain ⟨deaten, Deaten⟩ := c.def_ 18 (d := ddeaten) rfl
  obtain ⟨dbringing, Dbringing⟩ := c.def_ 19 (d := ddbringing) rfl
  obtain ⟨dmarks, Dmarks⟩ := c.def_ 20 (d := ddmarks) rfl
  obtain ⟨dgreatest, Dgreatest⟩ := c.def_ 21 (d := ddgreatest) rfl
  obtain ⟨dis_brought, Dis_brought⟩ := c.def_ 22 (d := ddis_brought) rfl
  obtain ⟨dtried, Dtried⟩ := c.def_ 23 (d := ddtried) rfl
  obtain ⟨dfewest_and_tree, Dfewest_and_tree⟩ := c.def_ 24 (d := ddfewest_and_tree) rfl
  obtain ⟨dfewer_paper, Dfewer_paper⟩ := c.def_ 25 (d := ddfewer_paper) rfl
  obtain ⟨dfewest, Dfewest⟩ := c.def_ 26 (d := ddfewest) rfl
  obtain ⟨d_law_on, D_law_on⟩ := c.def_ 27 (d := dd_law_on) rfl
  obtain ⟨d_law_ways, D_law_ways⟩ := c.def_ 28 (d := dd_law_ways) rfl
  obtain ⟨d_law_right, D_law_right⟩ := c.def_ 29 (d := dd_law_right) rfl
  obtain ⟨dhas, Dhas⟩ := c.def_ 30 (d := ddhas) rfl
  obtain ⟨dplaces_on, Dplaces_on⟩ := c.def_ 31 (d := ddplaces_on) rfl
  obtain ⟨dwhole_at, Dwhole_at⟩ := c.def_ 32 (d := ddwhole_at) rfl
  obtain ⟨dtree_right, Dtree_right⟩ := c.def_ 33 (d := ddtree_right) rfl
  obtain ⟨dfewer_right, Dfewer_right⟩ := c.def_ 34 (d := ddfewer_right) rfl
  obtain ⟨d_law_tree, D_law_tree⟩ := c.def_ 35 (d := dd_law_tree) rfl
  obtain ⟨d_law_spoilt, D_law_spoilt⟩ := c.def_ 36 (d := dd_law_spoilt) rfl
  obtain ⟨d_law_endless, D_law_endless⟩ := c.def_ 37 (d := dd_law_endless) rfl
  obtain ⟨dlaw, Dlaw⟩ := c.def_ 38 (d := ddlaw) rfl
  have ac_BadCell := He.glo_ok X G (c.fact 0 (f := .glo "BadCell") rfl)
  have ac_BadDeed := He.glo_ok X G (c.fact 1 (f := .glo "BadDeed") rfl)
  have ac_BadPiece := He.glo_ok X G (c.fact 2 (f := .glo "BadPiece") rfl)
  have ac_BadTurn := He.glo_ok X G (c.fact 3 (f := .glo "BadTurn") rfl)
  have ac_Endless := He.glo_ok X G (c.fact 4 (f := .glo "Endless") rfl)
  have ac_MossError := He.glo_ok X G (c.fact 5 (f := .glo "MossError") rfl)
  have ac_NoCell := He.glo_ok X G (c.fact 6 (f := .glo "NoCell") rfl)
  have ac_NoMarks := He.glo_ok X G (c.fact 7 (f := .glo "NoMarks") rfl)
  have ac_NoText := He.glo_ok X G (c.fact 8 (f := .glo "NoText") rfl)
  have ac_TooMany := He.glo_ok X G (c.fact 9 (f := .glo "TooMany") rfl)
  have ac_TooWide := He.glo_ok X G (c.fact 10 (f := .glo "TooWide") rfl)
  have a_law_cell := He.glo_ok X G (c.fact 11 (f := .glo "_law_cell") rfl)
  have a_law_deal := He.glo_ok X G (c.fact 12 (f := .glo "_law_deal") rfl)
  have a_law_piece := He.glo_ok X G (c.fact 13 (f := .glo "_law_piece") rfl)
  have a_law_base := He.glo_ok X G (c.fact 14 (f := .glo "_law_base") rfl)
  have a_law_kept := He.glo_ok X G (c.fact 15 (f := .glo "_law_kept") rfl)
  have a_law_marked := He.glo_ok X G (c.fact 16 (f := .glo "_law_marked") rfl)
  have a_law_less := He.glo_ok X G (c.fact 17 (f := .glo "_law_less") rfl)
  have a_law_led := He.glo_ok X G (c.fact 18 (f := .glo "_law_led") rfl)
  have a_law_greatest := He.glo_ok X G (c.fact 19 (f := .glo "_law_greatest") rfl)
  have a_law_brought := He.glo_ok X G (c.fact 20 (f := .glo "_law_brought") rfl)
  have alook_finite := He.glo_ok X G (c.fact 21 (f := .glo "look_finite") rfl)
  have arising := He.glo_ok X G (c.fact 22 (f := .glo "rising") rfl)
  have amirrored := He.glo_ok X G (c.fact 23 (f := .glo "mirrored") rfl)
  have amoved_cell := He.glo_ok X G (c.fact 24 (f := .glo "moved_cell") rfl)
  have alies_on := He.glo_ok X G (c.fact 25 (f := .glo "lies_on") rfl)
  have areached := He.glo_ok X G (c.fact 26 (f := .glo "reached") rfl)
  have aless_cell := He.glo_ok X G (c.fact 27 (f := .glo "less_cell") rfl)
  have akept_at := He.glo_ok X G (c.fact 28 (f := .glo "kept_at") rfl)
  have aeaten := He.glo_ok X G (c.fact 29 (f := .glo "eaten") rfl)
  have abringing := He.glo_ok X G (c.fact 30 (f := .glo "bringing") rfl)
  have amarks := He.glo_ok X G (c.fact 31 (f := .glo "marks") rfl)
  have agreatest := He.glo_ok X G (c.fact 32 (f := .glo "greatest") rfl)
  have ais_brought := He.glo_ok X G (c.fact 33 (f := .glo "is_brought") rfl)
  have atried := He.glo_ok X G (c.fact 34 (f := .glo "tried") rfl)
  have afewest_and_tree := He.glo_ok X G (c.fact 35 (f := .glo "fewest_and_tree") rfl)
  have afewer_paper := He.glo_ok X G (c.fact 36 (f := .glo "fewer_paper") rfl)
  have afewest := He.glo_ok X G (c.fact 37 (f := .glo "fewest") rfl)
  have a_law_on := He.glo_ok X G (c.fact 38 (f := .glo "_law_on") rfl)
  have a_law_ways := He.glo_ok X G (c.fact 39 (f := .glo "_law_ways") rfl)
  have a_law_right := He.glo_ok X G (c.fact 40 (f := .glo "_law_right") rfl)
  have ahas := He.glo_ok X G (c.fact 41 (f := .glo "has") rfl)
  have aplaces_on := He.glo_ok X G (c.fact 42 (f := .glo "places_on") rfl)
  have awhole_at := He.glo_ok X G (c.fact 43 (f := .glo "whole_at") rfl)
  have atree_right := He.glo_ok X G (c.fact 44 (f := .glo "tree_right") rfl)
  have afewer_right := He.glo_ok X G (c.fact 45 (f := .glo "fewer_right") rfl)
  have a_law_tree := He.glo_ok X G (c.fact 46 (f := .glo "_law_tree") rfl)
  have a_law_spoilt := He.glo_ok X G (c.fact 47 (f := .glo "_law_spoilt") rfl)
  have a_law_endless := He.glo_ok X G (c.fact 48 (f := .glo "_law_endless") rfl)
  have alaw := He.glo_ok X G (c.fact 49 (f := .glo "law") rfl)
  have z_ValueError := He.free_ok X G (c.fact 50 (f := .free "ValueError") rfl)
  have z_all := He.free_ok X G (c.fact 51 (f := .free "all") rfl)
  have z_any := He.free_ok X G (c.fact 52 (f := .free "any") rfl)
  have z_bool := He.free_ok X G (c.fact 53 (f := .free "bool") rfl)
  have z_divmod := He.free_ok X G (c.fact 54 (f := .free "divmod") rfl)
  have z_int := He.free_ok X G (c.fact 55 (f := .free "int") rfl)
  have z_isinstance := He.free_ok X G (c.fact 56 (f := .free "isinstance") rfl)
  have z_len := He.free_ok X G (c.fact 57 (f := .free "len") rfl)
  have z_list := He.free_ok X G (c.fact 58 (f := .free "list") rfl)
  have z_max := He.free_ok X G (c.fact 59 (f := .free "max") rfl)
  have z_min := He.free_ok X G (c.fact 60 (f := .free "min") rfl)
  have z_range := He.free_ok X G (c.fact 61 (f := .free "range") rfl)
  have z_set := He.free_ok X G (c.fact 62 (f := .free "set") rfl)
  have z_sorted := He.free_ok X G (c.fact 63 (f := .free "sorted") rfl)
  have z_tuple := He.free_ok X G (c.fact 64 (f := .free "tuple") rfl)
  have v_MOST_MARKS := He.int_ok X G (c.fact 65 (f := .int "MOST_MARKS" 12) rfl)
  obtain ⟨e0, e⟩ := He.ba (show (exl0 K && _) = true from e)
  obtain ⟨yb_Endless, e0⟩ := Py.ba_d (p := PySem.W.subIn K (.ref (He.ga K "Endless")) (.type "BaseException") = some true) e0
  obtain ⟨yd_Endless, e0⟩ := Py.ba_d (p := PySem.W.hasDictIn K (He.ga K "Endless") = true) e0
  obtain ⟨yt_Endless, e0⟩ := Py.ba_d (p := PySem.W.typeIn K (.ref (He.ga K "Endless")) = some (.type "type")) e0
  obtain ⟨yb_MossError, e0⟩ := Py.ba_d (p := PySem.W.subIn K (.ref (He.ga K "MossError")) (.type "BaseException") = some true) e0
  obtain ⟨yd_MossError, e0⟩ := Py.ba_d (p := PySem.W.hasDictIn K (He.ga K "MossError") = true) e0
  obtain ⟨yt_MossError, e0⟩ := Py.ba_d (p := PySem.W.typeIn K (.ref (He.ga K "MossError")) = some (.type "type")) e0
  obtain ⟨yb_NoMarks, e0⟩ := Py.ba_d (p := PySem.W.subIn K (.ref (He.ga K "NoMarks")) (.type "BaseException") = some true) e0
  obtain ⟨yd_NoMarks, e0⟩ := Py.ba_d (p := PySem.W.hasDictIn K (He.ga K "NoMarks") = true) e0
  obtain ⟨yt_NoMarks, e0⟩ := Py.ba_d (p := PySem.W.typeIn K (.ref (He.ga K "NoMarks")) = some (.type "type")) e0
  obtain ⟨yb_TooMany, e0⟩ := Py.ba_d (p := PySem.W.subIn K (.ref (He.ga K "TooMany")) (.type "BaseException") = some true) e0
  obtain ⟨yd_TooMany, e0⟩ := Py.ba_d (p := PySem.W.hasDictIn K (He.ga K "TooMany") = true) e0
  obtain ⟨yt_TooMany, e0⟩ := Py.ba_d (p := PySem.W.typeIn K (.ref (He.ga K "TooMany")) = some (.type "type")) e0
  obtain ⟨yk_Endless, e0⟩ := Py.ba_d (p := PySem.W.keepIn K (.ref (He.ga K "Endless")) = true) e0
  obtain ⟨ye_Endless, e0⟩ := Py.ba_d (p := PySem.W.excIn K (He.ga K "Endless") [.type "ValueError", .type "Exception", .type "BaseException", .type "object"] "ValueError.__new__" = true) e0
  obtain ⟨yg_Endless, e0⟩ := Py.ba_d (p := PySem.W.findIn K (.ref (He.ga K "Endless")) "__getattribute__" = some (some (.builtin "BaseException.__getattribute__"))) e0
  obtain ⟨yh_Endless, e0⟩ := Py.ba_d (p := PySem.W.findIn K (.ref (He.ga K "Endless")) "__getattr__" = some none) e0
  obtain ⟨e1, e⟩ := He.ba (show (exl1 K && _) = true from e)
  obtain ⟨ya_Endless, e1⟩ := Py.ba_d (p := PySem.W.findIn K (.ref (He.ga K "Endless")) "__class__" = some (some (.builtin "object.__class__"))) e1
  obtain ⟨ym_Endless, e1⟩ := Py.ba_d (p := PySem.W.mroIn K (He.ga K "Endless") (.type "object") = some true) e1
  obtain ⟨yk_NoMarks, e1⟩ := Py.ba_d (p := PySem.W.keepIn K (.ref (He.ga K "NoMarks")) = true) e1
  obtain ⟨ye_NoMarks, e1⟩ := Py.ba_d (p := PySem.W.excIn K (He.ga K "NoMarks") [.type "ValueError", .type "Exception", .type "BaseException", .type "object"] "ValueError.__new__" = true) e1
  obtain ⟨yg_NoMarks, e1⟩ := Py.ba_d (p := PySem.W.findIn K (.ref (He.ga K "NoMarks")) "__getattribute__" = some (some (.builtin "BaseException.__getattribute__"))) e1
  obtain ⟨yh_NoMarks, e1⟩ := Py.ba_d (p := PySem.W.findIn K (.ref (He.ga K "NoMarks")) "__getattr__" = some none) e1
  obtain ⟨ya_NoMarks, e1⟩ := Py.ba_d (p := PySem.W.findIn K (.ref (He.ga K "NoMarks")) "__class__" = some (some (.builtin "object.__class__"))) e1
  obtain ⟨ym_NoMarks, e1⟩ := Py.ba_d (p := PySem.W.mroIn K (He.ga K "NoMarks") (.type "object") = some true) e1
  obtain ⟨yk_TooMany, e1⟩ := Py.ba_d (p := PySem.W.keepIn K (.ref (He.ga K "TooMany")) = true) e1
  obtain ⟨ye_TooMany, e1⟩ := Py.ba_d (p := PySem.W.excIn K (He.ga K "TooMany") [.type "ValueError", .type "Exception", .type "BaseException", .type "object"] "ValueError.__new__" = true) e1
  obtain ⟨yg_TooMany, e1⟩ := Py.ba_d (p := PySem.W.findIn K (.ref (He.ga K "TooMany")) "__getattribute__" = some (some (.builtin "BaseException.__getattribute__"))) e1
  obtain ⟨yh_TooMany, e1⟩ := Py.ba_d (p := PySem.W.findIn K (.ref (He.ga K "TooMany")) "__getattr__" = some none) e1
  obtain ⟨ya_TooMany, e1⟩ := Py.ba_d (p := PySem.W.findIn K (.ref (He.ga K "TooMany")) "__class__" = some (some (.builtin "object.__class__"))) e1
  obtain ⟨ym_TooMany, e1⟩ := Py.ba_d (p := PySem.W.mroIn K (He.ga K "TooMany") (.type "object") = some true) e1
  obtain ⟨yn, e1⟩ := Py.ba_d (p := PySem.W.specialIn K (.builtin "object.__class__") "__get__" = some (some (.builtin "getset_descriptor.__get__"))) e1
  obtain ⟨yx, e1⟩ := Py.ba_d (p := PySem.W.takesIn K (.builtin "object.__class__") = some true) e1
  obtain ⟨e2, e⟩ := He.ba (show (exl2 K && _) = true from e)
  obtain ⟨ye_Endless_MossError, e2⟩ := Py.ba_d (p := PySem.W.subIn K (.ref (He.ga K "Endless")) (.ref (He.ga K "MossError")) = some true) e2
  obtain ⟨ye_NoMarks_MossError, e2⟩ := Py.ba_d (p := PySem.W.subIn K (.ref (He.ga K "NoMarks")) (.ref (He.ga K "MossError")) = some true) e2
  obtain ⟨ye_TooMany_MossError, e2⟩ := Py.ba_d (p := PySem.W.subIn K (.ref (He.ga K "TooMany")) (.ref (He.ga K "MossError")) = some true) e2
  obtain ⟨yi_Endless_Endless, e2⟩ := Py.ba_d (p := PySem.W.kitOne K (.ref (He.ga K "Endless")) (.ref (He.ga K "Endless")) = some true) e2
  obtain ⟨yi_Endless_ValueError, e2⟩ := Py.ba_d (p := PySem.W.kitOne K (.ref (He.ga K "Endless")) (.type "ValueError") = some true) e2
  obtain ⟨yi_NoMarks_Endless, e2⟩ := Py.ba_d (p := PySem.W.kitOne K (.ref (He.ga K "NoMarks")) (.ref (He.ga K "Endless")) = some false) e2
  obtain ⟨yi_NoMarks_ValueError, e2⟩ := Py.ba_d (p := PySem.W.kitOne K (.ref (He.ga K "NoMarks")) (.type "ValueError") = some true) e2
  obtain ⟨yi_TooMany_Endless, e2⟩ := Py.ba_d (p := PySem.W.kitOne K (.ref (He.ga K "TooMany")) (.ref (He.ga K "Endless")) = some false) e2
  obtain ⟨yi_TooMany_ValueError, e2⟩ := Py.ba_d (p := PySem.W.kitOne K (.ref (He.ga K "TooMany")) (.type "ValueError") = some true) e2
  obtain ⟨yt_Endless_BadCell_BadDeed_BadPiece_BadTurn_NoCell_NoMarks_NoText_TooMany_TooWide, e2⟩ := Py.ba_d (p := PySem.W.kitAny K (.ref (He.ga K "Endless")) [.ref (He.ga K "BadCell"), .ref (He.ga K "BadDeed"), .ref (He.ga K "BadPiece"), .ref (He.ga K "BadTurn"), .ref (He.ga K "NoCell"), .ref (He.ga K "NoMarks"), .ref (He.ga K "NoText"), .ref (He.ga K "TooMany"), .ref (He.ga K "TooWide")] = some false) e2
  obtain ⟨yt_NoMarks_BadCell_BadDeed_BadPiece_BadTurn_NoCell_NoMarks_NoText_TooMany_TooWide, e2⟩ := Py.ba_d (p := PySem.W.kitAny K (.ref (He.ga K "NoMarks")) [.ref (He.ga K "BadCell"), .ref (He.ga K "BadDeed"), .ref (He.ga K "BadPiece"), .ref (He.ga K "BadTurn"), .ref (He.ga K "NoCell"), .ref (He.ga K "NoMarks"), .ref (He.ga K "NoText"), .ref (He.ga K "TooMany"), .ref (He.ga K "TooWide")] = some true) e2
  obtain ⟨yt_TooMany_BadCell_BadDeed_BadPiece_BadTurn_NoCell_NoMarks_NoText_TooMany_TooWide, e2⟩ := Py.ba_d (p := PySem.W.kitAny K (.ref (He.ga K "TooMany")) [.ref (He.ga K "BadCell"), .ref (He.ga K "BadDeed"), .ref (He.ga K "BadPiece"), .ref (He.ga K "BadTurn"), .ref (He.ga K "NoCell"), .ref (He.ga K "NoMarks"), .ref (He.ga K "NoText"), .ref (He.ga K "TooMany"), .ref (He.ga K "TooWide")] = some true) e2
  have e0 := hfa.symm.trans alaw
  cases e0
  have T : Txt K mg ⟨(He.ga K "_law_cell"), (He.ga K "_law_deal"), (He.ga K "_law_piece"), (He.ga K "_law_base"), (He.ga K "_law_kept"), (He.ga K "_law_marked"), (He.ga K "_law_less"), (He.ga K "_law_led"), (He.ga K "_law_greatest"), (He.ga K "_law_brought"), (He.ga K "look_finite"), (He.ga K "rising"), (He.ga K "mirrored"), (He.ga K "moved_cell"), (He.ga K "lies_on"), (He.ga K "reached"), (He.ga K "less_cell"), (He.ga K "kept_at"), (He.ga K "eaten"), (He.ga K "bringing"), (He.ga K "marks"), (He.ga K "greatest"), (He.ga K "is_brought"), (He.ga K "tried"), (He.ga K "fewest_and_tree"), (He.ga K "fewer_paper"), (He.ga K "fewest"), (He.ga K "_law_on"), (He.ga K "_law_ways"), (He.ga K "_law_right"), (He.ga K "has"), (He.ga K "places_on"), (He.ga K "whole_at"), (He.ga K "tree_right"), (He.ga K "fewer_right"), (He.ga K "_law_tree"), (He.ga K "_law_spoilt"), (He.ga K "_law_endless"), (He.ga K "law"), d_law_cell, d_law_deal, d_law_piece, d_law_base, d_law_kept, d_law_marked, d_law_less, d_law_led, d_law_greatest, d_law_brought, dlook_finite, drising, dmirrored, dmoved_cell, dlies_on, dreached, dless_cell, dkept_at, deaten, dbringing, dmarks, dgreatest, dis_brought, dtried, dfewest_and_tree, dfewer_paper, dfewest, d_law_on, d_law_ways, d_law_right, dhas, dplaces_on, dwhole_at, dtree_right, dfewer_right, d_law_tree, d_law_spoilt, d_law_endless, dlaw, (He.ga K "BadCell"), (He.ga K "BadDeed"), (He.ga K "BadPiece"), (He.ga K "BadTurn"), (He.ga K "Endless"), (He.ga K "MossError"), (He.ga K "NoCell"), (He.ga K "NoMarks"), (He.ga K "NoText"), (He.ga K "TooMany"), (He.ga K "TooWide")⟩ := {
    F__law_cell := Py.fz_d (st := s_law_cell) D_law_cell
    g__law_cell := a_law_cell
    k__law_cell := D_law_cell.kp
    b__law_cell := FunD.bindsN (ps := ["script", "k"]) D_law_cell fun _ _ _ _ _ _ us hl => match us, hl with | [_, _], _ => rfl
    F__law_deal := Py.fz_d (st := s_law_deal) D_law_deal
    g__law_deal := a_law_deal
    k__law_deal := D_law_deal.kp
    b__law_deal := FunD.bindsN (ps := ["cell", "salt"]) D_law_deal fun _ _ _ _ _ _ us hl => match us, hl with | [_, _], _ => rfl
    F__law_piece := Py.fz_d (st := s_law_piece) D_law_piece
    g__law_piece := a_law_piece
    k__law_piece := D_law_piece.kp
    b__law_piece := FunD.bindsN (ps := ["number"]) D_law_piece fun _ _ _ _ _ _ us hl => match us, hl with | [_], _ => rfl
    F__law_base := Py.fz_d (st := s_law_base) D_law_base
    g__law_base := a_law_base
    k__law_base := D_law_base.kp
    b__law_base := FunD.bindsN (ps := ["number"]) D_law_base fun _ _ _ _ _ _ us hl => match us, hl with | [_], _ => rfl
    F__law_kept := Py.fz_d (st := s_law_kept) D_law_kept
    g__law_kept := a_law_kept
    k__law_kept := D_law_kept.kp
    b__law_kept := FunD.bindsN (ps := ["row", "column"]) D_law_kept fun _ _ _ _ _ _ us hl => match us, hl with | [_, _], _ => rfl
    F__law_marked := Py.fz_d (st := s_law_marked) D_law_marked
    g__law_marked := a_law_marked
    k__law_marked := D_law_marked.kp
    b__law_marked := FunD.bindsN (ps := ["number", "piece", "most"]) D_law_marked fun _ _ _ _ _ _ us hl => match us, hl with | [_, _, _], _ => rfl
    F__law_less := Py.fz_d (st := s_law_less) D_law_less
    g__law_less := a_law_less
    k__law_less := D_law_less.kp
    b__law_less := FunD.bindsN (ps := ["cell", "step"]) D_law_less fun _ _ _ _ _ _ us hl => match us, hl with | [_, _], _ => rfl
    F__law_led := Py.fz_d (st := s_law_led) D_law_led
    g__law_led := a_law_led
    k__law_led := D_law_led.kp
    b__law_led := FunD.bindsN (ps := ["cell", "step"]) D_law_led fun _ _ _ _ _ _ us hl => match us, hl with | [_, _], _ => rfl
    F__law_greatest := Py.fz_d (st := s_law_greatest) D_law_greatest
    g__law_greatest := a_law_greatest
    k__law_greatest := D_law_greatest.kp
    b__law_greatest := FunD.bindsN (ps := ["cells", "piece"]) D_law_greatest fun _ _ _ _ _ _ us hl => match us, hl with | [_, _], _ => rfl
    F__law_brought := Py.fz_d (st := s_law_brought) D_law_brought
    g__law_brought := a_law_brought
    k__law_brought := D_law_brought.kp
    b__law_brought := FunD.bindsN (ps := ["found", "piece"]) D_law_brought fun _ _ _ _ _ _ us hl => match us, hl with | [_, _], _ => rfl
    F_look_finite := Py.fz_d (st := slook_finite) Dlook_finite
    g_look_finite := alook_finite
    k_look_finite := Dlook_finite.kp
    b_look_finite := FunD.bindsN (ps := ["shape"]) Dlook_finite fun _ _ _ _ _ _ us hl => match us, hl with | [_], _ => rfl
    F_rising := Py.fz_d (st := srising) Drising
    g_rising := arising
    k_rising := Drising.kp
    b_rising := FunD.bindsN (ps := ["cells"]) Drising fun _ _ _ _ _ _ us hl => match us, hl with | [_], _ => rfl
    F_mirrored := Py.fz_d (st := smirrored) Dmirrored
    g_mirrored := amirrored
    k_mirrored := Dmirrored.kp
    b_mirrored := FunD.bindsN (ps := ["piece"]) Dmirrored fun _ _ _ _ _ _ us hl => match us, hl with | [_], _ => rfl
    F_moved_cell := Py.fz_d (st := smoved_cell) Dmoved_cell
    g_moved_cell := amoved_cell
    k_moved_cell := Dmoved_cell.kp
    b_moved_cell := FunD.bindsN (ps := ["cell", "step"]) Dmoved_cell fun _ _ _ _ _ _ us hl => match us, hl with | [_, _], _ => rfl
    F_lies_on := Py.fz_d (st := slies_on) Dlies_on
    g_lies_on := alies_on
    k_lies_on := Dlies_on.kp
    b_lies_on := FunD.bindsN (ps := ["piece", "cell"]) Dlies_on fun _ _ _ _ _ _ us hl => match us, hl with | [_, _], _ => rfl
    F_reached := Py.fz_d (st := sreached) Dreached
    g_reached := areached
    k_reached := Dreached.kp
    b_reached := FunD.bindsN (ps := ["cells", "piece"]) Dreached fun _ _ _ _ _ _ us hl => match us, hl with | [_, _], _ => rfl
    F_less_cell := Py.fz_d (st := sless_cell) Dless_cell
    g_less_cell := aless_cell
    k_less_cell := Dless_cell.kp
    b_less_cell := FunD.bindsN (ps := ["cell", "step"]) Dless_cell fun _ _ _ _ _ _ us hl => match us, hl with | [_, _], _ => rfl
    F_kept_at := Py.fz_d (st := skept_at) Dkept_at
    g_kept_at := akept_at
    k_kept_at := Dkept_at.kp
    b_kept_at := FunD.bindsN (ps := ["cells", "piece"]) Dkept_at fun _ _ _ _ _ _ us hl => match us, hl with | [_, _], _ => rfl
    F_eaten := Py.fz_d (st := seaten) Deaten
    g_eaten := aeaten
    k_eaten := Deaten.kp
    b_eaten := FunD.bindsN (ps := ["shape", "piece"]) Deaten fun _ _ _ _ _ _ us hl => match us, hl with | [_, _], _ => rfl
    F_bringing := Py.fz_d (st := sbringing) Dbringing
    g_bringing := abringing
    k_bringing := Dbringing.kp
    b_bringing := FunD.bindsN (ps := ["found", "piece"]) Dbringing fun _ _ _ _ _ _ us hl => match us, hl with | [_, _], _ => rfl
    F_marks := Py.fz_d (st := smarks) Dmarks
    g_marks := amarks
    k_marks := Dmarks.kp
    b_marks := FunD.bindsN (ps := ["shape", "piece"]) Dmarks fun _ _ _ _ _ _ us hl => match us, hl with | [_, _], _ => rfl
    F_greatest := Py.fz_d (st := sgreatest) Dgreatest
    g_greatest := agreatest
    k_greatest := Dgreatest.kp
    b_greatest := FunD.bindsN (ps := ["shape", "piece"]) Dgreatest fun _ _ _ _ _ _ us hl => match us, hl with | [_, _], _ => rfl
    F_is_brought := Py.fz_d (st := sis_brought) Dis_brought
    g_is_brought := ais_brought
    k_is_brought := Dis_brought.kp
    b_is_brought := FunD.bindsN (ps := ["piece", "taken", "cell"]) Dis_brought fun _ _ _ _ _ _ us hl => match us, hl with | [_, _, _], _ => rfl
    F_tried := Py.fz_d (st := stried) Dtried
    g_tried := atried
    k_tried := Dtried.kp
    b_tried := FunD.bindsN (ps := ["cells", "ways", "piece", "taken", "many"]) Dtried fun _ _ _ _ _ _ us hl => match us, hl with | [_, _, _, _, _], _ => rfl
    F_fewest_and_tree := Py.fz_d (st := sfewest_and_tree) Dfewest_and_tree
    g_fewest_and_tree := afewest_and_tree
    k_fewest_and_tree := Dfewest_and_tree.kp
    b_fewest_and_tree := FunD.bindsN (ps := ["shape", "piece"]) Dfewest_and_tree fun _ _ _ _ _ _ us hl => match us, hl with | [_, _], _ => rfl
    F_fewer_paper := Py.fz_d (st := sfewer_paper) Dfewer_paper
    g_fewer_paper := afewer_paper
    k_fewer_paper := Dfewer_paper.kp
    b_fewer_paper := FunD.bindsN (ps := ["shape", "piece"]) Dfewer_paper fun _ _ _ _ _ _ us hl => match us, hl with | [_, _], _ => rfl
    F_fewest := Py.fz_d (st := sfewest) Dfewest
    g_fewest := afewest
    k_fewest := Dfewest.kp
    b_fewest := FunD.bindsN (ps := ["shape", "piece"]) Dfewest fun _ _ _ _ _ _ us hl => match us, hl with | [_, _], _ => rfl
    F__law_on := Py.fz_d (st := s_law_on) D_law_on
    g__law_on := a_law_on
    k__law_on := D_law_on.kp
    b__law_on := FunD.bindsN (ps := ["piece", "taken", "cell"]) D_law_on fun _ _ _ _ _ _ us hl => match us, hl with | [_, _, _], _ => rfl
    F__law_ways := Py.fz_d (st := s_law_ways) D_law_ways
    g__law_ways := a_law_ways
    k__law_ways := D_law_ways.kp
    b__law_ways := FunD.bindsN (ps := ["found", "piece", "cell"]) D_law_ways fun _ _ _ _ _ _ us hl => match us, hl with | [_, _, _], _ => rfl
    F__law_right := Py.fz_d (st := s_law_right) D_law_right
    g__law_right := a_law_right
    k__law_right := D_law_right.kp
    b__law_right := FunD.bindsN (ps := ["cells", "piece", "found", "taken", "many", "tree"]) D_law_right fun _ _ _ _ _ _ us hl => match us, hl with | [_, _, _, _, _, _], _ => rfl
    F_has := Py.fz_d (st := shas) Dhas
    g_has := ahas
    k_has := Dhas.kp
    b_has := FunD.bindsN (ps := ["shape", "cell"]) Dhas fun _ _ _ _ _ _ us hl => match us, hl with | [_, _], _ => rfl
    F_places_on := Py.fz_d (st := splaces_on) Dplaces_on
    g_places_on := aplaces_on
    k_places_on := Dplaces_on.kp
    b_places_on := FunD.bindsN (ps := ["piece", "cell"]) Dplaces_on fun _ _ _ _ _ _ us hl => match us, hl with | [_, _], _ => rfl
    F_whole_at := Py.fz_d (st := swhole_at) Dwhole_at
    g_whole_at := awhole_at
    k_whole_at := Dwhole_at.kp
    b_whole_at := FunD.bindsN (ps := ["shape", "piece", "cell"]) Dwhole_at fun _ _ _ _ _ _ us hl => match us, hl with | [_, _, _], _ => rfl
    F_tree_right := Py.fz_d (st := stree_right) Dtree_right
    g_tree_right := atree_right
    k_tree_right := Dtree_right.kp
    b_tree_right := FunD.bindsN (ps := ["shape", "piece", "taken", "many", "tree"]) Dtree_right fun _ _ _ _ _ _ us hl => match us, hl with | [_, _, _, _, _], _ => rfl
    F_fewer_right := Py.fz_d (st := sfewer_right) Dfewer_right
    g_fewer_right := afewer_right
    k_fewer_right := Dfewer_right.kp
    b_fewer_right := FunD.bindsN (ps := ["shape", "piece", "many", "tree"]) Dfewer_right fun _ _ _ _ _ _ us hl => match us, hl with | [_, _, _, _], _ => rfl
    F__law_tree := Py.fz_d (st := s_law_tree) D_law_tree
    g__law_tree := a_law_tree
    k__law_tree := D_law_tree.kp
    b__law_tree := FunD.bindsN (ps := ["cells", "piece", "found", "taken", "many", "pot"]) D_law_tree fun _ _ _ _ _ _ us hl => match us, hl with | [_, _, _, _, _, _], _ => rfl
    F__law_spoilt := Py.fz_d (st := s_law_spoilt) D_law_spoilt
    g__law_spoilt := a_law_spoilt
    k__law_spoilt := D_law_spoilt.kp
    b__law_spoilt := FunD.bindsN (ps := ["cells", "tree", "pot"]) D_law_spoilt fun _ _ _ _ _ _ us hl => match us, hl with | [_, _, _], _ => rfl
    F__law_endless := Py.fz_d (st := s_law_endless) D_law_endless
    g__law_endless := a_law_endless
    k__law_endless := D_law_endless.kp
    b__law_endless := FunD.bindsN (ps := ["shape", "piece", "many", "tree"]) D_law_endless fun _ _ _ _ _ _ us hl => match us, hl with | [_, _, _, _], _ => rfl
    F_law := Py.fz_d (st := slaw) Dlaw
    g_law := alaw
    k_law := Dlaw.kp
    b_law := FunD.bindsN (ps := ["script"]) Dlaw fun _ _ _ _ _ _ us hl => match us, hl with | [_], _ => rfl
    gc_BadCell := ac_BadCell
    gc_BadDeed := ac_BadDeed
    gc_BadPiece := ac_BadPiece
    gc_BadTurn := ac_BadTurn
    gc_Endless := ac_Endless
    gc_MossError := ac_MossError
    gc_NoCell := ac_NoCell
    gc_NoMarks := ac_NoMarks
    gc_NoText := ac_NoText
    gc_TooMany := ac_TooMany
    gc_TooWide := ac_TooWide
    x_Endless := ⟨ac_Endless, yk_Endless, ye_Endless, yt_Endless, ⟨yg_Endless, yh_Endless, yb_Endless, yd_Endless, ya_Endless, yn, yx, ym_Endless⟩⟩
    x_NoMarks := ⟨ac_NoMarks, yk_NoMarks, ye_NoMarks, yt_NoMarks, ⟨yg_NoMarks, yh_NoMarks, yb_NoMarks, yd_NoMarks, ya_NoMarks, yn, yx, ym_NoMarks⟩⟩
    x_TooMany := ⟨ac_TooMany, yk_TooMany, ye_TooMany, yt_TooMany, ⟨yg_TooMany, yh_TooMany, yb_TooMany, yd_TooMany, ya_TooMany, yn, yx, ym_TooMany⟩⟩
    e_Endless_MossError := PySem.W.exm_ref yb_MossError yd_MossError yt_MossError ye_Endless_MossError
    e_NoMarks_MossError := PySem.W.exm_ref yb_MossError yd_MossError yt_MossError ye_NoMarks_MossError
    e_TooMany_MossError := PySem.W.exm_ref yb_MossError yd_MossError yt_MossError ye_TooMany_MossError
    i_Endless_Endless := yi_Endless_Endless
    i_Endless_ValueError := yi_Endless_ValueError
    i_NoMarks_Endless := yi_NoMarks_Endless
    i_NoMarks_ValueError := yi_NoMarks_ValueError
    i_TooMany_Endless := yi_TooMany_Endless
    i_TooMany_ValueError := yi_TooMany_ValueError
    t_Endless_BadCell_BadDeed_BadPiece_BadTurn_NoCell_NoMarks_NoText_TooMany_TooWide := yt_Endless_BadCell_BadDeed_BadPiece_BadTurn_NoCell_NoMarks_NoText_TooMany_TooWide
    t_NoMarks_BadCell_BadDeed_BadPiece_BadTurn_NoCell_NoMarks_NoText_TooMany_TooWide := yt_NoMarks_BadCell_BadDeed_BadPiece_BadTurn_NoCell_NoMarks_NoText_TooMany_TooWide
    t_TooMany_BadCell_BadDeed_BadPiece_BadTurn_NoCell_NoMarks_NoText_TooMany_TooWide := yt_TooMany_BadCell_BadDeed_BadPiece_BadTurn_NoCell_NoMarks_NoText_TooMany_TooWide
    n_ValueError := z_ValueError
    n_all := z_all
    n_any := z_any
    n_bool := z_bool
    n_divmod := z_divmod
    n_int := z_int
    n_isinstance := z_isinstance
    n_len := z_len
    n_list := z_list
    n_max := z_max
    n_min := z_min
    n_range := z_range
    n_set := z_set
    n_sorted := z_sorted
    n_tuple := z_tuple
    c_MOST_MARKS := v_MOST_MARKS
  }
  have b := FunD.bindsA (ps := ["script"]) Dlaw fun _ _ _ _ _ _ us hl => match us, hl with | [_], _ => rfl
  exact ⟨dlaw, fun s v => b s [v] rfl, fun base _ _ => law_fn (w_law T) law_ok⟩
end G
open PySem PySem.W PyProof.Rows
set_option maxHeartbeats 0 in
theorem PySem.Challenge.cw_edgewide_k28_trees_judged_holds : PySem.Challenge.rw_edgewide_k28_trees_judged.Holds := by
  w_on; o_law
  refine HandSHeadRun.head_any (r := OpenLaw.row PySem.Challenge.rw_edgewide_k28_trees_judged) (q := view (OpenLaw.row PySem.Challenge.rw_edgewide_k28_trees_judged).prog [57]) (H := G.hk0) (ob := G.ob0) (M := 60000) (loose := G.nml) (d := HandSHeadRun.topDef (OpenLaw.row PySem.Challenge.rw_edgewide_k28_trees_judged).prog 57) (kwd := []) G.ob0_eq
    (by kernel_rfl) (fun s => by kernel_rfl) G.run0 (by kernel_rfl) (by kernel_rfl) (by kernel_rfl) (by rfl) (by first | assumption | decide +kernel) (by decide +kernel) ⟨rfl, rfl, rfl, rfl, rfl, by decide +kernel⟩ ?hw ?hc
  case hw => w_witness2
  case hc =>
    refine Py.walk_ofP (l := PySem.Challenge.rw_edgewide_k28_trees_judged) (n := 63) (k := 22) (x := "script") (CX := fun w => L2.CX (PySem.Challenge.rw_edgewide_k28_trees_judged).prog w) rfl (by decide) (by kernel_rfl) ⟨rfl, by decide, by decide⟩ ?F (fun _ _ _ _ _ h => Py.cx_end h)
    intro w mg fa h Y gns hmg0
    obtain ⟨K, KX, c, e⟩ := Y
    have hmg : mg ("law" : PySem.Str) = some (.ref fa) := by
      have e : (HandSHeadRun.topDef (OpenLaw.row PySem.Challenge.rw_edgewide_k28_trees_judged).prog 57).name = ("law" : PySem.Str) := by kernel_rfl
      rw [← e]
      exact hmg0
    obtain ⟨fd, hb, hF⟩ := G.all_mk (w := w) KX gns hmg c e
    exact ⟨K, fd, Py.SpL K, KX, hb, fun H a ns hl hbits _ hS => ⟨a, ns, rfl, hS, hl, hbits, fun _ => rfl⟩, hF⟩
