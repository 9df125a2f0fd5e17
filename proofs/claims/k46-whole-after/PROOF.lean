import PyProof.Rows.All
import Wide.All
import OpenK.AllK
import Wide.FinOn
import HandS.ForMost
import HandS.TupSets
import HandS.SortRule
import HandS.IsInst
import HandS.Wide
import HandS.WideBits
import HandS.Flow
import HandS.Deep
import HandS.TupAny
import HandS.Exc
import HandS.TryOnly
import HandS.ExcOwn
import HandS.CallSlots
import HandS.WordsExc
import HandS.ExcIs
import HandS.EndBits
import HandS.Defaults
import HandS.SortInts
import HandS.Style
import HandS.Conv
import PyProof.TupleOfSeq
import HandS.TupLen
import KE.KExcIs
import HandS.Rev
import PyProof.ListRange
import HandS.Zip
import KE.DatumOrd
import HandS.DictTup
import PyProof.EnumIter
import HandS.ExcValue
import PyProof.DictMoreH
import HandS.List
import HandS.New0
import HandS.SortKw
import HandS.HotCalls
import KE.KStateDown
import HandS.Head0
import HandS.Head1
import HandS.Head2
import HandS.HeadEnd
import HandS.HeadHook1
import HandS.HeadHook2
import PySem.Challenge.RW_edgewide_k46_whole_after
set_option Elab.async false
set_option linter.all false
set_option maxRecDepth 100000
set_option maxHeartbeats 40000000
/-! Own layer, part A: what a program text makes, as plain Lean data (R), what stands for data on the heap (Rp), what the slots hold (Sl, SA). -/
namespace Py
open PySem PySem.Spec PyProof.Rows L2

structure Er where
  cls : Str
  fld : Option Int := none

/-- a result: a value, a raised error, or «not covered» -/
inductive R (α : Type) where
  | ok (a : α)
  | er (e : Er)
  | bad
def R.bind {α β : Type} : R α → (α → R β) → R β
  | .ok a, k => k a
  | .er e, _ => .er e
  | .bad, _ => .bad
theorem R.bind_pure {α : Type} (m : R α) : (m.bind fun x => .ok x) = m := by cases m <;> rfl
theorem R.bind_assoc {α β γ : Type} (m : R α) (f : α → R β) (g : β → R γ) : (m.bind f).bind g = m.bind fun x => (f x).bind g := by cases m <;> rfl
theorem R.ok_bind {α β : Type} (a : α) (f : α → R β) : (R.ok a).bind f = f a := rfl
/-- errors are not covered here -/
def R.calm {α : Type} : R α → R α
  | .ok a => .ok a
  | .er _ => .bad
  | .bad => .bad
theorem R.ok_calm {α : Type} (a : α) : (R.ok a).calm = R.ok a := rfl
/-- under a condition -/
def chk (c : Prop) [Decidable c] {α : Type} (a : α) : R α := if c then .ok a else .bad
def ofOpt {α : Type} : Option α → R α
  | some a => .ok a
  | none => .bad

def wpR {α : Type} (m : R α) (K : α → Prop) (Z : Er → Prop) : Prop := match m with
  | .ok a => K a
  | .er e => Z e
  | .bad => False
theorem wpR_bind {α β : Type} {m : R α} {k : α → R β} {K : β → Prop} {Z : Er → Prop} (h : wpR (m.bind k) K Z) : wpR m (fun a => wpR (k a) K Z) Z := by
  cases m with
  | ok a => exact h
  | er e => exact h
  | bad => exact h
theorem wpR_mono {α : Type} {m : R α} {K K' : α → Prop} {Z Z' : Er → Prop} (h : wpR m K Z) (hk : ∀ a, K a → K' a) (hz : ∀ e, Z e → Z' e) : wpR m K' Z' := by
  cases m with
  | ok a => exact hk a h
  | er e => exact hz e h
  | bad => exact h
theorem wpR_calm {α : Type} {m : R α} {K : α → Prop} {Z : Er → Prop} (h : wpR m.calm K Z) : wpR m K fun _ => False := by
  cases m with
  | ok a => exact h
  | er e => exact False.elim h
  | bad => exact h
theorem wpR_chk {c : Prop} [Decidable c] {α : Type} {a : α} {K : α → Prop} {Z : Er → Prop} (h : wpR (chk c a) K Z) : c ∧ K a := by
  unfold chk at h
  by_cases e : c
  · rw [if_pos e] at h
    exact ⟨e, h⟩
  · rw [if_neg e] at h
    exact False.elim h
theorem wpR_opt {α : Type} {o : Option α} {K : α → Prop} {Z : Er → Prop} (h : wpR (ofOpt o) K Z) : ∃ a, o = some a ∧ K a := by
  cases o with
  | none => exact False.elim h
  | some a => exact ⟨a, rfl, h⟩

/-! ### data on the heap -/
theorem Same.upd {H : Hp} {p : Addr} {o : HO} (h : H p = none) : Same H (upd H p o) := fun b x e => by
  rw [upd_ne (ne_of_none e h)]
  exact e
structure Rp (α : Type) where
  rep : α → Hp → V → Prop
  mono : ∀ {a : α} {H H' : Hp} {v : V}, Same H H' → rep a H v → rep a H' v
/-- several values in a row -/
structure Tr (τ : Type) where
  rep : τ → Hp → List V → Prop
  mono : ∀ {a : τ} {H H' : Hp} {vs : List V}, Same H H' → rep a H vs → rep a H' vs
def rI : Rp Int := ⟨fun i _ v => v = .int i, fun _ h => h⟩
def rB : Rp Bool := ⟨fun b _ v => v = .bl b, fun _ h => h⟩
def rS : Rp Str := ⟨fun s _ v => v = .str s, fun _ h => h⟩
def rO {α : Type} (ρ : Rp α) : Rp (Option α) :=
  ⟨fun a H v => match a with | none => v = .non | some x => ρ.rep x H v, fun {a H H' v} e h => by
    cases a with
    | none => exact h
    | some x => exact ρ.mono e h⟩
def rSum {α β : Type} (ρ : Rp α) (π : Rp β) : Rp (Sum α β) :=
  ⟨fun a H v => match a with | .inl x => ρ.rep x H v | .inr y => π.rep y H v, fun {a H H' v} e h => by
    cases a with
    | inl x => exact ρ.mono e h
    | inr y => exact π.mono e h⟩
def t0 : Tr Unit := ⟨fun _ _ vs => vs = [], fun _ h => h⟩
def t1 {α : Type} (ρ : Rp α) : Tr α := ⟨fun a H vs => ∃ v, vs = [v] ∧ ρ.rep a H v, fun e ⟨v, h, r⟩ => ⟨v, h, ρ.mono e r⟩⟩
def tc {α τ : Type} (ρ : Rp α) (t : Tr τ) : Tr (α × τ) := ⟨fun a H vs => ∃ v ws, vs = v :: ws ∧ ρ.rep a.1 H v ∧ t.rep a.2 H ws, fun e ⟨v, ws, h, r, q⟩ => ⟨v, ws, h, ρ.mono e r, t.mono e q⟩⟩
inductive RepL {α : Type} (ρ : Rp α) (H : Hp) : List α → List V → Prop
  | nil : RepL ρ H [] []
  | cons {a : α} {as : List α} {v : V} {vs : List V} : ρ.rep a H v → RepL ρ H as vs → RepL ρ H (a :: as) (v :: vs)
theorem RepL.mono {α : Type} {ρ : Rp α} {H H' : Hp} (e : Same H H') : ∀ {as : List α} {vs : List V}, RepL ρ H as vs → RepL ρ H' as vs
  | _, _, .nil => .nil
  | _, _, .cons r t => .cons (ρ.mono e r) (RepL.mono e t)
theorem RepL.length {α : Type} {ρ : Rp α} {H : Hp} : ∀ {as : List α} {vs : List V}, RepL ρ H as vs → as.length = vs.length
  | _, _, .nil => rfl
  | _, _, .cons r t => congrArg (· + 1) (RepL.length t)
theorem RepL.append {α : Type} {ρ : Rp α} {H : Hp} : ∀ {as bs : List α} {vs ws : List V}, RepL ρ H as vs → RepL ρ H bs ws → RepL ρ H (as ++ bs) (vs ++ ws)
  | _, _, _, _, .nil, q => q
  | _, _, _, _, .cons r t, q => .cons r (RepL.append t q)
theorem RepL.get {α : Type} {ρ : Rp α} {H : Hp} : ∀ {as : List α} {vs : List V} {i : Nat} {v : V}, RepL ρ H as vs → vs[i]? = some v → ∃ a, as[i]? = some a ∧ ρ.rep a H v
  | _, _, _, _, .nil, e => by simp at e
  | _, _, 0, _, .cons r _, e => by
    simp at e
    subst e
    exact ⟨_, rfl, r⟩
  | _, _, i + 1, v, .cons _ t, e => by
    obtain ⟨a, h1, h2⟩ := RepL.get (i := i) t (by simpa using e)
    exact ⟨a, by simpa using h1, h2⟩
theorem RepL.got {α : Type} {ρ : Rp α} {H : Hp} : ∀ {as : List α} {vs : List V} {i : Nat} {a : α}, RepL ρ H as vs → as[i]? = some a → ∃ v, vs[i]? = some v ∧ ρ.rep a H v
  | _, _, _, _, .nil, e => by simp at e
  | _, _, 0, _, .cons r _, e => by
    simp at e
    subst e
    exact ⟨_, rfl, r⟩
  | _, _, i + 1, v, .cons _ t, e => by
    obtain ⟨a, h1, h2⟩ := RepL.got (i := i) t (by simpa using e)
    exact ⟨a, by simpa using h1, h2⟩
theorem RepL.take {α : Type} {ρ : Rp α} {H : Hp} : ∀ {as : List α} {vs : List V} (n : Nat), RepL ρ H as vs → RepL ρ H (as.take n) (vs.take n)
  | _, _, 0, _ => .nil
  | _, _, _ + 1, .nil => .nil
  | _, _, n + 1, .cons r t => .cons r (RepL.take n t)
theorem RepL.drop {α : Type} {ρ : Rp α} {H : Hp} : ∀ {as : List α} {vs : List V} (n : Nat), RepL ρ H as vs → RepL ρ H (as.drop n) (vs.drop n)
  | _, _, 0, r => r
  | _, _, _ + 1, .nil => .nil
  | _, _, n + 1, .cons _ t => RepL.drop n t
theorem RepL.set {α : Type} {ρ : Rp α} {H : Hp} {a : α} {v : V} (r : ρ.rep a H v) : ∀ {as : List α} {vs : List V} (i : Nat), RepL ρ H as vs → RepL ρ H (as.set i a) (vs.set i v)
  | _, _, _, .nil => .nil
  | _, _, 0, .cons _ t => .cons r t
  | _, _, i + 1, .cons q t => .cons q (RepL.set r i t)
def tl {α : Type} (ρ : Rp α) : Tr (List α) := ⟨fun a H vs => RepL ρ H a vs, fun e h => h.mono e⟩
/-- a tuple -/
def rTu {τ : Type} (t : Tr τ) : Rp τ := ⟨fun a H v => ∃ p vs, v = .ref p ∧ H p = some (.tup vs) ∧ t.rep a H vs, fun e ⟨p, vs, h, q, r⟩ => ⟨p, vs, h, e p _ q, t.mono e r⟩⟩
/-- a list that stays as it is -/
def rLi {τ : Type} (t : Tr τ) : Rp τ := ⟨fun a H v => ∃ p vs, v = .ref p ∧ H p = some (.lst vs) ∧ t.rep a H vs, fun e ⟨p, vs, h, q, r⟩ => ⟨p, vs, h, e p _ q, t.mono e r⟩⟩
abbrev rT {α : Type} (ρ : Rp α) : Rp (List α) := rTu (tl ρ)
abbrev rL {α : Type} (ρ : Rp α) : Rp (List α) := rLi (tl ρ)
abbrev rP {α β : Type} (ρ : Rp α) (π : Rp β) : Rp (α × β) := rTu (tc ρ (t1 π))
abbrev rC : Rp (Int × Int) := rP rI rI
/-- the script: a list of ints that is read alone -/
def rScr (K : PySem.W.Frag) : Rp (List Int) := ⟨fun ns H v => ∃ p, v = .ref p ∧ SqL K H p (ns.map V.int), fun e ⟨p, h, q⟩ => ⟨p, h, Same.seq e q⟩⟩

/-! ### slots -/
structure PRp where
  p : Hp → V → Prop
  m : ∀ {H H' : Hp} {v : V}, Same H H' → p H v → p H' v
structure ORp where
  p : Hp → HO → Prop
  m : ∀ {H H' : Hp} {o : HO}, Same H H' → p H o → p H' o
  nt : ∀ {H : Hp} {o : HO}, p H o → ∀ vs, o ≠ .tup vs
inductive Sl where
  | any
  | imm (p : PRp)
  | own (a : Option Addr) (o : ORp)
abbrev im {α : Type} (ρ : Rp α) (a : α) : Sl := .imm ⟨fun H v => ρ.rep a H v, fun e h => ρ.mono e h⟩
/-- an entry: what was known, the heap, the objects that may be changed -/
structure En where
  F : Hp
  H : Hp
  ps : Addr → Prop

structure SA (en : En) (Γ : List Sl) (F : Hp) (σ : L2.St) (H : Hp) : Prop where
  len : Γ.length ≤ σ.length
  sub : Same F H
  grow : Same en.F F
  old : ∀ p o, en.H p = some o → ¬ en.ps p → H p = some o
  there : ∀ p, en.H p ≠ none → H p ≠ none
  frz : ∀ p, en.H p ≠ none → en.F p = none → ¬ en.ps p → F p = none ∨ ∃ vs, F p = some (.tup vs)
  val : ∀ (i : Nat) (P : PRp), Γ[i]? = some (.imm P) → ∃ v, σ[i]? = some (some v) ∧ P.p F v
  own : ∀ (i : Nat) (a : Option Addr) (P : ORp), Γ[i]? = some (.own a P) → ∃ p o, σ[i]? = some (some (.ref p)) ∧ F p = none ∧ H p = some o ∧ P.p F o ∧ (en.H p = none ∨ en.ps p) ∧ (∀ q, a = some q → p = q)
  dis : ∀ (i j : Nat) (a b : Option Addr) (P Q : ORp) (p : Addr), i ≠ j → Γ[i]? = some (.own a P) → Γ[j]? = some (.own b Q) → σ[i]? = some (some (.ref p)) → σ[j]? ≠ some (some (.ref p))

/-- the heap grows, what is known grows by what is new -/
structure Ext (F H F' H' : Hp) : Prop where
  f : Same F F'
  h : Same H H'
  s : Same F' H'
  n : ∀ p, H p ≠ none → F p = none → F' p = none ∨ ∃ vs, F' p = some (.tup vs)
theorem Ext.refl {F H : Hp} (e : Same F H) : Ext F H F H := ⟨Same.refl F, Same.refl H, e, fun _ _ h => .inl h⟩
theorem same_ne {H H' : Hp} (e : Same H H') {p : Addr} (h : H p ≠ none) : H' p ≠ none := by
  cases q : H p with
  | none => exact absurd q h
  | some o =>
    rw [e p o q]
    exact fun z => nomatch z
theorem Ext.trans {F H F1 H1 F2 H2 : Hp} (a : Ext F H F1 H1) (b : Ext F1 H1 F2 H2) : Ext F H F2 H2 :=
  ⟨a.f.trans b.f, a.h.trans b.h, b.s, fun p hp hf => (a.n p hp hf).elim (fun z => b.n p (same_ne a.h hp) z) fun ⟨vs, z⟩ => .inr ⟨vs, b.f p _ z⟩⟩
/-- a new object that is known at once -/
theorem Ext.new {F H : Hp} (e : Same F H) {p : Addr} {o : HO} (h : H p = none) : Ext F H (upd F p o) (upd H p o) := by
  have hf : F p = none := by
    cases q : F p with
    | none => rfl
    | some x =>
      rw [e p x q] at h
      cases h
  refine ⟨Same.upd hf, Same.upd h, fun b x q => ?_, fun q hq hn => ?_⟩
  · by_cases hb : b = p
    · subst hb
      rw [upd_same] at q ⊢
      exact q
    · rw [upd_ne hb] at q ⊢
      exact e b x q
  · have : q ≠ p := fun z => by
      subst z
      exact hq h
    exact .inl (by rw [upd_ne this]; exact hn)
/-- a new object that is not known -/
theorem Ext.lay {F H : Hp} (e : Same F H) {p : Addr} {o : HO} (h : H p = none) : Ext F H F (upd H p o) :=
  ⟨Same.refl F, Same.upd h, e.trans (Same.upd h), fun _ _ z => .inl z⟩

section
variable {en : En} {Γ Γ' : List Sl} {F F' H H' : Hp} {σ σ' : L2.St}
theorem SA.ext (s : SA en Γ F σ H) (x : Ext F H F' H') : SA en Γ F' σ H' where
  len := s.len
  sub := x.s
  grow := s.grow.trans x.f
  old := fun p o h hp => x.h p o (s.old p o h hp)
  there := fun p h => same_ne x.h (s.there p h)
  frz := fun p h hf hp => (s.frz p h hf hp).elim (fun z => x.n p (s.there p h) z) fun ⟨vs, z⟩ => .inr ⟨vs, x.f p _ z⟩
  val := fun i P h => by
    obtain ⟨v, h1, h2⟩ := s.val i P h
    exact ⟨v, h1, P.m x.f h2⟩
  own := fun i a P h => by
    obtain ⟨p, o, h1, h2, h3, h4, h5, h6⟩ := s.own i a P h
    refine ⟨p, o, h1, ?_, x.h p o h3, P.m x.f h4, h5, h6⟩
    rcases x.n p (fun z => by rw [h3] at z; cases z) h2 with z | ⟨vs, z⟩
    · exact z
    · have y := x.s p _ z
      rw [x.h p o h3] at y
      exact absurd (Option.some.inj y) (P.nt h4 vs)
  dis := s.dis
/-- a slot is set to a known value -/
theorem SA.put (s : SA en Γ F σ H) {i : Nat} {P : PRp} {v : V} (h : P.p F v) : SA en (Γ.set i (.imm P)) F (σ.set i (some v)) H where
  len := by
    rw [List.length_set, List.length_set]
    exact s.len
  sub := s.sub
  grow := s.grow
  old := s.old
  there := s.there
  frz := s.frz
  val := fun j Q hj => by
    by_cases e : i = j
    · subst e
      by_cases hi : i < Γ.length
      · rw [List.getElem?_set_self hi] at hj
        injection hj with hj
        injection hj with hj
        subst hj
        exact ⟨v, List.getElem?_set_self (Nat.lt_of_lt_of_le hi s.len), h⟩
      · rw [List.getElem?_eq_none (by rw [List.length_set]; omega)] at hj
        cases hj
    · rw [List.getElem?_set_ne e] at hj ⊢
      exact s.val j Q hj
  own := fun j a Q hj => by
    by_cases e : i = j
    · subst e
      by_cases hi : i < Γ.length
      · rw [List.getElem?_set_self hi] at hj
        cases hj
      · rw [List.getElem?_eq_none (by rw [List.length_set]; omega)] at hj
        cases hj
    · rw [List.getElem?_set_ne e] at hj ⊢
      exact s.own j a Q hj
  dis := fun j k a b P' Q p hjk hj hk hp => by
    have ne : ∀ {l : Nat} {a : Option Addr} {P' : ORp}, (Γ.set i (.imm P))[l]? = some (.own a P') → i ≠ l := fun {l a P'} hl e => by
      subst e
      by_cases hi : i < Γ.length
      · rw [List.getElem?_set_self hi] at hl
        cases hl
      · rw [List.getElem?_eq_none (by rw [List.length_set]; omega)] at hl
        cases hl
    have nj := ne hj
    have nk := ne hk
    rw [List.getElem?_set_ne nj] at hj hp
    rw [List.getElem?_set_ne nk] at hk ⊢
    exact s.dis j k a b P' Q p hjk hj hk hp
/-- an object that no slot has, that is not known -/
structure Fresh (en : En) (Γ : List Sl) (F : Hp) (σ : L2.St) (H : Hp) (p : Addr) (o : HO) : Prop where
  f : F p = none
  e : en.H p = none
  n : ∀ (i : Nat) (a : Option Addr) (P : ORp), Γ[i]? = some (.own a P) → σ[i]? ≠ some (some (.ref p))
  h : H p = some o
theorem none_back {H H' : Hp} (e : Same H H') {p : Addr} (h : H' p = none) : H p = none := by
  cases q : H p with
  | none => rfl
  | some x =>
    rw [e p x q] at h
    cases h
theorem SA.gone (s : SA en Γ F σ H) {p : Addr} (hp : H p = none) : en.H p = none := by
  cases q : en.H p with
  | none => rfl
  | some x => exact absurd hp (s.there p (by rw [q]; exact fun z => nomatch z))
theorem SA.ref_ne (s : SA en Γ F σ H) {p : Addr} (hp : H p = none) (i : Nat) (a : Option Addr) (P : ORp) (hi : Γ[i]? = some (.own a P)) : σ[i]? ≠ some (some (.ref p)) := fun z => by
  obtain ⟨q, x, h1, h2, h3, _⟩ := s.own i a P hi
  rw [h1] at z
  injection z with z
  injection z with z
  injection z with z
  subst z
  rw [h3] at hp
  cases hp
/-- a new object is laid -/
theorem SA.lay (s : SA en Γ F σ H) {p : Addr} {o : HO} (hp : H p = none) : SA en Γ F σ (upd H p o) ∧ Fresh en Γ F σ (upd H p o) p o :=
  ⟨s.ext (Ext.lay s.sub hp), none_back s.sub hp, s.gone hp, s.ref_ne hp, upd_same⟩
/-- it becomes known -/
theorem SA.know (s : SA en Γ F σ H) {p : Addr} {o : HO} (h : Fresh en Γ F σ H p o) : SA en Γ (upd F p o) σ H ∧ Same F (upd F p o) := by
  have sf : Same F (upd F p o) := Same.upd h.f
  refine ⟨⟨s.len, fun b x e => ?_, s.grow.trans sf, s.old, s.there, fun b hb hf hps => ?_, fun j Q hj => ?_, fun j b Q hj => ?_, s.dis⟩, sf⟩
  · by_cases z : b = p
    · subst z
      rw [upd_same] at e
      cases e
      exact h.h
    · rw [upd_ne z] at e
      exact s.sub b x e
  · have : b ≠ p := fun z => by
      subst z
      exact hb h.e
    rcases s.frz b hb hf hps with z | ⟨vs, z⟩
    · exact .inl (by rw [upd_ne this]; exact z)
    · exact .inr ⟨vs, by rw [upd_ne this]; exact z⟩
  · obtain ⟨v, g1, g2⟩ := s.val j Q hj
    exact ⟨v, g1, Q.m sf g2⟩
  · obtain ⟨q, x, g1, g2, g3, g4, g5, g6⟩ := s.own j b Q hj
    have : q ≠ p := fun z => by
      subst z
      exact h.n j b Q hj g1
    exact ⟨q, x, g1, by rw [upd_ne this]; exact g2, g3, Q.m sf g4, g5, g6⟩
theorem no_tup {F H : Hp} (sub : Same F H) {p : Addr} {o : HO} (h : F p = none ∨ ∃ vs, F p = some (.tup vs)) (ho : H p = some o) (hm : ∀ vs, o ≠ .tup vs) : F p = none := by
  rcases h with z | ⟨vs, z⟩
  · exact z
  · have y := sub p _ z
    rw [ho] at y
    exact absurd (Option.some.inj y) (hm vs)
/-- a slot is set to it -/
theorem SA.putOwn (s : SA en Γ F σ H) {i : Nat} {P : ORp} {p : Addr} {o : HO} (fr : Fresh en Γ F σ H p o) (h : P.p F o) : SA en (Γ.set i (.own none P)) F (σ.set i (some (.ref p))) H := by
  refine ⟨?_, s.sub, s.grow, s.old, s.there, s.frz, fun j Q hj => ?_, fun j a Q hj => ?_, fun j k a b P' Q q hjk hj hk hq => ?_⟩
  · rw [List.length_set, List.length_set]
    exact s.len
  · by_cases e : i = j
    · subst e
      by_cases hi : i < Γ.length
      · rw [List.getElem?_set_self hi] at hj
        cases hj
      · rw [List.getElem?_eq_none (by rw [List.length_set]; omega)] at hj
        cases hj
    · rw [List.getElem?_set_ne e] at hj ⊢
      exact s.val j Q hj
  · by_cases e : i = j
    · subst e
      by_cases hi : i < Γ.length
      · rw [List.getElem?_set_self hi] at hj
        injection hj with hj
        injection hj with h1 h2
        subst h1 h2
        exact ⟨p, o, List.getElem?_set_self (Nat.lt_of_lt_of_le hi s.len), fr.f, fr.h, h, .inl fr.e, fun q z => nomatch z⟩
      · rw [List.getElem?_eq_none (by rw [List.length_set]; omega)] at hj
        cases hj
    · rw [List.getElem?_set_ne e] at hj ⊢
      exact s.own j a Q hj
  · by_cases ej : i = j
    · subst ej
      have ek : i ≠ k := hjk
      rw [List.getElem?_set_ne ek] at hk ⊢
      have hi : i < Γ.length := by
        by_cases hi : i < Γ.length
        · exact hi
        · rw [List.getElem?_eq_none (by rw [List.length_set]; omega)] at hj
          cases hj
      rw [List.getElem?_set_self (Nat.lt_of_lt_of_le hi s.len)] at hq
      injection hq with hq
      injection hq with hq
      injection hq with hq
      subst hq
      exact fr.n _ _ _ hk
    · rw [List.getElem?_set_ne ej] at hj hq
      by_cases ek : i = k
      · subst ek
        intro z
        have hi : i < Γ.length := by
          by_cases hi : i < Γ.length
          · exact hi
          · rw [List.getElem?_eq_none (by rw [List.length_set]; omega)] at hk
            cases hk
        rw [List.getElem?_set_self (Nat.lt_of_lt_of_le hi s.len)] at z
        injection z with z
        injection z with z
        injection z with z
        subst z
        exact fr.n _ _ _ hj hq
      · rw [List.getElem?_set_ne ek] at hk ⊢
        exact s.dis j k a b P' Q q hjk hj hk hq
/-- an object that is not known, that no slot has, that is new since the entry, is changed -/
theorem SA.other (s : SA en Γ F σ H) {p : Addr} {o o' : HO} (fr : Fresh en Γ F σ H p o) : SA en Γ F σ (upd H p o') ∧ Fresh en Γ F σ (upd H p o') p o' := by
  refine ⟨⟨s.len, fun b x e => ?_, s.grow, fun b x e hb => ?_, fun b hb => ?_, s.frz, s.val, fun j b Q hj => ?_, s.dis⟩, fr.f, fr.e, fr.n, upd_same⟩
  · have : b ≠ p := fun z => by
      subst z
      rw [fr.f] at e
      cases e
    rw [upd_ne this]
    exact s.sub b x e
  · have : b ≠ p := fun z => by
      subst z
      rw [fr.e] at e
      cases e
    rw [upd_ne this]
    exact s.old b x e hb
  · have : b ≠ p := fun z => by
      subst z
      exact hb fr.e
    rw [upd_ne this]
    exact s.there b hb
  · obtain ⟨q, x, g1, g2, g3, g4, g5, g6⟩ := s.own j b Q hj
    have : q ≠ p := fun z => by
      subst z
      exact fr.n j b Q hj g1
    exact ⟨q, x, g1, g2, by rw [upd_ne this]; exact g3, g4, g5, g6⟩
/-- what the slots own -/
def Ows (Γ : List Sl) (σ : L2.St) (p : Addr) : Prop := ∃ (i : Nat) (a : Option Addr) (P : ORp), Γ[i]? = some (.own a P) ∧ σ[i]? = some (some (.ref p))
/-- a new entry here -/
theorem SA.re (s : SA en Γ F σ H) : SA ⟨F, H, Ows Γ σ⟩ Γ F σ H where
  len := s.len
  sub := s.sub
  grow := Same.refl F
  old := fun _ _ h _ => h
  there := fun _ h => h
  frz := fun _ _ h _ => .inl h
  val := s.val
  own := fun i a P hi => by
    obtain ⟨p, o, h1, h2, h3, h4, h5, h6⟩ := s.own i a P hi
    exact ⟨p, o, h1, h2, h3, h4, .inr ⟨i, a, P, hi, h1⟩, h6⟩
  dis := s.dis
theorem SA.ows (s : SA en Γ F σ H) {p : Addr} (h : Ows Γ σ p) : en.H p = none ∨ en.ps p := by
  obtain ⟨i, a, P, hi, hs⟩ := h
  obtain ⟨q, x, h1, _, _, _, h5, _⟩ := s.own i a P hi
  rw [hs] at h1
  injection h1 with h1
  injection h1 with h1
  injection h1 with h1
  subst h1
  exact h5
/-- back at the old entry -/
theorem SA.back (s : SA en Γ F σ H) (s' : SA ⟨F, H, Ows Γ σ⟩ Γ' F' σ' H') : SA en Γ' F' σ' H' where
  len := s'.len
  sub := s'.sub
  grow := s.grow.trans s'.grow
  old := fun p o h hp => s'.old p o (s.old p o h hp) fun ⟨i, a, P, hi, hs⟩ => by
    obtain ⟨q, x, h1, _, _, _, h5, _⟩ := s.own i a P hi
    rw [hs] at h1
    injection h1 with h1
    injection h1 with h1
    injection h1 with h1
    subst h1
    rcases h5 with z | z
    · rw [z] at h
      cases h
    · exact hp z
  there := fun p h => s'.there p (s.there p h)
  frz := fun p h hf hp => (s.frz p h hf hp).elim (fun q => s'.frz p (s.there p h) q fun z => (s.ows z).elim (fun y => h y) hp) fun ⟨vs, z⟩ => .inr ⟨vs, s'.grow p _ z⟩
  val := s'.val
  own := fun i a P hi => by
    obtain ⟨p, o, h1, h2, h3, h4, h5, h6⟩ := s'.own i a P hi
    refine ⟨p, o, h1, h2, h3, h4, ?_, h6⟩
    rcases h5 with z | ⟨j, b, Q, hj, hs⟩
    · exact .inl (s.gone z)
    · obtain ⟨q, x, g1, _, _, _, g5, _⟩ := s.own j b Q hj
      rw [hs] at g1
      injection g1 with g1
      injection g1 with g1
      injection g1 with g1
      subst g1
      exact g5
  dis := s'.dis
/-- an untouched object stays fresh -/
theorem Fresh.on {o : HO} {p : Addr} (hm : ∀ vs, o ≠ .tup vs) (fr : Fresh en Γ F σ H p o) (s' : SA ⟨F, H, Ows Γ σ⟩ Γ F' σ H') : Fresh en Γ F' σ H' p o where
  f := by
    rcases s'.frz p (by show H p ≠ none; rw [fr.h]; exact fun z => nomatch z) fr.f fun ⟨i, a, P, hi, hs⟩ => fr.n i a P hi hs with z | ⟨vs, z⟩
    · exact z
    · have y := s'.sub p _ z
      rw [s'.old p o fr.h fun ⟨i, a, P, hi, hs⟩ => fr.n i a P hi hs] at y
      exact absurd (Option.some.inj y) (hm vs)
  e := fr.e
  n := fr.n
  h := s'.old p o fr.h fun ⟨i, a, P, hi, hs⟩ => fr.n i a P hi hs
/-- an own object is changed -/
theorem SA.mut (s : SA en Γ F σ H) {i : Nat} {a : Option Addr} {P P' : ORp} {p : Addr} {o' : HO} (hi : Γ[i]? = some (.own a P)) (hp : σ[i]? = some (some (.ref p))) (h : P'.p F o') : SA en (Γ.set i (.own a P')) F σ (upd H p o') := by
  obtain ⟨p', o, h1, h2, h3, h4, h5, h6⟩ := s.own i a P hi
  rw [hp] at h1
  injection h1 with h1
  injection h1 with h1
  injection h1 with h1
  subst h1
  have hil : i < Γ.length := by
    by_cases z : i < Γ.length
    · exact z
    · rw [List.getElem?_eq_none (by omega)] at hi
      cases hi
  have fne : ∀ b x, F b = some x → b ≠ p := fun b x e z => by
    subst z
    rw [h2] at e
    cases e
  refine ⟨?_, fun b x e => ?_, s.grow, fun b x e hb => ?_, fun b hb => ?_, s.frz, fun j Q hj => ?_, fun j b Q hj => ?_, fun j k b c Q Q' q hjk hj hk hq => ?_⟩
  · rw [List.length_set]
    exact s.len
  · rw [upd_ne (fne b x e)]
    exact s.sub b x e
  · have : b ≠ p := fun z => by
      subst z
      rcases h5 with z | z
      · rw [z] at e
        cases e
      · exact hb z
    rw [upd_ne this]
    exact s.old b x e hb
  · by_cases e : b = p
    · subst e
      rw [upd_same]
      exact fun z => nomatch z
    · rw [upd_ne e]
      exact s.there b hb
  · by_cases e : i = j
    · subst e
      rw [List.getElem?_set_self hil] at hj
      cases hj
    · rw [List.getElem?_set_ne e] at hj
      exact s.val j Q hj
  · by_cases e : i = j
    · subst e
      rw [List.getElem?_set_self hil] at hj
      injection hj with hj
      injection hj with e1 e2
      subst e1 e2
      exact ⟨p, o', hp, h2, upd_same, h, h5, h6⟩
    · rw [List.getElem?_set_ne e] at hj
      obtain ⟨q, x, g1, g2, g3, g4, g5, g6⟩ := s.own j b Q hj
      have : q ≠ p := fun z => by
        subst z
        exact s.dis i j a b P Q _ e hi hj hp g1
      exact ⟨q, x, g1, g2, by rw [upd_ne this]; exact g3, g4, g5, g6⟩
  · have back : ∀ {l : Nat} {b : Option Addr} {Q : ORp}, (Γ.set i (.own a P'))[l]? = some (.own b Q) → ∃ b' Q', Γ[l]? = some (.own b' Q') := fun {l b Q} hl => by
      by_cases e : i = l
      · subst e
        exact ⟨a, P, hi⟩
      · rw [List.getElem?_set_ne e] at hl
        exact ⟨b, Q, hl⟩
    obtain ⟨b', P1, gj⟩ := back hj
    obtain ⟨c', P2, gk⟩ := back hk
    exact s.dis j k b' c' P1 P2 q hjk gj gk hq
/-- an own object that no one else has becomes known -/
theorem SA.give (s : SA en Γ F σ H) {i : Nat} {a0 : Option Addr} {P : ORp} {p : Addr} {o : HO} (hi : Γ[i]? = some (.own a0 P)) (hp : σ[i]? = some (some (.ref p))) (ho : H p = some o) : SA en (Γ.set i .any) (upd F p o) σ H := by
  obtain ⟨p', o', h1, h2, h3, h4, h5, h6⟩ := s.own i _ P hi
  rw [hp] at h1
  injection h1 with h1
  injection h1 with h1
  injection h1 with h1
  subst h1
  rw [ho] at h3
  cases h3
  have sf : Same F (upd F p o) := Same.upd h2
  have ne : ∀ {l : Nat} {x : Sl}, (Γ.set i .any)[l]? = some x → x ≠ .any → i ≠ l := fun {l x} hl hx e => by
    subst e
    by_cases hi : i < Γ.length
    · rw [List.getElem?_set_self hi] at hl
      exact hx (Option.some.inj hl).symm
    · rw [List.getElem?_eq_none (by rw [List.length_set]; omega)] at hl
      cases hl
  refine ⟨?_, fun b x e => ?_, s.grow.trans sf, s.old, s.there, fun b hb hf hps => ?_, fun j Q hj => ?_, fun j b Q hj => ?_, fun j k b c Q Q' q hjk hj hk hq => ?_⟩
  · rw [List.length_set]
    exact s.len
  · by_cases z : b = p
    · subst z
      rw [upd_same] at e
      cases e
      exact ho
    · rw [upd_ne z] at e
      exact s.sub b x e
  · have : b ≠ p := fun z => by
      subst z
      rcases h5 with y | y
      · exact hb y
      · exact hps y
    rcases s.frz b hb hf hps with z | ⟨vs, z⟩
    · exact .inl (by rw [upd_ne this]; exact z)
    · exact .inr ⟨vs, by rw [upd_ne this]; exact z⟩
  · have e := ne hj (fun z => nomatch z)
    rw [List.getElem?_set_ne e] at hj
    obtain ⟨v, g1, g2⟩ := s.val j Q hj
    exact ⟨v, g1, Q.m sf g2⟩
  · have e := ne hj (fun z => nomatch z)
    rw [List.getElem?_set_ne e] at hj
    obtain ⟨q, x, g1, g2, g3, g4, g5, g6⟩ := s.own j b Q hj
    have : q ≠ p := fun z => by
      subst z
      exact s.dis i j a0 b P Q _ e hi hj hp g1
    exact ⟨q, x, g1, by rw [upd_ne this]; exact g2, g3, Q.m sf g4, g5, g6⟩
  · rw [List.getElem?_set_ne (ne hj (fun z => nomatch z))] at hj
    rw [List.getElem?_set_ne (ne hk (fun z => nomatch z))] at hk
    exact s.dis j k b c Q Q' q hjk hj hk hq
/-- less is known -/
inductive SlLe : Sl → Sl → Prop
  | any {s : Sl} : SlLe .any s
  | rfl {s : Sl} : SlLe s s
inductive Le : List Sl → List Sl → Prop
  | nil {l : List Sl} : Le [] l
  | cons {a b : Sl} {l m : List Sl} : SlLe a b → Le l m → Le (a :: l) (b :: m)
theorem Le.len : ∀ {l m : List Sl}, Le l m → l.length ≤ m.length
  | _, _, .nil => Nat.zero_le _
  | _, _, .cons _ t => Nat.succ_le_succ (Le.len t)
theorem Le.get : ∀ {l m : List Sl} {i : Nat} {x : Sl}, Le l m → l[i]? = some x → x = .any ∨ m[i]? = some x
  | _, _, _, _, .nil, e => by simp at e
  | _, _, 0, _, .cons h _, e => by
    simp at e
    subst e
    cases h with
    | any => exact .inl rfl
    | rfl => exact .inr rfl
  | _, _, i + 1, x, .cons _ t, e => by
    rcases Le.get (i := i) t (by simpa using e) with h | h
    · exact .inl h
    · exact .inr (by simpa using h)
theorem Le.refl : ∀ {l : List Sl}, Le l l
  | [] => .nil
  | _ :: _ => .cons .rfl Le.refl
theorem SA.le (s : SA en Γ F σ H) (h : Le Γ' Γ) : SA en Γ' F σ H where
  len := Nat.le_trans h.len s.len
  sub := s.sub
  grow := s.grow
  old := s.old
  there := s.there
  frz := s.frz
  val := fun i P hi => by
    rcases h.get hi with z | z
    · cases z
    · exact s.val i P z
  own := fun i a P hi => by
    rcases h.get hi with z | z
    · cases z
    · exact s.own i a P z
  dis := fun i j a b P Q p hij hi hj hp => by
    rcases h.get hi with z | z
    · cases z
    · rcases h.get hj with y | y
      · cases y
      · exact s.dis i j a b P Q p hij z y hp
end
end Py

/-! Own layer, part B: the judgements (EG, BG, AG, FG, SX) and the rules of expressions. -/
namespace Py
open PySem PySem.Spec PyProof.Rows L2

/-! ### the weakest readings -/
def wE (X : Cx) (e : Expr) : TE := fun σ H Q => ∀ pins s, Inv X pins σ H s → wpAny (model X.prog X.w) X.A (eval e X.env) (EP X pins σ Q) X.xe s
def wT (X : Cx) (e : Expr) : TT := fun σ H Q => ∀ (whole : Sem Value) pins s, (whole = eval e X.env) → Inv X pins σ H s → wpAny (model X.prog X.w) X.A (isTrue e X.env whole) (TP X pins σ Q) X.xe s
def wA (X : Cx) (es : List Expr) : TA := fun σ H Q => ∀ (pos : Pos) pins s, Inv X pins σ H s → wpAny (model X.prog X.w) X.A (spliced (backTo pos (starEach es X.env))) (AP X pins σ Q) X.xe s
def wS (X : Cx) (st : Stmt) : TS := fun D σ H => ∀ pins s, Inv X pins σ H s → wpAny (model X.prog X.w) X.A (exec st X.env) (SP X pins D) X.xe s
def wSs (X : Cx) (sts : List Stmt) : TS := fun D σ H => ∀ pins s, Inv X pins σ H s → wpAny (model X.prog X.w) X.A (execs sts X.env) (SP X pins D) X.xe s
section
variable {X : Cx} {e : Expr} {es : List Expr} {st : Stmt} {sts : List Stmt} {σ : L2.St} {H : Hp}
theorem wE_pe : PE X e (wE X e) := ⟨fun pins s _ _ _ I h => h pins s I⟩
theorem wT_pt : PT X e (wT X e) := ⟨fun pins s _ _ _ I h => h _ pins s rfl I⟩
theorem wA_pa : PA X es (wA X es) := ⟨fun pos pins s _ _ _ I h => h pos pins s I⟩
theorem wS_ps : PS X st (wS X st) := ⟨fun pins s _ _ _ I h => h pins s I⟩
theorem wSs_pss : PSs X sts (wSs X sts) := ⟨fun pins s _ _ _ I h => h pins s I⟩
theorem wE_of {t : TE} {Q : VK} (h : PE X e t) (q : t σ H Q) : wE X e σ H Q := fun pins s I => h.run pins s σ H Q I q
theorem wT_of {t : TT} {Q : Bool → Hp → Prop} (h : PT X e t) (q : t σ H Q) : wT X e σ H Q := fun whole pins s hw I => by
  subst hw
  exact h.run pins s σ H Q I q
theorem wA_of {t : TA} {Q : List V → Hp → Prop} (h : PA X es t) (q : t σ H Q) : wA X es σ H Q := fun pos pins s I => h.run pos pins s σ H Q I q
theorem wS_of {t : TS} {D : Ends} (h : PS X st t) (q : t D σ H) : wS X st D σ H := fun pins s I => h.run pins s σ H D I q
theorem wSs_of {t : TS} {D : Ends} (h : PSs X sts t) (q : t D σ H) : wSs X sts D σ H := fun pins s I => h.run pins s σ H D I q
theorem wSs_lock {D : Ends} {d : Addr} {u : HO} (hd : H d = some u) (mu : Mut (some u)) (k : ∀ od, wSs X sts D σ (upd H d (.frz od u))) : wSs X sts D σ H := fun pins s I => by
  obtain ⟨od, I1⟩ := I.lock hd mu
  exact k od pins s I1
end

/-! ### errors -/
def ErOk (mg : Str → Option Value) (e : Er) (cls : Value) (d : Option Addr) (F : Hp) : Prop :=
  ∃ C, mg e.cls = some (.ref C) ∧ cls = .ref C ∧ match e.fld with
    | none => d = none
    | some n => ∃ a f, d = some a ∧ F a = some (.xd [(f, .int n)])
/-- what is wished of an error, and what the slots hold then -/
structure Wi where
  W : WX
  Γ : List Sl
def Wi.ok (U : Wi) (mg : Str → Option Value) (en : En) (F : Hp) (r : Er) : Prop :=
  ∀ cls d F' σ' H', Same F F' → SA en U.Γ F' σ' H' → ErOk mg r cls d F' → U.W cls d σ' H'
theorem Wi.ok.up {U : Wi} {mg : Str → Option Value} {en : En} {F F1 : Hp} {r : Er} (h : U.ok mg en F r) (e : Same F F1) : U.ok mg en F1 r :=
  fun cls d F' σ' H' s a o => h cls d F' σ' H' (e.trans s) a o

/-! ### the judgements -/
section
variable (X : Cx) (U : Wi) (Γ : List Sl)
/-- an expression: m tells what comes, val the value, Γ' what the slots hold then -/
structure EG (e : Expr) {α ω : Type} (ρ : Rp α) (m : R ω) (val : ω → α) (Γ' : ω → List Sl) : Prop where
  out : ∀ en F σ H Q, SA en Γ F σ H → wpR m (fun w => ∀ v F' H', Same F F' → SA en (Γ' w) F' σ H' → ρ.rep (val w) F' v → Q v H') (U.ok X.mg en F) → wE X e σ H Q
structure BG (e : Expr) {ω : Type} (m : R ω) (val : ω → Bool) (Γ' : ω → List Sl) : Prop where
  out : ∀ en F σ H (Q : Bool → Hp → Prop), SA en Γ F σ H → wpR m (fun w => ∀ F' H', Same F F' → SA en (Γ' w) F' σ H' → Q (val w) H') (U.ok X.mg en F) → wT X e σ H Q
structure AG (es : List Expr) {τ ω : Type} (t : Tr τ) (m : R ω) (val : ω → τ) (Γ' : ω → List Sl) : Prop where
  out : ∀ en F σ H (Q : List V → Hp → Prop), SA en Γ F σ H → wpR m (fun w => ∀ vs F' H', Same F F' → SA en (Γ' w) F' σ H' → t.rep (val w) F' vs → Q vs H') (U.ok X.mg en F) → wA X es σ H Q
/-- an expression that makes a new object -/
structure FG (e : Expr) {ω : Type} (P : ω → ORp) (m : R ω) (Γ' : ω → List Sl) : Prop where
  out : ∀ en F σ H Q, SA en Γ F σ H → wpR m (fun w => ∀ p o F' H', Same F F' → SA en (Γ' w) F' σ H' → Fresh en (Γ' w) F' σ H' p o → (P w).p F' o → Q (.ref p) H') (U.ok X.mg en F) → wE X e σ H Q
abbrev EX (e : Expr) {α : Type} (ρ : Rp α) (m : R α) : Prop := EG X U Γ e ρ m (fun a => a) fun _ => Γ
abbrev BX (e : Expr) (m : R Bool) : Prop := BG X U Γ e m (fun a => a) fun _ => Γ
abbrev AX (es : List Expr) {τ : Type} (t : Tr τ) (m : R τ) : Prop := AG X U Γ es t m (fun a => a) fun _ => Γ
abbrev FX (e : Expr) {α : Type} (P : α → ORp) (m : R α) : Prop := FG X U Γ e P m fun _ => Γ
end

/-- an object that no slot has, that is not known, that was not there or may be changed -/
structure Frs (en : En) (Γ : List Sl) (F : Hp) (σ : L2.St) (H : Hp) (p : Addr) (o : HO) : Prop where
  f : F p = none
  e : en.H p = none ∨ en.ps p
  n : ∀ (i : Nat) (a : Option Addr) (P : ORp), Γ[i]? = some (.own a P) → σ[i]? ≠ some (some (.ref p))
  h : H p = some o
/-- where a block ends -/
inductive Kd where
  | nx (Γ : List Sl)
  | go (Γ : List Sl)
  | bk (Γ : List Sl)
  | ct (Γ : List Sl)
  | rt (p : PRp) (Γ : List Sl)
  | fn (p : PRp) (Γ : List Sl)
  | rf (P : ORp) (Γ : List Sl)
def Kd.sat (k : Kd) (en : En) (F : Hp) (D : Ends) : Prop := match k with
  | .nx Γ => ∀ F' σ' H', Same F F' → SA en Γ F' σ' H' → D.nx σ' H'
  | .go Γ => ∀ F' σ' H', Same F F' → SA en Γ F' σ' H' → D.nx σ' H' ∧ D.ct σ' H'
  | .bk Γ => ∀ F' σ' H', Same F F' → SA en Γ F' σ' H' → D.bk σ' H'
  | .ct Γ => ∀ F' σ' H', Same F F' → SA en Γ F' σ' H' → D.ct σ' H'
  | .rt p Γ => ∀ v F' σ' H', Same F F' → SA en Γ F' σ' H' → p.p F' v → D.rt v H'
  | .fn p Γ => (∀ v F' σ' H', Same F F' → SA en Γ F' σ' H' → p.p F' v → D.rt v H') ∧ ∀ F' σ' H', Same F F' → SA en Γ F' σ' H' → p.p F' .non → D.nx σ' H'
  | .rf P Γ => ∀ p o F' σ' H', Same F F' → SA en Γ F' σ' H' → Frs en Γ F' σ' H' p o → P.p F' o → D.rt (.ref p) H'
theorem Kd.sat.up {k : Kd} {en : En} {F F1 : Hp} {D : Ends} (h : k.sat en F D) (e : Same F F1) : k.sat en F1 D := by
  cases k with
  | nx Γ => exact fun F' σ' H' s a => h F' σ' H' (e.trans s) a
  | go Γ => exact fun F' σ' H' s a => h F' σ' H' (e.trans s) a
  | bk Γ => exact fun F' σ' H' s a => h F' σ' H' (e.trans s) a
  | ct Γ => exact fun F' σ' H' s a => h F' σ' H' (e.trans s) a
  | rt p Γ => exact fun v F' σ' H' s a => h v F' σ' H' (e.trans s) a
  | fn p Γ => exact ⟨fun v F' σ' H' s a => h.1 v F' σ' H' (e.trans s) a, fun F' σ' H' s a => h.2 F' σ' H' (e.trans s) a⟩
  | rf P Γ => exact fun p o F' σ' H' s a => h p o F' σ' H' (e.trans s) a
structure SX (X : Cx) (U : Wi) (Γ : List Sl) (sts : List Stmt) {ω : Type} (I : ω → Kd) (m : R ω) : Prop where
  out : ∀ en F σ H D, SA en Γ F σ H → wpR m (fun o => (I o).sat en F D) (U.ok X.mg en F) → wSs X sts D σ H

/-! ### operations on data -/
/-- what a data operation may answer -/
abbrev QE {γ : Type} (ρ : Rp γ) (F H : Hp) (Q : VK) (z : γ) : Prop := ∀ u F' H', Ext F H F' H' → ρ.rep z F' u → Q u H'
def D2 {α β γ : Type} (r : R2) (ρ1 : Rp α) (ρ2 : Rp β) (ρ : Rp γ) (mr : α → β → R γ) : Prop :=
  ∀ x y v w F H Q, Same F H → ρ1.rep x F v → ρ2.rep y F w → wpR (mr x y) (QE ρ F H Q) (fun _ => False) → r v w H Q
def DC {τ γ : Type} (r : List V → Hp → VK → Prop) (t : Tr τ) (ρ : Rp γ) (mr : τ → R γ) : Prop :=
  ∀ x vs F H Q, Same F H → t.rep x F vs → wpR (mr x) (QE ρ F H Q) (fun _ => False) → r vs H Q
/-- .. a new object -/
def DF {τ γ : Type} (r : List V → Hp → VK → Prop) (t : Tr τ) (P : γ → ORp) (mr : τ → R γ) : Prop :=
  ∀ x vs F H Q, Same F H → t.rep x F vs → wpR (mr x) (fun z => ∀ p o, H p = none → (P z).p F o → Q (.ref p) (upd H p o)) (fun _ => False) → r vs H Q

section
variable {X : Cx} {U : Wi} {Γ : List Sl} {a b e : Expr} {es : List Expr} {pos : Pos}
variable {α β γ ω ω1 ω2 τ : Type} {ρ1 : Rp α} {ρ2 : Rp β} {ρ : Rp γ} {t : Tr τ}

/-! ### names, constants -/
theorem x_var {ρ : Rp α} {x : α} {n : Str} (i : Nat) (hΓ : Γ[i]? = some (im ρ x) := by rfl) (hN : X.N[i]? = some n := by rfl) (hv : Vis X.env.scope n := by first | exact Or.inl rfl | exact Or.inr (Or.inl rfl) | exact Or.inr (Or.inr rfl))
    (hd : (n == ("__debug__" : Str)) = false := by decide) (hcd : (n == ("__classdict__" : Str)) = false := by decide) : EX X U Γ (.Name n pos) ρ (.ok x) :=
  ⟨fun en F σ H Q s h => wE_of (pe_var hN hv hd hcd) (by
    obtain ⟨v, e1, r⟩ := s.val i _ hΓ
    exact ⟨v, e1, h v F H (Same.refl F) s r⟩)⟩
theorem x_cst {ρ : Rp α} {x : α} {v : V} (hp : PE X e (tC v)) (hr : ∀ F, ρ.rep x F v) : EX X U Γ e ρ (.ok x) :=
  ⟨fun en F σ H Q s h => wE_of hp (h v F H (Same.refl F) s (hr F))⟩
theorem x_int {i j} : EX X U Γ (.Constant (.int i) j pos) rI (.ok i) := x_cst pe_int fun _ => rfl
theorem x_bl {i j} : EX X U Γ (.Constant (.bool i) j pos) rB (.ok i) := x_cst pe_bl fun _ => rfl
theorem x_str {i j} : EX X U Γ (.Constant (.str i) j pos) rS (.ok i) := x_cst pe_str fun _ => rfl
theorem x_nonO {j} {ρ : Rp α} : EX X U Γ (.Constant .none j pos) (rO ρ) (.ok none) := x_cst pe_non fun _ => rfl
/-- a module's constant -/
theorem x_glob {ρ : Rp α} {x : α} {v : V} {n : Str} {u : Value} (hm : X.mg n = some u) (rv : RelV v u) (hr : ∀ F, ρ.rep x F v) (hg : Gl X n := by rfl) (hd : (n == ("__debug__" : Str)) = false := by decide) : EX X U Γ (.Name n pos) ρ (.ok x) :=
  x_cst (pe_glob hg hm rv hd) hr
/-- .. an expression of its own -/
theorem x_map {ρ' : Rp β} {m : R α} (f : α → β) (hf : ∀ x F v, ρ1.rep x F v → ρ'.rep (f x) F v) (h : EX X U Γ e ρ1 m) : EX X U Γ e ρ' (m.bind fun a => .ok (f a)) :=
  ⟨fun en F σ H Q s q => h.out en F σ H Q s (wpR_mono (wpR_bind q) (fun w k v F' H' e1 s1 r => k v F' H' e1 s1 (hf _ _ _ r)) fun _ z => z)⟩

/-! ### two expressions in a row -/
theorem g_two {m1 : R ω1} {v1 : ω1 → α} {Γ1 : ω1 → List Sl} {m2 : ω1 → R ω2} {v2 : ω1 → ω2 → β} {Γ2 : ω1 → ω2 → List Sl} {mr : ω1 → ω2 → R ω} {K : ω → Hp → Prop}
    (ha : EG X U Γ a ρ1 m1 v1 Γ1) (hb : ∀ w1, EG X U (Γ1 w1) b ρ2 (m2 w1) (v2 w1) (Γ2 w1)) {en : En} {F : Hp} {σ : L2.St} {H : Hp} {Z : V → V → Hp → Prop} (s : SA en Γ F σ H)
    (h : wpR (m1.bind fun w1 => (m2 w1).bind fun w2 => mr w1 w2) (fun w => K w F) (U.ok X.mg en F))
    (hK : ∀ w F1, Same F F1 → K w F → K w F1)
    (hz : ∀ w1 w2 v u F2 H2, Same F F2 → SA en (Γ2 w1 w2) F2 σ H2 → ρ1.rep (v1 w1) F2 v → ρ2.rep (v2 w1 w2) F2 u → wpR (mr w1 w2) (fun w => K w F2) (U.ok X.mg en F2) → Z v u H2) :
    wE X a σ H fun v H1 => wE X b σ H1 fun u H2 => Z v u H2 := by
  refine ha.out en F σ H _ s (wpR_mono (wpR_bind h) (fun w1 k v F1 H1 e1 s1 r1 => ?_) fun _ z => z)
  refine (hb w1).out en F1 σ H1 _ s1 (wpR_mono (wpR_bind k) (fun w2 k2 u F2 H2 e2 s2 r2 => ?_) fun _ z => z.up e1)
  exact hz w1 w2 v u F2 H2 (e1.trans e2) s2 (ρ1.mono e2 r1) r2 (wpR_mono k2 (fun w => hK w F2 (e1.trans e2)) fun _ z => z.up (e1.trans e2))

/-- the shape of a two-place data operation -/
theorem g_data2 {r : R2} {mr : α → β → R γ} (hd : D2 r ρ1 ρ2 ρ mr) {m1 : R ω1} {v1 : ω1 → α} {Γ1 : ω1 → List Sl} {m2 : ω1 → R ω2} {v2 : ω1 → ω2 → β} {Γ2 : ω1 → ω2 → List Sl}
    {val : ω → γ} {Γ' : ω → List Sl} (pk : ω1 → ω2 → γ → ω) (hv : ∀ w1 w2 z, val (pk w1 w2 z) = z) (hΓ : ∀ w1 w2 z, Γ' (pk w1 w2 z) = Γ2 w1 w2)
    (ha : EG X U Γ a ρ1 m1 v1 Γ1) (hb : ∀ w1, EG X U (Γ1 w1) b ρ2 (m2 w1) (v2 w1) (Γ2 w1)) {en : En} {F : Hp} {σ : L2.St} {H : Hp} {Q : VK} (s : SA en Γ F σ H)
    (h : wpR (m1.bind fun w1 => (m2 w1).bind fun w2 => (mr (v1 w1) (v2 w1 w2)).calm.bind fun z => .ok (pk w1 w2 z)) (fun w => ∀ v F' H', Same F F' → SA en (Γ' w) F' σ H' → ρ.rep (val w) F' v → Q v H') (U.ok X.mg en F)) :
    wE X a σ H fun v H1 => wE X b σ H1 fun u H2 => r v u H2 Q := by
  refine g_two (K := fun w F => ∀ v F' H', Same F F' → SA en (Γ' w) F' σ H' → ρ.rep (val w) F' v → Q v H') ha hb s h (fun w F1 e k v F' H' e' => k v F' H' (e.trans e')) fun w1 w2 v u F2 H2 e2 s2 r1 r2 k => ?_
  refine hd _ _ v u F2 H2 Q s2.sub r1 r2 (wpR_mono (wpR_calm (wpR_bind k)) (fun z k u F' H' x ru => ?_) fun _ z => z)
  refine k u F' H' x.f ?_ ?_
  · rw [hΓ]
    exact s2.ext x
  · rw [hv]
    exact ru
theorem g_bin {op : Operator} {r : R2} {mr : α → β → R γ} (ho : OpR X (binaryOp op) r) (hd : D2 r ρ1 ρ2 ρ mr) {m1 : R ω1} {v1 : ω1 → α} {Γ1 : ω1 → List Sl} {m2 : ω1 → R ω2} {v2 : ω1 → ω2 → β} {Γ2 : ω1 → ω2 → List Sl}
    {val : ω → γ} {Γ' : ω → List Sl} (pk : ω1 → ω2 → γ → ω) (hv : ∀ w1 w2 z, val (pk w1 w2 z) = z) (hΓ : ∀ w1 w2 z, Γ' (pk w1 w2 z) = Γ2 w1 w2)
    (ha : EG X U Γ a ρ1 m1 v1 Γ1) (hb : ∀ w1, EG X U (Γ1 w1) b ρ2 (m2 w1) (v2 w1) (Γ2 w1)) :
    EG X U Γ (.BinOp a op b pos) ρ (m1.bind fun w1 => (m2 w1).bind fun w2 => (mr (v1 w1) (v2 w1 w2)).calm.bind fun z => .ok (pk w1 w2 z)) val Γ' :=
  ⟨fun en F σ H Q s h => wE_of (pe_op ho wE_pe wE_pe) (g_data2 hd pk hv hΓ ha hb s h)⟩
theorem g_cmp {op : CmpOp} {r : R2} {mr : α → β → R γ} (ho : OpR X (compareOp op) r) (hd : D2 r ρ1 ρ2 ρ mr) (hm : behindInMarks op b = false) {m1 : R ω1} {v1 : ω1 → α} {Γ1 : ω1 → List Sl} {m2 : ω1 → R ω2} {v2 : ω1 → ω2 → β} {Γ2 : ω1 → ω2 → List Sl}
    {val : ω → γ} {Γ' : ω → List Sl} (pk : ω1 → ω2 → γ → ω) (hv : ∀ w1 w2 z, val (pk w1 w2 z) = z) (hΓ : ∀ w1 w2 z, Γ' (pk w1 w2 z) = Γ2 w1 w2)
    (ha : EG X U Γ a ρ1 m1 v1 Γ1) (hb : ∀ w1, EG X U (Γ1 w1) b ρ2 (m2 w1) (v2 w1) (Γ2 w1)) :
    EG X U Γ (.Compare a [op] [b] pos) ρ (m1.bind fun w1 => (m2 w1).bind fun w2 => (mr (v1 w1) (v2 w1 w2)).calm.bind fun z => .ok (pk w1 w2 z)) val Γ' :=
  ⟨fun en F σ H Q s h => wE_of (pe_cmpR ho wE_pe wE_pe hm) (g_data2 hd pk hv hΓ ha hb s h)⟩
theorem g_ix {r : R2} {mr : α → β → R γ} (hr : IxR X r) (hd : D2 r ρ1 ρ2 ρ mr) (hs : PlainIx b) {m1 : R ω1} {v1 : ω1 → α} {Γ1 : ω1 → List Sl} {m2 : ω1 → R ω2} {v2 : ω1 → ω2 → β} {Γ2 : ω1 → ω2 → List Sl}
    {val : ω → γ} {Γ' : ω → List Sl} (pk : ω1 → ω2 → γ → ω) (hv : ∀ w1 w2 z, val (pk w1 w2 z) = z) (hΓ : ∀ w1 w2 z, Γ' (pk w1 w2 z) = Γ2 w1 w2)
    (ha : EG X U Γ a ρ1 m1 v1 Γ1) (hb : ∀ w1, EG X U (Γ1 w1) b ρ2 (m2 w1) (v2 w1) (Γ2 w1)) :
    EG X U Γ (.Subscript a b pos) ρ (m1.bind fun w1 => (m2 w1).bind fun w2 => (mr (v1 w1) (v2 w1 w2)).calm.bind fun z => .ok (pk w1 w2 z)) val Γ' :=
  ⟨fun en F σ H Q s h => wE_of (pe_ix hr wE_pe wE_pe hs) (g_data2 hd pk hv hΓ ha hb s h)⟩
/-- .. where nothing is changed on the way -/
theorem x_bin {op : Operator} {r : R2} {mr : α → β → R γ} {m1 : R α} {m2 : R β} (ho : OpR X (binaryOp op) r) (hd : D2 r ρ1 ρ2 ρ mr) (ha : EX X U Γ a ρ1 m1) (hb : EX X U Γ b ρ2 m2) :
    EX X U Γ (.BinOp a op b pos) ρ (m1.bind fun x => m2.bind fun y => (mr x y).calm.bind fun z => .ok z) := g_bin ho hd (fun _ _ z => z) (fun _ _ _ => rfl) (fun _ _ _ => rfl) ha fun _ => hb
theorem x_cmp {op : CmpOp} {r : R2} {mr : α → β → R γ} {m1 : R α} {m2 : R β} (ho : OpR X (compareOp op) r) (hd : D2 r ρ1 ρ2 ρ mr) (ha : EX X U Γ a ρ1 m1) (hb : EX X U Γ b ρ2 m2)
    (hm : behindInMarks op b = false := by first | exact nomark _ | rfl) : EX X U Γ (.Compare a [op] [b] pos) ρ (m1.bind fun x => m2.bind fun y => (mr x y).calm.bind fun z => .ok z) :=
  g_cmp ho hd hm (fun _ _ z => z) (fun _ _ _ => rfl) (fun _ _ _ => rfl) ha fun _ => hb
theorem x_ix {r : R2} {mr : α → β → R γ} {m1 : R α} {m2 : R β} (hr : IxR X r) (hd : D2 r ρ1 ρ2 ρ mr) (ha : EX X U Γ a ρ1 m1) (hb : EX X U Γ b ρ2 m2) (hs : PlainIx b := by exact fun _ _ => rfl) :
    EX X U Γ (.Subscript a b pos) ρ (m1.bind fun x => m2.bind fun y => (mr x y).calm.bind fun z => .ok z) := g_ix hr hd hs (fun _ _ z => z) (fun _ _ _ => rfl) (fun _ _ _ => rfl) ha fun _ => hb
/-! ### and, or, not, if .. else as values -/
theorem x_not {m : R Bool} (ha : EX X U Γ a rB m) : EX X U Γ (.UnaryOp .Not a pos) rB (m.bind fun x => .ok !x) :=
  ⟨fun en F σ H Q s h => wE_of (pe_not wE_pe) (ha.out en F σ H _ s (wpR_mono (wpR_bind h) (fun x k v F1 H1 e1 s1 r1 => ⟨x, r1, k _ F1 H1 e1 s1 rfl⟩) fun _ z => z))⟩
theorem x_one {op} {m : R Bool} (ha : EX X U Γ a rB m) : EX X U Γ (.BoolOp op [a] pos) rB m := ⟨fun en F σ H Q s h => wE_of (pe_one wE_pe) (ha.out en F σ H Q s h)⟩
theorem x_and {m1 m2 : R Bool} {rest : List Expr} (ha : EX X U Γ a rB m1) (hb : EX X U Γ (.BoolOp .And (b :: rest) pos) rB m2) : EX X U Γ (.BoolOp .And (a :: b :: rest) pos) rB (m1.bind fun x => if x = true then m2 else .ok false) :=
  ⟨fun en F σ H Q s h => wE_of (pe_and wE_pe wE_pe) (ha.out en F σ H _ s (wpR_mono (wpR_bind h) (fun x k v F1 H1 e1 s1 r1 => ⟨x, r1, by
    cases x with
    | true => exact hb.out en F1 σ H1 Q s1 (wpR_mono k (fun w k v F' H' e' => k v F' H' (e1.trans e')) fun _ z => z.up e1)
    | false => exact k _ F1 H1 e1 s1 rfl⟩) fun _ z => z))⟩
theorem x_or {m1 m2 : R Bool} {rest : List Expr} (ha : EX X U Γ a rB m1) (hb : EX X U Γ (.BoolOp .Or (b :: rest) pos) rB m2) : EX X U Γ (.BoolOp .Or (a :: b :: rest) pos) rB (m1.bind fun x => if x = true then .ok true else m2) :=
  ⟨fun en F σ H Q s h => wE_of (pe_or wE_pe wE_pe) (ha.out en F σ H _ s (wpR_mono (wpR_bind h) (fun x k v F1 H1 e1 s1 r1 => ⟨x, r1, by
    cases x with
    | false => exact hb.out en F1 σ H1 Q s1 (wpR_mono k (fun w k v F' H' e' => k v F' H' (e1.trans e')) fun _ z => z.up e1)
    | true => exact k _ F1 H1 e1 s1 rfl⟩) fun _ z => z))⟩
/-! ### tests -/
theorem g_test {m : R ω} {val : ω → Bool} {Γ' : ω → List Sl} (h : EG X U Γ e rB m val Γ') (he : ∀ whole, isTrue e X.env whole = (do let v ← whole; standAt e.pos; holding [v] (truthy v)) := by intro _; rfl) : BG X U Γ e m val Γ' :=
  ⟨fun en F σ H Q s q => wT_of (pt_val wE_pe he) (h.out en F σ H _ s (wpR_mono q (fun w k v F1 H1 e1 s1 r1 => ⟨val w, r1, k F1 H1 e1 s1⟩) fun _ z => z))⟩
theorem g_tcmp {op : CmpOp} {r : R2} {mr : α → β → R Bool} (ho : OpR X (compareOp op) r) (hd : D2 r ρ1 ρ2 rB mr) (hm : behindInMarks op b = false) {m1 : R ω1} {v1 : ω1 → α} {Γ1 : ω1 → List Sl} {m2 : ω1 → R ω2} {v2 : ω1 → ω2 → β} {Γ2 : ω1 → ω2 → List Sl}
    {val : ω → Bool} {Γ' : ω → List Sl} (pk : ω1 → ω2 → Bool → ω) (hv : ∀ w1 w2 z, val (pk w1 w2 z) = z) (hΓ : ∀ w1 w2 z, Γ' (pk w1 w2 z) = Γ2 w1 w2)
    (ha : EG X U Γ a ρ1 m1 v1 Γ1) (hb : ∀ w1, EG X U (Γ1 w1) b ρ2 (m2 w1) (v2 w1) (Γ2 w1)) :
    BG X U Γ (.Compare a [op] [b] pos) (m1.bind fun w1 => (m2 w1).bind fun w2 => (mr (v1 w1) (v2 w1 w2)).calm.bind fun z => .ok (pk w1 w2 z)) val Γ' :=
  ⟨fun en F σ H Q s h => wT_of (pt_cmpR ho wE_pe wE_pe hm) (g_data2 (ρ := rB) (Q := fun v H' => ∃ k, v = .bl k ∧ Q k H') hd pk hv hΓ ha hb s (wpR_mono h (fun w k v F' H' e1 s1 r1 => ⟨val w, r1, k F' H' e1 s1⟩) fun _ z => z))⟩
theorem x_tcmp {op : CmpOp} {r : R2} {mr : α → β → R Bool} {m1 : R α} {m2 : R β} (ho : OpR X (compareOp op) r) (hd : D2 r ρ1 ρ2 rB mr) (ha : EX X U Γ a ρ1 m1) (hb : EX X U Γ b ρ2 m2)
    (hm : behindInMarks op b = false := by first | exact nomark _ | rfl) : BX X U Γ (.Compare a [op] [b] pos) (m1.bind fun x => m2.bind fun y => (mr x y).calm.bind fun z => .ok z) :=
  g_tcmp ho hd hm (fun _ _ z => z) (fun _ _ _ => rfl) (fun _ _ _ => rfl) ha fun _ => hb
theorem x_tnot {m : R Bool} (ha : BX X U Γ a m) : BX X U Γ (.UnaryOp .Not a pos) (m.bind fun x => .ok !x) :=
  ⟨fun en F σ H Q s h => wT_of (pt_not wT_pt) (ha.out en F σ H _ s (wpR_mono (wpR_bind h) (fun x k F1 H1 e1 s1 => k F1 H1 e1 s1) fun _ z => z))⟩
/-- chains -/
structure WG (X : Cx) (U : Wi) (Γ : List Sl) (e : Expr) (m : R Bool) : Prop where
  out : ∀ en F σ H (Q : Bool → Hp → Prop), SA en Γ F σ H → wpR m (fun w => ∀ F' H', Same F F' → SA en Γ F' σ H' → Q w H') (U.ok X.mg en F) →
    ∀ (whole : Sem Value) pins s, Inv X pins σ H s → wpAny (model X.prog X.w) X.A (isTrue e X.env whole) (TP X pins σ Q) X.xe s
def wW (X : Cx) (e : Expr) : TT := fun σ H Q => ∀ (whole : Sem Value) pins s, Inv X pins σ H s → wpAny (model X.prog X.w) X.A (isTrue e X.env whole) (TP X pins σ Q) X.xe s
theorem wW_pw : PW X e (wW X e) := ⟨fun wh pins s _ _ _ I h => h wh pins s I⟩
theorem x_w {m : R Bool} (h : WG X U Γ e m) : BX X U Γ e m := ⟨fun en F σ H Q s q whole pins s' hw I => by
  subst hw
  exact h.out en F σ H Q s q _ pins s' I⟩
theorem w_and1 {m : R Bool} (ha : BX X U Γ a m) : WG X U Γ (.BoolOp .And [a] pos) m :=
  ⟨fun en F σ H Q s h wh pins s' I => (pw_and1 (pos := pos) wT_pt).run wh pins s' σ H Q I (ha.out en F σ H Q s h)⟩
theorem w_or1 {m : R Bool} (ha : BX X U Γ a m) : WG X U Γ (.BoolOp .Or [a] pos) m :=
  ⟨fun en F σ H Q s h wh pins s' I => (pw_or1 (pos := pos) wT_pt).run wh pins s' σ H Q I (ha.out en F σ H Q s h)⟩
theorem w_and {m1 m2 : R Bool} {rest : List Expr} (ha : BX X U Γ a m1) (hb : WG X U Γ (.BoolOp .And (b :: rest) pos) m2) : WG X U Γ (.BoolOp .And (a :: b :: rest) pos) (m1.bind fun x => if x = true then m2 else .ok false) :=
  ⟨fun en F σ H Q s h wh pins s' I => (pw_and (pos := pos) wT_pt wW_pw).run wh pins s' σ H Q I (ha.out en F σ H _ s (wpR_mono (wpR_bind h) (fun x k F1 H1 e1 s1 => by
    cases x with
    | true => exact hb.out en F1 σ H1 Q s1 (wpR_mono k (fun w k F' H' e' => k F' H' (e1.trans e')) fun _ z => z.up e1)
    | false => exact k F1 H1 e1 s1) fun _ z => z))⟩
theorem w_or {m1 m2 : R Bool} {rest : List Expr} (ha : BX X U Γ a m1) (hb : WG X U Γ (.BoolOp .Or (b :: rest) pos) m2) : WG X U Γ (.BoolOp .Or (a :: b :: rest) pos) (m1.bind fun x => if x = true then .ok true else m2) :=
  ⟨fun en F σ H Q s h wh pins s' I => (pw_or (pos := pos) wT_pt wW_pw).run wh pins s' σ H Q I (ha.out en F σ H _ s (wpR_mono (wpR_bind h) (fun x k F1 H1 e1 s1 => by
    cases x with
    | false => exact hb.out en F1 σ H1 Q s1 (wpR_mono k (fun w k F' H' e' => k F' H' (e1.trans e')) fun _ z => z.up e1)
    | true => exact k F1 H1 e1 s1) fun _ z => z))⟩

/-! ### arguments -/
theorem a_nil {τ : Type} {t : Tr τ} {x : τ} (hx : ∀ F, t.rep x F []) : AX X U Γ [] t (.ok x) := ⟨fun en F σ H Q s h => wA_of pa_nil (h [] F H (Same.refl F) s (hx F))⟩
/-- one more ahead, put together by pk -/
theorem g_acons {τ' : Type} {t' : Tr τ'} {m1 : R ω1} {v1 : ω1 → α} {Γ1 : ω1 → List Sl} {m2 : ω1 → R ω2} {v2 : ω1 → ω2 → τ} {Γ2 : ω1 → ω2 → List Sl} {val : ω → τ'} {Γ' : ω → List Sl} (pk : ω1 → ω2 → ω)
    (hv : ∀ w1 w2 F v vs, ρ1.rep (v1 w1) F v → t.rep (v2 w1 w2) F vs → t'.rep (val (pk w1 w2)) F (v :: vs)) (hΓ : ∀ w1 w2, Γ' (pk w1 w2) = Γ2 w1 w2)
    (ha : EG X U Γ a ρ1 m1 v1 Γ1) (hb : ∀ w1, AG X U (Γ1 w1) es t (m2 w1) (v2 w1) (Γ2 w1)) (hs : starEach (a :: es) X.env = (false, eval a X.env) :: starEach es X.env) :
    AG X U Γ (a :: es) t' (m1.bind fun w1 => (m2 w1).bind fun w2 => .ok (pk w1 w2)) val Γ' :=
  ⟨fun en F σ H Q s h => wA_of (pa_cons wE_pe wA_pa hs) (ha.out en F σ H _ s (wpR_mono (wpR_bind h) (fun w1 k v F1 H1 e1 s1 r1 =>
    (hb w1).out en F1 σ H1 _ s1 (wpR_mono (wpR_bind k) (fun w2 k2 vs F2 H2 e2 s2 r2 => k2 (v :: vs) F2 H2 (e1.trans e2) (by rw [hΓ]; exact s2) (hv w1 w2 F2 v vs (ρ1.mono e2 r1) r2)) fun _ z => z.up e1)) fun _ z => z))⟩
theorem a_one {m : R α} (ha : EX X U Γ a ρ1 m) (hs : starEach [a] X.env = (false, eval a X.env) :: starEach [] X.env := by rfl) : AX X U Γ [a] (t1 ρ1) m := by
  have h : AX X U Γ [a] (t1 ρ1) (m.bind fun x => (R.ok ()).bind fun _ => .ok x) := g_acons (t := t0) (fun x _ => x) (fun x _ F v vs r e => ⟨v, by rw [show vs = [] from e], r⟩) (fun _ _ => rfl) ha (fun _ => a_nil fun _ => rfl) hs
  have e : (m.bind fun x => (R.ok ()).bind fun _ => R.ok x) = m := R.bind_pure m
  rw [e] at h
  exact h
theorem a_cons {m1 : R α} {m2 : R τ} (ha : EX X U Γ a ρ1 m1) (hb : AX X U Γ es t m2) (hs : starEach (a :: es) X.env = (false, eval a X.env) :: starEach es X.env := by rfl) : AX X U Γ (a :: es) (tc ρ1 t) (m1.bind fun x => m2.bind fun y => .ok (x, y)) :=
  g_acons (fun x y => (x, y)) (fun x y F v vs r q => ⟨v, vs, rfl, r, q⟩) (fun _ _ => rfl) ha (fun _ => hb) hs
/-! ### displays, calls of built-ins -/
abbrev oLi {τ : Type} (t : Tr τ) (a : τ) : ORp := ⟨fun F o => ∃ vs, o = .lst vs ∧ t.rep a F vs, fun e ⟨vs, h, r⟩ => ⟨vs, h, t.mono e r⟩, fun ⟨vs, h, _⟩ ws z => by rw [h] at z; cases z⟩
theorem g_tup {m : R ω} {val : ω → τ} {Γ' : ω → List Sl} {k : Nat} (h : AG X U Γ es t m val Γ') (hn : ∀ w F vs, t.rep (val w) F vs → vs.length ≤ sizeLine) : EG X U Γ (.Tuple es k pos) (rTu t) m val Γ' :=
  ⟨fun en F σ H Q s q => wE_of (pe_tup wA_pa) (h.out en F σ H _ s (wpR_mono q (fun w kk vs F1 H1 e1 s1 r => ⟨hn w F1 vs r, fun p hp => by
    have x := Ext.new (o := .tup vs) s1.sub hp
    exact kk (.ref p) _ _ (e1.trans x.f) (s1.ext x) ⟨p, vs, rfl, upd_same, t.mono x.f r⟩⟩) fun _ z => z))⟩
theorem f_lst {m : R ω} {val : ω → τ} {Γ' : ω → List Sl} (h : AG X U Γ es t m val Γ') (hn : ∀ w F vs, t.rep (val w) F vs → vs.length ≤ sizeLine) : FG X U Γ (.List es pos) (fun w => oLi t (val w)) m Γ' :=
  ⟨fun en F σ H Q s q => wE_of (pe_lst wA_pa) (h.out en F σ H _ s (wpR_mono q (fun w kk vs F1 H1 e1 s1 r => ⟨hn w F1 vs r, fun p hp => kk p (.lst vs) F1 _ e1 (s1.lay hp).1 (s1.lay hp).2 ⟨vs, rfl, r⟩⟩) fun _ z => z))⟩
/-- a new list that is known at once -/
theorem x_frz {m : R ω} {val : ω → τ} {Γ' : ω → List Sl} (h : FG X U Γ e (fun w => oLi t (val w)) m Γ') : EG X U Γ e (rLi t) m val Γ' :=
  ⟨fun en F σ H Q s q => h.out en F σ H Q s (wpR_mono q (fun w k p o F1 H1 e1 s1 fr ho => by
    obtain ⟨vs, rfl, r⟩ := ho
    obtain ⟨s2, x⟩ := s1.know fr
    exact k (.ref p) _ _ (e1.trans x) s2 ⟨p, vs, rfl, upd_same, t.mono x r⟩) fun _ z => z)⟩
theorem g_dataC {r : List V → Hp → VK → Prop} {mr : τ → R γ} (hd : DC r t ρ mr) {m : R ω1} {v1 : ω1 → τ} {Γ1 : ω1 → List Sl} {val : ω → γ} {Γ' : ω → List Sl} (pk : ω1 → γ → ω) (hv : ∀ w z, val (pk w z) = z) (hΓ : ∀ w z, Γ' (pk w z) = Γ1 w)
    (ha : AG X U Γ es t m v1 Γ1) {en : En} {F : Hp} {σ : L2.St} {H : Hp} {Q : VK} (s : SA en Γ F σ H)
    (h : wpR (m.bind fun w => (mr (v1 w)).calm.bind fun z => .ok (pk w z)) (fun w => ∀ v F' H', Same F F' → SA en (Γ' w) F' σ H' → ρ.rep (val w) F' v → Q v H') (U.ok X.mg en F)) : tCB r (wA X es) σ H Q :=
  ha.out en F σ H _ s (wpR_mono (wpR_bind h) (fun w k vs F1 H1 e1 s1 r1 =>
    hd (v1 w) vs F1 H1 Q s1.sub r1 (wpR_mono (wpR_calm (wpR_bind k)) (fun z k u F' H' x ru => k u F' H' (e1.trans x.f) (by rw [hΓ]; exact s1.ext x) (by rw [hv]; exact ru)) fun _ z => z)) fun _ z => z)
theorem g_dataF {r : List V → Hp → VK → Prop} {P : γ → ORp} {mr : τ → R γ} (hd : DF r t P mr) {m : R ω1} {v1 : ω1 → τ} {Γ1 : ω1 → List Sl} {val : ω → γ} {Γ' : ω → List Sl} (pk : ω1 → γ → ω) (hv : ∀ w z, val (pk w z) = z) (hΓ : ∀ w z, Γ' (pk w z) = Γ1 w)
    (ha : AG X U Γ es t m v1 Γ1) {en : En} {F : Hp} {σ : L2.St} {H : Hp} {Q : VK} (s : SA en Γ F σ H)
    (h : wpR (m.bind fun w => (mr (v1 w)).calm.bind fun z => .ok (pk w z)) (fun w => ∀ p o F' H', Same F F' → SA en (Γ' w) F' σ H' → Fresh en (Γ' w) F' σ H' p o → (P (val w)).p F' o → Q (.ref p) H') (U.ok X.mg en F)) : tCB r (wA X es) σ H Q :=
  ha.out en F σ H _ s (wpR_mono (wpR_bind h) (fun w k vs F1 H1 e1 s1 r1 =>
    hd (v1 w) vs F1 H1 Q s1.sub r1 (wpR_mono (wpR_calm (wpR_bind k)) (fun z k p o hp ho => k p o F1 _ e1 (by rw [hΓ]; exact (s1.lay hp).1) (by rw [hΓ]; exact (s1.lay hp).2) (by rw [hv]; exact ho)) fun _ z => z)) fun _ z => z)
variable {n : Str} {p : Pos} {id T : String} {r : List V → Hp → VK → Prop}
theorem x_callB {mr : τ → R γ} {m : R τ} (hc : CallR X (.builtin id) r) (hd : DC r t ρ mr) (hm : X.mg n = none) (hv : bootBuiltins n = some (.builtin id)) (ha : AX X U Γ (a :: es) t m) (hg : Gl X n := by rfl)
    (hn : n ≠ "__name__" := by decide) (hdb : (n == ("__debug__" : Str)) = false := by decide) (he : starEach (a :: es) X.env = (false, eval a X.env) :: starEach es X.env := by rfl) (hpl : (backTo pos (starEach es X.env)).any (·.1) = false := by rfl) :
    EX X U Γ (.Call (.Name n p) (a :: es) [] pos) ρ (m.bind fun x => (mr x).calm.bind fun z => .ok z) :=
  ⟨fun en F σ H Q s h => wE_of (pe_callB hc hg hm hv wA_pa hn hdb he hpl) (g_dataC hd (fun _ z => z) (fun _ _ => rfl) (fun _ _ => rfl) ha s h)⟩
theorem x_callTy {mr : τ → R γ} {m : R τ} (hc : CallR X (.type T) r) (hd : DC r t ρ mr) (hm : X.mg n = none) (hv : bootBuiltins n = some (.type T)) (ha : AX X U Γ (a :: es) t m) (hg : Gl X n := by rfl)
    (hn : n ≠ "__name__" := by decide) (hdb : (n == ("__debug__" : Str)) = false := by decide) (he : starEach (a :: es) X.env = (false, eval a X.env) :: starEach es X.env := by rfl) (hpl : (backTo pos (starEach es X.env)).any (·.1) = false := by rfl) :
    EX X U Γ (.Call (.Name n p) (a :: es) [] pos) ρ (m.bind fun x => (mr x).calm.bind fun z => .ok z) :=
  ⟨fun en F σ H Q s h => wE_of (pe_callTy hc hg hm hv wA_pa hn hdb he hpl) (g_dataC hd (fun _ z => z) (fun _ _ => rfl) (fun _ _ => rfl) ha s h)⟩
theorem f_callB {P : γ → ORp} {mr : τ → R γ} {m : R τ} (hc : CallR X (.builtin id) r) (hd : DF r t P mr) (hm : X.mg n = none) (hv : bootBuiltins n = some (.builtin id)) (ha : AX X U Γ (a :: es) t m) (hg : Gl X n := by rfl)
    (hn : n ≠ "__name__" := by decide) (hdb : (n == ("__debug__" : Str)) = false := by decide) (he : starEach (a :: es) X.env = (false, eval a X.env) :: starEach es X.env := by rfl) (hpl : (backTo pos (starEach es X.env)).any (·.1) = false := by rfl) :
    FX X U Γ (.Call (.Name n p) (a :: es) [] pos) P (m.bind fun x => (mr x).calm.bind fun z => .ok z) :=
  ⟨fun en F σ H Q s h => wE_of (pe_callB hc hg hm hv wA_pa hn hdb he hpl) (g_dataF hd (fun _ z => z) (fun _ _ => rfl) (fun _ _ => rfl) ha s h)⟩
/-! ### calls of own defs -/
def SpP (mg : Str → Option Value) {τ γ : Type} (t : Tr τ) (ρ : Rp γ) (f : τ → R γ) : Sp := fun vs H Q E => ∃ F x, Same F H ∧ t.rep x F vs ∧
  wpR (f x) (fun z => ∀ v F' H', Ext F H F' H' → ρ.rep z F' v → Q v H') (fun r => ∀ cls d F' H', Ext F H F' H' → ErOk mg r cls d F' → E cls d H')
variable {W : WX} {k : Nat} {f : Addr} {fd : FuncData} {ps : List Str} {ds : List Value} {dvs : List V}
/-- f(e, ..), the defaults dvs behind -/
theorem g_call {τ' : Type} {t' : Tr τ'} {fm : τ' → R γ} {m : R ω1} {v1 : ω1 → τ} {Γ1 : ω1 → List Sl} {val : ω → γ} {Γ' : ω → List Sl} (app : τ → τ') (pk : ω1 → γ → ω) (hv : ∀ w z, val (pk w z) = z) (hΓ : ∀ w z, Γ' (pk w z) = Γ1 w)
    (hap : ∀ x F vs, t.rep x F vs → t'.rep (app x) F (vs ++ dvs)) (hle : ∀ w, Le U.Γ (Γ1 w))
    (G : FnOk X.prog X.w X.K X.mg X.base (L2.CX X.prog X.w) k f fd ps (SpP X.mg t' ρ fm)) (hr : Room k X.A) (hm : X.mg n = some (.ref f)) (hk : PySem.W.keepIn X.K (.ref f) = true) (hb : Binds X.K fd ps ds) (hd : Vals dvs ds) (tk : Takes X U.W)
    (ha : AG X U Γ (a :: es) t m v1 Γ1) (hg : Gl X n) (hdb : (n == ("__debug__" : Str)) = false) (he : starEach (a :: es) X.env = (false, eval a X.env) :: starEach es X.env) (hpl : (backTo pos (starEach es X.env)).any (·.1) = false) :
    EG X U Γ (.Call (.Name n p) (a :: es) [] pos) ρ (m.bind fun w => (fm (app (v1 w))).bind fun z => .ok (pk w z)) val Γ' :=
  ⟨fun en F σ H Q s h => wE_of (pe_callSD G hr hg hm hk hb hd (fun σ => passAt tk σ) wA_pa hdb he hpl) (ha.out en F σ H _ s (wpR_mono (wpR_bind h) (fun w k vs F1 H1 e1 s1 r1 =>
    ⟨F1, app (v1 w), s1.sub, hap _ F1 vs r1, wpR_mono (wpR_bind k) (fun z k v F' H' x ru => k v F' H' (e1.trans x.f) (by rw [hΓ]; exact s1.ext x) (by rw [hv]; exact ru)) fun r z cls d F' H' x o => z cls d F' σ H' (e1.trans x.f) ((s1.ext x).le (hle w)) o⟩) fun _ z => z))⟩
theorem x_call {fm : τ → R γ} {m : R τ} (G : FnOk X.prog X.w X.K X.mg X.base (L2.CX X.prog X.w) k f fd ps (SpP X.mg t ρ fm)) (hr : Room k X.A) (hm : X.mg n = some (.ref f)) (hk : PySem.W.keepIn X.K (.ref f) = true) (hb : Binds X.K fd ps []) (tk : Takes X U.W) (hle : Le U.Γ Γ)
    (ha : AX X U Γ (a :: es) t m) (hg : Gl X n := by rfl) (hdb : (n == ("__debug__" : Str)) = false := by decide) (he : starEach (a :: es) X.env = (false, eval a X.env) :: starEach es X.env := by rfl) (hpl : (backTo pos (starEach es X.env)).any (·.1) = false := by rfl) :
    EX X U Γ (.Call (.Name n p) (a :: es) [] pos) ρ (m.bind fun x => fm x) := by
  have h : EX X U Γ (.Call (.Name n p) (a :: es) [] pos) ρ (m.bind fun x => (fm x).bind fun z => .ok z) := g_call (fun x => x) (fun _ z => z) (fun _ _ => rfl) (fun _ _ => rfl) (fun x F vs r => by rw [List.append_nil]; exact r) (fun _ => hle) G hr hm hk hb .nil tk ha hg hdb he hpl
  simp only [R.bind_pure] at h
  exact h
end
end Py

/-! Own layer, part C: targets, statements, loops, comprehensions, defs. -/
namespace Py
open PySem PySem.Spec PyProof.Rows L2

/-! ### targets -/
/-- slots outside vs are as they were -/
def Chg (σ σ' : L2.St) (vs : List Nat) : Prop := σ'.length = σ.length ∧ ∀ j, j ∉ vs → σ'[j]? = σ[j]?
theorem Chg.refl {σ : L2.St} {vs : List Nat} : Chg σ σ vs := ⟨rfl, fun _ _ => rfl⟩
theorem Chg.trans {σ σ1 σ2 : L2.St} {vs : List Nat} (a : Chg σ σ1 vs) (b : Chg σ1 σ2 vs) : Chg σ σ2 vs := ⟨b.1.trans a.1, fun j h => (b.2 j h).trans (a.2 j h)⟩
theorem Chg.set {σ : L2.St} {vs : List Nat} {i : Nat} {x : Option V} (h : i ∈ vs) : Chg σ (σ.set i x) vs :=
  ⟨List.length_set, fun j hj => List.getElem?_set_ne fun e => hj (by rw [← e]; exact h)⟩
theorem wipe_in {σ : L2.St} : ∀ {vs : List Nat} {j : Nat}, j ∈ vs → j < σ.length → (wipe σ vs)[j]? = some none
  | [], _, h, _ => by cases h
  | v :: vs, j, h, hl => by
    unfold wipe
    by_cases e : v = j
    · subst e
      exact List.getElem?_set_self (by rw [wipe_length]; exact hl)
    · rw [List.getElem?_set_ne e]
      exact wipe_in ((List.mem_cons.mp h).resolve_left fun z => e z.symm) hl
theorem Chg.wipe {σ σ' : L2.St} {vs : List Nat} (h : Chg σ σ' vs) : wipe σ' vs = wipe σ vs := by
  apply List.ext_getElem?
  intro j
  by_cases hj : j ∈ vs
  · by_cases hl : j < σ.length
    · rw [wipe_in hj hl, wipe_in hj (by rw [h.1]; exact hl)]
    · rw [List.getElem?_eq_none (by rw [wipe_length, h.1]; omega), List.getElem?_eq_none (by rw [wipe_length]; omega)]
  · rw [wipe_out hj, wipe_out hj]
    exact h.2 j hj
def wG (X : Cx) (tg : Expr) : L2.TG := fun v σ H Q => ∀ pins s u, Inv X pins σ H s → RelV v u → wpAny (model X.prog X.w) X.A (assign tg X.env u) (fun _ s' => ∃ σ' H', Inv X pins σ' H' s' ∧ Q σ' H') X.xe s
def wGs (X : Cx) (ts : List Expr) : L2.TGs := fun vs σ H Q => ∀ pins s us, Inv X pins σ H s → Vals vs us → wpAny (model X.prog X.w) X.A (assignInOrder ((assignEach ts X.env).map (·.2)) us) (fun _ s' => ∃ σ' H', Inv X pins σ' H' s' ∧ Q σ' H') X.xe s
section
variable {X : Cx} {tg : Expr} {ts : List Expr} {pos : Pos} {α β τ : Type}
theorem wG_pg : PG X tg (wG X tg) := ⟨fun pins s _ _ _ u _ I r h => h pins s u I r⟩
theorem wGs_pgs : PGs X ts (wGs X ts) := ⟨fun pins s _ _ _ us _ I r h => h pins s us I r⟩
theorem wG_of {t : L2.TG} {v : V} {σ : L2.St} {H : Hp} {Q : L2.St → Hp → Prop} (h : PG X tg t) (q : t v σ H Q) : wG X tg v σ H Q := fun pins s u I r => h.run pins s σ H v u Q I r q
theorem wGs_of {t : L2.TGs} {vs : List V} {σ : L2.St} {H : Hp} {Q : L2.St → Hp → Prop} (h : PGs X ts t) (q : t vs σ H Q) : wGs X ts vs σ H Q := fun pins s us I r => h.run pins s σ H vs us Q I r q
/-- a target for a value of ρ: g tells the slots behind; vs are the slots that change -/
structure GT (X : Cx) (tg : Expr) {α : Type} (ρ : Rp α) (vs : List Nat) (g : α → List Sl → List Sl) : Prop where
  keep : ∀ x Γ (j : Nat), j ∉ vs → (g x Γ)[j]? = Γ[j]?
  out : ∀ en Γ F σ H v x (Q : L2.St → Hp → Prop), SA en Γ F σ H → ρ.rep x F v → (∀ σ', SA en (g x Γ) F σ' H → Chg σ σ' vs → Q σ' H) → wG X tg v σ H Q
structure GTs (X : Cx) (ts : List Expr) {τ : Type} (t : Tr τ) (n : Nat) (vs : List Nat) (g : τ → List Sl → List Sl) : Prop where
  len : ∀ x F ws, t.rep x F ws → ws.length = n
  keep : ∀ x Γ (j : Nat), j ∉ vs → (g x Γ)[j]? = Γ[j]?
  out : ∀ en Γ F σ H ws x (Q : L2.St → Hp → Prop), SA en Γ F σ H → t.rep x F ws → (∀ σ', SA en (g x Γ) F σ' H → Chg σ σ' vs → Q σ' H) → wGs X ts ws σ H Q
theorem gt_name {ρ : Rp α} {vs : List Nat} {n : Str} (i : Nat) (hi : i ∈ vs := by decide) (hN : X.N.Nodup) (hn : X.N[i]? = some n := by rfl) (hx : Loc X.env.scope n := by first | exact Or.inl rfl | exact Or.inr rfl)
    (hf : X.fn n = true ∨ X.env.scope.names.lookup n = some .local := by first | exact .inl rfl | exact .inr rfl) : GT X (.Name n pos) ρ vs fun x Γ => Γ.set i (im ρ x) :=
  ⟨fun x Γ j hj => List.getElem?_set_ne fun e => hj (by rw [← e]; exact hi), fun en Γ F σ H v x Q s r h => wG_of (pg_name hN hn hx hf) (h _ (s.put r) (Chg.set hi))⟩
theorem gts_one {ρ : Rp α} {vs : List Nat} {g : α → List Sl → List Sl} (h1 : GT X tg ρ vs g) (hs : (assignEach [tg] X.env).map (·.2) = assign tg X.env :: (assignEach [] X.env).map (·.2) := by rfl) : GTs X [tg] (t1 ρ) 1 vs g where
  len := fun x F ws ⟨v, e, _⟩ => by rw [e]; rfl
  keep := fun x Γ j hj => h1.keep x Γ j hj
  out := fun en Γ F σ H ws x Q s ⟨v, e, r⟩ h => by
    subst e
    exact wGs_of (pgs_cons wG_pg pgs_nil hs) ⟨v, [], rfl, h1.out en Γ F σ H v x _ s r fun σ' s' c => ⟨rfl, h σ' s' c⟩⟩
theorem gts_cons {ρ : Rp α} {t : Tr τ} {vs : List Nat} {n : Nat} {g : α → List Sl → List Sl} {g' : τ → List Sl → List Sl} (h1 : GT X tg ρ vs g) (h2 : GTs X ts t n vs g')
    (hs : (assignEach (tg :: ts) X.env).map (·.2) = assign tg X.env :: (assignEach ts X.env).map (·.2) := by rfl) : GTs X (tg :: ts) (tc ρ t) (n + 1) vs fun x Γ => g' x.2 (g x.1 Γ) where
  len := fun x F ws ⟨v, r, e, _, q⟩ => by
    rw [e, List.length_cons, h2.len _ _ _ q]
  keep := fun x Γ j hj => (h2.keep x.2 _ j hj).trans (h1.keep x.1 Γ j hj)
  out := fun en Γ F σ H ws x Q s ⟨v, r, e, q1, q2⟩ h => by
    subst e
    exact wGs_of (pgs_cons wG_pg wGs_pgs hs) ⟨v, r, rfl, h1.out en Γ F σ H v x.1 _ s q1 fun σ' s' c => h2.out en _ F σ' H r x.2 _ s' q2 fun σ2 s2 c2 => h σ2 s2 (c.trans c2)⟩
theorem gt_tup {t : Tr τ} {vs : List Nat} {n k : Nat} {g : τ → List Sl → List Sl} (hc : X.calm = true) (h : GTs X ts t n vs g) (hn : (assignEach ts X.env).length = n := by rfl) (hst : (assignEach ts X.env).findIdx? (·.1) = none := by rfl) :
    GT X (.Tuple ts k pos) (rTu t) vs g :=
  ⟨fun x Γ j hj => h.keep x Γ j hj, fun en Γ F σ H v x Q s ⟨p, ws, e, hp, r⟩ q => wG_of (pg_tup hc wGs_pgs hn hst) ⟨p, ws, e, .inl (.inl (s.sub p _ hp)), h.len _ _ _ r, h.out en Γ F σ H ws x Q s r q⟩⟩
end

/-! ### blocks -/
def Kd.cut : Kd → Kd
  | .nx _ => .rt ⟨fun _ _ => False, fun _ h => h⟩ []
  | .go Γ => .ct Γ
  | .fn p Γ => .rt p Γ
  | k => k
theorem Kd.sat.cut {k : Kd} {en : En} {F : Hp} {D : Ends} {nx : L2.St → Hp → Prop} (h : k.sat en F D) : k.cut.sat en F { D with nx := nx } := by
  cases k with
  | nx Γ => exact fun v F' σ' H' _ _ z => z.elim
  | go Γ => exact fun F' σ' H' e s => (h F' σ' H' e s).2
  | fn p Γ => exact h.1
  | bk Γ => exact h
  | ct Γ => exact h
  | rt p Γ => exact h
  | rf P Γ => exact h
section
variable {X : Cx} {U : Wi} {Γ : List Sl} {st : Stmt} {sts rest : List Stmt} {e : Expr} {pos : Pos} {α β γ ω ω' : Type} {I : ω → Kd} {I' : ω' → Kd}
/-- one statement -/
structure SG (X : Cx) (U : Wi) (Γ : List Sl) (st : Stmt) {ω : Type} (I : ω → Kd) (m : R ω) : Prop where
  out : ∀ en F σ H D, SA en Γ F σ H → wpR m (fun o => (I o).sat en F D) (U.ok X.mg en F) → wS X st D σ H
/-- what follows -/
inductive Cont (X : Cx) (U : Wi) (rest : List Stmt) {ω : Type} (I : ω → Kd) : Kd → R ω → Prop
  | nx {Γ : List Sl} {m : R ω} : SX X U Γ rest I m → Cont X U rest I (.nx Γ) m
  | rt {p : PRp} {Γ : List Sl} {o : ω} : I o = .rt p Γ → Cont X U rest I (.rt p Γ) (.ok o)
  | rtf {p : PRp} {Γ : List Sl} {o : ω} : I o = .fn p Γ → Cont X U rest I (.rt p Γ) (.ok o)
  | bk {Γ Γ' : List Sl} {o : ω} : I o = .bk Γ' → Le Γ' Γ → Cont X U rest I (.bk Γ) (.ok o)
  | ct {Γ Γ' : List Sl} {o : ω} : I o = .ct Γ' → Le Γ' Γ → Cont X U rest I (.ct Γ) (.ok o)
  | go {Γ Γ' : List Sl} {o : ω} : I o = .go Γ' → Le Γ' Γ → Cont X U rest I (.ct Γ) (.ok o)
  | rf {P : ORp} {Γ : List Sl} {o : ω} : I o = .rf P Γ → Cont X U rest I (.rf P Γ) (.ok o)
  | no {p : PRp} {Γ : List Sl} {m : R ω} : (∀ F v, ¬ p.p F v) → Cont X U rest I (.rt p Γ) m
theorem Cont.sat {k : Kd} {m : R ω} {en : En} {F : Hp} {D : Ends} (c : Cont X U rest I k m) (h : wpR m (fun o => (I o).sat en F D) (U.ok X.mg en F)) : k.sat en F { D with nx := wSs X rest D } := by
  cases c with
  | nx s => exact fun F' σ' H' e a => s.out en F' σ' H' D a (wpR_mono h (fun o z => z.up e) fun _ z => z.up e)
  | rt e =>
    have h' : Kd.sat (I _) en F D := h
    rw [e] at h'
    exact h'
  | rtf e =>
    have h' : Kd.sat (I _) en F D := h
    rw [e] at h'
    exact h'.1
  | bk e l =>
    have h' : Kd.sat (I _) en F D := h
    rw [e] at h'
    exact fun F' σ' H' x a => h' F' σ' H' x (a.le l)
  | ct e l =>
    have h' : Kd.sat (I _) en F D := h
    rw [e] at h'
    exact fun F' σ' H' x a => h' F' σ' H' x (a.le l)
  | go e l =>
    have h' : Kd.sat (I _) en F D := h
    rw [e] at h'
    exact fun F' σ' H' x a => (h' F' σ' H' x (a.le l)).2
  | rf e =>
    have h' : Kd.sat (I _) en F D := h
    rw [e] at h'
    exact h'
  | no hn => exact fun v F' σ' H' _ _ z => (hn _ _ z).elim
theorem s_cons {m : R ω'} {k : ω' → R ω} (h1 : SG X U Γ st I' m) (h2 : ∀ o, Cont X U rest I (I' o) (k o)) : SX X U Γ (st :: rest) I (m.bind k) :=
  ⟨fun en F σ H D s h => wSs_of (pss_cons wS_ps wSs_pss) (h1.out en F σ H { D with nx := wSs X rest D } s (wpR_mono (wpR_bind h) (fun o q => (h2 o).sat q) fun _ z => z))⟩
theorem s_one {m : R ω} (h1 : SG X U Γ st I m) : SX X U Γ [st] I m := ⟨fun en F σ H D s h => wSs_of (pss_one wS_ps) (h1.out en F σ H D s h)⟩
theorem s_nx {o : ω} {Γ' : List Sl} (e : I o = .nx Γ') (l : Le Γ' Γ) : SX X U Γ [] I (.ok o) :=
  ⟨fun en F σ H D s h => wSs_of pss_nil (by
    have h' : Kd.sat (I o) en F D := h
    rw [e] at h'
    exact h' F σ H (Same.refl F) (s.le l))⟩
theorem s_go {o : ω} {Γ' : List Sl} (e : I o = .go Γ') (l : Le Γ' Γ) : SX X U Γ [] I (.ok o) :=
  ⟨fun en F σ H D s h => wSs_of pss_nil (by
    have h' : Kd.sat (I o) en F D := h
    rw [e] at h'
    exact (h' F σ H (Same.refl F) (s.le l)).1)⟩
/-- return e -/
theorem g_ret {ρ : Rp α} {m : R ω'} {val : ω' → α} {Γ1 : ω' → List Sl} (mk : ω' → ω) (P : ω' → List Sl) (e1 : ∀ w, I (mk w) = .rt ⟨fun H v => ρ.rep (val w) H v, fun e h => ρ.mono e h⟩ (P w)) (l : ∀ w, Le (P w) (Γ1 w)) (he : EG X U Γ e ρ m val Γ1) :
    SG X U Γ (.Return (some e) pos) I (m.bind fun w => .ok (mk w)) :=
  ⟨fun en F σ H D s h => wS_of (ps_ret wE_pe) (he.out en F σ H _ s (wpR_mono (wpR_bind h) (fun w k v F' H' e' s' r => by
    have k' : Kd.sat (I (mk w)) en F D := k
    rw [e1] at k'
    exact k' v F' σ H' e' (s'.le (l w)) r) fun _ z => z))⟩
/-- what stands behind a return, a break is not looked at -/
theorem s_last {m : R ω} (h1 : SG X U Γ st (fun o => (I o).cut) m) : SX X U Γ (st :: rest) I m :=
  ⟨fun en F σ H D s h => wSs_of (pss_cons wS_ps wSs_pss) (h1.out en F σ H { D with nx := wSs X rest D } s (wpR_mono h (fun o q => q.cut) fun _ z => z))⟩

/-! ### if -/
theorem g_if {c : Expr} {A B : List Stmt} {mc : R ω'} {val : ω' → Bool} {Γ1 : ω' → List Sl} {mA mB : ω' → R ω} (hc : BG X U Γ c mc val Γ1) (hA : ∀ w, SX X U (Γ1 w) A I (mA w)) (hB : ∀ w, SX X U (Γ1 w) B I (mB w)) :
    SG X U Γ (.If c A B pos) I (mc.bind fun w => if val w = true then mA w else mB w) :=
  ⟨fun en F σ H D s h => wS_of (ps_if wT_pt wSs_pss wSs_pss) (hc.out en F σ H _ s (wpR_mono (wpR_bind h) (fun w k F1 H1 e1 s1 => by
    cases hv : val w with
    | true =>
      rw [hv, if_pos rfl] at k
      rw [if_pos rfl]
      exact (hA w).out en F1 σ H1 D s1 (wpR_mono k (fun o z => z.up e1) fun _ z => z.up e1)
    | false =>
      rw [hv, if_neg Bool.false_ne_true] at k
      rw [if_neg Bool.false_ne_true]
      exact (hB w).out en F1 σ H1 D s1 (wpR_mono k (fun o z => z.up e1) fun _ z => z.up e1)) fun _ z => z))⟩
/-- if c: A (it never falls through), then the rest -/
theorem s_ifT {c : Expr} {A : List Stmt} {mc : R ω'} {val : ω' → Bool} {Γ1 : ω' → List Sl} {mA mR : ω' → R ω} (hc : BG X U Γ c mc val Γ1) (hA : ∀ w, SX X U (Γ1 w) A (fun o => (I o).cut) (mA w)) (hR : ∀ w, SX X U (Γ1 w) rest I (mR w)) :
    SX X U Γ (.If c A [] pos :: rest) I (mc.bind fun w => if val w = true then mA w else mR w) :=
  ⟨fun en F σ H D s h => wSs_of (pss_cons (ps_if wT_pt wSs_pss pss_nil) wSs_pss) (hc.out en F σ H _ s (wpR_mono (wpR_bind h) (fun w k F1 H1 e1 s1 => by
    cases hv : val w with
    | true =>
      rw [hv, if_pos rfl] at k
      rw [if_pos rfl]
      exact (hA w).out en F1 σ H1 _ s1 (wpR_mono k (fun o z => (z.up e1).cut) fun _ z => z.up e1)
    | false =>
      rw [hv, if_neg Bool.false_ne_true] at k
      rw [if_neg Bool.false_ne_true]
      exact (hR w).out en F1 σ H1 D s1 (wpR_mono k (fun o z => z.up e1) fun _ z => z.up e1)) fun _ z => z))⟩
/-! ### assignments -/
/-- name = e -/
theorem s_set {ρ : Rp α} {n : Str} {p' : Pos} {m : R ω'} {val : ω' → α} {Γ1 : ω' → List Sl} {k : ω' → R ω} (i : Nat) (hN : X.N.Nodup) (he : EG X U Γ e ρ m val Γ1) (hr : ∀ w, SX X U ((Γ1 w).set i (im ρ (val w))) rest I (k w)) (hn : X.N[i]? = some n := by rfl)
    (hx : Loc X.env.scope n := by first | exact Or.inl rfl | exact Or.inr rfl) (hs : swapsWith e (some (.Name n p')) pos.line X.env = pure false := by rfl) (hf : X.fn n = true ∨ X.env.scope.names.lookup n = some .local := by first | exact .inl rfl | exact .inr rfl) :
    SX X U Γ (.Assign [.Name n p'] e pos :: rest) I (m.bind k) :=
  ⟨fun en F σ H D s h => wSs_of (pss_cons (ps_set hN hn hx wE_pe hs hf) wSs_pss) (he.out en F σ H _ s (wpR_mono (wpR_bind h) (fun w q v F' H' e' s' r =>
    (hr w).out en F' _ H' D (s'.put r) (wpR_mono q (fun o z => z.up e') fun _ z => z.up e')) fun _ z => z))⟩
/-- name = a new object -/
theorem s_own {P : ω' → ORp} {n : Str} {p' : Pos} {m : R ω'} {Γ1 : ω' → List Sl} {k : ω' → R ω} (i : Nat) (hN : X.N.Nodup) (he : FG X U Γ e P m Γ1) (hr : ∀ w, SX X U ((Γ1 w).set i (.own none (P w))) rest I (k w)) (hn : X.N[i]? = some n := by rfl)
    (hx : Loc X.env.scope n := by first | exact Or.inl rfl | exact Or.inr rfl) (hs : swapsWith e (some (.Name n p')) pos.line X.env = pure false := by rfl) (hf : X.fn n = true ∨ X.env.scope.names.lookup n = some .local := by first | exact .inl rfl | exact .inr rfl) :
    SX X U Γ (.Assign [.Name n p'] e pos :: rest) I (m.bind k) :=
  ⟨fun en F σ H D s h => wSs_of (pss_cons (ps_set hN hn hx wE_pe hs hf) wSs_pss) (he.out en F σ H _ s (wpR_mono (wpR_bind h) (fun w q p o F' H' e' s' fr r =>
    (hr w).out en F' _ H' D (s'.putOwn fr r) (wpR_mono q (fun o z => z.up e') fun _ z => z.up e')) fun _ z => z))⟩
/-- a target of any form = e -/
theorem s_asg {ρ : Rp α} {tg : Expr} {vs : List Nat} {g : α → List Sl → List Sl} {m : R ω'} {val : ω' → α} {Γ1 : ω' → List Sl} {k : ω' → R ω} (hg : GT X tg ρ vs g) (he : EG X U Γ e ρ m val Γ1) (hr : ∀ w, SX X U (g (val w) (Γ1 w)) rest I (k w))
    (hs : swapsWithSole [tg] e pos.line X.env = pure false := by rfl) (hw : swappedStores [tg] e X.env = pure none := by rfl) (h1 : (assignEach [tg] X.env).map (·.2) = [assign tg X.env] := by rfl) :
    SX X U Γ (.Assign [tg] e pos :: rest) I (m.bind k) :=
  ⟨fun en F σ H D s h => wSs_of (pss_cons (ps_asg wE_pe wG_pg hs hw h1) wSs_pss) (he.out en F σ H _ s (wpR_mono (wpR_bind h) (fun w q v F' H' e' s' r =>
    hg.out en _ F' σ H' v _ _ s' r fun σ' s2 _ => (hr w).out en F' σ' H' D s2 (wpR_mono q (fun o z => z.up e') fun _ z => z.up e')) fun _ z => z))⟩
/-- what a slot owns is known from now on -/
theorem s_give {τ : Type} {t : Tr τ} {x : τ} {m : R ω} {a0 : Option Addr} (i : Nat) (hΓ : Γ[i]? = some (.own a0 (oLi t x))) (hr : SX X U (Γ.set i (im (rLi t) x)) sts I m) : SX X U Γ sts I m :=
  ⟨fun en F σ H D s h => by
    obtain ⟨p, o, h1, h2, h3, h4, h5, h6⟩ := s.own i _ _ hΓ
    obtain ⟨vs, e, r⟩ := h4
    subst e
    have g := s.give hΓ h1 h3
    have sf : Same F (upd F p (.lst vs)) := Same.upd h2
    have hl : i < σ.length := by
      by_cases z : i < σ.length
      · exact z
      · rw [List.getElem?_eq_none (by omega)] at h1
        cases h1
    have g2 := SA.put (i := i) (P := ⟨fun H v => (rLi t).rep x H v, fun e h => (rLi t).mono e h⟩) (v := .ref p) g ⟨p, vs, rfl, upd_same, t.mono sf r⟩
    rw [List.set_set] at g2
    have e2 : σ.set i (some (.ref p)) = σ := by
      apply List.ext_getElem?
      intro j
      by_cases ej : i = j
      · subst ej
        rw [List.getElem?_set_self hl, h1]
      · rw [List.getElem?_set_ne ej]
    rw [e2] at g2
    exact hr.out en _ σ H D g2 (wpR_mono h (fun o z => z.up sf) fun _ z => z.up sf)⟩
end

/-! ### what is walked -/
structure Wk (J : It) (F : Hp) {α : Type} (ρ : Rp α) (xs : List α) : Prop where
  go : ∀ F1 H i x, Same F F1 → Same F1 H → xs[i]? = some x → J.go i H ∧ ∀ v H', J.yld i H v H' → ∃ F', Ext F1 H F' H' ∧ ρ.rep x F' v
  stop : ∀ H i, Same F H → xs.length ≤ i → J.stop i H
theorem Wk.up {J : It} {F F1 : Hp} {α : Type} {ρ : Rp α} {xs : List α} (w : Wk J F ρ xs) (e : Same F F1) : Wk J F1 ρ xs :=
  ⟨fun F2 H i x h1 h2 h3 => w.go F2 H i x (e.trans h1) h2 h3, fun H i h => w.stop H i (e.trans h)⟩
def wI (X : Cx) (tg iter : Expr) : TI := fun σ H R => ∀ pins s, Inv X pins σ H s → wpAny (model X.prog X.w) X.A (eval iter X.env) (fun v s1 => wpAny (model X.prog X.w) X.A (pyIter v) (PIE X pins σ tg R) X.xe s1) X.xe s
theorem wI_pi {X : Cx} {tg iter : Expr} : PI X tg iter (wI X tg iter) := ⟨fun pins s _ _ _ I h => h pins s I⟩
theorem wI_of {X : Cx} {tg iter : Expr} {t : TI} {σ : L2.St} {H : Hp} {R : It → Hp → Prop} (h : PI X tg iter t) (q : t σ H R) : wI X tg iter σ H R := fun pins s I => h.run pins s σ H R I q
structure IG (X : Cx) (U : Wi) (Γ : List Sl) (tg iter : Expr) {α ω : Type} (ρ : Rp α) (m : R ω) (val : ω → List α) (Γ' : ω → List Sl) : Prop where
  out : ∀ en F σ H (R : It → Hp → Prop), SA en Γ F σ H → wpR m (fun w => ∀ J F' H', Same F F' → SA en (Γ' w) F' σ H' → Wk J F' ρ (val w) → R J H') (U.ok X.mg en F) → wI X tg iter σ H R
abbrev IX (X : Cx) (U : Wi) (Γ : List Sl) (tg iter : Expr) {α : Type} (ρ : Rp α) (m : R (List α)) : Prop := IG X U Γ tg iter ρ m (fun a => a) fun _ => Γ
/-- lo, lo + 1, .. below hi -/
def rangeI (lo hi : Int) : List Int := (List.range (hi - lo).toNat).map fun i => lo + (i : Nat)
theorem wk_list {K : PySem.W.Frag} {F : Hp} {α : Type} {ρ : Rp α} {xs : List α} {p : Addr} {vs : List V} (h : F p = some (.lst vs)) (r : RepL ρ F xs vs) : Wk (Itl K p) F ρ xs where
  go := fun F1 H i x e1 e2 hx => by
    have hp : H p = some (.lst vs) := e2 p _ (e1 p _ h)
    obtain ⟨v, hv, rv⟩ := r.got hx
    exact ⟨⟨vs, v, .inl (.inl hp), hv⟩, fun w H' ⟨eH, y⟩ => by
      subst eH
      have ew : w = v := Option.some.inj ((y vs (.inl (.inl hp))).symm.trans hv)
      subst ew
      exact ⟨F1, Ext.refl e2, ρ.mono e1 rv⟩⟩
  stop := fun H i e hi => ⟨vs, .inl (.inl (e p _ h)), by rw [← r.length]; exact hi⟩
theorem wk_tup {K : PySem.W.Frag} {F : Hp} {α : Type} {ρ : Rp α} {xs : List α} {p : Addr} {vs : List V} (h : F p = some (.tup vs)) (r : RepL ρ F xs vs) : Wk (Itt K p) F ρ xs where
  go := fun F1 H i x e1 e2 hx => by
    have hp : H p = some (.tup vs) := e2 p _ (e1 p _ h)
    obtain ⟨v, hv, rv⟩ := r.got hx
    exact ⟨⟨vs, v, .inl (.inl hp), hv⟩, fun w H' ⟨eH, y⟩ => by
      subst eH
      have ew : w = v := Option.some.inj ((y vs (.inl (.inl hp))).symm.trans hv)
      subst ew
      exact ⟨F1, Ext.refl e2, ρ.mono e1 rv⟩⟩
  stop := fun H i e hi => ⟨vs, .inl (.inl (e p _ h)), by rw [← r.length]; exact hi⟩
theorem wk_range {F : Hp} {lo hi : Int} : Wk (Itr lo (hi - lo).toNat) F rI (rangeI lo hi) where
  go := fun F1 H i x e1 e2 hx => by
    unfold rangeI at hx
    rw [List.getElem?_map] at hx
    have hi' : i < (hi - lo).toNat := by
      by_cases z : i < (hi - lo).toNat
      · exact z
      · rw [List.getElem?_eq_none (by rw [List.length_range]; omega)] at hx
        cases hx
    rw [List.getElem?_range hi'] at hx
    have hx' : lo + (i : Nat) = x := Option.some.inj hx
    exact ⟨hi', fun w H' ⟨eH, y⟩ => by
      subst eH
      exact ⟨F1, Ext.refl e2, by rw [y, hx'] <;> rfl⟩⟩
  stop := fun H i e hi' => by
    unfold rangeI at hi'
    rw [List.length_map, List.length_range] at hi'
    exact hi'
section
variable {X : Cx} {U : Wi} {Γ : List Sl} {tg a b e : Expr} {pos p : Pos} {α β ω : Type} {ρ : Rp α}
theorem i_list {m : R ω} {val : ω → List α} {Γ' : ω → List Sl} (h : EG X U Γ e (rL ρ) m val Γ') : IG X U Γ tg e ρ m val Γ' :=
  ⟨fun en F σ H R s q => wI_of (pi_list wE_pe) (h.out en F σ H _ s (wpR_mono q (fun w k v F' H' e1 s1 ⟨p, vs, ev, hp, r⟩ => ⟨p, ev, ⟨vs, .inl (.inl (s1.sub p _ hp))⟩, k _ F' H' e1 s1 (wk_list hp r)⟩) fun _ z => z))⟩
theorem i_tup {m : R ω} {val : ω → List α} {Γ' : ω → List Sl} (h : EG X U Γ e (rT ρ) m val Γ') : IG X U Γ tg e ρ m val Γ' :=
  ⟨fun en F σ H R s q => wI_of (pi_tup wE_pe) (h.out en F σ H _ s (wpR_mono q (fun w k v F' H' e1 s1 ⟨p, vs, ev, hp, r⟩ => ⟨p, ev, ⟨vs, .inl (.inl (s1.sub p _ hp))⟩, k _ F' H' e1 s1 (wk_tup hp r)⟩) fun _ z => z))⟩
theorem i_range1 {m : R Int} (hm : X.mg "range" = none) (h : AX X U Γ [a] (t1 rI) m) (hg : Gl X "range" := by rfl) (hs : starEach [a] X.env = [(false, eval a X.env)] := by rfl) :
    IX X U Γ tg (.Call (.Name "range" p) [a] [] pos) rI (m.bind fun n => chk (-(2 ^ 62) ≤ n ∧ n < 2 ^ 62) (rangeI 0 n)) :=
  ⟨fun en F σ H R s q => wI_of (pi_range1 hg hm wA_pa hs) (h.out en F σ H _ s (wpR_mono (wpR_bind q) (fun n k vs F' H' e1 s1 ⟨v, ev, r⟩ => by
    obtain ⟨⟨b1, b2⟩, k⟩ := wpR_chk k
    refine ⟨n, by rw [ev, show v = V.int n from r], b1, b2, k _ F' H' e1 s1 ?_⟩
    have w := wk_range (F := F') (lo := 0) (hi := n)
    rw [Int.sub_zero] at w
    exact w) fun _ z => z))⟩
theorem i_rangeC {i : Int} {j} {p2 : Pos} (hm : X.mg "range" = none) (hi : -(2 ^ 62) ≤ i ∧ i < 2 ^ 62 := by decide) (hg : Gl X "range" := by rfl) (hs : starEach [.Constant (.int i) j p2] X.env = [(false, eval (.Constant (.int i) j p2) X.env)] := by rfl) :
    IX X U Γ tg (.Call (.Name "range" p) [.Constant (.int i) j p2] [] pos) rI (.ok (rangeI 0 i)) :=
  ⟨fun en F σ H R s q => wI_of (pi_range1 hg hm (pa_cons pe_int pa_nil hs) hs) ⟨i, rfl, hi.1, hi.2, q _ F H (Same.refl F) s (by
    have w := wk_range (F := F) (lo := 0) (hi := i)
    rw [Int.sub_zero] at w
    exact w)⟩⟩
end

/-! ### for -/
inductive Stp (τ γ : Type) where
  | nx (s : τ)
  | bk (s : τ)
  | rt (a : γ)
inductive Out (τ γ : Type) where
  | nx (s : τ)
  | rt (a : γ)
def Stp.kd {τ γ : Type} (Γs : τ → List Sl) (P : γ → PRp × List Sl) : Stp τ γ → Kd
  | .nx s => .go (Γs s)
  | .bk s => .bk (Γs s)
  | .rt a => .rt (P a).1 (P a).2
def Out.kd {τ γ : Type} (Γs : τ → List Sl) (P : γ → PRp × List Sl) : Out τ γ → Kd
  | .nx s => .nx (Γs s)
  | .rt a => .rt (P a).1 (P a).2
def outK {τ γ ω : Type} (k : τ → R ω) (mk : γ → ω) : Out τ γ → R ω
  | .nx s => k s
  | .rt a => .ok (mk a)
/-- a loop that may be left -/
def forS {α τ γ : Type} (f : τ → α → R (Stp τ γ)) : List α → τ → R (Out τ γ)
  | [], s => .ok (.nx s)
  | x :: xs, s => (f s x).bind fun o => match o with
    | .nx s' => forS f xs s'
    | .bk s' => .ok (.nx s')
    | .rt a => .ok (.rt a)
/-- one that runs through -/
def forR {α τ : Type} (f : τ → α → R τ) : List α → τ → R τ
  | [], s => .ok s
  | x :: xs, s => (f s x).bind fun s' => forR f xs s'
section
variable {X : Cx} {U : Wi} {Γ : List Sl} {tg iter : Expr} {body : List Stmt} {pos : Pos} {α τ γ ω : Type} {ρ : Rp α}
theorem g_forS {m : R ω} {val : ω → List α} {Γ1 : ω → List Sl} {vs : List Nat} {g : α → List Sl → List Sl} (Γs : τ → List Sl) (P : γ → PRp × List Sl) (f : ω → τ → α → R (Stp τ γ)) (s0 : ω → τ) (hi : IG X U Γ tg iter ρ m val Γ1) (hg : GT X tg ρ vs g)
    (hb : ∀ w s x, SX X U (g x (Γs s)) body (Stp.kd Γs P) (f w s x))
    (h0 : ∀ w, Le (Γs (s0 w)) (Γ1 w)) (hp : PassesOwn (model X.prog X.w) X.A X.env X.xe) (hc : X.calm = true := by rfl) (hs : ∀ x, foldedSetIterable iter X.env x = pure x := by intro _; rfl) :
    SG X U Γ (.For tg iter body [] pos) (Out.kd Γs P) (m.bind fun w => forS (f w) (val w) (s0 w)) :=
  ⟨fun en F σ H D s h => wS_of (ps_for hp hc wI_pi wG_pg wSs_pss hs) (hi.out en F σ H _ s (wpR_mono (wpR_bind h) (fun w k J F1 H1 e1 s1 wk => by
    refine ⟨fun i m σ H => m = (val w).length - i ∧ i ≤ (val w).length ∧ ∃ st F', Same F1 F' ∧ SA en (Γs st) F' σ H ∧ wpR (forS (f w) ((val w).drop i) st) (fun o => Kd.sat (Out.kd Γs P o) en F' D) (U.ok X.mg en F'),
      ⟨_, rfl, Nat.zero_le _, s0 w, F1, Same.refl F1, s1.le (h0 w), wpR_mono k (fun o z => z.up e1) fun _ z => z.up e1⟩, ?_⟩
    rintro i m σ H ⟨rfl, hi, st, F', eF, sa, q⟩
    by_cases hlt : i < (val w).length
    · have hd : (val w).drop i = (val w)[i] :: (val w).drop (i + 1) := List.drop_eq_getElem_cons hlt
      have hx : (val w)[i]? = some (val w)[i] := List.getElem?_eq_getElem hlt
      obtain ⟨go, yl⟩ := wk.go F' H i _ eF sa.sub hx
      rw [hd] at q
      refine .inr ⟨go, fun σ' H' => i + 1 ≤ (val w).length ∧ ∃ st F', Same F1 F' ∧ SA en (Γs st) F' σ' H' ∧ wpR (forS (f w) ((val w).drop (i + 1)) st) (fun o => Kd.sat (Out.kd Γs P o) en F' D) (U.ok X.mg en F'), fun σ' H' ⟨a1, a2⟩ => ⟨_, by omega, rfl, a1, a2⟩, fun v H' y => ?_⟩
      obtain ⟨F2, xx, rv⟩ := yl v H' y
      refine hg.out en _ F2 σ H' v _ _ (sa.ext xx) rv fun σ2 s2 _ => ?_
      refine (hb w st _).out en F2 σ2 H' _ s2 (wpR_mono (wpR_bind q) (fun o z => ?_) fun _ z => z.up xx.f)
      cases o with
      | nx st' => exact fun F3 σ3 H3 e3 s3 => ⟨⟨hlt, st', F3, eF.trans (xx.f.trans e3), s3, wpR_mono z (fun o z => z.up (xx.f.trans e3)) fun _ z => z.up (xx.f.trans e3)⟩, ⟨hlt, st', F3, eF.trans (xx.f.trans e3), s3, wpR_mono z (fun o z => z.up (xx.f.trans e3)) fun _ z => z.up (xx.f.trans e3)⟩⟩
      | bk st' => exact fun F3 σ3 H3 e3 s3 => z F3 σ3 H3 (xx.f.trans e3) s3
      | rt a => exact fun v F3 σ3 H3 e3 s3 r3 => z v F3 σ3 H3 (xx.f.trans e3) s3 r3
    · have e : i = (val w).length := by omega
      subst e
      rw [List.drop_length] at q
      exact .inl ⟨wk.stop H _ (eF.trans sa.sub) (Nat.le_refl _), q F' σ H (Same.refl F') sa⟩) fun _ z => z))⟩
theorem g_forR {m : R ω} {val : ω → List α} {Γ1 : ω → List Sl} {vs : List Nat} {g : α → List Sl → List Sl} (Γs : τ → List Sl) (f : ω → τ → α → R τ) (s0 : ω → τ) (hi : IG X U Γ tg iter ρ m val Γ1) (hg : GT X tg ρ vs g)
    (hb : ∀ w s x, SX X U (g x (Γs s)) body (fun s' => .go (Γs s')) (f w s x)) (h0 : ∀ w, Le (Γs (s0 w)) (Γ1 w)) (hp : PassesOwn (model X.prog X.w) X.A X.env X.xe) (hc : X.calm = true := by rfl) (hs : ∀ x, foldedSetIterable iter X.env x = pure x := by intro _; rfl) :
    SG X U Γ (.For tg iter body [] pos) (fun s => .nx (Γs s)) (m.bind fun w => forR (f w) (val w) (s0 w)) :=
  ⟨fun en F σ H D s h => wS_of (ps_for hp hc wI_pi wG_pg wSs_pss hs) (hi.out en F σ H _ s (wpR_mono (wpR_bind h) (fun w k J F1 H1 e1 s1 wk => by
    refine ⟨fun i m σ H => m = (val w).length - i ∧ i ≤ (val w).length ∧ ∃ st F', Same F1 F' ∧ SA en (Γs st) F' σ H ∧ wpR (forR (f w) ((val w).drop i) st) (fun o => Kd.sat (.nx (Γs o)) en F' D) (U.ok X.mg en F'),
      ⟨_, rfl, Nat.zero_le _, s0 w, F1, Same.refl F1, s1.le (h0 w), wpR_mono k (fun o z => Kd.sat.up (k := .nx (Γs o)) z e1) fun _ z => z.up e1⟩, ?_⟩
    rintro i m σ H ⟨rfl, hi, st, F', eF, sa, q⟩
    by_cases hlt : i < (val w).length
    · have hd : (val w).drop i = (val w)[i] :: (val w).drop (i + 1) := List.drop_eq_getElem_cons hlt
      have hx : (val w)[i]? = some (val w)[i] := List.getElem?_eq_getElem hlt
      obtain ⟨go, yl⟩ := wk.go F' H i _ eF sa.sub hx
      rw [hd] at q
      refine .inr ⟨go, fun σ' H' => i + 1 ≤ (val w).length ∧ ∃ st F', Same F1 F' ∧ SA en (Γs st) F' σ' H' ∧ wpR (forR (f w) ((val w).drop (i + 1)) st) (fun o => Kd.sat (.nx (Γs o)) en F' D) (U.ok X.mg en F'), fun σ' H' ⟨a1, a2⟩ => ⟨_, by omega, rfl, a1, a2⟩, fun v H' y => ?_⟩
      obtain ⟨F2, xx, rv⟩ := yl v H' y
      refine hg.out en _ F2 σ H' v _ _ (sa.ext xx) rv fun σ2 s2 _ => ?_
      refine (hb w st _).out en F2 σ2 H' _ s2 (wpR_mono (wpR_bind q) (fun st' z => ?_) fun _ z => z.up xx.f)
      exact fun F3 σ3 H3 e3 s3 => ⟨⟨hlt, st', F3, eF.trans (xx.f.trans e3), s3, wpR_mono z (fun o z => Kd.sat.up (k := .nx (Γs o)) z (xx.f.trans e3)) fun _ z => z.up (xx.f.trans e3)⟩, ⟨hlt, st', F3, eF.trans (xx.f.trans e3), s3, wpR_mono z (fun o z => Kd.sat.up (k := .nx (Γs o)) z (xx.f.trans e3)) fun _ z => z.up (xx.f.trans e3)⟩⟩
    · have e : i = (val w).length := by omega
      subst e
      rw [List.drop_length] at q
      exact .inl ⟨wk.stop H _ (eF.trans sa.sub) (Nat.le_refl _), q F' σ H (Same.refl F') sa⟩) fun _ z => z))⟩
end

/-! ### comprehensions -/
/-- the slots at vs are forgotten -/
def wipeΓ (Γ : List Sl) : List Nat → List Sl
  | [] => Γ
  | v :: vs => (wipeΓ Γ vs).set v .any
theorem wipeΓ_get {Γ : List Sl} {i : Nat} {x : Sl} : ∀ {vs : List Nat}, (wipeΓ Γ vs)[i]? = some x → x = .any ∨ (Γ[i]? = some x ∧ i ∉ vs)
  | [], h => .inr ⟨h, by simp⟩
  | v :: vs, h => by
    unfold wipeΓ at h
    by_cases e : v = i
    · subst e
      by_cases hl : v < (wipeΓ Γ vs).length
      · rw [List.getElem?_set_self hl] at h
        exact .inl (Option.some.inj h).symm
      · rw [List.getElem?_eq_none (by rw [List.length_set]; omega)] at h
        cases h
    · rw [List.getElem?_set_ne e] at h
      rcases wipeΓ_get h with z | ⟨z, hn⟩
      · exact .inl z
      · exact .inr ⟨z, by simp only [List.mem_cons, not_or]; exact ⟨fun q => e q.symm, hn⟩⟩
theorem wipeΓ_len {Γ : List Sl} : ∀ {vs : List Nat}, (wipeΓ Γ vs).length = Γ.length
  | [] => rfl
  | v :: vs => by
    unfold wipeΓ
    rw [List.length_set]
    exact wipeΓ_len
theorem wipeΓ_out {Γ : List Sl} {i : Nat} : ∀ {vs : List Nat}, i ∉ vs → (wipeΓ Γ vs)[i]? = Γ[i]?
  | [], _ => rfl
  | v :: vs, h => by
    obtain ⟨h1, h2⟩ := not_or.mp (fun z => h (List.mem_cons.mpr z))
    unfold wipeΓ
    rw [List.getElem?_set_ne fun e => h1 e.symm]
    exact wipeΓ_out h2
theorem SA.wipe {en : En} {Γ : List Sl} {F H : Hp} {σ : L2.St} {vs : List Nat} (s : SA en Γ F σ H) : SA en (wipeΓ Γ vs) F (wipe σ vs) H where
  len := by
    rw [wipeΓ_len, wipe_length]
    exact s.len
  sub := s.sub
  grow := s.grow
  old := s.old
  there := s.there
  frz := s.frz
  val := fun i P h => by
    rcases wipeΓ_get h with z | ⟨z, hn⟩
    · cases z
    · rw [wipe_out hn]
      exact s.val i P z
  own := fun i a P h => by
    rcases wipeΓ_get h with z | ⟨z, hn⟩
    · cases z
    · rw [wipe_out hn]
      exact s.own i a P z
  dis := fun i j a b P Q p hij hi hj hp => by
    rcases wipeΓ_get hi with z | ⟨z, hn⟩
    · cases z
    · rcases wipeΓ_get hj with y | ⟨y, hm⟩
      · cases y
      · rw [wipe_out hn] at hp
        rw [wipe_out hm]
        exact s.dis i j a b P Q p hij z y hp
/-- behind a pure evaluation within a block: what was goes on -/
theorem SA.blk {en : En} {Γ Γ3 : List Sl} {F2 F3 H2 H3 : Hp} {σ σ2 : L2.St} {vs : List Nat} (s : SA en Γ F2 σ H2) (s3 : SA ⟨F2, H2, Ows Γ σ⟩ Γ3 F3 σ2 H3) (e3 : Same F2 F3) (ch : Chg (L2.wipe σ vs) σ2 vs)
    (hk : ∀ j : Nat, j ∉ vs → Γ3[j]? = Γ[j]?) (hn : ∀ (j : Nat) a P, Γ[j]? = some (.own a P) → j ∉ vs) : SA en Γ F3 σ H3 where
  len := s.len
  sub := s3.sub
  grow := s.grow.trans e3
  old := fun p o e hp => s3.old p o (s.old p o e hp) fun ⟨i, a, P, hi, hs⟩ => by
    obtain ⟨q, x, h1, _, _, _, h5, _⟩ := s.own i a P hi
    rw [hs] at h1
    injection h1 with h1
    injection h1 with h1
    injection h1 with h1
    subst h1
    rcases h5 with z | z
    · rw [z] at e
      cases e
    · exact hp z
  there := fun p hp => s3.there p (s.there p hp)
  frz := fun p hp hf hps => (s.frz p hp hf hps).elim (fun q => s3.frz p (s.there p hp) q fun z => (s.ows z).elim (fun y => hp y) hps) fun ⟨vs, z⟩ => .inr ⟨vs, e3 p _ z⟩
  val := fun i P hi => by
    obtain ⟨v, h1, h2⟩ := s.val i P hi
    exact ⟨v, h1, P.m e3 h2⟩
  own := fun i a P hi => by
    obtain ⟨p, o, h1, h2, h3, h4, h5, h6⟩ := s.own i a P hi
    have hv := hn i a P hi
    obtain ⟨q, x, g1, g2, g3, g4, _, _⟩ := s3.own i a P (by rw [hk i hv]; exact hi)
    rw [ch.2 i hv, wipe_out hv, h1] at g1
    injection g1 with g1
    injection g1 with g1
    injection g1 with g1
    subst g1
    exact ⟨p, x, h1, g2, g3, g4, h5, h6⟩
  dis := s.dis
def noOwn (Γ : List Sl) (vs : List Nat) : Bool := vs.all fun j => match Γ[j]? with
  | some (.own _ _) => false
  | _ => true
theorem noOwn_of {Γ : List Sl} {vs : List Nat} (h : noOwn Γ vs = true) (j : Nat) (a : Option Addr) (P : ORp) (hj : Γ[j]? = some (.own a P)) : j ∉ vs := fun hm => by
  have q := List.all_eq_true.mp h j hm
  rw [hj] at q
  cases q
def mapR {α β : Type} (f : α → R β) : List α → R (List β)
  | [] => .ok []
  | x :: xs => (f x).calm.bind fun y => (mapR f xs).bind fun ys => .ok (y :: ys)
/-- with a test -/
def fmR {α β : Type} (c : α → R Bool) (f : α → R β) : List α → R (List β)
  | [] => .ok []
  | x :: xs => (c x).calm.bind fun b => if b = true then (f x).calm.bind fun y => (fmR c f xs).bind fun ys => .ok (y :: ys) else fmR c f xs
/-- no error leaves a comprehension -/
abbrev U0 : Wi := ⟨fun _ _ _ _ => False, []⟩
def wTs (X : Cx) (ifs : List Expr) : TT := fun σ H Q => ∀ pins s, Inv X pins σ H s →
    wpAny (model X.prog X.w) X.A (forIn ifs true fun c r => if r = true then do let ok ← isTrue c X.env (eval c X.env); pure (ForInStep.yield ok) else pure (ForInStep.yield r)) (TP X pins σ Q) X.xe s
theorem wTs_of {X : Cx} {ifs : List Expr} {t : TT} {σ : L2.St} {H : Hp} {Q : Bool → Hp → Prop} (h : PTs X ifs t) (q : t σ H Q) : wTs X ifs σ H Q := fun pins s I => h.run pins s σ H Q I q
structure TsG (X : Cx) (U : Wi) (Γ : List Sl) (ifs : List Expr) (m : R Bool) : Prop where
  out : ∀ en F σ H (Q : Bool → Hp → Prop), SA en Γ F σ H → wpR m (fun w => ∀ F' H', Same F F' → SA en Γ F' σ H' → Q w H') (U.ok X.mg en F) → wTs X ifs σ H Q
section
variable {X : Cx} {U : Wi} {Γ : List Sl} {tg iter elt : Expr} {ifs : List Expr} {scope : Scope} {own : List (Str × Nat)} {pos : Pos} {α β : Type} {ρ : Rp α} {π : Rp β}
theorem ts_nil : TsG X U Γ [] (.ok true) := ⟨fun en F σ H Q s h => wTs_of pts_nil (h F H (Same.refl F) s)⟩
theorem ts_one {c : Expr} {m : R Bool} (hc : BX X U Γ c m) : TsG X U Γ [c] m := ⟨fun en F σ H Q s h => wTs_of (pts_one wT_pt) (hc.out en F σ H Q s h)⟩
/-- the readings of a comprehension's block -/
def lG (X : Cx) (scope : Scope) (tg : Expr) : L2.TG := fun v σ H Q => ∀ s H0 C cl fp, wG (X.blk s H0 scope (compEnvC scope cl C X.env) fp) tg v σ H Q
def lT (X : Cx) (scope : Scope) (ifs : List Expr) : TT := fun σ H Q => ∀ s H0 C cl fp, wTs (X.blk s H0 scope (compEnvC scope cl C X.env) fp) ifs σ H Q
def lE (X : Cx) (scope : Scope) (elt : Expr) : TE := fun σ H Q => ∀ s H0 C cl fp, wE (X.blk s H0 scope (compEnvC scope cl C X.env) fp) elt σ H Q
theorem lc_red {m : R (List α)} {g : α → List Sl → List Sl} {c : α → R Bool} {f : α → R β} (hi : IX X U Γ tg iter ρ m)
    (hg : ∀ (s : Shared) (H : Hp) (C : Addr) (cl : List (Str × Addr)) (fp : List Addr), GT (X.blk s H scope (compEnvC scope cl C X.env) fp) tg ρ (own.map (·.2)) g)
    (ht : ∀ (s : Shared) (H : Hp) (C : Addr) (cl : List (Str × Addr)) (fp : List Addr) (x : α), TsG (X.blk s H scope (compEnvC scope cl C X.env) fp) U0 (g x (wipeΓ Γ (own.map (·.2)))) ifs (c x))
    (he : ∀ (s : Shared) (H : Hp) (C : Addr) (cl : List (Str × Addr)) (fp : List Addr) (x : α), EX (X.blk s H scope (compEnvC scope cl C X.env) fp) U0 (g x (wipeΓ Γ (own.map (·.2)))) elt π (f x))
    (hno : noOwn Γ (own.map (·.2)) = true := by rfl)
    {en : En} {F : Hp} {σ : L2.St} {H : Hp} {Q : VK} (s : SA en Γ F σ H)
    (h : wpR (m.bind fun xs => (fmR c f xs).bind fun ys => chk (ys.length ≤ sizeLine) ys) (fun ys => ∀ p o F' H', Same F F' → SA en Γ F' σ H' → Fresh en Γ F' σ H' p o → (oLi (tl π) ys).p F' o → Q (.ref p) H') (U.ok X.mg en F)) :
    tLc (wI X tg iter) (lG X scope tg) (lT X scope ifs) (lE X scope elt) (own.map (·.2)) σ H Q := by
  refine hi.out en F σ H _ s (wpR_mono (wpR_bind h) (fun xs k J F1 H1 e1 s1 wk => fun D hD => ?_) fun _ z => z)
  -- the list, turn by turn
  generalize hvs : own.map (·.2) = vs at *
  have l0 := s1.lay (o := .lst []) hD
  have k2 := wpR_bind k
  cases hall : fmR c f xs with
  | er z =>
    rw [hall] at k2
    exact absurd hall (by
      have : ∀ (xs : List α) (z : Er), fmR c f xs ≠ .er z := by
        intro xs
        induction xs with
        | nil => intro z q; cases q
        | cons x r ih =>
          intro z q
          unfold fmR at q
          cases hc : c x with
          | ok b =>
            rw [hc] at q
            cases b with
            | true =>
              cases hf : f x with
              | ok y =>
                rw [hf] at q
                cases hr : fmR c f r with
                | ok ys => rw [hr] at q; cases q
                | er w => exact ih w hr
                | bad => rw [hr] at q; cases q
              | er w => rw [hf] at q; cases q
              | bad => rw [hf] at q; cases q
            | false => exact ih z q
          | er w => rw [hc] at q; cases q
          | bad => rw [hc] at q; cases q
      exact this xs z)
  | bad =>
    rw [hall] at k2
    exact k2.elim
  | ok zs =>
    rw [hall] at k2
    obtain ⟨hz, k2⟩ := wpR_chk k2
    refine ⟨fun i m H => m = xs.length - i ∧ i ≤ xs.length ∧ ∃ (ys : List β) (ws : List V) (F' : Hp), Same F1 F' ∧ SA en Γ F' σ H ∧ Fresh en Γ F' σ H D (.lst ws) ∧ RepL π F' ys ws ∧ ((fmR c f (xs.drop i)).bind fun r => .ok (ys ++ r)) = .ok zs,
      ⟨_, rfl, Nat.zero_le _, [], [], F1, Same.refl F1, l0.1, l0.2, .nil, by rw [List.drop_zero, hall] <;> rfl⟩, ?_⟩
    rintro i m H ⟨rfl, hil, ys, ws, F', eF, sa, fr, rl, heq⟩
    by_cases hlt : i < xs.length
    · have hd : xs.drop i = xs[i] :: xs.drop (i + 1) := List.drop_eq_getElem_cons hlt
      have hx : xs[i]? = some xs[i] := List.getElem?_eq_getElem hlt
      obtain ⟨go, yl⟩ := wk.go F' H i _ eF sa.sub hx
      rw [hd] at heq
      unfold fmR at heq
      refine .inr ⟨go, fun H => i + 1 ≤ xs.length ∧ ∃ (ys : List β) (ws : List V) (F' : Hp), Same F1 F' ∧ SA en Γ F' σ H ∧ Fresh en Γ F' σ H D (.lst ws) ∧ RepL π F' ys ws ∧ ((fmR c f (xs.drop (i + 1))).bind fun r => .ok (ys ++ r)) = .ok zs, fun H' ⟨a1, a2⟩ => ⟨_, by omega, rfl, a1, a2⟩, fun v H' y => ?_⟩
      obtain ⟨F2, xx, rv⟩ := yl v H' y
      have sa2 := sa.ext xx
      have fr2 : Fresh en Γ F2 σ H' D (.lst ws) := ⟨no_tup xx.s (xx.n D (by rw [fr.h]; exact fun z => nomatch z) fr.f) (xx.h D _ fr.h) (fun _ z => nomatch z), fr.e, fr.n, xx.h D _ fr.h⟩
      -- the block's own entry
      let en2 : En := ⟨F2, H', Ows Γ σ⟩
      have sw : SA en2 (wipeΓ Γ vs) F2 (wipe σ vs) H' := (sa2.re).wipe
      intro s' H0 C cl fp
      refine (hg s' H0 C cl fp).out en2 _ F2 _ H' v _ _ sw rv fun σ2 s2 ch => ⟨?_, ?_⟩
      · have hw := ch.wipe
        have hi2 : wipe (wipe σ vs) vs = wipe σ vs := by
          apply List.ext_getElem?
          intro j
          by_cases hj : j ∈ vs
          · by_cases hl : j < σ.length
            · rw [wipe_in hj (by rw [wipe_length]; exact hl), wipe_in hj hl]
            · rw [List.getElem?_eq_none (by rw [wipe_length, wipe_length]; omega), List.getElem?_eq_none (by rw [wipe_length]; omega)]
          · rw [wipe_out hj]
        exact hw.trans hi2
      · -- behind a pure evaluation of the block
        have bk : ∀ {F3 H3 : Hp}, SA en2 (g xs[i] (wipeΓ Γ vs)) F3 σ2 H3 → Same F2 F3 → SA en Γ F3 σ H3 ∧ Fresh en Γ F3 σ H3 D (.lst ws) := fun {F3 H3} s3 e3 =>
          ⟨sa2.blk s3 e3 ch (fun j hj => by
            rw [(hg s' H0 C cl fp).keep _ _ j hj]
            exact wipeΓ_out hj) (noOwn_of hno),
          ⟨no_tup s3.sub (s3.frz D (by show H' D ≠ none; rw [fr2.h]; exact fun z => nomatch z) fr2.f (fun ⟨j, a, P, hj, hs⟩ => fr2.n j a P hj hs)) (s3.old D _ fr2.h fun ⟨j, a, P, hj, hs⟩ => fr2.n j a P hj hs) (fun _ z => nomatch z), fr2.e, fr2.n, s3.old D _ fr2.h fun ⟨j, a, P, hj, hs⟩ => fr2.n j a P hj hs⟩⟩
        have hq := heq
        intro s'' H0' C' cl' fp'
        cases hcv : c xs[i] with
        | er z => rw [hcv] at hq; cases hq
        | bad => rw [hcv] at hq; cases hq
        | ok b =>
          rw [hcv] at hq
          refine (ht s'' H0' C' cl' fp' xs[i]).out en2 F2 σ2 H' _ s2 ?_
          rw [hcv]
          intro F3 H3 e3 s3
          obtain ⟨sa3, fr3⟩ := bk s3 e3
          cases b with
          | false =>
            rw [if_neg Bool.false_ne_true]
            exact ⟨hlt, ys, ws, F3, eF.trans (xx.f.trans e3), sa3, fr3, (rl.mono (xx.f.trans e3)), hq⟩
          | true =>
            rw [if_pos rfl]
            have hq' : (((f xs[i]).calm.bind fun y => (fmR c f (xs.drop (i + 1))).bind fun ys => R.ok (y :: ys)).bind fun r => R.ok (ys ++ r)) = .ok zs := hq
            intro s4 H04 C4 cl4 fp4
            cases hfv : f xs[i] with
            | er z => rw [hfv] at hq'; cases hq'
            | bad => rw [hfv] at hq'; cases hq'
            | ok y =>
              rw [hfv] at hq'
              have hq2 : (((fmR c f (xs.drop (i + 1))).bind fun ys => R.ok (y :: ys)).bind fun r => R.ok (ys ++ r)) = .ok zs := hq'
              refine (he s4 H04 C4 cl4 fp4 xs[i]).out en2 F3 σ2 H3 _ s3 ?_
              rw [hfv]
              intro u F4 H4 e4 s4' ru
              obtain ⟨sa4, fr4⟩ := bk s4' (e3.trans e4)
              have hq3 : ((fmR c f (xs.drop (i + 1))).bind fun r => R.ok ((ys ++ [y]) ++ r)) = .ok zs := by
                cases hr : fmR c f (xs.drop (i + 1)) with
                | ok r =>
                  rw [hr] at hq2
                  have q3 : R.ok (ys ++ (y :: r)) = .ok zs := hq2
                  show R.ok ((ys ++ [y]) ++ r) = .ok zs
                  rw [List.append_assoc]
                  exact q3
                | er z => rw [hr] at hq2; cases hq2
                | bad => rw [hr] at hq2; cases hq2
              have hlen : ys.length < sizeLine := by
                cases hr : fmR c f (xs.drop (i + 1)) with
                | ok r =>
                  rw [hr] at hq3
                  have q3 : R.ok ((ys ++ [y]) ++ r) = .ok zs := hq3
                  injection q3 with q3
                  rw [← q3, List.length_append, List.length_append, List.length_cons] at hz
                  omega
                | er z => rw [hr] at hq3; cases hq3
                | bad => rw [hr] at hq3; cases hq3
              have ot := sa4.other (o' := .lst (ws ++ [u])) fr4
              have rl4 : RepL π F4 ys ws := rl.mono ((xx.f.trans e3).trans e4)
              exact ⟨ws, fr4.h, by rw [← rl4.length]; exact hlen, hlt, ys ++ [y], ws ++ [u], F4, eF.trans ((xx.f.trans e3).trans e4), ot.1, ot.2, rl4.append (.cons ru .nil), hq3⟩
    · have e : i = xs.length := by omega
      subst e
      rw [List.drop_length] at heq
      have heq' : R.ok (ys ++ []) = .ok zs := heq
      injection heq' with heq'
      rw [List.append_nil] at heq'
      subst heq'
      exact .inl ⟨wk.stop H _ (eF.trans sa.sub) (Nat.le_refl _), k2 D _ F' H (e1.trans eF) sa fr ⟨ws, rfl, rl⟩⟩
/-- [elt for tg in iter if ..] -/
theorem f_lcF {m : R (List α)} {g : α → List Sl → List Sl} {c : α → R Bool} {f : α → R β} (hN : X.N.Nodup) (hi : IX X U Γ tg iter ρ m) (ok : BlkOk X.N X.env.scope scope own)
    (hg : ∀ (s : Shared) (H : Hp) (C : Addr) (cl : List (Str × Addr)) (fp : List Addr), GT (X.blk s H scope (compEnvC scope cl C X.env) fp) tg ρ (own.map (·.2)) g)
    (ht : ∀ (s : Shared) (H : Hp) (C : Addr) (cl : List (Str × Addr)) (fp : List Addr) (x : α), TsG (X.blk s H scope (compEnvC scope cl C X.env) fp) U0 (g x (wipeΓ Γ (own.map (·.2)))) ifs (c x))
    (he : ∀ (s : Shared) (H : Hp) (C : Addr) (cl : List (Str × Addr)) (fp : List Addr) (x : α), EX (X.blk s H scope (compEnvC scope cl C X.env) fp) U0 (g x (wipeΓ Γ (own.map (·.2)))) elt π (f x))
    (hno : noOwn Γ (own.map (·.2)) = true := by rfl)
    (hc : X.calm = true := by rfl) (hs : ∀ x, foldedSetIterable iter X.env x = pure x := by intro _; rfl) :
    FX X U Γ (.ListComp elt [⟨tg, iter, ifs, 0⟩] scope pos) (fun ys => oLi (tl π) ys) (m.bind fun xs => (fmR c f xs).bind fun ys => chk (ys.length ≤ sizeLine) ys) :=
  ⟨fun en F σ H Q s h => wE_of (pe_lc (wi := wI X tg iter) (g := lG X scope tg) (tt := lT X scope ifs) (te := lE X scope elt) hc hN wI_pi ok
    (fun s H C cl fp => ⟨fun pins s' σ H' v u Q I r h => (h s H C cl fp) pins s' u I r⟩) (fun s H C cl fp => ⟨fun pins s' σ H' Q I h => (h s H C cl fp) pins s' I⟩) (fun s H C cl fp => ⟨fun pins s' σ H' Q I h => (h s H C cl fp) pins s' I⟩) hs) (lc_red hi hg ht he hno s h)⟩
/-- without a test -/
theorem fm_map {f : α → R β} : ∀ xs : List α, fmR (fun _ => .ok true) f xs = mapR f xs
  | [] => rfl
  | x :: xs => by
    unfold fmR mapR
    show (f x).calm.bind (fun y => (fmR (fun _ => R.ok true) f xs).bind fun ys => .ok (y :: ys)) = _
    rw [fm_map xs]
end
end Py

/-! Own layer, part D: defs, operations on data. -/
namespace Py
open PySem PySem.Spec PyProof.Rows L2

/-! ### a def -/
/-- the parameters' slots -/
structure Ar {τ : Type} (t : Tr τ) (n : Nat) (sl : τ → List Sl) : Prop where
  out : ∀ a F vs, t.rep a F vs → vs.length = n ∧ (sl a).length = n ∧ ∀ (i : Nat) x, (sl a)[i]? = some x → ∃ P v, x = .imm P ∧ vs[i]? = some v ∧ P.p F v
theorem ar0 : Ar t0 0 fun _ => [] := ⟨fun a F vs h => ⟨by rw [show vs = [] from h] <;> rfl, rfl, fun i x h => by simp at h⟩⟩
theorem ar1 {α : Type} {ρ : Rp α} : Ar (t1 ρ) 1 fun a => [im ρ a] := ⟨fun a F vs ⟨v, e, r⟩ => ⟨by rw [e] <;> rfl, rfl, fun i x h => by
  cases i with
  | zero =>
    have h' : im ρ a = x := Option.some.inj h
    exact ⟨_, v, h'.symm, by rw [e] <;> rfl, r⟩
  | succ i => simp at h⟩⟩
theorem arc {α τ : Type} {ρ : Rp α} {t : Tr τ} {n : Nat} {sl : τ → List Sl} (h : Ar t n sl) : Ar (tc ρ t) (n + 1) fun a => im ρ a.1 :: sl a.2 := ⟨fun a F vs ⟨v, ws, e, r, q⟩ => by
  obtain ⟨h1, h2, h3⟩ := h.out a.2 F ws q
  refine ⟨by rw [e, List.length_cons, h1], by rw [List.length_cons, h2], fun i x hx => ?_⟩
  cases i with
  | zero =>
    have h' : im ρ a.1 = x := Option.some.inj hx
    exact ⟨_, v, h'.symm, by rw [e] <;> rfl, r⟩
  | succ i =>
    obtain ⟨P, u, g1, g2, g3⟩ := h3 i x (by simpa using hx)
    exact ⟨P, u, g1, by rw [e]; simpa using g2, g3⟩⟩
section
variable {P : Program} {w : World} {K : PySem.W.Frag} {mg : Str → Option Value} {base : Heap}
/-- where a def's body stands -/
abbrev CxF (P : Program) (w : World) (K : PySem.W.Frag) (mg : Str → Option Value) (base : Heap) (N : List Str) (qual : Str) (st : Stmt) (f : Addr) (cdv : Value) (A : Around) (outer : List Env) (s : Shared) (H : Hp) (E : XK) : Cx :=
  cxOf (L2.CX P w) P w K mg base N qual (defScope st) f cdv A outer s H E
abbrev UF (E : XK) : Wi := ⟨fun cls d _ H => E cls d H, []⟩
/-- a def as it stands behind the top, with defaults or without -/
structure FunZ (K : PySem.W.Frag) (x qual : Str) (st : Stmt) (f : Addr) (fd : FuncData) : Prop where
  ex : ∃ (oc : Value) (od : Option Addr) (dV kV doc pm : Value) (an : Option Addr) (cdv ct : Value) (osl : Array (Option Value)),
    fd = PySem.W.fnOf x qual (defArgs st) (defBody st) (defScope st) dV kV doc pm an cdv ct ∧ K.lookup f = some ⟨oc, od, .func fd, osl⟩ ∧ PySem.W.codeIn K cdv qual = true
  kp : PySem.W.keepIn K (.ref f) = true
theorem FunZ.okX {P : Program} {w : World} {K : PySem.W.Frag} {mg : Str → Option Value} {base : Heap} {x qual : Str} {st : Stmt} {f : Addr} {fd : FuncData} {N ps : List Str} {k : Nat} {sp : Sp} (F : FunZ K x qual st f fd) (S : FnScope N ps (defScope st)) (len : ∀ vs H Q E, sp vs H Q E → vs.length = ps.length)
    (hbody : ∀ (cdv : Value) (A : Around) (outer : List Env) (s : Shared) (H : Hp) (vs : List V) (Q : VK) (E : XK), Room k (A.deeper (envOfC qual (defScope st) s.heap.objs.size f cdv)) → sp vs H Q E →
      ∃ t, PSs (cxOf (L2.CX P w) P w K mg base N qual (defScope st) f cdv A outer s H E) (defBody st) t ∧ t { nx := fun _ H' => Q .non H', rt := Q } (start N vs) H) : FnOk P w K mg base (L2.CX P w) (k + 1) f fd ps sp := by
  obtain ⟨oc, od, dV, kV, doc, pm, an, cdv, ct, osl, rfl, lk, hcd⟩ := F.ex
  exact fn_of lk hcd S len fun A outer s H vs Q E hr hsp => hbody cdv A outer s H vs Q E hr hsp
theorem f_ok {x qual : Str} {st : Stmt} {f : Addr} {fd : FuncData} {N ps : List Str} {k n : Nat} {τ γ : Type} {t : Tr τ} {ρ : Rp γ} {fm : τ → R γ} {sl : τ → List Sl} (Γ0 : τ → List Sl) (Fn : FunZ K x qual st f fd) (S : FnScope N ps (defScope st)) (ar : Ar t n sl) (hn : n = ps.length) (hN : n ≤ N.length)
    (hΓ : ∀ a, Γ0 a = sl a ++ List.replicate (N.length - n) .any)
    (body : ∀ cdv A outer s H E (hr : Room k (A.deeper (envOfC qual (defScope st) s.heap.objs.size f cdv))) (tk : Takes (CxF P w K mg base N qual st f cdv A outer s H E) (UF E).W) (hp : PassesOwn (model P w) (A.deeper (envOfC qual (defScope st) s.heap.objs.size f cdv)) (envOfC qual (defScope st) s.heap.objs.size f cdv) (CxF P w K mg base N qual st f cdv A outer s H E).xe) (a : τ),
      SX (CxF P w K mg base N qual st f cdv A outer s H E) (UF E) (Γ0 a) (defBody st) (fun z : γ => .fn ⟨fun H v => ρ.rep z H v, fun e h => ρ.mono e h⟩ []) (fm a)) :
    FnOk P w K mg base (L2.CX P w) (k + 1) f fd ps (SpP mg t ρ fm) := by
  refine Fn.okX S (fun vs H Q E ⟨F, a, _, r, _⟩ => ?_) (fun cdv A outer s H vs Q E hr ⟨F, a, sF, r, hw⟩ => ?_)
  · rw [← hn]
    exact (ar.out a F vs r).1
  · obtain ⟨h1, h2, h3⟩ := ar.out a F vs r
    refine ⟨_, wSs_pss, ?_⟩
    have hst : ∀ (i : Nat) v, vs[i]? = some v → (L2.start N vs)[i]? = some (some v) := fun i v e => by
      unfold L2.start
      have hl : i < vs.length := (List.getElem?_eq_some_iff.mp e).1
      rw [List.getElem?_append_left (by rw [List.length_map]; exact hl), List.getElem?_map, e] <;> rfl
    have im0 : ∀ (i : Nat) x, (Γ0 a)[i]? = some x → x = .any ∨ ∃ P v, x = .imm P ∧ vs[i]? = some v ∧ P.p F v := fun i x hx => by
      rw [hΓ] at hx
      by_cases hl : i < (sl a).length
      · rw [List.getElem?_append_left hl] at hx
        exact .inr (h3 i x hx)
      · rw [List.getElem?_append_right (by omega), List.getElem?_replicate] at hx
        split at hx
        · exact .inl (Option.some.inj hx).symm
        · cases hx
    have sa : SA ⟨F, H, fun _ => False⟩ (Γ0 a) F (L2.start N vs) H := by
      refine ⟨?_, sF, Same.refl F, fun _ _ h _ => h, fun _ h => h, fun _ _ h _ => .inl h, fun i Q hi => ?_, fun i b Q hi => ?_, fun i j b c Q Q' p _ hi => ?_⟩
      · rw [hΓ, List.length_append, List.length_replicate, h2]
        unfold L2.start
        rw [List.length_append, List.length_map, List.length_replicate, h1]
        exact Nat.le_refl _
      · rcases im0 i _ hi with z | ⟨Q', v, z, hv, hq⟩
        · cases z
        · injection z with z
          subst z
          exact ⟨v, hst i v hv, hq⟩
      · rcases im0 i _ hi with z | ⟨Q', v, z, hv, hq⟩
        · cases z
        · cases z
      · rcases im0 i _ hi with z | ⟨Q', v, z, hv, hq⟩
        · cases z
        · cases z
    have fin : ∀ {F' : Hp} {σ' : L2.St} {H' : Hp}, Same F F' → SA ⟨F, H, fun _ => False⟩ [] F' σ' H' → Ext F H F' H' := fun {F' σ' H'} e s' => ⟨e, fun p o h => s'.old p o h (fun z => z), s'.sub, fun p h hf => s'.frz p h hf fun z => z⟩
    refine (body cdv A outer s H E hr (takes_of rfl rfl rfl rfl) (passes_of rfl) a).out ⟨F, H, fun _ => False⟩ F _ H _ sa (wpR_mono hw (fun z k => ⟨fun v F' σ' H' e s' rv => k v F' H' (fin e s') rv, fun F' σ' H' e s' rv => k .non F' H' (fin e s') rv⟩) fun r z cls d F' σ' H' e s' o => z cls d F' H' (fin e s') o)
/-- a def without parameters is called -/
theorem SpP.nil {τ γ : Type} {t : Tr τ} {ρ : Rp γ} {f : τ → R γ} {vs : List V} {H : Hp} {Q : VK} {E : XK} {F : Hp} {a : τ} (e : Same F H) (r : t.rep a F vs)
    (h : wpR (f a) (fun z => ∀ v F' H', Ext F H F' H' → ρ.rep z F' v → Q v H') (fun r => ∀ cls d F' H', Ext F H F' H' → ErOk mg r cls d F' → E cls d H')) : SpP mg t ρ f vs H Q E := ⟨F, a, e, r, h⟩
end

/-! ### ints -/
theorem dI0 {f : Int → Int → Int} : D2 (rI0 fun i j => .int (f i j)) rI rI rI fun x y => .ok (f x y) := fun x y v w F H Q e rv rw h => ⟨x, y, rv, rw, h _ F H (Ext.refl e) rfl⟩
theorem dIb {f : Int → Int → Bool} : D2 (rI0 fun i j => .bl (f i j)) rI rI rB fun x y => .ok (f x y) := fun x y v w F H Q e rv rw h => ⟨x, y, rv, rw, h _ F H (Ext.refl e) rfl⟩
theorem dIc {C : Int → Int → Prop} [∀ i j, Decidable (C i j)] {f : Int → Int → Int} : D2 (L2.rI C fun i j => .int (f i j)) Py.rI Py.rI Py.rI fun x y => chk (C x y) (f x y) := fun x y v w F H Q e rv rw h => by
  obtain ⟨hc, k⟩ := wpR_chk h
  exact ⟨x, y, rv, rw, hc, k _ F H (Ext.refl e) rfl⟩
instance (i j : Int) : Decidable (CMulW i j) := inferInstanceAs (Decidable (_ < _))
instance (i j : Int) : Decidable (CDivW i j) := inferInstanceAs (Decidable (_ ∧ _))
instance (i j : Int) : Decidable (CPow i j) := inferInstanceAs (Decidable (_ ∧ _ ∧ _))
section
variable {X : Cx} {U : Wi} {Γ : List Sl} {a b e : Expr} {es : List Expr} {pos : Pos} {m1 m2 : R Int}
theorem x_add (ha : EX X U Γ a rI m1) (hb : EX X U Γ b rI m2) : EX X U Γ (.BinOp a .Add b pos) rI (m1.bind fun x => m2.bind fun y => .ok (x + y)) := x_bin op_add dI0 ha hb
theorem x_sub (ha : EX X U Γ a rI m1) (hb : EX X U Γ b rI m2) : EX X U Γ (.BinOp a .Sub b pos) rI (m1.bind fun x => m2.bind fun y => .ok (x - y)) := x_bin op_sub dI0 ha hb
theorem chk_calm {c : Prop} [Decidable c] {α : Type} {a : α} : ((chk c a).calm.bind fun z => .ok z) = chk c a := by
  unfold chk
  by_cases h : c
  · rw [if_pos h] <;> rfl
  · rw [if_neg h] <;> rfl
theorem opt_calm {α : Type} {o : Option α} : ((ofOpt o).calm.bind fun z => .ok z) = ofOpt o := by cases o <;> rfl
theorem x_mul (ha : EX X U Γ a rI m1) (hb : EX X U Γ b rI m2) : EX X U Γ (.BinOp a .Mult b pos) rI (m1.bind fun x => m2.bind fun y => chk (CMulW x y) (x * y)) := by
  have h := x_bin (pos := pos) op_mulW (dIc (C := CMulW) (f := fun i j => i * j)) ha hb
  simp only [chk_calm] at h
  exact h
theorem x_fdiv (ha : EX X U Γ a rI m1) (hb : EX X U Γ b rI m2) : EX X U Γ (.BinOp a .FloorDiv b pos) rI (m1.bind fun x => m2.bind fun y => chk (CDivW x y) (x / y)) := by
  have h := x_bin (pos := pos) op_fdivW (dIc (C := CDivW) (f := fun i j => i / j)) ha hb
  simp only [chk_calm] at h
  exact h
theorem x_mod (ha : EX X U Γ a rI m1) (hb : EX X U Γ b rI m2) : EX X U Γ (.BinOp a .Mod b pos) rI (m1.bind fun x => m2.bind fun y => chk (0 < y) (x % y)) := by
  have h := x_bin (pos := pos) op_mod (dIc (C := fun _ j => 0 < j) (f := fun i j => i % j)) ha hb
  simp only [chk_calm] at h
  exact h
/-- by written numbers -/
theorem x_mulC {i : Int} {j} {p : Pos} (ha : EX X U Γ a rI m1) (hi : -(2 ^ 64) < i ∧ i < 2 ^ 64 := by decide) : EX X U Γ (.BinOp a .Mult (.Constant (.int i) j p) pos) rI (m1.bind fun x => .ok (x * i)) :=
  ⟨fun en F σ H Q s h => wE_of (pe_op op_mul wE_pe pe_int) (ha.out en F σ H _ s (wpR_mono (wpR_bind h) (fun x k v F1 H1 e1 s1 r1 => ⟨x, i, r1, rfl, .inr hi, k _ F1 H1 e1 s1 rfl⟩) fun _ z => z))⟩
theorem x_mulCl {i : Int} {j} {p : Pos} (ha : EX X U Γ a rI m1) (hi : -(2 ^ 64) < i ∧ i < 2 ^ 64 := by decide) : EX X U Γ (.BinOp (.Constant (.int i) j p) .Mult a pos) rI (m1.bind fun x => .ok (i * x)) :=
  ⟨fun en F σ H Q s h => wE_of (pe_op op_mul pe_int wE_pe) (ha.out en F σ H _ s (wpR_mono (wpR_bind h) (fun x k v F1 H1 e1 s1 r1 => ⟨i, x, rfl, r1, .inl hi, k _ F1 H1 e1 s1 rfl⟩) fun _ z => z))⟩
theorem x_modC {i : Int} {j} {p : Pos} (ha : EX X U Γ a rI m1) (hi : 0 < i := by decide) : EX X U Γ (.BinOp a .Mod (.Constant (.int i) j p) pos) rI (m1.bind fun x => .ok (x % i)) :=
  ⟨fun en F σ H Q s h => wE_of (pe_op op_mod wE_pe pe_int) (ha.out en F σ H _ s (wpR_mono (wpR_bind h) (fun x k v F1 H1 e1 s1 r1 => ⟨x, i, r1, rfl, hi, k _ F1 H1 e1 s1 rfl⟩) fun _ z => z))⟩
theorem x_fdivC {i : Int} {j} {p : Pos} (ha : EX X U Γ a rI m1) (hi : CDivW 0 i := by decide) : EX X U Γ (.BinOp a .FloorDiv (.Constant (.int i) j p) pos) rI (m1.bind fun x => .ok (x / i)) :=
  ⟨fun en F σ H Q s h => wE_of (pe_op op_fdivW wE_pe pe_int) (ha.out en F σ H _ s (wpR_mono (wpR_bind h) (fun x k v F1 H1 e1 s1 r1 => ⟨x, i, r1, rfl, hi, k _ F1 H1 e1 s1 rfl⟩) fun _ z => z))⟩
theorem x_powC {i j : Int} {k1 k2} {p1 p2 : Pos} (v : Int) (hi : CPow i j := by decide) (hv : i ^ j.toNat = v := by decide) : EX X U Γ (.BinOp (.Constant (.int i) k1 p1) .Pow (.Constant (.int j) k2 p2) pos) rI (.ok v) :=
  ⟨fun en F σ H Q s h => wE_of (pe_op op_pow pe_int pe_int) ⟨i, j, rfl, rfl, hi, by show Q (V.int (i ^ j.toNat)) H; rw [hv]; exact h _ F H (Same.refl F) s rfl⟩⟩
theorem dEqI : D2 rEq rI rI rB fun x y => .ok (decide (x = y)) := fun x y v w F H Q e rv rw h => by
  subst rv rw
  refine ⟨rfl, ?_⟩
  rw [dec_int, Bool.beq_eq_decide_eq]
  exact h _ F H (Ext.refl e) rfl
theorem dNeB : D2 rNe rB rB rB fun x y => .ok (!decide (x = y)) := fun x y v w F H Q e rv rw h => by
  subst rv rw
  refine ⟨rfl, ?_⟩
  rw [dec_bl, Bool.beq_eq_decide_eq]
  exact h _ F H (Ext.refl e) rfl
theorem dEqS : D2 rEq rS rS rB fun x y => .ok (decide (x = y)) := fun x y v w F H Q e rv rw h => by
  subst rv rw
  refine ⟨rfl, ?_⟩
  have : decide (V.str x = V.str y) = decide (x = y) := by
    rw [Bool.eq_iff_iff]
    simp
  rw [this]
  exact h _ F H (Ext.refl e) rfl
end

/-! ### data at any depth: equality -/
structure Dt {α : Type} [DecidableEq α] (ρ : Rp α) where
  dat : α → PyData
  dep : Nat
  dp : ∀ K H a v, ρ.rep a H v → Dp K H v (dat a)
  lay : ∀ a, (dat a).canLay0 = true
  dle : ∀ a, (dat a).depth ≤ dep
  eqv : ∀ a b, PyData.eqv (dat a) (dat b) = decide (a = b)
structure Dts {τ : Type} [DecidableEq τ] (t : Tr τ) where
  dat : τ → List PyData
  dep : Nat
  dp : ∀ K H a vs, t.rep a H vs → DpAll K H vs (dat a)
  lay : ∀ a, PyData.canLayAll0 (dat a) = true
  dle : ∀ a, PyData.depthAll (dat a) ≤ dep
  eqv : ∀ a b, PyData.eqvAll (dat a) (dat b) = decide (a = b)
def k1 {α : Type} [DecidableEq α] {ρ : Rp α} (d : Dt ρ) : Dts (t1 ρ) where
  dat := fun a => [d.dat a]
  dep := d.dep
  dp := fun K H a vs ⟨v, e, r⟩ => by
    rw [e]
    exact .cons (d.dp K H a v r) .nil
  lay := fun a => by simp [PyData.canLayAll0, d.lay]
  dle := fun a => by
    have := d.dle a
    simp [PyData.depthAll]
    exact this
  eqv := fun a b => by simp [PyData.eqvAll, d.eqv]
theorem Dt.shp {α : Type} [DecidableEq α] {ρ : Rp α} (d : Dt ρ) (h : d.dep ≤ 64) (a : α) : SeqAt.shaped (d.dat a) = true := by
  unfold SeqAt.shaped
  rw [Bool.and_eq_true, decide_eq_true_eq]
  exact ⟨d.lay a, Nat.le_trans (d.dle a) h⟩
/-- x in xs, answered -/
def hasB {α : Type} [DecidableEq α] (x : α) (xs : List α) : Bool := decide (x ∈ xs)
theorem hasB_iff {α : Type} [DecidableEq α] {x : α} {xs : List α} : hasB x xs = true ↔ x ∈ xs := decide_eq_true_iff
/-! ### items -/
/-- the j-th of a row of unlike types -/
structure Pj {τ β : Type} (t : Tr τ) (j : Nat) (ρ : Rp β) (f : τ → β) : Prop where
  out : ∀ a F vs, t.rep a F vs → ∃ v, vs[j]? = some v ∧ ρ.rep (f a) F v
theorem pj1 {α : Type} {ρ : Rp α} : Pj (t1 ρ) 0 ρ fun a => a := ⟨fun a F vs ⟨v, e, r⟩ => ⟨v, by rw [e] <;> rfl, r⟩⟩
theorem pj0 {α τ : Type} {ρ : Rp α} {t : Tr τ} : Pj (tc ρ t) 0 ρ fun a => a.1 := ⟨fun a F vs ⟨v, ws, e, r, _⟩ => ⟨v, by rw [e] <;> rfl, r⟩⟩
theorem pjs {α β τ : Type} {ρ : Rp α} {π : Rp β} {t : Tr τ} {j : Nat} {f : τ → β} (h : Pj t j π f) : Pj (tc ρ t) (j + 1) π fun a => f a.2 := ⟨fun a F vs ⟨v, ws, e, r, q⟩ => by
  obtain ⟨u, h1, h2⟩ := h.out a.2 F ws q
  exact ⟨u, by rw [e]; simpa using h1, h2⟩⟩
section
variable {X : Cx} {U : Wi} {Γ : List Sl} {a b e : Expr} {es : List Expr} {pos : Pos} {α β γ τ ω : Type} {ρ : Rp α}
theorem g_pj {t : Tr τ} {π : Rp β} {f : τ → β} {m : R ω} {val : ω → τ} {Γ' : ω → List Sl} {j : Nat} {p2 : Pos} {jj} (hj : Pj t j π f) (ha : EG X U Γ a (rTu t) m val Γ') : EG X U Γ (.Subscript a (.Constant (.int (j : Nat)) jj p2) pos) π m (fun w => f (val w)) Γ' :=
  ⟨fun en F σ H Q s h => wE_of (pe_ix (hs := fun _ _ => rfl) ix_tup wE_pe pe_int) (ha.out en F σ H _ s (wpR_mono h (fun w k v F1 H1 e1 s1 ⟨p, vs, ev, hp, r⟩ => by
    obtain ⟨u, h1, h2⟩ := hj.out _ F1 vs r
    exact ⟨p, vs, (j : Nat), u, ev, rfl, .inl (.inl (s1.sub p _ hp)), atI_nat h1, k u F1 H1 e1 s1 h2⟩) fun _ z => z))⟩
/-- t[0], t[1] .. -/
theorem x_pj {t : Tr τ} {π : Rp β} {f : τ → β} {m : R τ} {p2 : Pos} {jj} (j : Nat) (hj : Pj t j π f) (ha : EX X U Γ a (rTu t) m) : EX X U Γ (.Subscript a (.Constant (.int (j : Nat)) jj p2) pos) π (m.bind fun x => .ok (f x)) :=
  ⟨fun en F σ H Q s h => (g_pj (pos := pos) (p2 := p2) (jj := jj) hj ha).out en F σ H Q s (wpR_mono (wpR_bind h) (fun w k => k) fun _ z => z)⟩
theorem atI_rep {F : Hp} {xs : List α} {vs : List V} {i : Int} {x : α} (r : RepL ρ F xs vs) (h : atI xs i = some x) : ∃ v, atI vs i = some v ∧ ρ.rep x F v := by
  unfold atI at h ⊢
  rw [← r.length]
  cases hi : ixN xs.length i with
  | none => rw [hi] at h; cases h
  | some j =>
    rw [hi] at h
    exact r.got h
theorem dIxT {K : PySem.W.Frag} : D2 (rIxT K) (rT ρ) rI ρ fun xs i => ofOpt (atI xs i) := fun xs i v w F H Q e ⟨p, vs, ev, hp, r⟩ rw h => by
  obtain ⟨x, hx, k⟩ := wpR_opt h
  obtain ⟨u, hu, ru⟩ := atI_rep r hx
  exact ⟨p, vs, i, u, ev, rw, .inl (.inl (e p _ hp)), hu, k u F H (Ext.refl e) ru⟩
theorem dIxL {K : PySem.W.Frag} : D2 (rIxL K) (rL ρ) rI ρ fun xs i => ofOpt (atI xs i) := fun xs i v w F H Q e ⟨p, vs, ev, hp, r⟩ rw h => by
  obtain ⟨x, hx, k⟩ := wpR_opt h
  obtain ⟨u, hu, ru⟩ := atI_rep r hx
  exact ⟨p, vs, i, u, ev, rw, .inl (.inl (e p _ hp)), hu, k u F H (Ext.refl e) ru⟩
theorem x_ixT {m1 : R (List α)} {m2 : R Int} (ha : EX X U Γ a (rT ρ) m1) (hb : EX X U Γ b rI m2) (hs : PlainIx b := by exact fun _ _ => rfl) : EX X U Γ (.Subscript a b pos) ρ (m1.bind fun x => m2.bind fun y => ofOpt (atI x y)) := by
  have h := x_ix (pos := pos) ix_tup dIxT ha hb hs
  simp only [opt_calm] at h
  exact h
theorem x_ixL {m1 : R (List α)} {m2 : R Int} (ha : EX X U Γ a (rL ρ) m1) (hb : EX X U Γ b rI m2) (hs : PlainIx b := by exact fun _ _ => rfl) : EX X U Γ (.Subscript a b pos) ρ (m1.bind fun x => m2.bind fun y => ofOpt (atI x y)) := by
  have h := x_ix (pos := pos) ix_list dIxL ha hb hs
  simp only [opt_calm] at h
  exact h
/-! ### built-ins -/
def rLen (K : PySem.W.Frag) : List V → Hp → VK → Prop := fun xs H Q => ∃ x n, xs = [x] ∧ LenV K x H n ∧ Q (.int n) H
theorem dLenT {K : PySem.W.Frag} : DC (rLen K) (t1 (rT ρ)) rI fun xs => .ok (xs.length : Nat) := fun xs vs F H Q e ⟨v, ev, p, ws, e2, hp, r⟩ h =>
  ⟨v, xs.length, ev, by rw [e2]; exact .inr ⟨ws, .inl (.inl (e p _ hp)), r.length⟩, h _ F H (Ext.refl e) rfl⟩
theorem x_len {t : Tr τ} {mr : τ → R Int} {m : R τ} {p : Pos} (hd : DC (rLen X.K) t rI mr) (hm : X.mg "len" = none) (ha : AX X U Γ (a :: es) t m) (hg : Gl X "len" := by rfl)
    (he : starEach (a :: es) X.env = (false, eval a X.env) :: starEach es X.env := by rfl) (hpl : (backTo pos (starEach es X.env)).any (·.1) = false := by rfl) :
    EX X U Γ (.Call (.Name "len" p) (a :: es) [] pos) rI (m.bind fun x => (mr x).calm.bind fun z => .ok z) := x_callB call_len hd hm boot_len ha hg (by decide) (by decide) he hpl
theorem bl_rep : ∀ {bs : List Bool} {F : Hp} {vs : List V}, RepL rB F bs vs → vs = bs.map V.bl
  | _, _, _, .nil => rfl
  | _, _, _, .cons r t => by rw [bl_rep t, show _ = V.bl _ from r, List.map_cons]
theorem dAll {K : PySem.W.Frag} : DC (rAll K) (t1 (rL rB)) rB fun bs => .ok (bs.all id) := fun bs vs F H Q e ⟨v, ev, p, ws, e2, hp, r⟩ h =>
  ⟨p, bs, by rw [ev, e2], by rw [← bl_rep r]; exact .inl (.inl (e p _ hp)), h _ F H (Ext.refl e) rfl⟩
theorem int_rep : ∀ {bs : List Int} {F : Hp} {vs : List V}, RepL rI F bs vs → vs = bs.map V.int
  | _, _, _, .nil => rfl
  | _, _, _, .cons r t => by rw [int_rep t, show _ = V.int _ from r, List.map_cons]
def CDv (j : Int) : Prop := 0 < j ∧ j.natAbs.log2 < 8900
instance (j : Int) : Decidable (CDv j) := inferInstanceAs (Decidable (_ ∧ _))
theorem CDv.ok {i j : Int} (h : CDv j) : CDivP i j := by
  refine ⟨h.1, ?_⟩
  unfold Builtin.divisionGoesByPylong
  have h2 := h.2
  simp only [Bool.and_eq_false_iff, decide_eq_false_iff_not]
  left
  split
  · omega
  · omega
theorem dMin : DC (fun xs H Q => ∃ i j, xs = [.int i, .int j] ∧ Q (.int (if j < i then j else i)) H) (tc rI (t1 rI)) rI fun x => .ok (if x.2 < x.1 then x.2 else x.1) := fun x vs F H Q e ⟨v, ws, ev, r1, w, ew, r2⟩ h =>
  ⟨x.1, x.2, by rw [ev, ew, show v = V.int x.1 from r1, show w = V.int x.2 from r2], h _ F H (Ext.refl e) rfl⟩
theorem dSum {K : PySem.W.Frag} : DC (L2.rSum K) (t1 (rL rI)) Py.rI fun bs => .ok bs.sum := fun bs vs F H Q e ⟨v, ev, p, ws, e2, hp, r⟩ h =>
  ⟨p, bs, by rw [ev, e2], by rw [← int_rep r]; exact .inl (.inl (e p _ hp)), h _ F H (Ext.refl e) rfl⟩
theorem rep_int (F : Hp) : ∀ ns : List Int, RepL rI F ns (ns.map V.int)
  | [] => .nil
  | n :: r => .cons rfl (rep_int F r)
def rTup1 (K : PySem.W.Frag) : List V → Hp → VK → Prop := fun xs H Q => ∃ p ys, xs = [.ref p] ∧ ((SqL K H p ys ∧ ∀ l, H l = none → Q (.ref l) (upd H l (.tup ys))) ∨ (SqT K H p ys ∧ Q (.ref p) H))
theorem dTupL {K : PySem.W.Frag} : DC (rTup1 K) (t1 (rL ρ)) (rT ρ) fun xs => .ok xs := fun xs vs F H Q e ⟨v, ev, p, ws, e2, hp, r⟩ h =>
  ⟨p, ws, by rw [ev, e2], .inl ⟨.inl (.inl (e p _ hp)), fun l hl => by
    have x := Ext.new (o := .tup ws) e hl
    exact h _ _ _ x ⟨l, ws, rfl, upd_same, r.mono x.f⟩⟩⟩
/-- t + u -/
theorem dCatT {K : PySem.W.Frag} : D2 (rCatA K) (rT ρ) (rT ρ) (rT ρ) fun xs ys => chk (xs.length + ys.length ≤ sizeLine) (xs ++ ys) := fun xs ys v w F H Q e ⟨p, vs, ev, hp, r⟩ ⟨q, ws, ew, hq, r2⟩ h => by
  obtain ⟨hl, k⟩ := wpR_chk h
  refine ⟨p, q, vs, ws, ev, ew, .inl (.inl (e p _ hp)), .inl (.inl (e q _ hq)), by rw [← r.length, ← r2.length]; exact hl, fun z => ?_, fun z1 z2 => ?_, fun z1 z2 l hl => ?_⟩
  · subst z
    cases r
    exact k _ F H (Ext.refl e) ⟨q, ws, rfl, hq, r2⟩
  · subst z2
    cases r2
    exact k _ F H (Ext.refl e) ⟨p, vs, rfl, hp, by rw [List.append_nil]; exact r⟩
  · have x := Ext.new (o := .tup (vs ++ ws)) e hl
    exact k _ _ _ x ⟨l, _, rfl, upd_same, (r.append r2).mono x.f⟩
theorem x_catT {m1 m2 : R (List α)} (ha : EX X U Γ a (rT ρ) m1) (hb : EX X U Γ b (rT ρ) m2) : EX X U Γ (.BinOp a .Add b pos) (rT ρ) (m1.bind fun x => m2.bind fun y => chk (x.length + y.length ≤ sizeLine) (x ++ y)) := by
  have h := x_bin (pos := pos) op_catA dCatT ha hb
  simp only [chk_calm] at h
  exact h
/-- xs + ys, a new list -/
theorem f_catL {m1 m2 : R (List α)} (ha : EX X U Γ a (rL ρ) m1) (hb : EX X U Γ b (rL ρ) m2) : FX X U Γ (.BinOp a .Add b pos) (fun ys => oLi (tl ρ) ys) (m1.bind fun x => m2.bind fun y => chk (x.length + y.length ≤ sizeLine) (x ++ y)) :=
  ⟨fun en F σ H Q s h => wE_of (pe_op op_cat wE_pe wE_pe) (ha.out en F σ H _ s (wpR_mono (wpR_bind h) (fun x k v F1 H1 e1 s1 ⟨p, vs, ev, hp, r⟩ =>
    hb.out en F1 σ H1 _ s1 (wpR_mono (wpR_bind k) (fun y k2 u F2 H2 e2 s2 ⟨q, ws, eu, hq, r2⟩ => by
      obtain ⟨hl, k2⟩ := wpR_chk k2
      refine ⟨p, q, vs, ws, ev, eu, s2.sub p _ (e2 p _ hp), s2.sub q _ hq, by rw [← r.length, ← r2.length]; exact hl, fun l hl => ?_⟩
      exact k2 l _ F2 _ (e1.trans e2) (s2.lay hl).1 (s2.lay hl).2 ⟨_, rfl, (r.mono e2).append r2⟩) fun _ z => z.up e1)) fun _ z => z))⟩
/-- xs[lo:hi] -/
def cutL (xs : List α) (lo hi : Option Int) : List α := (xs.drop (HT.sIx xs.length 0 lo)).take (HT.sIx xs.length xs.length hi - HT.sIx xs.length 0 lo)
/-- a part of a slice -/
structure OG (X : Cx) (U : Wi) (Γ : List Sl) (e : Option Expr) (m : R (Option Int)) : Prop where
  out : ∀ en F σ H (Q : Option Int → Hp → Prop), SA en Γ F σ H → wpR m (fun w => ∀ F' H', Same F F' → SA en Γ F' σ H' → Q w H') (U.ok X.mg en F) → ∃ t, PO X e t ∧ t σ H Q
def wO (X : Cx) (e : Option Expr) : TO := fun σ H Q => ∃ t, PO X e t ∧ t σ H Q
theorem wO_po {e : Option Expr} : PO X e (wO X e) := ⟨fun pins s σ H Q I ⟨t, h, q⟩ => h.run pins s σ H Q I q⟩
theorem o_none : OG X U Γ none (.ok none) := ⟨fun en F σ H Q s h => ⟨_, po_none, h F H (Same.refl F) s⟩⟩
theorem o_some {m : R Int} (h : EX X U Γ e rI m) : OG X U Γ (some e) (m.bind fun x => .ok (some x)) :=
  ⟨fun en F σ H Q s q => ⟨_, po_some wE_pe, h.out en F σ H _ s (wpR_mono (wpR_bind q) (fun x k v F1 H1 e1 s1 r1 => ⟨x, r1, k F1 H1 e1 s1⟩) fun _ z => z)⟩⟩
theorem cut_int (xs : List Int) (lo hi : Option Int) : cutV (xs.map V.int) lo hi = (cutL xs lo hi).map V.int := by
  unfold cutV cutL
  rw [List.length_map, List.map_take, List.map_drop]
theorem f_slS {lo hi : Option Expr} {p2 : Pos} {m : R (List Int)} {ml mh : R (Option Int)} (ha : EX X U Γ a (rScr X.K) m) (hl : OG X U Γ lo ml) (hh : OG X U Γ hi mh) :
    FX X U Γ (.Subscript a (.Slice lo hi none p2) pos) (fun ys => oLi (tl rI) ys) (m.bind fun xs => ml.bind fun l => mh.bind fun h => .ok (cutL xs l h)) :=
  ⟨fun en F σ H Q s h => wE_of (pe_slice sl_list wE_pe wO_po wO_po) (ha.out en F σ H _ s (wpR_mono (wpR_bind h) (fun x k v F1 H1 e1 s1 ⟨p, ev, hp⟩ =>
    hl.out en F1 σ H1 _ s1 (wpR_mono (wpR_bind k) (fun l k2 F2 H2 e2 s2 => hh.out en F2 σ H2 _ s2 (wpR_mono (wpR_bind k2) (fun hi k3 F3 H3 e3 s3 =>
      ⟨p, _, ev, Same.seq (e2.trans (e3.trans s3.sub)) hp, fun q hq => k3 q _ F3 _ (e1.trans (e2.trans e3)) (s3.lay hq).1 (s3.lay hq).2 ⟨_, rfl, by rw [cut_int]; exact rep_int F3 _⟩⟩) fun _ z => z.up (e1.trans e2))) fun _ z => z.up e1)) fun _ z => z))⟩

/-! ### isinstance with a built-in class -/
/-- the class of what stands for a value of ρ -/
structure Ty {α : Type} (ρ : Rp α) (c : α → String) : Prop where
  out : ∀ K H x v, ρ.rep x H v → TyX K H v (.type (c x))
theorem tyS : Ty rS fun _ => "str" := ⟨fun K H x v r => by rw [show v = V.str x from r]; exact .base (.str x)⟩
theorem nnTu {τ : Type} {t : Tr τ} (x : τ) (F : Hp) : ¬ (rTu t).rep x F .non := fun ⟨_, _, h, _⟩ => nomatch h
theorem x_isi {m : R α} {c : α → String} {T : String} {n : Str} {p p2 : Pos} (f : α → Bool) (ht : Ty ρ c) (hf : ∀ x, kitB (c x) T = some (f x)) (hm : X.mg "isinstance" = none) (hn : X.mg n = none) (hv : bootBuiltins n = some (.type T)) (ha : EX X U Γ a ρ m)
    (hg : Gl X "isinstance" := by rfl) (hg2 : Gl X n := by rfl) (hnn : n ≠ "__name__" := by decide) (hnd : (n == ("__debug__" : Str)) = false := by decide)
    (he : starEach [a, .Name n p2] X.env = (false, eval a X.env) :: starEach [.Name n p2] X.env := by rfl) (he2 : starEach [.Name n p2] X.env = (false, eval (.Name n p2) X.env) :: starEach [] X.env := by rfl) (hpl : (backTo pos (starEach [.Name n p2] X.env)).any (·.1) = false := by rfl) :
    EX X U Γ (.Call (.Name "isinstance" p) [a, .Name n p2] [] pos) rB (m.bind fun x => .ok (f x)) :=
  ⟨fun en F σ H Q s h => wE_of (pe_callB call_isi hg hm boot_isinstance (pa_cons wE_pe (pa_cons (pe_bltn (v := .ty T) hg2 hn hv rfl hnn hnd) pa_nil he2) he) (by decide) (by decide) he hpl) (ha.out en F σ H _ s (wpR_mono (wpR_bind h) (fun x k v F1 H1 e1 s1 r1 =>
    ⟨v, .ty T, _, _, f x, rfl, .ty T, ht.out X.K H1 x v (ρ.mono s1.sub r1), kit_ty (hf x), k _ F1 H1 e1 s1 rfl⟩) fun _ z => z))⟩

/-! ### own lists -/
variable {ω' : Type} {I : ω → Kd} {rest : List Stmt} {n : Str}
/-- xs.append(e), xs in slot i -/
theorem s_append {a0 : Option Addr} {p ap cp : Pos} {xs : List α} {m : R α} {k : α → R ω} (i : Nat) (he : EX X U Γ e ρ m) (hr : ∀ y, SX X U (Γ.set i (.own a0 (oLi (tl ρ) (xs ++ [y])))) rest I (k y)) (hΓ : Γ[i]? = some (.own a0 (oLi (tl ρ) xs)) := by rfl) (hN : X.N[i]? = some n := by rfl)
    (hv : Vis X.env.scope n := by first | exact Or.inl rfl | exact Or.inr (Or.inl rfl) | exact Or.inr (Or.inr rfl)) (hd : (n == ("__debug__" : Str)) = false := by decide) (hcd : (n == ("__classdict__" : Str)) = false := by decide)
    (h1 : starEach [e] X.env = (false, eval e X.env) :: starEach [] X.env := by rfl)
    (hpe : ∀ to t, PE X (.Name n p) to → PA X [e] t → PE X (.Call (.Attribute (.Name n p) "append" ap) [e] [] cp) (tBM X.K "list" rAppend to t) := by exact fun _ _ ho ha => pe_bm PySem.F.plainAttrs_list PySem.F.slot_list_append PySem.F.type_list_append mt_append ho ha)
    (hs : swapsWith (.Call (.Attribute (.Name n p) "append" ap) [e] [] cp) none pos.line X.env = pure false := by rfl) :
    SX X U Γ (.Expr (.Call (.Attribute (.Name n p) "append" ap) [e] [] cp) pos :: rest) I (m.bind fun y => (chk (xs.length < sizeLine) ()).bind fun _ => k y) :=
  ⟨fun en F σ H D s h => wSs_of (pss_cons (ps_expr (hpe _ _ (pe_var hN hv hd hcd) (pa_cons wE_pe pa_nil h1)) hs) wSs_pss) (by
    obtain ⟨p, o, g1, g2, g3, ⟨vs, eo, rl⟩, g5, g6⟩ := s.own i _ _ hΓ
    subst eo
    refine ⟨.ref p, g1, .inl ⟨rfl, _, .inl (.inl g3)⟩, ?_⟩
    refine he.out en F σ H _ s (wpR_mono (wpR_bind h) (fun y q u F1 H1 e1 s1 ry => ?_) fun _ z => z)
    obtain ⟨p1, o1, f1, f2, f3, ⟨ws, eo, rl1⟩, f5, f6⟩ := s1.own i _ _ hΓ
    subst eo
    have ep : p1 = p := by
      rw [g1] at f1
      injection f1 with f1
      injection f1 with f1
      injection f1 with f1
      exact f1.symm
    subst ep
    obtain ⟨hl, q⟩ := wpR_chk (wpR_bind q)
    refine ⟨p1, ws, u, rfl, rfl, f3, by rw [← rl1.length]; exact hl, ?_⟩
    exact (hr y).out en F1 σ _ D (s1.mut hΓ f1 ⟨ws ++ [u], rfl, rl1.append (.cons ry .nil)⟩) (wpR_mono q (fun o z => z.up e1) fun _ z => z.up e1))⟩
end
end Py

/-! Own layer, part E: the rules where nothing but slots changes; raise; dicts keyed by tuples. -/
namespace Py
open PySem PySem.Spec PyProof.Rows L2
section
variable {X : Cx} {U : Wi} {Γ : List Sl} {a b c e : Expr} {es : List Expr} {A B sts rest : List Stmt} {pos : Pos} {α β γ τ ω ω' : Type} {ρ : Rp α} {π : Rp β} {I : ω → Kd} {I' : ω' → Kd} {n : Str}

theorem SX.cv {m m' : R ω} (h : SX X U Γ sts I m) (e : m = m') : SX X U Γ sts I m' := by
  rw [← e]
  exact h
theorem FG.cv {P : α → ORp} {m m' : R α} (h : FX X U Γ e P m) (q : m = m') : FX X U Γ e P m' := by
  subst q
  exact h
theorem EG.cv {ρ : Rp α} {m m' : R α} (h : EX X U Γ e ρ m) (q : m = m') : EX X U Γ e ρ m' := by
  rw [← q]
  exact h
/-! ### and, or where the right side can't fail -/
theorem w_and2 {m1 : R Bool} {y : Bool} {r : List Expr} (ha : BX X U Γ a m1) (hb : WG X U Γ (.BoolOp .And (b :: r) pos) (.ok y)) : WG X U Γ (.BoolOp .And (a :: b :: r) pos) (m1.bind fun x => .ok (x && y)) := by
  have h := w_and ha hb
  have e : (fun x : Bool => if x = true then R.ok y else .ok false) = fun x => .ok (x && y) := by
    funext x
    cases x <;> rfl
  rw [e] at h
  exact h
theorem w_or2 {m1 : R Bool} {y : Bool} {r : List Expr} (ha : BX X U Γ a m1) (hb : WG X U Γ (.BoolOp .Or (b :: r) pos) (.ok y)) : WG X U Γ (.BoolOp .Or (a :: b :: r) pos) (m1.bind fun x => .ok (x || y)) := by
  have h := w_or ha hb
  have e : (fun x : Bool => if x = true then R.ok true else .ok y) = fun x => .ok (x || y) := by
    funext x
    cases x <;> rfl
  rw [e] at h
  exact h
theorem x_test {m : R Bool} (h : EX X U Γ e rB m) (he : ∀ whole, isTrue e X.env whole = (do let v ← whole; standAt e.pos; holding [v] (truthy v)) := by intro _; rfl) : BX X U Γ e m := g_test h he
theorem x_tup {t : Tr τ} {m : R τ} {k : Nat} (h : AX X U Γ es t m) (hn : ∀ w F vs, t.rep w F vs → vs.length ≤ sizeLine) : EX X U Γ (.Tuple es k pos) (rTu t) m := g_tup h hn
theorem f_list {t : Tr τ} {m : R τ} (h : AX X U Γ es t m) (hn : ∀ w F vs, t.rep w F vs → vs.length ≤ sizeLine) : FX X U Γ (.List es pos) (fun w => oLi t w) m := f_lst h hn
theorem x_frzE {t : Tr τ} {m : R τ} (h : FX X U Γ e (fun w => oLi t w) m) : EX X U Γ e (rLi t) m := x_frz (val := fun w => w) h
theorem n1 {ρ : Rp α} {w : α} {F : Hp} {vs : List V} (h : (t1 ρ).rep w F vs) : vs.length = 1 := by
  obtain ⟨v, e, _⟩ := h
  rw [e] <;> rfl
theorem nc {ρ : Rp α} {t : Tr τ} {w : α × τ} {F : Hp} {vs : List V} {k : Nat} (hk : ∀ w F vs, t.rep w F vs → vs.length = k) (h : (tc ρ t).rep w F vs) : vs.length = k + 1 := by
  obtain ⟨v, ws, e, _, q⟩ := h
  rw [e, List.length_cons, hk _ _ _ q]
theorem sz {k m : Nat} (h : k = m) (hm : m ≤ 1000) : k ≤ sizeLine := by
  subst h
  exact Nat.le_of_lt (small1000 hm)

/-! ### statements -/
theorem p_set {p' : Pos} {m : R α} {k : α → R ω} (i : Nat) (hN : X.N.Nodup) (he : EX X U Γ e ρ m) (hr : ∀ w, SX X U (Γ.set i (im ρ w)) rest I (k w)) (hn : X.N[i]? = some n := by rfl)
    (hx : Loc X.env.scope n := by first | exact Or.inl rfl | exact Or.inr rfl) (hs : swapsWith e (some (.Name n p')) pos.line X.env = pure false := by rfl) (hf : X.fn n = true ∨ X.env.scope.names.lookup n = some .local := by first | exact .inl rfl | exact .inr rfl) :
    SX X U Γ (.Assign [.Name n p'] e pos :: rest) I (m.bind k) := s_set i hN he hr hn hx hs hf
theorem p_own {P : ω' → ORp} {p' : Pos} {m : R ω'} {k : ω' → R ω} (i : Nat) (hN : X.N.Nodup) (he : FX X U Γ e P m) (hr : ∀ w, SX X U (Γ.set i (.own none (P w))) rest I (k w)) (hn : X.N[i]? = some n := by rfl)
    (hx : Loc X.env.scope n := by first | exact Or.inl rfl | exact Or.inr rfl) (hs : swapsWith e (some (.Name n p')) pos.line X.env = pure false := by rfl) (hf : X.fn n = true ∨ X.env.scope.names.lookup n = some .local := by first | exact .inl rfl | exact .inr rfl) :
    SX X U Γ (.Assign [.Name n p'] e pos :: rest) I (m.bind k) := s_own i hN he hr hn hx hs hf
theorem p_asg {tg : Expr} {vs : List Nat} {g : α → List Sl → List Sl} {m : R α} {k : α → R ω} (hg : GT X tg ρ vs g) (he : EX X U Γ e ρ m) (hr : ∀ w, SX X U (g w Γ) rest I (k w))
    (hs : swapsWithSole [tg] e pos.line X.env = pure false := by rfl) (hw : swappedStores [tg] e X.env = pure none := by rfl) (h1 : (assignEach [tg] X.env).map (·.2) = [assign tg X.env] := by rfl) :
    SX X U Γ (.Assign [tg] e pos :: rest) I (m.bind k) := s_asg hg he hr hs hw h1
theorem p_ret {m : R α} (mk : α → ω) (Γr : List Sl) (e1 : ∀ w, (I (mk w)).cut = .rt ⟨fun H v => ρ.rep w H v, fun e h => ρ.mono e h⟩ Γr) (l : Le Γr Γ) (he : EX X U Γ e ρ m) : SX X U Γ (.Return (some e) pos :: rest) I (m.bind fun w => .ok (mk w)) :=
  s_last (g_ret mk (fun _ => Γr) e1 (fun _ => l) he)
theorem p_retf {I : α → Kd} {m : R α} (Γr : List Sl) (e1 : ∀ w, (I w).cut = .rt ⟨fun H v => ρ.rep w H v, fun e h => ρ.mono e h⟩ Γr) (l : Le Γr Γ) (he : EX X U Γ e ρ m) : SX X U Γ (.Return (some e) pos :: rest) I m := by
  have h := p_ret (rest := rest) (pos := pos) (fun w => w) Γr e1 l he
  rw [R.bind_pure] at h
  exact h
theorem p_ifT {mc : R Bool} {mA mR : R ω} (hc : BX X U Γ c mc) (hA : SX X U Γ A (fun o => (I o).cut) mA) (hR : SX X U Γ rest I mR) : SX X U Γ (.If c A [] pos :: rest) I (mc.bind fun t => if t = true then mA else mR) :=
  s_ifT hc (fun _ => hA) fun _ => hR
theorem p_if2 {mc : R Bool} {mA mB : R ω} (hc : BX X U Γ c mc) (hA : SX X U Γ A I mA) (hB : SX X U Γ B I mB) : SX X U Γ [.If c A B pos] I (mc.bind fun t => if t = true then mA else mB) :=
  s_one (g_if hc (fun _ => hA) fun _ => hB)
/-- if c: A else: B, then the rest: s is what both leave -/
theorem p_ifJ {mc : R Bool} {mA mB : R τ} {k : τ → R ω} (Γs : τ → List Sl) (hc : BX X U Γ c mc) (hA : SX X U Γ A (fun s => .nx (Γs s)) mA) (hB : SX X U Γ B (fun s => .nx (Γs s)) mB) (hr : ∀ s, SX X U (Γs s) rest I (k s)) :
    SX X U Γ (.If c A B pos :: rest) I (mc.bind fun t => (if t = true then mA else mB).bind k) := by
  have h := s_cons (g_if (pos := pos) (I := fun s : τ => Kd.nx (Γs s)) hc (fun _ => hA) fun _ => hB) (fun s => Cont.nx (hr s))
  exact h.cv (by cases mc <;> rfl)
theorem p_for {tg iter : Expr} {body : List Stmt} {m : R (List α)} {vs : List Nat} {g : α → List Sl → List Sl} {k : τ → R ω} (Γs : τ → List Sl) (f : τ → α → R τ) (s0 : τ) (hp : PassesOwn (model X.prog X.w) X.A X.env X.xe) (hi : IX X U Γ tg iter ρ m) (hg : GT X tg ρ vs g)
    (hb : ∀ s x, SX X U (g x (Γs s)) body (fun s' => .go (Γs s')) (f s x)) (h0 : Le (Γs s0) Γ) (hr : ∀ s, SX X U (Γs s) rest I (k s)) (hc : X.calm = true := by rfl) (hs : ∀ x, foldedSetIterable iter X.env x = pure x := by intro _; rfl) :
    SX X U Γ (.For tg iter body [] pos :: rest) I (m.bind fun xs => (forR f xs s0).bind k) := by
  have h := s_cons (g_forR (pos := pos) Γs (fun _ => f) (fun _ => s0) hi hg (fun _ => hb) (fun _ => h0) hp hc hs) (fun s => Cont.nx (hr s))
  exact h.cv (by cases m <;> rfl)
theorem p_forO {tg iter : Expr} {body : List Stmt} {m : R (List α)} {vs : List Nat} {g : α → List Sl → List Sl} {k : τ → R ω} (Γs : τ → List Sl) (P : γ → PRp × List Sl) (mk : γ → ω) (f : τ → α → R (Stp τ γ)) (s0 : τ) (hp : PassesOwn (model X.prog X.w) X.A X.env X.xe) (hi : IX X U Γ tg iter ρ m) (hg : GT X tg ρ vs g)
    (hb : ∀ s x, SX X U (g x (Γs s)) body (Stp.kd Γs P) (f s x)) (h0 : Le (Γs s0) Γ) (hk : ∀ a, Cont X U rest I (.rt (P a).1 (P a).2) (.ok (mk a))) (hr : ∀ s, SX X U (Γs s) rest I (k s)) (hc : X.calm = true := by rfl) (hs : ∀ x, foldedSetIterable iter X.env x = pure x := by intro _; rfl) :
    SX X U Γ (.For tg iter body [] pos :: rest) I (m.bind fun xs => (forS f xs s0).bind (outK k mk)) := by
  have h := s_cons (rest := rest) (I := I) (k := outK k mk) (g_forS (pos := pos) Γs P (fun _ => f) (fun _ => s0) hi hg (fun _ => hb) (fun _ => h0) hp hc hs) (fun o => by
    cases o with
    | nx s => exact Cont.nx (hr s)
    | rt a => exact hk a)
  exact h.cv (by cases m <;> rfl)
/-- raise C('..') -/
theorem p_raise {C : Addr} {cls : Str} {x : Expr} (tk : Takes X U.W) (hk : PMk X x (fun _ H Q => Q (.ref C) none H)) (hm : X.mg cls = some (.ref C)) (l : Le U.Γ Γ) (hc : X.calm = true := by rfl) : SX X U Γ (.Raise (some x) none pos :: rest) I (.er ⟨cls, none⟩) :=
  ⟨fun en F σ H D s h => wSs_of (pss_cons (ps_raise hc tk hk) wSs_pss) (h (.ref C) none F σ H (Same.refl F) (s.le l) ⟨C, hm, rfl, rfl⟩)⟩

end
end Py

/-! Own layer, part F: what the printed proofs name besides: constants, displays, dicts keyed by tuples, own lists read, mixed ifs. -/
namespace Py
open PySem PySem.Spec PyProof.Rows L2

theorem u1 {k : Nat} {A : Around} (hr : Room k A) : A.units + 1 < cLine := hu_of hr
theorem u64 {k : Nat} {A : Around} (hr : Room k A) : A.units + 64 < cLine := hr.units
abbrev rtP {γ : Type} (ρ : Rp γ) : γ → PRp × List Sl := fun z => (⟨fun H v => ρ.rep z H v, fun e h => ρ.mono e h⟩, [])
/-- so many of one type -/
def tn {α : Type} (ρ : Rp α) (k : Nat) : Tr (List α) := ⟨fun a H vs => RepL ρ H a vs ∧ vs.length = k, fun e h => ⟨h.1.mono e, h.2⟩⟩

/-! ### dicts keyed by tuples -/
structure Ky {κ : Type} (ρ : Rp κ) where
  enc : κ → List Key
  inj : ∀ a b, enc a = enc b → a = b
  rep : ∀ a H v, ρ.rep a H v → ∃ p, v = .ref p ∧ H p = some (.tup ((enc a).map kV))
def kyC : Ky rC where
  enc := fun a => [.inl a.1, .inl a.2]
  inj := fun a b h => by
    injection h with h1 h2
    injection h2 with h2 _
    injection h1 with h1
    injection h2 with h2
    exact Prod.ext h1 h2
  rep := fun a H v ⟨p, vs, e, h, v1, ws, e1, r1, v2, e2, r2⟩ => ⟨p, e, by
    rw [h, e1, e2, show v1 = V.int a.1 from r1, show v2 = V.int a.2 from r2]
    rfl⟩
section
variable {κ ν : Type} [DecidableEq κ]
def dGet (xs : List (κ × ν)) (k : κ) : Option ν := (xs.find? fun q => decide (q.1 = k)).map (·.2)
def dPut (xs : List (κ × ν)) (k : κ) (v : ν) : List (κ × ν) :=
  if (xs.any fun q => decide (q.1 = k)) = true then xs.map (fun q => if q.1 = k then (q.1, v) else q) else xs ++ [(k, v)]
end
inductive RepD {κ ν : Type} {ρ : Rp κ} (ky : Ky ρ) (π : Rp ν) (H : Hp) : List (κ × ν) → List (List Key × V) → Prop
  | nil : RepD ky π H [] []
  | cons {k : κ} {x : ν} {xs : List (κ × ν)} {v : V} {kvs : List (List Key × V)} : π.rep x H v → RepD ky π H xs kvs → RepD ky π H ((k, x) :: xs) ((ky.enc k, v) :: kvs)
section
variable {κ ν : Type} {ρ : Rp κ} {ky : Ky ρ} {π : Rp ν} {H H' : Hp}
theorem RepD.mono (e : Same H H') : ∀ {xs : List (κ × ν)} {kvs : List (List Key × V)}, RepD ky π H xs kvs → RepD ky π H' xs kvs
  | _, _, .nil => .nil
  | _, _, .cons r t => .cons (π.mono e r) (RepD.mono e t)
theorem RepD.length : ∀ {xs : List (κ × ν)} {kvs : List (List Key × V)}, RepD ky π H xs kvs → xs.length = kvs.length
  | _, _, .nil => rfl
  | _, _, .cons r t => congrArg (· + 1) (RepD.length t)
variable [DecidableEq κ]
theorem Ky.dec (ky : Ky ρ) (a b : κ) : decide (ky.enc a = ky.enc b) = decide (a = b) := by
  by_cases h : a = b
  · subst h
    simp
  · have h' : ¬ ky.enc a = ky.enc b := fun z => h (ky.inj a b z)
    simp [h, h']
theorem RepD.get : ∀ {xs : List (κ × ν)} {kvs : List (List Key × V)} (k : κ), RepD ky π H xs kvs → match dGet xs k with | none => valV kvs (ky.enc k) = none | some x => ∃ v, valV kvs (ky.enc k) = some v ∧ π.rep x H v
  | _, _, k, .nil => rfl
  | _, _, k, .cons (k := k') (x := x) (v := v) r t => by
    by_cases h : k' = k
    · subst h
      have e : ∀ ys : List (κ × ν), dGet ((k', x) :: ys) k' = some x := fun ys => by simp [dGet]
      rw [e]
      exact ⟨v, valV_pos rfl, r⟩
    · have h' : ¬ ky.enc k' = ky.enc k := fun z => h (ky.inj _ _ z)
      have ih := RepD.get k t
      have e : ∀ ys : List (κ × ν), dGet ((k', x) :: ys) k = dGet ys k := fun ys => by simp [dGet, h]
      rw [e, valV_neg (p := (ky.enc k', v)) h']
      exact ih
theorem RepD.any : ∀ {xs : List (κ × ν)} {kvs : List (List Key × V)} (k : κ), RepD ky π H xs kvs → (kvs.any fun q => decide (q.1 = ky.enc k)) = xs.any fun q => decide (q.1 = k)
  | _, _, k, .nil => rfl
  | _, _, k, .cons (k := k') r t => by
    rw [List.any_cons, List.any_cons, RepD.any k t]
    show (decide (ky.enc k' = ky.enc k) || _) = _
    rw [ky.dec]
theorem RepD.map {x : ν} {v : V} (r : π.rep x H v) : ∀ {xs : List (κ × ν)} {kvs : List (List Key × V)} (k : κ), RepD ky π H xs kvs →
    RepD ky π H (xs.map fun q => if q.1 = k then (q.1, x) else q) (kvs.map fun q => if q.1 = ky.enc k then (q.1, v) else q)
  | _, _, k, .nil => .nil
  | _, _, k, .cons (k := k') (x := x') (v := v') r' t => by
    rw [List.map_cons, List.map_cons]
    by_cases h : k' = k
    · subst h
      simp only [if_pos]
      exact .cons r (RepD.map r k' t)
    · have h' : ¬ ky.enc k' = ky.enc k := fun z => h (ky.inj _ _ z)
      simp only [if_neg h, if_neg h']
      exact .cons r' (RepD.map r k t)
theorem RepD.snoc {k : κ} {x : ν} {v : V} (r : π.rep x H v) : ∀ {xs : List (κ × ν)} {kvs : List (List Key × V)}, RepD ky π H xs kvs → RepD ky π H (xs ++ [(k, x)]) (kvs ++ [(ky.enc k, v)])
  | _, _, .nil => .cons r .nil
  | _, _, .cons r' t => .cons r' (RepD.snoc r t)
theorem RepD.put {xs : List (κ × ν)} {kvs : List (List Key × V)} {k : κ} {x : ν} {v : V} (h : RepD ky π H xs kvs) (r : π.rep x H v) : RepD ky π H (dPut xs k x) (putK kvs (ky.enc k) v) := by
  unfold dPut putK
  rw [h.any k]
  by_cases z : (xs.any fun q => decide (q.1 = k)) = true
  · rw [if_pos z, if_pos z]
    exact h.map r k
  · rw [if_neg z, if_neg z]
    exact h.snoc r
end
abbrev oD {κ ν : Type} {ρ : Rp κ} (ky : Ky ρ) (π : Rp ν) (xs : List (κ × ν)) : ORp := ⟨fun F o => ∃ kvs, o = .dT kvs ∧ RepD ky π F xs kvs, fun e ⟨kvs, h, r⟩ => ⟨kvs, h, RepD.mono e r⟩, fun ⟨vs, h, _⟩ ws z => by rw [h] at z; cases z⟩
/-- a dict that is known: it is locked -/
def rD {κ ν : Type} {ρ : Rp κ} (ky : Ky ρ) (π : Rp ν) : Rp (List (κ × ν)) := ⟨fun xs F v => ∃ p kvs, v = .ref p ∧ (∃ od, F p = some (.frz od (.dT kvs))) ∧ RepD ky π F xs kvs, fun e ⟨p, kvs, h, ⟨od, q⟩, r⟩ => ⟨p, kvs, h, ⟨od, e p _ q⟩, RepD.mono e r⟩⟩

section
variable {X : Cx} {U : Wi} {Γ : List Sl} {a b c e : Expr} {es : List Expr} {A B sts rest : List Stmt} {pos : Pos} {α β γ κ ν τ ω ω' : Type} {ρ : Rp α} {π : Rp β} {I : ω → Kd} {I' : ω' → Kd} {n : Str}

theorem Cont.cut {o : ω} : ∀ {k : Kd}, (I o).cut = k → Cont X U rest I k (.ok o) := by
  intro k h
  cases hI : I o with
  | nx Γ =>
    rw [hI] at h
    subst h
    exact .no fun _ _ z => z
  | go Γ =>
    rw [hI] at h
    subst h
    exact .go hI Le.refl
  | bk Γ =>
    rw [hI] at h
    subst h
    exact .bk hI Le.refl
  | ct Γ =>
    rw [hI] at h
    subst h
    exact .ct hI Le.refl
  | rt p Γ =>
    rw [hI] at h
    subst h
    exact .rt hI
  | fn p Γ =>
    rw [hI] at h
    subst h
    exact .rtf hI
  | rf P Γ =>
    rw [hI] at h
    subst h
    exact .rf hI
/-! ### constants, displays -/
theorem x_globI {i : Int} (h : ∃ t, X.mg n = some (.int i t)) (hg : Gl X n := by rfl) (hd : (n == ("__debug__" : Str)) = false := by decide) : EX X U Γ (.Name n pos) rI (.ok i) := by
  obtain ⟨t, h⟩ := h
  exact x_glob (v := .int i) h ⟨t, rfl⟩ (fun _ => rfl) hg hd
theorem ln_nil : AX X U Γ [] (tn ρ 0) (.ok []) := a_nil fun _ => ⟨.nil, rfl⟩
theorem ln_cons {k : Nat} {m1 : R α} {m2 : R (List α)} (ha : EX X U Γ a ρ m1) (hb : AX X U Γ es (tn ρ k) m2) (hs : starEach (a :: es) X.env = (false, eval a X.env) :: starEach es X.env := by rfl) : AX X U Γ (a :: es) (tn ρ (k + 1)) (m1.bind fun x => m2.bind fun y => .ok (x :: y)) :=
  g_acons (t' := tn ρ (k + 1)) (val := fun z => z) (fun x y => x :: y) (fun x y F v vs (r : ρ.rep x F v) (q : (tn ρ k).rep y F vs) => ⟨.cons r q.1, congrArg (· + 1) q.2⟩) (fun _ _ => rfl) ha (fun _ => hb) hs
theorem f_listN {k : Nat} {m : R (List α)} (h : AX X U Γ es (tn ρ k) m) (hk : k ≤ 1000 := by decide) : FX X U Γ (.List es pos) (fun w => oLi (tl ρ) w) m :=
  ⟨fun en F σ H Q s q => (f_list (t := tn ρ k) h (fun w F vs r => sz r.2 hk)).out en F σ H Q s (wpR_mono q (fun w kk p o F' H' e1 s1 fr ⟨vs, e, r⟩ => kk p o F' H' e1 s1 fr ⟨vs, e, r.1⟩) fun _ z => z)⟩
theorem x_tupN {j k : Nat} {m : R (List α)} (h : AX X U Γ es (tn ρ k) m) (hk : k ≤ 1000 := by decide) : EX X U Γ (.Tuple es j pos) (rT ρ) m :=
  ⟨fun en F σ H Q s q => (x_tup (t := tn ρ k) h (fun w F vs r => sz r.2 hk)).out en F σ H Q s (wpR_mono q (fun w kk v F' H' e1 s1 ⟨p, vs, ev, hp, r⟩ => kk v F' H' e1 s1 ⟨p, vs, ev, hp, r.1⟩) fun _ z => z)⟩
theorem f_nil {ρ : Rp α} : FX X U Γ (.List [] pos) (fun w => oLi (tl ρ) w) (.ok []) := f_listN ln_nil
theorem x_tup0 {j : Nat} {ρ : Rp α} : EX X U Γ (.Tuple [] j pos) (rT ρ) (.ok []) := x_tupN ln_nil
/-- a comprehension without a test -/
theorem f_lcM {tg iter elt : Expr} {scope : Scope} {own : List (Str × Nat)} {m : R (List α)} {g : α → List Sl → List Sl} {f : α → R β} (hN : X.N.Nodup) (hi : IX X U Γ tg iter ρ m) (ok : BlkOk X.N X.env.scope scope own)
    (hg : ∀ (s : Shared) (H : Hp) (C : Addr) (cl : List (Str × Addr)) (fp : List Addr), GT (X.blk s H scope (compEnvC scope cl C X.env) fp) tg ρ (own.map (·.2)) g)
    (he : ∀ (s : Shared) (H : Hp) (C : Addr) (cl : List (Str × Addr)) (fp : List Addr) (x : α), EX (X.blk s H scope (compEnvC scope cl C X.env) fp) U0 (g x (wipeΓ Γ (own.map (·.2)))) elt π (f x))
    (hno : noOwn Γ (own.map (·.2)) = true := by rfl) (hc : X.calm = true := by rfl) (hs : ∀ x, foldedSetIterable iter X.env x = pure x := by intro _; rfl) :
    FX X U Γ (.ListComp elt [⟨tg, iter, [], 0⟩] scope pos) (fun ys => oLi (tl π) ys) (m.bind fun xs => (mapR f xs).bind fun ys => chk (ys.length ≤ sizeLine) ys) := by
  have h := f_lcF (pos := pos) (c := fun _ => .ok true) hN hi ok hg (fun _ _ _ _ _ _ => ts_nil) he hno hc hs
  simp only [fm_map] at h
  exact h
/-! ### calls with defaults -/
/-! ### own lists read -/
theorem x_ixO {a0 : Option Addr} {xs : List α} {m : R Int} {p2 : Pos} (i : Nat) (hΓ : Γ[i]? = some (.own a0 (oLi (tl ρ) xs))) (hb : EX X U Γ b rI m) (hN : X.N[i]? = some n := by rfl) (hv : Vis X.env.scope n := by first | exact Or.inl rfl | exact Or.inr (Or.inl rfl) | exact Or.inr (Or.inr rfl))
    (hd : (n == ("__debug__" : Str)) = false := by decide) (hcd : (n == ("__classdict__" : Str)) = false := by decide) (hs : PlainIx b := by exact fun _ _ => rfl) : EX X U Γ (.Subscript (.Name n p2) b pos) ρ (m.bind fun y => ofOpt (atI xs y)) :=
  ⟨fun en F σ H Q s h => wE_of (pe_ix ix_list (pe_var hN hv hd hcd) wE_pe hs) (by
    obtain ⟨p, o, g1, g2, g3, ⟨vs, eo, rl⟩, g5, g6⟩ := s.own i _ _ hΓ
    refine ⟨.ref p, g1, hb.out en F σ H _ s (wpR_mono (wpR_bind h) (fun y q u F1 H1 e1 s1 ry => ?_) fun _ z => z)⟩
    obtain ⟨p1, o1, f1, f2, f3, ⟨ws, eo1, rl1⟩, f5, f6⟩ := s1.own i _ _ hΓ
    subst eo1
    rw [g1] at f1
    injection f1 with f1
    injection f1 with f1
    injection f1 with f1
    subst f1
    obtain ⟨x, hx, q⟩ := wpR_opt q
    obtain ⟨v, hv1, rv⟩ := atI_rep rl1 hx
    exact ⟨p, ws, y, v, rfl, ry, .inl (.inl f3), hv1, q v F1 H1 e1 s1 rv⟩)⟩
/-- xs.extend(ys), xs in slot i -/
theorem s_extend {a0 : Option Addr} {p ap cp : Pos} {xs : List α} {m : R (List α)} {k : List α → R ω} (i : Nat) (he : EX X U Γ e (rL ρ) m) (hr : ∀ ys, SX X U (Γ.set i (.own a0 (oLi (tl ρ) (xs ++ ys)))) rest I (k ys)) (hΓ : Γ[i]? = some (.own a0 (oLi (tl ρ) xs)) := by rfl) (hN : X.N[i]? = some n := by rfl)
    (hv : Vis X.env.scope n := by first | exact Or.inl rfl | exact Or.inr (Or.inl rfl) | exact Or.inr (Or.inr rfl)) (hd : (n == ("__debug__" : Str)) = false := by decide) (hcd : (n == ("__classdict__" : Str)) = false := by decide)
    (h1 : starEach [e] X.env = (false, eval e X.env) :: starEach [] X.env := by rfl)
    (hpe : ∀ to t, PE X (.Name n p) to → PA X [e] t → PE X (.Call (.Attribute (.Name n p) "extend" ap) [e] [] cp) (tBM X.K "list" rExtend to t) := by exact fun _ _ ho ha => pe_bm PySem.F.plainAttrs_list PySem.F.slot_list_extend PySem.F.type_list_extend mt_extend ho ha)
    (hs : swapsWith (.Call (.Attribute (.Name n p) "extend" ap) [e] [] cp) none pos.line X.env = pure false := by rfl) :
    SX X U Γ (.Expr (.Call (.Attribute (.Name n p) "extend" ap) [e] [] cp) pos :: rest) I (m.bind fun ys => (chk (xs.length + ys.length ≤ sizeLine) ()).bind fun _ => k ys) :=
  ⟨fun en F σ H D s h => wSs_of (pss_cons (ps_expr (hpe _ _ (pe_var hN hv hd hcd) (pa_cons wE_pe pa_nil h1)) hs) wSs_pss) (by
    obtain ⟨p, o, g1, g2, g3, ⟨vs, eo, rl⟩, g5, g6⟩ := s.own i _ _ hΓ
    subst eo
    refine ⟨.ref p, g1, .inl ⟨rfl, _, .inl (.inl g3)⟩, ?_⟩
    refine he.out en F σ H _ s (wpR_mono (wpR_bind h) (fun ys q u F1 H1 e1 s1 ry => ?_) fun _ z => z)
    obtain ⟨p1, o1, f1, f2, f3, ⟨ws, eo, rl1⟩, f5, f6⟩ := s1.own i _ _ hΓ
    subst eo
    have ep : p1 = p := by
      rw [g1] at f1
      injection f1 with f1
      injection f1 with f1
      injection f1 with f1
      exact f1.symm
    subst ep
    obtain ⟨q0, us, eu, hq0, ru⟩ := ry
    subst eu
    obtain ⟨hl, q⟩ := wpR_chk (wpR_bind q)
    refine ⟨p1, q0, ws, us, rfl, rfl, f3, s1.sub q0 _ hq0, by rw [← rl1.length, ← ru.length]; exact hl, ?_⟩
    exact (hr ys).out en F1 σ _ D (s1.mut hΓ f1 ⟨ws ++ us, rfl, rl1.append ru⟩) (wpR_mono q (fun o z => z.up e1) fun _ z => z.up e1))⟩
/-- .. gives up a dict -/
theorem s_giveD {ρ : Rp κ} {ky : Ky ρ} {π : Rp ν} {x : List (κ × ν)} {m : R ω} {a0 : Option Addr} (i : Nat) (hΓ : Γ[i]? = some (.own a0 (oD ky π x))) (hr : SX X U (Γ.set i (im (rD ky π) x)) sts I m) : SX X U Γ sts I m :=
  ⟨fun en F σ H D s h => by
    obtain ⟨p, o, h1, h2, h3, h4, h5, h6⟩ := s.own i _ _ hΓ
    obtain ⟨vs, e, r⟩ := h4
    subst e
    refine wSs_lock h3 trivial fun od => ?_
    have hi : i < Γ.length := (List.getElem?_eq_some_iff.mp hΓ).1
    have s1 := s.mut (o' := .frz od (.dT vs)) (P' := ⟨fun _ o => o = .frz od (.dT vs), fun _ h => h, fun h ws z => by rw [h] at z; cases z⟩) hΓ h1 rfl
    have g := s1.give (List.getElem?_set_self hi) h1 upd_same
    rw [List.set_set] at g
    have sf : Same F (upd F p (.frz od (.dT vs))) := Same.upd h2
    have hl : i < σ.length := by
      by_cases z : i < σ.length
      · exact z
      · rw [List.getElem?_eq_none (by omega)] at h1
        cases h1
    have rr : (rD ky π).rep x (upd F p (.frz od (.dT vs))) (.ref p) := ⟨p, vs, rfl, ⟨od, upd_same⟩, RepD.mono sf r⟩
    have g2 := SA.put (i := i) (P := ⟨fun H v => (rD ky π).rep x H v, fun e h => (rD ky π).mono e h⟩) (v := .ref p) g rr
    rw [List.set_set] at g2
    have e2 : σ.set i (some (.ref p)) = σ := by
      apply List.ext_getElem?
      intro j
      by_cases ej : i = j
      · subst ej
        rw [List.getElem?_set_self hl, h1]
      · rw [List.getElem?_set_ne ej]
    rw [e2] at g2
    exact hr.out en _ σ _ D g2 (wpR_mono h (fun o z => z.up sf) fun _ z => z.up sf)⟩

/-! ### dicts -/
theorem f_dict {ρ : Rp κ} {ky : Ky ρ} {π : Rp ν} : FX X U Γ (.Dict [] [] pos) (fun _ : Unit => oD ky π []) (.ok ()) :=
  ⟨fun en F σ H Q s h => wE_of pe_dnewT fun p hp => h p (.dT []) F _ (Same.refl F) (s.lay hp).1 (s.lay hp).2 ⟨[], rfl, .nil⟩⟩
/-- where a dict is read: in a slot of one's own, or known -/
structure DG (X : Cx) (U : Wi) (Γ : List Sl) (e : Expr) {κ ν : Type} {ρ : Rp κ} (ky : Ky ρ) (π : Rp ν) (m : R (List (κ × ν))) : Prop where
  out : ∀ en F σ H Q, SA en Γ F σ H → wpR m (fun w => ∀ p kvs F' H', Same F F' → SA en Γ F' σ H' → Rd H' p (.dT kvs) → RepD ky π F' w kvs → (∀ F2 H2, Same F' F2 → SA en Γ F2 σ H2 → ∃ kvs, Rd H2 p (.dT kvs) ∧ RepD ky π F2 w kvs) → Q (.ref p) H') (U.ok X.mg en F) → wE X e σ H Q
theorem d_imm {ρ : Rp κ} {ky : Ky ρ} {π : Rp ν} {m : R (List (κ × ν))} (h : EX X U Γ e (rD ky π) m) : DG X U Γ e ky π m :=
  ⟨fun en F σ H Q s q => h.out en F σ H Q s (wpR_mono q (fun w k v F' H' e1 s1 ⟨p, kvs, ev, ⟨od, hp⟩, r⟩ => by
    subst ev
    exact k p kvs F' H' e1 s1 (.inr ⟨od, s1.sub p _ hp⟩) r fun F2 H2 e2 s2 => ⟨kvs, .inr ⟨od, s2.sub p _ (e2 p _ hp)⟩, RepD.mono e2 r⟩) fun _ z => z)⟩
/-- a comparison by a rule of its own -/
structure CG (X : Cx) (U : Wi) (Γ : List Sl) (op : CmpOp) (a b : Expr) (m : R Bool) : Prop where
  out : ∃ t, PC X op a b t ∧ ∀ en F σ H Q, SA en Γ F σ H → wpR m (fun w => ∀ F' H', Same F F' → SA en Γ F' σ H' → Q (.bl w) H') (U.ok X.mg en F) → t σ H Q
theorem c_val {op : CmpOp} {m : R Bool} (h : CG X U Γ op a b m) (hm : behindInMarks op b = false := by first | exact nomark _ | rfl) : EX X U Γ (.Compare a [op] [b] pos) rB m := by
  obtain ⟨t, h1, h2⟩ := h.out
  exact ⟨fun en F σ H Q s q => wE_of (pe_cmp h1 hm) (h2 en F σ H Q s (wpR_mono q (fun w k F' H' e1 s1 => k _ F' H' e1 s1 rfl) fun _ z => z))⟩
theorem c_tst {op : CmpOp} {m : R Bool} (h : CG X U Γ op a b m) (hm : behindInMarks op b = false := by first | exact nomark _ | rfl) : BX X U Γ (.Compare a [op] [b] pos) m := by
  obtain ⟨t, h1, h2⟩ := h.out
  exact ⟨fun en F σ H Q s q => wT_of (pt_cmp h1 hm) (h2 en F σ H _ s (wpR_mono q (fun w k F' H' e1 s1 => ⟨w, rfl, k F' H' e1 s1⟩) fun _ z => z))⟩
theorem c_isN {α : Type} {ρ : Rp α} {m : R (Option α)} {j} {pos' : Pos} (hr : ∀ x F, ¬ ρ.rep x F .non) (ha : EX X U Γ a (rO ρ) m) : CG X U Γ .Is a (.Constant .none j pos') (m.bind fun x => .ok x.isNone) :=
  ⟨_, pc_isN wE_pe, fun en F σ H Q s h => ha.out en F σ H _ s (wpR_mono (wpR_bind h) (fun x k v F1 H1 e1 s1 r1 => by
    have k' := k F1 H1 e1 s1
    cases x with
    | none =>
      rw [show v = .non from r1]
      exact k'
    | some x =>
      have : v ≠ .non := fun z => hr x F1 (by rw [← z]; exact r1)
      show Q (V.bl (decide (v = .non))) H1
      rw [decide_eq_false this]
      exact k') fun _ z => z)⟩
theorem dget_ok [DecidableEq κ] {ρ : Rp κ} {ky : Ky ρ} {π : Rp ν} {x : List (κ × ν)} {kvs : List (List Key × V)} {k : κ} {v : V} {p : Addr} {F H : Hp} (hp : Rd H p (.dT kvs)) (r : RepD ky π F x kvs) (rk : ρ.rep k H v) :
    ∃ o, DGet H p v o ∧ o.isSome = (dGet x k).isSome ∧ ∀ y, dGet x k = some y → ∃ w, o = some w ∧ π.rep y F w := by
  obtain ⟨b, ev, hb⟩ := ky.rep k H v rk
  subst ev
  refine ⟨_, .inr ⟨kvs, _, b, hp, rfl, hb, rfl⟩, ?_, ?_⟩
  · have g := r.get k
    cases h : dGet x k with
    | none =>
      rw [h] at g
      rw [g] <;> rfl
    | some y =>
      rw [h] at g
      obtain ⟨w, hw, _⟩ := g
      rw [hw] <;> rfl
  · intro y h
    have g := r.get k
    rw [h] at g
    exact g
theorem c_in [DecidableEq κ] {ρ : Rp κ} {ky : Ky ρ} {π : Rp ν} {mk : R κ} {md : R (List (κ × ν))} (hu : X.A.units + 1 < cLine) (ha : EX X U Γ a ρ mk) (hd : DG X U Γ b ky π md) : CG X U Γ .In a b (mk.bind fun k => md.bind fun d => .ok (dGet d k).isSome) :=
  ⟨_, pc_din hu wE_pe wE_pe, fun en F σ H Q s h => ha.out en F σ H _ s (wpR_mono (wpR_bind h) (fun k q v F1 H1 e1 s1 r1 => hd.out en F1 σ H1 _ s1 (wpR_mono (wpR_bind q) (fun d q p kvs F2 H2 e2 s2 hp r2 _ => by
    obtain ⟨o, g1, g2, _⟩ := dget_ok hp r2 (ρ.mono (e2.trans s2.sub) r1)
    exact ⟨p, o, rfl, g1, by rw [g2]; exact q F2 H2 (e1.trans e2) s2⟩) fun _ z => z.up e1)) fun _ z => z)⟩
theorem c_nin [DecidableEq κ] {ρ : Rp κ} {ky : Ky ρ} {π : Rp ν} {mk : R κ} {md : R (List (κ × ν))} (hu : X.A.units + 1 < cLine) (ha : EX X U Γ a ρ mk) (hd : DG X U Γ b ky π md) : CG X U Γ .NotIn a b (mk.bind fun k => md.bind fun d => .ok !(dGet d k).isSome) :=
  ⟨_, pc_dnotin hu wE_pe wE_pe, fun en F σ H Q s h => ha.out en F σ H _ s (wpR_mono (wpR_bind h) (fun k q v F1 H1 e1 s1 r1 => hd.out en F1 σ H1 _ s1 (wpR_mono (wpR_bind q) (fun d q p kvs F2 H2 e2 s2 hp r2 _ => by
    obtain ⟨o, g1, g2, _⟩ := dget_ok hp r2 (ρ.mono (e2.trans s2.sub) r1)
    exact ⟨p, o, rfl, g1, by rw [g2]; exact q F2 H2 (e1.trans e2) s2⟩) fun _ z => z.up e1)) fun _ z => z)⟩
/-- d[k] = v, d in slot i -/
theorem s_dput [DecidableEq κ] {ρ : Rp κ} {ky : Ky ρ} {π : Rp ν} {x : List (κ × ν)} {mk : R κ} {mv : R ν} {k : ν → κ → R ω} {p p' : Pos} (i : Nat) (hu : X.A.units + 1 < cLine) (hv : EX X U Γ e π mv) (hk : EX X U Γ a ρ mk)
    (hr : ∀ v y, SX X U (Γ.set i (.own a0 (oD ky π (dPut x y v)))) rest I (k v y)) (hΓ : Γ[i]? = some (.own a0 (oD ky π x)) := by rfl) (hN : X.N[i]? = some n := by rfl) (hvi : Vis X.env.scope n := by first | exact Or.inl rfl | exact Or.inr (Or.inl rfl) | exact Or.inr (Or.inr rfl))
    (hd : (n == ("__debug__" : Str)) = false := by decide) (hcd : (n == ("__classdict__" : Str)) = false := by decide) (hs : swapsWith e (some (.Subscript (.Name n p) a p')) pos.line X.env = pure false := by rfl) :
    SX X U Γ (.Assign [.Subscript (.Name n p) a p'] e pos :: rest) I (mv.bind fun v => mk.bind fun y => (chk (x.length < sizeLine) ()).bind fun _ => k v y) :=
  ⟨fun en F σ H D s h => wSs_of (pss_cons (ps_dput hu (pe_var hN hvi hd hcd) wE_pe wE_pe hs) wSs_pss) (hv.out en F σ H _ s (wpR_mono (wpR_bind h) (fun v q w F1 H1 e1 s1 r1 => by
    obtain ⟨p, o, g1, g2, g3, ⟨kvs, eo, r⟩, g5, g6⟩ := s1.own i _ _ hΓ
    refine ⟨.ref p, g1, hk.out en F1 σ H1 _ s1 (wpR_mono (wpR_bind q) (fun y q u F2 H2 e2 s2 r2 => ?_) fun _ z => z.up e1)⟩
    obtain ⟨p2, o2, f1, f2, f3, ⟨kvs2, eo2, r3⟩, f5, f6⟩ := s2.own i _ _ hΓ
    subst eo2
    rw [g1] at f1
    injection f1 with f1
    injection f1 with f1
    injection f1 with f1
    subst f1
    obtain ⟨hl, q⟩ := wpR_chk (wpR_bind q)
    obtain ⟨b, eu, hb⟩ := ky.rep y H2 u (ρ.mono s2.sub r2)
    subst eu
    refine ⟨p, _, rfl, DPut.t f3 hb (by rw [← r3.length]; exact hl), ?_⟩
    exact (hr v y).out en F2 σ _ D (s2.mut hΓ g1 ⟨_, rfl, r3.put (π.mono e2 r1)⟩) (wpR_mono q (fun o z => z.up (e1.trans e2)) fun _ z => z.up (e1.trans e2))) fun _ z => z))⟩
end

/-! ### sorted(set(..)) of cells: see the part on sets -/
/-- the order of cells -/
def ltC (a b : Int × Int) : Bool := decide (a.1 < b.1 ∨ (a.1 = b.1 ∧ a.2 < b.2))
/-- put in its place, once -/
def insC (x : Int × Int) : List (Int × Int) → List (Int × Int)
  | [] => [x]
  | y :: r => if ltC x y = true then x :: y :: r else if x = y then y :: r else y :: insC x r
/-- the rising list of these cells -/
def rise (xs : List (Int × Int)) : List (Int × Int) := xs.foldr insC []
end Py

/-! Own layer, part S: sets of tuples of ints of any size below 9800, of a list or a tuple. The library's own rule ends at 64; here the table may have any power of two of slots. -/
namespace Py
open PySem PySem.Spec PyProof.Rows L2

/-! ### i -> 5 i + 1 meets every slot of a table of 2^k -/
def sN : Nat → Nat
  | 0 => 0
  | b + 1 => 5 * sN b + 1
theorem sN_add (a : Nat) : ∀ b, sN (a + b) = 5 ^ b * sN a + sN b
  | 0 => by simp [sN]
  | b + 1 => by
    show 5 * sN (a + b) + 1 = 5 ^ (b + 1) * sN a + (5 * sN b + 1)
    rw [sN_add a b, Nat.pow_succ, Nat.mul_add, Nat.mul_comm (5 ^ b) 5, Nat.mul_assoc, Nat.add_assoc]
theorem sN_four : ∀ a, 5 ^ a = 4 * sN a + 1
  | 0 => rfl
  | a + 1 => by
    rw [Nat.pow_succ, sN_four a]
    show (4 * sN a + 1) * 5 = 4 * (5 * sN a + 1) + 1
    omega
theorem sN_pow : ∀ k, ∃ q, sN (2 ^ k) = 2 ^ k * (2 * q + 1)
  | 0 => ⟨0, rfl⟩
  | k + 1 => by
    obtain ⟨q, e⟩ := sN_pow k
    have h : sN (2 ^ (k + 1)) = (2 * sN (2 ^ k)) * (2 * sN (2 ^ k) + 1) := by
      rw [Nat.pow_succ, Nat.mul_two, sN_add, sN_four]
      generalize sN (2 ^ k) = x
      rw [Nat.mul_add, Nat.add_mul, Nat.mul_one, Nat.one_mul, show 2 * x * (2 * x) = 4 * x * x by rw [← Nat.mul_assoc, Nat.mul_comm (2 * x) 2, ← Nat.mul_assoc]]
      omega
    refine ⟨2 * (2 ^ k * (2 * q + 1)) * q + 2 ^ k * (2 * q + 1) + q, ?_⟩
    rw [h, e]
    generalize hr : 2 ^ k * (2 * q + 1) = r
    have e1 : 2 * r = 2 ^ (k + 1) * (2 * q + 1) := by rw [← hr, Nat.pow_succ, Nat.mul_comm (2 ^ k) 2, Nat.mul_assoc]
    rw [e1, Nat.mul_assoc]
    congr 1
    rw [← e1, Nat.mul_add, Nat.mul_one, Nat.add_mul, Nat.one_mul]
    have e2 : 2 * q * (2 * r) = 2 * (2 * r * q) := by rw [Nat.mul_comm (2 * q), Nat.mul_left_comm]
    omega
theorem mod_two {M y j : Nat} (h : j < M) : (M * y + j) % (2 * M) = M * (y % 2) + j := by
  have e : M * y + j = (2 * M) * (y / 2) + (M * (y % 2) + j) := by
    have d := Nat.div_add_mod y 2
    have e1 : M * y = M * (2 * (y / 2)) + M * (y % 2) := by rw [← Nat.mul_add, d]
    rw [e1, show M * (2 * (y / 2)) = 2 * M * (y / 2) by rw [Nat.mul_comm 2 M, Nat.mul_assoc], Nat.add_assoc]
  rw [e, Nat.mul_add_mod]
  refine Nat.mod_eq_of_lt ?_
  have z : y % 2 < 2 := Nat.mod_lt _ (by decide)
  rcases (show y % 2 = 0 ∨ y % 2 = 1 by omega) with q | q <;> rw [q] <;> omega
theorem sN_hit : ∀ k j, j < 2 ^ k → ∃ b, b < 2 ^ k ∧ sN b % 2 ^ k = j
  | 0, j, h => ⟨0, Nat.one_pos, by
    have : j = 0 := Nat.lt_one_iff.mp h
    rw [this] <;> rfl⟩
  | k + 1, j, h => by
    have M0 : 0 < 2 ^ k := Nat.pow_pos (by decide)
    obtain ⟨b, hb, e⟩ := sN_hit k (j % 2 ^ k) (Nat.mod_lt _ M0)
    obtain ⟨q, eq⟩ := sN_pow k
    have hp : 2 ^ (k + 1) = 2 * 2 ^ k := by rw [Nat.pow_succ, Nat.mul_comm]
    rw [hp] at h ⊢
    generalize hM : 2 ^ k = M at *
    have jlt : j % M < M := Nat.mod_lt _ M0
    have ej : j = M * (j / M) + j % M := (Nat.div_add_mod j M).symm
    have jd : j / M < 2 := Nat.div_lt_of_lt_mul (by rw [Nat.mul_comm]; exact h)
    have ex : sN b = M * (sN b / M) + j % M := by
      have z := Nat.div_add_mod (sN b) M
      rw [e] at z
      exact z.symm
    by_cases c : (sN b / M) % 2 = j / M
    · refine ⟨b, by omega, ?_⟩
      rw [ex, mod_two jlt, c, ← ej]
    · refine ⟨M + b, by omega, ?_⟩
      have odd : sN (M + b) = M * ((4 * sN b + 1) * (2 * q + 1) + sN b / M) + j % M := by
        rw [sN_add, sN_four, eq, Nat.mul_left_comm, Nat.mul_add M, Nat.add_assoc, ← ex]
      rw [odd, mod_two jlt]
      have o2 : ((4 * sN b + 1) * (2 * q + 1) + sN b / M) % 2 = j / M := by
        have o1 : ((4 * sN b + 1) * (2 * q + 1)) % 2 = 1 := by
          rw [Nat.mul_mod]
          have a1 : (4 * sN b + 1) % 2 = 1 := by omega
          have a2 : (2 * q + 1) % 2 = 1 := by omega
          rw [a1, a2]
        generalize (4 * sN b + 1) * (2 * q + 1) = u at o1 ⊢
        generalize sN b / M = v at c ⊢
        generalize j / M = y at c jd ⊢
        omega
      rw [o2, ← ej]
theorem lcg_sN (m : Nat) : ∀ b, lcgN m b = sN b % (m + 1)
  | 0 => rfl
  | b + 1 => by
    show (lcgN m b * 5 + 1) % (m + 1) = (5 * sN b + 1) % (m + 1)
    rw [lcg_sN m b, Nat.mul_comm, Nat.add_mod, Nat.mul_mod, Nat.mod_mod, ← Nat.mul_mod, ← Nat.add_mod]
/-- the masks of tables of up to 32768 slots -/
def MB (m : Nat) : Prop := ∃ k, (k = 3 ∨ k = 5 ∨ k = 7 ∨ k = 9 ∨ k = 11 ∨ k = 13 ∨ k = 15) ∧ m + 1 = 2 ^ k
theorem MB.le {m : Nat} (h : MB m) : 7 ≤ m ∧ m ≤ 32767 ∧ m % 2 = 1 := by
  obtain ⟨k, c, e⟩ := h
  rcases c with c | c | c | c | c | c | c <;> subst c <;> simp at e <;> omega
theorem MB.cases {m : Nat} (h : MB m) : m = 7 ∨ m = 31 ∨ m = 127 ∨ m = 511 ∨ m = 2047 ∨ m = 8191 ∨ m = 32767 := by
  obtain ⟨k, c, e⟩ := h
  rcases c with c | c | c | c | c | c | c <;> subst c <;> simp at e <;> omega
theorem mb7 : MB 7 := ⟨3, by decide, rfl⟩
theorem mb31 : MB 31 := ⟨5, by decide, rfl⟩
theorem mb127 : MB 127 := ⟨7, by decide, rfl⟩
theorem mb511 : MB 511 := ⟨9, by decide, rfl⟩
theorem mb2047 : MB 2047 := ⟨11, by decide, rfl⟩
theorem mb8191 : MB 8191 := ⟨13, by decide, rfl⟩
theorem mb32767 : MB 32767 := ⟨15, by decide, rfl⟩
/-- a table that becomes too full is made four times as large -/
theorem grows {m n : Nat} (h : MB m) (h1 : m * 3 ≤ (n + 1) * 5) (h2 : n * 5 < m * 3) (h3 : n < 9800) : ∃ M, SetTable.sizeAbove (SetTable.grown (n + 1)) = M + 1 ∧ MB M ∧ (n + 1) * 5 < M * 3 := by
  rcases h.cases with e | e | e | e | e | e | e <;> subst e
  · obtain rfl : n = 4 := by omega
    exact ⟨31, by decide +kernel, mb31, by decide⟩
  · obtain rfl : n = 18 := by omega
    exact ⟨127, by decide +kernel, mb127, by decide⟩
  · obtain rfl : n = 76 := by omega
    exact ⟨511, by decide +kernel, mb511, by decide⟩
  · obtain rfl : n = 306 := by omega
    exact ⟨2047, by decide +kernel, mb2047, by decide⟩
  · obtain rfl : n = 1228 := by omega
    exact ⟨8191, by decide +kernel, mb8191, by decide⟩
  · obtain rfl : n = 4914 := by omega
    exact ⟨32767, by decide +kernel, mb32767, by decide⟩
  · omega
theorem lcg_turn {m : Nat} (hm : MB m) (b : Nat) : lcgN m (m + 1 + b) = lcgN m b := by
  obtain ⟨k, _, e⟩ := hm
  obtain ⟨q, eq⟩ := sN_pow k
  rw [lcg_sN, lcg_sN, sN_add, e, eq, Nat.mul_left_comm, Nat.mul_add_mod]
theorem lcg_meets {m i j : Nat} (hm : MB m) (hi : i ≤ m) (hj : j ≤ m) : ∃ n, n ≤ m ∧ lcgI m i n = j := by
  have hm' := hm
  obtain ⟨k, _, e⟩ := hm
  obtain ⟨a, ha, ea⟩ := sN_hit k i (by omega)
  obtain ⟨b, hb, eb⟩ := sN_hit k j (by omega)
  rw [← e] at ha ea hb eb
  rw [← lcg_sN] at ea eb
  subst ea
  by_cases c : a ≤ b
  · exact ⟨b - a, by omega, by rw [lcgN_add, Nat.add_sub_cancel' c, eb]⟩
  · exact ⟨b + (m + 1) - a, by omega, by rw [lcgN_add, show a + (b + (m + 1) - a) = m + 1 + b by omega, lcg_turn hm', eb]⟩
theorem slot_run {m j : Nat} (hm : MB m) (h : Int) (hj : j ≤ m) : ∃ n, n ≤ m + 12 ∧ runI m (SetTable.bits h) n = j := by
  obtain ⟨n, hn, e⟩ := lcg_meets hm (runI_le m (SetTable.bits h) 12) hj
  exact ⟨12 + n, Nat.add_comm m 12 ▸ Nat.add_le_add_left hn 12, (runI_tail (bits_lt h) n).trans e⟩
theorem way_in (m : Nat) (h : Int) (k : Nat) : way m h k ≤ m := by
  have i0 : SetTable.bits h % (m + 1) ≤ m := Nat.le_of_lt_succ (Nat.mod_lt _ (Nat.succ_pos _))
  have z : (runAt m (SetTable.bits h % (m + 1)) (SetTable.bits h)).j + (runAt m (SetTable.bits h % (m + 1)) (SetTable.bits h)).more ≤ m := by
    have r := runEnd_bd i0
    simp only [runAt]
    omega
  have q := nth_in k _ z
  exact Nat.le_trans (Nat.le_add_right _ _) q
theorem way_meets {m j : Nat} (hm : MB m) (h : Int) (hj : j ≤ m) : ∃ k, k < 10 * SetTable.turns m ∧ way m h k = j := by
  obtain ⟨n, hn, e⟩ := slot_run hm h hj
  obtain ⟨k, hk, e2⟩ := run_nth m (SetTable.bits h) n
  exact ⟨k, by simp only [SetTable.turns]; omega, (congrArg SetTable.Probe.j e2).trans e⟩
theorem lcg_inj {m a b : Nat} (hm : MB m) (ha : a ≤ m) (hb : b ≤ m) (e : lcgN m a = lcgN m b) : a = b := by
  obtain ⟨k, _, em⟩ := hm
  have pl : ((List.range (m + 1)).map (lcgN m)).Perm (List.range (m + 1)) := perm_range (m + 1) _ (by simp) fun j hj => by
    obtain ⟨x, hx, ex⟩ := sN_hit k j (by omega)
    exact List.mem_map.mpr ⟨x, List.mem_range.mpr (by omega), by rw [lcg_sN, em, ex]⟩
  have nd : ((List.range (m + 1)).map (lcgN m)).Nodup := pl.nodup_iff.mpr List.nodup_range
  have pw : ∀ x y, x < y → y ≤ m → lcgN m x ≠ lcgN m y := fun x y h1 h2 => by
    have z := List.pairwise_iff_getElem.mp nd x y (by simp; omega) (by simp; omega) h1
    simpa using z
  rcases Nat.lt_trichotomy a b with c | c | c
  · exact absurd e (pw a b c hb)
  · exact c
  · exact absurd e.symm (pw b a c ha)
theorem lcg_off {m i x y : Nat} (hm : MB m) (hi : i ≤ m) (hx : x ≤ m) (hy : y ≤ m) (e : lcgI m i x = lcgI m i y) : x = y := by
  have hm' := hm
  obtain ⟨k, _, em⟩ := hm
  obtain ⟨a, ha, ea⟩ := sN_hit k i (by omega)
  rw [← em] at ha ea
  rw [← lcg_sN] at ea
  subst ea
  rw [lcgN_add, lcgN_add] at e
  have r : ∀ z, z ≤ m → ∃ w, w ≤ m ∧ lcgN m (a + z) = lcgN m w ∧ (w = a + z ∨ w + (m + 1) = a + z) := fun z hz => by
    by_cases c : a + z ≤ m
    · exact ⟨a + z, c, rfl, .inl rfl⟩
    · refine ⟨a + z - (m + 1), by omega, ?_, .inr (by omega)⟩
      have t := lcg_turn hm' (a + z - (m + 1))
      rw [show m + 1 + (a + z - (m + 1)) = a + z by omega] at t
      exact t
  obtain ⟨u, u1, u2, u3⟩ := r x hx
  obtain ⟨v, v1, v2, v3⟩ := r y hy
  have := lcg_inj hm' u1 v1 (by rw [← u2, ← v2, e])
  omega
/-- few slots taken: few steps -/
theorem few_steps {m K : Nat} (hm : MB m) (h : Int) {ps : List Nat} (hl : ps.length ≤ m) (full : ∀ k, k < K → way m h k ∈ ps) : K ≤ 10 * (12 + ps.length) := by
  refine Classical.byContradiction fun no => ?_
  have i12 := runI_le m (SetTable.bits h) 12
  have nd : ((List.range (ps.length + 1)).map fun n => runI m (SetTable.bits h) (12 + n)).Nodup := by
    rw [List.Nodup, List.pairwise_map, List.pairwise_iff_getElem]
    intro x y hx hy lt z
    simp only [List.length_range] at hx hy
    rw [List.getElem_range, List.getElem_range, runI_tail (bits_lt h), runI_tail (bits_lt h)] at z
    have := lcg_off hm i12 (by omega) (by omega) z
    omega
  have z := nat_nodup_len _ ps nd fun x hx => by
    obtain ⟨n, hn, rfl⟩ := List.mem_map.mp hx
    have hn := List.mem_range.mp hn
    obtain ⟨k, hk, e2⟩ := run_nth m (SetTable.bits h) (12 + n)
    have w : way m h k = runI m (SetTable.bits h) (12 + n) := congrArg SetTable.Probe.j e2
    rw [← w]
    exact full k (by omega)
  rw [List.length_map, List.length_range] at z
  omega

/-! ### a table in which each hash finds its slot again -/
structure TB (t : SetTable) (hs : List Int) : Prop where
  up : Ris t.place.toList
  nod : t.dummies = #[]
  len : t.place.size = hs.length
  msk : MB t.mask
  low : ∀ x ∈ t.place.toList, x ≤ t.mask
  met : ∀ (i : Nat) (h : Int) (j : Nat), hs[i]? = some h → t.place.toList[i]? = some j → ∃ k, way t.mask h k = j ∧ ∀ n, n < k → way t.mask h n ∈ t.place.toList
/-- the way of h ends at step K, the first that is free -/
structure Ends (t : SetTable) (h : Int) (K : Nat) : Prop where
  free : way t.mask h K ∉ t.place.toList
  full : ∀ k, k < K → way t.mask h k ∈ t.place.toList
theorem TB.ends {t : SetTable} {hs : List Int} (T : TB t hs) (hl : hs.length ≤ t.mask) (h : Int) : ∃ K, K < 10 * SetTable.turns t.mask ∧ Ends t h K := by
  obtain ⟨j, j1, j2⟩ := st_missing t.place.toList (t.mask + 1) (by rw [Array.length_toList, T.len]; omega)
  obtain ⟨k, k1, rfl⟩ := way_meets T.msk h (Nat.le_of_lt_succ j1)
  obtain ⟨K, a, b, c⟩ := st_least (p := fun k => way t.mask h k ∉ t.place.toList) k j2
  exact ⟨K, Nat.lt_of_le_of_lt a k1, b, fun n hn => Classical.byContradiction fun z => c n hn z⟩
theorem TB.ahead {t : SetTable} {hs : List Int} (T : TB t hs) {h : Int} {K i j : Nat} (e : Ends t h K) (hi : hs[i]? = some h) (hj : t.place.toList[i]? = some j) : ∃ k, k < K ∧ way t.mask h k = j := by
  obtain ⟨k, rfl, q⟩ := T.met i h j hi hj
  refine ⟨k, Classical.byContradiction fun z => ?_, rfl⟩
  rcases Nat.lt_or_eq_of_le (Nat.not_lt.mp z) with c | c
  · exact e.free (q K c)
  · exact e.free (c ▸ List.mem_of_getElem? hj)
/-- where in a row of slots j would stand -/
abbrev bel (t : SetTable) (j : Nat) : Nat := SetTable.below t.place j
structure PutOk (t : SetTable) (hs : List Int) (h : Int) (j : Nat) : Prop where
  at_ : (t.put j).2 = bel t j
  le : bel t j ≤ hs.length
  tab : TB (t.put j).1 (hs.take (bel t j) ++ h :: hs.drop (bel t j))
  msk : (t.put j).1.mask = t.mask
  led : (t.put j).1.led = t.led
  pla : (t.put j).1.plain = t.plain
  fil : (t.put j).1.fill = hs.length + 1
theorem TB.put {t : SetTable} {hs : List Int} (T : TB t hs) {h : Int} {K : Nat} (e : Ends t h K) : PutOk t hs h (way t.mask h K) := by
  have jm := way_in t.mask h K
  generalize ej : way t.mask h K = j at jm
  have free : j ∉ t.place.toList := ej ▸ e.free
  have cut := (below_cut T.up j).1
  have l1 : bel t j ≤ t.place.toList.length := by rw [Array.length_toList]; exact cut
  have l2 : bel t j ≤ hs.length := T.len ▸ cut
  have len : t.place.toList.length = hs.length := (Array.length_toList).trans T.len
  have pl := put_place t j
  have size : (t.put j).1.place.size = hs.length + 1 := by
    have z := congrArg List.length pl
    rw [len_ins _ l1, len, Array.length_toList] at z
    exact z
  have keep : ∀ x, x ∈ t.place.toList → x ∈ (t.put j).1.place.toList := fun x hx => pl ▸ mem_ins.2 (.inr hx)
  refine ⟨rfl, l2, ⟨ris_insert T.up fun z => free (List.mem_of_getElem? ((Array.getElem?_toList ..).trans z)), put_dm T.nod j, size.trans (len_ins _ l2 h).symm, T.msk, ?_, ?_⟩, rfl, rfl, rfl, ?_⟩
  · intro x hx
    rw [pl] at hx
    exact (mem_ins.1 hx).elim (fun z => z ▸ jm) (T.low x)
  · intro i g y g1 g2
    rw [tins_get hs l2] at g1
    rw [pl, tins_get _ l1] at g2
    have old : ∀ i', hs[i']? = some g → t.place.toList[i']? = some y → ∃ k, way t.mask g k = y ∧ ∀ n, n < k → way t.mask g n ∈ (t.put j).1.place.toList := fun i' a b => by
      obtain ⟨k, c, d⟩ := T.met i' g y a b
      exact ⟨k, c, fun n hn => keep _ (d n hn)⟩
    split at g1 <;> rename_i c
    · rw [if_pos c] at g2
      exact old i g1 g2
    · rw [if_neg c] at g2
      split at g1 <;> rename_i d
      · rw [if_pos d] at g2
        cases g1
        cases g2
        exact ⟨K, ej, fun n hn => keep _ (e.full n hn)⟩
      · rw [if_neg d] at g2
        exact old (i - 1) g1 g2
  · show (t.put j).1.place.size + (t.put j).1.dummies.size = _
    rw [put_dm T.nod j, size]
    rfl

/-! ### the table laid anew -/
theorem free_way {m j : Nat} (hm : MB m) (owner : Array (Option Nat)) (h : Int) (hj : j ≤ m) (hf : oAt owner j = none) :
    ∃ K, SetTable.layClean.free m owner (SetTable.turns m) (SetTable.bits h % (m + 1)) (SetTable.bits h) = some (way m h K) ∧ oAt owner (way m h K) = none ∧ ∀ k, k < K → oAt owner (way m h k) ≠ none := by
  obtain ⟨n, n1, rfl⟩ := slot_run hm h hj
  have e : way m h (off m (SetTable.bits h % (m + 1)) (SetTable.bits h) n) = runI m (SetTable.bits h) n := by
    show (nth m _ _).j = _
    rw [nth_off, itL_run]
    rfl
  obtain ⟨K, a, b, c⟩ := st_least (p := fun k => oAt owner (way m h k) = none) _ (e ▸ hf : oAt owner (way m h (off m (SetTable.bits h % (m + 1)) (SetTable.bits h) n)) = none)
  refine ⟨K, free_spec m owner (SetTable.turns m) n _ _ K (by simp only [SetTable.turns]; omega) a (fun k hk => ?_) ?_, b, c⟩
  · have z := c k hk
    cases y : oAt owner (way m h k) with
    | none => exact absurd y z
    | some v => rfl
  · exact (congrArg Option.isNone b : _)
theorem own_step {m : Nat} (hm : MB m) {done : List Int} {owner : Array (Option Nat)} (W : Own m done owner) (hl : done.length ≤ m) (h : Int) :
    ∃ j, SetTable.layClean.free m owner (SetTable.turns m) (SetTable.bits h % (m + 1)) (SetTable.bits h) = some j ∧ Own m (done ++ [h]) (owner.setIfInBounds j (some done.length)) := by
  obtain ⟨ps, p1, p2⟩ := W.ps
  obtain ⟨i, i1, i2⟩ := st_missing ps (m + 1) (p1 ▸ Nat.lt_succ_of_le hl)
  have hi : oAt owner i = none := Classical.byContradiction fun z => i2 (p2 i (Nat.le_of_lt_succ i1) z)
  obtain ⟨K, a, b, c⟩ := free_way hm owner h (Nat.le_of_lt_succ i1) hi
  have jm := way_in m h K
  refine ⟨_, a, ?_⟩
  generalize ej : way m h K = j at b jm
  have new : oAt (owner.setIfInBounds j (some done.length)) j = some done.length := oAt_set_self _ (by rw [W.sz]; omega)
  have old : ∀ x, x ≠ j → oAt (owner.setIfInBounds j (some done.length)) x = oAt owner x := fun x hx => oAt_set_ne _ hx
  have still : ∀ x, oAt owner x ≠ none → oAt (owner.setIfInBounds j (some done.length)) x ≠ none := fun x hx => by
    rw [old x fun z => hx (z ▸ b)]
    exact hx
  constructor
  · simpa using W.sz
  · intro x k hx e
    by_cases q : x = j
    · subst q
      rw [new] at e
      cases e
      exact ⟨h, K, by simp, ej, fun n hn => still _ (c n hn)⟩
    · rw [old x q] at e
      obtain ⟨g, G, g1, g2, g3⟩ := W.at_ x k hx e
      exact ⟨g, G, by rw [List.getElem?_append_left (List.getElem?_eq_some_iff.mp g1).1, g1], g2, fun n hn => still _ (g3 n hn)⟩
  · intro k hk
    rcases Nat.lt_or_ge k done.length with q | q
    · obtain ⟨x, x1, x2⟩ := W.all k q
      exact ⟨x, x1, by rw [old x fun z => (by rw [z, b] at x2; cases x2)]; exact x2⟩
    · simp at hk
      exact ⟨j, jm, by rw [new, show k = done.length by omega]⟩
  · refine ⟨j :: ps, by simp [p1], fun x hx e => ?_⟩
    by_cases q : x = j
    · exact q ▸ List.mem_cons_self
    · rw [old x q] at e
      exact List.mem_cons_of_mem _ (p2 x hx e)
theorem own_fold {m : Nat} (hm : MB m) : ∀ (rest done : List Int) (owner : Array (Option Nat)), Own m done owner → done.length + rest.length ≤ m →
    ∃ o2, rest.foldl (stepF m) (some (owner, done.length)) = some (o2, done.length + rest.length) ∧ Own m (done ++ rest) o2
  | [], done, owner, W, _ => ⟨owner, rfl, (List.append_nil done).symm ▸ W⟩
  | h :: rest, done, owner, W, hl => by
    simp only [List.length_cons] at hl ⊢
    obtain ⟨j, a, W2⟩ := own_step hm W (by omega) h
    have z := own_fold hm rest _ _ W2 (by simp; omega)
    obtain ⟨o2, b, c⟩ := z
    simp only [List.length_append, List.length_cons, List.length_nil, Nat.zero_add, List.append_assoc, List.cons_append, List.nil_append] at b c
    refine ⟨o2, ?_, c⟩
    rw [List.foldl_cons, stepF_some a, b, show done.length + 1 + rest.length = done.length + (rest.length + 1) by omega]
theorem own_clean {m : Nat} (hm : MB m) {hs : Array Int} (hn : hs.size ≤ m) : ∃ owner, SetTable.layClean m hs = some owner ∧ Own m hs.toList owner := by
  obtain ⟨o, a, b⟩ := own_fold hm hs.toList [] _ (Own.init m) (by simpa using hn)
  refine ⟨o, ?_, b⟩
  rw [layClean_eq]
  exact congrArg (Option.map Prod.fst) a
structure Relaid (t : SetTable) (hs : Array Int) (wanted M : Nat) (t2 : SetTable) (ord : Array Nat) : Prop where
  eq : t.relaid hs wanted = some (t2, ord)
  perm : ord.toList.Perm (List.range hs.size)
  tab : TB t2 (ord.toList.map fun i => hs.getD i 0)
  msk : t2.mask = M
  led : t2.led = t.led
  pla : t2.plain = t.plain
theorem relaid_tb (t : SetTable) {hs : Array Int} {wanted M : Nat} (hw : SetTable.sizeAbove wanted - 1 = M) (hM : MB M) (hn : hs.size ≤ M) : ∃ t2 ord, Relaid t hs wanted M t2 ord := by
  obtain ⟨owner, a, W⟩ := own_clean hM hn
  have ris := ris_live (fun j => owner.getD j none) (List.range (M + 1)) (show List.Pairwise _ _ from List.pairwise_lt_range)
  have r1 : Ris ((liveOf M owner).map Prod.fst) := ris.1
  have nd : ((liveOf M owner).map Prod.fst).Nodup := r1.imp Nat.ne_of_lt
  have inl : ∀ j k, (j, k) ∈ liveOf M owner ↔ j ≤ M ∧ oAt owner j = some k := fun j k => mem_live W.sz
  have all2 : ∀ k, k < hs.size → k ∈ (liveOf M owner).map Prod.snd := fun k hk => by
    obtain ⟨j, j1, j2⟩ := W.all k (by simpa using hk)
    exact List.mem_map.mpr ⟨_, (inl j k).2 ⟨j1, j2⟩, rfl⟩
  have len : (liveOf M owner).length = hs.size := by
    obtain ⟨ps, p1, p2⟩ := W.ps
    have u := nat_nodup_len _ ps nd fun x hx => by
      obtain ⟨⟨y, k⟩, q, rfl⟩ := List.mem_map.mp hx
      have z := (inl y k).1 q
      exact p2 y z.1 (by rw [z.2]; exact fun h => nomatch h)
    have v := nat_nodup_len (List.range hs.size) _ List.nodup_range fun k hk => all2 k (List.mem_range.mp hk)
    simp only [List.length_map, List.length_range] at u v
    have e : hs.toList.length = hs.size := Array.length_toList
    omega
  refine ⟨tabOf t M owner, ((liveOf M owner).map Prod.snd).toArray, ?_, ?_, ⟨r1, rfl, ?_, hM, ?_, ?_⟩, rfl, rfl, rfl⟩
  · rw [relaid_eq, hw, a]
    rfl
  · exact perm_range hs.size _ (by rw [List.length_map, len]) all2
  · simp [tabOf]
  · intro x hx
    exact Nat.le_of_lt_succ (List.mem_range.mp (ris.2 x hx))
  · intro i h j g1 g2
    change (((liveOf M owner).map Prod.snd).map fun i => hs.getD i 0)[i]? = some h at g1
    change ((liveOf M owner).map Prod.fst)[i]? = some j at g2
    rw [List.getElem?_map, List.getElem?_map] at g1
    rw [List.getElem?_map] at g2
    cases q : (liveOf M owner)[i]? with
    | none => rw [q] at g2; cases g2
    | some y =>
      obtain ⟨y, k⟩ := y
      rw [q] at g1 g2
      cases g2
      have z := (inl y k).1 (List.mem_of_getElem? q)
      obtain ⟨g, G, w1, w2, w3⟩ := W.at_ y k z.1 z.2
      have eg : hs.getD k 0 = g := by
        have : hs[k]? = some g := by rw [← Array.getElem?_toList]; exact w1
        simp [Array.getD_eq_getD_getElem?, this]
      have eh : g = h := eg.symm.trans (Option.some.inj g1)
      subst eh
      refine ⟨G, w2, fun n hn => ?_⟩
      cases v : oAt owner (way M g n) with
      | none => exact absurd v (w3 n hn)
      | some k2 => exact List.mem_map.mpr ⟨(_, k2), (inl _ _).2 ⟨way_in M g n, v⟩, rfl⟩

/-! ### the set -/
section
variable {P : Program} {w : World} {A : Around} {E : Value → Shared → Prop} {s : Shared}
/-- at a stands the set of the rows L -/
structure SB (P : Program) (w : World) (h : Heap) (a : Addr) (L : List (Addr × List Int)) (es : Array (Int × Value)) (ep : Nat) (t : SetTable) : Prop where
  obj : ∃ o, h.get? a = some o ∧ o.ExactSet ∧ o.data = .set es ep t
  row : es.toList = rowsOf P w L
  tab : TB t (L.map fun p => thash P w p.2)
  dif : (L.map Prod.snd).Nodup
  tup : ∀ p ∈ L, L2.IsT P w h p.2 p.1
  pla : t.plain = true
  led : w.params.followText "set-order" = true ∨ t.led = true
  gap : L.length * 5 < t.mask * 3
  few : L.length ≤ 9800
variable {a : Addr} {L : List (Addr × List Int)} {es : Array (Int × Value)} {ep : Nat} {t : SetTable}
theorem SB.size (R : SB P w s.heap a L es ep t) : es.size = L.length := by
  rw [← Array.length_toList, R.row]
  simp [rowsOf]
theorem SB.fits (R : SB P w s.heap a L es ep t) : t.fits es.size = true := by
  have q1 := R.tab.len
  have q2 := R.gap
  have q3 := R.size
  simp only [List.length_map] at q1
  simp only [SetTable.fits, SetTable.fill, R.tab.nod, Bool.and_eq_true, beq_iff_eq, decide_eq_true_eq]
  constructor
  · exact q1.trans q3.symm
  · show t.place.size + 0 ≤ t.mask
    omega
theorem SB.at_ (R : SB P w s.heap a L es ep t) {i : Nat} {p : Addr × List Int} (h : L[i]? = some p) : es[i]? = some (thash P w p.2, Value.ref p.1) := by
  have z : es.toList[i]? = some (thash P w p.2, Value.ref p.1) := by rw [R.row, rowsOf, List.getElem?_map, h]; rfl
  exact (Array.getElem?_toList ..).symm.trans z
theorem SB.goes (R : SB P w s.heap a L es ep t) : t.gaveWay = true → False := by
  simp only [SetTable.gaveWay, R.tab.msk.le.2.2]
  decide
abbrev prb (m : Nat) (h : Int) (c : Nat) : SetTable.Probe := nth m (runAt m (SetTable.bits h % (m + 1)) (SetTable.bits h)) c
theorem prb_add (m : Nat) (h : Int) (c n : Nat) : nth m (prb m h c) n = prb m h (c + n) := (nth_add m c _ n).symm
theorem nth_dummy (m : Nat) : ∀ (n : Nat) (p : SetTable.Probe), p.dummy = none → (nth m p n).dummy = none
  | 0, _, h => h
  | n + 1, p, h => nth_dummy m n (adv m p) (by unfold adv; split <;> exact h)
/-- looking for k from step c of its way on -/
theorem look (R : SB P w s.heap a L es ep t) {x : Addr} {k : List Int} {h : Int} (eh : h = thash P w k) (hx : L2.IsT P w s.heap k x) (hu : A.units < cLine) {K : Nat} (hK : K < 10 * SetTable.turns t.mask) (en : Ends t h K) {Q : SetFound → Shared → Prop}
    (yes : k ∈ L.map Prod.snd → Q (.there none) s) (no : k ∉ L.map Prod.snd → Q (.free (way t.mask h K) false) s) :
    ∀ (f c : Nat) (from_ : Option SetTable.Probe), from_.getD (t.probeStart h) = prb t.mask h c → c ≤ K → K - c < f →
      (∀ (i : Nat) (p : Addr × List Int), L[i]? = some p → p.2 = k → ∃ n, c ≤ n ∧ n < K ∧ t.place.toList[i]? = some (way t.mask h n)) →
      wpAny (model P w) A (setSearchFrom a (.ref x) h true f from_) Q E s := by
  intro f
  induction f with
  | zero => intro c _ _ _ z _; exact absurd z (Nat.not_lt_zero _)
  | succ f ih =>
    intro c from_ hs hc hf hn
    obtain ⟨o, o1, _, o3⟩ := R.obj
    have hash : ∀ (i : Nat) (p : Addr × List Int), L[i]? = some p → (fun i => (es[i]?.map Prod.fst).getD 0) i = thash P w p.2 := fun i p hp => by
      show (es[i]?.map Prod.fst).getD 0 = _
      rw [R.at_ hp]
      rfl
    rw [setSearchFrom_succ]
    refine wpAny_bind (wpAny_setState_of o1 o3 R.fits (wp_if_neg R.goes ?_))
    have spec := go_spec t R.tab.up R.tab.nod (fun i => (es[i]?.map Prod.fst).getD 0) h (10 * SetTable.turns t.mask) (K - c) (prb t.mask h c) (nth_dummy _ c _ rfl) (by omega)
      (fun q hq => by rw [prb_add]; exact en.full (c + q) (by omega)) (by rw [prb_add, Nat.add_sub_cancel' hc]; exact en.free)
    rw [hs]
    rcases spec with ⟨q, i, q1, q2, q3, q4, q5⟩ | ⟨q4, q5⟩
    · have q5' : t.probe (fun i => (es[i]?.map Prod.fst).getD 0) h (prb t.mask h c) = some (.candidate (way t.mask h (c + q)) i (prb t.mask h (c + (q + 1)))) := by
        refine q5.trans ?_
        rw [prb_add, prb_add]
      rw [prb_add] at q2
      rw [q5']
      have il : i < L.length := by
        have z := (List.getElem?_eq_some_iff.mp q2).1
        have z2 := R.tab.len
        simp only [List.length_map] at z2
        rw [Array.length_toList] at z
        omega
      obtain ⟨p, hp⟩ : ∃ p, L[i]? = some p := ⟨_, List.getElem?_eq_getElem il⟩
      have pm := List.mem_of_getElem? hp
      have goal : wpAny (model P w) A (searchRest a (.ref x) h true f es t (way t.mask h (c + q)) i (prb t.mask h (c + (q + 1)))) Q E s := by
        have live := slot_live R.tab.up q2
        unfold searchRest
        rw [R.at_ hp]
        refine wpAny_bind (wpAny_holding (wpAny_eqBool_tuple hu (R.tup p pm) hx (wpAny_bind (wpAny_setState_of o1 o3 R.fits ?_))))
        by_cases e : p.2 = k
        · exact wp_if_pos (by simp [e]) (wpAny_pure (yes (List.mem_map.mpr ⟨p, pm, e⟩)))
        · refine wp_if_neg (by simp [e]) ?_
          try refine wpAny_bind (wpAny_pure ?_)
          rw [sameMem]
          dsimp only
          simp only [if_true, live, R.at_ hp]
          refine wpAny_bind (wpAny_isSame_ref_self (wpAny_bind (wpAny_pure ?_)))
          simp only [if_true]
          refine wp_if_neg (by simp [e]) (ih (c + (q + 1)) _ rfl (by omega) (by omega) fun i2 p2 g1 g2 => ?_)
          obtain ⟨n, n1, n2, n3⟩ := hn i2 p2 g1 g2
          refine ⟨n, ?_, n2, n3⟩
          refine Classical.byContradiction fun z => ?_
          rcases Nat.lt_or_eq_of_le (show n ≤ c + q by omega) with y | y
          · refine q4 (n - c) i2 (by omega) (by rw [prb_add, Nat.add_sub_cancel' n1]; exact n3) ?_
            exact (hash i2 p2 g1).trans (by rw [g2, eh])
          · rw [y] at n3
            have l2 := slot_live R.tab.up n3
            rw [live] at l2
            cases l2
            rw [hp] at g1
            cases g1
            exact e g2
      by_cases l : t.led = true
      · refine wp_if_neg (by simp [l]) ?_
        try refine wpAny_bind (wpAny_pure ?_)
        exact goal
      · refine wp_if_pos (by simp [l]) (wpAny_bind (seen_tup hx (fun y hy => ?_) ?_))
        · obtain ⟨e, he, rfl⟩ := List.mem_map.mp hy
          have e1 : e ∈ es.toList := by simp at he; simpa using he.1
          rw [R.row] at e1
          obtain ⟨p2, g1, rfl⟩ := List.mem_map.mp e1
          exact ⟨p2.2, p2.1, rfl, R.tup p2 g1⟩
        · refine wp_if_neg (by decide) ?_
          try refine wpAny_bind (wpAny_pure ?_)
          exact goal
    · have q5' : t.probe (fun i => (es[i]?.map Prod.fst).getD 0) h (prb t.mask h c) = some (.empty (way t.mask h K) none) := by
        refine q5.trans ?_
        rw [prb_add, Nat.add_sub_cancel' hc]
      rw [q5']
      refine wpAny_pure (no fun hm => ?_)
      obtain ⟨p, pm, e⟩ := List.mem_map.mp hm
      obtain ⟨i, il, ei⟩ := List.getElem_of_mem pm
      have hp : L[i]? = some p := by rw [List.getElem?_eq_getElem il, ei]
      obtain ⟨n, n1, n2, n3⟩ := hn i p hp e
      refine q4 (n - c) i (by omega) (by rw [prb_add, Nat.add_sub_cancel' n1]; exact n3) ?_
      exact (hash i p hp).trans (by rw [e, eh])
theorem look_all (R : SB P w s.heap a L es ep t) {x : Addr} {k : List Int} (hx : L2.IsT P w s.heap k x) (hu : A.units < cLine) {Q : SetFound → Shared → Prop}
    (yes : k ∈ L.map Prod.snd → Q (.there none) s) (no : ∀ K, k ∉ L.map Prod.snd → Ends t (thash P w k) K → Q (.free (way t.mask (thash P w k) K) false) s) :
    wpAny (model P w) A (setSearch a (.ref x) (thash P w k) true) Q E s := by
  have g := R.gap
  have m := R.tab.msk.le
  obtain ⟨K, hK, en⟩ := R.tab.ends (by rw [List.length_map]; omega) (thash P w k)
  have fw := R.few
  have ln := R.tab.len
  simp only [List.length_map] at ln
  have big : K < 100000 := by
    have z := few_steps (ps := t.place.toList) R.tab.msk (thash P w k) (by rw [Array.length_toList, ln]; omega) en.full
    rw [Array.length_toList, ln] at z
    omega
  unfold setSearch
  refine look R rfl hx hu hK en yes (fun z => no K z en) 100000 0 none rfl (Nat.zero_le _) (by omega) fun i p hp e => ?_
  have il : i < t.place.toList.length := by
    have z1 := (List.getElem?_eq_some_iff.mp hp).1
    have z2 := R.tab.len
    simp only [List.length_map] at z2
    rw [Array.length_toList]
    omega
  have g1 : (L.map fun p => thash P w p.2)[i]? = some (thash P w k) := by
    rw [List.getElem?_map, hp, ← e]
    rfl
  obtain ⟨n, n1, n2⟩ := R.tab.ahead en g1 (List.getElem?_eq_getElem il)
  exact ⟨n, Nat.zero_le _, n1, by rw [List.getElem?_eq_getElem il, n2]⟩

theorem rows_size {L : List (Addr × List Int)} {es : Array (Int × Value)} (h : es.toList = rowsOf P w L) : es.size = L.length := by
  rw [← Array.length_toList, h]
  simp [rowsOf]
/-- the set as it is between the putting and the making larger -/
structure Loose (P : Program) (w : World) (h : Heap) (a : Addr) (L : List (Addr × List Int)) (es : Array (Int × Value)) (ep : Nat) (t : SetTable) : Prop where
  obj : ∃ o, h.get? a = some o ∧ o.ExactSet ∧ o.data = .set es ep t
  row : es.toList = rowsOf P w L
  tab : TB t (L.map fun p => thash P w p.2)
  dif : (L.map Prod.snd).Nodup
  tup : ∀ p ∈ L, L2.IsT P w h p.2 p.1
  pla : t.plain = true
  led : w.params.followText "set-order" = true ∨ t.led = true
  fit : L.length ≤ t.mask
  few : L.length ≤ 9800
theorem grow (R : Loose P w s.heap a L es ep t) {wanted M : Nat} (hw : SetTable.sizeAbove wanted = M + 1) (hM : MB M) (hn : L.length * 5 < M * 3) {Q : Unit → Shared → Prop}
    (hQ : ∀ h2 L2 es2 ep2 t2, Heap.SameBut a s.heap h2 → SB P w h2 a L2 es2 ep2 t2 → L2.Perm L → Q () { s with heap := h2 }) : wpAny (model P w) A (setRelay a wanted) Q E s := by
  obtain ⟨o, o1, o2, o3⟩ := R.obj
  have sz := rows_size R.row
  have z := R.tab.len
  simp only [List.length_map] at z
  have fit := R.fit
  have few := R.few
  have fits : t.fits es.size = true := by
    simp only [SetTable.fits, SetTable.fill, R.tab.nod, Bool.and_eq_true, beq_iff_eq, decide_eq_true_eq]
    exact ⟨z.trans sz.symm, show t.place.size + 0 ≤ t.mask by omega⟩
  have hM2 := hM.le
  obtain ⟨t2, ord, rl⟩ := relaid_tb t (hs := es.map Prod.fst) (wanted := wanted) (M := M) (by rw [hw]; rfl) hM (by rw [Array.size_map]; omega)
  have pm := rl.perm
  rw [Array.size_map, sz] at pm
  obtain ⟨L2, r1, r2, r3⟩ := order_rows L es ord R.row pm
  have T := rl.tab
  rw [← r3] at T
  have sz2 : (ord.filterMap fun i => es[i]?).size = es.size := by rw [rows_size r1, r2.length_eq, sz]
  rw [setRelay_eq]
  refine wpAny_bind (wpAny_setState_of o1 o3 fits (wp_if_neg (by rw [sizeLine_eq, hw]; omega) ?_))
  try refine wpAny_bind (wpAny_pure ?_)
  rw [rl.eq]
  refine wpAny_bind (wp_if_neg (by rw [sz2]; simp) ?_)
  try refine wpAny_bind (wpAny_pure ?_)
  refine wpAny_pure (wpAny_storeSet_of o1 o3 ?_ (by rw [sz2, sz, sizeLine_eq]; omega))
  have same := Heap.SameBut.update s.heap a (Obj.putSet (ord.filterMap fun i => es[i]?) t2)
  exact hQ _ L2 _ (ep + 1) t2 same ⟨⟨_, store_at o1 o3, o2, rfl⟩, r1, T, (r2.map _).nodup_iff.mpr R.dif, fun p hp => isT_same (R.tup p (r2.mem_iff.mp hp)) o1 o3 same, rl.pla.trans R.pla,
    R.led.imp id fun z => rl.led.trans z, by rw [r2.length_eq, rl.msk]; exact hn, by rw [r2.length_eq]; exact few⟩ r2
/-- one more is put in -/
theorem add_cell (R : SB P w s.heap a L es ep t) {x : Addr} {k : List Int} (hx : L2.IsT P w s.heap k x) (hu : A.units < cLine) (few : k ∉ L.map Prod.snd → L.length < 9800) {Q : Bool → Shared → Prop}
    (hQ : ∀ b h2 L2 es2 ep2 t2, Heap.SameBut a s.heap h2 → SB P w h2 a L2 es2 ep2 t2 → (k ∈ L.map Prod.snd → L2 = L) → (k ∉ L.map Prod.snd → L2.Perm ((x, k) :: L)) → Q b { s with heap := h2 }) :
    wpAny (model P w) A (setAddHashed a (.ref x) (thash P w k)) Q E s := by
  obtain ⟨o, o1, o2, o3⟩ := R.obj
  unfold setAddHashed
  rw [show (100000 : Nat) = 99999 + 1 from rfl, setAddHashedIn_succ]
  refine wpAny_holding (wpAny_bind (wpAny_setState_of o1 o3 R.fits (wp_if_neg (by simp [byScan, Value.scannable]) ?_)))
  try refine wpAny_bind (wpAny_pure ?_)
  refine wpAny_bind (look_all R hx hu (fun z => wpAny_pure (hQ false s.heap L es ep t (Heap.SameBut.refl a s.heap) R (fun _ => rfl) fun y => absurd z y)) fun K new en => ?_)
  have few := few new
  refine wpAny_bind (wpAny_setState_of o1 o3 R.fits ?_)
  dsimp only
  have pt := R.tab.put en
  generalize way t.mask (thash P w k) K = j at pt
  have e1 : t.put j = ((t.put j).1, bel t j) := Prod.ext rfl pt.at_
  rw [e1]
  have pla : (t.put j).1.plain = true := pt.pla.trans R.pla
  have tab := pt.tab
  have msk := pt.msk
  have led := pt.led
  have fil := pt.fil
  have row2 : (SetTable.insertAt es (bel t j) (thash P w k, Value.ref x)).toList = rowsOf P w (L.take (bel t j) ++ (x, k) :: L.drop (bel t j)) := (SetTable.toList_insertAt ..).trans (by rw [rows_put, R.row])
  have hash2 : (L.take (bel t j) ++ (x, k) :: L.drop (bel t j)).map (fun p => thash P w p.2) = (L.map fun p => thash P w p.2).take (bel t j) ++ thash P w k :: (L.map fun p => thash P w p.2).drop (bel t j) := by
    simp [List.map_take, List.map_drop]
  rw [← hash2] at tab
  have pm := put_perm L (bel t j) (x, k)
  simp only [List.length_map] at fil
  generalize (t.put j).1 = t1 at tab pla msk led fil ⊢
  generalize hpos : bel t j = pos at row2 tab pm ⊢
  generalize SetTable.insertAt es pos (thash P w k, Value.ref x) = es1 at row2 ⊢
  generalize L.take pos ++ (x, k) :: L.drop pos = L1 at row2 tab pm
  have len1 : L1.length = L.length + 1 := pm.length_eq
  have sz1 : es1.size = L.length + 1 := (rows_size row2).trans len1
  have gap := R.gap
  have tail : ∀ t1', t1' = t1 → wpAny (model P w) A (storeSet a es1 t1') (fun _ s2 => wpAny (model P w) A (if (!false && t1'.tooFull) = true then (do setRelay a (SetTable.grown (es.size + 1)); pure true) else pure true) Q E s2) E s := by
    intro t1' et
    subst et
    refine wpAny_storeSet_of o1 o3 ?_ (by rw [sz1, sizeLine_eq]; omega)
    have same := Heap.SameBut.update s.heap a (Obj.putSet es1 t1')
    have at1 := store_at (es' := es1) (t' := t1') o1 o3
    generalize s.heap.update a (Obj.putSet es1 t1') = h1 at same at1 ⊢
    have loose : Loose P w h1 a L1 es1 (ep + 1) t1' := ⟨⟨_, at1, o2, rfl⟩, row2, tab, (pm.map Prod.snd).nodup_iff.mpr (List.nodup_cons.mpr ⟨new, R.dif⟩), fun p hp => by
      rcases List.mem_cons.mp (pm.mem_iff.mp hp) with e | hp
      · exact e ▸ isT_same hx o1 o3 same
      · exact isT_same (R.tup p hp) o1 o3 same, pla, R.led.imp id fun z => led.trans z, by rw [len1, msk]; omega, by omega⟩
    by_cases full : t1'.tooFull = true
    · rw [if_pos (by simp [full])]
      have f2 : t.mask * 3 ≤ (L.length + 1) * 5 := by
        have z := full
        simp only [SetTable.tooFull, decide_eq_true_eq, fil, msk] at z
        exact z
      obtain ⟨M, m1, m2, m3⟩ := grows R.tab.msk f2 gap few
      rw [R.size]
      refine wpAny_bind (grow (s := { s with heap := h1 }) loose m1 m2 (by rw [len1]; exact m3) fun h2 L2 es2 ep2 t2 same2 R2 pm2 => ?_)
      exact wpAny_pure (hQ true h2 L2 es2 ep2 t2 (same.trans same2) R2 (fun z => absurd z new) fun _ => pm2.trans pm)
    · rw [if_neg (by simp [full])]
      refine wpAny_pure (hQ true h1 L1 es1 (ep + 1) t1' same ⟨loose.obj, row2, tab, loose.dif, loose.tup, pla, loose.led, ?_, loose.few⟩ (fun z => absurd z new) fun _ => pm)
      have z : ¬ t1'.fill * 5 ≥ t1'.mask * 3 := by simpa [SetTable.tooFull] using full
      rw [fil] at z
      omega
  first
    | (refine wpAny_bind ?_; refine wp_if_pos pla ?_; refine hashBy_tup hx ?_)
    | refine wp_if_pos pla (wpAny_bind (hashBy_tup hx ?_))
  simp only [if_true]
  refine wpAny_bind ?_
  refine wpAny_mono (tail t1 rfl) (fun u s2 z => ?_) fun _ _ z => z
  first
    | exact z
    | (simp only [Bool.not_false, Bool.true_and] at z ⊢
       by_cases full : t1.tooFull = true
       · rw [if_pos full] at z ⊢
         exact z
       · rw [if_neg full] at z ⊢
         exact z)

theorem SB.move {h h2 : Heap} {a : Addr} {L : List (Addr × List Int)} {es : Array (Int × Value)} {ep : Nat} {t : SetTable} (R : SB P w h a L es ep t) (ha : ∀ o, h.get? a = some o → h2.get? a = some o) (ht : ∀ p ∈ L, L2.IsT P w h2 p.2 p.1) : SB P w h2 a L es ep t := by
  obtain ⟨o, o1, o2⟩ := R.obj
  exact { R with obj := ⟨o, ha o o1, o2⟩, tup := ht }
abbrev emptySet (w : World) : Obj := { cls := .type "set", dict := none, data := .set #[] 0 (.fresh 0 0 (!w.params.followText "set-order")) }
theorem sb_empty {h : Heap} {a : Addr} (ho : h.get? a = some (emptySet w)) : SB P w h a [] #[] 0 (.fresh 0 0 (!w.params.followText "set-order")) where
  obj := ⟨_, ho, ⟨rfl, rfl, rfl⟩, rfl⟩
  row := rfl
  tab := ⟨.nil, rfl, rfl, mb7, (fun _ h => nomatch h), fun i h j e => (nomatch e)⟩
  dif := .nil
  tup := fun _ h => nomatch h
  pla := rfl
  led := by
    show _ ∨ (!w.params.followText "set-order") = true
    cases w.params.followText "set-order"
    · exact .inr rfl
    · exact .inl rfl
  gap := by show 0 * 5 < 7 * 3; decide
  few := Nat.zero_le _
/-- at most so many unlike rows -/
def Few (ks : List (Addr × List Int)) : Prop := ∀ L : List (Addr × List Int), (∀ p ∈ L, p ∈ ks) → (L.map Prod.snd).Nodup → L.length ≤ 9800
/-- the rows taken so far: each is in the set by its ints, and nothing else -/
structure Taken (ks : List (Addr × List Int)) (h : Heap) (S : Addr) (P : Program) (w : World) (i : Nat) : Prop where
  ex : ∃ L es ep t, SB P w h S L es ep t ∧ Got ks i L
/-- set.update's loop over rows -/
theorem fill {I : Addr} {fp wr : List Addr} {G : Array GenState → Array GenState → Prop} {n : Nat} {Pv : Nat → Value → Prop} {St : Nat → Shared → Prop} {R : Result → Shared → Prop}
    (W : WalksS P w A.in1 I fp wr G n Pv St) {S : Addr} (hS : S ∉ fp) {ks : List (Addr × List Int)} (hn : n = ks.length) (few : Few ks) (val : ∀ i v, Pv i v → ∃ p, ks[i]? = some p ∧ v = .ref p.1)
    {h0 : Heap} (tup : ∀ p ∈ ks, L2.IsT P w h0 p.2 p.1) (S0 : h0.get? S = none) (w0 : ∀ b ∈ wr, h0.get? b = none) (hu : A.in1.units < cLine) :
    ∀ (m i : Nat) (s : Shared), i + m = n → St i s → (∀ b o, h0.get? b = some o → s.heap.get? b = some o) → Taken ks s.heap S P w i →
      (∀ s2, Moved (S :: wr) G s s2 → Taken ks s2.heap S P w n → (∀ b o, h0.get? b = some o → s2.heap.get? b = some o) → R (.ok (.ret .none)) s2) →
      codeAny (model P w) A (.builtin "set.update.loop" ⟨[.ref S, .ref I], []⟩) R s := by
  have Sw : S ∉ wr := fun z => hS (W.sub _ z)
  have up : ∀ {s s2 : Shared}, Moved wr G s s2 → Moved (S :: wr) G s s2 := fun hm => hm.mono fun b hb => List.mem_cons_of_mem _ hb
  have old : ∀ {s s2 : Shared}, Moved wr G s s2 → (∀ b o, h0.get? b = some o → s.heap.get? b = some o) → ∀ b o, h0.get? b = some o → s2.heap.get? b = some o := fun hm k b o e =>
    hm.heap b o (fun hb => by rw [w0 b hb] at e; cases e) (k b o e)
  have stays : ∀ {s s2 : Shared} {i : Nat}, Moved wr G s s2 → (∀ b o, h0.get? b = some o → s2.heap.get? b = some o) → Taken ks s.heap S P w i → Taken ks s2.heap S P w i := fun hm k ⟨L, es, ep, t, R, g⟩ =>
    ⟨L, es, ep, t, R.move (fun o e => hm.heap S o Sw e) fun p hp => isT_keep (tup p (List.mem_of_mem_take (g.sub p hp))) k, g⟩
  intro m
  induction m with
  | zero =>
    intro i s e st k T hR
    obtain rfl : i = n := e
    refine codeAny_builtin F.entry_set_update_loop (?_ : _)
    rw [Around.under_plainId F.plain_set_update_loop]
    refine wpAny_bind (m := pyNext (.ref I)) (W.done s _ _ st fun s2 hm => ?_)
    have k2 := old hm k
    exact wpAny_pure (hR s2 (up hm) (stays hm k2 T) k2)
  | succ m ih =>
    intro i s e st k T hR
    refine codeAny_builtin F.entry_set_update_loop (?_ : _)
    rw [Around.under_plainId F.plain_set_update_loop]
    refine wpAny_bind (m := pyNext (.ref I)) (W.item i s _ _ (by omega) st fun v s2 hv st2 hm => ?_)
    obtain ⟨p, hp, rfl⟩ := val i v hv
    have k2 := old hm k
    obtain ⟨L, es, ep, t, SR, g⟩ := stays hm k2 T
    have hx : L2.IsT P w s2.heap p.2 p.1 := isT_keep (tup p (List.mem_of_getElem? hp)) k2
    have il : i < ks.length := (List.getElem?_eq_some_iff.mp hp).1
    refine wpAny_bind (m := holding [Value.ref p.1] (setAdd S (.ref p.1))) (wpAny_holding ?_)
    unfold setAdd
    refine wpAny_holding (wpAny_bind (wpAny_pyHash_tuple hu hx ?_))
    refine add_cell (s := { s2 with toks := s2.toks + (p.2.length + 1) }) SR hx hu (fun new => Nat.lt_of_succ_le (few (p :: L) (fun q hq => (List.mem_cons.mp hq).elim (fun z => z ▸ List.mem_of_getElem? hp) fun z => List.mem_of_mem_take (g.sub q z)) (List.nodup_cons.mpr ⟨new, SR.dif⟩))) fun b h3 L3 es3 ep3 t3 same SR3 c1 c2 => ?_
    have g3 : Got ks (i + 1) L3 := by
      by_cases c : p.2 ∈ L.map Prod.snd
      · exact c1 c ▸ g.same hp c
      · exact g.more hp (c2 c)
    have k3 : ∀ b o, h0.get? b = some o → h3.get? b = some o := fun b o q => (same.2 b fun z => by rw [z, S0] at q; cases q).trans (k2 b o q)
    refine wpAny_pure ⟨plainId_quiet F.plain_set_update_loop _, ih (i + 1) _ (by omega) (W.frame _ s2 _ _ st2 (Nat.le_add_right _ _) fun b hb o q => (same.2 b fun z => hS (z ▸ hb)).trans q) k3 ⟨L3, es3, ep3, t3, SR3, g3⟩ fun s4 hm4 T4 k4 => ?_⟩
    exact hR s4 (Moved.trans W.gtrans ((up hm).then_heap (Nat.le_add_right _ _) fun b o hb q => (same.2 b fun z => hb (z ▸ List.mem_cons_self)).trans q) hm4) T4 k4

abbrev withEmpty (w : World) (s : Shared) : Shared := { s with heap := s.heap.push (emptySet w) }
theorem emptyAt (w : World) (s : Shared) : (withEmpty w s).heap.get? s.heap.objs.size = some (emptySet w) := Heap.get?_push_size _ rfl
/-- what set.__init__ leaves of the new set -/
def Made (P : Program) (w : World) (s : Shared) (ks : List (Addr × List Int)) (r : Value) (s2 : Shared) : Prop :=
  r = .none ∧ ∃ h2 tk, s2 = { s with heap := h2, toks := tk } ∧ Taken ks h2 s.heap.objs.size P w ks.length ∧ ∀ b o, s.heap.get? b = some o → h2.get? b = some o
/-- the loop from the new iterator I over l on -/
theorem fill_new {A : Around} {h1 : Heap} {tk1 : Nat} {I l : Addr} {Pv : Nat → Value → Prop} {St : Nat → Shared → Prop} {G : Array GenState → Array GenState → Prop} {ks : List (Addr × List Int)} {n : Nat} (W : WalksS P w A.in1 I [I, l] [I] G n Pv St) (hG : ∀ g g2, G g g2 → g2 = g)
    (hI : I = (withEmpty w s).heap.objs.size) (hl : l < s.heap.objs.size) (hn : n = ks.length) (few : Few ks) (val : ∀ i v, Pv i v → ∃ p, ks[i]? = some p ∧ v = .ref p.1) (tup : ∀ p ∈ ks, L2.IsT P w s.heap p.2 p.1) (hu : A.in1.units < cLine)
    (k1 : ∀ b o, (withEmpty w s).heap.get? b = some o → h1.get? b = some o) (st : St 0 { s with heap := h1, toks := tk1 }) :
    codeAny (model P w) A (.builtin "set.update.loop" ⟨[.ref s.heap.objs.size, .ref I], []⟩) (fun r s2 => r = .ok (.ret .none) ∧ Made P w s ks .none s2) { s with heap := h1, toks := tk1 } := by
  have sz : (withEmpty w s).heap.objs.size = s.heap.objs.size + 1 := Heap.size_push ..
  have nil : ∀ b, s.heap.objs.size ≤ b → s.heap.get? b = none := fun b hb => by
    cases q : s.heap.get? b with
    | none => rfl
    | some o => exact absurd (Nat.lt_of_lt_of_le (Heap.lt_size q) hb) (Nat.lt_irrefl _)
  have S1 : s.heap.objs.size ∉ [I, l] := by
    simp only [List.mem_cons, List.not_mem_nil, or_false, not_or]
    exact ⟨fun z => Nat.lt_irrefl _ (Nat.lt_of_lt_of_eq (Nat.lt_succ_self s.heap.objs.size) ((hI.trans sz).symm.trans z.symm)), Nat.ne_of_gt hl⟩
  refine fill W S1 hn few val tup (nil _ (Nat.le_refl _)) (fun b hb => nil b (by rw [List.mem_singleton.mp hb, hI, sz]; exact Nat.le_succ _)) hu n 0 { s with heap := h1, toks := tk1 } (Nat.zero_add n) st (fun b o e => k1 b o (Heap.get?_push_of_some _ e))
    ⟨[], #[], 0, _, sb_empty (k1 _ _ (emptyAt w s)), Got.zero ks⟩ fun s2 hm T k => ⟨rfl, rfl, s2.heap, s2.toks, ?_, hn ▸ T, k⟩
  have e1 := hG _ _ hm.gens
  have e2 := hm.drawn
  have e3 := hm.os
  obtain ⟨a1, a2, a3, a4, a5⟩ := s2
  simp only at e1 e2 e3
  rw [e1, e2, e3]
end

section
variable {P : Program} {w : World} {A : Around} {E : Value → Shared → Prop} {s : Shared}
set_option maxHeartbeats 3200000 in
/-- set(xs), xs a list or a tuple of tuples of ints -/
theorem call_setB {l : Addr} {items : Array Value} (ks : List (Addr × List Int)) {Q : Value → Shared → Prop} (hh : A.handled = none) (hl : s.heap.IsList l items ∨ s.heap.IsTuple l items) (hit : items.toList = ks.map fun p => Value.ref p.1)
    (hk : ∀ p ∈ ks, L2.IsT P w s.heap p.2 p.1) (few : Few ks) (hu : A.units + 3 < cLine)
    (h : ∀ (h2 : Heap) (tk : Nat), Taken ks h2 s.heap.objs.size P w ks.length → (∀ b o, s.heap.get? b = some o → h2.get? b = some o) → Q (.ref s.heap.objs.size) { s with heap := h2, toks := tk }) :
    wpAny (model P w) A (call (.type "set") [.ref l]) Q E s := by
  have isz : items.size = ks.length := by
    have q := congrArg List.length hit
    simpa using q
  have val : ∀ (i : Nat) (v : Value), items[i]? = some v → ∃ p, ks[i]? = some p ∧ v = .ref p.1 := fun i v hv => by
    have q : items.toList[i]? = some v := (Array.getElem?_toList ..).trans hv
    rw [hit, List.getElem?_map] at q
    obtain ⟨p, p1, p2⟩ := Option.map_eq_some_iff.mp q
    exact ⟨p, p1, p2.symm⟩
  have pack := And.intro val (And.intro hk (And.intro h (And.intro hit (And.intro isz few))))
  clear val hk h hit isz few
  obtain ⟨c, tl, hmro⟩ := F.called_set.mro
  have c1 := F.called_set.made
  have c2 := F.called_set.sub
  have c3 := F.called_set.notType
  have c4 := F.called_set.canCreate
  have c5 := F.typeCall_set_1 (.ref l)
  refine wpAny_call (codeAny_of_tree (?_ : _))
  refine wpAny_pure ⟨Code.quiet_builtin _ (by decide +kernel), codeAny_builtin F.entry_type_call (?_ : _)⟩
  rw [Around.under_plain (weight_type_call_type "set" [.ref l] []) rfl]
  repeat (any_goals (first | assumption | wp_step))
  refine codeAny_mono (code_set_led1 (.ref l) (E := E) (Q₁ := fun obj s1 => obj = .ref s.heap.objs.size ∧ s1 = withEmpty w s) ⟨rfl, rfl⟩) (fun r s1 hr => ?_)
  cases r with
  | error e => exact hr
  | ok fl =>
    cases fl with
    | ret obj =>
      obtain ⟨rfl, rfl⟩ := hr
      have hS := emptyAt w s
      have hT : Shared.TypeIs (withEmpty w s) (.ref s.heap.objs.size) "set" := ⟨_, hS, rfl⟩
      have c6 := F.called_set.init.lookup
      have c7 := F.called_set.init.bind (.ref s.heap.objs.size)
      repeat (any_goals (first | assumption | wp_step))
      refine codeAny_mono (codeAny_call_builtin (R := wants (Made P w s ks) E) F.called_set.init.plain F.entry_set_init (check_set_init_1 hT ?_)) (fun r2 s2 hr2 => ?_)
      · have hh3 : A.in1.in1.in1.handled = none := by simp [hh]
        have new : s.heap.objs.size ≠ (withEmpty w s).heap.objs.size := Nat.ne_of_lt (by rw [Heap.size_push]; exact Nat.lt_succ_self _)
        rcases hl with hl | hl
        · obtain ⟨⟨ocls, odict, odata, oslots⟩, g1, g2, n, g3⟩ := hl
          simp only at g2 g3
          subst g2 g3
          have lS : l < s.heap.objs.size := Heap.lt_size g1
          have g4 : (withEmpty w s).heap.get? l = some { cls := .type "list", dict := odict, data := .seq items n, slots := oslots } := Heap.get?_push_of_some _ g1
          have d1 := F.sub_list_set
          have d2 := F.sub_list_frozenset
          have d3 : (Value.type "list" == Value.type "dict") = false := by decide
          have hl1 : (withEmpty w s).heap.IsList l items := ⟨_, g4, rfl, n, rfl⟩
          have ne : l ≠ (withEmpty w s).heap.objs.size := Nat.ne_of_lt (Nat.lt_of_lt_of_le lS (by rw [Heap.size_push]; exact Nat.le_succ _))
          unfold Builtin.«set.__init__» noKeywords Builtin.Frozenset.updateFrom
          generalize hPI : pyIter = PI
          wp_walk
          subst hPI
          obtain ⟨val, hk, h, hit, isz, few⟩ := pack
          refine wpAny_pyIter_list hl1 (wpAny_bind (wpAny_runValue (?_ : _)))
          have z := fill_new (A := A.in1.in1) (P := P) (tk1 := (withEmpty w s).toks) (h1 := (withEmpty w s).heap.push { cls := .type "list_iterator", data := .fields #[.ref l, .int 0 0] }) (Walks.list (prog := P) (w := w) hh3 _ l ne items).toS (fun _ _ q => q) rfl lS isz few val hk hu (fun b o e => Heap.get?_push_of_some _ e) ⟨⟨_, Heap.get?_push_size _ rfl, rfl, rfl⟩, hl1.push _⟩
          refine codeAny_mono z fun r s2 ⟨e, m⟩ => ?_
          subst e
          obtain ⟨_, h2, tk, e, T, k⟩ := m
          subst e
          exact wpAny_pure (wpAny_pure ⟨rfl, h2, tk, rfl, T, k⟩)
        · obtain ⟨⟨ocls, odict, odata, oslots⟩, g1, g2, n, g3⟩ := hl
          simp only at g2 g3
          subst g2 g3
          have lS : l < s.heap.objs.size := Heap.lt_size g1
          have g4 : (withEmpty w s).heap.get? l = some { cls := .type "tuple", dict := odict, data := .seq items n, slots := oslots } := Heap.get?_push_of_some _ g1
          have d1 := F.sub_tuple_set
          have d2 := F.sub_tuple_frozenset
          have d3 : (Value.type "tuple" == Value.type "dict") = false := by decide
          have hl1 : (withEmpty w s).heap.IsTuple l items := ⟨_, g4, rfl, n, rfl⟩
          have ne : l ≠ (withEmpty w s).heap.objs.size := Nat.ne_of_lt (Nat.lt_of_lt_of_le lS (by rw [Heap.size_push]; exact Nat.le_succ _))
          unfold Builtin.«set.__init__» noKeywords Builtin.Frozenset.updateFrom
          generalize hPI : pyIter = PI
          wp_walk
          subst hPI
          obtain ⟨val, hk, h, hit, isz, few⟩ := pack
          refine wpAny_pyIter_tuple hl1 (wpAny_bind (wpAny_runValue (?_ : _)))
          have z := fill_new (A := A.in1.in1) (P := P) (tk1 := (withEmpty w s).toks) (h1 := (withEmpty w s).heap.push { cls := .type "tuple_iterator", data := .fields #[.ref l, .int 0 0] }) (Walks.tuple (prog := P) (w := w) hh3 _ l ne items).toS (fun _ _ q => q) rfl lS isz few val hk hu (fun b o e => Heap.get?_push_of_some _ e) ⟨⟨_, Heap.get?_push_size _ rfl, rfl, rfl⟩, hl1.push _⟩
          refine codeAny_mono z fun r s2 ⟨e, m⟩ => ?_
          subst e
          obtain ⟨_, h2, tk, e, T, k⟩ := m
          subst e
          exact wpAny_pure (wpAny_pure ⟨rfl, h2, tk, rfl, T, k⟩)
      · cases r2 with
        | error e => exact hr2
        | ok fl2 =>
          cases fl2 with
          | ret r =>
            obtain ⟨rfl, h2, tk, rfl, T, k⟩ := hr2
            repeat (any_goals (first | assumption | wp_step))
            exact pack.2.2.1 _ _ T k
          | _ => exact hr2.elim
    | _ => exact hr.elim
end
end Py

/-! Own layer, part G: sets of cells, and sorted lists of cells, of any ints. -/
namespace Py
open PySem PySem.Spec PyProof.Rows L2 SrtO

/-- two ints as a cell -/
def cel (l : List Int) : Int × Int := (l.getD 0 0, l.getD 1 0)
/-- the row of a set at an address -/
def rowAt (L : List (Addr × List Int)) : Value → Addr × List Int
  | .ref a => (L.find? fun p => decide (p.1 = a)).getD (0, [])
  | _ => (0, [])
theorem rowAt_mem {L : List (Addr × List Int)} (one : ∀ p ∈ L, ∀ r ∈ L, p.1 = r.1 → p = r) {p : Addr × List Int} (hp : p ∈ L) : rowAt L (.ref p.1) = p := by
  show (L.find? fun q => decide (q.1 = p.1)).getD (0, []) = p
  cases e : L.find? fun q => decide (q.1 = p.1) with
  | none => exact absurd (List.find?_eq_none.mp e p hp) (by simp)
  | some q =>
    have e1 : q.1 = p.1 := of_decide_eq_true (List.find?_some (p := fun q : Addr × List Int => decide (q.1 = p.1)) e)
    exact one q (List.mem_of_find?_eq_some e) p hp e1
theorem pair_of_row {P : Program} {w : World} {h : Heap} {p : Addr × List Int} (t : L2.IsT P w h p.2 p.1) (hl : p.2.length = 2) : Srt.IsPair h (.ref p.1) (cel p.2).1 (cel p.2).2 := by
  obtain ⟨a, k⟩ := p
  match k, hl with
  | [x, y], _ =>
    obtain ⟨o, items, n, ho, hc, hd, hi⟩ := t
    generalize e : items.toList = vs at hi
    cases hi with
    | cons h1 hi =>
      cases hi with
      | cons h2 hi =>
        cases hi with
        | nil =>
          obtain ⟨t1, e1⟩ := Value.isInt_shape h1
          obtain ⟨t2, e2⟩ := Value.isInt_shape h2
          subst e1 e2
          refine ⟨a, o, t1, t2, n, rfl, ho, hc, ?_⟩
          have e3 : items = #[.int x t1, .int y t2] := by
            rw [← Array.toList_inj, e]
          rw [hd, e3]
          rfl
section
variable {P : Program} {w : World} {A : Around} {E : Value → Shared → Prop} {s : Shared} {a : Addr} {es : Array (Int × Value)} {ep : Nat} {t : SetTable}
/-! a set of any size walked (as the library's walk of a set of fewer than 4096) -/
theorem iter_big {Q : Value → Shared → Prop} (sat : SetAt s.heap a es ep t) (fit : t.fits es.size = true) (sml : es.size ≤ sizeLine) (r : Ris t.place.toList)
    (ldd : w.params.followText "set-order" = true ∨ t.led = true) (kk : ∀ s₂ I, SetIt P w s a es s₂ I → Q (.ref I) s₂) : wpAny (model P w) A (pyIter (.ref a)) Q E s := by
  obtain ⟨o, o1, ocl, o3⟩ := id sat
  have ty : s.TypeIs (.ref a) "set" := ⟨o, o1, ocl⟩
  have alt : a < s.heap.objs.size := Heap.lt_size o1
  refine wpAny_pyIter_slot ty F.slot_set_iter (wpAny_call_entry F.slot_set_iter ty entry_s_iter ?_ (F.args_set_iter_1 _))
  unfold Builtin.«frozenset.__iter__»
  refine wpAny_bind (m := Builtin.Frozenset.slot0 "__iter__" _) (wpAny_of_eq (a := a) (by rfl) ?_)
  refine wpAny_bind (m := Builtin.Frozenset.sizeOf a) ?_
  unfold Builtin.Frozenset.sizeOf
  refine wpAny_bind (wpAny_setEntries_of o1 o3 fit (wpAny_pure ?_))
  first | refine wpAny_bind (setDrawn_at sat fit ?_) | refine wpAny_bind (wpAny_bind (setDrawn_at sat fit ?_))
  cases eb : w.params.followText "set-order" with
  | true =>
    refine wp_if_neg (by simp) ?_
    first | refine wpAny_bind (wpAny_pure ?_) | refine wpAny_pure ?_
    refine wpAny_bind (wpAny_setEpoch_of o1 o3 fit ?_)
    refine wpAny_bind (wpAny_newObj_type (wpAny_pure ⟨_, rfl, "set_iterator", _, ⟨_, Heap.get?_push_size _ rfl, rfl⟩, slot_si_next.lookup, ?_⟩))
    have nea : a ≠ s.heap.objs.size := Nat.ne_of_lt alt
    have jp := pick_perm (w.params.setOrder a ep) es
    have le1 : ((pickOrder (w.params.setOrder a ep) es).toList.map (·.2)).length = (pickOrder (w.params.setOrder a ep) es).size := by rw [List.length_map, Array.length_toList]
    refine kk _ _ (SetIt.of (fun A' hA' => walks_text (P := P) (ep := ep) hA' nea fit eb) le1 (fun b u e => Heap.get?_push_of_some _ e) rfl rfl rfl (Nat.le_refl _) (fun b hb' => ?_) (jp.map _)
      (fun j v q => ?_) ⟨⟨_, Heap.get?_push_size _ rfl, rfl, rfl⟩, sat.at fun u e => Heap.get?_push_of_some _ e⟩)
    · rcases List.mem_cons.mp hb' with z | z
      · exact .inr (Nat.le_of_eq z.symm)
      · exact .inl (List.mem_singleton.mp z)
    · rw [List.getElem?_map, Array.getElem?_toList]; exact q
  | false =>
    have ledt : t.led = true := ldd.resolve_left (by rw [eb]; exact Bool.false_ne_true)
    cases edr : (!t.plain && decide (es.size > 1)) with
    | false =>
      refine wp_if_neg (by simp) ?_
      first | refine wpAny_bind (wpAny_pure ?_) | refine wpAny_pure ?_
      refine wpAny_bind (wpAny_setEpoch_of o1 o3 fit ?_)
      refine wpAny_bind (wpAny_newObj_type (wpAny_pure ⟨_, rfl, "set_iterator", _, ⟨_, Heap.get?_push_size _ rfl, rfl⟩, slot_si_next.lookup, ?_⟩))
      have nea : a ≠ s.heap.objs.size := Nat.ne_of_lt alt
      have le1 : (es.toList.map (·.2)).length = es.size := by rw [List.length_map, Array.length_toList]
      refine kk _ _ (SetIt.of (fun A' hA' => walks_led (P := P) (ep := ep) hA' nea fit r eb edr ledt) le1 (fun b u e => Heap.get?_push_of_some _ e) rfl rfl rfl (Nat.le_refl _) (fun b hb' => ?_) (List.Perm.refl _)
        (fun j v q => ?_) ⟨⟨_, Heap.get?_push_size _ rfl, rfl, rfl⟩, sat.at fun u e => Heap.get?_push_of_some _ e⟩)
      · rcases List.mem_cons.mp hb' with z | z
        · exact .inr (Nat.le_of_eq z.symm)
        · exact .inl (List.mem_singleton.mp z)
      · rw [List.getElem?_map, Array.getElem?_toList]; exact q
    | true =>
      refine wp_if_pos rfl ?_
      refine wpAny_bind (drawOrder_at _ _ _ _ (Nat.le_of_eq List.length_range) fun ys d jp => ?_)
      have hyl : ys.length = es.size := by rw [jp.length_eq, List.length_range]
      have hsl : (ys.map fun (k : Nat) => rawInt (k : Int)).length ≤ sizeLine := by rw [List.length_map, hyl]; exact sml
      first | refine wpAny_bind (wpAny_newTuple ?_ hsl) | refine wpAny_newTuple ?_ hsl
      have o1b : (s.heap.push { cls := .type "tuple", data := .seq (ys.map fun (k : Nat) => rawInt (k : Int)).toArray }).get? a = some o := Heap.get?_push_of_some _ o1
      refine wpAny_bind (wpAny_setEpoch_of o1b o3 fit ?_)
      refine wpAny_bind (wpAny_newObj_type (wpAny_pure ⟨_, rfl, "set_iterator", _, ⟨_, Heap.get?_push_size _ rfl, rfl⟩, slot_si_next.lookup, ?_⟩))
      have hsz2 : (s.heap.push { cls := .type "tuple", data := .seq (ys.map fun (k : Nat) => rawInt (k : Int)).toArray }).objs.size = s.heap.objs.size + 1 := size_push' _ _
      have nea : a ≠ (s.heap.push { cls := .type "tuple", data := .seq (ys.map fun (k : Nat) => rawInt (k : Int)).toArray }).objs.size := by rw [hsz2]; exact Nat.ne_of_lt (Nat.lt_succ_of_lt (Heap.lt_size o1))
      have hpe : s.heap.objs.size ≠ (s.heap.push { cls := .type "tuple", data := .seq (ys.map fun (k : Nat) => rawInt (k : Int)).toArray }).objs.size := by rw [hsz2]; omega
      have hys : ∀ j ∈ ys, j < es.size := fun j hj => List.mem_range.mp (jp.mem_iff.mp hj)
      have le1 : (ys.map fun q => ((es[q]?).map (·.2)).getD Value.none).length = ys.length := List.length_map _
      have hpm : (ys.map fun q => ((es[q]?).map (·.2)).getD Value.none).Perm (es.toList.map (·.2)) := by
        rw [← range_map es]
        exact jp.map _
      refine kk _ _ (SetIt.of (fun A' hA' => walks_drawn (P := P) (w := w) (ep := ep) (t := t) hA' nea hpe fit hys) le1 (fun b u e => Heap.get?_push_of_some _ (Heap.get?_push_of_some _ e)) rfl rfl rfl ?_ (fun b hb' => ?_) hpm
        (fun j v q => ?_) ⟨⟨_, Heap.get?_push_size _ rfl, rfl, rfl⟩, sat.at fun u e => Heap.get?_push_of_some _ (Heap.get?_push_of_some _ e), Heap.get?_push_of_some _ (Heap.get?_push_size _ rfl)⟩)
      · rw [hsz2]; exact Nat.le_succ _
      · rcases List.mem_cons.mp hb' with z | z
        · exact .inr (by rw [z, hsz2]; exact Nat.le_succ _)
        · rcases List.mem_cons.mp z with z | z
          · exact .inl z
          · exact .inr (Nat.le_of_eq (List.mem_singleton.mp z).symm)
      · rw [List.getElem?_map]
        cases hy : ys[j]? with
        | none => rw [hy] at q; cases q
        | some k =>
          rw [hy] at q
          have q' : (es[k]?).map (·.2) = some v := q
          show some (((es[k]?).map (·.2)).getD Value.none) = some v
          rw [q'] <;> rfl

theorem collect_big {Q : List Value → Shared → Prop} (nh : A.handled = none) (sat : SetAt s.heap a es ep t) (fit : t.fits es.size = true) (sml : es.size ≤ sizeLine) (r : Ris t.place.toList)
    (ldd : w.params.followText "set-order" = true ∨ t.led = true)
    (kk : ∀ s' out, (∀ b o, s.heap.get? b = some o → s'.heap.get? b = some o) → s.heap.objs.size ≤ s'.heap.objs.size → s'.gens = s.gens → s'.os = s.os → out.Perm (es.toList.map (·.2)) → Q out s') :
    wpAny (model P w) A (collect (.ref a)) Q E s := by
  obtain ⟨o, o1, ocl, o3⟩ := id sat
  have alt : a < s.heap.objs.size := Heap.lt_size o1
  have sna : s.heap.objs.size ≠ a := Nat.ne_of_gt alt
  unfold collect
  refine wpAny_bind (wpAny_runValue (codeAny_builtin F.entry_proto_collect ?_))
  rw [Around.under_plainId F.plain_proto_collect _]
  show wpAny _ A.in1 (newList [] >>= fun l => again (.builtin "list.__iadd__" ⟨[l, .ref a], []⟩)) _ _ s
  refine wpAny_bind (wpAny_newObj_type ?_)
  refine wpAny_pure ⟨plainId_quiet F.plain_list_iadd _, codeAny_builtin F.entry_list_iadd ?_⟩
  rw [Around.under_plainId F.plain_list_iadd _]
  have sat0 : (s.heap.push { cls := .type "list", data := .seq ([] : List Value).toArray }).get? s.heap.objs.size = some { cls := .type "list", data := .seq ([] : List Value).toArray } := Heap.get?_push_size _ rfl
  have sat1 : SetAt (s.heap.push { cls := .type "list", data := .seq ([] : List Value).toArray }) a es ep t := sat.at fun u e => Heap.get?_push_of_some _ e
  have zz1 : (s.heap.push { cls := .type "list", data := .seq ([] : List Value).toArray }).objs.size = s.heap.objs.size + 1 := size_push' _ _
  show wpAny _ A.in1 (Builtin.List.listExtendWith (.ref s.heap.objs.size) (.ref a) (.ref s.heap.objs.size)) _ _ _
  unfold Builtin.List.listExtendWith
  refine wpAny_bind (wpAny_typeOf (T := "set") ⟨o, Heap.get?_push_of_some _ o1, ocl⟩ ?_)
  have q1 : Builtin.List.listSameRef (.ref s.heap.objs.size) (.ref a) = false := by simp [Builtin.List.listSameRef, sna]
  have q2 : (Value.type "set" == Value.type "list") = false := by decide
  have q3 : (Value.type "set" == Value.type "tuple") = false := by decide
  simp only [q1, q2, q3, Bool.or_false, Bool.false_eq_true, if_false]
  refine wpAny_bind (iter_big (s := { s with heap := s.heap.push { cls := .type "list", data := .seq ([] : List Value).toArray } }) sat1 fit sml r ldd fun s₂ I itt => ?_)
  obtain ⟨fp, St, out, Pv, k2, g2, o2, t2, jI, jfp, jp, jW, jPv, jst⟩ := itt
  have jI2 : s.heap.objs.size + 1 ≤ I := by rw [← zz1]; exact jI
  have sNf : s.heap.objs.size ∉ fp := fun mm => by
    rcases jfp _ mm with z | z
    · exact sna z
    · have z' : s.heap.objs.size + 1 ≤ s.heap.objs.size := by rw [← zz1]; exact z
      omega
  have o1b := k2 a o (Heap.get?_push_of_some _ o1)
  have ty2 : s₂.TypeIs (.ref a) "set" := ⟨o, o1b, ocl⟩
  refine wpAny_bind (wpAny_holding ?_)
  unfold Builtin.List.listLengthHint
  refine wpAny_bind (wpAny_specialOf ty2 F.slot_set_len.lookup ?_)
  (generalize eid : ("set.__len__" : String) = idz; (fail_if_success (clear eid idz)); wp_delta; rw [show splitId idz = some ("set", "__len__") from by subst eid; decide +kernel]; subst eid)
  refine wpAny_bind (wpAny_isInstance (b := true) ty2 sub_set_self ?_)
  show wpAny _ A.in1 (typeOf (.ref a) >>= _) _ _ _
  refine wpAny_bind (wpAny_typeOf ty2 ?_)
  refine wpAny_pure ?_
  show wpAny _ A.in1 (rule "list.extend.makes-room" >>= fun _ => Builtin.List.listTouch (.ref s.heap.objs.size) >>= fun _ =>
    again (.builtin "list.extend.loop" ⟨[.ref s.heap.objs.size, .ref I, .ref s.heap.objs.size], []⟩)) _ _ _
  refine wpAny_bind (wpAny_rule ?_)
  have sat2 := k2 _ _ sat0
  refine wpAny_bind ?_
  show wpAny _ A.in1 (updateSeq s.heap.objs.size (·.push .none) >>= fun _ => updateSeq s.heap.objs.size (·.pop)) _ _ _
  refine wpAny_bind (wpAny_updateSeq sat2 rfl ?_)
  have sat3 := Heap.get?_update_self (Obj.mapSeq (·.push Value.none)) sat2 rfl
  refine wpAny_updateSeq sat3 rfl ?_
  have sat4 := Heap.get?_update_self (Obj.mapSeq (·.pop)) sat3 rfl
  have others : ∀ b u, b ≠ s.heap.objs.size → s₂.heap.get? b = some u → ((s₂.heap.update s.heap.objs.size (Obj.mapSeq (·.push Value.none))).update s.heap.objs.size (Obj.mapSeq (·.pop))).get? b = some u :=
    fun b u eb e => (Heap.get?_update_other _ _ (Ne.symm eb)).trans ((Heap.get?_update_other _ _ (Ne.symm eb)).trans e)
  have small : out.length ≤ sizeLine := by
    rw [jp.length_eq, List.length_map, Array.length_toList]
    exact sml
  have WW := jW A.in1 nh
  have jst2 : St 0 ((s₂.heap.update s.heap.objs.size (Obj.mapSeq (·.push Value.none))).update s.heap.objs.size (Obj.mapSeq (·.pop))) :=
    WW.frame 0 _ _ jst fun b eb u e => others b u (fun z => sNf (z ▸ eb)) e
  refine wpAny_pure ⟨plainId_quiet F.plain_extend_loop _, codeAny_extend_loopS WW.toS small _ sNf _ out.length 0 _ _ _ rfl (Nat.zero_le _) jst2 sat4 (ItemsOf.nil Pv) fun s' acc' c' mm satE acce => ?_⟩
  show wpAny _ A (load s.heap.objs.size >>= _) _ _ s'
  refine wpAny_bind (wpAny_load satE ?_)
  have eout := items_out acce jPv
  refine wpAny_pure ?_
  show Q acc'.toList s'
  rw [eout]
  refine kk s' out (fun b u e => ?_) (Nat.le_of_lt (Heap.lt_size satE)) (Eq.trans mm.gens g2) (Eq.trans mm.os o2) jp
  have bl1 : b < s.heap.objs.size := Heap.lt_size e
  refine mm.heap b u (fun z => ?_) (others b u (Nat.ne_of_lt bl1) (k2 b u (Heap.get?_push_of_some _ e)))
  rcases List.mem_cons.mp z with z | z
  · first
      | exact absurd bl1 (by rw [z]; exact Nat.lt_irrefl _)
      | exact absurd bl1 (by rw [z]; exact Nat.not_lt_of_le (Nat.le_of_succ_le jI2))
  · have z := List.mem_singleton.mp z
    first
      | exact absurd bl1 (by rw [z]; exact Nat.lt_irrefl _)
      | exact absurd bl1 (by rw [z]; exact Nat.not_lt_of_le (Nat.le_of_succ_le jI2))

end
section
variable {P : Program} {w : World} {A : Around} {E : Value → Shared → Prop} {s : Shared}
/-- sorted(a set of cells) -/
theorem sorted_cells {a : Addr} {L : List (Addr × List Int)} {es : Array (Int × Value)} {ep : Nat} {t : SetTable} {Q : Value → Shared → Prop} (R : SB P w s.heap a L es ep t) (hh : A.handled = none) (h2 : ∀ p ∈ L, p.2.length = 2)
    (hQ : ∀ (h' : Heap) (g : Array GenState) (d : Drawn) (tk : Nat) (q : Addr) (out : List (Addr × List Int)), (∀ b o, s.heap.get? b = some o → h'.get? b = some o) → g = s.gens → s.heap.objs.size ≤ q →
      (∃ c, h'.get? q = some (seqObj "list" (out.map fun p => Value.ref p.1).toArray c)) → out.Perm L → out.Pairwise (fun p r => lexB (cel r.2) (cel p.2) = false) → Q (.ref q) { s with heap := h', gens := g, drawn := d, toks := tk }) :
    wpAny (model P w) A (call (.builtin "sorted") [.ref a]) Q E s := by
  obtain ⟨ob, hob, hex, hda⟩ := R.obj
  have nsz := R.size
  have nfew := R.few
  have uniq : ∀ p ∈ L, ∀ r ∈ L, p.1 = r.1 → p = r := by
    intro p hp r hr e
    have tp := R.tup p hp
    rw [e] at tp
    exact Prod.ext e (tp.inj (R.tup r hr))
  refine Calls.call_function_entry kind_sorted plain_sorted entry_sorted (args_sorted1 _) ?_
  unfold Builtin.«sorted»
  refine wpAny_bind (m := checkCount "sorted" 1 1 _) (wpAny_pure ?_)
  refine wpAny_bind (collect_big (A := A.in1) hh ⟨ob, hob, hex.1, hda⟩ R.fits (by rw [sizeLine_eq]; omega) R.tab.up R.led ?_)
  intro s1 met kp szle gens1 os1 perm1
  have perm2 : met.Perm (L.map fun p => Value.ref p.1) := by
    refine perm1.trans (List.Perm.of_eq ?_)
    rw [R.row]
    simp only [rowsOf, List.map_map]
    rfl
  have len : met.length = L.length := by rw [perm2.length_eq, List.length_map]
  have isp : ∀ h', (∀ b o, s.heap.get? b = some o → h'.get? b = some o) → ∀ v ∈ met, Srt.IsPair h' v (cel (rowAt L v).2).1 (cel (rowAt L v).2).2 := by
    intro h' kh v hv
    obtain ⟨p, hp, rfl⟩ := List.mem_map.mp (perm2.mem_iff.mp hv)
    rw [rowAt_mem uniq hp]
    exact pair_of_row (isT_keep (R.tup p hp) kh) (h2 p hp)
  have bound : met.length ≤ sizeLine := by rw [sizeLine_eq]; omega
  refine wpAny_bind (wpAny_newList ?_ bound)
  have hnew : (s1.heap.push (seqObj "list" met.toArray 0)).get? s1.heap.objs.size = some (seqObj "list" met.toArray 0) := Heap.get?_push_size _ rfl
  have kp2 : ∀ b o, s.heap.get? b = some o → (s1.heap.push (seqObj "list" met.toArray 0)).get? b = some o := fun b o e => Heap.get?_push_of_some _ (kp b o e)
  refine wpAny_bind (wpAny_holding (wpAny_call_entry slot_list_sort ⟨_, hnew, rfl⟩ entry_list_sort
    (list_sort_ord (s := { s1 with heap := s1.heap.push (seqObj "list" met.toArray 0) }) (swo_lex fun v => cel (rowAt L v).2) hnew bound (fun two => pairs_sortableO (k := fun v => cel (rowAt L v).2) (by omega) (fun v hv => isp _ kp2 v hv) fun o e c => ?_) fun out hs hb => ⟨_, rfl, ?_⟩) (args_list_sort _)))
  · have e' := e.symm.trans hnew
    cases e'
    exact absurd (Value.type.inj c) (by decide)
  · have perm3 : out.Perm met := hb.perm
    have e1 : (out.map (rowAt L)).map (fun p => Value.ref p.1) = out := by
      rw [List.map_map]
      refine (List.map_congr_left fun v hv => ?_).trans (List.map_id out)
      obtain ⟨p, hp, rfl⟩ := List.mem_map.mp (perm2.mem_iff.mp (perm3.mem_iff.mp hv))
      show Value.ref (rowAt L (.ref p.1)).1 = _
      rw [rowAt_mem uniq hp] <;> rfl
    have e2 : (L.map fun p => Value.ref p.1).map (rowAt L) = L := by
      rw [List.map_map]
      refine (List.map_congr_left fun p hp => ?_).trans (List.map_id L)
      exact rowAt_mem uniq hp
    obtain ⟨c, hc⟩ := sortedHeap_at (vs := met) (out := out.toArray) hnew
    refine wpAny_pure ⟨_, rfl, ?_⟩
    have eq : ({ s1 with heap := sortedHeap (s1.heap.push (seqObj "list" met.toArray 0)) s1.heap.objs.size met out.toArray } : Shared) = { s with heap := sortedHeap (s1.heap.push (seqObj "list" met.toArray 0)) s1.heap.objs.size met out.toArray, gens := s1.gens, drawn := s1.drawn, toks := s1.toks } := by
      cases s1
      cases s
      cases os1
      rfl
    rw [eq]
    refine hQ _ s1.gens s1.drawn s1.toks s1.heap.objs.size (out.map (rowAt L)) (fun b o e => ?_) gens1 szle ⟨c, by rw [e1]; exact hc⟩ ?_ ?_
    · have lt := Heap.lt_size (kp b o e)
      rw [sortedHeap_old (Nat.ne_of_lt lt) (by rw [size_push']; exact Nat.lt_succ_of_lt lt)]
      exact kp2 b o e
    · have z := (perm3.trans perm2).map (rowAt L)
      rw [e2] at z
      exact z
    · rw [List.pairwise_map]
      exact hs.imp fun h => h
end
/-- the set at a, without the tuples themselves -/
structure SB0 (P : Program) (w : World) (h : Heap) (a : Addr) (L : List (Addr × List Int)) : Prop where
  ex : ∃ (es : Array (Int × Value)) (ep : Nat) (t : SetTable), ∀ h2 : Heap, (∀ o, h.get? a = some o → h2.get? a = some o) → (∀ p ∈ L, L2.IsT P w h2 p.2 p.1) → SB P w h2 a L es ep t
  th : ∃ o, h.get? a = some o
  few : L.length ≤ 9800
  dif : (L.map Prod.snd).Nodup
def SetBO (P : Program) (w : World) (a : Addr) (L : List (Addr × List Int)) : HO := .ext fun h => SB0 P w h a L
theorem SB.low {P : Program} {w : World} {h : Heap} {a : Addr} {L : List (Addr × List Int)} {es : Array (Int × Value)} {ep : Nat} {t : SetTable} (R : SB P w h a L es ep t) : SB0 P w h a L :=
  ⟨⟨es, ep, t, fun _ ha ht => R.move ha ht⟩, (by
    obtain ⟨o, o1, _⟩ := R.obj
    exact ⟨o, o1⟩), R.few, R.dif⟩
theorem setBO_new {P : Program} {w : World} {H : Hp} {h : Heap} {a : Addr} {L : List (Addr × List Int)} (R : SB0 P w h a L) : ObjOk P w H h a (SetBO P w a L) := by
  refine ⟨R, R.th, fun h1 h2 p k => ?_⟩
  have p' : SB0 P w h1 a L := p
  obtain ⟨es, ep, t, f⟩ := p'.ex
  obtain ⟨o, o1⟩ := p'.th
  exact ⟨⟨es, ep, t, fun h3 ha ht => f h3 (fun o e => ha o (k o e)) ht⟩, ⟨o, k o o1⟩, p'.few, p'.dif⟩
/-- set(xs) -/
def rSetB (K : PySem.W.Frag) (P : Program) (w : World) : List V → Hp → VK → Prop := fun xs H Q => ∃ (l : Addr) (ks : List (Addr × List Int)), xs = [V.ref l] ∧ (SqL K H l (ks.map fun p => V.ref p.1) ∨ SqT K H l (ks.map fun p => V.ref p.1)) ∧ (∀ p ∈ ks, SqT K H p.1 (p.2.map V.int)) ∧ Few ks ∧
  ∀ a L, H a = none → (∀ p ∈ L, p ∈ ks) → (∀ p ∈ ks, p.2 ∈ L.map Prod.snd) → (L.map Prod.snd).Nodup → Q (.ref a) (upd H a (SetBO P w a L))
theorem cr_setB {X : Cx} (hc : X.calm = true) (hu : X.A.units + 64 < cLine) : CallR X (.type "set") (rSetB X.K X.prog X.w) := by
  intro pins s σ H xs us Q I r ⟨l, ks, e, hl, hk, hf, q⟩
  subst e
  rw [Vals.ref1 r]
  have src : ∃ items : Array Value, (s.heap.IsList l items ∨ s.heap.IsTuple l items) ∧ items.toList = ks.map fun p => Value.ref p.1 := by
    rcases hl with hl | hl
    · obtain ⟨its, rv, pl, _⟩ := I.list hl
      exact ⟨its.toArray, .inl pl.isList, by simpa using refs_of_vals rv⟩
    · obtain ⟨its, rv, pl, _⟩ := I.tuple hl
      exact ⟨its.toArray, .inr pl, by simpa using refs_of_vals rv⟩
  obtain ⟨items, src, hit⟩ := src
  have hn : H s.heap.objs.size = none := I.hok.fresh (Nat.le_refl _)
  refine call_setB (P := X.prog) (w := X.w) ks (I.ok.hd hc) src hit (fun p hp => I.isT (hk p hp)) hf (by omega) fun h2 tk ⟨L, es, ep, t, R, g⟩ k => ?_
  refine ⟨.ref s.heap.objs.size, upd H s.heap.objs.size (SetBO X.prog X.w s.heap.objs.size L), I.laid (t' := tk) k (Nat.le_refl _) (setBO_new R.low), rfl, q _ L hn (fun p hp => List.mem_of_mem_take (g.sub p hp)) (fun p hp => g.all p ?_) R.dif⟩
  rw [List.take_length]
  exact hp
/-- sorted(set(..)) -/
def rSortSetC (K : PySem.W.Frag) (P : Program) (w : World) : List V → Hp → VK → Prop := fun vs H Q => ∃ a L, vs = [V.ref a] ∧ H a = some (SetBO P w a L) ∧ (∀ p ∈ L, SqT K H p.1 (p.2.map V.int) ∧ p.2.length = 2) ∧
  ∀ (out : List (Addr × List Int)) (q : Addr), out.Perm L → (out.map (·.2)).Nodup → out.Pairwise (fun p r => lexB (cel r.2) (cel p.2) = false) → H q = none → Q (.ref q) (upd H q (.lst (out.map fun p => V.ref p.1)))
theorem cr_sortSetC {X : Cx} (hc : X.calm = true) : CallR X (.builtin "sorted") (rSortSetC X.K X.prog X.w) := by
  intro pins s σ H vs us Q I r ⟨a, L, e, ha, hk, q⟩
  subst e
  have R0 : SB0 X.prog X.w s.heap a L := (I.hok a _ ha).1
  obtain ⟨es, ep, t, R1⟩ := R0.ex
  have R := R1 s.heap (fun _ e => e) fun p hp => I.isT (hk p hp).1
  rw [Vals.ref1 r]
  refine sorted_cells R (I.ok.hd hc) (fun p hp => (hk p hp).2) fun h' g d tk p out kp eg hp ⟨c, hg⟩ pm pw => ?_
  have hn : H p = none := I.hok.fresh hp
  have hz : (out.map fun p => V.ref p.1).length ≤ sizeLine := by
    rw [List.length_map, pm.length_eq, sizeLine_eq]
    have := R.few
    omega
  refine ⟨.ref p, upd H p (.lst (out.map fun p => V.ref p.1)), ?_, rfl, q out p pm ((pm.map _).nodup_iff.mpr R.dif) pw hn⟩
  exact I.call (ch := []) (Un.laid kp hp hn) (I.hok.laid kp hp ⟨hz, _, c, vals_of_refs out, hg⟩) (by rw [eg]; exact I.bare) (fun _ z => nomatch z)

/-! ### rising lists -/
theorem ltC_iff {a b : Int × Int} : ltC a b = true ↔ (a.1 < b.1 ∨ (a.1 = b.1 ∧ a.2 < b.2)) := decide_eq_true_iff
theorem ltC_tri (a b : Int × Int) : ltC a b = true ∨ a = b ∨ ltC b a = true := by
  rw [ltC_iff, ltC_iff, Prod.ext_iff]
  omega
theorem ltC_trans {a b c : Int × Int} (h1 : ltC a b = true) (h2 : ltC b c = true) : ltC a c = true := by
  rw [ltC_iff] at *
  omega
theorem ltC_irrefl (a : Int × Int) : ¬ ltC a a = true := by
  rw [ltC_iff]
  omega
theorem lexB_ltC {a b : Int × Int} (h : lexB b a = false) (ne : a ≠ b) : ltC a b = true := by
  have h1 := lexB_no.mp h
  rcases ltC_tri a b with z | z | z
  · exact z
  · exact absurd z ne
  · exact absurd (ltC_iff.mp z) h1
/-- strictly rising -/
abbrev Up (xs : List (Int × Int)) : Prop := xs.Pairwise fun a b => ltC a b = true
theorem mem_insC (x c : Int × Int) : ∀ xs, c ∈ insC x xs ↔ c = x ∨ c ∈ xs
  | [] => by simp [insC]
  | y :: r => by
    unfold insC
    split
    · simp
    · split
      · next e => subst e; simp
      · rw [List.mem_cons, mem_insC x c r, List.mem_cons]
        constructor
        · rintro (h | h | h)
          · exact .inr (.inl h)
          · exact .inl h
          · exact .inr (.inr h)
        · rintro (h | h | h)
          · exact .inr (.inl h)
          · exact .inl h
          · exact .inr (.inr h)
theorem up_insC (x : Int × Int) : ∀ xs, Up xs → Up (insC x xs)
  | [], _ => List.pairwise_singleton _ _
  | y :: r, h => by
    obtain ⟨h1, h2⟩ := List.pairwise_cons.mp h
    unfold insC
    split
    · next lt =>
      refine List.pairwise_cons.mpr ⟨fun z hz => ?_, h⟩
      rcases List.mem_cons.mp hz with e | e
      · rw [e]; exact lt
      · exact ltC_trans lt (h1 z e)
    · next lt =>
      split
      · exact h
      · next ne =>
        refine List.pairwise_cons.mpr ⟨fun z hz => ?_, up_insC x r h2⟩
        rcases (mem_insC x z r).mp hz with e | e
        · rw [e]
          rcases ltC_tri y x with q | q | q
          · exact q
          · exact absurd q.symm ne
          · exact absurd q lt
        · exact h1 z e
theorem mem_rise (c : Int × Int) : ∀ xs, c ∈ rise xs ↔ c ∈ xs
  | [] => Iff.rfl
  | x :: xs => by
    show c ∈ insC x (rise xs) ↔ _
    rw [mem_insC, mem_rise c xs, List.mem_cons]
theorem up_rise : ∀ xs, Up (rise xs)
  | [] => .nil
  | x :: xs => up_insC x _ (up_rise xs)
theorem up_eq : ∀ {a b : List (Int × Int)}, Up a → Up b → (∀ c, c ∈ a ↔ c ∈ b) → a = b
  | [], [], _, _, _ => rfl
  | [], y :: b, _, _, h => absurd ((h y).mpr List.mem_cons_self) (by simp)
  | x :: a, [], _, _, h => absurd ((h x).mp List.mem_cons_self) (by simp)
  | x :: a, y :: b, ha, hb, h => by
    obtain ⟨a1, a2⟩ := List.pairwise_cons.mp ha
    obtain ⟨b1, b2⟩ := List.pairwise_cons.mp hb
    have e : x = y := by
      rcases List.mem_cons.mp ((h x).mp List.mem_cons_self) with z | z
      · exact z
      · rcases List.mem_cons.mp ((h y).mpr List.mem_cons_self) with q | q
        · exact q.symm
        · exact absurd (ltC_trans (a1 y q) (b1 x z)) (ltC_irrefl x)
    subst e
    refine congrArg _ (up_eq a2 b2 fun c => ⟨fun hc => ?_, fun hc => ?_⟩)
    · rcases List.mem_cons.mp ((h c).mp (List.mem_cons_of_mem _ hc)) with z | z
      · rw [z] at hc
        exact absurd (a1 x hc) (ltC_irrefl x)
      · exact z
    · rcases List.mem_cons.mp ((h c).mpr (List.mem_cons_of_mem _ hc)) with z | z
      · rw [z] at hc
        exact absurd (b1 x hc) (ltC_irrefl x)
      · exact z
theorem len_insC (x : Int × Int) : ∀ xs, (insC x xs).length ≤ xs.length + 1
  | [] => Nat.le_refl _
  | y :: r => by
    unfold insC
    split
    · exact Nat.le_refl _
    · split
      · exact Nat.le_succ _
      · exact Nat.succ_le_succ (len_insC x r)
theorem len_rise : ∀ xs, (rise xs).length ≤ xs.length
  | [] => Nat.le_refl _
  | x :: xs => Nat.le_trans (len_insC x _) (Nat.succ_le_succ (len_rise xs))

/-! ### the set as a value: its cells, rising -/
def RowOk (H : Hp) (p : Addr × List Int) : Prop := H p.1 = some (.tup (p.2.map V.int)) ∧ p.2.length = 2
def SetRep (P : Program) (w : World) (a : List (Int × Int)) (H : Hp) (v : V) : Prop := Up a ∧ ∃ (p : Addr) (L : List (Addr × List Int)), v = .ref p ∧ H p = some (SetBO P w p L) ∧ (∀ q ∈ L, RowOk H q) ∧ ∀ c, c ∈ a ↔ c ∈ L.map fun q => cel q.2
def rSet (P : Program) (w : World) : Rp (List (Int × Int)) where
  rep a H v := SetRep P w a H v
  mono e := fun ⟨u, p, L, h, q, r, m⟩ => ⟨u, p, L, h, e p _ q, fun x hx => ⟨e _ _ (r x hx).1, (r x hx).2⟩, m⟩
theorem rows_of {F : Hp} : ∀ {xs : List (Int × Int)} {vs : List V}, RepL rC F xs vs → ∃ ks : List (Addr × List Int), vs = ks.map (fun p => V.ref p.1) ∧ xs = ks.map (fun p => cel p.2) ∧ ∀ p ∈ ks, RowOk F p
  | _, _, .nil => ⟨[], rfl, rfl, fun _ h => absurd h (by simp)⟩
  | _, _, .cons (a := a) (v := v) ⟨p, ws, e, h, v1, ws2, e1, r1, v2, e2, r2⟩ t => by
    obtain ⟨ks, f1, f2, f3⟩ := rows_of t
    refine ⟨(p, [a.1, a.2]) :: ks, by rw [e, f1] <;> rfl, by rw [f2] <;> rfl, fun q hq => ?_⟩
    rcases List.mem_cons.mp hq with z | z
    · subst z
      refine ⟨?_, rfl⟩
      show F p = _
      rw [h, e1, e2, show v1 = V.int a.1 from r1, show v2 = V.int a.2 from r2] <;> rfl
    · exact f3 q z
theorem rows_rep {F : Hp} : ∀ (ks : List (Addr × List Int)), (∀ p ∈ ks, RowOk F p) → RepL rC F (ks.map fun p => cel p.2) (ks.map fun p => V.ref p.1)
  | [], _ => .nil
  | (a, l) :: ks, h => .cons (by
    obtain ⟨h1, h2⟩ := h _ List.mem_cons_self
    match l, h1, h2 with
    | [x, y], h1, _ => exact ⟨a, _, rfl, h1, .int x, _, rfl, rfl, .int y, rfl, rfl⟩) (rows_rep ks fun p hp => h p (List.mem_cons_of_mem _ hp))
theorem cel_inj {a b : List Int} (ha : a.length = 2) (hb : b.length = 2) (h : cel a = cel b) : a = b := by
  match a, b, ha, hb with
  | [x, y], [z, t], _, _ =>
    have h1 : x = z := congrArg Prod.fst h
    have h2 : y = t := congrArg Prod.snd h
    rw [h1, h2]
theorem nodup_len {α : Type} [DecidableEq α] : ∀ {l m : List α}, l.Nodup → (∀ x ∈ l, x ∈ m) → l.length ≤ m.length
  | [], _, _, _ => Nat.zero_le _
  | x :: l, m, h, k => by
    obtain ⟨h1, h2⟩ := List.nodup_cons.mp h
    have hx := k x List.mem_cons_self
    have z := nodup_len (m := m.erase x) h2 fun y hy => (List.mem_erase_of_ne fun e => h1 (by rw [← e]; exact hy)).mpr (k y (List.mem_cons_of_mem _ hy))
    rw [List.length_erase_of_mem hx] at z
    have := List.length_pos_of_mem hx
    rw [List.length_cons]
    omega
theorem few_of {ks : List (Addr × List Int)} (h : (rise (ks.map fun p => cel p.2)).length ≤ 9800) (two : ∀ p ∈ ks, p.2.length = 2) : Few ks := fun L sub nd => by
  have n1 : (L.map fun p => cel p.2).Nodup := by
    have n2 : L.Pairwise fun p r => p.2 ≠ r.2 := List.pairwise_map.mp nd
    exact List.pairwise_map.mpr (n2.imp_of_mem fun {p r} hp hr z e => z (cel_inj (two p (sub p hp)) (two r (sub r hr)) e))
  have s1 : (L.map fun p => cel p.2) ⊆ rise (ks.map fun p => cel p.2) := fun c hc => by
    obtain ⟨p, hp, e⟩ := List.mem_map.mp hc
    exact (mem_rise c _).mpr (List.mem_map.mpr ⟨p, sub p hp, e⟩)
  have z := nodup_len n1 s1
  rw [List.length_map] at z
  omega
theorem dSetG {K : PySem.W.Frag} {P : Program} {w : World} {xs : List (Int × Int)} {p : Addr} {ws : List V} {F H : Hp} {Q : VK} (hl : (rise xs).length ≤ 9800) (e : Same F H) (hp : SqL K H p ws ∨ SqT K H p ws) (r : RepL rC F xs ws)
    (h : ∀ v F' H', Ext F H F' H' → (rSet P w).rep (rise xs) F' v → Q v H') : rSetB K P w [.ref p] H Q := by
  obtain ⟨ks, f1, f2, f3⟩ := rows_of r
  refine ⟨p, ks, rfl, f1 ▸ hp, fun q hq => .inl (.inl (e _ _ (f3 q hq).1)), few_of (f2 ▸ hl) (fun q hq => (f3 q hq).2), fun a L hn hs hall _ => ?_⟩
  have x := Ext.new (o := SetBO P w a L) e hn
  refine h _ _ _ x ⟨up_rise xs, a, L, rfl, upd_same, fun q hq => ⟨x.f _ _ (f3 q (hs q hq)).1, (f3 q (hs q hq)).2⟩, fun c => ?_⟩
  rw [mem_rise, f2]
  constructor
  · intro hc
    obtain ⟨q, hq, e3⟩ := List.mem_map.mp hc
    obtain ⟨q2, hq2, e4⟩ := List.mem_map.mp (hall q hq)
    exact List.mem_map.mpr ⟨q2, hq2, by rw [← e3]; exact congrArg cel e4⟩
  · intro hc
    obtain ⟨q, hq, e3⟩ := List.mem_map.mp hc
    exact List.mem_map.mpr ⟨q, hs q hq, e3⟩
theorem dSetL {K : PySem.W.Frag} {P : Program} {w : World} : DC (rSetB K P w) (t1 (rL rC)) (rSet P w) fun xs => chk ((rise xs).length ≤ 9800) (rise xs) := fun xs vs F H Q e ⟨v, ev, p, ws, e2, hp, r⟩ h => by
  obtain ⟨hl, h⟩ := wpR_chk h
  rw [ev, e2]
  exact dSetG hl e (.inl (.inl (.inl (e p _ hp)))) r h
theorem dSetT {K : PySem.W.Frag} {P : Program} {w : World} : DC (rSetB K P w) (t1 (rT rC)) (rSet P w) fun xs => chk ((rise xs).length ≤ 9800) (rise xs) := fun xs vs F H Q e ⟨v, ev, p, ws, e2, hp, r⟩ h => by
  obtain ⟨hl, h⟩ := wpR_chk h
  rw [ev, e2]
  exact dSetG hl e (.inr (.inl (.inl (e p _ hp)))) r h
theorem dSortSet {K : PySem.W.Frag} {P : Program} {w : World} : DF (rSortSetC K P w) (t1 (rSet P w)) (fun ys => oLi (tl rC) ys) fun a => .ok a := fun a vs F H Q e ⟨v, ev, u, p, L, e2, hp, hr, hm⟩ h => by
  refine ⟨p, L, by rw [ev, e2], e p _ hp, fun q hq => ⟨.inl (.inl (e _ _ (hr q hq).1)), (hr q hq).2⟩, fun out q pm nd pw hn => ?_⟩
  refine h q _ hn ⟨_, rfl, ?_⟩
  have ok : ∀ p ∈ out, RowOk F p := fun p hp => hr p (pm.mem_iff.mp hp)
  have e3 : a = out.map fun p => cel p.2 := by
    refine up_eq u ?_ fun c => ?_
    · rw [Up, List.pairwise_map]
      have nd2 : out.Pairwise fun p r => p.2 ≠ r.2 := List.pairwise_map.mp nd
      refine (List.Pairwise.and pw nd2).imp_of_mem fun {p r} hp hr z => lexB_ltC z.1 fun e => z.2 (cel_inj (ok p hp).2 (ok r hr).2 e)
    · rw [hm]
      exact ((pm.map fun p : Addr × List Int => cel p.2).mem_iff (a := c)).symm
  rw [e3]
  exact rows_rep out ok

/-- set(xs) -/
def sortSet (xs : List (Int × Int)) : R (List (Int × Int)) := chk ((rise xs).length ≤ 9800) (rise xs)
section
variable {X : Cx} {U : Wi} {Γ : List Sl} {e : Expr} {pos p2 p3 p4 : Pos}
theorem x_setL {m : R (List (Int × Int))} (hu : X.A.units + 64 < cLine) (hm : X.mg "set" = none) (he : EX X U Γ e (rL rC) m) (hc : X.calm = true := by rfl) (hg : Gl X "set" := by rfl)
    (h1 : starEach [e] X.env = (false, eval e X.env) :: starEach [] X.env := by rfl) (h2 : (backTo pos (starEach [] X.env)).any (·.1) = false := by rfl) :
    EX X U Γ (.Call (.Name "set" p2) [e] [] pos) (rSet X.prog X.w) (m.bind sortSet) :=
  (x_callTy (cr_setB hc hu) dSetL hm (by decide +kernel) (a_one he h1) hg (by decide) (by decide) h1 h2).cv (by
    cases m with
    | ok x => show ((chk _ _).calm.bind fun z => R.ok z) = _; rw [chk_calm] <;> rfl
    | er r => rfl
    | bad => rfl)
theorem x_setT {m : R (List (Int × Int))} (hu : X.A.units + 64 < cLine) (hm : X.mg "set" = none) (he : EX X U Γ e (rT rC) m) (hc : X.calm = true := by rfl) (hg : Gl X "set" := by rfl)
    (h1 : starEach [e] X.env = (false, eval e X.env) :: starEach [] X.env := by rfl) (h2 : (backTo pos (starEach [] X.env)).any (·.1) = false := by rfl) :
    EX X U Γ (.Call (.Name "set" p2) [e] [] pos) (rSet X.prog X.w) (m.bind sortSet) :=
  (x_callTy (cr_setB hc hu) dSetT hm (by decide +kernel) (a_one he h1) hg (by decide) (by decide) h1 h2).cv (by
    cases m with
    | ok x => show ((chk _ _).calm.bind fun z => R.ok z) = _; rw [chk_calm] <;> rfl
    | er r => rfl
    | bad => rfl)
theorem f_sortset {m : R (List (Int × Int))} (hm : X.mg "sorted" = none) (he : EX X U Γ e (rSet X.prog X.w) m) (hc : X.calm = true := by rfl) (hg : Gl X "sorted" := by rfl)
    (h1 : starEach [e] X.env = (false, eval e X.env) :: starEach [] X.env := by rfl) (h2 : (backTo pos (starEach [] X.env)).any (·.1) = false := by rfl) :
    FX X U Γ (.Call (.Name "sorted" p2) [e] [] pos) (fun ys => oLi (tl rC) ys) m := by
  have h := f_callB (p := p2) (pos := pos) (cr_sortSetC hc) dSortSet hm (by decide +kernel) (a_one he h1) hg (by decide) (by decide) h1 h2
  refine h.cv ?_
  cases m <;> rfl
end

/-! ### sorted lists of cells and of ints -/
def inO {α : Type} (lt : α → α → Bool) (x : α) : List α → List α
  | [] => [x]
  | y :: r => if lt y x = true then y :: inO lt x r else x :: y :: r
def srt {α : Type} (lt : α → α → Bool) (xs : List α) : List α := xs.foldr (inO lt) []
/-- the order is one of values: what neither is below the other is the same -/
structure Tot {α : Type} (lt : α → α → Bool) : Prop where
  asym : ∀ a b, lt a b = true → lt b a = false
  tran : ∀ a b c, lt b a = false → lt c b = false → lt c a = false
  same : ∀ a b, lt a b = false → lt b a = false → a = b
section
variable {α : Type} {lt : α → α → Bool}
abbrev Asc (lt : α → α → Bool) (xs : List α) : Prop := xs.Pairwise fun a b => lt b a = false
theorem perm_inO (x : α) : ∀ xs, (inO lt x xs).Perm (x :: xs)
  | [] => .refl _
  | y :: r => by
    unfold inO
    split
    · exact ((perm_inO x r).cons y).trans (.swap x y r)
    · exact .refl _
theorem perm_srt : ∀ xs : List α, (srt lt xs).Perm xs
  | [] => .refl _
  | x :: xs => (perm_inO x _).trans ((perm_srt xs).cons x)
theorem asc_inO (T : Tot lt) (x : α) : ∀ xs, Asc lt xs → Asc lt (inO lt x xs)
  | [], _ => List.pairwise_singleton _ _
  | y :: r, h => by
    obtain ⟨h1, h2⟩ := List.pairwise_cons.mp h
    unfold inO
    split
    · next c =>
      refine List.pairwise_cons.mpr ⟨fun z hz => ?_, asc_inO T x r h2⟩
      rcases List.mem_cons.mp ((perm_inO x r).mem_iff.mp hz) with e | e
      · rw [e]; exact T.asym y x c
      · exact h1 z e
    · next c =>
      have c' : lt y x = false := by simpa using c
      refine List.pairwise_cons.mpr ⟨fun z hz => ?_, h⟩
      rcases List.mem_cons.mp hz with e | e
      · rw [e]; exact c'
      · exact T.tran x y z c' (h1 z e)
theorem asc_srt (T : Tot lt) : ∀ xs : List α, Asc lt (srt lt xs)
  | [] => .nil
  | x :: xs => asc_inO T x _ (asc_srt T xs)
theorem asc_eq (T : Tot lt) : ∀ {xs ys : List α}, Asc lt xs → Asc lt ys → xs.Perm ys → xs = ys
  | [], ys, _, _, p => p.nil_eq
  | x :: xs, [], _, _, p => absurd p.length_eq (by simp)
  | x :: xs, y :: ys, hx, hy, p => by
    obtain ⟨x1, x2⟩ := List.pairwise_cons.mp hx
    obtain ⟨y1, y2⟩ := List.pairwise_cons.mp hy
    have irr : ∀ a : α, lt a a = false := fun a => by
      cases e : lt a a with
      | false => rfl
      | true => exact (T.asym a a e).symm.trans e |>.symm ▸ rfl
    have a1 : lt y x = false := by
      rcases List.mem_cons.mp (p.mem_iff.mpr (List.mem_cons_self (a := y) (l := ys))) with e | e
      · rw [e]; exact irr x
      · exact x1 y e
    have a2 : lt x y = false := by
      rcases List.mem_cons.mp (p.mem_iff.mp (List.mem_cons_self (a := x) (l := xs))) with e | e
      · rw [e]; exact irr y
      · exact y1 x e
    have e := T.same x y a2 a1
    subst e
    rw [asc_eq T x2 y2 p.cons_inv]
end
theorem ltC_no {a b : Int × Int} : ltC a b = false ↔ ¬ (a.1 < b.1 ∨ (a.1 = b.1 ∧ a.2 < b.2)) := decide_eq_false_iff_not
theorem totC : Tot ltC := ⟨fun a b h => by rw [ltC_iff] at h; rw [ltC_no]; omega, fun a b c h1 h2 => by rw [ltC_no] at *; omega, fun a b h1 h2 => by rw [ltC_no] at *; rw [Prod.ext_iff]; omega⟩
/-- sorted(xs) of cells -/
abbrev sortC (xs : List (Int × Int)) : List (Int × Int) := srt ltC xs
theorem up_asc {xs : List (Int × Int)} (h : Up xs) : Asc ltC xs := h.imp fun {a b} z => totC.asym a b z
section
variable {X : Cx} {U : Wi} {Γ : List Sl} {e : Expr} {pos p2 p3 p4 : Pos}
end
end Py

/-! Own layer, part H: how a law ends; plain words about mirrors. -/
namespace Py
open PySem PySem.Spec PyProof.Rows L2
section
variable {X : Cx} {U : Wi} {Γ : List Sl} {e : Expr} {α ω : Type} {ρ : Rp α} {sts : List Stmt} {I : ω → Kd}
/-- where the law never comes -/
theorem s_bad : SX X U Γ sts I .bad := ⟨fun en F σ H D s h => h.elim⟩
/-- a value that may be None, where it is none of those -/
theorem x_some {m : R (Option α)} (h : EX X U Γ e (rO ρ) m) : EX X U Γ e ρ (m.bind ofOpt) :=
  ⟨fun en F σ H Q s q => h.out en F σ H Q s (wpR_mono (wpR_bind q) (fun x k v F1 H1 e1 s1 r1 => by
    cases x with
    | none => exact k.elim
    | some y => exact k v F1 H1 e1 s1 r1) fun _ z => z)⟩
end
/-- what a law is asked -/
def SpL (K : PySem.W.Frag) : Sp := fun vs H Q _ => ∃ (a : Addr) (ns : List Int), vs = [.ref a] ∧ SqL K H a (ns.map V.int) ∧ ns.length ≤ 63 ∧ (∀ z ∈ ns, Builtin.Int.intBits z ≤ 1048576) ∧ ∀ H', Q (.bl true) H'
theorem law_fn {P : Program} {w : World} {K : PySem.W.Frag} {mg : Str → Option Value} {base : Heap} {CX : CXT} {k : Nat} {f : Addr} {fd : FuncData} {ps : List Str} {g : List Int → R Bool} (F : FnOk P w K mg base CX k f fd ps (SpP mg (t1 (rScr K)) rB g))
    (h : ∀ ns : List Int, ns.length ≤ 63 → (∀ z ∈ ns, Builtin.Int.intBits z ≤ 1048576) → g ns = .ok true) : FnOk P w K mg base CX k f fd ps (SpL K) :=
  F.imp fun vs H Q E ⟨a, ns, e, hS, hl, hb, q⟩ => by
    subst e
    refine ⟨H, ns, Same.refl H, ⟨.ref a, rfl, a, rfl, hS⟩, ?_⟩
    rw [h ns hl hb]
    exact fun v F' H' _ r => by
      rw [show v = .bl true from r]
      exact q H'
theorem cx_end {P : Program} {w : World} {H : Hp} {s : Shared} {e : Value} {s' : Shared} (h : L2.CX P w [] H s (fun _ _ _ => False) e s') : False := by
  obtain ⟨_, _, _, _, _, _, _, _, _, _, _, _, f⟩ := h
  exact f

/-! ### a mirror that ends well -/
/-- it gives something of which P is true -/
def Gd {α : Type} (m : R α) (P : α → Prop) : Prop := ∃ a, m = .ok a ∧ P a
section
variable {α β γ τ : Type} {P : α → Prop} {Q : β → Prop}
theorem Gd.eq {m : R α} {a : α} (h : Gd m (· = a)) : m = .ok a := by
  obtain ⟨b, e, rfl⟩ := h
  exact e
theorem Gd.of {m : R α} {a : α} (h : m = .ok a) (p : P a) : Gd m P := ⟨a, h, p⟩
theorem Gd.ok {a : α} (p : P a) : Gd (.ok a) P := ⟨a, rfl, p⟩
theorem Gd.mono {m : R α} {P' : α → Prop} (h : Gd m P) (k : ∀ a, P a → P' a) : Gd m P' := by
  obtain ⟨a, e, p⟩ := h
  exact ⟨a, e, k a p⟩
theorem Gd.bind {m : R α} {f : α → R β} (h : Gd m P) (k : ∀ a, P a → Gd (f a) Q) : Gd (m.bind f) Q := by
  obtain ⟨a, e, p⟩ := h
  subst e
  exact k a p
theorem Gd.eqB {m : R α} {a : α} {f : α → R β} (h : m = .ok a) (k : Gd (f a) Q) : Gd (m.bind f) Q := by
  subst h
  exact k
theorem Gd.chk {c : Prop} [Decidable c] {a : α} (hc : c) (p : P a) : Gd (Py.chk c a) P := ⟨a, by unfold Py.chk; rw [if_pos hc], p⟩
theorem Gd.chkB {c : Prop} [Decidable c] {a : α} {f : α → R β} (hc : c) (k : Gd (f a) Q) : Gd ((Py.chk c a).bind f) Q := (Gd.chk (P := fun b => b = a) hc rfl).bind fun b e => by rw [e]; exact k
theorem Gd.optB {o : Option α} {a : α} {f : α → R β} (h : o = some a) (k : Gd (f a) Q) : Gd ((ofOpt o).bind f) Q := by
  subst h
  exact k
theorem Gd.ite {c : Prop} [Decidable c] {m1 m2 : R α} (h1 : c → Gd m1 P) (h2 : ¬ c → Gd m2 P) : Gd (if c then m1 else m2) P := by
  split
  · exact h1 ‹_›
  · exact h2 ‹_›
theorem Gd.forR {I : τ → Prop} {f : τ → α → R τ} : ∀ {xs : List α} {s : τ}, (∀ s x, x ∈ xs → I s → Gd (f s x) I) → I s → Gd (Py.forR f xs s) I
  | [], _, _, h0 => ⟨_, rfl, h0⟩
  | x :: xs, s, h, h0 => (h s x List.mem_cons_self h0).bind fun s' h1 => Gd.forR (fun s y hy => h s y (List.mem_cons_of_mem _ hy)) h1
/-- what is known of what was passed -/
theorem Gd.forRp {I : List α → τ → Prop} {f : τ → α → R τ} : ∀ {pre xs : List α} {s : τ}, (∀ p x q s, xs = p ++ x :: q → I (pre ++ p) s → Gd (f s x) (I (pre ++ p ++ [x]))) → I pre s → Gd (Py.forR f xs s) (I (pre ++ xs))
  | pre, [], s, _, h0 => ⟨_, rfl, by rw [List.append_nil]; exact h0⟩
  | pre, x :: xs, s, h, h0 => by
    refine Gd.bind (P := I (pre ++ [x])) ?_ fun s' h1 => ?_
    · have z := h [] x xs s rfl (by rw [List.append_nil]; exact h0)
      rw [List.append_nil] at z
      exact z
    · have z := Gd.forRp (I := I) (f := f) (pre := pre ++ [x]) (xs := xs) (s := s') (fun p y q s e hi => ?_) h1
      · rw [List.append_assoc] at z
        exact z
      · have k := h (x :: p) y q s (by rw [e] <;> rfl) (by
          have e2 : pre ++ x :: p = pre ++ [x] ++ p := by rw [List.append_assoc] <;> rfl
          rw [e2]
          exact hi)
        have e2 : pre ++ x :: p ++ [y] = pre ++ [x] ++ p ++ [y] := by simp
        rw [e2] at k
        exact k
theorem Gd.forRl {I : List α → τ → Prop} {f : τ → α → R τ} {xs : List α} {s : τ} (h : ∀ p x q s, xs = p ++ x :: q → I p s → Gd (f s x) (I (p ++ [x]))) (h0 : I [] s) : Gd (Py.forR f xs s) (I xs) :=
  Gd.forRp (pre := []) h h0
/-- it goes on -/
abbrev On (I : τ → Prop) : Stp τ γ → Prop := fun o => ∃ s, o = .nx s ∧ I s
abbrev Done (I : τ → Prop) : Out τ γ → Prop := fun o => ∃ s, o = .nx s ∧ I s
theorem Gd.forS {I : τ → Prop} {f : τ → α → R (Stp τ γ)} : ∀ {xs : List α} {s : τ}, (∀ s x, x ∈ xs → I s → Gd (f s x) (On I)) → I s → Gd (Py.forS f xs s) (Done I)
  | [], _, _, h0 => ⟨_, rfl, _, rfl, h0⟩
  | x :: xs, s, h, h0 => (h s x List.mem_cons_self h0).bind fun o h1 => by
    obtain ⟨s', e, h2⟩ := h1
    subst e
    exact Gd.forS (fun s y hy => h s y (List.mem_cons_of_mem _ hy)) h2
theorem Gd.forSB {δ : Type} {I : τ → Prop} {f : τ → α → R (Stp τ γ)} {xs : List α} {s : τ} {k : τ → R δ} {mk : γ → δ} {Q : δ → Prop} (h : ∀ s x, x ∈ xs → I s → Gd (f s x) (On I)) (h0 : I s) (hk : ∀ s, I s → Gd (k s) Q) : Gd ((Py.forS f xs s).bind (outK k mk)) Q :=
  (Gd.forS h h0).bind fun o ⟨s', e, h2⟩ => by
    subst e
    exact hk s' h2
theorem Gd.nx {I : τ → Prop} {s : τ} (h : I s) : Gd (R.ok (Stp.nx s : Stp τ γ)) (On I) := ⟨_, rfl, s, rfl, h⟩
theorem mapR_ok {f : α → R β} {g : α → β} : ∀ {xs : List α}, (∀ x ∈ xs, f x = .ok (g x)) → mapR f xs = .ok (xs.map g)
  | [], _ => rfl
  | x :: xs, h => by
    show (f x).calm.bind _ = _
    rw [h x List.mem_cons_self]
    show (mapR f xs).bind _ = _
    rw [mapR_ok fun y hy => h y (List.mem_cons_of_mem _ hy)]
    rfl
theorem Gd.mapRB {f : α → R β} {g : α → β} {xs : List α} {k : List β → R γ} {Q : γ → Prop} (h : ∀ x ∈ xs, f x = .ok (g x)) (hk : Gd (k (xs.map g)) Q) : Gd ((mapR f xs).bind k) Q := by
  rw [mapR_ok h]
  exact hk
end
/-- bits -/
theorem log2_lt {x : Int} {k : Nat} (h : x.natAbs < 2 ^ k) (hk : 0 < k) : x.natAbs.log2 < k := by
  by_cases z : x.natAbs = 0
  · rw [z]
    exact hk
  · exact (Nat.log2_lt z).mpr h
theorem mulW_ok {i j : Int} (k : Nat) (hk : 0 < k ∧ k ≤ 500000) (hi : i.natAbs < 2 ^ k) (hj : j.natAbs < 2 ^ k) : CMulW i j := by
  have a := log2_lt hi hk.1
  have b := log2_lt hj hk.1
  unfold CMulW
  omega
theorem dv_ok {j : Int} (h : 0 < j) (k : Nat) (hk : 0 < k ∧ k ≤ 8900) (hj : j.natAbs < 2 ^ k) : CDv j := ⟨h, by
  have a := log2_lt hj hk.1
  omega⟩
theorem small_size {n : Nat} (h : n ≤ 100000) : n ≤ sizeLine := by
  rw [sizeLine_eq]
  omega
theorem small_lt {n : Nat} (h : n < 100000) : n < sizeLine := by
  rw [sizeLine_eq]
  omega
theorem mem_rangeI {lo hi x : Int} : x ∈ rangeI lo hi ↔ lo ≤ x ∧ x < hi := by
  unfold rangeI
  rw [List.mem_map]
  constructor
  · rintro ⟨i, hi2, rfl⟩
    have := List.mem_range.mp hi2
    omega
  · rintro ⟨h1, h2⟩
    exact ⟨(x - lo).toNat, List.mem_range.mpr (by omega), by omega⟩
theorem len_rangeI (lo hi : Int) : (rangeI lo hi).length = (hi - lo).toNat := by
  unfold rangeI
  rw [List.length_map, List.length_range]

/-! ### dicts -/
section
variable {κ ν : Type} [DecidableEq κ]
theorem find_map_same (k y : κ) (v : ν) (h : y ≠ k) : ∀ d : List (κ × ν), ((d.map fun q => if q.1 = k then (q.1, v) else q).find? fun q => decide (q.1 = y)).map Prod.snd = (d.find? fun q => decide (q.1 = y)).map Prod.snd
  | [] => rfl
  | q :: d => by
    rw [List.map_cons, List.find?_cons, List.find?_cons]
    by_cases c : q.1 = k
    · rw [if_pos c]
      have n : decide (q.1 = y) = false := decide_eq_false fun z => h (z.symm.trans c)
      simp only [n]
      exact find_map_same k y v h d
    · rw [if_neg c]
      by_cases e : q.1 = y
      · simp [e]
      · simp only [decide_eq_false e]
        exact find_map_same k y v h d
theorem find_map_new (k : κ) (v : ν) : ∀ d : List (κ × ν), (d.any fun q => decide (q.1 = k)) = true → ((d.map fun q => if q.1 = k then (q.1, v) else q).find? fun q => decide (q.1 = k)).map Prod.snd = some v
  | [], h => by simp at h
  | q :: d, h => by
    rw [List.map_cons, List.find?_cons]
    by_cases c : q.1 = k
    · rw [if_pos c]
      simp [c]
    · rw [if_neg c]
      simp only [decide_eq_false c]
      refine find_map_new k v d ?_
      simpa [c] using h
theorem dGet_dPut (d : List (κ × ν)) (k y : κ) (v : ν) : dGet (dPut d k v) y = if y = k then some v else dGet d y := by
  unfold dGet dPut
  split
  · next h =>
    by_cases c : y = k
    · subst c
      rw [if_pos rfl]
      exact find_map_new y v d h
    · rw [if_neg c]
      exact find_map_same k y v c d
  · next h =>
    rw [List.find?_append]
    by_cases c : y = k
    · subst c
      have n : (d.find? fun q => decide (q.1 = y)) = none := by
        rw [List.find?_eq_none]
        intro q hq z
        exact h (List.any_eq_true.mpr ⟨q, hq, z⟩)
      rw [n, if_pos rfl]
      simp
    · rw [if_neg c]
      have n : ([(k, v)].find? fun q => decide (q.1 = y)) = none := by
        simp [Ne.symm c]
      rw [n, Option.or_none]
theorem len_dPut (d : List (κ × ν)) (k : κ) (v : ν) : (dPut d k v).length ≤ d.length + 1 := by
  unfold dPut
  split
  · rw [List.length_map]
    exact Nat.le_succ _
  · simp
/-- a dict of what was passed -/
def SeenBy (p : List κ) (d : List (κ × Bool)) : Prop := d.length ≤ p.length ∧ ∀ y, (dGet d y).isSome = hasB y p
theorem SeenBy.nil : SeenBy ([] : List κ) [] := ⟨Nat.le_refl _, fun y => rfl⟩
theorem SeenBy.put {p : List κ} {d : List (κ × Bool)} (h : SeenBy p d) (k : κ) (v : Bool) : SeenBy (p ++ [k]) (dPut d k v) := by
  refine ⟨?_, fun y => ?_⟩
  · have := len_dPut d k v
    have := h.1
    simp
    omega
  · rw [dGet_dPut]
    by_cases c : y = k
    · rw [if_pos c]
      show true = hasB y (p ++ [k])
      rw [eq_comm, hasB_iff, c]
      simp
    · rw [if_neg c, h.2, Bool.eq_iff_iff, hasB_iff, hasB_iff]
      simp [c]
end
section
variable {α β γ τ : Type}
theorem fmR_ok {c : α → R Bool} {f : α → R β} {p : α → Bool} {g : α → β} : ∀ {xs : List α}, (∀ x ∈ xs, c x = .ok (p x)) → (∀ x ∈ xs, f x = .ok (g x)) → fmR c f xs = .ok ((xs.filter p).map g)
  | [], _, _ => rfl
  | x :: xs, h1, h2 => by
    have ih := fmR_ok (c := c) (f := f) (fun y hy => h1 y (List.mem_cons_of_mem _ hy)) (fun y hy => h2 y (List.mem_cons_of_mem _ hy))
    show (c x).calm.bind _ = _
    rw [h1 x List.mem_cons_self]
    show (if p x = true then _ else _) = _
    by_cases e : p x = true
    · rw [if_pos e, h2 x List.mem_cons_self]
      show (fmR c f xs).bind _ = _
      rw [ih, List.filter_cons_of_pos e]
      rfl
    · rw [if_neg e, ih, List.filter_cons_of_neg e]
theorem Gd.fmRB {c : α → R Bool} {f : α → R β} {p : α → Bool} {g : α → β} {xs : List α} {k : List β → R γ} {Q : γ → Prop} (h1 : ∀ x ∈ xs, c x = .ok (p x)) (h2 : ∀ x ∈ xs, f x = .ok (g x)) (hk : Gd (k ((xs.filter p).map g)) Q) : Gd ((fmR c f xs).bind k) Q := by
  rw [fmR_ok h1 h2]
  exact hk
end
theorem cut_len {α : Type} {xs : List α} {lo hi : Option Int} : (cutL xs lo hi).length ≤ xs.length := by
  unfold cutL
  rw [List.length_take, List.length_drop]
  omega
/-! ### shapes -/
abbrev Shp : Type := List (Int × Int) × Bool
/-- has it the cell -/
def hasS (s : Shp) (c : Int × Int) : Bool := hasB c s.1 != s.2
theorem up_filter {p : Int × Int → Bool} {xs : List (Int × Int)} (h : Up xs) : Up (xs.filter p) := List.Pairwise.filter _ h
end Py

/-! Own layer, part I: more displays of ranges. -/
namespace Py
open PySem PySem.Spec PyProof.Rows L2
/-- the same words, to be rewritten by step for step -/
theorem ok_bindP {α β : Type} (a : α) (f : α → R β) : (R.ok a).bind f = f a := Eq.trans (R.ok_bind a f) rfl
theorem ok_calmP {α : Type} (a : α) : (R.ok a).calm = R.ok a := Eq.trans (R.ok_calm a) rfl
section
variable {X : Cx} {U : Wi} {Γ : List Sl} {a : Expr} {pos p p2 p3 : Pos}
end
end Py

/-! Own layer, part J: sorted of whatever gives cells: a dict keyed by cells, a tuple of cells. -/
namespace Py
open PySem PySem.Spec PyProof.Rows L2 SrtO
section
variable {P : Program} {w : World} {A : Around} {E : Value → Shared → Prop} {s : Shared}
end

/-- the ints of a key -/
def keyInts (k : List Key) : List Int := k.filterMap fun x => match x with
  | .inl i => some i
  | .inr _ => none
def TwoInts (k : List Key) : Prop := ∃ i j : Int, k = [.inl i, .inl j]
theorem TwoInts.len {k : List Key} (h : TwoInts k) : (keyInts k).length = 2 := by
  obtain ⟨i, j, rfl⟩ := h
  rfl
section
variable {X : Cx} {U : Wi} {Γ : List Sl} {e : Expr} {pos p2 : Pos}
end

/-! ### + of lists that are read alone -/
section
variable {X : Cx} {U : Wi} {Γ : List Sl} {a b : Expr} {pos : Pos}
end
end Py

/-! Own layer, part K: a list that is lent to a callee, which changes it. -/
namespace Py
open PySem PySem.Spec PyProof.Rows L2

/-- all is kept but the object at p -/
structure ExtM (p : Addr) (F H F' H' : Hp) : Prop where
  f : Same F F'
  h : ∀ q o, q ≠ p → H q = some o → H' q = some o
  s : Same F' H'
  n : ∀ q, q ≠ p → H q ≠ none → F q = none → F' q = none ∨ ∃ vs, F' q = some (.tup vs)
/-- the promise of a def whose first parameter is a lent list: it gives a value, and the list as it is then -/
def SpM {α τ γ : Type} (ρl : Rp α) (t : Tr τ) (ρ : Rp γ) (f : List α → τ → R (γ × List α)) : Sp := fun vs H Q _ => ∃ (F : Hp) (p : Addr) (l : List α) (ws : List V) (x : τ) (us : List V), Same F H ∧ F p = none ∧ H p = some (.lst ws) ∧ RepL ρl F l ws ∧ vs = .ref p :: us ∧ t.rep x F us ∧
  wpR (f l x) (fun z => ∀ v F' H' ws', ExtM p F H F' H' → F' p = none → H' p = some (.lst ws') → RepL ρl F' z.2 ws' → ρ.rep z.1 F' v → Q v H') fun _ => False
section
variable {P : Program} {w : World} {K : PySem.W.Frag} {mg : Str → Option Value} {base : Heap}
theorem f_okM {x qual : Str} {st : Stmt} {f : Addr} {fd : FuncData} {N ps : List Str} {k n : Nat} {α τ γ : Type} {ρl : Rp α} {t : Tr τ} {ρ : Rp γ} {fm : List α → τ → R (γ × List α)} {sl : τ → List Sl} (Γ0 : Addr → List α → τ → List Sl) (Fn : FunZ K x qual st f fd) (S : FnScope N ps (defScope st)) (ar : Ar t n sl) (hn : n + 1 = ps.length) (hN : n + 1 ≤ N.length)
    (hΓ : ∀ p l a, Γ0 p l a = .own (some p) (oLi (tl ρl) l) :: (sl a ++ List.replicate (N.length - (n + 1)) .any))
    (body : ∀ cdv A outer s H E (hr : Room k (A.deeper (envOfC qual (defScope st) s.heap.objs.size f cdv))) (tk : Takes (CxF P w K mg base N qual st f cdv A outer s H E) (UF E).W) (hp : PassesOwn (model P w) (A.deeper (envOfC qual (defScope st) s.heap.objs.size f cdv)) (envOfC qual (defScope st) s.heap.objs.size f cdv) (CxF P w K mg base N qual st f cdv A outer s H E).xe) (p : Addr) (l : List α) (a : τ),
      SX (CxF P w K mg base N qual st f cdv A outer s H E) (UF E) (Γ0 p l a) (defBody st) (fun z : γ × List α => .fn ⟨fun H v => ρ.rep z.1 H v, fun e h => ρ.mono e h⟩ [.own (some p) (oLi (tl ρl) z.2)]) (fm l a)) :
    FnOk P w K mg base (L2.CX P w) (k + 1) f fd ps (SpM ρl t ρ fm) := by
  refine Fn.okX S (fun vs H Q E ⟨F, p, l, ws, a, us, _, _, _, _, ev, r, _⟩ => ?_) (fun cdv A outer s H vs Q E hr ⟨F, p, l, ws, a, us, sF, fp, hp, rl, ev, r, hw⟩ => ?_)
  · rw [ev, List.length_cons, (ar.out a F us r).1]
    exact hn
  · obtain ⟨h1, h2, h3⟩ := ar.out a F us r
    subst ev
    refine ⟨_, wSs_pss, ?_⟩
    have hst : ∀ (i : Nat) v, (V.ref p :: us)[i]? = some v → (L2.start N (.ref p :: us))[i]? = some (some v) := fun i v e => by
      unfold L2.start
      have hl : i < (V.ref p :: us).length := (List.getElem?_eq_some_iff.mp e).1
      rw [List.getElem?_append_left (by rw [List.length_map]; exact hl), List.getElem?_map, e] <;> rfl
    have im0 : ∀ (i : Nat) x, (Γ0 p l a)[i + 1]? = some x → x = .any ∨ ∃ P v, x = .imm P ∧ us[i]? = some v ∧ P.p F v := fun i x hx => by
      rw [hΓ, List.getElem?_cons_succ] at hx
      by_cases hl : i < (sl a).length
      · rw [List.getElem?_append_left hl] at hx
        exact .inr (h3 i x hx)
      · rw [List.getElem?_append_right (by omega), List.getElem?_replicate] at hx
        split at hx
        · exact .inl (Option.some.inj hx).symm
        · cases hx
    have z0 : (Γ0 p l a)[0]? = some (.own (some p) (oLi (tl ρl) l)) := by rw [hΓ] <;> rfl
    have sa : SA ⟨F, H, fun q => q = p⟩ (Γ0 p l a) F (L2.start N (.ref p :: us)) H := by
      refine ⟨?_, sF, Same.refl F, fun _ _ h _ => h, fun _ h => h, fun _ _ h _ => .inl h, fun i Q hi => ?_, fun i b Q hi => ?_, fun i j b c Q Q' q hij hi hj => ?_⟩
      · rw [hΓ, List.length_cons, List.length_append, List.length_replicate, h2]
        unfold L2.start
        rw [List.length_append, List.length_map, List.length_replicate, List.length_cons, h1]
        omega
      · cases i with
        | zero => rw [z0] at hi; cases hi
        | succ i =>
          rcases im0 i _ hi with z | ⟨Q', v, z, hv, hq⟩
          · cases z
          · injection z with z
            subst z
            exact ⟨v, hst (i + 1) v (by simpa using hv), hq⟩
      · cases i with
        | zero =>
          rw [z0] at hi
          injection hi with hi
          injection hi with e1 e2
          subst e1 e2
          exact ⟨p, _, hst 0 _ rfl, fp, hp, ⟨ws, rfl, rl⟩, .inr rfl, fun q z => Option.some.inj z⟩
        | succ i =>
          rcases im0 i _ hi with z | ⟨Q', v, z, hv, hq⟩ <;> cases z
      · cases i with
        | zero =>
          cases j with
          | zero => exact absurd rfl hij
          | succ j => rcases im0 j _ hj with z | ⟨Q', v, z, hv, hq⟩ <;> cases z
        | succ i => rcases im0 i _ hi with z | ⟨Q', v, z, hv, hq⟩ <;> cases z
    refine (body cdv A outer s H E hr (takes_of rfl rfl rfl rfl) (passes_of rfl) p l a).out ⟨F, H, fun q => q = p⟩ F _ H _ sa (wpR_mono hw (fun z k => ?_) fun r z => z.elim)
    have fin : ∀ {F' : Hp} {σ' : L2.St} {H' : Hp} {v : V}, Same F F' → SA ⟨F, H, fun q => q = p⟩ [.own (some p) (oLi (tl ρl) z.2)] F' σ' H' → ρ.rep z.1 F' v → Q v H' := fun {F' σ' H' v} e s' rv => by
      obtain ⟨q, o, g1, g2, g3, ⟨ws', g4, g5⟩, _, g7⟩ := s'.own 0 _ _ rfl
      obtain rfl : q = p := g7 p rfl
      subst g4
      exact k v F' H' ws' ⟨e, fun b o hb h => s'.old b o h hb, s'.sub, fun b hb h hf => s'.frz b h hf hb⟩ g2 g3 g5 rv
    exact ⟨fun v F' σ' H' e s' rv => fin e s' rv, fun F' σ' H' e s' rv => fin e s' rv⟩
end

section
variable {en : En} {Γ : List Sl} {F F' H H' : Hp} {σ : L2.St}
/-- behind a callee that changed an own list -/
theorem SA.lent {α : Type} {ρl : Rp α} {l l' : List α} {a0 : Option Addr} {i : Nat} {p : Addr} {ws : List V} (s : SA en Γ F σ H) (hi : Γ[i]? = some (.own a0 (oLi (tl ρl) l))) (hp : σ[i]? = some (some (.ref p))) (x : ExtM p F H F' H') (hf : F' p = none) (ho : H' p = some (.lst ws)) (r : RepL ρl F' l' ws) :
    SA en (Γ.set i (.own a0 (oLi (tl ρl) l'))) F' σ H' := by
  have s1 := s.mut (o' := .lst ws) (P' := ⟨fun _ o => ∃ vs, o = .lst vs, fun _ h => h, fun ⟨vs, h⟩ ws z => by rw [h] at z; cases z⟩) hi hp ⟨ws, rfl⟩
  have e : Ext F (upd H p (.lst ws)) F' H' := by
    refine ⟨x.f, fun q o h => ?_, x.s, fun q h hq => ?_⟩
    · by_cases z : q = p
      · subst z
        rw [upd_same] at h
        rw [ho, ← h]
      · rw [upd_ne z] at h
        exact x.h q o z h
    · by_cases z : q = p
      · subst z
        exact .inl hf
      · rw [upd_ne z] at h
        exact x.n q z h hq
  have s2 := s1.ext e
  have il : i < Γ.length := (List.getElem?_eq_some_iff.mp hi).1
  have hi2 : (Γ.set i (.own a0 ⟨fun _ o => ∃ vs, o = .lst vs, fun _ h => h, fun ⟨vs, h⟩ ws z => by rw [h] at z; cases z⟩))[i]? = some (.own a0 ⟨fun _ o => ∃ vs, o = .lst vs, fun _ h => h, fun ⟨vs, h⟩ ws z => by rw [h] at z; cases z⟩) := List.getElem?_set_self il
  have s3 := s2.mut (o' := .lst ws) (P' := oLi (tl ρl) l') hi2 hp ⟨ws, rfl, r⟩
  rw [List.set_set] at s3
  have e2 : upd H' p (.lst ws) = H' := funext fun q => by
    by_cases z : q = p
    · subst z
      rw [upd_same, ho]
    · rw [upd_ne z]
  rw [e2] at s3
  exact s3
end
section
variable {X : Cx} {U : Wi} {Γ : List Sl} {es : List Expr} {pos p p2 : Pos} {α τ γ : Type} {ρl : Rp α} {ρ : Rp γ} {t : Tr τ} {k : Nat} {f : Addr} {fd : FuncData} {ps : List Str} {n nf : Str}
end

section
variable {X : Cx} {U : Wi} {Γ : List Sl} {e : Expr} {rest : List Stmt} {pos p2 p3 p4 p5 p6 : Pos} {α ω : Type} {ρ : Rp α} {I : ω → Kd} {n d : Str}
theorem ixN0 {m : Nat} (h : 0 < m) : ixN m 0 = some 0 := by
  unfold ixN
  rw [if_pos (Int.le_refl 0), if_pos (by omega)]
  rfl
/-- x[0] = e, x an own list -/
theorem s_st0 {l : List α} {m : R α} {k : α → R ω} {a0 : Option Addr} {j : Nat} (i : Nat) (he : EX X U Γ e ρ m) (hr : ∀ y, SX X U (Γ.set i (.own a0 (oLi (tl ρ) (l.set 0 y)))) rest I (k y)) (hΓ : Γ[i]? = some (.own a0 (oLi (tl ρ) l)) := by rfl) (hN : X.N[i]? = some n := by rfl)
    (hv : Vis X.env.scope n := by first | exact Or.inl rfl | exact Or.inr (Or.inl rfl) | exact Or.inr (Or.inr rfl)) (hd : (n == ("__debug__" : Str)) = false := by decide) (hcd : (n == ("__classdict__" : Str)) = false := by decide)
    (hs : swapsWithSole [.Subscript (.Name n p2) (.Constant (.int 0) j p3) p4] e pos.line X.env = pure false := by rfl) (hw : swappedStores [.Subscript (.Name n p2) (.Constant (.int 0) j p3) p4] e X.env = pure none := by rfl) (h1 : (assignEach [.Subscript (.Name n p2) (.Constant (.int 0) j p3) p4] X.env).map (·.2) = [assign (.Subscript (.Name n p2) (.Constant (.int 0) j p3) p4) X.env] := by rfl) :
    SX X U Γ (.Assign [.Subscript (.Name n p2) (.Constant (.int 0) j p3) p4] e pos :: rest) I (m.bind fun y => (chk (0 < l.length) ()).bind fun _ => k y) :=
  ⟨fun en F σ H D s h => wSs_of (pss_cons (ps_asg wE_pe (pg_sub (pe_var hN hv hd hcd) pe_int set_list) hs hw h1) wSs_pss) (he.out en F σ H _ s (wpR_mono (wpR_bind h) (fun y q v F' H' e' s' r => by
    obtain ⟨pos0, q⟩ := wpR_chk (wpR_bind q)
    obtain ⟨p, o, g1, g2, g3, ⟨ws, eo, rl⟩, g5, g6⟩ := s'.own i _ _ hΓ
    subst eo
    refine ⟨.ref p, g1, p, ws, 0, 0, rfl, rfl, g3, ixN0 (by rw [← rl.length]; exact pos0), ?_⟩
    exact (hr y).out en F' σ _ D (s'.mut hΓ g1 ⟨_, rfl, RepL.set r 0 rl⟩) (wpR_mono q (fun o z => z.up e') fun _ z => z.up e')) fun _ z => z))⟩
end
end Py

/-! Own layer, part L: expressions that change a state on the way (a lent list). m : R (value × state). -/
namespace Py
open PySem PySem.Spec PyProof.Rows L2
section
variable {X : Cx} {U : Wi} {S : Type} {α β γ τ : Type} {ρ1 : Rp α} {ρ2 : Rp β} {ρ : Rp γ} {t : Tr τ} {a b e : Expr} {es : List Expr} {pos p : Pos}
abbrev ES (X : Cx) (U : Wi) {S : Type} (Γs : S → List Sl) (s : S) (e : Expr) {α : Type} (ρ : Rp α) (m : R (α × S)) : Prop := EG X U (Γs s) e ρ m (fun w => w.1) fun w => Γs w.2
abbrev AS (X : Cx) (U : Wi) {S : Type} (Γs : S → List Sl) (s : S) (es : List Expr) {τ : Type} (t : Tr τ) (m : R (τ × S)) : Prop := AG X U (Γs s) es t m (fun w => w.1) fun w => Γs w.2
variable {Γs : S → List Sl} {s : S}
theorem es_of {m : R γ} (h : EX X U (Γs s) e ρ m) : ES X U Γs s e ρ (m.bind fun x => .ok (x, s)) :=
  ⟨fun en F σ H Q sa q => h.out en F σ H Q sa (wpR_mono (wpR_bind q) (fun x k => k) fun _ z => z)⟩
theorem es_bin {op : Operator} {r : R2} {mr : α → β → R γ} (ho : OpR X (binaryOp op) r) (hd : D2 r ρ1 ρ2 ρ mr) {m1 : R (α × S)} {m2 : S → R (β × S)} (ha : ES X U Γs s a ρ1 m1) (hb : ∀ s', ES X U Γs s' b ρ2 (m2 s')) :
    ES X U Γs s (.BinOp a op b pos) ρ (m1.bind fun w1 => (m2 w1.2).bind fun w2 => (mr w1.1 w2.1).calm.bind fun z => .ok (z, w2.2)) :=
  g_bin ho hd (fun _ w2 z => (z, w2.2)) (fun _ _ _ => rfl) (fun _ _ _ => rfl) ha fun w1 => hb w1.2
theorem es_cmp {op : CmpOp} {r : R2} {mr : α → β → R γ} (ho : OpR X (compareOp op) r) (hd : D2 r ρ1 ρ2 ρ mr) {m1 : R (α × S)} {m2 : S → R (β × S)} (ha : ES X U Γs s a ρ1 m1) (hb : ∀ s', ES X U Γs s' b ρ2 (m2 s')) (hm : behindInMarks op b = false := by first | exact nomark _ | rfl) :
    ES X U Γs s (.Compare a [op] [b] pos) ρ (m1.bind fun w1 => (m2 w1.2).bind fun w2 => (mr w1.1 w2.1).calm.bind fun z => .ok (z, w2.2)) :=
  g_cmp ho hd hm (fun _ w2 z => (z, w2.2)) (fun _ _ _ => rfl) (fun _ _ _ => rfl) ha fun w1 => hb w1.2
theorem es_ix {r : R2} {mr : α → β → R γ} (hr : IxR X r) (hd : D2 r ρ1 ρ2 ρ mr) {m1 : R (α × S)} {m2 : S → R (β × S)} (ha : ES X U Γs s a ρ1 m1) (hb : ∀ s', ES X U Γs s' b ρ2 (m2 s')) (hs : PlainIx b := by exact fun _ _ => rfl) :
    ES X U Γs s (.Subscript a b pos) ρ (m1.bind fun w1 => (m2 w1.2).bind fun w2 => (mr w1.1 w2.1).calm.bind fun z => .ok (z, w2.2)) :=
  g_ix hr hd hs (fun _ w2 z => (z, w2.2)) (fun _ _ _ => rfl) (fun _ _ _ => rfl) ha fun w1 => hb w1.2
theorem as_one {m : R (α × S)} (ha : ES X U Γs s a ρ1 m) (hs : starEach [a] X.env = (false, eval a X.env) :: starEach [] X.env := by rfl) : AS X U Γs s [a] (t1 ρ1) m :=
  ⟨fun en F σ H Q sa h => wA_of (pa_cons wE_pe pa_nil hs) (ha.out en F σ H _ sa (wpR_mono h (fun w k v F1 H1 e1 s1 r1 => k [v] F1 H1 e1 s1 ⟨v, rfl, r1⟩) fun _ z => z))⟩
theorem as_cons {m1 : R (α × S)} {m2 : S → R (τ × S)} (ha : ES X U Γs s a ρ1 m1) (hb : ∀ s', AS X U Γs s' es t (m2 s')) (hs : starEach (a :: es) X.env = (false, eval a X.env) :: starEach es X.env := by rfl) :
    AS X U Γs s (a :: es) (tc ρ1 t) (m1.bind fun w1 => (m2 w1.2).bind fun w2 => .ok ((w1.1, w2.1), w2.2)) :=
  g_acons (t' := tc ρ1 t) (ω2 := τ × S) (val := fun w : (α × τ) × S => w.1) (v2 := fun _ w => w.1) (Γ' := fun w => Γs w.2) (pk := fun (w1 : α × S) (w2 : τ × S) => ((w1.1, w2.1), w2.2)) (fun w1 w2 F v vs r q => ⟨v, vs, rfl, r, q⟩) (fun _ _ => rfl) ha (fun w1 => hb w1.2) hs
theorem es_tup {m : R (τ × S)} {k : Nat} (h : AS X U Γs s es t m) (hn : ∀ w F vs, t.rep w F vs → vs.length ≤ sizeLine) : ES X U Γs s (.Tuple es k pos) (rTu t) m := g_tup h fun w => hn w.1
variable {k : Nat} {f : Addr} {fd : FuncData} {ps : List Str} {n nf : Str} {p2 : Pos}
/-- a call that changes the list in slot i -/
theorem es_callM {σl : Type} {ρl : Rp σl} {fm : List σl → τ → R (γ × List σl)} {m : R (τ × S)} {a0 : Option Addr} (i : Nat) (get : S → List σl) (put : S → List σl → S) (G : FnOk X.prog X.w X.K X.mg X.base (L2.CX X.prog X.w) k f fd ps (SpM ρl t ρ fm)) (hr : Room k X.A) (hm : X.mg nf = some (.ref f)) (hk : PySem.W.keepIn X.K (.ref f) = true) (hb : Binds X.K fd ps []) (tk : Takes X U.W)
    (ha : AS X U Γs s es t m) (hΓ : ∀ s, (Γs s)[i]? = some (.own a0 (oLi (tl ρl) (get s)))) (hp : ∀ s l, (Γs s).set i (.own a0 (oLi (tl ρl) l)) = Γs (put s l)) (hN : X.N[i]? = some n := by rfl) (hv : Vis X.env.scope n := by first | exact Or.inl rfl | exact Or.inr (Or.inl rfl) | exact Or.inr (Or.inr rfl)) (hd : (n == ("__debug__" : Str)) = false := by decide) (hcd : (n == ("__classdict__" : Str)) = false := by decide)
    (hg : Gl X nf := by rfl) (hdb : (nf == ("__debug__" : Str)) = false := by decide) (he : starEach (.Name n p2 :: es) X.env = (false, eval (.Name n p2) X.env) :: starEach es X.env := by rfl) (hpl : (backTo pos (starEach es X.env)).any (·.1) = false := by rfl) :
    ES X U Γs s (.Call (.Name nf p) (.Name n p2 :: es) [] pos) ρ (m.bind fun w => (fm (get w.2) w.1).calm.bind fun z => .ok (z.1, put w.2 z.2)) :=
  ⟨fun en F σ H Q sa h => wE_of (pe_callSD G hr hg hm hk hb .nil (fun σ => passAt tk σ) (pa_cons (pe_var hN hv hd hcd) wA_pa he) hdb he hpl) (by
    obtain ⟨q, o, g1, g2, g3, ⟨ws, eo, rl⟩, g5, g6⟩ := sa.own i _ _ (hΓ s)
    refine ⟨.ref q, g1, ha.out en F σ H _ sa (wpR_mono (wpR_bind h) (fun w kk us F1 H1 e1 s1 r1 => ?_) fun _ z => z)⟩
    obtain ⟨q1, o1, f1, f2, f3, ⟨ws1, eo1, rl1⟩, f5, f6⟩ := s1.own i _ _ (hΓ w.2)
    rw [g1] at f1
    injection f1 with f1
    injection f1 with f1
    injection f1 with f1
    subst f1
    subst eo1
    refine ⟨F1, q, get w.2, ws1, w.1, us, s1.sub, f2, f3, rl1, by rw [List.append_nil], r1, wpR_mono (wpR_calm (wpR_bind kk)) (fun z k v F' H' ws' ex hf ho rr rv => ?_) fun _ z => z⟩
    have s2 := s1.lent (hΓ w.2) g1 ex hf ho rr
    rw [hp] at s2
    exact k v F' H' (e1.trans ex.f) s2 rv)⟩
end
end Py

/-! Own layer, part M: statements whose expression changes a state on the way. -/
namespace Py
open PySem PySem.Spec PyProof.Rows L2
section
variable {X : Cx} {U : Wi} {S : Type} {α β γ τ ω κ ν : Type} {ρ : Rp α} {π : Rp β} {t : Tr τ} {a b e c : Expr} {es : List Expr} {rest A B : List Stmt} {pos : Pos} {I : ω → Kd} {n : Str} {Γs : S → List Sl} {s : S}
theorem p_setS {p' : Pos} {m : R (α × S)} {k : α × S → R ω} (i : Nat) (hN : X.N.Nodup) (he : ES X U Γs s e ρ m) (hr : ∀ w, SX X U ((Γs w.2).set i (im ρ w.1)) rest I (k w)) (hn : X.N[i]? = some n := by rfl)
    (hx : Loc X.env.scope n := by first | exact Or.inl rfl | exact Or.inr rfl) (hs : swapsWith e (some (.Name n p')) pos.line X.env = pure false := by rfl) (hf : X.fn n = true ∨ X.env.scope.names.lookup n = some .local := by first | exact .inl rfl | exact .inr rfl) :
    SX X U (Γs s) (.Assign [.Name n p'] e pos :: rest) I (m.bind k) := s_set i hN he hr hn hx hs hf
theorem p_retS {m : R (α × S)} (mk : α × S → ω) (P : α × S → List Sl) (e1 : ∀ w, (I (mk w)).cut = .rt ⟨fun H v => ρ.rep w.1 H v, fun e h => ρ.mono e h⟩ (P w)) (l : ∀ w, Le (P w) (Γs w.2)) (he : ES X U Γs s e ρ m) :
    SX X U (Γs s) (.Return (some e) pos :: rest) I (m.bind fun w => .ok (mk w)) := s_last (g_ret mk P e1 l he)
theorem s_appendS {ρl : Rp α} {a0 : Option Addr} {p ap cp : Pos} {xs : List α} {m : R (α × S)} {k : α × S → R ω} (i : Nat) (he : ES X U Γs s e ρl m) (hr : ∀ w, SX X U ((Γs w.2).set i (.own a0 (oLi (tl ρl) (xs ++ [w.1])))) rest I (k w)) (hΓ : ∀ s, (Γs s)[i]? = some (.own a0 (oLi (tl ρl) xs)) := by exact fun _ => rfl) (hN : X.N[i]? = some n := by rfl)
    (hv : Vis X.env.scope n := by first | exact Or.inl rfl | exact Or.inr (Or.inl rfl) | exact Or.inr (Or.inr rfl)) (hd : (n == ("__debug__" : Str)) = false := by decide) (hcd : (n == ("__classdict__" : Str)) = false := by decide)
    (h1 : starEach [e] X.env = (false, eval e X.env) :: starEach [] X.env := by rfl)
    (hpe : ∀ to t, PE X (.Name n p) to → PA X [e] t → PE X (.Call (.Attribute (.Name n p) "append" ap) [e] [] cp) (tBM X.K "list" rAppend to t) := by exact fun _ _ ho ha => pe_bm PySem.F.plainAttrs_list PySem.F.slot_list_append PySem.F.type_list_append mt_append ho ha)
    (hs : swapsWith (.Call (.Attribute (.Name n p) "append" ap) [e] [] cp) none pos.line X.env = pure false := by rfl) :
    SX X U (Γs s) (.Expr (.Call (.Attribute (.Name n p) "append" ap) [e] [] cp) pos :: rest) I (m.bind fun w => (chk (xs.length < sizeLine) ()).bind fun _ => k w) :=
  ⟨fun en F σ H D sa h => wSs_of (pss_cons (ps_expr (hpe _ _ (pe_var hN hv hd hcd) (pa_cons wE_pe pa_nil h1)) hs) wSs_pss) (by
    obtain ⟨p, o, g1, g2, g3, ⟨vs, eo, rl⟩, g5, g6⟩ := sa.own i _ _ (hΓ s)
    subst eo
    refine ⟨.ref p, g1, .inl ⟨rfl, _, .inl (.inl g3)⟩, he.out en F σ H _ sa (wpR_mono (wpR_bind h) (fun w q u F1 H1 e1 s1 ry => ?_) fun _ z => z)⟩
    obtain ⟨p1, o1, f1, f2, f3, ⟨ws, eo, rl1⟩, f5, f6⟩ := s1.own i _ _ (hΓ w.2)
    subst eo
    have ep : p1 = p := by
      rw [g1] at f1
      injection f1 with f1
      injection f1 with f1
      injection f1 with f1
      exact f1.symm
    subst ep
    obtain ⟨hl, q⟩ := wpR_chk (wpR_bind q)
    refine ⟨p1, ws, u, rfl, rfl, f3, by rw [← rl1.length]; exact hl, ?_⟩
    exact (hr w).out en F1 σ _ D (s1.mut (P' := oLi (tl ρl) (xs ++ [w.1])) (hΓ w.2) f1 ⟨ws ++ [u], rfl, rl1.append (.cons ry .nil)⟩) (wpR_mono q (fun o z => z.up e1) fun _ z => z.up e1))⟩
/-- range(e), e changing a state -/
theorem i_range1S {tg : Expr} {p : Pos} {m : R (Int × S)} (hm : X.mg "range" = none) (h : AS X U Γs s [a] (t1 rI) m) (hg : Gl X "range" := by rfl) (hs : starEach [a] X.env = [(false, eval a X.env)] := by rfl) :
    IG X U (Γs s) tg (.Call (.Name "range" p) [a] [] pos) rI (m.bind fun w => chk (-(2 ^ 62) ≤ w.1 ∧ w.1 < 2 ^ 62) (rangeI 0 w.1, w.2)) (fun w => w.1) fun w => Γs w.2 :=
  ⟨fun en F σ H R sa q => wI_of (pi_range1 hg hm wA_pa hs) (h.out en F σ H _ sa (wpR_mono (wpR_bind q) (fun n k vs F' H' e1 s1 ⟨v, ev, r⟩ => by
    obtain ⟨⟨b1, b2⟩, k⟩ := wpR_chk k
    refine ⟨n.1, by rw [ev, show v = V.int n.1 from r], b1, b2, k _ F' H' e1 s1 ?_⟩
    have w := wk_range (F := F') (lo := 0) (hi := n.1)
    rw [Int.sub_zero] at w
    exact w) fun _ z => z))⟩
theorem p_forSt {σt : Type} {Γ : List Sl} {tg iter : Expr} {body : List Stmt} {m : R (List α × S)} {vs : List Nat} {g : α → List Sl → List Sl} {k : σt → R ω} (Γl : σt → List Sl) (f : σt → α → R σt) (s0 : S → σt) (hp : PassesOwn (model X.prog X.w) X.A X.env X.xe) (hi : IG X U Γ tg iter ρ m (fun w => w.1) fun w => Γs w.2) (hg : GT X tg ρ vs g)
    (hb : ∀ st x, SX X U (g x (Γl st)) body (fun s' => .go (Γl s')) (f st x)) (h0 : ∀ s, Le (Γl (s0 s)) (Γs s)) (hr : ∀ st, SX X U (Γl st) rest I (k st)) (hc : X.calm = true := by rfl) (hs : ∀ x, foldedSetIterable iter X.env x = pure x := by intro _; rfl) :
    SX X U Γ (.For tg iter body [] pos :: rest) I (m.bind fun w => (forR f w.1 (s0 w.2)).bind k) := by
  have h := s_cons (g_forR (pos := pos) Γl (fun _ => f) (fun w : List α × S => s0 w.2) hi hg (fun _ => hb) (fun w => h0 w.2) hp hc hs) (fun s => Cont.nx (hr s))
  exact h.cv (by cases m <;> rfl)
end
end Py

/-! Own layer, part N: defs that give a new object; more expressions and statements with a state. -/
namespace Py
open PySem PySem.Spec PyProof.Rows L2

/-! ### a def that gives a new object -/
theorem Frs.le {en : En} {Γ Γ' : List Sl} {F H : Hp} {σ : L2.St} {p : Addr} {o : HO} (h : Frs en Γ F σ H p o) (l : Le Γ' Γ) : Frs en Γ' F σ H p o :=
  ⟨h.f, h.e, fun i a P hi => (l.get hi).elim (fun z => by cases z) fun z => h.n i a P z, h.h⟩
theorem Le.any : ∀ {Γ : List Sl} (i : Nat), Le (Γ.set i .any) Γ
  | [], _ => .nil
  | _ :: _, 0 => .cons .any Le.refl
  | _ :: _, i + 1 => .cons .rfl (Le.any i)
section
variable {X : Cx} {U : Wi} {Γ : List Sl} {e : Expr} {rest : List Stmt} {pos p : Pos} {α ω : Type} {I : ω → Kd} {n : Str}
end
section
variable {P : Program} {w : World} {K : PySem.W.Frag} {mg : Str → Option Value} {base : Heap}
end
section
variable {X : Cx} {U : Wi} {Γ : List Sl} {a : Expr} {es : List Expr} {pos p : Pos} {τ γ : Type} {t : Tr τ} {k : Nat} {f : Addr} {fd : FuncData} {ps : List Str} {n : Str}
end

theorem RepL.erase {α : Type} {ρ : Rp α} {H : Hp} : ∀ {as : List α} {vs : List V} (i : Nat), RepL ρ H as vs → RepL ρ H (as.eraseIdx i) (vs.eraseIdx i)
  | _, _, _, .nil => .nil
  | _, _, 0, .cons _ t => t
  | _, _, i + 1, .cons r t => .cons r (RepL.erase i t)

/-! ### more expressions with a state -/
section
variable {X : Cx} {U : Wi} {S : Type} {α β γ τ ω ω' : Type} {ρ1 : Rp α} {ρ2 : Rp β} {ρ : Rp γ} {t : Tr τ} {a b c e : Expr} {es : List Expr} {A B rest : List Stmt} {pos p : Pos} {Γs : S → List Sl} {s : S} {I : ω → Kd} {I' : ω' → Kd} {n : Str}
theorem as_nil : AS X U Γs s [] t0 (.ok ((), s)) := ⟨fun en F σ H Q sa h => wA_of pa_nil (h [] F H (Same.refl F) sa rfl)⟩
/-- displays of one type -/
theorem as_n0 : AS X U Γs s [] (tn ρ1 0) (.ok ([], s)) := ⟨fun en F σ H Q sa h => wA_of pa_nil (h [] F H (Same.refl F) sa ⟨.nil, rfl⟩)⟩
theorem as_nc {k : Nat} {m1 : R (α × S)} {m2 : S → R (List α × S)} (ha : ES X U Γs s a ρ1 m1) (hb : ∀ s', AS X U Γs s' es (tn ρ1 k) (m2 s')) (hs : starEach (a :: es) X.env = (false, eval a X.env) :: starEach es X.env := by rfl) :
    AS X U Γs s (a :: es) (tn ρ1 (k + 1)) (m1.bind fun w1 => (m2 w1.2).bind fun w2 => .ok (w1.1 :: w2.1, w2.2)) :=
  g_acons (t' := tn ρ1 (k + 1)) (ω2 := List α × S) (val := fun w : List α × S => w.1) (v2 := fun _ w => w.1) (Γ' := fun w => Γs w.2) (pk := fun (w1 : α × S) (w2 : List α × S) => (w1.1 :: w2.1, w2.2)) (fun w1 w2 F v vs (r : ρ1.rep w1.1 F v) (q : (tn ρ1 k).rep w2.1 F vs) => ⟨.cons r q.1, congrArg (· + 1) q.2⟩) (fun _ _ => rfl) ha (fun w1 => hb w1.2) hs
theorem fs_list {k : Nat} {m : R (List α × S)} (h : AS X U Γs s es (tn ρ1 k) m) (hk : k ≤ 1000 := by decide) : FG X U (Γs s) (.List es pos) (fun w : List α × S => oLi (tl ρ1) w.1) m (fun w => Γs w.2) :=
  ⟨fun en F σ H Q sa q => (f_lst (val := fun w : List α × S => w.1) h (fun w F vs r => sz r.2 hk)).out en F σ H Q sa (wpR_mono q (fun w kk p o F' H' e1 s1 fr ⟨vs, e, r⟩ => kk p o F' H' e1 s1 fr ⟨vs, e, r.1⟩) fun _ z => z)⟩
theorem es_frz {m : R (τ × S)} (h : FG X U (Γs s) e (fun w : τ × S => oLi t w.1) m (fun w => Γs w.2)) : ES X U Γs s e (rLi t) m := x_frz (val := fun w : τ × S => w.1) h
theorem es_map {π : Rp β} {m : R (γ × S)} (f : γ → β) (hf : ∀ x F v, ρ.rep x F v → π.rep (f x) F v) (h : ES X U Γs s e ρ m) : ES X U Γs s e π (m.bind fun w => .ok (f w.1, w.2)) :=
  ⟨fun en F σ H Q sa q => h.out en F σ H Q sa (wpR_mono (wpR_bind q) (fun w k v F' H' e1 s1 r => k v F' H' e1 s1 (hf _ _ _ r)) fun _ z => z)⟩
variable {id T : String} {r : List V → Hp → VK → Prop}
theorem es_callB {mr : τ → R γ} {m : R (τ × S)} (hc : CallR X (.builtin id) r) (hd : DC r t ρ mr) (hm : X.mg n = none) (hv : bootBuiltins n = some (.builtin id)) (ha : AS X U Γs s (a :: es) t m) (hg : Gl X n := by rfl)
    (hn : n ≠ "__name__" := by decide) (hdb : (n == ("__debug__" : Str)) = false := by decide) (he : starEach (a :: es) X.env = (false, eval a X.env) :: starEach es X.env := by rfl) (hpl : (backTo pos (starEach es X.env)).any (·.1) = false := by rfl) :
    ES X U Γs s (.Call (.Name n p) (a :: es) [] pos) ρ (m.bind fun w => (mr w.1).calm.bind fun z => .ok (z, w.2)) :=
  ⟨fun en F σ H Q sa h => wE_of (pe_callB hc hg hm hv wA_pa hn hdb he hpl) (g_dataC hd (v1 := fun w : τ × S => w.1) (Γ1 := fun w => Γs w.2) (val := fun w : γ × S => w.1) (Γ' := fun w => Γs w.2) (fun (w : τ × S) z => (z, w.2)) (fun _ _ => rfl) (fun _ _ => rfl) ha sa h)⟩
/-! ### more statements with a state -/
end
end Py
namespace Py
open PySem PySem.Spec PyProof.Rows L2
theorem chk_calmP {c : Prop} [Decidable c] {α : Type} {a : α} : (chk c a).calm = chk c a := by
  unfold chk
  by_cases h : c
  · rw [if_pos h] <;> rfl
  · rw [if_neg h] <;> rfl
theorem opt_calmP {α : Type} {o : Option α} : (ofOpt o).calm = ofOpt o := by cases o <;> rfl
section
variable {X : Cx} {U : Wi} {S : Type} {α ω : Type} {ρ : Rp α} {a b : Expr} {rest : List Stmt} {pos : Pos} {Γs : S → List Sl} {s : S} {Γ : List Sl} {I : ω → Kd} {n : Str}
end
end Py
namespace Py
open PySem PySem.Spec PyProof.Rows L2
section
variable {X : Cx} {U : Wi} {Γ : List Sl} {α : Type} {ρ : Rp α} {a : Expr} {pos : Pos}
/-- isinstance(a, (T1, T2)), built-in classes -/
theorem x_isi2 {m : R α} {c : α → String} {T1 T2 : String} {n1 n2 : Str} {p p2 p3 tp : Pos} {kk : Nat} (f1 f2 : α → Bool) (ht : Ty ρ c) (hf1 : ∀ x, kitB (c x) T1 = some (f1 x)) (hf2 : ∀ x, kitB (c x) T2 = some (f2 x)) (hm : X.mg "isinstance" = none) (hn1 : X.mg n1 = none) (hn2 : X.mg n2 = none) (hv1 : bootBuiltins n1 = some (.type T1)) (hv2 : bootBuiltins n2 = some (.type T2)) (ha : EX X U Γ a ρ m)
    (hg : Gl X "isinstance" := by rfl) (hg1 : Gl X n1 := by rfl) (hg2 : Gl X n2 := by rfl) (hnn1 : n1 ≠ "__name__" := by decide) (hnd1 : (n1 == ("__debug__" : Str)) = false := by decide) (hnn2 : n2 ≠ "__name__" := by decide) (hnd2 : (n2 == ("__debug__" : Str)) = false := by decide)
    (hs1 : starEach [.Name n1 p2, .Name n2 p3] X.env = (false, eval (.Name n1 p2) X.env) :: starEach [.Name n2 p3] X.env := by rfl) (hs2 : starEach [.Name n2 p3] X.env = (false, eval (.Name n2 p3) X.env) :: starEach [] X.env := by rfl)
    (he : starEach [a, .Tuple [.Name n1 p2, .Name n2 p3] kk tp] X.env = (false, eval a X.env) :: starEach [.Tuple [.Name n1 p2, .Name n2 p3] kk tp] X.env := by rfl) (he2 : starEach [.Tuple [.Name n1 p2, .Name n2 p3] kk tp] X.env = (false, eval (.Tuple [.Name n1 p2, .Name n2 p3] kk tp) X.env) :: starEach [] X.env := by rfl) (hpl : (backTo pos (starEach [.Tuple [.Name n1 p2, .Name n2 p3] kk tp] X.env)).any (·.1) = false := by rfl) :
    EX X U Γ (.Call (.Name "isinstance" p) [a, .Tuple [.Name n1 p2, .Name n2 p3] kk tp] [] pos) rB (m.bind fun x => .ok (f1 x || f2 x)) :=
  ⟨fun en F σ H Q s h => wE_of (pe_callB call_isiT hg hm boot_isinstance (pa_cons wE_pe (pa_cons (pe_tup (pa_cons (pe_bltn (v := .ty T1) hg1 hn1 hv1 rfl hnn1 hnd1) (pa_cons (pe_bltn (v := .ty T2) hg2 hn2 hv2 rfl hnn2 hnd2) pa_nil hs2) hs1)) pa_nil he2) he) (by decide) (by decide) he hpl) (ha.out en F σ H _ s (wpR_mono (wpR_bind h) (fun x k v F1 H1 e1 s1 r1 =>
    ⟨by show (2 : Nat) ≤ sizeLine; rw [sizeLine_eq]; decide, fun q hq => ⟨v, q, [.ty T1, .ty T2], _, [.type T1, .type T2], f1 x || f2 x, rfl, upd_same, .cons (.ty T1) (.cons (.ty T2) .nil), (ht.out X.K _ x v (ρ.mono (s1.sub.trans (Same.upd hq)) r1)), (by
      show PySem.W.kitAny X.K (.type (c x)) [.type T1, .type T2] = _
      unfold PySem.W.kitAny
      rw [kit_ty (hf1 x)]
      cases f1 x with
      | true => rfl
      | false =>
        simp only [PySem.W.kitAny]
        rw [kit_ty (hf2 x)]
        cases f2 x <;> rfl), k _ F1 _ e1 (s1.ext (Ext.lay s1.sub hq)) rfl⟩⟩) fun _ z => z))⟩
end
end Py

/-! Own layer, part O: an own list or dict is read as a whole, while it stays one's own. -/
namespace Py
open PySem PySem.Spec PyProof.Rows L2
/-- what of it looks at tuples alone -/
structure TO {α : Type} (ρ : Rp α) : Prop where
  out : ∀ a (F F' : Hp) v, (∀ q vs, F q = some (.tup vs) → F' q = some (.tup vs)) → ρ.rep a F v → ρ.rep a F' v
theorem toS : TO rS := ⟨fun _ _ _ _ _ h => h⟩
section
variable {en : En} {Γ : List Sl} {F H : Hp} {σ : L2.St} {i : Nat} {a0 : Option Addr} {P : ORp} {Q : PRp}
/-- p is forgotten -/
def less (F : Hp) (p : Addr) : Hp := fun q => if q = p then none else F q
end
section
variable {X : Cx} {U : Wi} {Γ : List Sl} {e : Expr} {α τ : Type} {ρ : Rp α} {t : Tr τ} {a0 : Option Addr} {P : ORp} {Q : PRp}
end
end Py

/-! Own layer, part P: slices of tuples. -/
namespace Py
open PySem PySem.Spec PyProof.Rows L2
section
variable {X : Cx} {U : Wi} {S : Type} {Γ : List Sl} {Γs : S → List Sl} {s : S} {α : Type} {ρ : Rp α} {a b : Expr} {pos : Pos}
end
end Py
namespace Py
open PySem PySem.Spec PyProof.Rows L2
/-! ### the keys of a new dict are walked: it is locked for good -/
theorem RepD.keys {κ ν : Type} {ρ : Rp κ} {ky : Ky ρ} {π : Rp ν} {F : Hp} : ∀ {xs : List (κ × ν)} {kvs : List (List Key × V)}, RepD ky π F xs kvs → kvs.map Prod.fst = xs.map fun q => ky.enc q.1
  | _, _, .nil => rfl
  | _, _, .cons r t => by rw [List.map_cons, List.map_cons, RepD.keys t]
section
variable {X : Cx} {U : Wi} {Γ : List Sl} {tg e : Expr} {κ ν : Type} {ρ : Rp κ} {ky : Ky ρ} {π : Rp ν}
variable {n : Str} {pos p p2 : Pos}
end
end Py
namespace Py
open PySem PySem.Spec PyProof.Rows L2
section
variable {X : Cx} {U : Wi} {Γ : List Sl} {γ : Type} {ρ : Rp γ} {n : Str} {pos p : Pos} {k : Nat} {f : Addr} {fd : FuncData} {ps : List Str}
end
end Py

/-! Own layer, part Q: own exception classes: raise, try .. except C as e, isinstance(e, ..). -/
namespace Py
open PySem PySem.Spec PyProof.Rows L2
/-- what a raised class must say -/
structure ExX (K : PySem.W.Frag) (mg : Str → Option Value) (n : Str) (C : Addr) : Prop where
  g : mg n = some (.ref C)
  k : PySem.W.keepIn K (.ref C) = true
  ex : PySem.W.excIn K C [.type "ValueError", .type "Exception", .type "BaseException", .type "object"] "ValueError.__new__" = true
  ty : PySem.W.typeIn K (.ref C) = some (.type "type")
  c : ExcC K C
section
variable {X : Cx} {U : Wi} {Γ : List Sl} {rest : List Stmt} {pos pos2 p p2 : Pos} {ω : Type} {I : ω → Kd} {n m : Str} {C : Addr} {j : Nat}
/-- raise C('..') -/
theorem p_raiseX (T : ExX X.K X.mg n C) (tk : Takes X U.W) (l : Le U.Γ Γ) (hg : Gl X n := by rfl) (hdb : (n == ("__debug__" : Str)) = false := by decide) (hc : X.calm = true := by rfl) :
    SX X U Γ (.Raise (some (.Call (.Name n p) [.Constant (.str m) j p2] [] pos2)) none pos :: rest) I (.er ⟨n, none⟩) :=
  p_raise tk (pmk_own PySem.F.excBase_ValueError T.ex T.g T.k (raises_own T.c.hs T.ty) hg hdb) T.g l hc
end
/-- an exception that is at hand -/
def rExc (a : Addr) : Rp Unit := ⟨fun _ _ v => v = .ref a, fun _ h => h⟩
def catchR {τ : Type} (ct : Str → Option Bool) (mh : Er → R τ) : R τ → R τ
  | .er r => match ct r.cls with
    | some true => if r.fld.isNone = true then (mh r).calm else .bad
    | some false => .er r
    | none => .bad
  | m => m
/-- what is known of the classes of a table -/
structure Ct (mg : Str → Option Value) (ct : Str → Option Bool) (P : Addr → Bool → Prop) : Prop where
  out : ∀ cl b C, ct cl = some b → mg cl = some (.ref C) → P C b
theorem ct_nil {mg : Str → Option Value} {P : Addr → Bool → Prop} : Ct mg (fun _ => none) P := ⟨fun _ _ _ h => nomatch h⟩
theorem ct_cons {mg : Str → Option Value} {P : Addr → Bool → Prop} {n : Str} {C0 : Addr} {b0 : Bool} {ct : Str → Option Bool} (hg : mg n = some (.ref C0)) (h : P C0 b0) (k : Ct mg ct P) : Ct mg (fun s => if s = n then some b0 else ct s) P :=
  ⟨fun cl b C e q => by
    by_cases z : cl = n
    · subst z
      rw [if_pos rfl] at e
      injection e with e
      subst e
      rw [hg] at q
      injection q with q
      injection q with q
      subst q
      exact h
    · rw [if_neg z] at e
      exact k.out cl b C e q⟩
theorem SA.forget {en : En} {Γ : List Sl} {F H : Hp} {σ : L2.St} {i : Nat} (s : SA en Γ F σ H) (hi : ∀ x, Γ[i]? = some x → x = .any) : SA en Γ F (σ.set i none) H := by
  have ne : ∀ {j : Nat} {x : Sl}, Γ[j]? = some x → x ≠ .any → i ≠ j := fun {j x} h k e => by
    subst e
    exact k (hi x h)
  refine ⟨by rw [List.length_set]; exact s.len, s.sub, s.grow, s.old, s.there, s.frz, fun j P h => ?_, fun j a P h => ?_, fun j k a b P Q q hjk hj hk => ?_⟩
  · rw [List.getElem?_set_ne (ne h (fun z => nomatch z))]
    exact s.val j P h
  · rw [List.getElem?_set_ne (ne h (fun z => nomatch z))]
    exact s.own j a P h
  · rw [List.getElem?_set_ne (ne hj (fun z => nomatch z)), List.getElem?_set_ne (ne hk (fun z => nomatch z))]
    exact s.dis j k a b P Q q hjk hj hk
section
variable {X : Cx} {U : Wi} {Γ Γ0 : List Sl} {body suite rest : List Stmt} {b0 : Stmt} {x n : Str} {c : Value} {np pos pos' : Pos} {τ ω : Type} {I : ω → Kd}
/-- try: body except x as n: suite -/
theorem p_tryAs {mb : R τ} {mh : Er → R τ} {k : τ → R ω} (i : Nat) (ct : Str → Option Bool) (Γ0 : List Sl) (Γs : τ → List Sl) (hN : X.N.Nodup) (hcx : X.mg x = some c) (tk : Takes X U.W) (hle : Le U.Γ Γ0) (hct : Ct X.mg ct fun C b => PySem.W.exmOne X.K (.ref C) c = some b)
    (hb : ∀ (W : WX) (pn : List (Addr × Obj)) (xe : Value → Shared → Prop), Takes (X.tr pn xe) W → PassesOwn (model X.prog X.w) X.A X.env xe → SX (X.tr pn xe) ⟨W, Γ0⟩ Γ body (fun s => .nx (Γs s)) mb)
    (hsu : ∀ (a : Addr) (oe : Obj) (cls : Value) (d : Option Addr) (pn : List (Addr × Obj)) (r : Er), Zc cls d oe → (∃ vs, oe.data = .fields vs) → (∃ C, X.mg r.cls = some (.ref C) ∧ cls = .ref C) → d = none → SX (X.suite a ((a, oe) :: pn)) U0 (Γ0.set i (im (rExc a) ())) (b0 :: suite) (fun s => .nx (Γs s)) (mh r))
    (hΓi : ∀ s x, (Γs s)[i]? = some x → x = .any) (hr : ∀ s, SX X U (Γs s) rest I (k s)) (hi : X.N[i]? = some n := by rfl) (hs : X.stack = X.env :: X.outer := by rfl) (hf : X.env.frame = some X.env.locals := by rfl) (hln : X.env.kindOf n = some .local := by rfl) (hg : Gl X x := by rfl) (hdb : (x == ("__debug__" : Str)) = false := by decide) :
    SX X U Γ (.Try body [.ExceptHandler (some (.Name x np)) (some n) (b0 :: suite) pos'] [] [] pos :: rest) I ((catchR ct mh mb).bind k) :=
  ⟨fun en F σ H D s h => wSs_of (pss_cons (ps_try_as (tb := fun W => fun D σ H => ∀ pn xe, Takes (X.tr pn xe) W → PassesOwn (model X.prog X.w) X.A X.env xe → wSs (X.tr pn xe) body D σ H)
      (ts := fun a cls d => fun D σ H => ∀ oe pn, Zc cls d oe → (∃ vs, oe.data = .fields vs) → wSs (X.suite a ((a, oe) :: pn)) (b0 :: suite) D σ H) (Wout := U.W) hs hf hN hi hln ⟨hg, hdb, .inl hcx⟩ tk
      (fun W pn xe tk' hp' => ⟨fun pins s σ H D I h => h pn xe tk' hp' pins s I⟩) (fun a oe cls d pn hz hf => ⟨fun pins s σ H D I h => h oe pn hz hf pins s I⟩)) wSs_pss) (by
    intro pn xe tkW hp
    refine (hb _ pn xe tkW hp).out en F σ H { D with nx := wSs X rest D } s ?_
    cases mb with
    | bad => exact h.elim
    | ok s' => exact fun F' σ' H' e sa => (hr s').out en F' σ' H' D sa (wpR_mono h (fun o z => z.up e) fun _ z => z.up e)
    | er r =>
      refine fun cls d F' σ' H' e sa ho => ?_
      obtain ⟨C, c1, c2, c3⟩ := ho
      show wAs X.K c i (fun a cls d => fun D σ H => ∀ oe pn, Zc cls d oe → (∃ vs, oe.data = .fields vs) → wSs (X.suite a ((a, oe) :: pn)) (b0 :: suite) D σ H) U.W { D with nx := wSs X rest D } cls d σ' H'
      have h' : wpR ((match ct r.cls with | some true => if r.fld.isNone = true then (mh r).calm else .bad | some false => .er r | none => .bad).bind k) (fun o => (I o).sat en F D) (U.ok X.mg en F) := h
      cases hc : ct r.cls with
      | none =>
        rw [hc] at h'
        exact h'.elim
      | some b =>
        have ex := hct.out r.cls b C hc c1
        rw [← c2] at ex
        rw [hc] at h'
        cases b with
        | false =>
          refine ⟨false, ex, (fun z => nomatch z), fun _ => ?_⟩
          have h2 : U.ok X.mg en F r := h'
          exact h2 cls d F' σ' H' e (sa.le hle) ⟨C, c1, c2, c3⟩
        | true =>
          have h3 : wpR ((if r.fld.isNone = true then (mh r).calm else .bad).bind k) (fun o => (I o).sat en F D) (U.ok X.mg en F) := h'
          by_cases hn : r.fld.isNone = true
          case neg =>
            rw [if_neg hn] at h3
            exact h3.elim
          rw [if_pos hn] at h3
          have h' := h3
          have hn' : r.fld = none := by simpa using hn
          refine ⟨true, ex, fun _ a ha oe pn hz hfl => ?_, fun z => nomatch z⟩
          have sa2 := SA.put (i := i) (P := ⟨fun H v => (rExc a).rep () H v, fun e h => (rExc a).mono e h⟩) (v := .ref a) sa rfl
          refine (hsu a oe cls d pn r hz hfl ⟨C, c1, c2⟩ ?_).out en F' _ H' _ sa2 (wpR_mono (wpR_calm (wpR_bind h')) (fun s' q F'' σ'' H'' e' sa' => ?_) fun _ z => z.elim)
          · rw [hn'] at c3
            exact c3
          · show wSs X rest D (σ''.set i none) H''
            exact (hr s').out en F'' _ H'' D (sa'.forget (hΓi s')) (wpR_mono q (fun o z => z.up (e.trans e')) fun _ z => z.up (e.trans e')))⟩
end

/-! ### isinstance(e, ..) -/
section
variable {X : Cx} {U : Wi} {Γ : List Sl} {a : Addr} {oe : Obj} {cls : Value} {d : Option Addr} {pn : List (Addr × Obj)} {r : Er} {n T : Str} {pos p p2 p3 : Pos}
/-- a class's name: a global of the program's or a built-in one -/
structure NmC (X : Cx) (e : Expr) (v : V) (u : Value) : Prop where
  pe : PE X e (tC v)
  cv : ClsV v u
theorem nm_own {C : Addr} (hm : X.mg T = some (.ref C)) (hg : Gl X T := by rfl) (hd : (T == ("__debug__" : Str)) = false := by decide) : NmC X (.Name T p) (.ref C) (.ref C) := ⟨pe_glob hg hm rfl hd, .own C⟩
theorem nm_blt {t : String} (hm : X.mg T = none) (hv : bootBuiltins T = some (.type t)) (hg : Gl X T := by rfl) (hn : T ≠ "__name__" := by decide) (hd : (T == ("__debug__" : Str)) = false := by decide) : NmC X (.Name T p) (.ty t) (.type t) := ⟨pe_bltn (v := .ty t) hg hm hv rfl hn hd, .ty t⟩
inductive NmCs (X : Cx) : List Expr → List V → List Value → Prop
  | nil : NmCs X [] [] []
  | cons {e : Expr} {es : List Expr} {v : V} {vs : List V} {u : Value} {us : List Value} (h : NmC X e v u) (t : NmCs X es vs us) (hs : starEach (e :: es) X.env = (false, eval e X.env) :: starEach es X.env) : NmCs X (e :: es) (v :: vs) (u :: us)
theorem NmCs.pa {X : Cx} : ∀ {es : List Expr} {vs : List V} {us : List Value}, NmCs X es vs us → PA X es (fun σ H Q => Q vs H)
  | _, _, _, .nil => ⟨fun pos pins s σ H Q I h => pa_nil.run pos pins s σ H Q I h⟩
  | _, _, _, .cons h t hs => ⟨fun pos pins s σ H Q I q => (pa_cons h.pe t.pa hs).run pos pins s σ H Q I q⟩
theorem NmCs.clv {X : Cx} : ∀ {es : List Expr} {vs : List V} {us : List Value}, NmCs X es vs us → Paired ClsV vs us
  | _, _, _, .nil => .nil
  | _, _, _, .cons h t _ =>   .cons h.cv t.clv
end
end Py

/-! Own layer, part R: list(reversed(t)). -/
namespace RT
open PySem PySem.Spec PyProof.Rows
section
variable {prog : Program} {w : World} {A : Around} {E : Value → Shared → Prop} {s : Shared}
end
end RT
namespace RT
open PySem PySem.Spec PyProof.Rows L2
section
variable {X : Cx}
end
end RT
namespace Py
open PySem PySem.Spec PyProof.Rows L2
section
variable {X : Cx} {U : Wi} {Γ : List Sl} {a : Expr} {pos p p2 p3 : Pos} {α : Type} {ρ : Rp α}
end
/-! ### defaults -/
end Py

/-! Own layer, part T: values of any kind (numbers, truths, texts, None, tuples and lists of such), zip, min of cells, pop of a dict. -/
namespace Py
open PySem PySem.Spec PyProof.Rows L2
inductive Dy where
  | non
  | int (i : Int)
  | bl (b : Bool)
  | str (s : Str)
  | tup (l : List Dy)
  | lst (l : List Dy)
mutual
def Dy.rp : Dy → Hp → V → Prop
  | .non, _, v => v = .non
  | .int i, _, v => v = .int i
  | .bl b, _, v => v = .bl b
  | .str s, _, v => v = .str s
  | .tup l, H, v => ∃ p ws, v = .ref p ∧ H p = some (.tup ws) ∧ Dy.rps l H ws
  | .lst l, H, v => ∃ p ws, v = .ref p ∧ H p = some (.lst ws) ∧ Dy.rps l H ws
def Dy.rps : List Dy → Hp → List V → Prop
  | [], _, ws => ws = []
  | d :: l, H, ws => ∃ v vs, ws = v :: vs ∧ Dy.rp d H v ∧ Dy.rps l H vs
end
mutual
theorem Dy.rp_mono {H H' : Hp} (e : Same H H') : ∀ {d : Dy} {v : V}, d.rp H v → d.rp H' v
  | .non, _, h => by rw [Dy.rp] at *; exact h
  | .int i, _, h => by rw [Dy.rp] at *; exact h
  | .bl b, _, h => by rw [Dy.rp] at *; exact h
  | .str s, _, h => by rw [Dy.rp] at *; exact h
  | .tup l, v, h => by
    rw [Dy.rp] at *
    obtain ⟨p, ws, e1, e2, e3⟩ := h
    exact ⟨p, ws, e1, e p _ e2, Dy.rps_mono e e3⟩
  | .lst l, v, h => by
    rw [Dy.rp] at *
    obtain ⟨p, ws, e1, e2, e3⟩ := h
    exact ⟨p, ws, e1, e p _ e2, Dy.rps_mono e e3⟩
theorem Dy.rps_mono {H H' : Hp} (e : Same H H') : ∀ {l : List Dy} {ws : List V}, Dy.rps l H ws → Dy.rps l H' ws
  | [], _, h => by rw [Dy.rps] at *; exact h
  | d :: l, ws, h => by
    rw [Dy.rps] at *
    obtain ⟨v, vs, e1, e2, e3⟩ := h
    exact ⟨v, vs, e1, Dy.rp_mono e e2, Dy.rps_mono e e3⟩
end
def rY : Rp Dy := ⟨fun d H v => d.rp H v, fun e h => Dy.rp_mono e h⟩
theorem rps_of {F : Hp} : ∀ {l : List Dy} {ws : List V}, RepL rY F l ws → Dy.rps l F ws
  | _, _, .nil => by rw [Dy.rps]
  | _, _, .cons h t => by
    rw [Dy.rps]
    exact ⟨_, _, rfl, h, rps_of t⟩
theorem of_rps {F : Hp} : ∀ {l : List Dy} {ws : List V}, Dy.rps l F ws → RepL rY F l ws
  | [], ws, h => by
    rw [Dy.rps] at h
    rw [h]
    exact .nil
  | d :: l, ws, h => by
    rw [Dy.rps] at h
    obtain ⟨v, vs, e1, e2, e3⟩ := h
    rw [e1]
    exact .cons e2 (of_rps e3)
theorem yTup_iff {l : List Dy} {F : Hp} {v : V} : rY.rep (.tup l) F v ↔ (rT rY).rep l F v := by
  show Dy.rp (.tup l) F v ↔ _
  rw [Dy.rp]
  exact ⟨fun ⟨p, ws, h1, h2, h3⟩ => ⟨p, ws, h1, h2, of_rps h3⟩, fun ⟨p, ws, h1, h2, h3⟩ => ⟨p, ws, h1, h2, rps_of h3⟩⟩
theorem yLst_iff {l : List Dy} {F : Hp} {v : V} : rY.rep (.lst l) F v ↔ (rL rY).rep l F v := by
  show Dy.rp (.lst l) F v ↔ _
  rw [Dy.rp]
  exact ⟨fun ⟨p, ws, h1, h2, h3⟩ => ⟨p, ws, h1, h2, of_rps h3⟩, fun ⟨p, ws, h1, h2, h3⟩ => ⟨p, ws, h1, h2, rps_of h3⟩⟩
/-! ### into it -/
/-- f tells what a typed thing is as one of any kind -/
structure Yn {α : Type} (ρ : Rp α) (f : α → Dy) : Prop where
  out : ∀ x F v, ρ.rep x F v → rY.rep (f x) F v
structure Yns {τ : Type} (t : Tr τ) (f : τ → List Dy) : Prop where
  out : ∀ x F vs, t.rep x F vs → RepL rY F (f x) vs
theorem yI : Yn rI Dy.int := ⟨fun x F v h => by show Dy.rp _ F v; rw [Dy.rp]; exact h⟩
theorem yB : Yn rB Dy.bl := ⟨fun x F v h => by show Dy.rp _ F v; rw [Dy.rp]; exact h⟩
theorem yS : Yn rS Dy.str := ⟨fun x F v h => by show Dy.rp _ F v; rw [Dy.rp]; exact h⟩
theorem yY : Yn rY fun d => d := ⟨fun x F v h => h⟩
def dyO {α : Type} (f : α → Dy) : Option α → Dy
  | none => .non
  | some x => f x
theorem yO {α : Type} {ρ : Rp α} {f : α → Dy} (h : Yn ρ f) : Yn (rO ρ) (dyO f) := ⟨fun x F v r => by
  cases x with
  | none =>
    show Dy.rp .non F v
    rw [Dy.rp]
    exact r
  | some x => exact h.out x F v r⟩
theorem repL_map {α : Type} {ρ : Rp α} {f : α → Dy} (h : Yn ρ f) {F : Hp} : ∀ {xs : List α} {vs : List V}, RepL ρ F xs vs → RepL rY F (xs.map f) vs
  | _, _, .nil => .nil
  | _, _, .cons r t => .cons (h.out _ _ _ r) (repL_map h t)
theorem yT {α : Type} {ρ : Rp α} {f : α → Dy} (h : Yn ρ f) : Yn (rT ρ) fun xs => .tup (xs.map f) := ⟨fun x F v ⟨p, vs, e1, e2, e3⟩ => yTup_iff.mpr ⟨p, vs, e1, e2, repL_map h e3⟩⟩
theorem yL {α : Type} {ρ : Rp α} {f : α → Dy} (h : Yn ρ f) : Yn (rL ρ) fun xs => .lst (xs.map f) := ⟨fun x F v ⟨p, vs, e1, e2, e3⟩ => yLst_iff.mpr ⟨p, vs, e1, e2, repL_map h e3⟩⟩
theorem y1 {α : Type} {ρ : Rp α} {f : α → Dy} (h : Yn ρ f) : Yns (t1 ρ) fun x => [f x] := ⟨fun x F vs ⟨v, e, r⟩ => by rw [e]; exact .cons (h.out x F v r) .nil⟩
theorem yc {α τ : Type} {ρ : Rp α} {t : Tr τ} {f : α → Dy} {g : τ → List Dy} (h : Yn ρ f) (k : Yns t g) : Yns (tc ρ t) fun x => f x.1 :: g x.2 := ⟨fun x F vs ⟨v, ws, e, r, q⟩ => by rw [e]; exact .cons (h.out _ F v r) (k.out _ F ws q)⟩
theorem yTu {τ : Type} {t : Tr τ} {g : τ → List Dy} (k : Yns t g) : Yn (rTu t) fun x => .tup (g x) := ⟨fun x F v ⟨p, vs, e1, e2, e3⟩ => yTup_iff.mpr ⟨p, vs, e1, e2, k.out x F vs e3⟩⟩
/-! ### out of it -/
structure Yo {α : Type} (ρ : Rp α) (f : Dy → Option α) : Prop where
  out : ∀ d x F v, f d = some x → rY.rep d F v → ρ.rep x F v
structure Yos {τ : Type} (t : Tr τ) (f : List Dy → Option τ) : Prop where
  out : ∀ d x F vs, f d = some x → RepL rY F d vs → t.rep x F vs
def asI : Dy → Option Int
  | .int i => some i
  | _ => none
def asS : Dy → Option Str
  | .str i => some i
  | _ => none
def allM {α : Type} (f : Dy → Option α) : List Dy → Option (List α)
  | [] => some []
  | d :: l => (f d).bind fun x => (allM f l).map fun r => x :: r
def asT {α : Type} (f : Dy → Option α) : Dy → Option (List α)
  | .tup l => allM f l
  | _ => none
def as1 {α : Type} (f : Dy → Option α) : List Dy → Option α
  | [d] => f d
  | _ => none
def asc {α τ : Type} (f : Dy → Option α) (g : List Dy → Option τ) : List Dy → Option (α × τ)
  | d :: l => (f d).bind fun x => (g l).map fun r => (x, r)
  | _ => none
def asTu {τ : Type} (g : List Dy → Option τ) : Dy → Option τ
  | .tup l => g l
  | _ => none
theorem ouI : Yo rI asI := ⟨fun d x F v e h => by
  cases d <;> simp [asI] at e
  subst e
  have h' : Dy.rp _ F v := h
  rw [Dy.rp] at h'
  exact h'⟩
theorem ouS : Yo rS asS := ⟨fun d x F v e h => by
  cases d <;> simp [asS] at e
  subst e
  have h' : Dy.rp _ F v := h
  rw [Dy.rp] at h'
  exact h'⟩
theorem oall {α : Type} {ρ : Rp α} {f : Dy → Option α} (h : Yo ρ f) {F : Hp} : ∀ {l : List Dy} {xs : List α} {vs : List V}, allM f l = some xs → RepL rY F l vs → RepL ρ F xs vs
  | [], xs, _, e, .nil => by
    injection e with e
    rw [← e]
    exact .nil
  | d :: l, xs, _, e, .cons r t => by
    unfold allM at e
    cases e1 : f d with
    | none => rw [e1] at e; cases e
    | some x =>
      rw [e1] at e
      cases e2 : allM f l with
      | none =>
        have e' : ((allM f l).map fun r => x :: r) = some xs := e
        rw [e2] at e'
        cases e'
      | some r2 =>
        have e' : ((allM f l).map fun r => x :: r) = some xs := e
        rw [e2] at e'
        injection e' with e'
        rw [← e']
        exact .cons (h.out _ _ _ _ e1 r) (oall h e2 t)
theorem ouT {α : Type} {ρ : Rp α} {f : Dy → Option α} (h : Yo ρ f) : Yo (rT ρ) (asT f) := ⟨fun d x F v e r => by
  cases d with
  | tup l =>
    obtain ⟨p, ws, h1, h2, h3⟩ := yTup_iff.mp r
    exact ⟨p, ws, h1, h2, oall h e h3⟩
  | _ => cases e⟩
theorem ou1 {α : Type} {ρ : Rp α} {f : Dy → Option α} (h : Yo ρ f) : Yos (t1 ρ) (as1 f) := ⟨fun d x F vs e r => by
  cases r with
  | nil => cases e
  | cons r t =>
    cases t with
    | nil => exact ⟨_, rfl, h.out _ _ _ _ e r⟩
    | cons _ _ => cases e⟩
theorem ouc {α τ : Type} {ρ : Rp α} {t : Tr τ} {f : Dy → Option α} {g : List Dy → Option τ} (h : Yo ρ f) (k : Yos t g) : Yos (tc ρ t) (asc f g) := ⟨fun d x F vs e r => by
  cases r with
  | nil => cases e
  | @cons a as v vs r t =>
    have e0 : ((f a).bind fun y => (g as).map fun r => (y, r)) = some x := e
    cases e1 : f a with
    | none => rw [e1] at e0; cases e0
    | some y =>
      rw [e1] at e0
      have e' : ((g as).map fun r => (y, r)) = some x := e0
      cases e2 : g as with
      | none => rw [e2] at e'; cases e'
      | some z =>
        rw [e2] at e'
        injection e' with e'
        rw [← e']
        exact ⟨_, _, rfl, h.out _ _ _ _ e1 r, k.out _ _ _ _ e2 t⟩⟩
theorem ouTu {τ : Type} {t : Tr τ} {g : List Dy → Option τ} (k : Yos t g) : Yo (rTu t) (asTu g) := ⟨fun d x F v e r => by
  cases d with
  | tup l =>
    obtain ⟨p, ws, h1, h2, h3⟩ := yTup_iff.mp r
    exact ⟨p, ws, h1, h2, k.out _ _ _ _ e h3⟩
  | _ => cases e⟩
section
variable {X : Cx} {U : Wi} {Γ : List Sl} {a b e e2 : Expr} {es : List Expr} {pos p p2 : Pos} {α β : Type} {ρ : Rp α} {π : Rp β}
theorem x_out {f : Dy → Option α} {m : R Dy} (h : Yo ρ f) (ha : EX X U Γ e rY m) : EX X U Γ e ρ (m.bind fun d => ofOpt (f d)) :=
  ⟨fun en F σ H Q s q => ha.out en F σ H Q s (wpR_mono (wpR_bind q) (fun d k v F1 H1 e1 s1 r1 => by
    obtain ⟨x, ex, k⟩ := wpR_opt k
    exact k v F1 H1 e1 s1 (h.out d x F1 v ex r1)) fun _ z => z)⟩
end
/-! ### what may be asked of it -/
def Dy.isN : Dy → Bool
  | .non => true
  | _ => false
def Dy.tag : Dy → String
  | .non => "NoneType"
  | .int _ => "int"
  | .bl _ => "bool"
  | .str _ => "str"
  | .tup _ => "tuple"
  | .lst _ => "list"
def Dy.isInt : Dy → Bool
  | .int _ => true
  | .bl _ => true
  | _ => false
def Dy.isBl : Dy → Bool
  | .bl _ => true
  | _ => false
def Dy.isStr : Dy → Bool
  | .str _ => true
  | _ => false
def Dy.isTup : Dy → Bool
  | .tup _ => true
  | _ => false
def Dy.isLst : Dy → Bool
  | .lst _ => true
  | _ => false
def Dy.len : Dy → Option Int
  | .tup l => some (l.length : Nat)
  | .lst l => some (l.length : Nat)
  | _ => none
def Dy.at : Dy → Int → Option Dy
  | .tup l, i => atI l i
  | .lst l, i => atI l i
  | _, _ => none
def Dy.row : Dy → Option (List Dy)
  | .tup l => some l
  | .lst l => some l
  | _ => none
def Dy.zip : Dy → Dy → Option (List (Dy × Dy))
  | .tup l, .tup m => some (l.zip m)
  | .lst l, .lst m => some (l.zip m)
  | _, _ => none
theorem ky_int (d : Dy) : kitB d.tag "int" = some d.isInt := by cases d <;> (dsimp only [Dy.tag, Dy.isInt]; decide +kernel)
theorem ky_bool (d : Dy) : kitB d.tag "bool" = some d.isBl := by cases d <;> (dsimp only [Dy.tag, Dy.isBl]; decide +kernel)
theorem ky_str (d : Dy) : kitB d.tag "str" = some d.isStr := by cases d <;> (dsimp only [Dy.tag, Dy.isStr]; decide +kernel)
theorem ky_tuple (d : Dy) : kitB d.tag "tuple" = some d.isTup := by cases d <;> (dsimp only [Dy.tag, Dy.isTup]; decide +kernel)
theorem ky_list (d : Dy) : kitB d.tag "list" = some d.isLst := by cases d <;> (dsimp only [Dy.tag, Dy.isLst]; decide +kernel)
theorem tyY : Ty rY Dy.tag := ⟨fun K H d v r => by
  have r' : Dy.rp d H v := r
  cases d with
  | non => rw [Dy.rp] at r'; rw [r']; exact .base .non
  | int i => rw [Dy.rp] at r'; rw [r']; exact .base (.int i)
  | bl i => rw [Dy.rp] at r'; rw [r']; exact .base (.bl i)
  | str i => rw [Dy.rp] at r'; rw [r']; exact .base (.str i)
  | tup l =>
    obtain ⟨p, ws, h1, h2, _⟩ := yTup_iff.mp r
    rw [h1]
    exact .base (.tup h2)
  | lst l =>
    obtain ⟨p, ws, h1, h2, _⟩ := yLst_iff.mp r
    rw [h1]
    exact .base (.lst h2)⟩
theorem dLenY {K : PySem.W.Frag} : DC (rLen K) (t1 rY) rI fun d => ofOpt d.len := fun d vs F H Q e ⟨v, ev, r⟩ h => by
  obtain ⟨n, en, h⟩ := wpR_opt h
  cases d with
  | tup l =>
    obtain ⟨p, ws, e2, hp, rr⟩ := yTup_iff.mp r
    have en' : ((l.length : Nat) : Int) = n := Option.some.inj en
    subst en'
    exact ⟨v, l.length, ev, by rw [e2]; exact .inr ⟨ws, .inl (.inl (e p _ hp)), rr.length⟩, h _ F H (Ext.refl e) rfl⟩
  | lst l =>
    obtain ⟨p, ws, e2, hp, rr⟩ := yLst_iff.mp r
    have en' : ((l.length : Nat) : Int) = n := Option.some.inj en
    subst en'
    exact ⟨v, l.length, ev, by rw [e2]; exact .inl ⟨ws, .inl (.inl (e p _ hp)), rr.length⟩, h _ F H (Ext.refl e) rfl⟩
  | _ => cases en
theorem ix_any {X : Cx} : IxR X (fun x y H Q => rIxT X.K x y H Q ∨ rIxL X.K x y H Q) := fun value slice pins s σ H x y v u Q I rx ry h hs =>
  h.elim (fun h => ix_tup value slice pins s σ H x y v u Q I rx ry h hs) fun h => ix_list value slice pins s σ H x y v u Q I rx ry h hs
theorem dIxY {K : PySem.W.Frag} : D2 (fun x y H Q => rIxT K x y H Q ∨ rIxL K x y H Q) rY rI rY fun d i => ofOpt (d.at i) := fun d i v w F H Q e r rw h => by
  obtain ⟨x, hx, k⟩ := wpR_opt h
  cases d with
  | tup l =>
    obtain ⟨p, vs, ev, hp, rr⟩ := yTup_iff.mp r
    obtain ⟨u, hu, ru⟩ := atI_rep rr hx
    exact .inl ⟨p, vs, i, u, ev, rw, .inl (.inl (e p _ hp)), hu, k u F H (Ext.refl e) ru⟩
  | lst l =>
    obtain ⟨p, vs, ev, hp, rr⟩ := yLst_iff.mp r
    obtain ⟨u, hu, ru⟩ := atI_rep rr hx
    exact .inr ⟨p, vs, i, u, ev, rw, .inl (.inl (e p _ hp)), hu, k u F H (Ext.refl e) ru⟩
  | _ => cases hx
mutual
def Dy.dat : Dy → PyData
  | .non => .none
  | .int i => .int i
  | .bl b => .bool b
  | .str s => .str s
  | .tup l => .tuple (Dy.dats l)
  | .lst l => .list (Dy.dats l)
def Dy.dats : List Dy → List PyData
  | [] => []
  | d :: l => Dy.dat d :: Dy.dats l
end
mutual
theorem Dy.dp {K : PySem.W.Frag} {H : Hp} : ∀ {d : Dy} {v : V}, d.rp H v → Dp K H v d.dat
  | .non, _, h => by rw [Dy.rp] at h; rw [h, Dy.dat]; exact .non
  | .int i, _, h => by rw [Dy.rp] at h; rw [h, Dy.dat]; exact .int i
  | .bl b, _, h => by rw [Dy.rp] at h; rw [h, Dy.dat]; exact .bl b
  | .str s, _, h => by rw [Dy.rp] at h; rw [h, Dy.dat]; exact .str s
  | .tup l, v, h => by
    rw [Dy.rp] at h
    obtain ⟨p, ws, e1, e2, e3⟩ := h
    rw [e1, Dy.dat]
    exact .tup (.inl (.inl e2)) (Dy.dps e3)
  | .lst l, v, h => by
    rw [Dy.rp] at h
    obtain ⟨p, ws, e1, e2, e3⟩ := h
    rw [e1, Dy.dat]
    exact .lst (.inl (.inl e2)) (Dy.dps e3)
theorem Dy.dps {K : PySem.W.Frag} {H : Hp} : ∀ {l : List Dy} {ws : List V}, Dy.rps l H ws → DpAll K H ws (Dy.dats l)
  | [], _, h => by rw [Dy.rps] at h; rw [h, Dy.dats]; exact .nil
  | d :: l, ws, h => by
    rw [Dy.rps] at h
    obtain ⟨v, vs, e1, e2, e3⟩ := h
    rw [e1, Dy.dats]
    exact .cons (Dy.dp e2) (Dy.dps e3)
end
/-- x == y, as Python tells it -/
def Dy.eqv (x y : Dy) : Bool := PyData.eqv x.dat y.dat
def Dy.shp (x : Dy) : Bool := SeqAt.shaped x.dat
theorem dEqY {K : PySem.W.Frag} : D2 (rEqD K) rY rY rB fun x y => chk (x.shp = true ∧ y.shp = true) (x.eqv y) := fun x y v w F H Q e rv rw q => by
  obtain ⟨⟨s1, s2⟩, q⟩ := wpR_chk q
  exact ⟨_, _, Dy.dp (Dy.rp_mono e rv), Dy.dp (Dy.rp_mono e rw), s1, s2, q _ F H (Ext.refl e) rfl⟩
theorem dNeY {K : PySem.W.Frag} : D2 (rNeD K) rY rY rB fun x y => chk (x.shp = true ∧ y.shp = true) (!x.eqv y) := fun x y v w F H Q e rv rw q => by
  obtain ⟨⟨s1, s2⟩, q⟩ := wpR_chk q
  exact ⟨_, _, Dy.dp (Dy.rp_mono e rv), Dy.dp (Dy.rp_mono e rw), s1, s2, q _ F H (Ext.refl e) rfl⟩
/-! ### zip -/
theorem zip_get {α β : Type} : ∀ {xs : List α} {ys : List β} {i : Nat} {z : α × β}, (xs.zip ys)[i]? = some z → xs[i]? = some z.1 ∧ ys[i]? = some z.2
  | [], _, _, _, h => by simp at h
  | _ :: _, [], _, _, h => by simp at h
  | x :: xs, y :: ys, 0, z, h => by
    have h' : some (x, y) = some z := by simpa using h
    injection h' with h'
    rw [← h']
    exact ⟨rfl, rfl⟩
  | x :: xs, y :: ys, i + 1, z, h => by
    have h' : (xs.zip ys)[i]? = some z := by simpa using h
    have := zip_get h'
    simpa using this
theorem wk_zip {K : PySem.W.Frag} {F : Hp} {α β : Type} {ρ : Rp α} {π : Rp β} {xs : List α} {ys : List β} {a b : Addr} {vs ws : List V} (h : F a = some (.lst vs)) (r : RepL ρ F xs vs) (h2 : F b = some (.lst ws)) (r2 : RepL π F ys ws) : Wk (Itz K a b) F (rP ρ π) (xs.zip ys) where
  go := fun F1 H i z e1 e2 hx => by
    have hp : H a = some (.lst vs) := e2 a _ (e1 a _ h)
    have hq : H b = some (.lst ws) := e2 b _ (e1 b _ h2)
    obtain ⟨hxi, hyi⟩ := zip_get hx
    obtain ⟨v, hv, rv⟩ := r.got hxi
    obtain ⟨w, hw, rw'⟩ := r2.got hyi
    exact ⟨⟨vs, ws, v, w, .inl (.inl hp), .inl (.inl hq), hv, hw⟩, fun u H' ⟨T, x, y, eu, hT, eH, zx, zy⟩ => by
      subst eu eH
      have ex : x = v := Option.some.inj ((zx vs (.inl (.inl hp))).symm.trans hv)
      have ey : y = w := Option.some.inj ((zy ws (.inl (.inl hq))).symm.trans hw)
      subst ex ey
      have xx := Ext.new (o := .tup [x, y]) e2 hT
      exact ⟨_, xx, T, _, rfl, upd_same, x, [y], rfl, ρ.mono (e1.trans xx.f) rv, y, rfl, π.mono (e1.trans xx.f) rw'⟩⟩
  stop := fun H i e hi => by
    rw [List.length_zip] at hi
    exact ⟨vs, ws, .inl (.inl (e a _ h)), .inl (.inl (e b _ h2)), by rw [← r.length, ← r2.length]; omega⟩
theorem wk_zipT {K : PySem.W.Frag} {F : Hp} {α β : Type} {ρ : Rp α} {π : Rp β} {xs : List α} {ys : List β} {a b : Addr} {vs ws : List V} (h : F a = some (.tup vs)) (r : RepL ρ F xs vs) (h2 : F b = some (.tup ws)) (r2 : RepL π F ys ws) : Wk (RZ.ItzT K a b) F (rP ρ π) (xs.zip ys) where
  go := fun F1 H i z e1 e2 hx => by
    have hp : H a = some (.tup vs) := e2 a _ (e1 a _ h)
    have hq : H b = some (.tup ws) := e2 b _ (e1 b _ h2)
    obtain ⟨hxi, hyi⟩ := zip_get hx
    obtain ⟨v, hv, rv⟩ := r.got hxi
    obtain ⟨w, hw, rw'⟩ := r2.got hyi
    exact ⟨⟨vs, ws, v, w, .inl (.inl hp), .inl (.inl hq), hv, hw⟩, fun u H' ⟨T, x, y, eu, hT, eH, zx, zy⟩ => by
      subst eu eH
      have ex : x = v := Option.some.inj ((zx vs (.inl (.inl hp))).symm.trans hv)
      have ey : y = w := Option.some.inj ((zy ws (.inl (.inl hq))).symm.trans hw)
      subst ex ey
      have xx := Ext.new (o := .tup [x, y]) e2 hT
      exact ⟨_, xx, T, _, rfl, upd_same, x, [y], rfl, ρ.mono (e1.trans xx.f) rv, y, rfl, π.mono (e1.trans xx.f) rw'⟩⟩
  stop := fun H i e hi => by
    rw [List.length_zip] at hi
    exact ⟨vs, ws, .inl (.inl (e a _ h)), .inl (.inl (e b _ h2)), by rw [← r.length, ← r2.length]; omega⟩
section
variable {X : Cx} {U : Wi} {Γ : List Sl} {a b e e2 : Expr} {es : List Expr} {pos p p2 : Pos} {α β : Type} {ρ : Rp α} {π : Rp β}
theorem i_zipY {elts : List Expr} {kk : Nat} {tpos : Pos} {m : R (Dy × Dy)} (hm : X.mg "zip" = none) (h : AX X U Γ [e, e2] (tc rY (t1 rY)) m) (hg : Gl X "zip" := by rfl) (hs : starEach [e, e2] X.env = (false, eval e X.env) :: starEach [e2] X.env := by rfl) (hpl : (backTo pos (starEach [e2] X.env)).any (·.1) = false := by rfl) :
    IX X U Γ (.Tuple elts kk tpos) (.Call (.Name "zip" p) [e, e2] [] pos) (rP rY rY) (m.bind fun q => ofOpt (q.1.zip q.2)) :=
  ⟨fun en F σ H R s q => wI_of (RZ.pi_zipA hg hm wA_pa hs hpl) (h.out en F σ H _ s (wpR_mono (wpR_bind q) (fun xs k vs F' H' e1 s1 ⟨v, ws, ev, r1, w, ew, r2⟩ => by
    subst ev ew
    obtain ⟨zs, ez, k⟩ := wpR_opt k
    obtain ⟨x, y⟩ := xs
    cases x with
    | tup l =>
      cases y with
      | tup l' =>
        obtain ⟨p1, l1, f1, f2, f3⟩ := yTup_iff.mp r1
        obtain ⟨p2, l2, g1, g2, g3⟩ := yTup_iff.mp r2
        subst f1 g1
        have ez' : l.zip l' = zs := Option.some.inj ez
        subst ez'
        exact ⟨p1, p2, l1, l2, rfl, .inr ⟨.inl (.inl (s1.sub p1 _ f2)), .inl (.inl (s1.sub p2 _ g2)), k _ F' H' e1 s1 (wk_zipT f2 f3 g2 g3)⟩⟩
      | _ => cases ez
    | lst l =>
      cases y with
      | lst l' =>
        obtain ⟨p1, l1, f1, f2, f3⟩ := yLst_iff.mp r1
        obtain ⟨p2, l2, g1, g2, g3⟩ := yLst_iff.mp r2
        subst f1 g1
        have ez' : l.zip l' = zs := Option.some.inj ez
        subst ez'
        exact ⟨p1, p2, l1, l2, rfl, .inl ⟨.inl (.inl (s1.sub p1 _ f2)), .inl (.inl (s1.sub p2 _ g2)), k _ F' H' e1 s1 (wk_zip f2 f3 g2 g3)⟩⟩
      | _ => cases ez
    | _ => cases ez) fun _ z => z))⟩
end
end Py

/-! Own layer, part U: pop of a dict by a tuple, min and max of cells. -/
namespace DT
open PySem PySem.W PySem.Calls PyProof.Rows PyProof.V PySem.Spec
section
variable {prog : Program} {w : World} {K : Type} [DecidableEq K] {knd : HeapKind prog w K}
end
end DT
namespace L2.DX
open PySem PySem.Spec PyProof.Rows
section
variable {X : Cx}
end
end L2.DX
namespace Py
open PySem PySem.Spec PyProof.Rows L2
def dDrop {κ ν : Type} [DecidableEq κ] (xs : List (κ × ν)) (k : κ) : List (κ × ν) := xs.filter fun q => decide (q.1 ≠ k)
theorem RepD.drop {κ ν : Type} [DecidableEq κ] {ρ : Rp κ} {ky : Ky ρ} {π : Rp ν} {H : Hp} : ∀ {xs : List (κ × ν)} {kvs : List (List Key × V)} (k : κ), RepD ky π H xs kvs → RepD ky π H (dDrop xs k) (dropK kvs (ky.enc k))
  | _, _, k, .nil => .nil
  | _, _, k, .cons (k := k') (x := x) (xs := xs) (v := v) (kvs := kvs) r t => by
    have ih := RepD.drop k t
    unfold dDrop dropK at *
    by_cases h : k' = k
    · subst h
      rw [List.filter_cons_of_neg (by simp), List.filter_cons_of_neg (by simp)]
      exact ih
    · have h' : ¬ ky.enc k' = ky.enc k := fun z => h (ky.inj _ _ z)
      rw [List.filter_cons_of_pos (by simp [h]), List.filter_cons_of_pos (by simp [h'])]
      exact .cons r ih
section
variable {X : Cx} {U : Wi} {Γ : List Sl} {a b c e : Expr} {es : List Expr} {rest : List Stmt} {pos p ap cp : Pos} {κ ν ω : Type} {I : ω → Kd} {n : Str}
end
/-! ### min and max of cells -/
end Py

/-! Own layer, part V: one type seen as another. -/
namespace Py
open PySem PySem.Spec PyProof.Rows L2
structure Cv {α β : Type} (ρ : Rp α) (π : Rp β) (f : α → β) : Prop where
  out : ∀ x F v, ρ.rep x F v → π.rep (f x) F v
section
variable {α β σ τ : Type} {ρ : Rp α} {π : Rp β} {s : Tr σ} {t : Tr τ} {f : α → β} {g : σ → τ}
theorem cvY {f : α → Dy} (h : Yn ρ f) : Cv ρ rY f := ⟨h.out⟩
theorem cvS (h : Cv ρ π f) : Cv ρ (rO π) fun x => some (f x) := ⟨h.out⟩
end
section
variable {X : Cx} {U : Wi} {Γ : List Sl} {e : Expr} {α β : Type} {ρ : Rp α} {π : Rp β}
theorem x_cv {f : α → β} {m : R α} (h : Cv ρ π f) (ha : EX X U Γ e ρ m) : EX X U Γ e π (m.bind fun x => .ok (f x)) := x_map (ρ' := π) f (fun x F v r => h.out x F v r) ha
end
end Py

/-! Own layer, part W: stores at a computed place, the greatest and the least of whole numbers. -/
namespace Py
open PySem PySem.Spec PyProof.Rows L2
section
variable {X : Cx} {U : Wi} {Γ : List Sl} {a b e : Expr} {rest : List Stmt} {pos p2 p4 : Pos} {α ω : Type} {ρ : Rp α} {I : ω → Kd} {n : Str}
end
/-- the greatest of some, the least of some -/
def maxI : List Int → Option Int
  | [] => none
  | x :: xs => some (xs.foldl (fun a y => if a < y then y else a) x)
theorem fold_max : ∀ (xs : List Int) (x : Int), (xs.foldl (fun a y => if a < y then y else a) x = x ∨ xs.foldl (fun a y => if a < y then y else a) x ∈ xs) ∧ x ≤ xs.foldl (fun a y => if a < y then y else a) x ∧ ∀ y ∈ xs, y ≤ xs.foldl (fun a y => if a < y then y else a) x
  | [], x => ⟨.inl rfl, Int.le_refl x, fun _ h => nomatch h⟩
  | z :: xs, x => by
    rw [List.foldl_cons]
    have hw : (x ≤ (if x < z then z else x) ∧ z ≤ (if x < z then z else x)) ∧ ((if x < z then z else x) = x ∨ (if x < z then z else x) = z) := by split <;> omega
    generalize (if x < z then z else x) = w at hw ⊢
    obtain ⟨h1, h2, h3⟩ := fold_max xs w
    refine ⟨?_, by omega, fun y hy => ?_⟩
    · rcases h1 with h1 | h1
      · rw [h1]
        rcases hw.2 with e | e
        · exact .inl e
        · exact .inr (by rw [e]; exact List.mem_cons_self)
      · exact .inr (List.mem_cons_of_mem _ h1)
    · rcases List.mem_cons.mp hy with e | hy
      · rw [e]
        omega
      · exact h3 y hy
theorem maxI_spec {xs : List Int} {m : Int} (h : maxI xs = some m) : m ∈ xs ∧ ∀ y ∈ xs, y ≤ m := by
  cases xs with
  | nil => cases h
  | cons x xs =>
    obtain ⟨h1, h2, h3⟩ := fold_max xs x
    have e : xs.foldl (fun a y => if a < y then y else a) x = m := Option.some.inj h
    rw [e] at h1 h2 h3
    exact ⟨List.mem_cons.mpr h1, fun y hy => (List.mem_cons.mp hy).elim (fun e => by rw [e]; exact h2) (h3 y)⟩
theorem len_someI {α : Type} {f : List α → Option α} (h0 : f [] = none) {xs : List α} {m : α} (h : f xs = some m) : 0 < xs.length := by
  cases xs with
  | nil => rw [h0] at h; cases h
  | cons x xs => exact Nat.zero_lt_succ _
theorem vals_ints : ∀ {xs : List Int} {vs : List V} {F : Hp}, RepL rI F xs vs → vs = xs.map V.int
  | _, _, _, .nil => rfl
  | _, _, _, .cons r t => by rw [vals_ints t, show _ = V.int _ from r, List.map_cons]
theorem dMax1 {K : PySem.W.Frag} : DC (rMax K) (t1 (rL rI)) rI fun xs => ofOpt (maxI xs) := fun xs vs F H Q e ⟨v, ev, p, ws, e2, hp, r⟩ h => by
  obtain ⟨m, em, h⟩ := wpR_opt h
  obtain ⟨s1, s2⟩ := maxI_spec em
  refine ⟨p, xs, by rw [ev, e2], by rw [← vals_ints r]; exact .inl (.inl (e p _ hp)), len_someI rfl em, fun m' h1 h2 => ?_⟩
  have ee : m' = m := Int.le_antisymm (s2 m' h1) (h2 m s1)
  rw [ee]
  exact h _ F H (Ext.refl e) rfl
end Py

/-! Own layer, part X: zip of rows of unlike kinds (a tuple and a list). -/
namespace ZG
open PySem PySem.Spec PyProof.Rows L2
/-- what the iterator at `it` over the row at `l` does: `xs` are the items, `St` tells how far it is -/
structure Nx (it l : Addr) (St : Nat → Heap → Prop) (xs : Array Value) : Prop where
  some : ∀ {prog : Program} {w : World} {A : Around} {E : Value → Shared → Prop} {s : Shared} {i : Nat} {x : Value} {Q : Value → Shared → Prop}, St i s.heap → xs[i]? = .some x → (∀ h', St (i + 1) h' → Heap.SameBut it s.heap h' → Q x { s with heap := h' }) →
    wpAny (model prog w) A (Builtin.SmallTypes.nextOf (.ref it)) Q E s
  none : ∀ {prog : Program} {w : World} {A : Around} {E : Value → Shared → Prop} {s : Shared} {i : Nat} {Q : Value → Shared → Prop}, A.handled = .none → St i s.heap → xs[i]? = .none →
    (∀ h' e, Heap.ExtBut it s.heap h' → (∃ o, h'.get? e = .some o ∧ o.cls = .type "StopIteration") → E (.ref e) { s with heap := h' }) → wpAny (model prog w) A (Builtin.SmallTypes.nextOf (.ref it)) Q E s
  keep : ∀ {i : Nat} {h h' : Heap}, St i h → (∀ o, h.get? it = .some o → h'.get? it = .some o) → (∀ o, h.get? l = .some o → h'.get? l = .some o) → St i h'
theorem up {a c : Addr} {h h' : Heap} {o : Obj} (hs : Heap.SameBut a h h') (hc : c ≠ a) (e : h.get? c = some o) : h'.get? c = some o := (hs.2 c hc).trans e
def StT (it t : Addr) (xs : Array Value) (i : Nat) (h : Heap) : Prop := h.IsTupleIter it t i ∧ h.IsTuple t xs
def StL (it t : Addr) (xs : Array Value) (i : Nat) (h : Heap) : Prop := h.IsListIter it t i ∧ h.IsList t xs
theorem nxT {it t : Addr} {xs : Array Value} (hne : t ≠ it) : Nx it t (StT it t xs) xs where
  some := fun st hx hQ => RZ.nextOf_tuple_item st.1 st.2 hx fun h' a b => hQ h' ⟨a, st.2.extBut b.extBut hne⟩ b
  none := fun hh st hx hE => RZ.nextOf_tuple_end hh st.1 st.2 hx hE
  keep := fun st k1 k2 => ⟨st.1.at fun o e => k1 o e, let ⟨o, e, r⟩ := st.2; ⟨o, k2 o e, r⟩⟩
theorem nxL {it t : Addr} {xs : Array Value} (hne : t ≠ it) : Nx it t (StL it t xs) xs where
  some := fun st hx hQ => wpAny_nextOf_list_item st.1 st.2 hx fun h' a b => hQ h' ⟨a, st.2.extBut b.extBut hne⟩ b
  none := fun hh st hx hE => wpAny_nextOf_list_end hh st.1 st.2 hx hE
  keep := fun st k1 k2 => ⟨st.1.at fun o e => k1 o e, st.2.at fun o e => k2 o e⟩
section
variable {prog : Program} {w : World} {A : Around} {E : Value → Shared → Prop} {s : Shared} {z TI TO i1 i2 l1 l2 : Addr} {k1 k2 : Nat} {xs ys : Array Value} {S1 S2 : Nat → Heap → Prop}
theorem item {x y a b : Value} {Q : Value → Shared → Prop} (D : ZipApart z TI TO i1 i2 l1 l2) (N1 : Nx i1 l1 S1 xs) (N2 : Nx i2 l2 S2 ys)
    (hz : IsZip s.heap z TI TO .none) (hTI : IsPair s.heap TI (.ref i1) (.ref i2)) (hTO : IsPair s.heap TO a b) (h1 : S1 k1 s.heap) (h2 : S2 k2 s.heap) (hx : xs[k1]? = some x) (hy : ys[k2]? = some y)
    (hQ : ∀ h', IsZip h' z TI TO (rawInt s.heap.objs.size) → IsPair h' TO x y → S1 (k1 + 1) h' → S2 (k2 + 1) h' → IsPair h' s.heap.objs.size x y → h'.objs.size = s.heap.objs.size + 1 →
      (∀ c o, c ≠ z → c ≠ TO → c ≠ i1 → c ≠ i2 → s.heap.get? c = some o → h'.get? c = some o) → Q (.ref s.heap.objs.size) { s with heap := h' }) :
    wpAny (model prog w) A (Builtin.«zip.__next__» ⟨[.ref z], []⟩) (fun fin s' => ∃ v, fin = .done (.ret v) ∧ Q v s') E s := by
  show wpAny _ _ (field (.ref z) 2 >>= _) _ _ _
  refine wpAny_bind (wpAny_field hz rfl (x := .bool false) rfl ?_)
  show wpAny _ _ (field (.ref z) 3 >>= _) _ _ _
  refine wpAny_bind (wpAny_field hz rfl (x := .ref TI) rfl (wpAny_bind (wpAny_seqItems hTI rfl ?_)))
  show wpAny _ _ (Builtin.SmallTypes.ownedTupleIsFree (.ref z) >>= _) _ _ _
  refine wpAny_bind ?_
  unfold Builtin.SmallTypes.ownedTupleIsFree
  refine wpAny_bind (wpAny_field hz rfl (x := .none) rfl (wpAny_pure ?_))
  simp only [if_true]
  refine wpAny_bind (wpAny_rule (wpAny_bind (wpAny_field hz rfl (x := .ref TO) rfl (wpAny_bind (wpAny_setField_rec hz (by simp) fun a1 z1 b1 => ?_)))))
  have z1' : IsZip a1 z TI TO .ellipsis := z1
  refine wpAny_bind ?_
  simp only [List.zipIdx_cons, List.zipIdx_nil, List.forIn_cons, List.forIn_nil]
  refine wpAny_bind (wpAny_bind (wpAny_onRaise ?_))
  show wpAny _ _ (Builtin.SmallTypes.nextOf (.ref i1) >>= _) _ _ _
  refine wpAny_bind (N1.some (N1.keep h1 (fun o e => up b1 D.i1z e) fun o e => up b1 D.l1z e) hx fun a2 t2 b2 => wpAny_pure ?_)
  have o2 : IsPair a2 TO a b := up b2 D.TOi1 (up b1 D.TOz hTO)
  refine wpAny_bind (wpAny_seqItems o2 rfl (wpAny_bind (wpAny_updateSeq_pair o2 fun a3 o3 b3 => ?_)))
  have o3' : IsPair a3 TO x b := o3
  refine wpAny_bind (wpAny_letGo (wpAny_pure (wpAny_bind (wpAny_bind (wpAny_onRaise ?_)))))
  show wpAny _ _ (Builtin.SmallTypes.nextOf (.ref i2) >>= _) _ _ _
  refine wpAny_bind (N2.some (N2.keep h2 (fun o e => up b3 D.TOi2.symm (up b2 D.i12.symm (up b1 D.i2z e))) fun o e => up b3 D.l2TO (up b2 D.l2i1 (up b1 D.l2z e))) hy fun a4 t4 b4 => wpAny_pure ?_)
  have o4 : IsPair a4 TO x b := up b4 D.TOi2 o3'
  refine wpAny_bind (wpAny_seqItems o4 rfl (wpAny_bind (wpAny_updateSeq_pair o4 fun a5 o5 b5 => ?_)))
  have o5' : IsPair a5 TO x y := o5
  refine wpAny_bind (wpAny_letGo (wpAny_pure (wpAny_pure (wpAny_bind (wpAny_seqItems o5' rfl (wpAny_bind (wpAny_newTuple ?_)))))))
  have sz : a5.objs.size = s.heap.objs.size := by rw [b5.1, b4.1, b3.1, b2.1, b1.1]
  have z5 : IsZip a5 z TI TO .ellipsis := up b5 D.TOz.symm (up b4 D.i2z.symm (up b3 D.TOz.symm (up b2 D.i1z.symm z1')))
  have zl : z < a5.objs.size := Heap.lt_size z5
  show wpAny _ _ (Builtin.SmallTypes.ownedTupleHandOut (.ref z) (.ref a5.objs.size) >>= _) _ _ _
  refine wpAny_bind ?_
  unfold Builtin.SmallTypes.ownedTupleHandOut
  have z6 : IsZip (a5.push { cls := .type "tuple", data := .seq #[x, y] }) z TI TO .ellipsis := Heap.get?_push_of_some _ z5
  refine wpAny_bind (wpAny_setField_rec z6 (by simp) fun a7 z7 b7 => ?_)
  have z7' : IsZip a7 z TI TO (rawInt a5.objs.size) := z7
  refine wpAny_setField_rec z7' (by simp) fun a8 z8 b8 => ?_
  have z8' : IsZip a8 z TI TO (rawInt a5.objs.size) := z8
  have hi : ∀ c o, c ≠ z → a5.get? c = some o → a8.get? c = some o := fun c o hc e => up b8 hc (up b7 hc (Heap.get?_push_of_some _ e))
  have p8 : IsPair a8 a5.objs.size x y := up b8 (Nat.ne_of_gt zl) (up b7 (Nat.ne_of_gt zl) (Heap.get?_push_size _ rfl))
  have s8 : a8.objs.size = a5.objs.size + 1 := by rw [b8.1, b7.1, Heap.size_push]
  rw [sz] at z8' p8 s8
  refine wpAny_pure ⟨_, rfl, ?_⟩
  show Q (.ref a5.objs.size) _
  rw [sz]
  have t2' : S1 (k1 + 1) a8 := N1.keep t2 (fun o e => hi _ o D.i1z (up b5 D.TOi1.symm (up b4 D.i12 (up b3 D.TOi1.symm e)))) fun o e => hi _ o D.l1z (up b5 D.l1TO (up b4 D.l1i2 (up b3 D.l1TO e)))
  have t4' : S2 (k2 + 1) a8 := N2.keep t4 (fun o e => hi _ o D.i2z (up b5 D.TOi2.symm e)) fun o e => hi _ o D.l2z (up b5 D.l2TO e)
  exact hQ a8 z8' (hi _ _ D.TOz o5') t2' t4' p8 s8 fun c o c1 c2 c3 c4 e => hi c o c1 (up b5 c2 (up b4 c4 (up b3 c2 (up b2 c3 (up b1 c1 e)))))
theorem stop {a b : Value} {Q : Fin → Shared → Prop} (hh : A.handled = none) (D : ZipApart z TI TO i1 i2 l1 l2) (N1 : Nx i1 l1 S1 xs) (N2 : Nx i2 l2 S2 ys)
    (hz : IsZip s.heap z TI TO .none) (hTI : IsPair s.heap TI (.ref i1) (.ref i2)) (hTO : IsPair s.heap TO a b) (h1 : S1 k1 s.heap) (h2 : S2 k2 s.heap) (hend : xs[k1]? = none ∨ ys[k2]? = none)
    (hE : ∀ h' e, (∀ c o, c ≠ z → c ≠ TO → c ≠ i1 → c ≠ i2 → s.heap.get? c = some o → h'.get? c = some o) → (∃ o, h'.get? e = some o ∧ o.cls = .type "StopIteration") → E (.ref e) { s with heap := h' }) :
    wpAny (model prog w) A (Builtin.«zip.__next__» ⟨[.ref z], []⟩) Q E s := by
  show wpAny _ _ (field (.ref z) 2 >>= _) _ _ _
  refine wpAny_bind (wpAny_field hz rfl (x := .bool false) rfl ?_)
  show wpAny _ _ (field (.ref z) 3 >>= _) _ _ _
  refine wpAny_bind (wpAny_field hz rfl (x := .ref TI) rfl (wpAny_bind (wpAny_seqItems hTI rfl ?_)))
  show wpAny _ _ (Builtin.SmallTypes.ownedTupleIsFree (.ref z) >>= _) _ _ _
  refine wpAny_bind ?_
  unfold Builtin.SmallTypes.ownedTupleIsFree
  refine wpAny_bind (wpAny_field hz rfl (x := .none) rfl (wpAny_pure ?_))
  simp only [if_true]
  refine wpAny_bind (wpAny_rule (wpAny_bind (wpAny_field hz rfl (x := .ref TO) rfl (wpAny_bind (wpAny_setField_rec hz (by simp) fun a1 z1 b1 => ?_)))))
  have z1' : IsZip a1 z TI TO .ellipsis := z1
  refine wpAny_bind ?_
  simp only [List.zipIdx_cons, List.zipIdx_nil, List.forIn_cons, List.forIn_nil]
  refine wpAny_bind (wpAny_bind (wpAny_onRaise ?_))
  show wpAny _ _ (Builtin.SmallTypes.nextOf (.ref i1) >>= _) _ _ _
  have st1 : S1 k1 a1 := N1.keep h1 (fun o e => up b1 D.i1z e) fun o e => up b1 D.l1z e
  cases hx : xs[k1]? with
  | none =>
    refine wpAny_bind (N1.none (s := { s with heap := a1 }) hh st1 hx fun a2 e b2 ⟨oe, f1, f2⟩ => ?_)
    have z2 : IsZip a2 z TI TO .ellipsis := b2 _ _ D.i1z.symm z1'
    have ne : e ≠ z := fun q => by rw [q, z2] at f1; injection f1 with f1; rw [← f1] at f2; simp at f2
    exact wpAny_setField_rec z2 (by simp) fun a3 _ b3 => hE a3 e (fun c o c1 _ c3 _ q => up b3 c1 (b2 _ _ c3 (up b1 c1 q))) ⟨oe, up b3 ne f1, f2⟩
  | some x =>
    have hy : ys[k2]? = none := hend.resolve_left fun q => by rw [hx] at q; cases q
    refine wpAny_bind (N1.some (s := { s with heap := a1 }) st1 hx fun a2 t2 b2 => wpAny_pure ?_)
    have o2 : IsPair a2 TO a b := up b2 D.TOi1 (up b1 D.TOz hTO)
    refine wpAny_bind (wpAny_seqItems o2 rfl (wpAny_bind (wpAny_updateSeq_pair o2 fun a3 o3 b3 => ?_)))
    refine wpAny_bind (wpAny_letGo (wpAny_pure (wpAny_bind (wpAny_bind (wpAny_onRaise ?_)))))
    show wpAny _ _ (Builtin.SmallTypes.nextOf (.ref i2) >>= _) _ _ _
    refine wpAny_bind (N2.none (s := { s with heap := a3 }) hh (N2.keep h2 (fun o e => up b3 D.TOi2.symm (up b2 D.i12.symm (up b1 D.i2z e))) fun o e => up b3 D.l2TO (up b2 D.l2i1 (up b1 D.l2z e))) hy fun a4 e b4 ⟨oe, f1, f2⟩ => ?_)
    have z4 : IsZip a4 z TI TO .ellipsis := b4 _ _ D.i2z.symm (up b3 D.TOz.symm (up b2 D.i1z.symm z1'))
    have ne : e ≠ z := fun q => by rw [q, z4] at f1; injection f1 with f1; rw [← f1] at f2; simp at f2
    exact wpAny_setField_rec z4 (by simp) fun a5 _ b5 => hE a5 e (fun c o c1 c2 c3 c4 q => up b5 c1 (b4 _ _ c4 (up b3 c2 (up b2 c3 (up b1 c1 q))))) ⟨oe, up b5 ne f1, f2⟩
theorem nextItem {x y a b : Value} {Q : Option Value → Shared → Prop} (D : ZipApart z TI TO i1 i2 l1 l2) (N1 : Nx i1 l1 S1 xs) (N2 : Nx i2 l2 S2 ys)
    (hz : IsZip s.heap z TI TO .none) (hTI : IsPair s.heap TI (.ref i1) (.ref i2)) (hTO : IsPair s.heap TO a b) (h1 : S1 k1 s.heap) (h2 : S2 k2 s.heap) (hx : xs[k1]? = some x) (hy : ys[k2]? = some y)
    (hQ : ∀ h', IsZip h' z TI TO (rawInt s.heap.objs.size) → IsPair h' TO x y → S1 (k1 + 1) h' → S2 (k2 + 1) h' → IsPair h' s.heap.objs.size x y → h'.objs.size = s.heap.objs.size + 1 →
      (∀ c o, c ≠ z → c ≠ TO → c ≠ i1 → c ≠ i2 → s.heap.get? c = some o → h'.get? c = some o) → Q (some (.ref s.heap.objs.size)) { s with heap := h' }) : wpAny (model prog w) A (pyNext (.ref z)) Q E s := by
  have hT : s.TypeIs (.ref z) "zip" := ⟨_, hz, rfl⟩
  unfold pyNext
  exact wpAny_bind (wpAny_attempt (wpAny_callSpecial?_slot (name := Str.ofString "__next__") hT F.slot_zip_next (wpAny_call_entry F.slot_zip_next hT F.entry_zip_next
    (item D N1 N2 hz hTI hTO h1 h2 hx hy fun h' q1 q2 q3 q4 q5 q6 q7 => wpAny_pure (hQ h' q1 q2 q3 q4 q5 q6 q7)) (F.args_zip_next_1 _))))
theorem nextStop {a b : Value} {Q : Option Value → Shared → Prop} (hh : A.handled = none) (D : ZipApart z TI TO i1 i2 l1 l2) (N1 : Nx i1 l1 S1 xs) (N2 : Nx i2 l2 S2 ys)
    (hz : IsZip s.heap z TI TO .none) (hTI : IsPair s.heap TI (.ref i1) (.ref i2)) (hTO : IsPair s.heap TO a b) (h1 : S1 k1 s.heap) (h2 : S2 k2 s.heap) (hend : xs[k1]? = none ∨ ys[k2]? = none)
    (hQ : ∀ h', (∀ c o, c ≠ z → c ≠ TO → c ≠ i1 → c ≠ i2 → s.heap.get? c = some o → h'.get? c = some o) → Q none { s with heap := h' }) : wpAny (model prog w) A (pyNext (.ref z)) Q E s := by
  have hT : s.TypeIs (.ref z) "zip" := ⟨_, hz, rfl⟩
  unfold pyNext
  refine wpAny_bind (wpAny_attempt (wpAny_callSpecial?_slot (name := Str.ofString "__next__") hT F.slot_zip_next (wpAny_call_entry F.slot_zip_next hT F.entry_zip_next
    (stop hh D N1 N2 hz hTI hTO h1 h2 hend fun h' e hk ⟨o, ho, hc⟩ => ?_) (F.args_zip_next_1 _))))
  exact wpAny_bind (wpAny_isInstance (T := "StopIteration") (b := true) ⟨o, ho, hc⟩ isSubtype_stop (wpAny_pure (hQ _ hk)))
end
end ZG
namespace ZG
open PySem PySem.Spec PyProof.Rows L2
abbrev A1 (h : Heap) (t : Addr) : Heap := h.push { cls := .type "tuple_iterator", data := .fields #[.ref t, .int 0 0] }
abbrev A2 (h : Heap) (t l : Addr) : Heap := (A1 h t).push { cls := .type "list_iterator", data := .fields #[.ref l, .int 0 0] }
abbrev A3 (h : Heap) (t l : Addr) : Heap := (A2 h t l).push { cls := .type "tuple", data := .seq #[.ref h.objs.size, .ref (A1 h t).objs.size] }
abbrev A4 (h : Heap) (t l : Addr) : Heap := (A3 h t l).push { cls := .type "tuple", data := .seq #[.none, .none] }
abbrev A5 (h : Heap) (t l : Addr) : Heap := (A4 h t l).push { cls := .type "zip", data := .fields #[.none, .bool false, .bool false, .ref (A2 h t l).objs.size, .ref (A3 h t l).objs.size] }
theorem made (t l : Addr) (xs ys : Array Value) :
    Meets (Builtin.«zip.__new__» ⟨[.type "zip", .ref t, .ref l], []⟩) (fun _ R s => s.heap.IsTuple t xs ∧ s.heap.IsList l ys ∧ R (.ok (.ret (.ref (A4 s.heap t l).objs.size))) { s with heap := A5 s.heap t l }) :=
  .of_wp fun prog w A R s h => by
    obtain ⟨hp, g, d, tk, os⟩ := s
    obtain ⟨ht, hl, h⟩ := h
    have hsub := sub_zip
    have q1 : Heap.IsTuple (Shared.heap ⟨hp, g, d, tk, os⟩) t xs := ht
    have q2 : Heap.IsList (Shared.heap ⟨hp.push { cls := .type "tuple_iterator", data := .fields #[.ref t, .int 0 0] }, g, d, tk, os⟩) l ys := Heap.IsList.push hl _
    wp_walk using wpAny_pyIter_tuple q1, wpAny_pyIter_list q2
    exact ⟨_, rfl, h⟩
section
variable {prog : Program} {w : World} {A : Around} {E : Value → Shared → Prop} {s : Shared}
theorem call {t l : Addr} {xs ys : Array Value} {Q : Value → Shared → Prop} (ht : s.heap.IsTuple t xs) (hl : s.heap.IsList l ys)
    (h : ∀ h', IsZip h' (s.heap.objs.size + 4) (s.heap.objs.size + 2) (s.heap.objs.size + 3) .none → IsPair h' (s.heap.objs.size + 2) (.ref s.heap.objs.size) (.ref (s.heap.objs.size + 1)) → IsPair h' (s.heap.objs.size + 3) .none .none →
      h'.IsTupleIter s.heap.objs.size t 0 → h'.IsListIter (s.heap.objs.size + 1) l 0 → (∀ c o, s.heap.get? c = some o → h'.get? c = some o) → Q (.ref (s.heap.objs.size + 4)) { s with heap := h' }) :
    wpAny (model prog w) A (PySem.call (.type "zip") [.ref t, .ref l]) Q E s := by
  refine callType_new F.called_zip (by decide) (F.typeCall_zip_2 _ _) (F.newCall_zip_2 _ _) (fun obj => F.args_object_init_3 obj _ _) F.entry_zip_new (made t l xs ys) ⟨ht, hl, ?_⟩
  have n1 : (A1 s.heap t).objs.size = s.heap.objs.size + 1 := Heap.size_push ..
  have n2 : (A2 s.heap t l).objs.size = s.heap.objs.size + 2 := by rw [Heap.size_push, n1]
  have n3 : (A3 s.heap t l).objs.size = s.heap.objs.size + 3 := by rw [Heap.size_push, n2]
  have n4 : (A4 s.heap t l).objs.size = s.heap.objs.size + 4 := by rw [Heap.size_push, n3]
  have e5 : (A5 s.heap t l).get? (A4 s.heap t l).objs.size = some _ := Heap.get?_push_size _ rfl
  have e4 : (A5 s.heap t l).get? (A3 s.heap t l).objs.size = some _ := Heap.get?_push_of_some _ (Heap.get?_push_size _ rfl)
  have e3 : (A5 s.heap t l).get? (A2 s.heap t l).objs.size = some _ := Heap.get?_push_of_some _ (Heap.get?_push_of_some _ (Heap.get?_push_size _ rfl))
  have e2 : (A5 s.heap t l).get? (A1 s.heap t).objs.size = some _ := Heap.get?_push_of_some _ (Heap.get?_push_of_some _ (Heap.get?_push_of_some _ (Heap.get?_push_size _ rfl)))
  have e1 : (A5 s.heap t l).get? s.heap.objs.size = some _ := Heap.get?_push_of_some _ (Heap.get?_push_of_some _ (Heap.get?_push_of_some _ (Heap.get?_push_of_some _ (Heap.get?_push_size _ rfl))))
  show _ ∧ _
  rw [n2, n3, n4] at e5
  rw [n1, n2] at e3
  rw [n3] at e4
  rw [n1] at e2
  rw [n4]
  exact ⟨⟨_, e5, rfl⟩, h _ e5 e3 e4 ⟨_, e1, rfl, rfl⟩ ⟨_, e2, rfl, rfl⟩ fun c o x => Heap.get?_push_of_some _ (Heap.get?_push_of_some _ (Heap.get?_push_of_some _ (Heap.get?_push_of_some _ (Heap.get?_push_of_some _ x))))⟩
end
/-- the tuple at a and the list at b, as they stand at each turn -/
def ItM (K : PySem.W.Frag) (a b : Addr) : It :=
  ⟨fun i H => ∃ (xs ys : List V) (x y : V), SqT K H a xs ∧ SqL K H b ys ∧ xs[i]? = some x ∧ ys[i]? = some y,
    fun i H v H' => ∃ T x y, v = .ref T ∧ H T = none ∧ H' = upd H T (.tup [x, y]) ∧ (∀ xs, SqT K H a xs → xs[i]? = some x) ∧ ∀ ys, SqL K H b ys → ys[i]? = some y,
    fun i H => ∃ xs ys : List V, SqT K H a xs ∧ SqL K H b ys ∧ (xs.length ≤ i ∨ ys.length ≤ i)⟩
theorem five {z a b c d e : Addr} (h : z ∈ [a, b, c, d, e]) : z = a ∨ z = b ∨ z = c ∨ z = d ∨ z = e := by simpa using h
theorem turn {P : Program} {w : World} {K : PySem.W.Frag} {elts : List Expr} {kk : Nat} {tpos : Pos} {a b z TI TO i1 i2 : Addr} (D : ZipApart z TI TO i1 i2 a b) :
    Turn P w K (.Tuple elts kk tpos) (ItM K a b) [z, TI, TO, i1, i2] z (fun i h => IsZip h z TI TO .none ∧ IsPair h TI (.ref i1) (.ref i2) ∧ (∃ x y, IsPair h TO x y) ∧ h.IsTupleIter i1 a i ∧ h.IsListIter i2 b i) where
  mem := by simp
  obj := fun i h ⟨g1, g2, ⟨x, y, g3⟩, ⟨o1, e1, _, d1⟩, ⟨o2, e2, _, d2⟩⟩ c hc => by
    rcases five hc with q | q | q | q | q
    · rw [q]; exact ⟨_, g1, fun v q => nomatch q⟩
    · rw [q]; exact ⟨_, g2, fun v q => nomatch q⟩
    · rw [q]; exact ⟨_, g3, fun v q => nomatch q⟩
    · rw [q]; exact ⟨o1, e1, fun v q => by rw [d1] at q; cases q⟩
    · rw [q]; exact ⟨o2, e2, fun v q => by rw [d2] at q; cases q⟩
  keep := fun i h h' ⟨g1, g2, ⟨x, y, g3⟩, g4, g5⟩ k => ⟨k z (by simp) _ g1, k TI (by simp) _ g2, ⟨x, y, k TO (by simp) _ g3⟩, g4.at fun o q => k i1 (by simp) o q, g5.at fun o q => k i2 (by simp) o q⟩
  item := by
    intro X hP hw hK hc i pins s σ H E I hf st hg
    subst hP hw hK
    obtain ⟨g1, g2, ⟨x0, y0, g3⟩, g4, g5⟩ := st
    obtain ⟨xs, ys, x, y, hqx, hqy, hx, hy⟩ := hg
    obtain ⟨its, rv, p, _⟩ := I.tuple hqx
    obtain ⟨its2, rv2, p2, _⟩ := I.list hqy
    obtain ⟨u, hu, ru⟩ := rv.get hx
    obtain ⟨u2, hu2, ru2⟩ := rv2.get hy
    have zl : z < s.heap.objs.size := Heap.lt_size g1
    refine nextItem D (nxT (xs := its.toArray) D.l1i1) (nxL (xs := its2.toArray) D.l2i2) g1 g2 g3 ⟨g4, p⟩ ⟨g5, p2.isList⟩ (x := u) (y := u2) (by simpa using hu) (by simpa using hu2) fun h' z' TO' t1 t2 hT hsz hk => ?_
    refine ⟨_, rfl, wpAny_letOwnedTupleGo_zip (s := { s with heap := h' }) z' fun h'' z'' sb => ?_⟩
    have T2 : h''.get? s.heap.objs.size = some { cls := .type "tuple", data := .seq #[u, u2] } := up sb (Nat.ne_of_gt zl) hT
    have new : ObjOk X.prog X.w (upd H s.heap.objs.size (.tup [x, y])) h'' s.heap.objs.size (.tup [x, y]) := ⟨by show 2 ≤ sizeLine; decide, [u, u2], .cons ru (.cons ru2 .nil), ⟨_, T2, rfl, _, rfl⟩⟩
    have I1 : Inv X pins σ (upd H s.heap.objs.size (.tup [x, y])) { s with heap := h'' } :=
      I.turnedNew (t' := s.toks) (ch := [z, TI, TO, i1, i2]) (fun c o hb q => up sb (fun e => hb (by simp [e])) (hk c o (fun e => hb (by simp [e])) (fun e => hb (by simp [e])) (fun e => hb (by simp [e])) (fun e => hb (by simp [e])) q)) hf (Nat.le_refl _) new
    refine ⟨.ref s.heap.objs.size, _, I1, rfl, ⟨_, x, y, rfl, I.hok.fresh (Nat.le_refl _), rfl, fun l hl => by rw [I.tuple_inj hl hqx]; exact hx, fun l hl => by rw [I.list_inj hl hqy]; exact hy⟩, ⟨z'', ?_, ⟨u, u2, ?_⟩, ?_, ?_⟩, fun c hcm => ?_⟩
    · exact up sb D.TIz (hk _ _ D.TIz D.TITO D.TIi1 D.TIi2 g2)
    · exact up sb D.TOz TO'
    · exact t1.1.at fun o q => up sb D.i1z q
    · exact t2.1.at fun o q => up sb D.i2z q
    · have lt : c < s.heap.objs.size := by
        rcases five hcm with q | q | q | q | q
        · rw [q]; exact zl
        · rw [q]; exact Heap.lt_size g2
        · rw [q]; exact Heap.lt_size g3
        · rw [q]; obtain ⟨_, e1, _⟩ := g4; exact Heap.lt_size e1
        · rw [q]; obtain ⟨_, e1, _⟩ := g5; exact Heap.lt_size e1
      rw [upd_ne (Nat.ne_of_lt lt)]
      exact (hf c hcm).1
  done := by
    intro X hP hw hK hc i pins s σ H E I hf st hg
    subst hP hw hK
    obtain ⟨g1, g2, ⟨x0, y0, g3⟩, g4, g5⟩ := st
    obtain ⟨xs, ys, hqx, hqy, hend⟩ := hg
    obtain ⟨its, rv, p, _⟩ := I.tuple hqx
    obtain ⟨its2, rv2, p2, _⟩ := I.list hqy
    have n1 := Paired.length rv
    have n2 := Paired.length rv2
    have he : its.toArray[i]? = none ∨ its2.toArray[i]? = none := hend.elim (fun q => .inl (by simp; omega)) fun q => .inr (by simp; omega)
    exact nextStop (I.ok.hd hc) D (nxT (xs := its.toArray) D.l1i1) (nxL (xs := its2.toArray) D.l2i2) g1 g2 g3 ⟨g4, p⟩ ⟨g5, p2.isList⟩ he fun h' hk => ⟨rfl, I.turnedL (t' := s.toks) (ch := [z, TI, TO, i1, i2]) (fun c o hb q =>
      hk c o (fun e => hb (by simp [e])) (fun e => hb (by simp [e])) (fun e => hb (by simp [e])) (fun e => hb (by simp [e])) q) hf⟩
  self := fun A i s Q E st h => wpAny_pyIter_zip st.1 h
end ZG
namespace Py
open PySem PySem.Spec PyProof.Rows L2
end Py

/-! Own layer, part Y: rows of any kind, list and tuple of them. -/
namespace Py
open PySem PySem.Spec PyProof.Rows L2
end Py

/-! Own layer, part Z: a dict of tuples compared with an empty one. -/
namespace Py
open PySem PySem.Spec PyProof.Rows L2
section
variable {P : Program} {w : World} {A : Around} {E : Value → Shared → Prop} {s : Shared}
end
section
variable {X : Cx} {U : Wi} {Γ : List Sl} {a : Expr} {κ ν : Type} {pos' : Pos}
end
end Py

/-! Own layer, part Aa: a caught exception that is kept: try .. except C as e: kind = e; isinstance(kind, ..) later on. -/
namespace Py
open PySem PySem.Spec PyProof.Rows L2
section
variable {X : Cx} {pins : List (Addr × Obj)} {σ : L2.St} {H : Hp} {s : Shared} {a : Addr} {o : HO} {oe : Obj}
end
section
variable {X : Cx} {x n : Str} {c : Value} {i : Nat} {body suite : List Stmt} {b0 : Stmt} {np pos pos' : Pos} {tb : WX → TS} {ts : Addr → Value → Option Addr → TS} {Wout : WX}
end
section
variable {X : Cx} {U : Wi} {Γ Γ0 : List Sl} {body rest : List Stmt} {x n y : Str} {c : Value} {np pos pos' py pn2 spos : Pos} {τ ω : Type} {I : ω → Kd}
end
/-! ### isinstance of what was kept -/
section
variable {X : Cx} {a D : Addr} {s : Shared} {H : Hp} {σ : L2.St} {pins : List (Addr × Obj)}
end
section
variable {X : Cx} {U : Wi} {Γ : List Sl} {e0 : Expr} {pos p p2 : Pos} {m : R (Option Str)}
end
end Py

/-! Own layer, part Ab: d.setdefault(k, []).append(x) over a dict of one's own with tuple keys: lists that no slot holds. -/
namespace L2.DX
open PySem PySem.Spec PyProof.Rows
section
variable {X : Cx}
end
end L2.DX
namespace Py
open PySem PySem.Spec PyProof.Rows L2
/-- what is there, known to no one -/
structure Hid (en : En) (F H : Hp) (q : Addr) (o : HO) : Prop where
  f : F q = none
  e : en.H q = none ∨ en.ps q
  h : H q = some o
inductive Ents {κ ν : Type} {ρ : Rp κ} (ky : Ky ρ) (π : Rp ν) (en : En) (F H : Hp) : List (List Key × V) → List (κ × List ν) → Prop
  | nil : Ents ky π en F H [] []
  | cons {k : κ} {xs : List ν} {q : Addr} {ws : List V} {kvs : List (List Key × V)} {m : List (κ × List ν)} : Hid en F H q (.lst ws) → en.H q = none → RepL π F xs ws → Ents ky π en F H kvs m → Ents ky π en F H ((ky.enc k, .ref q) :: kvs) ((k, xs) :: m)
section
variable {κ ν : Type} {ρ : Rp κ} {ky : Ky ρ} {π : Rp ν} {en : En} {F F' H H' : Hp}
theorem Ents.stay (hs : ∀ q ws, Hid en F H q (.lst ws) → Hid en F' H' q (.lst ws)) (e : Same F F') : ∀ {kvs : List (List Key × V)} {m : List (κ × List ν)}, Ents ky π en F H kvs m → Ents ky π en F' H' kvs m
  | _, _, .nil => .nil
  | _, _, .cons h z r t => .cons (hs _ _ h) z (r.mono e) (Ents.stay hs e t)
theorem Ents.ref : ∀ {kvs : List (List Key × V)} {m : List (κ × List ν)}, Ents ky π en F H kvs m → ∀ v ∈ kvs.map Prod.snd, ∃ q ws, v = .ref q ∧ Hid en F H q (.lst ws)
  | _, _, .nil, v, h => by cases h
  | _, _, .cons h z r t, v, hv => by
    rcases List.mem_cons.mp hv with z | z
    · exact ⟨_, _, z, h⟩
    · exact t.ref v z
theorem Ents.len : ∀ {kvs : List (List Key × V)} {m : List (κ × List ν)}, Ents ky π en F H kvs m → kvs.length = m.length
  | _, _, .nil => rfl
  | _, _, .cons h z r t => congrArg (· + 1) t.len
variable [DecidableEq κ]
end
/-- no slot owns anything -/
def NoOwn (Γ : List Sl) : Prop := ∀ (j : Nat) (a : Option Addr) (P : ORp), Γ[j]? ≠ some (.own a P)
section
variable {en : En} {Γ Γ2 : List Sl} {F F' H H' : Hp} {σ σ' : L2.St} {q : Addr} {o : HO}
theorem Hid.move (s : SA en Γ F σ H) (hno : NoOwn Γ) (s3 : SA ⟨F, H, Ows Γ σ⟩ Γ2 F' σ' H') (h : Hid en F H q o) (ho : ∀ vs, o ≠ .tup vs) : Hid en F' H' q o := by
  have no : ¬ Ows Γ σ q := fun ⟨j, a, P, hj, _⟩ => hno j a P hj
  have h' : H' q = some o := s3.old q o h.h no
  exact ⟨no_tup s3.sub (s3.frz q (by show H q ≠ none; rw [h.h]; exact fun z => nomatch z) h.f no) h' ho, h.e, h'⟩
theorem Hid.ext (x : Ext F H F' H') (h : Hid en F H q o) (ho : ∀ vs, o ≠ .tup vs) : Hid en F' H' q o := by
  have h' : H' q = some o := x.h q o h.h
  exact ⟨no_tup x.s (x.n q (by rw [h.h]; exact fun z => nomatch z) h.f) h' ho, h.e, h'⟩
end
/-- a dict of lists in slot i, that no one knows -/
structure DL {κ ν : Type} {ρ : Rp κ} (i : Nat) (ky : Ky ρ) (π : Rp ν) (en : En) (F : Hp) (σ : L2.St) (H : Hp) (m : List (κ × List ν)) : Prop where
  out : ∃ a kvs, σ[i]? = some (some (.ref a)) ∧ Hid en F H a (.dT kvs) ∧ Ents ky π en F H kvs m ∧ (kvs.map Prod.snd).Nodup
section
variable {κ ν : Type} {ρ : Rp κ} {ky : Ky ρ} {π : Rp ν} {en : En} {Γ Γ2 : List Sl} {F F' H H' : Hp} {σ σ' : L2.St} {i : Nat} {m : List (κ × List ν)}
theorem DL.move (s : SA en Γ F σ H) (hno : NoOwn Γ) (s3 : SA ⟨F, H, Ows Γ σ⟩ Γ2 F' σ' H') (e : Same F F') (d : DL i ky π en F σ H m) (hσ : σ'[i]? = σ[i]?) : DL i ky π en F' σ' H' m := by
  obtain ⟨a, kvs, h1, h2, h3, h4⟩ := d.out
  exact ⟨a, kvs, hσ.trans h1, h2.move s hno s3 (fun _ z => nomatch z), h3.stay (fun q ws h => h.move s hno s3 (fun _ z => nomatch z)) e, h4⟩
theorem DL.ext (x : Ext F H F' H') (d : DL i ky π en F σ H m) (hσ : σ'[i]? = σ[i]?) : DL i ky π en F' σ' H' m := by
  obtain ⟨a, kvs, h1, h2, h3, h4⟩ := d.out
  exact ⟨a, kvs, hσ.trans h1, h2.ext x (fun _ z => nomatch z), h3.stay (fun q ws h => h.ext x (fun _ z => nomatch z)) x.f, h4⟩
variable [DecidableEq κ] {X : Cx} {ways cell mark : Str} {p1 p2 p3 p4 a1 a2 c1 c2 spos : Pos} {jc jm : Nat} {D : L2.Ends} {x : ν} {y : κ}
end
/-! ### the two loops -/
theorem NoOwn.set {Γ : List Sl} (h : NoOwn Γ) (j : Nat) (P : PRp) : NoOwn (Γ.set j (.imm P)) := fun l a Q hl => by
  by_cases e : j = l
  · subst e
    by_cases hj : j < Γ.length
    · rw [List.getElem?_set_self hj] at hl
      cases hl
    · rw [List.getElem?_eq_none (by rw [List.length_set]; omega)] at hl
      cases hl
  · rw [List.getElem?_set_ne e] at hl
    exact h l a Q hl
section
variable {κ ν : Type} [DecidableEq κ] {ρ : Rp κ} {ky : Ky ρ} {π : Rp ν} {X : Cx} {ways cell mark : Str} {p1 p2 p3 p4 a1 a2 c1 c2 spos cp mp pos1 pos2 : Pos} {i jc jm : Nat} {itc itm : Expr}
/-- the lists become known -/
theorem Ents.know {en : En} {Γ : List Sl} {F H : Hp} {σ : L2.St} (hno : NoOwn Γ) (sa : SA en Γ F σ H) : ∀ {kvs : List (List Key × V)} {m : List (κ × List ν)}, Ents ky π en F H kvs m → (kvs.map Prod.snd).Nodup →
    ∃ F', Same F F' ∧ SA en Γ F' σ H ∧ RepD ky (rL π) F' m kvs ∧ ∀ p, F p = none → V.ref p ∉ kvs.map Prod.snd → F' p = none
  | _, _, .nil, _ => ⟨F, Same.refl F, sa, .nil, fun _ h _ => h⟩
  | _, _, .cons (k := k) (xs := xs) (q := q) (ws := ws) h z r t, nd => by
    rw [List.map_cons, List.nodup_cons] at nd
    obtain ⟨F1, e1, s1, r1, n1⟩ := t.know hno sa nd.2
    have fq : F1 q = none := n1 q h.f nd.1
    obtain ⟨s2, e2⟩ := s1.know (p := q) (o := .lst ws) ⟨fq, z, fun j a P hj => absurd hj (hno j a P), h.h⟩
    refine ⟨_, e1.trans e2, s2, .cons ⟨q, ws, rfl, upd_same, r.mono (e1.trans e2)⟩ (RepD.mono e2 r1), fun p hp hm => ?_⟩
    rw [List.map_cons, List.mem_cons, not_or] at hm
    have : p ≠ q := fun e => hm.1 (by rw [e])
    rw [upd_ne this]
    exact n1 p hp hm.2
theorem NoOwn.any {Γ : List Sl} (h : NoOwn Γ) (j : Nat) : NoOwn (Γ.set j .any) := fun l a Q hl => by
  by_cases e : j = l
  · subst e
    by_cases hj : j < Γ.length
    · rw [List.getElem?_set_self hj] at hl
      cases hl
    · rw [List.getElem?_eq_none (by rw [List.length_set]; omega)] at hl
      cases hl
  · rw [List.getElem?_set_ne e] at hl
    exact h l a Q hl
variable {U : Wi} {Γ : List Sl} {rest : List Stmt} {ω : Type} {I : ω → Kd} {a0 : Option Addr}
end
end Py

/-! Own layer, part Ac: d.setdefault(k, x) as a statement, d of one's own with tuple keys. -/
namespace Py
open PySem PySem.Spec PyProof.Rows L2
section
variable {X : Cx} {U : Wi} {Γ : List Sl} {a b : Expr} {rest : List Stmt} {pos p ap cp : Pos} {κ ν ω : Type} {I : ω → Kd} {n : Str}
end
/-! ### texts put together -/
end Py

/-! Own layer, part Ad: an exception that leaves a list comprehension. -/
namespace Py
open PySem PySem.Spec PyProof.Rows L2

section
variable {M : Model} {A : Around} {E : Value → Shared → Prop} {s : Shared} {Z : Obj → Prop} {gr : Heap} {env : Env} {outer : List Env} {L a C : Addr}
end

section
variable {X : Cx} {pins : List (Addr × Obj)} {σ : L2.St} {H : Hp} {s : Shared}
end

section
variable {X : Cx} {U : Wi} {Γ : List Sl} {tg iter elt : Expr} {ifs : List Expr} {scope : Scope} {own : List (Str × Nat)} {pos : Pos} {α β : Type} {ρ : Rp α} {π : Rp β}
end
end Py

/-! Own layer, part Ae: xs.count(x), xs.index(x) of flat things. -/
namespace Py
open PySem PySem.Spec PyProof.Rows L2
/-- a type of flat things -/
structure Flt {α : Type} [DecidableEq α] (ρ : Rp α) (enc : α → V) : Prop where
  rep : ∀ x F v, ρ.rep x F v → v = enc x
  flat : ∀ x, flatV (enc x) = true
  eq : ∀ x y, eqV (enc x) (enc y) = decide (x = y)
section
variable {X : Cx} {U : Wi} {Γ : List Sl} {l a : Expr} {p ap cp : Pos} {n : Str} {α : Type} [DecidableEq α] {ρ : Rp α} {enc : α → V}
theorem Flt.rows (f : Flt ρ enc) {F : Hp} : ∀ {xs : List α} {ws : List V}, RepL ρ F xs ws → ws = xs.map enc
  | _, _, .nil => rfl
  | _, _, .cons r t => by rw [List.map_cons, ← f.rows t, f.rep _ _ _ r]
theorem Flt.all (f : Flt ρ enc) (xs : List α) : (xs.map enc).all flatV = true := by
  rw [List.all_map, List.all_eq_true]
  exact fun x _ => f.flat x
theorem Flt.count (f : Flt ρ enc) (y : α) : ∀ xs : List α, (xs.map enc).countP (fun z => eqV z (enc y)) = xs.countP fun z => decide (z = y)
  | [] => rfl
  | x :: xs => by
    rw [List.map_cons, List.countP_cons, List.countP_cons, f.count y xs, f.eq]
theorem Flt.index (f : Flt ρ enc) {xs : List α} {y : α} {j : Nat} (h : xs.findIdx? (fun z => decide (z = y)) = some j) : ∃ z, (xs.map enc)[j]? = some z ∧ eqV z (enc y) = true ∧ ∀ (m : Nat) (z' : V), m < j → (xs.map enc)[m]? = some z' → eqV z' (enc y) = false := by
  obtain ⟨hl, h1, h2⟩ := List.findIdx?_eq_some_iff_getElem.mp h
  refine ⟨enc xs[j], by rw [List.getElem?_map, List.getElem?_eq_getElem hl]; rfl, by rw [f.eq]; exact h1, fun m z' hm e => ?_⟩
  have := h2 m hm
  rw [List.getElem?_map, List.getElem?_eq_getElem (by omega)] at e
  injection e with e
  rw [← e, f.eq]
  simpa using this
end
end Py

/-! Own layer, part Af: plans, the program's eight classes of objects that never change: data, fields, making, methods by the class, isinstance. -/
namespace Py
open PySem PySem.Spec PyProof.Rows L2
inductive Pl where
  | keep | nothing | everything
  | move (s : Int × Int) (p : Pl)
  | eat (s : List (Int × Int)) (p : Pl)
  | grow (s : List (Int × Int)) (p : Pl)
  | both (a b : Pl)
  | either (a b : Pl)
inductive PK where
  | Keep | Nothing | Everything | Move | Eat | Grow | Both | Either
  deriving DecidableEq
def Pl.kd : Pl → PK
  | .keep => .Keep
  | .nothing => .Nothing
  | .everything => .Everything
  | .move _ _ => .Move
  | .eat _ _ => .Eat
  | .grow _ _ => .Grow
  | .both _ _ => .Both
  | .either _ _ => .Either
def Pl.fStep : Pl → Option (Int × Int)
  | .move s _ => some s
  | _ => none
def Pl.fPiece : Pl → Option (List (Int × Int))
  | .eat s _ => some s
  | .grow s _ => some s
  | _ => none
def Pl.fPlan : Pl → Option Pl
  | .move _ p => some p
  | .eat _ p => some p
  | .grow _ p => some p
  | _ => none
def Pl.fOne : Pl → Option Pl
  | .both a _ => some a
  | .either a _ => some a
  | _ => none
def Pl.fOther : Pl → Option Pl
  | .both _ b => some b
  | .either _ b => some b
  | _ => none
/-- the names of the fields -/
abbrev PFs : List Str := ["step", "plan", "piece", "one", "other"]
abbrev CsL := List (PK × Addr)
def Ob (cs : CsL) (k : PK) (H : Hp) (v : V) (fs : List (Str × V)) : Prop := ∃ C a dx, (k, C) ∈ cs ∧ v = .ref a ∧ H a = some (.ins C dx fs)
theorem Ob.mono {cs : CsL} {k : PK} {H H' : Hp} {v : V} {fs : List (Str × V)} (e : Same H H') : Ob cs k H v fs → Ob cs k H' v fs := fun ⟨C, a, dx, h1, h2, h3⟩ => ⟨C, a, dx, h1, h2, e a _ h3⟩
def repPl (cs : CsL) : Pl → Hp → V → Prop
  | .keep, H, v => Ob cs .Keep H v []
  | .nothing, H, v => Ob cs .Nothing H v []
  | .everything, H, v => Ob cs .Everything H v []
  | .move s p, H, v => ∃ x y, Ob cs .Move H v [("step", x), ("plan", y)] ∧ rC.rep s H x ∧ repPl cs p H y
  | .eat s p, H, v => ∃ x y, Ob cs .Eat H v [("piece", x), ("plan", y)] ∧ (rT rC).rep s H x ∧ repPl cs p H y
  | .grow s p, H, v => ∃ x y, Ob cs .Grow H v [("piece", x), ("plan", y)] ∧ (rT rC).rep s H x ∧ repPl cs p H y
  | .both a b, H, v => ∃ x y, Ob cs .Both H v [("one", x), ("other", y)] ∧ repPl cs a H x ∧ repPl cs b H y
  | .either a b, H, v => ∃ x y, Ob cs .Either H v [("one", x), ("other", y)] ∧ repPl cs a H x ∧ repPl cs b H y
theorem repPl_mono {cs : CsL} {H H' : Hp} (e : Same H H') : ∀ {p : Pl} {v : V}, repPl cs p H v → repPl cs p H' v
  | .keep, _, h => Ob.mono e h
  | .nothing, _, h => Ob.mono e h
  | .everything, _, h => Ob.mono e h
  | .move _ _, _, ⟨x, y, h1, h2, h3⟩ => ⟨x, y, h1.mono e, rC.mono e h2, repPl_mono e h3⟩
  | .eat _ _, _, ⟨x, y, h1, h2, h3⟩ => ⟨x, y, h1.mono e, (rT rC).mono e h2, repPl_mono e h3⟩
  | .grow _ _, _, ⟨x, y, h1, h2, h3⟩ => ⟨x, y, h1.mono e, (rT rC).mono e h2, repPl_mono e h3⟩
  | .both _ _, _, ⟨x, y, h1, h2, h3⟩ => ⟨x, y, h1.mono e, repPl_mono e h2, repPl_mono e h3⟩
  | .either _ _, _, ⟨x, y, h1, h2, h3⟩ => ⟨x, y, h1.mono e, repPl_mono e h2, repPl_mono e h3⟩
def rPl (cs : CsL) : Rp Pl := ⟨repPl cs, fun e h => repPl_mono e h⟩
/-- the fields of a class's objects -/
def PK.flds : PK → List Str
  | .Keep => []
  | .Nothing => []
  | .Everything => []
  | .Move => ["step", "plan"]
  | .Eat => ["piece", "plan"]
  | .Grow => ["piece", "plan"]
  | .Both => ["one", "other"]
  | .Either => ["one", "other"]
theorem rep_ob {cs : CsL} {p : Pl} {H : Hp} {v : V} (h : repPl cs p H v) : ∃ fs, Ob cs p.kd H v fs ∧ fs.map Prod.fst = p.kd.flds := by
  cases p with
  | keep => exact ⟨[], h, rfl⟩
  | nothing => exact ⟨[], h, rfl⟩
  | everything => exact ⟨[], h, rfl⟩
  | move s p => obtain ⟨x, y, h1, _⟩ := h; exact ⟨_, h1, rfl⟩
  | eat s p => obtain ⟨x, y, h1, _⟩ := h; exact ⟨_, h1, rfl⟩
  | grow s p => obtain ⟨x, y, h1, _⟩ := h; exact ⟨_, h1, rfl⟩
  | both s p => obtain ⟨x, y, h1, _⟩ := h; exact ⟨_, h1, rfl⟩
  | either s p => obtain ⟨x, y, h1, _⟩ := h; exact ⟨_, h1, rfl⟩
theorem look_none {m : Str} : ∀ {fs : List (Str × V)}, m ∉ fs.map Prod.fst → fs.lookup m = none
  | [], _ => rfl
  | (f, v) :: fs, h => by
    have h1 : (m == f) = false := beq_eq_false_iff_ne.mpr fun z => h (by rw [z]; exact List.mem_cons_self)
    simp only [List.lookup, h1]
    exact look_none fun z => h (List.mem_cons_of_mem _ z)
theorem no_fld {m : Str} (h : m ∉ PFs) (k : PK) : m ∉ k.flds := fun z => h (by
  cases k <;> simp only [PK.flds, List.not_mem_nil, List.mem_cons, or_false] at z ⊢ <;> rcases z with rfl | rfl <;> simp [PFs])
theorem lk_1 {f g : Str} {x y : V} : ([(f, x), (g, y)] : List (Str × V)).lookup f = some x := by simp [List.lookup]
theorem lk_2 {f g : Str} {x y : V} (h : ¬ g = f) : ([(f, x), (g, y)] : List (Str × V)).lookup g = some y := by
  have h1 : (g == f) = false := beq_eq_false_iff_ne.mpr h
  simp [List.lookup, h1]
theorem putF_two {f g : Str} {x y : V} (h : ¬ f = g) : putF g y (putF f x []) = ([(f, x), (g, y)] : List (Str × V)) := by
  show (if f = g then (f, y) :: [] else (f, x) :: putF g y []) = _
  rw [if_neg h]
  rfl
/-- the facts of the classes -/
structure PlC (K : PySem.W.Frag) (cs : CsL) : Prop where
  cl : ∀ k C, (k, C) ∈ cs → Cls K C
  nf : ∀ k C f, (k, C) ∈ cs → f ∈ PFs → NoAttr K C f
  ca : ∀ k C, (k, C) ∈ cs → PySem.W.findIn K (.ref C) "__class__" = some (some (.builtin "object.__class__"))
  gn : PySem.W.specialIn K (.builtin "object.__class__") "__get__" = some (some (.builtin "getset_descriptor.__get__"))
  gt : PySem.W.takesIn K (.builtin "object.__class__") = some true
  mo : ∀ k C, (k, C) ∈ cs → PySem.W.mroIn K C (.type "object") = some true
theorem pl_nil {P : PK → Addr → Prop} : ∀ k C, (k, C) ∈ ([] : CsL) → P k C := fun _ _ h => nomatch h
theorem pl_cons {P : PK → Addr → Prop} {k0 : PK} {C0 : Addr} {cs : CsL} (h0 : P k0 C0) (h : ∀ k C, (k, C) ∈ cs → P k C) : ∀ k C, (k, C) ∈ (k0, C0) :: cs → P k C := fun k C hm => by
  rcases List.mem_cons.mp hm with e | e
  · injection e with e1 e2
    subst e1 e2
    exact h0
  · exact h k C e
theorem pl_nil3 {P : PK → Addr → Str → Prop} : ∀ k C f, (k, C) ∈ ([] : CsL) → f ∈ PFs → P k C f := fun _ _ _ h => nomatch h
theorem pl_cons3 {P : PK → Addr → Str → Prop} {k0 : PK} {C0 : Addr} {cs : CsL} (h1 : P k0 C0 "step") (h2 : P k0 C0 "plan") (h3 : P k0 C0 "piece") (h4 : P k0 C0 "one") (h5 : P k0 C0 "other") (h : ∀ k C f, (k, C) ∈ cs → f ∈ PFs → P k C f) :
    ∀ k C f, (k, C) ∈ (k0, C0) :: cs → f ∈ PFs → P k C f := fun k C f hm hf => by
  rcases List.mem_cons.mp hm with e | e
  · injection e with e1 e2
    subst e1 e2
    simp only [PFs, List.mem_cons, List.not_mem_nil, or_false] at hf
    rcases hf with rfl | rfl | rfl | rfl | rfl
    · exact h1
    · exact h2
    · exact h3
    · exact h4
    · exact h5
  · exact h k C f e hf

/-! ### fields -/
structure Fld {α : Type} (cs : CsL) (f : Str) (ρ : Rp α) (get : Pl → Option α) : Prop where
  mem : f ∈ PFs
  out : ∀ p x H v, get p = some x → repPl cs p H v → ∃ k fs u, Ob cs k H v fs ∧ fs.lookup f = some u ∧ ρ.rep x H u
theorem ne_ps : ¬ ("plan" : Str) = "step" := by decide +kernel
theorem ne_pp : ¬ ("plan" : Str) = "piece" := by decide +kernel
theorem ne_oo : ¬ ("other" : Str) = "one" := by decide +kernel
theorem fldStep (cs : CsL) : Fld cs "step" rC Pl.fStep := ⟨by simp [PFs], fun p x H v e h => by
  cases p <;> first | cases e | skip
  obtain ⟨u, w, h1, h2, h3⟩ := h
  exact ⟨_, _, u, h1, lk_1, h2⟩⟩
theorem fldPiece (cs : CsL) : Fld cs "piece" (rT rC) Pl.fPiece := ⟨by simp [PFs], fun p x H v e h => by
  cases p <;> first | cases e | skip
  all_goals
    obtain ⟨u, w, h1, h2, h3⟩ := h
    exact ⟨_, _, u, h1, lk_1, h2⟩⟩
theorem fldPlan (cs : CsL) : Fld cs "plan" (rPl cs) Pl.fPlan := ⟨by simp [PFs], fun p x H v e h => by
  cases p <;> first | (cases e; done) | skip
  all_goals
    obtain rfl := Option.some.inj e
    obtain ⟨u, w, h1, h2, h3⟩ := h
    first
      | exact ⟨_, _, w, h1, lk_2 ne_ps, h3⟩
      | exact ⟨_, _, w, h1, lk_2 ne_pp, h3⟩⟩
theorem fldOne (cs : CsL) : Fld cs "one" (rPl cs) Pl.fOne := ⟨by simp [PFs], fun p x H v e h => by
  cases p <;> first | (cases e; done) | skip
  all_goals
    obtain rfl := Option.some.inj e
    obtain ⟨u, w, h1, h2, h3⟩ := h
    exact ⟨_, _, u, h1, lk_1, h2⟩⟩
theorem fldOther (cs : CsL) : Fld cs "other" (rPl cs) Pl.fOther := ⟨by simp [PFs], fun p x H v e h => by
  cases p <;> first | (cases e; done) | skip
  all_goals
    obtain rfl := Option.some.inj e
    obtain ⟨u, w, h1, h2, h3⟩ := h
    exact ⟨_, _, w, h1, lk_2 ne_oo, h3⟩⟩
section
variable {X : Cx} {U : Wi} {Γ : List Sl} {a e o : Expr} {es : List Expr} {pos p apos : Pos} {α γ τ : Type} {ρ : Rp α} {π : Rp γ} {t : Tr τ} {cs : CsL}
theorem x_fld {f : Str} {get : Pl → Option α} {m : R Pl} (hf : Fld cs f ρ get) (T : PlC X.K cs) (he : EX X U Γ e (rPl cs) m) (hb : attributeBase e f X.env (eval e X.env) = eval e X.env := by rfl) : EX X U Γ (.Attribute e f pos) ρ (m.bind fun q => ofOpt (get q)) :=
  ⟨fun en F σ H Q s h => wE_of (pe_fld wE_pe hb) (he.out en F σ H _ s (wpR_mono (wpR_bind h) (fun q k v F1 H1 e1 s1 r1 => by
    obtain ⟨x, ex, k⟩ := wpR_opt k
    obtain ⟨kd, fs, u, ⟨C, b, dx, hC, ev, hb⟩, hl, hu⟩ := hf.out q x F1 v ex r1
    exact ⟨b, C, dx, fs, u, ev, s1.sub b _ hb, T.cl kd C hC, T.nf kd C f hC hf.mem, hl, k u F1 H1 e1 s1 hu⟩) fun _ z => z))⟩

/-! ### making -/
def SpIn (C : Addr) (f1 f2 : Str) : Sp := fun vs H Q _ => ∃ x dx v1 v2, vs = [.ref x, v1, v2] ∧ H x = some (.ins C dx []) ∧ Q .non (upd H x (.ins C dx [(f1, v1), (f2, v2)]))
theorem upd_upd {H : Hp} {x : Addr} {o o' : HO} : upd (upd H x o) x o' = upd H x o' := by
  funext b
  by_cases z : b = x
  · subst z
    rw [upd_same, upd_same]
  · rw [upd_ne z, upd_ne z, upd_ne z]
theorem Ext.ins {F H : Hp} (e : Same F H) {x dx : Addr} {o : HO} (nx : H x = none) (ndx : H dx = none) (ne : dx ≠ x) : Ext F H (upd F x o) (upd (upd H dx (.own x)) x o) := by
  have e1 : Ext F H F (upd H dx (.own x)) := Ext.lay e ndx
  exact e1.trans (Ext.new e1.s (by rw [upd_ne (Ne.symm ne)]; exact nx))
/-- how a plan of two fields is made -/
structure MkP {τ : Type} (cs : CsL) (C : Addr) (f1 f2 : Str) (t : Tr τ) (mk : τ → Pl) : Prop where
  out : ∀ x F vs, t.rep x F vs → ∃ v1 v2, vs = [v1, v2] ∧ ∀ F' a dx, Same F F' → F' a = some (.ins C dx [(f1, v1), (f2, v2)]) → repPl cs (mk x) F' (.ref a)
theorem mkMove {C : Addr} (h : (PK.Move, C) ∈ cs) : MkP cs C "step" "plan" (tc rC (t1 (rPl cs))) fun x => .move x.1 x.2 := ⟨fun x F vs ⟨v, ws, e, r, u, e2, r2⟩ => by
  subst e2
  exact ⟨v, u, e, fun F' a dx s ha => ⟨v, u, ⟨C, a, dx, h, rfl, ha⟩, rC.mono s r, repPl_mono s r2⟩⟩⟩
theorem mkEat {C : Addr} (h : (PK.Eat, C) ∈ cs) : MkP cs C "piece" "plan" (tc (rT rC) (t1 (rPl cs))) fun x => .eat x.1 x.2 := ⟨fun x F vs ⟨v, ws, e, r, u, e2, r2⟩ => by
  subst e2
  exact ⟨v, u, e, fun F' a dx s ha => ⟨v, u, ⟨C, a, dx, h, rfl, ha⟩, (rT rC).mono s r, repPl_mono s r2⟩⟩⟩
theorem mkGrow {C : Addr} (h : (PK.Grow, C) ∈ cs) : MkP cs C "piece" "plan" (tc (rT rC) (t1 (rPl cs))) fun x => .grow x.1 x.2 := ⟨fun x F vs ⟨v, ws, e, r, u, e2, r2⟩ => by
  subst e2
  exact ⟨v, u, e, fun F' a dx s ha => ⟨v, u, ⟨C, a, dx, h, rfl, ha⟩, (rT rC).mono s r, repPl_mono s r2⟩⟩⟩
theorem mkBoth {C : Addr} (h : (PK.Both, C) ∈ cs) : MkP cs C "one" "other" (tc (rPl cs) (t1 (rPl cs))) fun x => .both x.1 x.2 := ⟨fun x F vs ⟨v, ws, e, r, u, e2, r2⟩ => by
  subst e2
  exact ⟨v, u, e, fun F' a dx s ha => ⟨v, u, ⟨C, a, dx, h, rfl, ha⟩, repPl_mono s r, repPl_mono s r2⟩⟩⟩
theorem mkEither {C : Addr} (h : (PK.Either, C) ∈ cs) : MkP cs C "one" "other" (tc (rPl cs) (t1 (rPl cs))) fun x => .either x.1 x.2 := ⟨fun x F vs ⟨v, ws, e, r, u, e2, r2⟩ => by
  subst e2
  exact ⟨v, u, e, fun F' a dx s ha => ⟨v, u, ⟨C, a, dx, h, rfl, ha⟩, repPl_mono s r, repPl_mono s r2⟩⟩⟩
theorem x_mk2 {n : Str} {C fI : Addr} {fd : FuncData} {ps : List Str} {f1 f2 : Str} {mk : τ → Pl} {m : R τ} (MP : MkP cs C f1 f2 t mk) (M : Mk X.K C fI) (G : FnOk X.prog X.w X.K X.mg X.base CX0 1 fI fd ps (SpIn C f1 f2)) (hr : Room 2 X.A) (hm : X.mg n = some (.ref C)) (hb : Binds X.K fd ps [])
    (ha : AX X U Γ (a :: es) t m) (hg : Gl X n := by rfl) (hdb : (n == ("__debug__" : Str)) = false := by decide) (he : starEach (a :: es) X.env = (false, eval a X.env) :: starEach es X.env := by rfl) (hpl : (backTo pos (starEach es X.env)).any (·.1) = false := by rfl) :
    EX X U Γ (.Call (.Name n p) (a :: es) [] pos) (rPl cs) (m.bind fun x => .ok (mk x)) :=
  ⟨fun en F σ H Q s h => wE_of (pe_make M G hr hg hm hb .nil pass0 wA_pa hdb he hpl) (ha.out en F σ H _ s (wpR_mono (wpR_bind h) (fun x k vs F1 H1 e1 s1 r1 => fun y dx ny ndx ne => by
    obtain ⟨v1, v2, ev, q⟩ := MP.out x F1 vs r1
    subst ev
    have ex : Ext F1 H1 (upd F1 y (.ins C dx [(f1, v1), (f2, v2)])) (upd (upd H1 dx (.own y)) y (.ins C dx [(f1, v1), (f2, v2)])) := Ext.ins s1.sub ny ndx ne
    refine ⟨y, dx, v1, v2, rfl, upd_same, rfl, ?_⟩
    rw [upd_upd]
    exact k _ _ _ (e1.trans ex.f) (s1.ext ex) (q _ y dx ex.f upd_same)) fun _ z => z))⟩
end
section
open PySem.W
variable {X : Cx} {C : Addr} {pins : List (Addr × Obj)} {σ : L2.St} {H : Hp} {s : Shared} {Q : VK}
/-- what a class without __init__ must have to be made -/
structure Mk0 (K : PySem.W.Frag) (C : Addr) : Prop where
  makes : PySem.W.makesIn K C = true
  init : PySem.W.findIn K (.ref C) "__init__" = some (some (.builtin "object.__init__"))
  top : PySem.W.mroIn K C (.type "object") = some true
  kp : PySem.W.keepIn K (.ref C) = true
theorem run_make0 (M : Mk0 X.K C) (I : Inv X pins σ H s) (h : ∀ x dx, H x = none → H dx = none → dx ≠ x → Q (.ref x) (upd (upd H dx (.own x)) x (.ins C dx []))) :
    wpAny (model X.prog X.w) X.A (PySem.call (.ref C) []) (EP X pins σ Q) X.xe s := by
  have hq := h (s.heap.objs.size + 1) s.heap.objs.size (I.hok.fresh (Nat.le_succ _)) (I.hok.fresh (Nat.le_refl _)) (Nat.ne_of_lt (Nat.lt_succ_self _))
  have I2 := Inv.made (C := C) I
  obtain ⟨o, ho, hc⟩ : ∃ o : Obj, ((s.heap.push PySem.W.emptyDict).push (PySem.W.instObj C s.heap.objs.size)).get? (s.heap.objs.size + 1) = some o ∧ o.cls = .ref C := by
    obtain ⟨_, _, _, ho, _⟩ := (show ObjOk X.prog X.w _ _ (s.heap.objs.size + 1) (.ins C s.heap.objs.size []) from I2.hok _ _ upd_same)
    exact ⟨_, ho, rfl⟩
  refine wpAny_call (make_map0 I.kIn M.makes M.init (fun self => Looks.of_pure (oi_bind _)) ?_)
  have t1 := NwA.type_at (M := model X.prog X.w) ho hc
  refine codeAny_call_builtin oi_plain entry_oi (@check_slot (model X.prog X.w) _ _ _ "object.__init__" "object" "__init__" (.ref (s.heap.objs.size + 1)) [] [] _ oi_kind oi_split (t1.andThen (looks_mroIn I2.kIn M.top)) (NwA.oi_args_any _ [] []) ?_)
  rw [oi_run]
  exact wpAny_pure (And.intro rfl ⟨V.ref (s.heap.objs.size + 1), _, I2, rfl, hq⟩)
end
section
variable {X : Cx} {U : Wi} {Γ : List Sl} {a e o : Expr} {es : List Expr} {pos p apos : Pos} {α γ τ : Type} {ρ : Rp α} {π : Rp γ} {t : Tr τ} {cs : CsL}
theorem pe_mk0 {n : Str} {C : Addr} (M : Mk0 X.K C) (hg : Gl X n) (hm : X.mg n = some (.ref C)) (hdb : (n == ("__debug__" : Str)) = false) : PE X (.Call (.Name n p) [] [] pos) (fun _ H Q => ∀ x dx, H x = none → H dx = none → dx ≠ x → Q (.ref x) (upd (upd H dx (.own x)) x (.ins C dx []))) := by
  refine ⟨fun pins s σ H Q I h => ?_⟩
  refine wpAny_Call_Name_kw (ld_glob I hg hm ?_ hdb)
  exact PySem.W.callWith_K0 I.kIn M.kp (run_make0 M I h)
theorem x_mk0 {n : Str} {C : Addr} {q : Pl} (hq : ∀ F a dx, F a = some (.ins C dx []) → repPl cs q F (.ref a)) (M : Mk0 X.K C) (hm : X.mg n = some (.ref C)) (hg : Gl X n := by rfl) (hdb : (n == ("__debug__" : Str)) = false := by decide) : EX X U Γ (.Call (.Name n p) [] [] pos) (rPl cs) (.ok q) :=
  ⟨fun en F σ H Q s h => wE_of (pe_mk0 M hg hm hdb) fun y dx ny ndx ne => by
    have ex : Ext F H (upd F y (.ins C dx [])) (upd (upd H dx (.own y)) y (.ins C dx [])) := Ext.ins s.sub ny ndx ne
    exact h _ _ _ ex.f (s.ext ex) (hq _ y dx upd_same)⟩
theorem mkKeep {C : Addr} (h : (PK.Keep, C) ∈ cs) : ∀ F a dx, F a = some (.ins C dx []) → repPl cs .keep F (.ref a) := fun _ a dx e => ⟨C, a, dx, h, rfl, e⟩
theorem mkNothing {C : Addr} (h : (PK.Nothing, C) ∈ cs) : ∀ F a dx, F a = some (.ins C dx []) → repPl cs .nothing F (.ref a) := fun _ a dx e => ⟨C, a, dx, h, rfl, e⟩
theorem mkEverything {C : Addr} (h : (PK.Everything, C) ∈ cs) : ∀ F a dx, F a = some (.ins C dx []) → repPl cs .everything F (.ref a) := fun _ a dx e => ⟨C, a, dx, h, rfl, e⟩

/-! ### methods by the class -/
end
section
variable (P : Program) (w : World) (K : PySem.W.Frag) (mg : Str → Option Value) (base : Heap) (cs : CsL)
/-- each class has the method m, of at most that level, and it computes fm -/
structure MethD (m : Str) (L : Nat) {τ γ : Type} (t : Tr τ) (S : (τ → R γ) → Sp) (sf : τ → Pl) (fm : τ → R γ) : Prop where
  out : ∀ k C, (k, C) ∈ cs → ∃ f, Meth K C m f ∧ ((∀ x, (sf x).kd = k → fm x = .bad) ∨ ∃ fd ps lv fk, lv ≤ L ∧ Binds K fd ps [] ∧ FnOk P w K mg base (L2.CX P w) lv f fd ps (S fk) ∧ ∀ x, (sf x).kd = k → fm x = fk x)
end
section
variable {X : Cx} {U : Wi} {Γ : List Sl} {a e o : Expr} {es : List Expr} {pos p apos : Pos} {α γ τ : Type} {ρ : Rp α} {π : Rp γ} {t : Tr τ} {cs : CsL}
/-- o.m(e, ..) -/
theorem x_meth {m : Str} {L : Nat} {fm : Pl × τ → R γ} {m1 : R Pl} {m2 : R τ} {pl : Sem Bool} (M : MethD X.prog X.w X.K X.mg X.base cs m L (tc (rPl cs) t) (SpP X.mg (tc (rPl cs) t) π) (fun x => x.1) fm) (T : PlC X.K cs) (hr : Room L X.A) (tk : Takes X U.W) (hle : Le U.Γ Γ)
    (hmm : m ∉ PFs) (he : EX X U Γ o (rPl cs) m1) (ha : AX X U Γ (a :: es) t m2)
    (hst : starEach (a :: es) X.env = (false, eval a X.env) :: starEach es X.env := by rfl) (hpl : (backTo pos (starEach es X.env)).any (·.1) = false := by rfl)
    (ht : eval (.Call (.Attribute o m apos) (a :: es) [] pos) X.env = (do
      let ov ← eval o X.env
      standAt apos.atName
      let (f, first) ← holding [ov] (getMethod ov m pl)
      callWith pos f first (backTo pos (starEach (a :: es) X.env)) (backToKw pos (keywordEach [] X.env))) := by rfl) :
    EX X U Γ (.Call (.Attribute o m apos) (a :: es) [] pos) π (m1.bind fun q => m2.bind fun x => fm (q, x)) :=
  ⟨fun en F σ H Q s h => by
    have w := he.out en F σ H (fun v H1 => ∃ q F1, Same F F1 ∧ SA en Γ F1 σ H1 ∧ repPl cs q F1 v ∧ wpR (m2.bind fun x => fm (q, x)) (fun w => ∀ v F' H', Same F F' → SA en Γ F' σ H' → π.rep w F' v → Q v H') (U.ok X.mg en F)) s
      (wpR_mono (wpR_bind h) (fun q k v F1 H1 e1 s1 r1 => ⟨q, F1, e1, s1, r1, k⟩) fun _ z => z)
    intro pins s0 I
    refine PySem.W.methodCall_KW (pl := pl) (thn (w pins s0 I) fun u s1 ⟨v, H1, I1, rv, q, F1, e1, sa1, r1, h1⟩ => ?_) ht
    obtain ⟨fs, ⟨C, b, dx, hC, ev, hb⟩, hfs⟩ := rep_ob r1
    subst ev
    obtain rfl : u = Value.ref b := rv
    obtain ⟨f, hm, hd⟩ := M.out q.kd C hC
    refine getmeth_ok I1 (sa1.sub b _ hb) (T.cl _ C hC) hm (look_none (by rw [hfs]; exact no_fld hmm _)) ?_
    rcases hd with bad | ⟨fd, ps, lv, fk, hlv, hbi, G, hfk⟩
    · refine PySem.W.callWith_K (first := [.ref b]) (h₀ := X.base) I.ok.mod.kin hm.kp (thn (ha.out en F1 σ H1 (fun _ _ => False) sa1 (wpR_mono (wpR_bind h1) (fun x k => ?_) fun _ z => z.up e1) pos pins s1 I1) fun us s2 ⟨vs, H2, I2, r, q2⟩ => q2.elim) hst hpl
      rw [bad (q, x) rfl] at k
      exact k.elim
    · refine PySem.W.callWith_K (first := [.ref b]) (h₀ := X.base) I.ok.mod.kin hm.kp (thn (ha.out en F1 σ H1 (fun vs H2 => SpP X.mg (tc (rPl cs) t) π fk (.ref b :: (vs ++ [])) H2 Q (WE U.W σ)) sa1 (wpR_mono (wpR_bind h1) (fun x k vs F2 H2 e2 s2 r2 => ?_) fun _ z => z.up e1) pos pins s1 I1)
        fun us s2 ⟨vs, H2, I2, r, q2⟩ => ⟨I2.kIn, ?_⟩) hst hpl
      · rw [hfk (q, x) rfl] at k
        refine ⟨F2, (q, x), s2.sub, ⟨.ref b, vs, by rw [List.append_nil], repPl_mono e2 r1, r2⟩, wpR_mono k (fun z k v F' H' x ru => k v F' H' (e1.trans (e2.trans x.f)) (s2.ext x) ru) fun r z cls d F' H' x o => z cls d F' σ H' (e1.trans (e2.trans x.f)) ((s2.ext x).le hle) o⟩
      · exact run_fnSD (us := .ref b :: us) (vs := .ref b :: vs) G (hr.mono hlv) hbi .nil (passAt tk σ) I2 (.cons rfl r) q2⟩
/-- o.m() -/
theorem x_meth0 {m : Str} {L : Nat} {fm : Pl → R γ} {m1 : R Pl} {pl : Sem Bool} (M : MethD X.prog X.w X.K X.mg X.base cs m L (t1 (rPl cs)) (SpP X.mg (t1 (rPl cs)) π) (fun x => x) fm) (T : PlC X.K cs) (hr : Room L X.A) (tk : Takes X U.W) (hle : Le U.Γ Γ)
    (hmm : m ∉ PFs) (he : EX X U Γ o (rPl cs) m1)
    (ht : eval (.Call (.Attribute o m apos) [] [] pos) X.env = (do
      let ov ← eval o X.env
      standAt apos.atName
      let (f, first) ← holding [ov] (getMethod ov m pl)
      callWith pos f first (backTo pos (starEach [] X.env)) (backToKw pos (keywordEach [] X.env))) := by rfl) :
    EX X U Γ (.Call (.Attribute o m apos) [] [] pos) π (m1.bind fun q => fm q) :=
  ⟨fun en F σ H Q s h => by
    have w := he.out en F σ H (fun v H1 => ∃ q F1, Same F F1 ∧ SA en Γ F1 σ H1 ∧ repPl cs q F1 v ∧ wpR (fm q) (fun w => ∀ v F' H', Same F F' → SA en Γ F' σ H' → π.rep w F' v → Q v H') (U.ok X.mg en F)) s
      (wpR_mono (wpR_bind h) (fun q k v F1 H1 e1 s1 r1 => ⟨q, F1, e1, s1, r1, k⟩) fun _ z => z)
    intro pins s0 I
    refine PySem.W.methodCall_KW (pl := pl) (thn (w pins s0 I) fun u s1 ⟨v, H1, I1, rv, q, F1, e1, sa1, r1, h1⟩ => ?_) ht
    obtain ⟨fs, ⟨C, b, dx, hC, ev, hb⟩, hfs⟩ := rep_ob r1
    subst ev
    obtain rfl : u = Value.ref b := rv
    obtain ⟨f, hm, hd⟩ := M.out q.kd C hC
    refine getmeth_ok I1 (sa1.sub b _ hb) (T.cl _ C hC) hm (look_none (by rw [hfs]; exact no_fld hmm _)) ?_
    rcases hd with bad | ⟨fd, ps, lv, fk, hlv, hbi, G, hfk⟩
    · rw [bad q rfl] at h1
      exact h1.elim
    · rw [hfk q rfl] at h1
      exact PySem.W.callWith_K0 (first := [.ref b]) I1.kIn hm.kp (run_fnSD (us := [.ref b]) (vs := [.ref b]) G (hr.mono hlv) hbi .nil (passAt tk σ) I1 (.cons rfl .nil)
        ⟨F1, q, sa1.sub, ⟨.ref b, rfl, r1⟩, wpR_mono h1 (fun z k v F' H' x ru => k v F' H' (e1.trans x.f) (sa1.ext x) ru) fun r z cls d F' H' x o => z cls d F' σ H' (e1.trans x.f) ((sa1.ext x).le hle) o⟩)⟩
/-! ### isinstance -/
theorem pl_ty {K : PySem.W.Frag} {q : Pl} {F H : Hp} {v : V} (T : PlC K cs) (sF : Same F H) (r : repPl cs q F v) : ∃ C, (q.kd, C) ∈ cs ∧ TyX K H v (.ref C) := by
  obtain ⟨fs, ⟨C, b, dx, hC, ev, hb⟩, _⟩ := rep_ob r
  subst ev
  exact ⟨C, hC, .base (.ins (sF b _ hb) (T.cl _ C hC) (T.ca _ C hC) T.gn T.gt (T.mo _ C hC))⟩
theorem RepL.rep {F : Hp} {xs : List α} {vs : List V} (r : RepL ρ F xs vs) : ∀ n : Nat, RepL ρ F (List.replicate n xs).flatten (List.replicate n vs).flatten
  | 0 => .nil
  | n + 1 => by
    rw [List.replicate_succ, List.replicate_succ, List.flatten_cons, List.flatten_cons]
    exact r.append (RepL.rep r n)
/-- str(n) -/
theorem dStrI : DC (fun xs H Q => ∃ i : Int, xs = [.int i] ∧ i.natAbs.log2 < 1920 ∧ Q (.str (toString i)) H) (t1 rI) rS fun i => chk (i.natAbs.log2 < 1920) ((toString i : String) : Str) := fun x vs F H Q e ⟨v, ev, r⟩ h => by
  obtain ⟨hc, k⟩ := wpR_chk h
  obtain rfl : v = .int x := r
  exact ⟨x, ev, hc, k _ F H (Ext.refl e) rfl⟩
end
section
variable {X : Cx} {U : Wi} {Γ Γ0 : List Sl} {body suite rest : List Stmt} {b0 : Stmt} {x : Str} {c : Value} {np pos pos' : Pos} {τ ω : Type} {I : ω → Kd}
/-- try: body except x: suite -/
theorem p_tryOnly {mb : R τ} {mh : Er → R τ} {k : τ → R ω} (ct : Str → Option Bool) (Γ0 : List Sl) (Γs : τ → List Sl) (hcx : X.mg x = some c) (tk : Takes X U.W) (hle : Le U.Γ Γ0) (hct : Ct X.mg ct fun C b => PySem.W.exmOne X.K (.ref C) c = some b)
    (hb : ∀ (W : WX) (pn : List (Addr × Obj)) (xe : Value → Shared → Prop), Takes (X.tr pn xe) W → PassesOwn (model X.prog X.w) X.A X.env xe → SX (X.tr pn xe) ⟨W, Γ0⟩ Γ body (fun s => .nx (Γs s)) mb)
    (hsu : ∀ (a : Addr) (oe : Obj) (cls : Value) (d : Option Addr) (pn : List (Addr × Obj)) (r : Er), Zc cls d oe → (∃ vs, oe.data = .fields vs) → (∃ C, X.mg r.cls = some (.ref C) ∧ cls = .ref C) → d = none → SX (X.suite a ((a, oe) :: pn)) U0 Γ0 (b0 :: suite) (fun s => .nx (Γs s)) (mh r))
    (hr : ∀ s, SX X U (Γs s) rest I (k s)) (hs : X.stack = X.env :: X.outer := by rfl) (hf : X.env.frame = some X.env.locals := by rfl) (hg : Gl X x := by rfl) (hdb : (x == ("__debug__" : Str)) = false := by decide) :
    SX X U Γ (.Try body [.ExceptHandler (some (.Name x np)) none (b0 :: suite) pos'] [] [] pos :: rest) I ((catchR ct mh mb).bind k) :=
  ⟨fun en F σ H D s h => wSs_of (pss_cons (ps_try_only (tb := fun W => fun D σ H => ∀ pn xe, Takes (X.tr pn xe) W → PassesOwn (model X.prog X.w) X.A X.env xe → wSs (X.tr pn xe) body D σ H)
      (ts := fun a cls d => fun D σ H => ∀ oe pn, Zc cls d oe → (∃ vs, oe.data = .fields vs) → wSs (X.suite a ((a, oe) :: pn)) (b0 :: suite) D σ H) (Wout := U.W) hs hf ⟨hg, hdb, .inl hcx⟩ tk
      (fun W pn xe tk' hp' => ⟨fun pins s σ H D I h => h pn xe tk' hp' pins s I⟩) (fun a oe cls d pn hz hf => ⟨fun pins s σ H D I h => h oe pn hz hf pins s I⟩)) wSs_pss) (by
    intro pn xe tkW hp
    refine (hb _ pn xe tkW hp).out en F σ H { D with nx := wSs X rest D } s ?_
    cases mb with
    | bad => exact h.elim
    | ok s' => exact fun F' σ' H' e sa => (hr s').out en F' σ' H' D sa (wpR_mono h (fun o z => z.up e) fun _ z => z.up e)
    | er r =>
      refine fun cls d F' σ' H' e sa ho => ?_
      obtain ⟨C, c1, c2, c3⟩ := ho
      show wOnly X.K c (fun a cls d => fun D σ H => ∀ oe pn, Zc cls d oe → (∃ vs, oe.data = .fields vs) → wSs (X.suite a ((a, oe) :: pn)) (b0 :: suite) D σ H) U.W { D with nx := wSs X rest D } cls d σ' H'
      have h' : wpR ((match ct r.cls with | some true => if r.fld.isNone = true then (mh r).calm else .bad | some false => .er r | none => .bad).bind k) (fun o => (I o).sat en F D) (U.ok X.mg en F) := h
      cases hc : ct r.cls with
      | none =>
        rw [hc] at h'
        exact h'.elim
      | some b =>
        have ex := hct.out r.cls b C hc c1
        rw [← c2] at ex
        rw [hc] at h'
        cases b with
        | false =>
          refine ⟨false, ex, (fun z => nomatch z), fun _ => ?_⟩
          have h2 : U.ok X.mg en F r := h'
          exact h2 cls d F' σ' H' e (sa.le hle) ⟨C, c1, c2, c3⟩
        | true =>
          have h3 : wpR ((if r.fld.isNone = true then (mh r).calm else .bad).bind k) (fun o => (I o).sat en F D) (U.ok X.mg en F) := h'
          by_cases hn : r.fld.isNone = true
          case neg =>
            rw [if_neg hn] at h3
            exact h3.elim
          rw [if_pos hn] at h3
          have h' := h3
          have hn' : r.fld = none := by simpa using hn
          refine ⟨true, ex, fun _ a ha oe pn hz hfl => ?_, fun z => nomatch z⟩
          refine (hsu a oe cls d pn r hz hfl ⟨C, c1, c2⟩ ?_).out en F' _ H' _ sa (wpR_mono (wpR_calm (wpR_bind h')) (fun s' q F'' σ'' H'' e' sa' => ?_) fun _ z => z.elim)
          · rw [hn'] at c3
            exact c3
          · show wSs X rest D σ'' H''
            exact (hr s').out en F'' _ H'' D sa' (wpR_mono q (fun o z => z.up (e.trans e')) fun _ z => z.up (e.trans e')))⟩
end
end Py

/-! Own layer, part Ag: max(xs, default=n). -/
namespace Py
open PySem PySem.Spec PyProof.Rows L2
def maxDf (d : Int) : List Int → Int
  | [] => d
  | x :: xs => xs.foldl (fun a y => if a < y then y else a) x
theorem maxOf_int (x : Int) (xs : List Int) : PySem.W.maxOf x xs = xs.foldl (fun a y => if a < y then y else a) x := by
  unfold PySem.W.maxOf
  congr 1
  funext a y
  show (if decide (a < y) = true then y else a) = _
  by_cases h : a < y
  · rw [if_pos h, if_pos (decide_eq_true h)]
  · rw [if_neg h, if_neg (by simpa using h)]
def rMaxDf (K : PySem.W.Frag) : List V → List V → Hp → VK → Prop := fun xs zs H Q => ∃ (a : Addr) (ns : List Int) (d : Int), xs = [.ref a] ∧ zs = [.int d] ∧ SqL K H a (ns.map V.int) ∧ Q (.int (maxDf d ns)) H
theorem dp_ints {K : PySem.W.Frag} {H : Hp} : ∀ ns : List Int, DpAll K H (ns.map V.int) (ns.map PySem.W.Datum.toD)
  | [] => .nil
  | n :: ns => .cons (.int n) (dp_ints ns)
theorem cr_maxDf {X : Cx} (hc : X.calm = true) (hu : X.A.units + 64 < cLine) : CallRK X (.builtin "max") [("default" : Str)] (rMaxDf X.K) := by
  intro pins s σ H xs zs us ws Q I r1 r2 h
  obtain ⟨a, ns, d, rfl, rfl, hs, q⟩ := h
  obtain ⟨its, rv, hl, _⟩ := I.list hs
  rw [Vals.ref1 r1]
  obtain ⟨u, rfl, t, rfl⟩ := vals1 r2
  obtain ⟨as, ra⟩ := Dp.readsAll I _ _ _ (dp_ints ns) rv
  have ra' : PySem.W.HoldAll s.heap its.toArray.toList ns := ⟨as, by simpa using ra⟩
  refine PySem.W.max_list_datum_default (I.ok.hd hc) hl.isList ra' (by show X.A.units + 1 + 0 < cLine; omega) (fun e h' tk hk => ?_) (fun y ys i v h' tk e hv hh hk => ?_)
  · subst e
    exact ⟨.int d, H, I.kept hk, ⟨t, rfl⟩, q⟩
  · subst e
    obtain ⟨bs, rb⟩ := hh
    have rb' : Reads h' v (.int (PySem.W.maxOf y ys)) bs := rb
    have q' : Q (.int (PySem.W.maxOf y ys)) H := by
      rw [maxOf_int]
      exact q
    generalize PySem.W.maxOf y ys = m at rb' q'
    cases rb'
    exact ⟨.int m, H, I.kept hk, ⟨_, rfl⟩, q'⟩
section
variable {X : Cx} {U : Wi} {Γ : List Sl} {a : Expr} {pos p p2 kpos : Pos} {j : Nat}
theorem x_maxDf {m : R (List Int)} (d : Int) (hu : X.A.units + 64 < cLine) (hm : X.mg "max" = none) (he : EX X U Γ a (rL rI) m) (hc : X.calm = true := by rfl) (hg : Gl X "max" := by rfl)
    (h1 : starEach [a] X.env = (false, eval a X.env) :: starEach [] X.env := by rfl)
    (hst : backTo pos (starEach [a] X.env) = (false, eval a X.env) :: backTo pos (starEach [] X.env) := by rfl) (hpl : (backTo pos (starEach [a] X.env)).any (·.1) = false := by rfl)
    (hall : (backToKw pos (keywordEach [⟨some "default", .Constant (.int d) j p2, kpos⟩] X.env)).all (·.1.isSome) = true := by rfl) (hnone : (backToKw pos (keywordEach [⟨some "default", .Constant (.int d) j p2, kpos⟩] X.env)).any (·.1.isNone) = false := by rfl)
    (hks : (backToKw pos (keywordEach [⟨some "default", .Constant (.int d) j p2, kpos⟩] X.env)).filterMap (·.1) = [("default" : Str)] := by rfl) :
    EX X U Γ (.Call (.Name "max" p) [a] [⟨some "default", .Constant (.int d) j p2, kpos⟩] pos) rI (m.bind fun xs => .ok (maxDf d xs)) :=
  ⟨fun en F σ H Q s h => wE_of (pe_callBK (cr_maxDf hc hu) hg hm (by decide +kernel) (pa_cons wE_pe pa_nil h1) (pk_cons pe_int pk_nil) (by decide) (by decide) hst hpl hall hnone hks) (he.out en F σ H _ s (wpR_mono (wpR_bind h) (fun xs k v F1 H1 e1 s1 ⟨q, vs, ev, hq, r⟩ => by
    subst ev
    have hv := vals_ints r
    subst hv
    exact ⟨q, xs, d, rfl, rfl, .inl (.inl (s1.sub q _ hq)), k _ F1 H1 e1 s1 rfl⟩) fun _ z => z))⟩
end
/-! ### a text or a plan -/
def rQ (cs : CsL) : Rp (Sum Str Pl) := rSum rS (rPl cs)
theorem cvQL {cs : CsL} : Cv rS (rQ cs) Sum.inl := ⟨fun _ _ _ h => h⟩
theorem cvQR {cs : CsL} : Cv (rPl cs) (rQ cs) Sum.inr := ⟨fun _ _ _ h => h⟩
section
variable {X : Cx} {U : Wi} {Γ : List Sl} {e0 e : Expr} {cs : CsL} {p pos : Pos}
theorem x_qL {m : R (Sum Str Pl)} (h : EX X U Γ e (rQ cs) m) : EX X U Γ e rS (m.bind fun q => ofOpt q.getLeft?) :=
  ⟨fun en F σ H Q s q => h.out en F σ H Q s (wpR_mono (wpR_bind q) (fun x k v F1 H1 e1 s1 r1 => by
    cases x with
    | inr x => exact k.elim
    | inl y => exact k v F1 H1 e1 s1 r1) fun _ z => z)⟩
theorem x_qR {m : R (Sum Str Pl)} (h : EX X U Γ e (rQ cs) m) : EX X U Γ e (rPl cs) (m.bind fun q => ofOpt q.getRight?) :=
  ⟨fun en F σ H Q s q => h.out en F σ H Q s (wpR_mono (wpR_bind q) (fun x k v F1 H1 e1 s1 r1 => by
    cases x with
    | inl x => exact k.elim
    | inr y => exact k v F1 H1 e1 s1 r1) fun _ z => z)⟩
theorem x_isQ {m : R (Sum Str Pl)} {v : V} (hm : X.mg "isinstance" = none) (T : PlC X.K cs) (h0 : EX X U Γ e0 (rQ cs) m) (hT : NmC X e v (.type "str")) (htb : ∀ k C, (k, C) ∈ cs → PySem.W.kitOne X.K (.ref C) (.type "str") = some false) (hg : Gl X "isinstance" := by rfl)
    (he : starEach [e0, e] X.env = (false, eval e0 X.env) :: starEach [e] X.env := by rfl) (he2 : starEach [e] X.env = (false, eval e X.env) :: starEach [] X.env := by rfl) (hpl : (backTo pos (starEach [e] X.env)).any (·.1) = false := by rfl) :
    EX X U Γ (.Call (.Name "isinstance" p) [e0, e] [] pos) rB (m.bind fun q => .ok q.isLeft) :=
  ⟨fun en F σ H Q s h => wE_of (pe_callB call_isi hg hm boot_isinstance (pa_cons wE_pe (pa_cons hT.pe pa_nil he2) he) (by decide) (by decide) he hpl) (h0.out en F σ H _ s (wpR_mono (wpR_bind h) (fun q k x F1 H1 e1 s1 r1 => by
    cases q with
    | inl w => exact ⟨x, v, _, _, true, rfl, hT.cv, tyS.out X.K H1 w x (rS.mono s1.sub r1), kit_ty (by decide +kernel), k _ F1 H1 e1 s1 rfl⟩
    | inr q =>
      obtain ⟨C, hC, ty⟩ := pl_ty T s1.sub r1
      exact ⟨x, v, _, _, false, rfl, hT.cv, ty, htb _ C hC, k _ F1 H1 e1 s1 rfl⟩) fun _ z => z))⟩
end
end Py

/-! Own layer, part Ah: a def that is handed the exception that is handled: x = f(e) in an except clause. -/
namespace Py
open PySem PySem.Spec PyProof.Rows L2
theorem wpR_calmF {α : Type} {m : R α} {K : α → Prop} {Z : Er → Prop} (h : wpR m.calm K Z) : wpR m.calm K fun _ => False := by
  cases m with
  | ok a => exact h
  | er e => exact False.elim h
  | bad => exact h
theorem roomE {k : Nat} {A : Around} {h : Option Value} (r : Room k A) : L2H.RoomH k (A.mark h) := ⟨r.dp, r.un⟩
/-- what a def promises while p is handled and stands in the state -/
structure FnE (P : Program) (w : World) (K : PySem.W.Frag) (mg : Str → Option Value) (base : Heap) (k : Nat) (f : Addr) (fd : FuncData) (ps : List Str) (p : Addr × Obj) (sp : Sp) : Prop where
  len : ∀ vs H Q E, sp vs H Q E → vs.length = ps.length
  run : ∀ (A : Around) (outer : List Env) (s : Shared) (H : Hp) (args : Args) (us : List Value) (vs : List V) (Q : VK) (E : XK), L2H.RoomH k A → L2H.PinOk outer H s p → Env0 P w K mg base A outer s H → BindsTo s fd args (ps.zip us) → Vals vs us → sp vs H Q E →
    codeAny (model P w) A (.call (.ref f) args) (CR (L2.CX P w) outer P w H s Q E) s
abbrev CxE (P : Program) (w : World) (K : PySem.W.Frag) (mg : Str → Option Value) (base : Heap) (N : List Str) (qual : Str) (st : Stmt) (f : Addr) (cdv : Value) (A : Around) (outer : List Env) (s : Shared) (H : Hp) (E : XK) (p : Addr × Obj) : Cx :=
  L2H.cxH (L2.CX P w) P w K mg base N qual (defScope st) f cdv A outer s H E p
section
variable {P : Program} {w : World} {K : PySem.W.Frag} {mg : Str → Option Value} {base : Heap}
theorem FunZ.okE {x qual : Str} {st : Stmt} {f : Addr} {fd : FuncData} {N ps : List Str} {k : Nat} {sp : Sp} {p : Addr × Obj} (F : FunZ K x qual st f fd) (S : FnScope N ps (defScope st)) (len : ∀ vs H Q E, sp vs H Q E → vs.length = ps.length)
    (hbody : ∀ (cdv : Value) (A : Around) (outer : List Env) (s : Shared) (H : Hp) (vs : List V) (Q : VK) (E : XK), L2H.RoomH k (A.deeper (envOfC qual (defScope st) s.heap.objs.size f cdv)) → sp vs H Q E →
      ∃ t, PSs (CxE P w K mg base N qual st f cdv A outer s H E p) (defBody st) t ∧ t { nx := fun _ H' => Q .non H', rt := Q } (start N vs) H) : FnE P w K mg base (k + 1) f fd ps p sp := by
  obtain ⟨oc, od, dV, kV, doc, pm, an, cdv, ct, osl, rfl, lk, hcd⟩ := F.ex
  refine ⟨len, fun A outer s H args us vs Q E hr hpin e0 hb r hsp => ?_⟩
  have hl := len _ _ _ _ hsp
  have KX : K.In s.heap := e0.mod.kin.keeps fun b o e => (e0.bs b o e).1
  have lim : s.heap.NoLimit := e0.mod.nolimit.keeps fun b o e => (e0.bs b o e).1
  have hkind : ∀ y ∈ ps.zip us, (defScope st).names.lookup y.1 = some .local ∨ ((defScope st).names.lookup y.1 = some .cell ∧ ((cellsFrom (s.heap.objs.size + 1) (defScope st).names []).lookup y.1).isSome = true) := fun ⟨n, v⟩ hy => by
    rcases S.par n (List.of_mem_zip hy).1 with q | q
    · exact .inl q
    · exact .inr ⟨q, PySem.W.cellsFrom_some _ _ _ (.inl q)⟩
  refine codeAny_call_function hr.depth (KX _ _ lk) rfl S.co S.gen rfl (PySem.W.codeRec_of KX hcd) (hb _ _ _ _ ?_)
  refine wpAny_newFunctionEnv_cells S.kind hkind fun env he s1 x => ?_
  subst he
  refine ⟨lim.keeps x.toInCall.keep, codeAny_func ?_⟩
  obtain ⟨t, ht, hq⟩ := hbody cdv A outer s H vs Q E (hr.deeper _) hsp
  have I : Inv (CxE P w K mg base N qual st f cdv A outer s H E p) [] (L2.start N vs) H s1 := L2H.inv_startH S hpin e0 hl r x
  refine wpAny_mono (ht.run [] s1 (L2.start N vs) H _ I hq) (fun fl s' hs => ?_) fun e s' hs => hs
  have fin : ∀ {σ' : L2.St} {H' : Hp} {v : V} {u : Value}, Inv (CxE P w K mg base N qual st f cdv A outer s H E p) [] σ' H' s' → RelV v u → Q v H' → CE outer P w H s Q u s' :=
    fun {σ' H' v u} J rv q => ⟨v, H', J.os, J.bare, J.base, J.hok, rv, q⟩
  cases fl with
  | ret u =>
    obtain ⟨v, σ', H', J, rv, q⟩ := hs
    exact fin J rv q
  | next =>
    obtain ⟨σ', H', J, q⟩ := hs
    exact fin (v := V.non) (u := Value.none) J rfl q
  | brk =>
    obtain ⟨_, _, _, q⟩ := hs
    exact False.elim q
  | cont =>
    obtain ⟨_, _, _, q⟩ := hs
    exact False.elim q
theorem f_okE {x qual : Str} {st : Stmt} {f : Addr} {fd : FuncData} {N : List Str} {y : Str} {k : Nat} {γ : Type} {ρ : Rp γ} {fm : R γ} {a : Addr} {oe : Obj} (Fn : FunZ K x qual st f fd) (S : FnScope N [y] (defScope st)) (hN : 1 ≤ N.length)
    (body : ∀ cdv A outer s H E (hr : L2H.RoomH k (A.deeper (envOfC qual (defScope st) s.heap.objs.size f cdv))),
      SX (CxE P w K mg base N qual st f cdv A outer s H E (a, oe)) U0 (im (rExc a) () :: List.replicate (N.length - 1) .any) (defBody st) (fun z : γ => .fn ⟨fun H v => ρ.rep z H v, fun e h => ρ.mono e h⟩ []) fm) :
    FnE P w K mg base (k + 1) f fd [y] (a, oe) (SpP mg (t1 (rExc a)) ρ fun _ => fm.calm) := by
  refine Fn.okE S (fun vs H Q E ⟨F, a, _, r, _⟩ => ?_) (fun cdv A outer s H vs Q E hr ⟨F, aa, sF, r, hw⟩ => ?_)
  · exact (ar1.out a F vs r).1
  · obtain ⟨h1, h2, h3⟩ := ar1.out aa F vs r
    refine ⟨_, wSs_pss, ?_⟩
    have hst : ∀ (i : Nat) v, vs[i]? = some v → (L2.start N vs)[i]? = some (some v) := fun i v e => by
      unfold L2.start
      have hl : i < vs.length := (List.getElem?_eq_some_iff.mp e).1
      rw [List.getElem?_append_left (by rw [List.length_map]; exact hl), List.getElem?_map, e] <;> rfl
    have im0 : ∀ (i : Nat) x, (im (rExc a) () :: List.replicate (N.length - 1) Sl.any)[i]? = some x → x = .any ∨ ∃ P v, x = .imm P ∧ vs[i]? = some v ∧ P.p F v := fun i x hx => by
      cases i with
      | zero => exact .inr (h3 0 x hx)
      | succ i =>
        rw [List.getElem?_cons_succ, List.getElem?_replicate] at hx
        split at hx
        · exact .inl (Option.some.inj hx).symm
        · cases hx
    have sa : SA ⟨F, H, fun _ => False⟩ (im (rExc a) () :: List.replicate (N.length - 1) Sl.any) F (L2.start N vs) H := by
      refine ⟨?_, sF, Same.refl F, fun _ _ h _ => h, fun _ h => h, fun _ _ h _ => .inl h, fun i Q hi => ?_, fun i b Q hi => ?_, fun i j b c Q Q' p _ hi => ?_⟩
      · rw [List.length_cons, List.length_replicate]
        unfold L2.start
        rw [List.length_append, List.length_map, List.length_replicate, h1]
        omega
      · rcases im0 i _ hi with z | ⟨Q', v, z, hv, hq⟩
        · cases z
        · injection z with z
          subst z
          exact ⟨v, hst i v hv, hq⟩
      · rcases im0 i _ hi with z | ⟨Q', v, z, hv, hq⟩
        · cases z
        · cases z
      · rcases im0 i _ hi with z | ⟨Q', v, z, hv, hq⟩
        · cases z
        · cases z
    have fin : ∀ {F' : Hp} {σ' : L2.St} {H' : Hp}, Same F F' → SA ⟨F, H, fun _ => False⟩ [] F' σ' H' → Ext F H F' H' := fun {F' σ' H'} e s' => ⟨e, fun p o h => s'.old p o h (fun z => z), s'.sub, fun p h hf => s'.frz p h hf fun z => z⟩
    exact (body cdv A outer s H E hr).out ⟨F, H, fun _ => False⟩ F _ H _ sa (wpR_mono (wpR_calm hw) (fun z k => ⟨fun v F' σ' H' e s' rv => k v F' H' (fin e s') rv, fun F' σ' H' e s' rv => k .non F' H' (fin e s') rv⟩) fun r z => z.elim)
end
section
variable {X : Cx} {U : Wi} {Γ : List Sl} {a : Addr} {oe : Obj} {cls : Value} {d : Option Addr} {r : Er} {n x T y : Str} {pos p p2 p3 : Pos}
theorem run_fnE {k : Nat} {f : Addr} {fd : FuncData} {ps : List Str} {sp : Sp} {pins : List (Addr × Obj)} {σ : L2.St} {H : Hp} {s : Shared} {Q : VK} {us : List Value} {vs : List V} {q : Addr × Obj} (F : FnE X.prog X.w X.K X.mg X.base k f fd ps q sp) (hr : L2H.RoomH k X.A) (hp : q ∈ X.pn) (hb : Binds X.K fd ps [])
    (I : Inv X pins σ H s) (r : Vals vs us) (h : sp vs H Q fun _ _ _ => False) : wpAny (model X.prog X.w) X.A (call (.ref f) us) (EP X pins σ Q) X.xe s := by
  have hl : us.length = ps.length := by rw [← r.length]; exact F.len _ _ _ _ h
  have b := hb s us I.kIn (by rw [List.append_nil]; exact hl)
  rw [List.append_nil] at b
  have P1 := I.pin q (List.mem_append_left _ hp)
  have hpin : L2H.PinOk X.stack H s q := ⟨P1.1, P1.2.1, fun hm => (List.mem_cons.mp (I.stkSub q.1 hm)).elim P1.2.2.1 P1.2.2.2.1, P1.2.2.2.2⟩
  refine wpAny_call (codeAny_mono (F.run X.A X.stack s H ⟨us, []⟩ us vs Q (fun _ _ _ => False) hr hpin I.env0 b r h) fun r s' hq => ?_)
  cases r with
  | error e =>
    obtain ⟨_, _, _, _, _, _, _, _, _, _, _, _, z⟩ := hq
    exact z.elim
  | ok fl =>
    cases fl with
    | ret u => exact I.after hq
    | next => exact False.elim hq
    | brk => exact False.elim hq
    | cont => exact False.elim hq
theorem x_callE {k : Nat} {f : Addr} {fd : FuncData} {γ : Type} {ρ : Rp γ} {fm : R γ} (i : Nat) (G : FnE X.prog X.w X.K X.mg X.base k f fd [y] (a, oe) (SpP X.mg (t1 (rExc a)) ρ fun _ => fm.calm)) (hr : L2H.RoomH k X.A) (hp : (a, oe) ∈ X.pn) (hm : X.mg x = some (.ref f)) (hk : PySem.W.keepIn X.K (.ref f) = true)
    (hb : Binds X.K fd [y] []) (hΓ : Γ[i]? = some (im (rExc a) ()) := by rfl) (hN : X.N[i]? = some n := by rfl) (hv : Vis X.env.scope n := by first | exact Or.inl rfl | exact Or.inr (Or.inl rfl) | exact Or.inr (Or.inr rfl))
    (hd1 : (n == ("__debug__" : Str)) = false := by decide) (hd2 : (n == ("__classdict__" : Str)) = false := by decide) (hg : Gl X x := by rfl) (hdb : (x == ("__debug__" : Str)) = false := by decide)
    (he : starEach [.Name n p2] X.env = (false, eval (.Name n p2) X.env) :: starEach [] X.env := by rfl) (hpl : (backTo pos (starEach [] X.env)).any (·.1) = false := by rfl) :
    EX X U Γ (.Call (.Name x p) [.Name n p2] [] pos) ρ fm.calm :=
  ⟨fun en F σ H Q s h => by
    have pe : PE X (.Call (.Name x p) [.Name n p2] [] pos) (fun σ H Q => ∃ v, σ[i]? = some (some v) ∧ SpP X.mg (t1 (rExc a)) ρ (fun _ => fm.calm) [v] H Q fun _ _ _ => False) := by
      refine ⟨fun pins s σ H Q I h => ?_⟩
      obtain ⟨v, e1, hq⟩ := h
      refine wpAny_Call_Name_kw (ld_glob I hg hm ?_ hdb)
      have pa : PA X [.Name n p2] _ := pa_cons (pe_var hN hv hd1 hd2) pa_nil he
      refine PySem.W.callWith_K (h₀ := X.base) I.ok.mod.kin hk (thn (pa.run pos pins s σ H (fun vs H1 => vs = [v] ∧ H1 = H) I ⟨v, e1, rfl, rfl⟩) fun us s1 ⟨vs, H1, I1, r, q⟩ => ⟨I1.kIn, ?_⟩) he hpl
      obtain ⟨rfl, rfl⟩ := q
      exact run_fnE G hr hp hb I1 r hq
    refine wE_of pe ?_
    have h2 := wpR_calmF h
    obtain ⟨w, e1, r1⟩ := s.val i _ hΓ
    exact ⟨w, e1, F, (), s.sub, ⟨w, rfl, r1⟩, wpR_mono (m := fm.calm) h2 (fun z k v F' H' xx rr => k v F' H' xx.f (s.ext xx) rr) fun _ z => z.elim⟩⟩
theorem call_isEp {D : Addr} (hp : (a, oe) ∈ X.pn) (C : ExcC X.K D) (hz : Zc (.ref D) none oe) (hf : ∃ vs, oe.data = .fields vs) :
    CallR X (.builtin "isinstance") (fun xs H Q => ∃ (c : V) (u : Value) (b : Bool), xs = [.ref a, c] ∧ (∀ u', RelV c u' → u' = u) ∧ PySem.W.kitOne X.K (.ref D) u = some b ∧ Q (.bl b) H) := by
  intro pins s σ H xs us Q I r h
  obtain ⟨c, u, b, rfl, hcv, k, q⟩ := h
  obtain ⟨u1, u2, rfl, r1, r2⟩ := vals2 r
  cases (show u1 = Value.ref a from r1)
  have ec := hcv _ r2
  subst ec
  obtain ⟨hget, _⟩ := I.pin (a, oe) (List.mem_append.mpr (.inl hp))
  obtain ⟨vs, hv⟩ := hf
  have J : PySem.W.InstAt s.heap a oe D none := by
    obtain ⟨oc, od, oda, osl⟩ := oe
    obtain ⟨h1, h2⟩ := hz
    dsimp only at h1 h2 hv
    subst h1 h2 hv
    exact ⟨hget, rfl, rfl, trivial⟩
  exact PySem.W.kia_one (PySem.W.handS_kitx_exc C.hg C.hk C.hs C.hd C.ha C.hn C.ht C.hm) I.kIn J k (fun z => nomatch z) fun tk => ⟨.bl b, H, I.kept (t' := tk) fun _ _ z => z, rfl, q⟩
theorem call_isETp {D : Addr} (hp : (a, oe) ∈ X.pn) (C : ExcC X.K D) (hz : Zc (.ref D) none oe) (hf : ∃ vs, oe.data = .fields vs) :
    CallR X (.builtin "isinstance") (fun xs H Q => ∃ (tp : Addr) (cs : List V) (us : List Value) (b : Bool), xs = [.ref a, .ref tp] ∧ H tp = some (.tup cs) ∧ Paired ClsV cs us ∧ PySem.W.kitAny X.K (.ref D) us = some b ∧ Q (.bl b) H) := by
  intro pins s σ H xs us Q I r h
  obtain ⟨tp, cs, ws, b, rfl, hT, k, e, q⟩ := h
  obtain ⟨u1, u2, rfl, r1, r2⟩ := vals2 r
  cases (show u1 = Value.ref a from r1)
  cases (show u2 = Value.ref tp from r2)
  obtain ⟨hget, _⟩ := I.pin (a, oe) (List.mem_append.mpr (.inl hp))
  obtain ⟨vs, hv⟩ := hf
  have J : PySem.W.InstAt s.heap a oe D none := by
    obtain ⟨oc, od, oda, osl⟩ := oe
    obtain ⟨h1, h2⟩ := hz
    dsimp only at h1 h2 hv
    subst h1 h2 hv
    exact ⟨hget, rfl, rfl, trivial⟩
  obtain ⟨_, its, rv, o, h1, h2, n, h3⟩ := (show ObjOk X.prog X.w H s.heap tp (.tup cs) from I.hok tp _ hT)
  have e3 := ClsV.all k rv
  subst e3
  obtain ⟨oc, od, dt, sl⟩ := o
  simp only at h2 h3
  subst h2 h3
  exact PySem.W.kia_tup (PySem.W.handS_kitx_exc C.hg C.hk C.hs C.hd C.ha C.hn C.ht C.hm) I.kIn J h1 e (fun z => nomatch z) fun tk => ⟨.bl b, H, I.kept (t' := tk) fun _ _ z => z, rfl, q⟩
theorem x_isEp (i : Nat) (tb : Str → Option Bool) {v : V} {u : Value} {e : Expr} (hp : (a, oe) ∈ X.pn) (hz : Zc cls d oe) (hf : ∃ vs, oe.data = .fields vs) (hcl : ∃ C, X.mg r.cls = some (.ref C) ∧ cls = .ref C) (hd : d = none) (hm : X.mg "isinstance" = none) (hT : NmC X e v u)
    (htb : Ct X.mg tb fun C b => ExcC X.K C ∧ PySem.W.kitOne X.K (.ref C) u = some b) (hΓ : Γ[i]? = some (im (rExc a) ()) := by rfl) (hN : X.N[i]? = some n := by rfl) (hv : Vis X.env.scope n := by first | exact Or.inl rfl | exact Or.inr (Or.inl rfl) | exact Or.inr (Or.inr rfl))
    (hd1 : (n == ("__debug__" : Str)) = false := by decide) (hd2 : (n == ("__classdict__" : Str)) = false := by decide) (hg : Gl X "isinstance" := by rfl)
    (he : starEach [.Name n p2, e] X.env = (false, eval (.Name n p2) X.env) :: starEach [e] X.env := by rfl) (he2 : starEach [e] X.env = (false, eval e X.env) :: starEach [] X.env := by rfl) (hpl : (backTo pos (starEach [e] X.env)).any (·.1) = false := by rfl) :
    EX X U Γ (.Call (.Name "isinstance" p) [.Name n p2, e] [] pos) rB (ofOpt (tb r.cls)) :=
  ⟨fun en F σ H Q s h => by
    obtain ⟨C, c1, c2⟩ := hcl
    obtain ⟨b, hb, q⟩ := wpR_opt h
    obtain ⟨hC, hk⟩ := htb.out r.cls b C hb c1
    subst c2 hd
    have pv : PE X (.Name n p2) _ := pe_var hN hv hd1 hd2
    refine wE_of (pe_callB (call_isEp hp hC hz hf) hg hm boot_isinstance (pa_cons pv (pa_cons hT.pe pa_nil he2) he) (by decide) (by decide) he hpl) ?_
    obtain ⟨w, e1, r1⟩ := s.val i _ hΓ
    obtain rfl : w = .ref a := r1
    exact ⟨.ref a, e1, v, u, b, rfl, fun u' ru => hT.cv.eq ru, hk, q _ F H (Same.refl F) s rfl⟩⟩
theorem x_isETp (i : Nat) (tb : Str → Option Bool) {vs : List V} {us : List Value} {es : List Expr} {kk : Nat} {tp : Pos} (hp : (a, oe) ∈ X.pn) (hz : Zc cls d oe) (hf : ∃ vs, oe.data = .fields vs) (hcl : ∃ C, X.mg r.cls = some (.ref C) ∧ cls = .ref C) (hd : d = none) (hm : X.mg "isinstance" = none) (hT : NmCs X es vs us)
    (hlen : us.length ≤ 1000) (htb : Ct X.mg tb fun C b => ExcC X.K C ∧ PySem.W.kitAny X.K (.ref C) us = some b) (hΓ : Γ[i]? = some (im (rExc a) ()) := by rfl) (hN : X.N[i]? = some n := by rfl) (hv : Vis X.env.scope n := by first | exact Or.inl rfl | exact Or.inr (Or.inl rfl) | exact Or.inr (Or.inr rfl))
    (hd1 : (n == ("__debug__" : Str)) = false := by decide) (hd2 : (n == ("__classdict__" : Str)) = false := by decide) (hg : Gl X "isinstance" := by rfl)
    (he : starEach [.Name n p2, .Tuple es kk tp] X.env = (false, eval (.Name n p2) X.env) :: starEach [.Tuple es kk tp] X.env := by rfl) (he2 : starEach [.Tuple es kk tp] X.env = (false, eval (.Tuple es kk tp) X.env) :: starEach [] X.env := by rfl) (hpl : (backTo pos (starEach [.Tuple es kk tp] X.env)).any (·.1) = false := by rfl) :
    EX X U Γ (.Call (.Name "isinstance" p) [.Name n p2, .Tuple es kk tp] [] pos) rB (ofOpt (tb r.cls)) :=
  ⟨fun en F σ H Q s h => by
    obtain ⟨C, c1, c2⟩ := hcl
    obtain ⟨b, hb, q⟩ := wpR_opt h
    obtain ⟨hC, hk⟩ := htb.out r.cls b C hb c1
    subst c2 hd
    have pv : PE X (.Name n p2) _ := pe_var hN hv hd1 hd2
    refine wE_of (pe_callB (call_isETp hp hC hz hf) hg hm boot_isinstance (pa_cons pv (pa_cons (pe_tup hT.pa) pa_nil he2) he) (by decide) (by decide) he hpl) ?_
    obtain ⟨w, e1, r1⟩ := s.val i _ hΓ
    obtain rfl : w = .ref a := r1
    have l1 := Paired.length hT.clv
    refine ⟨.ref a, e1, by rw [l1]; exact Nat.le_of_lt (small1000 hlen), fun q' hq => ?_⟩
    exact ⟨q', vs, us, b, rfl, upd_same, hT.clv, hk, q _ F _ (Same.refl F) (s.ext (Ext.lay s.sub hq)) rfl⟩⟩
end
end Py

/-! Own layer, part Al: a law's end over the head by facts (one kernel run of the top; nothing of the top is written out). -/
namespace Py
open PySem PySem.Spec PyProof.Rows L2
/-! ### the part of the heap: the module's names; their codes, defaults, namespaces; methods; their codes -/
def nxtP (g : Addr → Option Obj) (f : Obj → List Addr) (as : List Addr) : List Addr := as.flatMap fun a => match g a with
  | some o => f o
  | none => []
def refsF (o : Obj) : List Addr := match o.data with
  | .func fd => He.refV fd.code ++ He.refV fd.defaults
  | .cls cd => [cd.ns]
  | _ => []
def refsN (o : Obj) : List Addr := match o.data with
  | .dict es _ => es.toList.flatMap fun e => He.refV e.val
  | _ => []
def asP3 (g : Addr → Option Obj) (a1 a2 a3 : List Addr) : List Addr := mainGlobals :: (a1 ++ (a2 ++ (a3 ++ nxtP g refsF a3)))
def asP2 (g : Addr → Option Obj) (a1 a2 : List Addr) : List Addr := asP3 g a1 a2 (nxtP g refsN a2)
def asP1 (g : Addr → Option Obj) (a1 : List Addr) : List Addr := asP2 g a1 (nxtP g refsF a1)
def asP (g : Addr → Option Obj) : List Addr := asP1 g (nxtP g refsN [mainGlobals])
/-- the head's look: the defs, the names, own facts -/
def obsPG (fa : List He.Fa) (fn : List He.DefD) (ex : PySem.W.Frag → Bool) (g : Addr → Option Obj) : He.AlD × Bool := (He.obsD fa fn (He.frG g (asP g)), ex (He.frG g (asP g)))
def hookP (fa : List He.Fa) (fn : List He.DefD) (ex : PySem.W.Frag → Bool) : PySem.W.Hook where
  α := He.AlD × Bool
  obs := fun s => obsPG fa fn ex s.heap.get?
  val := fun _ => (He.valD fn, true)
  says := fun _ h => ∃ K : PySem.W.Frag, K.In h ∧ He.SaysD fa fn K ∧ ex K = true
  of := fun _ _ e => ⟨_, He.frG_in, congrArg (fun z : He.AlD × Bool => z.1) e, congrArg (fun z : He.AlD × Bool => z.2) e⟩
  keeps := fun _ _ _ ⟨K, hK, c⟩ k => ⟨K, PySem.W.Frag.In.keeps hK k, c⟩
theorem obsPG_eq {fa : List He.Fa} {fn : List He.DefD} {ex : PySem.W.Frag → Bool} {g : Addr → Option Obj} {s : Shared} (h : ∀ a, g a = s.heap.get? a) : obsPG fa fn ex g = (hookP fa fn ex).obs s := by
  have e : g = s.heap.get? := funext h
  rw [e] <;> rfl
theorem ba_d {p : Prop} [Decidable p] {b : Bool} (h : (decide p && b) = true) : p ∧ b = true := ⟨of_decide_eq_true (He.ba h).1, (He.ba h).2⟩
theorem walk_ofP {l : PySem.W.OpenLaw} {n k : Nat} {q : Program} {loose : List Str} {XP : (Str → Option Value) → Heap → Prop} {YP : World → Heap → Prop} {d : DefRec} {CX : World → CXT} {x : Str}
    (hn : l.most = some n) (hn2 : n ≤ sizeLine) (hdf : d.params.defaults = []) (hr : Room k callerA)
    (F : ∀ (w : World) (mg : Str → Option Value) (fa : Addr) (h : Heap), YP w h → h.Ns mainGlobals mg → mg d.name = some (.ref fa) →
      ∃ (K : PySem.W.Frag) (fd : FuncData) (sp : Sp), K.In h ∧ (∀ (s : Shared) (u : Value), BindsTo s fd ⟨[u], []⟩ [(x, u)]) ∧
        (∀ (H : Hp) (a : Addr) (ns : List Int), ns.length ≤ n → (∀ z ∈ ns, Builtin.Int.intBits z ≤ 1048576) → Only H → SqL K H a (ns.map V.int) → sp [.ref a] H (fun v _ => v = .bl true) fun _ _ _ => False) ∧
        ∀ base : Heap, K.In base → base.Ns mainGlobals mg → FnOk l.prog w K mg base (CX w) k fa fd [x] sp)
    (hCX : ∀ (w : World) (H : Hp) (s : Shared) (e : Value) (s' : Shared), CX w [] H s (fun _ _ _ => False) e s' → False) :
    PySem.W.WalkO q loose XP YP l.row.toRowW d [] (fun f vs => PySem.call f vs) := by
  refine Att.attach_callB hn hdf fun w s₀ s₁ mg mb fa o pm cd doc a vs ns G Y ho hd hcd hmg hobj hints hlen hbits hg => ?_
  obtain ⟨K, fd, sp, KX, hb, hsp, hF⟩ := F w mg fa _ Y G.T.g hmg
  exact law_call KX G.T.g G.T.b G.T.builtins G.T.nolimit hg hobj hints (Nat.le_trans hlen hn2) hr hF hb (fun H hO hS => hsp H a ns hlen hbits hO hS) fun H e s' => hCX w H s₁ e s'
section
variable {K : PySem.W.Frag} {x qual : Str} {st : Stmt} {dvs : List V} {kws : List (Str × V)} {f : Addr} {fd : FuncData} {ps : List Str}
theorem fz_d (F : FunD K x qual (defArgs st) (defBody st) (defScope st) dvs kws f fd) : FunZ K x qual st f fd :=
  let ⟨oc, od, dV, kV, doc, pm, an, cdv, ct, osl, e, l, c, _, _⟩ := F.ex
  ⟨⟨oc, od, dV, kV, doc, pm, an, cdv, ct, osl, e, l, c⟩, F.kp⟩
theorem fun_d (F : FunD K x qual (defArgs st) (defBody st) (defScope st) [] kws f fd) : L2.Fun K x qual st f fd := by
  obtain ⟨oc, od, dV, kV, doc, pm, an, cdv, ct, osl, e, l, c, hD, _⟩ := F.ex
  rcases hD with ⟨_, rfl⟩ | ⟨e', _⟩
  · exact ⟨⟨oc, od, kV, doc, pm, an, cdv, ct, osl, e, l, c⟩, F.kp⟩
  · exact absurd rfl e'
end
end Py

namespace G
open PySem PySem.Spec PyProof.Rows L2 Py
def topS (i : Nat) : Stmt := PySem.Challenge.pw_edgewide_k46_whole_after.main.body.getD i (.Pass ⟨0, 0, 0, 0⟩)
abbrev s_law_deal : Stmt := topS 47
theorem sc_law_deal : FnScope ["cell", "many", "number", "one", "k", "two"] ["cell", "many"] (defScope s_law_deal) := ⟨rfl, rfl, rfl, by decide +kernel, rfl, by decide +kernel, by decide +kernel⟩
abbrev s_law_take : Stmt := topS 48
theorem sc_law_take : FnScope ["pot", "many", "digit"] ["pot", "many"] (defScope s_law_take) := ⟨rfl, rfl, rfl, by decide +kernel, rfl, by decide +kernel, by decide +kernel⟩
abbrev s_law_step : Stmt := topS 50
theorem sc_law_step : FnScope ["pot", "far", "row"] ["pot"] (defScope s_law_step) := ⟨rfl, rfl, rfl, by decide +kernel, rfl, by decide +kernel, by decide +kernel⟩
abbrev s_law_piece : Stmt := topS 51
theorem sc_law_piece : FnScope ["pot", "most", "steps", "k"] ["pot", "most"] (defScope s_law_piece) := ⟨rfl, rfl, rfl, by decide +kernel, rfl, by decide +kernel, by decide +kernel⟩
abbrev s_law_chain : Stmt := topS 61
theorem sc_law_chain : FnScope ["pot", "many", "form", "k", "way"] ["pot", "many"] (defScope s_law_chain) := ⟨rfl, rfl, rfl, by decide +kernel, rfl, by decide +kernel, by decide +kernel⟩
abbrev s_law_tree : Stmt := topS 60
theorem sc_law_tree : FnScope ["pot", "many", "word"] ["pot", "many"] (defScope s_law_tree) := ⟨rfl, rfl, rfl, by decide +kernel, rfl, by decide +kernel, by decide +kernel⟩
abbrev s_law_form : Stmt := topS 52
theorem sc_law_form : FnScope ["pot", "depth", "most", "way", "one", "step", "piece"] ["pot", "depth", "most"] (defScope s_law_form) := ⟨rfl, rfl, rfl, by decide +kernel, rfl, by decide +kernel, by decide +kernel⟩
abbrev s_law_two : Stmt := topS 62
theorem sc_law_two : FnScope ["pot", "way", "one", "form", "k", "many", "leaf"] ["pot"] (defScope s_law_two) := ⟨rfl, rfl, rfl, by decide +kernel, rfl, by decide +kernel, by decide +kernel⟩
abbrev s_law_shape : Stmt := topS 49
theorem sc_law_shape : FnScope ["pot", "many", "wide", "row", "column", "cells", "k", "place"] ["pot"] (defScope s_law_shape) := ⟨rfl, rfl, rfl, by decide +kernel, rfl, by decide +kernel, by decide +kernel⟩
abbrev s_law_plan : Stmt := topS 53
theorem sc_law_plan : FnScope ["form"] ["form"] (defScope s_law_plan) := ⟨rfl, rfl, rfl, by decide +kernel, rfl, by decide +kernel, by decide +kernel⟩
abbrev sKeep_put_behind : Stmt := inClass (topS 31) 2
theorem scKeep_put_behind : FnScope ["self", "one"] ["self", "one"] (defScope sKeep_put_behind) := ⟨rfl, rfl, rfl, by decide +kernel, rfl, by decide +kernel, by decide +kernel⟩
abbrev sPlan_put_behind : Stmt := inClass (topS 30) 4
theorem scPlan_put_behind : FnScope ["self", "one"] ["self", "one"] (defScope sPlan_put_behind) := ⟨rfl, rfl, rfl, by decide +kernel, rfl, by decide +kernel, by decide +kernel⟩
abbrev sMove_put_behind : Stmt := inClass (topS 34) 4
theorem scMove_put_behind : FnScope ["self", "one"] ["self", "one"] (defScope sMove_put_behind) := ⟨rfl, rfl, rfl, by decide +kernel, rfl, by decide +kernel, by decide +kernel⟩
abbrev sEat_put_behind : Stmt := inClass (topS 35) 4
theorem scEat_put_behind : FnScope ["self", "one"] ["self", "one"] (defScope sEat_put_behind) := ⟨rfl, rfl, rfl, by decide +kernel, rfl, by decide +kernel, by decide +kernel⟩
abbrev sGrow_put_behind : Stmt := inClass (topS 36) 4
theorem scGrow_put_behind : FnScope ["self", "one"] ["self", "one"] (defScope sGrow_put_behind) := ⟨rfl, rfl, rfl, by decide +kernel, rfl, by decide +kernel, by decide +kernel⟩
abbrev sBoth_put_behind : Stmt := inClass (topS 37) 4
theorem scBoth_put_behind : FnScope ["self", "one"] ["self", "one"] (defScope sBoth_put_behind) := ⟨rfl, rfl, rfl, by decide +kernel, rfl, by decide +kernel, by decide +kernel⟩
abbrev sEither_put_behind : Stmt := inClass (topS 38) 4
theorem scEither_put_behind : FnScope ["self", "one"] ["self", "one"] (defScope sEither_put_behind) := ⟨rfl, rfl, rfl, by decide +kernel, rfl, by decide +kernel, by decide +kernel⟩
abbrev sPlan_parts_in : Stmt := inClass (topS 30) 5
theorem scPlan_parts_in : FnScope ["self"] ["self"] (defScope sPlan_parts_in) := ⟨rfl, rfl, rfl, by decide +kernel, rfl, by decide +kernel, by decide +kernel⟩
abbrev sMove_parts_in : Stmt := inClass (topS 34) 5
theorem scMove_parts_in : FnScope ["self"] ["self"] (defScope sMove_parts_in) := ⟨rfl, rfl, rfl, by decide +kernel, rfl, by decide +kernel, by decide +kernel⟩
abbrev sEat_parts_in : Stmt := inClass (topS 35) 5
theorem scEat_parts_in : FnScope ["self"] ["self"] (defScope sEat_parts_in) := ⟨rfl, rfl, rfl, by decide +kernel, rfl, by decide +kernel, by decide +kernel⟩
abbrev sGrow_parts_in : Stmt := inClass (topS 36) 5
theorem scGrow_parts_in : FnScope ["self"] ["self"] (defScope sGrow_parts_in) := ⟨rfl, rfl, rfl, by decide +kernel, rfl, by decide +kernel, by decide +kernel⟩
abbrev sBoth_parts_in : Stmt := inClass (topS 37) 5
theorem scBoth_parts_in : FnScope ["self"] ["self"] (defScope sBoth_parts_in) := ⟨rfl, rfl, rfl, by decide +kernel, rfl, by decide +kernel, by decide +kernel⟩
abbrev sEither_parts_in : Stmt := inClass (topS 38) 5
theorem scEither_parts_in : FnScope ["self"] ["self"] (defScope sEither_parts_in) := ⟨rfl, rfl, rfl, by decide +kernel, rfl, by decide +kernel, by decide +kernel⟩
abbrev smany_in : Stmt := topS 39
abbrev Nmany_in : List Str := ["plan", "part"]
theorem scmany_in : FnScope ["plan", "part"] ["plan"] (defScope smany_in) := ⟨rfl, rfl, rfl, by decide +kernel, rfl, by decide +kernel, by decide +kernel⟩
abbrev sdeep : Stmt := topS 40
abbrev Ndeep : List Str := ["plan", "part"]
theorem scdeep : FnScope ["plan", "part"] ["plan"] (defScope sdeep) := ⟨rfl, rfl, rfl, by decide +kernel, rfl, by decide +kernel, by decide +kernel⟩
abbrev slet_by : Stmt := topS 42
theorem sclet_by : FnScope ["plan"] ["plan"] (defScope slet_by) := ⟨rfl, rfl, rfl, by decide +kernel, rfl, by decide +kernel, by decide +kernel⟩
abbrev safter : Stmt := topS 45
theorem scafter : FnScope ["one", "other"] ["one", "other"] (defScope safter) := ⟨rfl, rfl, rfl, by decide +kernel, rfl, by decide +kernel, by decide +kernel⟩
abbrev s_law_kind : Stmt := topS 63
theorem sc_law_kind : FnScope ["error"] ["error"] (defScope s_law_kind) := ⟨rfl, rfl, rfl, by decide +kernel, rfl, by decide +kernel, by decide +kernel⟩
abbrev s_law_asked : Stmt := topS 64
theorem sc_law_asked : FnScope ["way", "one", "other", "found", "e"] ["way", "one", "other"] (defScope s_law_asked) := ⟨rfl, rfl, rfl, by decide +kernel, rfl, by decide +kernel, by decide +kernel⟩
abbrev s_law_put : Stmt := topS 59
theorem sc_law_put : FnScope ["form", "one"] ["form", "one"] (defScope s_law_put) := ⟨rfl, rfl, rfl, by decide +kernel, rfl, by decide +kernel, by decide +kernel⟩
abbrev s_law_parts : Stmt := topS 56
theorem sc_law_parts : FnScope ["form"] ["form"] (defScope s_law_parts) := ⟨rfl, rfl, rfl, by decide +kernel, rfl, by decide +kernel, by decide +kernel⟩
abbrev s_law_many : Stmt := topS 57
abbrev N_law_many : List Str := ["form", "part"]
theorem sc_law_many : FnScope ["form", "part"] ["form"] (defScope s_law_many) := ⟨rfl, rfl, rfl, by decide +kernel, rfl, by decide +kernel, by decide +kernel⟩
abbrev s_law_deep : Stmt := topS 58
abbrev N_law_deep : List Str := ["form", "part"]
theorem sc_law_deep : FnScope ["form", "part"] ["form"] (defScope s_law_deep) := ⟨rfl, rfl, rfl, by decide +kernel, rfl, by decide +kernel, by decide +kernel⟩
abbrev sKeep_words : Stmt := inClass (topS 31) 4
theorem scKeep_words : FnScope ["self"] ["self"] (defScope sKeep_words) := ⟨rfl, rfl, rfl, by decide +kernel, rfl, by decide +kernel, by decide +kernel⟩
abbrev sNothing_words : Stmt := inClass (topS 32) 3
theorem scNothing_words : FnScope ["self"] ["self"] (defScope sNothing_words) := ⟨rfl, rfl, rfl, by decide +kernel, rfl, by decide +kernel, by decide +kernel⟩
abbrev sEverything_words : Stmt := inClass (topS 33) 3
theorem scEverything_words : FnScope ["self"] ["self"] (defScope sEverything_words) := ⟨rfl, rfl, rfl, by decide +kernel, rfl, by decide +kernel, by decide +kernel⟩
abbrev sstep_words : Stmt := topS 28
theorem scstep_words : FnScope ["steps", "words", "row", "column"] ["steps"] (defScope sstep_words) := ⟨rfl, rfl, rfl, by decide +kernel, rfl, by decide +kernel, by decide +kernel⟩
abbrev sMove_words : Stmt := inClass (topS 34) 7
theorem scMove_words : FnScope ["self"] ["self"] (defScope sMove_words) := ⟨rfl, rfl, rfl, by decide +kernel, rfl, by decide +kernel, by decide +kernel⟩
abbrev sEat_words : Stmt := inClass (topS 35) 7
theorem scEat_words : FnScope ["self"] ["self"] (defScope sEat_words) := ⟨rfl, rfl, rfl, by decide +kernel, rfl, by decide +kernel, by decide +kernel⟩
abbrev sGrow_words : Stmt := inClass (topS 36) 7
theorem scGrow_words : FnScope ["self"] ["self"] (defScope sGrow_words) := ⟨rfl, rfl, rfl, by decide +kernel, rfl, by decide +kernel, by decide +kernel⟩
abbrev sBoth_words : Stmt := inClass (topS 37) 7
theorem scBoth_words : FnScope ["self"] ["self"] (defScope sBoth_words) := ⟨rfl, rfl, rfl, by decide +kernel, rfl, by decide +kernel, by decide +kernel⟩
abbrev sEither_words : Stmt := inClass (topS 38) 7
theorem scEither_words : FnScope ["self"] ["self"] (defScope sEither_words) := ⟨rfl, rfl, rfl, by decide +kernel, rfl, by decide +kernel, by decide +kernel⟩
abbrev s_law_words : Stmt := topS 55
theorem sc_law_words : FnScope ["form", "words", "steps", "part", "row", "column"] ["form"] (defScope s_law_words) := ⟨rfl, rfl, rfl, by decide +kernel, rfl, by decide +kernel, by decide +kernel⟩
abbrev s_law_same : Stmt := topS 54
abbrev N_law_same : List Str := ["found", "due", "one", "other"]
theorem sc_law_same : FnScope ["found", "due", "one", "other"] ["found", "due"] (defScope s_law_same) := ⟨rfl, rfl, rfl, by decide +kernel, rfl, by decide +kernel, by decide +kernel⟩
abbrev s_law_good : Stmt := topS 65
theorem sc_law_good : FnScope ["found", "form"] ["found", "form"] (defScope s_law_good) := ⟨rfl, rfl, rfl, by decide +kernel, rfl, by decide +kernel, by decide +kernel⟩
abbrev sPlan_made : Stmt := inClass (topS 30) 0
theorem scPlan_made : FnScope ["self", "shape"] ["self", "shape"] (defScope sPlan_made) := ⟨rfl, rfl, rfl, by decide +kernel, rfl, by decide +kernel, by decide +kernel⟩
abbrev sNothing_made : Stmt := inClass (topS 32) 0
theorem scNothing_made : FnScope ["self", "shape"] ["self", "shape"] (defScope sNothing_made) := ⟨rfl, rfl, rfl, by decide +kernel, rfl, by decide +kernel, by decide +kernel⟩
abbrev sEverything_made : Stmt := inClass (topS 33) 0
theorem scEverything_made : FnScope ["self", "shape"] ["self", "shape"] (defScope sEverything_made) := ⟨rfl, rfl, rfl, by decide +kernel, rfl, by decide +kernel, by decide +kernel⟩
abbrev smoved_cell : Stmt := topS 12
theorem scmoved_cell : FnScope ["cell", "step"] ["cell", "step"] (defScope smoved_cell) := ⟨rfl, rfl, rfl, by decide +kernel, rfl, by decide +kernel, by decide +kernel⟩
abbrev smoved : Stmt := topS 14
abbrev Nmoved : List Str := ["shape", "step", "cells", "rest", "cell"]
theorem scmoved : FnScope ["shape", "step", "cells", "rest", "cell"] ["shape", "step"] (defScope smoved) := ⟨rfl, rfl, rfl, by decide +kernel, rfl, by decide +kernel, by decide +kernel⟩
abbrev sMove_made : Stmt := inClass (topS 34) 1
theorem scMove_made : FnScope ["self", "shape"] ["self", "shape"] (defScope sMove_made) := ⟨rfl, rfl, rfl, by decide +kernel, rfl, by decide +kernel, by decide +kernel⟩
abbrev srising : Stmt := topS 7
theorem scrising : FnScope ["cells"] ["cells"] (defScope srising) := ⟨rfl, rfl, rfl, by decide +kernel, rfl, by decide +kernel, by decide +kernel⟩
abbrev smirrored : Stmt := topS 16
abbrev Nmirrored : List Str := ["piece", "row", "column"]
theorem scmirrored : FnScope ["piece", "row", "column"] ["piece"] (defScope smirrored) := ⟨rfl, rfl, rfl, by decide +kernel, rfl, by decide +kernel, by decide +kernel⟩
abbrev slies_on : Stmt := topS 17
abbrev Nlies_on : List Str := ["piece", "cell", "step"]
theorem sclies_on : FnScope ["piece", "cell", "step"] ["piece", "cell"] (defScope slies_on) := ⟨rfl, rfl, rfl, by decide +kernel, rfl, by decide +kernel, by decide +kernel⟩
abbrev sreached : Stmt := topS 19
theorem screached : FnScope ["cells", "piece", "told", "cell"] ["cells", "piece"] (defScope sreached) := ⟨rfl, rfl, rfl, by decide +kernel, rfl, by decide +kernel, by decide +kernel⟩
abbrev sless_cell : Stmt := topS 13
theorem scless_cell : FnScope ["cell", "step"] ["cell", "step"] (defScope sless_cell) := ⟨rfl, rfl, rfl, by decide +kernel, rfl, by decide +kernel, by decide +kernel⟩
abbrev skept_at : Stmt := topS 20
abbrev Nkept_at : List Str := ["cells", "piece", "held", "cell", "told", "place", "there"]
theorem sckept_at : FnScope ["cells", "piece", "held", "cell", "told", "place", "there"] ["cells", "piece"] (defScope skept_at) := ⟨rfl, rfl, rfl, by decide +kernel, rfl, by decide +kernel, by decide +kernel⟩
abbrev seaten : Stmt := topS 22
theorem sceaten : FnScope ["shape", "piece", "cells", "rest"] ["shape", "piece"] (defScope seaten) := ⟨rfl, rfl, rfl, by decide +kernel, rfl, by decide +kernel, by decide +kernel⟩
abbrev sEat_made : Stmt := inClass (topS 35) 1
theorem scEat_made : FnScope ["self", "shape"] ["self", "shape"] (defScope sEat_made) := ⟨rfl, rfl, rfl, by decide +kernel, rfl, by decide +kernel, by decide +kernel⟩
abbrev sgrown : Stmt := topS 21
theorem scgrown : FnScope ["shape", "piece", "cells", "rest"] ["shape", "piece"] (defScope sgrown) := ⟨rfl, rfl, rfl, by decide +kernel, rfl, by decide +kernel, by decide +kernel⟩
abbrev sGrow_made : Stmt := inClass (topS 36) 1
theorem scGrow_made : FnScope ["self", "shape"] ["self", "shape"] (defScope sGrow_made) := ⟨rfl, rfl, rfl, by decide +kernel, rfl, by decide +kernel, by decide +kernel⟩
abbrev sonly_in : Stmt := topS 8
abbrev Nonly_in : List Str := ["one", "other", "seen", "cell"]
theorem sconly_in : FnScope ["one", "other", "seen", "cell"] ["one", "other"] (defScope sonly_in) := ⟨rfl, rfl, rfl, by decide +kernel, rfl, by decide +kernel, by decide +kernel⟩
abbrev sboth : Stmt := topS 10
theorem scboth : FnScope ["one", "other"] ["one", "other"] (defScope sboth) := ⟨rfl, rfl, rfl, by decide +kernel, rfl, by decide +kernel, by decide +kernel⟩
abbrev sBoth_made : Stmt := inClass (topS 37) 1
theorem scBoth_made : FnScope ["self", "shape"] ["self", "shape"] (defScope sBoth_made) := ⟨rfl, rfl, rfl, by decide +kernel, rfl, by decide +kernel, by decide +kernel⟩
abbrev soutside : Stmt := topS 9
theorem scoutside : FnScope ["shape", "cells", "rest"] ["shape"] (defScope soutside) := ⟨rfl, rfl, rfl, by decide +kernel, rfl, by decide +kernel, by decide +kernel⟩
abbrev seither : Stmt := topS 11
theorem sceither : FnScope ["one", "other"] ["one", "other"] (defScope seither) := ⟨rfl, rfl, rfl, by decide +kernel, rfl, by decide +kernel, by decide +kernel⟩
abbrev sEither_made : Stmt := inClass (topS 38) 1
theorem scEither_made : FnScope ["self", "shape"] ["self", "shape"] (defScope sEither_made) := ⟨rfl, rfl, rfl, by decide +kernel, rfl, by decide +kernel, by decide +kernel⟩
abbrev sPlan_done : Stmt := inClass (topS 30) 1
theorem scPlan_done : FnScope ["self", "shape", "told"] ["self", "shape"] (defScope sPlan_done) := ⟨rfl, rfl, rfl, by decide +kernel, rfl, by decide +kernel, by decide +kernel⟩
abbrev s_law_done : Stmt := topS 66
theorem sc_law_done : FnScope ["plan", "shape", "found"] ["plan", "shape"] (defScope s_law_done) := ⟨rfl, rfl, rfl, by decide +kernel, rfl, by decide +kernel, by decide +kernel⟩
abbrev s_law_behind : Stmt := topS 67
theorem sc_law_behind : FnScope ["one", "other", "chained", "shape", "first", "second"] ["one", "other", "chained", "shape"] (defScope s_law_behind) := ⟨rfl, rfl, rfl, by decide +kernel, rfl, by decide +kernel, by decide +kernel⟩
abbrev sopening : Stmt := topS 43
theorem scopening : FnScope ["piece", "plan"] ["piece", "plan"] (defScope sopening) := ⟨rfl, rfl, rfl, by decide +kernel, rfl, by decide +kernel, by decide +kernel⟩
abbrev sclosing : Stmt := topS 44
theorem scclosing : FnScope ["piece", "plan"] ["piece", "plan"] (defScope sclosing) := ⟨rfl, rfl, rfl, by decide +kernel, rfl, by decide +kernel, by decide +kernel⟩
abbrev slaw : Stmt := topS 68
theorem sclaw : FnScope ["script", "cell", "pot", "forms", "piece", "shape", "one", "other", "chained"] ["script"] (defScope slaw) := ⟨rfl, rfl, rfl, by decide +kernel, rfl, by decide +kernel, by decide +kernel⟩
abbrev sMove___init__ : Stmt := inClass (topS 34) 0
theorem scMove___init__ : FnScope ["self", "step", "plan"] ["self", "step", "plan"] (defScope sMove___init__) := ⟨rfl, rfl, rfl, by decide +kernel, rfl, by decide +kernel, by decide +kernel⟩
abbrev sEat___init__ : Stmt := inClass (topS 35) 0
theorem scEat___init__ : FnScope ["self", "piece", "plan"] ["self", "piece", "plan"] (defScope sEat___init__) := ⟨rfl, rfl, rfl, by decide +kernel, rfl, by decide +kernel, by decide +kernel⟩
abbrev sGrow___init__ : Stmt := inClass (topS 36) 0
theorem scGrow___init__ : FnScope ["self", "piece", "plan"] ["self", "piece", "plan"] (defScope sGrow___init__) := ⟨rfl, rfl, rfl, by decide +kernel, rfl, by decide +kernel, by decide +kernel⟩
abbrev sBoth___init__ : Stmt := inClass (topS 37) 0
theorem scBoth___init__ : FnScope ["self", "one", "other"] ["self", "one", "other"] (defScope sBoth___init__) := ⟨rfl, rfl, rfl, by decide +kernel, rfl, by decide +kernel, by decide +kernel⟩
abbrev sEither___init__ : Stmt := inClass (topS 38) 0
theorem scEither___init__ : FnScope ["self", "one", "other"] ["self", "one", "other"] (defScope sEither___init__) := ⟨rfl, rfl, rfl, by decide +kernel, rfl, by decide +kernel, by decide +kernel⟩
/-- where the defs and the classes lie -/
structure Adr where
  f_law_deal : Addr
  f_law_take : Addr
  f_law_step : Addr
  f_law_piece : Addr
  f_law_chain : Addr
  f_law_tree : Addr
  f_law_form : Addr
  f_law_two : Addr
  f_law_shape : Addr
  f_law_plan : Addr
  fKeep_put_behind : Addr
  fPlan_put_behind : Addr
  fMove_put_behind : Addr
  fEat_put_behind : Addr
  fGrow_put_behind : Addr
  fBoth_put_behind : Addr
  fEither_put_behind : Addr
  fPlan_parts_in : Addr
  fMove_parts_in : Addr
  fEat_parts_in : Addr
  fGrow_parts_in : Addr
  fBoth_parts_in : Addr
  fEither_parts_in : Addr
  fmany_in : Addr
  fdeep : Addr
  flet_by : Addr
  fafter : Addr
  f_law_kind : Addr
  f_law_asked : Addr
  f_law_put : Addr
  f_law_parts : Addr
  f_law_many : Addr
  f_law_deep : Addr
  fKeep_words : Addr
  fNothing_words : Addr
  fEverything_words : Addr
  fstep_words : Addr
  fMove_words : Addr
  fEat_words : Addr
  fGrow_words : Addr
  fBoth_words : Addr
  fEither_words : Addr
  f_law_words : Addr
  f_law_same : Addr
  f_law_good : Addr
  fPlan_made : Addr
  fNothing_made : Addr
  fEverything_made : Addr
  fmoved_cell : Addr
  fmoved : Addr
  fMove_made : Addr
  frising : Addr
  fmirrored : Addr
  flies_on : Addr
  freached : Addr
  fless_cell : Addr
  fkept_at : Addr
  featen : Addr
  fEat_made : Addr
  fgrown : Addr
  fGrow_made : Addr
  fonly_in : Addr
  fboth : Addr
  fBoth_made : Addr
  foutside : Addr
  feither : Addr
  fEither_made : Addr
  fPlan_done : Addr
  f_law_done : Addr
  f_law_behind : Addr
  fopening : Addr
  fclosing : Addr
  flaw : Addr
  fMove___init__ : Addr
  fEat___init__ : Addr
  fGrow___init__ : Addr
  fBoth___init__ : Addr
  fEither___init__ : Addr
  d_law_deal : FuncData
  d_law_take : FuncData
  d_law_step : FuncData
  d_law_piece : FuncData
  d_law_chain : FuncData
  d_law_tree : FuncData
  d_law_form : FuncData
  d_law_two : FuncData
  d_law_shape : FuncData
  d_law_plan : FuncData
  dKeep_put_behind : FuncData
  dPlan_put_behind : FuncData
  dMove_put_behind : FuncData
  dEat_put_behind : FuncData
  dGrow_put_behind : FuncData
  dBoth_put_behind : FuncData
  dEither_put_behind : FuncData
  dPlan_parts_in : FuncData
  dMove_parts_in : FuncData
  dEat_parts_in : FuncData
  dGrow_parts_in : FuncData
  dBoth_parts_in : FuncData
  dEither_parts_in : FuncData
  dmany_in : FuncData
  ddeep : FuncData
  dlet_by : FuncData
  dafter : FuncData
  d_law_kind : FuncData
  d_law_asked : FuncData
  d_law_put : FuncData
  d_law_parts : FuncData
  d_law_many : FuncData
  d_law_deep : FuncData
  dKeep_words : FuncData
  dNothing_words : FuncData
  dEverything_words : FuncData
  dstep_words : FuncData
  dMove_words : FuncData
  dEat_words : FuncData
  dGrow_words : FuncData
  dBoth_words : FuncData
  dEither_words : FuncData
  d_law_words : FuncData
  d_law_same : FuncData
  d_law_good : FuncData
  dPlan_made : FuncData
  dNothing_made : FuncData
  dEverything_made : FuncData
  dmoved_cell : FuncData
  dmoved : FuncData
  dMove_made : FuncData
  drising : FuncData
  dmirrored : FuncData
  dlies_on : FuncData
  dreached : FuncData
  dless_cell : FuncData
  dkept_at : FuncData
  deaten : FuncData
  dEat_made : FuncData
  dgrown : FuncData
  dGrow_made : FuncData
  donly_in : FuncData
  dboth : FuncData
  dBoth_made : FuncData
  doutside : FuncData
  deither : FuncData
  dEither_made : FuncData
  dPlan_done : FuncData
  d_law_done : FuncData
  d_law_behind : FuncData
  dopening : FuncData
  dclosing : FuncData
  dlaw : FuncData
  dMove___init__ : FuncData
  dEat___init__ : FuncData
  dGrow___init__ : FuncData
  dBoth___init__ : FuncData
  dEither___init__ : FuncData
  c_BadCell : Addr
  c_BadPiece : Addr
  c_Both : Addr
  c_Eat : Addr
  c_Either : Addr
  c_Everything : Addr
  c_Grow : Addr
  c_Keep : Addr
  c_MossError : Addr
  c_Move : Addr
  c_Nothing : Addr
  c_TooMany : Addr
abbrev csl (Ad : Adr) : CsL := [(.Keep, Ad.c_Keep), (.Nothing, Ad.c_Nothing), (.Everything, Ad.c_Everything), (.Move, Ad.c_Move), (.Eat, Ad.c_Eat), (.Grow, Ad.c_Grow), (.Both, Ad.c_Both), (.Either, Ad.c_Either)]
/-! ### the mirrors -/
def m_law_deal (v_cell : Int) (v_many : Int) : R Int :=
  if (decide ((1000000000000000000 : Int) ≤ v_cell)) = true then R.ok (v_cell - (1000000000000000000 : Int)) else let number_5110 : Int := (0 : Int); let one_5111 : Int := ((v_cell % (2147483647 : Int)) + (16807 : Int)); (chk (-(2 ^ 62) ≤ v_many ∧ v_many < 2 ^ 62) (rangeI 0 v_many)).bind fun x_5122 => (forR (τ := (Int × Int)) (fun s_5112 x_5113 => ((((chk (CMulW ((7919 : Int) * x_5113) x_5113) (((7919 : Int) * x_5113) * x_5113)).bind fun x_5114 => R.ok ((s_5112.2 * (48271 : Int)) + x_5114)).bind fun x_5115 => R.ok (x_5115 + (104729 : Int))).bind fun x_5116 => R.ok (x_5116 % (2147483647 : Int))).bind fun one_5117 => ((chk (CMulW one_5117 one_5117) (one_5117 * one_5117)).bind fun x_5118 => R.ok (x_5118 % (2147483629 : Int))).bind fun two_5119 => let number_5120 : Int := ((s_5112.1 * (65536 : Int)) + ((two_5119 / (512 : Int)) % (65536 : Int))); R.ok (number_5120, one_5117)) x_5122 (number_5110, one_5111)).bind fun s_5121 => R.ok s_5121.1
def m_law_take (v_pot : List Int) (v_many : Int) : R (Int × List Int) :=
  ((ofOpt (atI v_pot (0 : Int))).bind fun x_5129 => chk (0 < v_many) (x_5129 % v_many)).bind fun digit_5130 => ((ofOpt (atI v_pot (0 : Int))).bind fun x_5131 => chk (CDivW x_5131 v_many) (x_5131 / v_many)).bind fun v_5132 => (chk (0 < v_pot.length) ()).bind fun _ => R.ok (digit_5130, (v_pot.set 0 v_5132))
def m_law_step (v_pot : List Int)  : R ((Int × Int) × List Int) :=
  ((m_law_take v_pot (4 : Int)).calm.bind fun z_5151 => (ofOpt (atI [(1 : Int), (2 : Int), (3 : Int), (1000000 : Int)] z_5151.1)).bind fun x_5152 => R.ok (x_5152, z_5151.2)).bind fun far_5144 => ((m_law_take far_5144.2 (((2 : Int) * far_5144.1) + (1 : Int))).calm.bind fun z_5149 => R.ok ((z_5149.1 - far_5144.1), z_5149.2)).bind fun row_5145 => (m_law_take row_5145.2 (((2 : Int) * far_5144.1) + (1 : Int))).calm.bind fun z_5146 => R.ok ((row_5145.1, (z_5146.1 - far_5144.1)), z_5146.2)
def m_law_piece (v_pot : List Int) (v_most : Int) : R ((List (Int × Int)) × List Int) :=
  let steps_5178 : List (Int × Int) := ([] : List (Int × Int)); ((m_law_take v_pot v_most).calm.bind fun z_5188 => (chk (-(2 ^ 62) ≤ ((1 : Int) + z_5188.1) ∧ ((1 : Int) + z_5188.1) < 2 ^ 62) (rangeI 0 ((1 : Int) + z_5188.1), z_5188.2)).bind fun x_5189 => R.ok (x_5189.1, x_5189.2)).bind fun w_5185 => (forR (τ := ((List Int) × (List (Int × Int)))) (fun s_5179 x_5180 => (m_law_step s_5179.1).calm.bind fun w_5181 => (chk (s_5179.2.length < sizeLine) ()).bind fun _ => R.ok (w_5181.2, (s_5179.2 ++ [w_5181.1]))) w_5185.1 (w_5185.2, steps_5178)).bind fun s_5182 => ((sortSet s_5182.2).bind fun x_5183 => R.ok x_5183).bind fun x_5184 => R.ok (x_5184, s_5182.1)
def m_law_chain (v_pot : List Int) (v_many : Int) : R (Dy × List Int) :=
  let form_5197 : Dy := ((fun x => Dy.tup [Dy.str x]) ("keep" : Str)); (chk (-(2 ^ 62) ≤ v_many ∧ v_many < 2 ^ 62) (rangeI 0 v_many)).bind fun x_5211 => (forR (τ := ((List Int) × Dy)) (fun s_5198 x_5199 => (m_law_take s_5198.1 (3 : Int)).calm.bind fun way_5200 => if (decide (way_5200.1 = (0 : Int))) = true then ((m_law_step way_5200.2).calm.bind fun z_5202 => R.ok (((fun x => Dy.tup [Dy.str x.1, (fun x => Dy.tup [Dy.int x.1, Dy.int x.2]) x.2.1, (fun d => d) x.2.2]) (("move" : Str), z_5202.1, s_5198.2)), z_5202.2)).bind fun form_5201 => R.ok (form_5201.2, form_5201.1) else ((ofOpt (atI [("eat" : Str), ("grow" : Str)] (way_5200.1 - (1 : Int)))).bind fun x_5206 => (m_law_piece way_5200.2 (2 : Int)).calm.bind fun z_5207 => R.ok (((fun x => Dy.tup [Dy.str x.1, (fun xs => Dy.tup (List.map (fun x => Dy.tup [Dy.int x.1, Dy.int x.2]) xs)) x.2.1, (fun d => d) x.2.2]) (x_5206, z_5207.1, s_5198.2)), z_5207.2)).bind fun form_5205 => R.ok (form_5205.2, form_5205.1)) x_5211 (v_pot, form_5197)).bind fun s_5210 => R.ok (s_5210.2, s_5210.1)
def m_law_tree : Nat → List Int → Int → R (Dy × List Int)
  | 0, _, _ => R.bad
  | fu + 1, v_pot, v_many => if (decide (v_many = (1 : Int))) = true then (m_law_take v_pot (4 : Int)).calm.bind fun z_5241 => (ofOpt (atI [("keep" : Str), ("keep" : Str), ("none" : Str), ("all" : Str)] z_5241.1)).bind fun x_5242 => R.ok (((fun x => Dy.tup [Dy.str x]) x_5242), z_5241.2) else if (decide (v_many = (2 : Int))) = true then (m_law_step v_pot).calm.bind fun z_5244 => (m_law_tree fu z_5244.2 (1 : Int)).calm.bind fun z_5245 => R.ok (((fun x => Dy.tup [Dy.str x.1, (fun x => Dy.tup [Dy.int x.1, Dy.int x.2]) x.2.1, (fun d => d) x.2.2]) (("move" : Str), z_5244.1, z_5245.1)), z_5245.2) else ((m_law_take v_pot (2 : Int)).calm.bind fun z_5253 => (ofOpt (atI [("both" : Str), ("either" : Str)] z_5253.1)).bind fun x_5254 => R.ok (x_5254, z_5253.2)).bind fun word_5248 => (m_law_tree fu word_5248.2 ((v_many - (1 : Int)) / (2 : Int))).calm.bind fun z_5249 => (m_law_tree fu z_5249.2 ((v_many - (1 : Int)) - ((v_many - (1 : Int)) / (2 : Int)))).calm.bind fun z_5250 => R.ok (((fun x => Dy.tup [Dy.str x.1, (fun d => d) x.2.1, (fun d => d) x.2.2]) (word_5248.1, z_5249.1, z_5250.1)), z_5250.2)
def m_law_form : Nat → List Int → Int → Int → R (Dy × List Int)
  | 0, _, _, _ => R.bad
  | fu + 1, v_pot, v_depth, v_most => (m_law_take v_pot (10 : Int)).calm.bind fun way_5297 => if ((decide (v_depth = (0 : Int))) || (decide ((7 : Int) < way_5297.1))) = true then (m_law_take way_5297.2 (5 : Int)).calm.bind fun z_5298 => (ofOpt (atI [("keep" : Str), ("keep" : Str), ("keep" : Str), ("none" : Str), ("all" : Str)] z_5298.1)).bind fun x_5299 => R.ok (((fun x => Dy.tup [Dy.str x]) x_5299), z_5298.2) else if (decide (way_5297.1 < (2 : Int))) = true then (m_law_step way_5297.2).calm.bind fun step_5301 => (m_law_form fu step_5301.2 (v_depth - (1 : Int)) v_most).calm.bind fun z_5302 => R.ok (((fun x => Dy.tup [Dy.str x.1, (fun x => Dy.tup [Dy.int x.1, Dy.int x.2]) x.2.1, (fun d => d) x.2.2]) (("move" : Str), step_5301.1, z_5302.1)), z_5302.2) else if (decide (way_5297.1 < (6 : Int))) = true then (m_law_piece way_5297.2 v_most).calm.bind fun piece_5306 => (ofOpt (atI [("eat" : Str), ("grow" : Str)] (way_5297.1 % (2 : Int)))).bind fun x_5307 => (m_law_form fu piece_5306.2 (v_depth - (1 : Int)) v_most).calm.bind fun z_5308 => R.ok (((fun x => Dy.tup [Dy.str x.1, (fun xs => Dy.tup (List.map (fun x => Dy.tup [Dy.int x.1, Dy.int x.2]) xs)) x.2.1, (fun d => d) x.2.2]) (x_5307, piece_5306.1, z_5308.1)), z_5308.2) else (m_law_form fu way_5297.2 (v_depth - (1 : Int)) v_most).calm.bind fun one_5312 => (ofOpt (atI [("both" : Str), ("either" : Str)] (way_5297.1 % (2 : Int)))).bind fun x_5313 => (m_law_form fu one_5312.2 (v_depth - (1 : Int)) v_most).calm.bind fun z_5314 => R.ok (((fun x => Dy.tup [Dy.str x.1, (fun d => d) x.2.1, (fun d => d) x.2.2]) (x_5313, one_5312.1, z_5314.1)), z_5314.2)
def m_law_two (v_pot : List Int)  : R ((List Dy) × List Int) :=
  (m_law_take v_pot (6 : Int)).calm.bind fun way_5325 => if (decide (way_5325.1 = (5 : Int))) = true then let form_5326 : Dy := ((fun x => Dy.tup [Dy.str x]) ("all" : Str)); (forR (τ := ((List Int) × Dy)) (fun s_5327 x_5328 => ((m_law_step s_5327.1).calm.bind fun z_5330 => R.ok (((fun x => Dy.tup [Dy.str x.1, (fun x => Dy.tup [Dy.int x.1, Dy.int x.2]) x.2.1, (fun d => d) x.2.2]) (("move" : Str), z_5330.1, s_5327.2)), z_5330.2)).bind fun form_5329 => R.ok (form_5329.2, form_5329.1)) (rangeI 0 (9 : Int)) (way_5325.2, form_5326)).bind fun s_5333 => (m_law_take s_5333.1 (6 : Int)).calm.bind fun z_5335 => (m_law_chain z_5335.2 z_5335.1).calm.bind fun z_5334 => R.ok ([z_5334.1, ((fun x => Dy.tup [Dy.str x.1, (fun x => Dy.tup [Dy.str x]) x.2.1, (fun d => d) x.2.2]) (("both" : Str), ("keep" : Str), s_5333.2))], z_5334.2) else if (decide (way_5325.1 = (0 : Int))) = true then (m_law_take way_5325.2 (11 : Int)).calm.bind fun many_5338 => (m_law_chain many_5338.2 many_5338.1).calm.bind fun z_5339 => (m_law_take z_5339.2 (4 : Int)).calm.bind fun z_5341 => (m_law_chain z_5341.2 (if (((10 : Int) + z_5341.1) - many_5338.1) < (11 : Int) then (((10 : Int) + z_5341.1) - many_5338.1) else (11 : Int))).calm.bind fun z_5340 => R.ok ([z_5339.1, z_5340.1], z_5340.2) else if (decide (way_5325.1 = (1 : Int))) = true then ((m_law_take way_5325.2 (3 : Int)).calm.bind fun z_5356 => (ofOpt (atI [("keep" : Str), ("keep" : Str), ("none" : Str)] z_5356.1)).bind fun x_5357 => R.ok (((fun x => Dy.tup [Dy.str x]) x_5357), z_5356.2)).bind fun leaf_5347 => (m_law_take leaf_5347.2 (3 : Int)).calm.bind fun z_5349 => (m_law_tree 12 z_5349.2 ((38 : Int) + z_5349.1)).calm.bind fun z_5348 => (m_law_step z_5348.2).calm.bind fun z_5350 => R.ok ([z_5348.1, ((fun x => Dy.tup [Dy.str x.1, (fun x => Dy.tup [Dy.int x.1, Dy.int x.2]) x.2.1, (fun d => d) x.2.2]) (("move" : Str), z_5350.1, leaf_5347.1))], z_5350.2) else if (decide (way_5325.1 = (2 : Int))) = true then (m_law_take way_5325.2 (5 : Int)).calm.bind fun z_5360 => (m_law_tree 12 z_5360.2 ((1 : Int) + z_5360.1)).calm.bind fun z_5359 => (m_law_take z_5359.2 (40 : Int)).calm.bind fun z_5362 => (m_law_tree 12 z_5362.2 ((1 : Int) + z_5362.1)).calm.bind fun z_5361 => R.ok ([z_5359.1, z_5361.1], z_5361.2) else (m_law_form 6 way_5325.2 (2 : Int) (3 : Int)).calm.bind fun one_5367 => (m_law_form 6 one_5367.2 (2 : Int) (3 : Int)).calm.bind fun z_5368 => R.ok ([one_5367.1, z_5368.1], z_5368.2)
def m_law_shape (v_pot : List Int)  : R (((List (Int × Int)) × Bool) × List Int) :=
  ((m_law_take v_pot (8 : Int)).calm.bind fun z_5440 => (ofOpt (atI [(0 : Int), (1 : Int), (2 : Int), (3 : Int), (5 : Int), (8 : Int), (12 : Int), (20 : Int)] z_5440.1)).bind fun x_5441 => R.ok (x_5441, z_5440.2)).bind fun many_5406 => ((m_law_take many_5406.2 (4 : Int)).calm.bind fun z_5437 => (ofOpt (atI [(1 : Int), (2 : Int), (3 : Int), (5 : Int)] z_5437.1)).bind fun x_5438 => R.ok (x_5438, z_5437.2)).bind fun wide_5407 => ((m_law_take wide_5407.2 (5 : Int)).calm.bind fun z_5434 => (ofOpt (atI [(0 : Int), (0 : Int), (0 : Int), (100000000000 : Int), ((0 : Int) - (100000000000 : Int))] z_5434.1)).bind fun x_5435 => R.ok (x_5435, z_5434.2)).bind fun row_5408 => ((m_law_take row_5408.2 (5 : Int)).calm.bind fun z_5431 => (ofOpt (atI [(0 : Int), (0 : Int), (0 : Int), (100000000000 : Int), ((0 : Int) - (100000000000 : Int))] z_5431.1)).bind fun x_5432 => R.ok (x_5432, z_5431.2)).bind fun column_5409 => let cells_5410 : List (Int × Int) := ([] : List (Int × Int)); (chk (-(2 ^ 62) ≤ many_5406.1 ∧ many_5406.1 < 2 ^ 62) (rangeI 0 many_5406.1)).bind fun x_5430 => (forR (τ := ((List Int) × (List (Int × Int)))) (fun s_5411 x_5412 => ((m_law_take s_5411.1 (((2 : Int) * wide_5407.1) + (1 : Int))).calm.bind fun z_5419 => R.ok (((row_5408.1 + z_5419.1) - wide_5407.1), z_5419.2)).bind fun place_5413 => ((m_law_take place_5413.2 (((2 : Int) * wide_5407.1) + (1 : Int))).calm.bind fun z_5415 => R.ok ((place_5413.1, ((column_5409.1 + z_5415.1) - wide_5407.1)), z_5415.2)).bind fun w_5414 => (chk (s_5411.2.length < sizeLine) ()).bind fun _ => R.ok (w_5414.2, (s_5411.2 ++ [w_5414.1]))) x_5430 (column_5409.2, cells_5410)).bind fun s_5422 => ((sortSet s_5422.2).bind fun x_5424 => R.ok x_5424).bind fun x_5425 => (m_law_take s_5422.1 (2 : Int)).calm.bind fun z_5426 => R.ok ((x_5425, (decide (z_5426.1 = (1 : Int)))), z_5426.2)
def m_law_plan : Nat → Dy → R Pl
  | 0, _ => R.bad
  | fu + 1, v_form => ((ofOpt (Dy.at v_form (0 : Int))).bind fun x_5483 => chk (Dy.shp x_5483 = true ∧ Dy.shp (Dy.str ("keep" : Str)) = true) (Dy.eqv x_5483 (Dy.str ("keep" : Str)))).bind fun x_5521 => if x_5521 = true then R.ok Pl.keep else ((ofOpt (Dy.at v_form (0 : Int))).bind fun x_5484 => chk (Dy.shp x_5484 = true ∧ Dy.shp (Dy.str ("none" : Str)) = true) (Dy.eqv x_5484 (Dy.str ("none" : Str)))).bind fun x_5520 => if x_5520 = true then R.ok Pl.nothing else ((ofOpt (Dy.at v_form (0 : Int))).bind fun x_5485 => chk (Dy.shp x_5485 = true ∧ Dy.shp (Dy.str ("all" : Str)) = true) (Dy.eqv x_5485 (Dy.str ("all" : Str)))).bind fun x_5519 => if x_5519 = true then R.ok Pl.everything else ((ofOpt (Dy.at v_form (0 : Int))).bind fun x_5486 => chk (Dy.shp x_5486 = true ∧ Dy.shp (Dy.str ("move" : Str)) = true) (Dy.eqv x_5486 (Dy.str ("move" : Str)))).bind fun x_5518 => if x_5518 = true then (((ofOpt (Dy.at v_form (1 : Int))).bind fun x_5487 => ofOpt ((asTu (asc asI (as1 asI))) x_5487)).bind fun x_5489 => ((ofOpt (Dy.at v_form (2 : Int))).bind fun x_5488 => m_law_plan fu x_5488).bind fun x_5490 => R.ok (x_5489, x_5490)).bind fun x_5491 => R.ok (Pl.move x_5491.1 x_5491.2) else ((ofOpt (Dy.at v_form (0 : Int))).bind fun x_5492 => chk (Dy.shp x_5492 = true ∧ Dy.shp (Dy.str ("eat" : Str)) = true) (Dy.eqv x_5492 (Dy.str ("eat" : Str)))).bind fun x_5517 => if x_5517 = true then (((ofOpt (Dy.at v_form (1 : Int))).bind fun x_5493 => ofOpt ((asT (asTu (asc asI (as1 asI)))) x_5493)).bind fun x_5495 => ((ofOpt (Dy.at v_form (2 : Int))).bind fun x_5494 => m_law_plan fu x_5494).bind fun x_5496 => R.ok (x_5495, x_5496)).bind fun x_5497 => R.ok (Pl.eat x_5497.1 x_5497.2) else ((ofOpt (Dy.at v_form (0 : Int))).bind fun x_5498 => chk (Dy.shp x_5498 = true ∧ Dy.shp (Dy.str ("grow" : Str)) = true) (Dy.eqv x_5498 (Dy.str ("grow" : Str)))).bind fun x_5516 => if x_5516 = true then (((ofOpt (Dy.at v_form (1 : Int))).bind fun x_5499 => ofOpt ((asT (asTu (asc asI (as1 asI)))) x_5499)).bind fun x_5501 => ((ofOpt (Dy.at v_form (2 : Int))).bind fun x_5500 => m_law_plan fu x_5500).bind fun x_5502 => R.ok (x_5501, x_5502)).bind fun x_5503 => R.ok (Pl.grow x_5503.1 x_5503.2) else ((ofOpt (Dy.at v_form (0 : Int))).bind fun x_5504 => chk (Dy.shp x_5504 = true ∧ Dy.shp (Dy.str ("both" : Str)) = true) (Dy.eqv x_5504 (Dy.str ("both" : Str)))).bind fun x_5515 => if x_5515 = true then (((ofOpt (Dy.at v_form (1 : Int))).bind fun x_5505 => m_law_plan fu x_5505).bind fun x_5507 => ((ofOpt (Dy.at v_form (2 : Int))).bind fun x_5506 => m_law_plan fu x_5506).bind fun x_5508 => R.ok (x_5507, x_5508)).bind fun x_5509 => R.ok (Pl.both x_5509.1 x_5509.2) else (((ofOpt (Dy.at v_form (1 : Int))).bind fun x_5510 => m_law_plan fu x_5510).bind fun x_5512 => ((ofOpt (Dy.at v_form (2 : Int))).bind fun x_5511 => m_law_plan fu x_5511).bind fun x_5513 => R.ok (x_5512, x_5513)).bind fun x_5514 => R.ok (Pl.either x_5514.1 x_5514.2)
def m_Keep_put_behind (v_self : Pl) (v_one : Pl) : R Pl :=
  R.ok v_one
def m_Plan_put_behind (v_self : Pl) (v_one : Pl) : R Pl :=
  R.ok v_self
def m_Move_put_behind (D : Pl → Pl → R Pl) (v_self : Pl) (v_one : Pl) : R Pl :=
  ((ofOpt (Pl.fStep v_self)).bind fun x_5547 => ((ofOpt (Pl.fPlan v_self)).bind fun x_5546 => D x_5546 v_one).bind fun x_5548 => R.ok (x_5547, x_5548)).bind fun x_5549 => R.ok (Pl.move x_5549.1 x_5549.2)
def m_Eat_put_behind (D : Pl → Pl → R Pl) (v_self : Pl) (v_one : Pl) : R Pl :=
  ((ofOpt (Pl.fPiece v_self)).bind fun x_5555 => ((ofOpt (Pl.fPlan v_self)).bind fun x_5554 => D x_5554 v_one).bind fun x_5556 => R.ok (x_5555, x_5556)).bind fun x_5557 => R.ok (Pl.eat x_5557.1 x_5557.2)
def m_Grow_put_behind (D : Pl → Pl → R Pl) (v_self : Pl) (v_one : Pl) : R Pl :=
  ((ofOpt (Pl.fPiece v_self)).bind fun x_5563 => ((ofOpt (Pl.fPlan v_self)).bind fun x_5562 => D x_5562 v_one).bind fun x_5564 => R.ok (x_5563, x_5564)).bind fun x_5565 => R.ok (Pl.grow x_5565.1 x_5565.2)
def m_Both_put_behind (D : Pl → Pl → R Pl) (v_self : Pl) (v_one : Pl) : R Pl :=
  (((ofOpt (Pl.fOne v_self)).bind fun x_5571 => D x_5571 v_one).bind fun x_5573 => ((ofOpt (Pl.fOther v_self)).bind fun x_5572 => D x_5572 v_one).bind fun x_5574 => R.ok (x_5573, x_5574)).bind fun x_5575 => R.ok (Pl.both x_5575.1 x_5575.2)
def m_Either_put_behind (D : Pl → Pl → R Pl) (v_self : Pl) (v_one : Pl) : R Pl :=
  (((ofOpt (Pl.fOne v_self)).bind fun x_5581 => D x_5581 v_one).bind fun x_5583 => ((ofOpt (Pl.fOther v_self)).bind fun x_5582 => D x_5582 v_one).bind fun x_5584 => R.ok (x_5583, x_5584)).bind fun x_5585 => R.ok (Pl.either x_5585.1 x_5585.2)
def m_D_put_behind : Nat → Pl → Pl → R Pl
  | 0, _, _ => R.bad
  | fu + 1, x0, x1 => match x0.kd with | .Keep => m_Keep_put_behind x0 x1 | .Nothing => m_Plan_put_behind x0 x1 | .Everything => m_Plan_put_behind x0 x1 | .Move => m_Move_put_behind (m_D_put_behind fu) x0 x1 | .Eat => m_Eat_put_behind (m_D_put_behind fu) x0 x1 | .Grow => m_Grow_put_behind (m_D_put_behind fu) x0 x1 | .Both => m_Both_put_behind (m_D_put_behind fu) x0 x1 | .Either => m_Either_put_behind (m_D_put_behind fu) x0 x1
def m_Plan_parts_in (v_self : Pl) : R (List Pl) :=
  R.ok ([] : List Pl)
def m_Move_parts_in (v_self : Pl) : R (List Pl) :=
  (ofOpt (Pl.fPlan v_self)).bind fun x_5587 => R.ok (x_5587 :: [])
def m_Eat_parts_in (v_self : Pl) : R (List Pl) :=
  (ofOpt (Pl.fPlan v_self)).bind fun x_5589 => R.ok (x_5589 :: [])
def m_Grow_parts_in (v_self : Pl) : R (List Pl) :=
  (ofOpt (Pl.fPlan v_self)).bind fun x_5591 => R.ok (x_5591 :: [])
def m_Both_parts_in (v_self : Pl) : R (List Pl) :=
  (ofOpt (Pl.fOne v_self)).bind fun x_5596 => ((ofOpt (Pl.fOther v_self)).bind fun x_5595 => R.ok (x_5595 :: [])).bind fun x_5597 => R.ok (x_5596 :: x_5597)
def m_Either_parts_in (v_self : Pl) : R (List Pl) :=
  (ofOpt (Pl.fOne v_self)).bind fun x_5602 => ((ofOpt (Pl.fOther v_self)).bind fun x_5601 => R.ok (x_5601 :: [])).bind fun x_5603 => R.ok (x_5602 :: x_5603)
def m_D_parts_in (x0 : Pl) : R (List Pl) := match x0.kd with | .Keep => m_Plan_parts_in x0 | .Nothing => m_Plan_parts_in x0 | .Everything => m_Plan_parts_in x0 | .Move => m_Move_parts_in x0 | .Eat => m_Eat_parts_in x0 | .Grow => m_Grow_parts_in x0 | .Both => m_Both_parts_in x0 | .Either => m_Either_parts_in x0
def m_many_in : Nat → Pl → R Int
  | 0, _ => R.bad
  | fu + 1, v_plan => (((m_D_parts_in v_plan).bind fun x_5615 => (mapR (fun y_5614 => m_many_in fu y_5614) x_5615).bind fun ys => chk (ys.length ≤ sizeLine) ys).bind fun x_5616 => R.ok ((x_5616).sum)).bind fun x_5617 => R.ok ((1 : Int) + x_5617)
def m_deep : Nat → Pl → R Int
  | 0, _ => R.bad
  | fu + 1, v_plan => (((m_D_parts_in v_plan).bind fun x_5630 => (mapR (fun y_5629 => m_deep fu y_5629) x_5630).bind fun ys => chk (ys.length ≤ sizeLine) ys).bind fun x_5631 => R.ok (maxDf 0 x_5631)).bind fun x_5632 => R.ok ((1 : Int) + x_5632)
def m_let_by (v_plan : Pl) : R Pl :=
  (((m_many_in 60 v_plan).bind fun x_5636 => R.ok (decide ((40 : Int) < x_5636))).bind fun x_5638 => if x_5638 = true then R.ok true else (m_deep 60 v_plan).bind fun x_5637 => R.ok (decide ((12 : Int) < x_5637))).bind fun x_5639 => if x_5639 = true then R.er ⟨"TooMany", none⟩ else R.ok v_plan
def m_after (v_one : Pl) (v_other : Pl) : R Pl :=
  (m_D_put_behind 20 v_other v_one).bind fun x_5641 => m_let_by x_5641
def m_law_kind (r : Er) : R Str :=
  (((ofOpt ((fun s => if s = ("TooMany" : Str) then some true else none) r.cls)).bind fun x_5649 => R.ok (!x_5649)).bind fun x_5652 => if x_5652 = true then R.ok true else ((ofOpt ((fun s => if s = ("TooMany" : Str) then some true else none) r.cls)).bind fun x_5650 => R.ok (!x_5650)).bind fun x_5651 => if x_5651 = true then R.ok true else ofOpt ((fun s => if s = ("TooMany" : Str) then some false else none) r.cls)).bind fun x_5653 => if x_5653 = true then R.ok ("other" : Str) else R.ok ("many" : Str)
def m_law_asked (v_way : Int) (v_one : Pl) (v_other : Pl) : R (Sum Str Pl) :=
  let found_5657 : Option (Sum Str Pl) := (none : Option (Sum Str Pl)); (catchR (fun s => if s = ("TooMany" : Str) then some true else none) (fun r_5668 => (((m_law_kind r_5668).calm).bind fun x_5675 => R.ok ((fun x => some (Sum.inl x)) x_5675)).bind fun found_5676 => R.ok found_5676) ((if (decide (v_way = (0 : Int))) = true then ((m_after v_one v_other).bind fun x_5673 => R.ok ((fun x => some (Sum.inr x)) x_5673)).bind fun found_5674 => R.ok found_5674 else if (decide (v_way = (1 : Int))) = true then R.bad else R.bad) : R (Option (Sum Str Pl)))).bind fun s_5677 => ofOpt s_5677
def m_law_put : Nat → Dy → Dy → R Dy
  | 0, _, _ => R.bad
  | fu + 1, v_form, v_one => ((ofOpt (Dy.at v_form (0 : Int))).bind fun x_5703 => chk (Dy.shp x_5703 = true ∧ Dy.shp (Dy.str ("keep" : Str)) = true) (Dy.eqv x_5703 (Dy.str ("keep" : Str)))).bind fun x_5726 => if x_5726 = true then R.ok v_one else ((ofOpt (Dy.len v_form)).bind fun x_5704 => R.ok (decide (x_5704 = (1 : Int)))).bind fun x_5725 => if x_5725 = true then R.ok v_form else (((ofOpt (Dy.at v_form (0 : Int))).bind fun x_5705 => chk (Dy.shp x_5705 = true ∧ Dy.shp (Dy.str ("both" : Str)) = true) (Dy.eqv x_5705 (Dy.str ("both" : Str)))).bind fun x_5707 => if x_5707 = true then R.ok true else (ofOpt (Dy.at v_form (0 : Int))).bind fun x_5706 => chk (Dy.shp x_5706 = true ∧ Dy.shp (Dy.str ("either" : Str)) = true) (Dy.eqv x_5706 (Dy.str ("either" : Str)))).bind fun x_5724 => if x_5724 = true then ((ofOpt (Dy.at v_form (0 : Int))).bind fun x_5714 => ((((ofOpt (Dy.at v_form (1 : Int))).bind fun x_5708 => R.ok (x_5708, v_one)).bind fun x_5709 => m_law_put fu x_5709.1 x_5709.2).bind fun x_5712 => (((ofOpt (Dy.at v_form (2 : Int))).bind fun x_5710 => R.ok (x_5710, v_one)).bind fun x_5711 => m_law_put fu x_5711.1 x_5711.2).bind fun x_5713 => R.ok (x_5712, x_5713)).bind fun x_5715 => R.ok (x_5714, x_5715)).bind fun x_5716 => R.ok ((fun x => Dy.tup [(fun d => d) x.1, (fun d => d) x.2.1, (fun d => d) x.2.2]) x_5716) else ((ofOpt (Dy.at v_form (0 : Int))).bind fun x_5721 => ((ofOpt (Dy.at v_form (1 : Int))).bind fun x_5719 => (((ofOpt (Dy.at v_form (2 : Int))).bind fun x_5717 => R.ok (x_5717, v_one)).bind fun x_5718 => m_law_put fu x_5718.1 x_5718.2).bind fun x_5720 => R.ok (x_5719, x_5720)).bind fun x_5722 => R.ok (x_5721, x_5722)).bind fun x_5723 => R.ok ((fun x => Dy.tup [(fun d => d) x.1, (fun d => d) x.2.1, (fun d => d) x.2.2]) x_5723)
def m_law_parts (v_form : Dy) : R (List Dy) :=
  ((ofOpt (Dy.len v_form)).bind fun x_5740 => R.ok (decide (x_5740 = (1 : Int)))).bind fun x_5749 => if x_5749 = true then R.ok ([] : List Dy) else (((ofOpt (Dy.at v_form (0 : Int))).bind fun x_5741 => chk (Dy.shp x_5741 = true ∧ Dy.shp (Dy.str ("both" : Str)) = true) (Dy.eqv x_5741 (Dy.str ("both" : Str)))).bind fun x_5743 => if x_5743 = true then R.ok true else (ofOpt (Dy.at v_form (0 : Int))).bind fun x_5742 => chk (Dy.shp x_5742 = true ∧ Dy.shp (Dy.str ("either" : Str)) = true) (Dy.eqv x_5742 (Dy.str ("either" : Str)))).bind fun x_5748 => if x_5748 = true then (ofOpt (Dy.at v_form (1 : Int))).bind fun x_5745 => ((ofOpt (Dy.at v_form (2 : Int))).bind fun x_5744 => R.ok (x_5744 :: [])).bind fun x_5746 => R.ok (x_5745 :: x_5746) else (ofOpt (Dy.at v_form (2 : Int))).bind fun x_5747 => R.ok (x_5747 :: [])
def m_law_many : Nat → Dy → R Int
  | 0, _ => R.bad
  | fu + 1, v_form => (((m_law_parts v_form).bind fun x_5761 => (mapR (fun y_5760 => m_law_many fu y_5760) x_5761).bind fun ys => chk (ys.length ≤ sizeLine) ys).bind fun x_5762 => R.ok ((x_5762).sum)).bind fun x_5763 => R.ok ((1 : Int) + x_5763)
def m_law_deep : Nat → Dy → R Int
  | 0, _ => R.bad
  | fu + 1, v_form => ((((m_law_parts v_form).bind fun x_5787 => (mapR (fun y_5786 => m_law_deep fu y_5786) x_5787).bind fun ys => chk (ys.length ≤ sizeLine) ys).bind fun x_5788 => chk (([(0 : Int)]).length + (x_5788).length ≤ sizeLine) ([(0 : Int)] ++ x_5788)).bind fun x_5789 => ofOpt (maxI x_5789)).bind fun x_5790 => R.ok ((1 : Int) + x_5790)
def m_Keep_words (v_self : Pl) : R (List Str) :=
  R.ok [("keep" : Str)]
def m_Nothing_words (v_self : Pl) : R (List Str) :=
  R.ok [("none" : Str)]
def m_Everything_words (v_self : Pl) : R (List Str) :=
  R.ok [("all" : Str)]
def m_step_words (v_steps : List (Int × Int)) : R (List Str) :=
  let words_5803 : List Str := ([] : List Str); (forR (τ := List Str) (fun s_5804 x_5805 => ((chk ((x_5805.1).natAbs.log2 < 1920) ((toString (x_5805.1 : Int) : String) : Str)).bind fun x_5807 => ((chk ((x_5805.2).natAbs.log2 < 1920) ((toString (x_5805.2 : Int) : String) : Str)).bind fun x_5806 => R.ok (x_5806 :: [])).bind fun x_5808 => R.ok (x_5807 :: x_5808)).bind fun y_5809 => (chk (s_5804.length + y_5809.length ≤ sizeLine) ()).bind fun _ => R.ok (s_5804 ++ y_5809)) v_steps words_5803).bind fun s_5810 => R.ok s_5810
def m_Move_words (D : Pl → R (List Str)) (v_self : Pl) : R (List Str) :=
  ((((ofOpt (Pl.fStep v_self)).bind fun x_5821 => R.ok (x_5821 :: [])).bind fun x_5822 => m_step_words x_5822).bind fun x_5823 => chk (([("move" : Str)]).length + (x_5823).length ≤ sizeLine) ([("move" : Str)] ++ x_5823)).bind fun x_5826 => ((ofOpt (Pl.fPlan v_self)).bind fun x_5825 => D x_5825).bind fun x_5827 => chk ((x_5826).length + (x_5827).length ≤ sizeLine) (x_5826 ++ x_5827)
def m_step_words_2 (v_steps : List (Int × Int)) : R (List Str) :=
  let words_5842 : List Str := ([] : List Str); (forR (τ := List Str) (fun s_5843 x_5844 => ((chk ((x_5844.1).natAbs.log2 < 1920) ((toString (x_5844.1 : Int) : String) : Str)).bind fun x_5846 => ((chk ((x_5844.2).natAbs.log2 < 1920) ((toString (x_5844.2 : Int) : String) : Str)).bind fun x_5845 => R.ok (x_5845 :: [])).bind fun x_5847 => R.ok (x_5846 :: x_5847)).bind fun y_5848 => (chk (s_5843.length + y_5848.length ≤ sizeLine) ()).bind fun _ => R.ok (s_5843 ++ y_5848)) v_steps words_5842).bind fun s_5849 => R.ok s_5849
def m_Eat_words (D : Pl → R (List Str)) (v_self : Pl) : R (List Str) :=
  ((((((ofOpt (Pl.fPiece v_self)).bind fun x_5860 => R.ok ((x_5860).length : Int)).bind fun x_5861 => chk ((x_5861).natAbs.log2 < 1920) ((toString (x_5861 : Int) : String) : Str)).bind fun x_5862 => R.ok (x_5862 :: [])).bind fun x_5863 => R.ok (("eat" : Str) :: x_5863)).bind fun x_5866 => ((ofOpt (Pl.fPiece v_self)).bind fun x_5865 => m_step_words_2 x_5865).bind fun x_5867 => chk ((x_5866).length + (x_5867).length ≤ sizeLine) (x_5866 ++ x_5867)).bind fun x_5870 => ((ofOpt (Pl.fPlan v_self)).bind fun x_5869 => D x_5869).bind fun x_5871 => chk ((x_5870).length + (x_5871).length ≤ sizeLine) (x_5870 ++ x_5871)
def m_Grow_words (D : Pl → R (List Str)) (v_self : Pl) : R (List Str) :=
  ((((((ofOpt (Pl.fPiece v_self)).bind fun x_5888 => R.ok ((x_5888).length : Int)).bind fun x_5889 => chk ((x_5889).natAbs.log2 < 1920) ((toString (x_5889 : Int) : String) : Str)).bind fun x_5890 => R.ok (x_5890 :: [])).bind fun x_5891 => R.ok (("grow" : Str) :: x_5891)).bind fun x_5894 => ((ofOpt (Pl.fPiece v_self)).bind fun x_5893 => m_step_words_2 x_5893).bind fun x_5895 => chk ((x_5894).length + (x_5895).length ≤ sizeLine) (x_5894 ++ x_5895)).bind fun x_5898 => ((ofOpt (Pl.fPlan v_self)).bind fun x_5897 => D x_5897).bind fun x_5899 => chk ((x_5898).length + (x_5899).length ≤ sizeLine) (x_5898 ++ x_5899)
def m_Both_words (D : Pl → R (List Str)) (v_self : Pl) : R (List Str) :=
  (((ofOpt (Pl.fOne v_self)).bind fun x_5908 => D x_5908).bind fun x_5909 => chk (([("both" : Str)]).length + (x_5909).length ≤ sizeLine) ([("both" : Str)] ++ x_5909)).bind fun x_5912 => ((ofOpt (Pl.fOther v_self)).bind fun x_5911 => D x_5911).bind fun x_5913 => chk ((x_5912).length + (x_5913).length ≤ sizeLine) (x_5912 ++ x_5913)
def m_Either_words (D : Pl → R (List Str)) (v_self : Pl) : R (List Str) :=
  (((ofOpt (Pl.fOne v_self)).bind fun x_5922 => D x_5922).bind fun x_5923 => chk (([("either" : Str)]).length + (x_5923).length ≤ sizeLine) ([("either" : Str)] ++ x_5923)).bind fun x_5926 => ((ofOpt (Pl.fOther v_self)).bind fun x_5925 => D x_5925).bind fun x_5927 => chk ((x_5926).length + (x_5927).length ≤ sizeLine) (x_5926 ++ x_5927)
def m_D_words : Nat → Pl → R (List Str)
  | 0, _ => R.bad
  | fu + 1, x0 => match x0.kd with | .Keep => m_Keep_words x0 | .Nothing => m_Nothing_words x0 | .Everything => m_Everything_words x0 | .Move => m_Move_words (m_D_words fu) x0 | .Eat => m_Eat_words (m_D_words fu) x0 | .Grow => m_Grow_words (m_D_words fu) x0 | .Both => m_Both_words (m_D_words fu) x0 | .Either => m_Either_words (m_D_words fu) x0
def m_law_words : Nat → Dy → R (List Str)
  | 0, _ => R.bad
  | fu + 1, v_form => (((ofOpt (Dy.at v_form (0 : Int))).bind fun x_5964 => ofOpt (asS x_5964)).bind fun x_5965 => R.ok (x_5965 :: [])).bind fun words_5966 => let steps_5967 : Dy := ((fun xs => Dy.tup (List.map Dy.int xs)) ([] : List Int)); ((ofOpt (Dy.at v_form (0 : Int))).bind fun x_5968 => chk (Dy.shp x_5968 = true ∧ Dy.shp (Dy.str ("move" : Str)) = true) (Dy.eqv x_5968 (Dy.str ("move" : Str)))).bind fun x_5994 => ((if x_5994 = true then ((ofOpt (Dy.at v_form (1 : Int))).bind fun x_5969 => R.ok ((fun x => Dy.tup [(fun d => d) x]) x_5969)).bind fun steps_5970 => R.ok steps_5970 else R.ok steps_5967) : R Dy).bind fun s_5971 => (((ofOpt (Dy.at v_form (0 : Int))).bind fun x_5972 => chk (Dy.shp x_5972 = true ∧ Dy.shp (Dy.str ("eat" : Str)) = true) (Dy.eqv x_5972 (Dy.str ("eat" : Str)))).bind fun x_5974 => if x_5974 = true then R.ok true else (ofOpt (Dy.at v_form (0 : Int))).bind fun x_5973 => chk (Dy.shp x_5973 = true ∧ Dy.shp (Dy.str ("grow" : Str)) = true) (Dy.eqv x_5973 (Dy.str ("grow" : Str)))).bind fun x_5993 => ((if x_5993 = true then (((ofOpt (Dy.at v_form (1 : Int))).bind fun x_5975 => ofOpt (Dy.len x_5975)).bind fun x_5976 => chk ((x_5976).natAbs.log2 < 1920) ((toString (x_5976 : Int) : String) : Str)).bind fun y_5977 => (chk (words_5966.length < sizeLine) ()).bind fun _ => (ofOpt (Dy.at v_form (1 : Int))).bind fun steps_5978 => R.ok ((words_5966 ++ [y_5977]), steps_5978) else R.ok (words_5966, s_5971)) : R ((List Str) × Dy)).bind fun s_5979 => (ofOpt ((asT (asTu (asc asI (as1 asI)))) s_5979.2)).bind fun x_5992 => (forR (τ := List Str) (fun s_5980 x_5981 => ((chk ((x_5981.1).natAbs.log2 < 1920) ((toString (x_5981.1 : Int) : String) : Str)).bind fun x_5983 => ((chk ((x_5981.2).natAbs.log2 < 1920) ((toString (x_5981.2 : Int) : String) : Str)).bind fun x_5982 => R.ok (x_5982 :: [])).bind fun x_5984 => R.ok (x_5983 :: x_5984)).bind fun y_5985 => (chk (s_5980.length + y_5985.length ≤ sizeLine) ()).bind fun _ => R.ok (s_5980 ++ y_5985)) x_5992 s_5979.1).bind fun s_5986 => (m_law_parts v_form).bind fun x_5991 => (forR (τ := List Str) (fun s_5987 x_5988 => (m_law_words fu x_5988).bind fun y_5989 => (chk (s_5987.length + y_5989.length ≤ sizeLine) ()).bind fun _ => R.ok (s_5987 ++ y_5989)) x_5991 s_5986).bind fun s_5990 => R.ok s_5990
def m_law_same : Nat → Dy → Dy → R Bool
  | 0, _, _ => R.bad
  | fu + 1, v_found, v_due => if (Dy.isTup v_due || Dy.isLst v_due) = true then if ((!decide ((Dy.isTup v_found) = (Dy.isTup v_due))) || (!(Dy.isTup v_found || Dy.isLst v_found))) = true then R.ok false else ((ofOpt (Dy.len v_found)).bind fun x_6002 => (ofOpt (Dy.len v_due)).bind fun x_6003 => R.ok (decide (x_6002 = x_6003))).bind fun x_6007 => if x_6007 = true then ((ofOpt (Dy.zip v_found v_due)).bind fun x_6005 => (mapR (fun y_6004 => m_law_same fu y_6004.1 y_6004.2) x_6005).bind fun ys => chk (ys.length ≤ sizeLine) ys).bind fun x_6006 => R.ok ((x_6006).all id) else R.ok false else if ((Dy.isBl v_due) || (Dy.isBl v_found)) = true then if (Dy.isBl v_due) = true then if (Dy.isBl v_found) = true then chk (Dy.shp v_found = true ∧ Dy.shp v_due = true) (Dy.eqv v_found v_due) else R.ok false else R.ok false else if (Dy.isStr v_due) = true then if (Dy.isStr v_found) = true then chk (Dy.shp v_found = true ∧ Dy.shp v_due = true) (Dy.eqv v_found v_due) else R.ok false else if (Dy.isInt v_found) = true then chk (Dy.shp v_found = true ∧ Dy.shp v_due = true) (Dy.eqv v_found v_due) else R.ok false
def m_law_good (v_found : Sum Str Pl) (v_form : Dy) : R Bool :=
  (((m_law_many 60 v_form).bind fun x_6012 => R.ok (decide ((40 : Int) < x_6012))).bind fun x_6014 => if x_6014 = true then R.ok true else (m_law_deep 60 v_form).bind fun x_6013 => R.ok (decide ((12 : Int) < x_6013))).bind fun x_6023 => if x_6023 = true then if (v_found).isLeft = true then (ofOpt (v_found).getLeft?).bind fun x_6015 => R.ok (decide (x_6015 = ("many" : Str))) else R.ok false else if (!(v_found).isLeft) = true then ((((ofOpt (v_found).getRight?).bind fun x_6017 => m_D_words 60 x_6017).bind fun x_6018 => R.ok ((fun xs => Dy.lst (List.map Dy.str xs)) x_6018)).bind fun x_6020 => ((m_law_words 60 v_form).bind fun x_6019 => R.ok ((fun xs => Dy.lst (List.map Dy.str xs)) x_6019)).bind fun x_6021 => R.ok (x_6020, x_6021)).bind fun x_6022 => m_law_same 60 x_6022.1 x_6022.2 else R.ok false
def m_Plan_made (v_self : Pl) (v_shape : ((List (Int × Int)) × Bool)) : R ((List (Int × Int)) × Bool) :=
  R.ok v_shape
def m_Nothing_made (v_self : Pl) (v_shape : ((List (Int × Int)) × Bool)) : R ((List (Int × Int)) × Bool) :=
  R.ok (([] : List (Int × Int)), false)
def m_Everything_made (v_self : Pl) (v_shape : ((List (Int × Int)) × Bool)) : R ((List (Int × Int)) × Bool) :=
  R.ok (([] : List (Int × Int)), true)
def m_moved_cell (v_cell : (Int × Int)) (v_step : (Int × Int)) : R (Int × Int) :=
  R.ok ((v_cell.1 + v_step.1), (v_cell.2 + v_step.2))
def m_moved (v_shape : ((List (Int × Int)) × Bool)) (v_step : (Int × Int)) : R ((List (Int × Int)) × Bool) :=
  let p_6048 : ((List (Int × Int)) × Bool) := v_shape; (((mapR (fun y_6049 => m_moved_cell y_6049 v_step) p_6048.1).bind fun ys => chk (ys.length ≤ sizeLine) ys).bind fun x_6050 => R.ok x_6050).bind fun x_6051 => R.ok (x_6051, p_6048.2)
def m_Move_made (D : Pl → ((List (Int × Int)) × Bool) → R ((List (Int × Int)) × Bool)) (v_self : Pl) (v_shape : ((List (Int × Int)) × Bool)) : R ((List (Int × Int)) × Bool) :=
  (((ofOpt (Pl.fPlan v_self)).bind fun x_6055 => D x_6055 v_shape).bind fun x_6056 => (ofOpt (Pl.fStep v_self)).bind fun x_6057 => R.ok (x_6056, x_6057)).bind fun x_6058 => m_moved x_6058.1 x_6058.2
def m_rising (v_cells : List (Int × Int)) : R (List (Int × Int)) :=
  (sortSet v_cells).bind fun x_6063 => R.ok x_6063
def m_mirrored (v_piece : List (Int × Int)) : R (List (Int × Int)) :=
  ((mapR (fun y_6065 => R.ok (((0 : Int) - y_6065.1), ((0 : Int) - y_6065.2))) v_piece).bind fun ys => chk (ys.length ≤ sizeLine) ys).bind fun x_6066 => m_rising x_6066
def m_lies_on (v_piece : List (Int × Int)) (v_cell : (Int × Int)) : R (List (Int × Int)) :=
  (mapR (fun y_6071 => m_moved_cell y_6071 v_cell) v_piece).bind fun ys => chk (ys.length ≤ sizeLine) ys
def m_reached (v_cells : List (Int × Int)) (v_piece : List (Int × Int)) : R (List (Int × Int)) :=
  let told_6074 : List (Int × Int) := ([] : List (Int × Int)); (forR (τ := List (Int × Int)) (fun s_6075 x_6076 => (m_lies_on v_piece x_6076).bind fun y_6077 => (chk (s_6075.length + y_6077.length ≤ sizeLine) ()).bind fun _ => R.ok (s_6075 ++ y_6077)) v_cells told_6074).bind fun s_6078 => m_rising s_6078
def m_less_cell (v_cell : (Int × Int)) (v_step : (Int × Int)) : R (Int × Int) :=
  R.ok ((v_cell.1 - v_step.1), (v_cell.2 - v_step.2))
def m_kept_at (v_cells : List (Int × Int)) (v_piece : List (Int × Int)) : R (List (Int × Int)) :=
  (forR (τ := List ((Int × Int) × Bool)) (fun s_6100 x_6101 => let v_6102 : Bool := true; let k_6103 : (Int × Int) := x_6101; (chk (s_6100.length < sizeLine) ()).bind fun _ => let held_6104 : List ((Int × Int) × Bool) := (dPut s_6100 k_6103 v_6102); R.ok held_6104) v_cells ([] : List ((Int × Int) × Bool))).bind fun s_6105 => let told_6106 : List (Int × Int) := ([] : List (Int × Int)); (forR (τ := List (Int × Int)) (fun s_6107 x_6108 => (((ofOpt (atI v_piece (0 : Int))).bind fun x_6109 => R.ok (x_6108, x_6109)).bind fun x_6110 => m_less_cell x_6110.1 x_6110.2).bind fun place_6111 => (((m_lies_on v_piece place_6111).bind fun x_6113 => (mapR (fun y_6112 => R.ok ((dGet s_6105 y_6112).isSome)) x_6113).bind fun ys => chk (ys.length ≤ sizeLine) ys).bind fun x_6114 => R.ok ((x_6114).all id)).bind fun x_6116 => if x_6116 = true then let y_6115 : (Int × Int) := place_6111; (chk (s_6107.length < sizeLine) ()).bind fun _ => R.ok (s_6107 ++ [y_6115]) else R.ok s_6107) v_cells told_6106).bind fun s_6117 => R.ok s_6117
def m_eaten (v_shape : ((List (Int × Int)) × Bool)) (v_piece : List (Int × Int)) : R ((List (Int × Int)) × Bool) :=
  let p_6119 : ((List (Int × Int)) × Bool) := v_shape; if p_6119.2 = true then (((m_mirrored v_piece).bind fun x_6120 => R.ok (p_6119.1, x_6120)).bind fun x_6121 => m_reached x_6121.1 x_6121.2).bind fun x_6122 => R.ok (x_6122, true) else (m_kept_at p_6119.1 v_piece).bind fun x_6123 => R.ok (x_6123, false)
def m_Eat_made (D : Pl → ((List (Int × Int)) × Bool) → R ((List (Int × Int)) × Bool)) (v_self : Pl) (v_shape : ((List (Int × Int)) × Bool)) : R ((List (Int × Int)) × Bool) :=
  (((ofOpt (Pl.fPlan v_self)).bind fun x_6127 => D x_6127 v_shape).bind fun x_6128 => (ofOpt (Pl.fPiece v_self)).bind fun x_6129 => R.ok (x_6128, x_6129)).bind fun x_6130 => m_eaten x_6130.1 x_6130.2
def m_grown (v_shape : ((List (Int × Int)) × Bool)) (v_piece : List (Int × Int)) : R ((List (Int × Int)) × Bool) :=
  let p_6137 : ((List (Int × Int)) × Bool) := v_shape; if p_6137.2 = true then (((m_mirrored v_piece).bind fun x_6138 => R.ok (p_6137.1, x_6138)).bind fun x_6139 => m_kept_at x_6139.1 x_6139.2).bind fun x_6140 => R.ok (x_6140, true) else (m_reached p_6137.1 v_piece).bind fun x_6141 => R.ok (x_6141, false)
def m_Grow_made (D : Pl → ((List (Int × Int)) × Bool) → R ((List (Int × Int)) × Bool)) (v_self : Pl) (v_shape : ((List (Int × Int)) × Bool)) : R ((List (Int × Int)) × Bool) :=
  (((ofOpt (Pl.fPlan v_self)).bind fun x_6145 => D x_6145 v_shape).bind fun x_6146 => (ofOpt (Pl.fPiece v_self)).bind fun x_6147 => R.ok (x_6146, x_6147)).bind fun x_6148 => m_grown x_6148.1 x_6148.2
def m_rising_2 (v_cells : List (Int × Int)) : R (List (Int × Int)) :=
  (sortSet v_cells).bind fun x_6152 => R.ok x_6152
def m_only_in (v_one : List (Int × Int)) (v_other : List (Int × Int)) : R (List (Int × Int)) :=
  (forR (τ := List ((Int × Int) × Bool)) (fun s_6163 x_6164 => let v_6165 : Bool := true; let k_6166 : (Int × Int) := x_6164; (chk (s_6163.length < sizeLine) ()).bind fun _ => let seen_6167 : List ((Int × Int) × Bool) := (dPut s_6163 k_6166 v_6165); R.ok seen_6167) v_other ([] : List ((Int × Int) × Bool))).bind fun s_6168 => ((fmR (fun y_6169 => R.ok (!(dGet s_6168 y_6169).isSome)) (fun y_6169 => R.ok y_6169) v_one).bind fun ys => chk (ys.length ≤ sizeLine) ys).bind fun x_6170 => R.ok x_6170
def m_both (v_one : ((List (Int × Int)) × Bool)) (v_other : ((List (Int × Int)) × Bool)) : R ((List (Int × Int)) × Bool) :=
  if (v_one.2 && v_other.2) = true then ((chk ((v_one.1).length + (v_other.1).length ≤ sizeLine) (v_one.1 ++ v_other.1)).bind fun x_6176 => m_rising_2 x_6176).bind fun x_6177 => R.ok (x_6177, true) else if v_one.2 = true then (m_only_in v_other.1 v_one.1).bind fun x_6178 => R.ok (x_6178, false) else if v_other.2 = true then (m_only_in v_one.1 v_other.1).bind fun x_6179 => R.ok (x_6179, false) else (((m_only_in v_one.1 v_other.1).bind fun x_6180 => R.ok (v_one.1, x_6180)).bind fun x_6181 => m_only_in x_6181.1 x_6181.2).bind fun x_6182 => R.ok (x_6182, false)
def m_Both_made (D : Pl → ((List (Int × Int)) × Bool) → R ((List (Int × Int)) × Bool)) (v_self : Pl) (v_shape : ((List (Int × Int)) × Bool)) : R ((List (Int × Int)) × Bool) :=
  (((ofOpt (Pl.fOne v_self)).bind fun x_6186 => D x_6186 v_shape).bind fun x_6188 => ((ofOpt (Pl.fOther v_self)).bind fun x_6187 => D x_6187 v_shape).bind fun x_6189 => R.ok (x_6188, x_6189)).bind fun x_6190 => m_both x_6190.1 x_6190.2
def m_outside (v_shape : ((List (Int × Int)) × Bool)) : R ((List (Int × Int)) × Bool) :=
  let p_6194 : ((List (Int × Int)) × Bool) := v_shape; R.ok (p_6194.1, (!p_6194.2))
def m_either (v_one : ((List (Int × Int)) × Bool)) (v_other : ((List (Int × Int)) × Bool)) : R ((List (Int × Int)) × Bool) :=
  (((m_outside v_one).bind fun x_6199 => (m_outside v_other).bind fun x_6200 => R.ok (x_6199, x_6200)).bind fun x_6201 => m_both x_6201.1 x_6201.2).bind fun x_6202 => m_outside x_6202
def m_Either_made (D : Pl → ((List (Int × Int)) × Bool) → R ((List (Int × Int)) × Bool)) (v_self : Pl) (v_shape : ((List (Int × Int)) × Bool)) : R ((List (Int × Int)) × Bool) :=
  (((ofOpt (Pl.fOne v_self)).bind fun x_6206 => D x_6206 v_shape).bind fun x_6208 => ((ofOpt (Pl.fOther v_self)).bind fun x_6207 => D x_6207 v_shape).bind fun x_6209 => R.ok (x_6208, x_6209)).bind fun x_6210 => m_either x_6210.1 x_6210.2
def m_D_made (D : Pl → ((List (Int × Int)) × Bool) → R ((List (Int × Int)) × Bool)) (x0 : Pl) (x1 : ((List (Int × Int)) × Bool)) : R ((List (Int × Int)) × Bool) := match x0.kd with | .Keep => m_Plan_made x0 x1 | .Nothing => m_Nothing_made x0 x1 | .Everything => m_Everything_made x0 x1 | .Move => m_Move_made D x0 x1 | .Eat => m_Eat_made D x0 x1 | .Grow => m_Grow_made D x0 x1 | .Both => m_Both_made D x0 x1 | .Either => m_Either_made D x0 x1
def m_Plan_done (D : Pl → ((List (Int × Int)) × Bool) → R ((List (Int × Int)) × Bool)) (v_self : Pl) (v_shape : ((List (Int × Int)) × Bool)) : R ((List (Int × Int)) × Bool) :=
  (m_D_made D v_self v_shape).bind fun told_6212 => if (decide ((2000 : Int) < ((told_6212.1).length : Int))) = true then R.er ⟨"TooMany", none⟩ else R.ok told_6212
def m_D_done : Nat → Pl → ((List (Int × Int)) × Bool) → R ((List (Int × Int)) × Bool)
  | 0, _, _ => R.bad
  | fu + 1, x0, x1 => match x0.kd with | .Keep => m_Plan_done (m_D_done fu) x0 x1 | .Nothing => m_Plan_done (m_D_done fu) x0 x1 | .Everything => m_Plan_done (m_D_done fu) x0 x1 | .Move => m_Plan_done (m_D_done fu) x0 x1 | .Eat => m_Plan_done (m_D_done fu) x0 x1 | .Grow => m_Plan_done (m_D_done fu) x0 x1 | .Both => m_Plan_done (m_D_done fu) x0 x1 | .Either => m_Plan_done (m_D_done fu) x0 x1
def m_law_done (v_plan : Pl) (v_shape : ((List (Int × Int)) × Bool)) : R (Option ((List (Int × Int)) × Bool)) :=
  let found_6217 : Option ((List (Int × Int)) × Bool) := (none : Option ((List (Int × Int)) × Bool)); (catchR (fun s => if s = ("TooMany" : Str) then some true else none) (fun r_6228 => let found_6235 : Option ((List (Int × Int)) × Bool) := (none : Option ((List (Int × Int)) × Bool)); R.ok found_6235) ((((m_D_done 60 v_plan v_shape).bind fun x_6233 => R.ok (some x_6233)).bind fun found_6234 => R.ok found_6234) : R (Option ((List (Int × Int)) × Bool)))).bind fun s_6236 => R.ok s_6236
def m_law_behind (v_one : Pl) (v_other : Pl) (v_chained : Pl) (v_shape : ((List (Int × Int)) × Bool)) : R Bool :=
  (m_law_done v_one v_shape).bind fun first_6248 => (if (first_6248).isNone = true then R.ok true else (((ofOpt first_6248).bind fun x_6249 => R.ok x_6249.1).bind fun x_6250 => R.ok ((x_6250).length : Int)).bind fun x_6251 => R.ok (decide ((400 : Int) < x_6251))).bind fun x_6258 => if x_6258 = true then R.ok true else (((ofOpt first_6248).bind fun x_6252 => R.ok (v_other, x_6252)).bind fun x_6253 => m_law_done x_6253.1 x_6253.2).bind fun second_6254 => if (second_6254).isNone = true then R.ok true else (((m_law_done v_chained v_shape).bind fun x_6255 => R.ok ((dyO (fun x => Dy.tup [(fun xs => Dy.tup (List.map (fun x => Dy.tup [Dy.int x.1, Dy.int x.2]) xs)) x.1, Dy.bl x.2])) x_6255)).bind fun x_6256 => R.ok (x_6256, ((dyO (fun x => Dy.tup [(fun xs => Dy.tup (List.map (fun x => Dy.tup [Dy.int x.1, Dy.int x.2]) xs)) x.1, Dy.bl x.2])) second_6254))).bind fun x_6257 => m_law_same 60 x_6257.1 x_6257.2
def m_opening (v_piece : List (Int × Int)) (v_plan : Pl) : R Pl :=
  m_let_by (Pl.grow v_piece (Pl.eat v_piece v_plan))
def m_closing (v_piece : List (Int × Int)) (v_plan : Pl) : R Pl :=
  m_let_by (Pl.eat v_piece (Pl.grow v_piece v_plan))
def m_law_asked_2 (v_way : Int) (v_one : Pl) (v_other : List (Int × Int)) : R (Sum Str Pl) :=
  let found_6287 : Option (Sum Str Pl) := (none : Option (Sum Str Pl)); (catchR (fun s => if s = ("TooMany" : Str) then some true else none) (fun r_6298 => (((m_law_kind r_6298).calm).bind fun x_6307 => R.ok ((fun x => some (Sum.inl x)) x_6307)).bind fun found_6308 => R.ok found_6308) ((if (decide (v_way = (0 : Int))) = true then R.bad else if (decide (v_way = (1 : Int))) = true then ((m_opening v_other v_one).bind fun x_6303 => R.ok ((fun x => some (Sum.inr x)) x_6303)).bind fun found_6304 => R.ok found_6304 else ((m_closing v_other v_one).bind fun x_6305 => R.ok ((fun x => some (Sum.inr x)) x_6305)).bind fun found_6306 => R.ok found_6306) : R (Option (Sum Str Pl)))).bind fun s_6309 => ofOpt s_6309
def m_law (v_script : List Int) : R Bool :=
  (chk ((cutL v_script none (some (30 : Int))).length + ([(5 : Int)]).length ≤ sizeLine) (cutL v_script none (some (30 : Int)) ++ [(5 : Int)])).bind fun x_6420 => (forS (τ := Unit) (γ := Bool) (fun s_6354 x_6355 => ((m_law_deal x_6355 (80 : Int)).bind fun x_6356 => R.ok (x_6356 :: [])).bind fun pot_6357 => (m_law_two pot_6357).calm.bind fun forms_6358 => (m_law_piece forms_6358.2 (3 : Int)).calm.bind fun piece_6359 => (m_law_shape piece_6359.2).calm.bind fun shape_6360 => ((ofOpt (atI forms_6358.1 (0 : Int))).bind fun x_6361 => m_law_plan 16 x_6361).bind fun one_6362 => ((ofOpt (atI forms_6358.1 (1 : Int))).bind fun x_6363 => m_law_plan 16 x_6363).bind fun other_6364 => (m_law_asked (0 : Int) one_6362 other_6364).bind fun chained_6365 => ((((((ofOpt (atI forms_6358.1 (1 : Int))).bind fun x_6366 => (ofOpt (atI forms_6358.1 (0 : Int))).bind fun x_6367 => R.ok (x_6366, x_6367)).bind fun x_6368 => m_law_put 20 x_6368.1 x_6368.2).bind fun x_6369 => R.ok (chained_6365, x_6369)).bind fun x_6370 => m_law_good x_6370.1 x_6370.2).bind fun x_6371 => R.ok (!x_6371)).bind fun x_6418 => if x_6418 = true then R.ok (Stp.rt false) else (if (!(chained_6365).isLeft) = true then (((((ofOpt (chained_6365).getRight?).bind fun x_6372 => R.ok (x_6372, shape_6360.1)).bind fun x_6373 => R.ok (other_6364, x_6373)).bind fun x_6374 => R.ok (one_6362, x_6374)).bind fun x_6375 => m_law_behind x_6375.1 x_6375.2.1 x_6375.2.2.1 x_6375.2.2.2).bind fun x_6376 => R.ok (!x_6376) else R.ok false).bind fun x_6417 => if x_6417 = true then R.ok (Stp.rt false) else ((((m_law_asked_2 (1 : Int) one_6362 piece_6359.1).bind fun x_6386 => ((((((ofOpt (atI forms_6358.1 (0 : Int))).bind fun x_6381 => R.ok (piece_6359.1, x_6381)).bind fun x_6382 => R.ok (("eat" : Str), x_6382)).bind fun x_6383 => R.ok (piece_6359.1, x_6383)).bind fun x_6384 => R.ok (("grow" : Str), x_6384)).bind fun x_6385 => R.ok ((fun x => Dy.tup [Dy.str x.1, (fun xs => Dy.tup (List.map (fun x => Dy.tup [Dy.int x.1, Dy.int x.2]) xs)) x.2.1, (fun x => Dy.tup [Dy.str x.1, (fun xs => Dy.tup (List.map (fun x => Dy.tup [Dy.int x.1, Dy.int x.2]) xs)) x.2.1, (fun d => d) x.2.2]) x.2.2]) x_6385)).bind fun x_6387 => R.ok (x_6386, x_6387)).bind fun x_6388 => m_law_good x_6388.1 x_6388.2).bind fun x_6389 => R.ok (!x_6389)).bind fun x_6416 => if x_6416 = true then R.ok (Stp.rt false) else ((((m_law_asked_2 (2 : Int) one_6362 piece_6359.1).bind fun x_6399 => ((((((ofOpt (atI forms_6358.1 (0 : Int))).bind fun x_6394 => R.ok (piece_6359.1, x_6394)).bind fun x_6395 => R.ok (("grow" : Str), x_6395)).bind fun x_6396 => R.ok (piece_6359.1, x_6396)).bind fun x_6397 => R.ok (("eat" : Str), x_6397)).bind fun x_6398 => R.ok ((fun x => Dy.tup [Dy.str x.1, (fun xs => Dy.tup (List.map (fun x => Dy.tup [Dy.int x.1, Dy.int x.2]) xs)) x.2.1, (fun x => Dy.tup [Dy.str x.1, (fun xs => Dy.tup (List.map (fun x => Dy.tup [Dy.int x.1, Dy.int x.2]) xs)) x.2.1, (fun d => d) x.2.2]) x.2.2]) x_6398)).bind fun x_6400 => R.ok (x_6399, x_6400)).bind fun x_6401 => m_law_good x_6401.1 x_6401.2).bind fun x_6402 => R.ok (!x_6402)).bind fun x_6415 => if x_6415 = true then R.ok (Stp.rt false) else ((((m_D_words 60 one_6362).bind fun x_6404 => R.ok ((fun xs => Dy.lst (List.map Dy.str xs)) x_6404)).bind fun x_6406 => (((ofOpt (atI forms_6358.1 (0 : Int))).bind fun x_6403 => m_law_words 60 x_6403).bind fun x_6405 => R.ok ((fun xs => Dy.lst (List.map Dy.str xs)) x_6405)).bind fun x_6407 => chk (Dy.shp x_6406 = true ∧ Dy.shp x_6407 = true) (!Dy.eqv x_6406 x_6407)).bind fun x_6413 => if x_6413 = true then R.ok true else ((m_D_words 60 other_6364).bind fun x_6409 => R.ok ((fun xs => Dy.lst (List.map Dy.str xs)) x_6409)).bind fun x_6411 => (((ofOpt (atI forms_6358.1 (1 : Int))).bind fun x_6408 => m_law_words 60 x_6408).bind fun x_6410 => R.ok ((fun xs => Dy.lst (List.map Dy.str xs)) x_6410)).bind fun x_6412 => chk (Dy.shp x_6411 = true ∧ Dy.shp x_6412 = true) (!Dy.eqv x_6411 x_6412)).bind fun x_6414 => if x_6414 = true then R.ok (Stp.rt false) else R.ok (Stp.nx ())) x_6420 ()).bind (outK (fun s_6419 => R.ok true) (fun a => a))
/-- what stands behind the top -/
structure Txt (K : PySem.W.Frag) (mg : Str → Option Value) (Ad : Adr) : Prop where
  gc_BadCell : mg "BadCell" = some (.ref Ad.c_BadCell)
  gc_BadPiece : mg "BadPiece" = some (.ref Ad.c_BadPiece)
  gc_Both : mg "Both" = some (.ref Ad.c_Both)
  gc_Eat : mg "Eat" = some (.ref Ad.c_Eat)
  gc_Either : mg "Either" = some (.ref Ad.c_Either)
  gc_Everything : mg "Everything" = some (.ref Ad.c_Everything)
  gc_Grow : mg "Grow" = some (.ref Ad.c_Grow)
  gc_Keep : mg "Keep" = some (.ref Ad.c_Keep)
  gc_MossError : mg "MossError" = some (.ref Ad.c_MossError)
  gc_Move : mg "Move" = some (.ref Ad.c_Move)
  gc_Nothing : mg "Nothing" = some (.ref Ad.c_Nothing)
  gc_TooMany : mg "TooMany" = some (.ref Ad.c_TooMany)
  x_TooMany : ExX K mg "TooMany" Ad.c_TooMany
  e_TooMany_MossError : PySem.W.exmOne K (.ref Ad.c_TooMany) (.ref Ad.c_MossError) = some true
  e_TooMany_TooMany : PySem.W.exmOne K (.ref Ad.c_TooMany) (.ref Ad.c_TooMany) = some true
  i_Both_str : PySem.W.kitOne K (.ref Ad.c_Both) (.type "str") = some false
  i_Eat_str : PySem.W.kitOne K (.ref Ad.c_Eat) (.type "str") = some false
  i_Either_str : PySem.W.kitOne K (.ref Ad.c_Either) (.type "str") = some false
  i_Everything_str : PySem.W.kitOne K (.ref Ad.c_Everything) (.type "str") = some false
  i_Grow_str : PySem.W.kitOne K (.ref Ad.c_Grow) (.type "str") = some false
  i_Keep_str : PySem.W.kitOne K (.ref Ad.c_Keep) (.type "str") = some false
  i_Move_str : PySem.W.kitOne K (.ref Ad.c_Move) (.type "str") = some false
  i_Nothing_str : PySem.W.kitOne K (.ref Ad.c_Nothing) (.type "str") = some false
  i_TooMany_TooMany : PySem.W.kitOne K (.ref Ad.c_TooMany) (.ref Ad.c_TooMany) = some true
  i_TooMany_ValueError : PySem.W.kitOne K (.ref Ad.c_TooMany) (.type "ValueError") = some true
  t_TooMany_BadCell_BadPiece : PySem.W.kitAny K (.ref Ad.c_TooMany) [.ref Ad.c_BadCell, .ref Ad.c_BadPiece] = some false
  pl : PlC K (csl Ad)
  mk_Keep : Mk0 K Ad.c_Keep
  mk_Nothing : Mk0 K Ad.c_Nothing
  mk_Everything : Mk0 K Ad.c_Everything
  mk_Move : Mk K Ad.c_Move Ad.fMove___init__
  mk_Eat : Mk K Ad.c_Eat Ad.fEat___init__
  mk_Grow : Mk K Ad.c_Grow Ad.fGrow___init__
  mk_Both : Mk K Ad.c_Both Ad.fBoth___init__
  mk_Either : Mk K Ad.c_Either Ad.fEither___init__
  mt_Both_done : Meth K Ad.c_Both "done" Ad.fPlan_done
  mt_Both_made : Meth K Ad.c_Both "made" Ad.fBoth_made
  mt_Both_parts_in : Meth K Ad.c_Both "parts_in" Ad.fBoth_parts_in
  mt_Both_put_behind : Meth K Ad.c_Both "put_behind" Ad.fBoth_put_behind
  mt_Both_words : Meth K Ad.c_Both "words" Ad.fBoth_words
  mt_Eat_done : Meth K Ad.c_Eat "done" Ad.fPlan_done
  mt_Eat_made : Meth K Ad.c_Eat "made" Ad.fEat_made
  mt_Eat_parts_in : Meth K Ad.c_Eat "parts_in" Ad.fEat_parts_in
  mt_Eat_put_behind : Meth K Ad.c_Eat "put_behind" Ad.fEat_put_behind
  mt_Eat_words : Meth K Ad.c_Eat "words" Ad.fEat_words
  mt_Either_done : Meth K Ad.c_Either "done" Ad.fPlan_done
  mt_Either_made : Meth K Ad.c_Either "made" Ad.fEither_made
  mt_Either_parts_in : Meth K Ad.c_Either "parts_in" Ad.fEither_parts_in
  mt_Either_put_behind : Meth K Ad.c_Either "put_behind" Ad.fEither_put_behind
  mt_Either_words : Meth K Ad.c_Either "words" Ad.fEither_words
  mt_Everything_done : Meth K Ad.c_Everything "done" Ad.fPlan_done
  mt_Everything_made : Meth K Ad.c_Everything "made" Ad.fEverything_made
  mt_Everything_parts_in : Meth K Ad.c_Everything "parts_in" Ad.fPlan_parts_in
  mt_Everything_put_behind : Meth K Ad.c_Everything "put_behind" Ad.fPlan_put_behind
  mt_Everything_words : Meth K Ad.c_Everything "words" Ad.fEverything_words
  mt_Grow_done : Meth K Ad.c_Grow "done" Ad.fPlan_done
  mt_Grow_made : Meth K Ad.c_Grow "made" Ad.fGrow_made
  mt_Grow_parts_in : Meth K Ad.c_Grow "parts_in" Ad.fGrow_parts_in
  mt_Grow_put_behind : Meth K Ad.c_Grow "put_behind" Ad.fGrow_put_behind
  mt_Grow_words : Meth K Ad.c_Grow "words" Ad.fGrow_words
  mt_Keep_done : Meth K Ad.c_Keep "done" Ad.fPlan_done
  mt_Keep_made : Meth K Ad.c_Keep "made" Ad.fPlan_made
  mt_Keep_parts_in : Meth K Ad.c_Keep "parts_in" Ad.fPlan_parts_in
  mt_Keep_put_behind : Meth K Ad.c_Keep "put_behind" Ad.fKeep_put_behind
  mt_Keep_words : Meth K Ad.c_Keep "words" Ad.fKeep_words
  mt_Move_done : Meth K Ad.c_Move "done" Ad.fPlan_done
  mt_Move_made : Meth K Ad.c_Move "made" Ad.fMove_made
  mt_Move_parts_in : Meth K Ad.c_Move "parts_in" Ad.fMove_parts_in
  mt_Move_put_behind : Meth K Ad.c_Move "put_behind" Ad.fMove_put_behind
  mt_Move_words : Meth K Ad.c_Move "words" Ad.fMove_words
  mt_Nothing_done : Meth K Ad.c_Nothing "done" Ad.fPlan_done
  mt_Nothing_made : Meth K Ad.c_Nothing "made" Ad.fNothing_made
  mt_Nothing_parts_in : Meth K Ad.c_Nothing "parts_in" Ad.fPlan_parts_in
  mt_Nothing_put_behind : Meth K Ad.c_Nothing "put_behind" Ad.fPlan_put_behind
  mt_Nothing_words : Meth K Ad.c_Nothing "words" Ad.fNothing_words
  F__law_deal : FunZ K "_law_deal" "_law_deal" s_law_deal Ad.f_law_deal Ad.d_law_deal
  g__law_deal : mg "_law_deal" = some (.ref Ad.f_law_deal)
  k__law_deal : PySem.W.keepIn K (.ref Ad.f_law_deal) = true
  b__law_deal : Binds K Ad.d_law_deal ["cell", "many"] []
  F__law_take : FunZ K "_law_take" "_law_take" s_law_take Ad.f_law_take Ad.d_law_take
  g__law_take : mg "_law_take" = some (.ref Ad.f_law_take)
  k__law_take : PySem.W.keepIn K (.ref Ad.f_law_take) = true
  b__law_take : Binds K Ad.d_law_take ["pot", "many"] []
  F__law_step : FunZ K "_law_step" "_law_step" s_law_step Ad.f_law_step Ad.d_law_step
  g__law_step : mg "_law_step" = some (.ref Ad.f_law_step)
  k__law_step : PySem.W.keepIn K (.ref Ad.f_law_step) = true
  b__law_step : Binds K Ad.d_law_step ["pot"] []
  F__law_piece : FunZ K "_law_piece" "_law_piece" s_law_piece Ad.f_law_piece Ad.d_law_piece
  g__law_piece : mg "_law_piece" = some (.ref Ad.f_law_piece)
  k__law_piece : PySem.W.keepIn K (.ref Ad.f_law_piece) = true
  b__law_piece : Binds K Ad.d_law_piece ["pot", "most"] []
  F__law_chain : FunZ K "_law_chain" "_law_chain" s_law_chain Ad.f_law_chain Ad.d_law_chain
  g__law_chain : mg "_law_chain" = some (.ref Ad.f_law_chain)
  k__law_chain : PySem.W.keepIn K (.ref Ad.f_law_chain) = true
  b__law_chain : Binds K Ad.d_law_chain ["pot", "many"] []
  F__law_tree : FunZ K "_law_tree" "_law_tree" s_law_tree Ad.f_law_tree Ad.d_law_tree
  g__law_tree : mg "_law_tree" = some (.ref Ad.f_law_tree)
  k__law_tree : PySem.W.keepIn K (.ref Ad.f_law_tree) = true
  b__law_tree : Binds K Ad.d_law_tree ["pot", "many"] []
  F__law_form : FunZ K "_law_form" "_law_form" s_law_form Ad.f_law_form Ad.d_law_form
  g__law_form : mg "_law_form" = some (.ref Ad.f_law_form)
  k__law_form : PySem.W.keepIn K (.ref Ad.f_law_form) = true
  b__law_form : Binds K Ad.d_law_form ["pot", "depth", "most"] []
  F__law_two : FunZ K "_law_two" "_law_two" s_law_two Ad.f_law_two Ad.d_law_two
  g__law_two : mg "_law_two" = some (.ref Ad.f_law_two)
  k__law_two : PySem.W.keepIn K (.ref Ad.f_law_two) = true
  b__law_two : Binds K Ad.d_law_two ["pot"] []
  F__law_shape : FunZ K "_law_shape" "_law_shape" s_law_shape Ad.f_law_shape Ad.d_law_shape
  g__law_shape : mg "_law_shape" = some (.ref Ad.f_law_shape)
  k__law_shape : PySem.W.keepIn K (.ref Ad.f_law_shape) = true
  b__law_shape : Binds K Ad.d_law_shape ["pot"] []
  F__law_plan : FunZ K "_law_plan" "_law_plan" s_law_plan Ad.f_law_plan Ad.d_law_plan
  g__law_plan : mg "_law_plan" = some (.ref Ad.f_law_plan)
  k__law_plan : PySem.W.keepIn K (.ref Ad.f_law_plan) = true
  b__law_plan : Binds K Ad.d_law_plan ["form"] []
  F_Keep_put_behind : FunZ K "put_behind" "Keep.put_behind" sKeep_put_behind Ad.fKeep_put_behind Ad.dKeep_put_behind
  k_Keep_put_behind : PySem.W.keepIn K (.ref Ad.fKeep_put_behind) = true
  b_Keep_put_behind : Binds K Ad.dKeep_put_behind ["self", "one"] []
  F_Plan_put_behind : FunZ K "put_behind" "Plan.put_behind" sPlan_put_behind Ad.fPlan_put_behind Ad.dPlan_put_behind
  k_Plan_put_behind : PySem.W.keepIn K (.ref Ad.fPlan_put_behind) = true
  b_Plan_put_behind : Binds K Ad.dPlan_put_behind ["self", "one"] []
  F_Move_put_behind : FunZ K "put_behind" "Move.put_behind" sMove_put_behind Ad.fMove_put_behind Ad.dMove_put_behind
  k_Move_put_behind : PySem.W.keepIn K (.ref Ad.fMove_put_behind) = true
  b_Move_put_behind : Binds K Ad.dMove_put_behind ["self", "one"] []
  F_Eat_put_behind : FunZ K "put_behind" "Eat.put_behind" sEat_put_behind Ad.fEat_put_behind Ad.dEat_put_behind
  k_Eat_put_behind : PySem.W.keepIn K (.ref Ad.fEat_put_behind) = true
  b_Eat_put_behind : Binds K Ad.dEat_put_behind ["self", "one"] []
  F_Grow_put_behind : FunZ K "put_behind" "Grow.put_behind" sGrow_put_behind Ad.fGrow_put_behind Ad.dGrow_put_behind
  k_Grow_put_behind : PySem.W.keepIn K (.ref Ad.fGrow_put_behind) = true
  b_Grow_put_behind : Binds K Ad.dGrow_put_behind ["self", "one"] []
  F_Both_put_behind : FunZ K "put_behind" "Both.put_behind" sBoth_put_behind Ad.fBoth_put_behind Ad.dBoth_put_behind
  k_Both_put_behind : PySem.W.keepIn K (.ref Ad.fBoth_put_behind) = true
  b_Both_put_behind : Binds K Ad.dBoth_put_behind ["self", "one"] []
  F_Either_put_behind : FunZ K "put_behind" "Either.put_behind" sEither_put_behind Ad.fEither_put_behind Ad.dEither_put_behind
  k_Either_put_behind : PySem.W.keepIn K (.ref Ad.fEither_put_behind) = true
  b_Either_put_behind : Binds K Ad.dEither_put_behind ["self", "one"] []
  F_Plan_parts_in : FunZ K "parts_in" "Plan.parts_in" sPlan_parts_in Ad.fPlan_parts_in Ad.dPlan_parts_in
  k_Plan_parts_in : PySem.W.keepIn K (.ref Ad.fPlan_parts_in) = true
  b_Plan_parts_in : Binds K Ad.dPlan_parts_in ["self"] []
  F_Move_parts_in : FunZ K "parts_in" "Move.parts_in" sMove_parts_in Ad.fMove_parts_in Ad.dMove_parts_in
  k_Move_parts_in : PySem.W.keepIn K (.ref Ad.fMove_parts_in) = true
  b_Move_parts_in : Binds K Ad.dMove_parts_in ["self"] []
  F_Eat_parts_in : FunZ K "parts_in" "Eat.parts_in" sEat_parts_in Ad.fEat_parts_in Ad.dEat_parts_in
  k_Eat_parts_in : PySem.W.keepIn K (.ref Ad.fEat_parts_in) = true
  b_Eat_parts_in : Binds K Ad.dEat_parts_in ["self"] []
  F_Grow_parts_in : FunZ K "parts_in" "Grow.parts_in" sGrow_parts_in Ad.fGrow_parts_in Ad.dGrow_parts_in
  k_Grow_parts_in : PySem.W.keepIn K (.ref Ad.fGrow_parts_in) = true
  b_Grow_parts_in : Binds K Ad.dGrow_parts_in ["self"] []
  F_Both_parts_in : FunZ K "parts_in" "Both.parts_in" sBoth_parts_in Ad.fBoth_parts_in Ad.dBoth_parts_in
  k_Both_parts_in : PySem.W.keepIn K (.ref Ad.fBoth_parts_in) = true
  b_Both_parts_in : Binds K Ad.dBoth_parts_in ["self"] []
  F_Either_parts_in : FunZ K "parts_in" "Either.parts_in" sEither_parts_in Ad.fEither_parts_in Ad.dEither_parts_in
  k_Either_parts_in : PySem.W.keepIn K (.ref Ad.fEither_parts_in) = true
  b_Either_parts_in : Binds K Ad.dEither_parts_in ["self"] []
  F_many_in : FunZ K "many_in" "many_in" smany_in Ad.fmany_in Ad.dmany_in
  g_many_in : mg "many_in" = some (.ref Ad.fmany_in)
  k_many_in : PySem.W.keepIn K (.ref Ad.fmany_in) = true
  b_many_in : Binds K Ad.dmany_in ["plan"] []
  F_deep : FunZ K "deep" "deep" sdeep Ad.fdeep Ad.ddeep
  g_deep : mg "deep" = some (.ref Ad.fdeep)
  k_deep : PySem.W.keepIn K (.ref Ad.fdeep) = true
  b_deep : Binds K Ad.ddeep ["plan"] []
  F_let_by : FunZ K "let_by" "let_by" slet_by Ad.flet_by Ad.dlet_by
  g_let_by : mg "let_by" = some (.ref Ad.flet_by)
  k_let_by : PySem.W.keepIn K (.ref Ad.flet_by) = true
  b_let_by : Binds K Ad.dlet_by ["plan"] []
  F_after : FunZ K "after" "after" safter Ad.fafter Ad.dafter
  g_after : mg "after" = some (.ref Ad.fafter)
  k_after : PySem.W.keepIn K (.ref Ad.fafter) = true
  b_after : Binds K Ad.dafter ["one", "other"] []
  F__law_kind : FunZ K "_law_kind" "_law_kind" s_law_kind Ad.f_law_kind Ad.d_law_kind
  g__law_kind : mg "_law_kind" = some (.ref Ad.f_law_kind)
  k__law_kind : PySem.W.keepIn K (.ref Ad.f_law_kind) = true
  b__law_kind : Binds K Ad.d_law_kind ["error"] []
  F__law_asked : FunZ K "_law_asked" "_law_asked" s_law_asked Ad.f_law_asked Ad.d_law_asked
  g__law_asked : mg "_law_asked" = some (.ref Ad.f_law_asked)
  k__law_asked : PySem.W.keepIn K (.ref Ad.f_law_asked) = true
  b__law_asked : Binds K Ad.d_law_asked ["way", "one", "other"] []
  F__law_put : FunZ K "_law_put" "_law_put" s_law_put Ad.f_law_put Ad.d_law_put
  g__law_put : mg "_law_put" = some (.ref Ad.f_law_put)
  k__law_put : PySem.W.keepIn K (.ref Ad.f_law_put) = true
  b__law_put : Binds K Ad.d_law_put ["form", "one"] []
  F__law_parts : FunZ K "_law_parts" "_law_parts" s_law_parts Ad.f_law_parts Ad.d_law_parts
  g__law_parts : mg "_law_parts" = some (.ref Ad.f_law_parts)
  k__law_parts : PySem.W.keepIn K (.ref Ad.f_law_parts) = true
  b__law_parts : Binds K Ad.d_law_parts ["form"] []
  F__law_many : FunZ K "_law_many" "_law_many" s_law_many Ad.f_law_many Ad.d_law_many
  g__law_many : mg "_law_many" = some (.ref Ad.f_law_many)
  k__law_many : PySem.W.keepIn K (.ref Ad.f_law_many) = true
  b__law_many : Binds K Ad.d_law_many ["form"] []
  F__law_deep : FunZ K "_law_deep" "_law_deep" s_law_deep Ad.f_law_deep Ad.d_law_deep
  g__law_deep : mg "_law_deep" = some (.ref Ad.f_law_deep)
  k__law_deep : PySem.W.keepIn K (.ref Ad.f_law_deep) = true
  b__law_deep : Binds K Ad.d_law_deep ["form"] []
  F_Keep_words : FunZ K "words" "Keep.words" sKeep_words Ad.fKeep_words Ad.dKeep_words
  k_Keep_words : PySem.W.keepIn K (.ref Ad.fKeep_words) = true
  b_Keep_words : Binds K Ad.dKeep_words ["self"] []
  F_Nothing_words : FunZ K "words" "Nothing.words" sNothing_words Ad.fNothing_words Ad.dNothing_words
  k_Nothing_words : PySem.W.keepIn K (.ref Ad.fNothing_words) = true
  b_Nothing_words : Binds K Ad.dNothing_words ["self"] []
  F_Everything_words : FunZ K "words" "Everything.words" sEverything_words Ad.fEverything_words Ad.dEverything_words
  k_Everything_words : PySem.W.keepIn K (.ref Ad.fEverything_words) = true
  b_Everything_words : Binds K Ad.dEverything_words ["self"] []
  F_step_words : FunZ K "step_words" "step_words" sstep_words Ad.fstep_words Ad.dstep_words
  g_step_words : mg "step_words" = some (.ref Ad.fstep_words)
  k_step_words : PySem.W.keepIn K (.ref Ad.fstep_words) = true
  b_step_words : Binds K Ad.dstep_words ["steps"] []
  F_Move_words : FunZ K "words" "Move.words" sMove_words Ad.fMove_words Ad.dMove_words
  k_Move_words : PySem.W.keepIn K (.ref Ad.fMove_words) = true
  b_Move_words : Binds K Ad.dMove_words ["self"] []
  F_Eat_words : FunZ K "words" "Eat.words" sEat_words Ad.fEat_words Ad.dEat_words
  k_Eat_words : PySem.W.keepIn K (.ref Ad.fEat_words) = true
  b_Eat_words : Binds K Ad.dEat_words ["self"] []
  F_Grow_words : FunZ K "words" "Grow.words" sGrow_words Ad.fGrow_words Ad.dGrow_words
  k_Grow_words : PySem.W.keepIn K (.ref Ad.fGrow_words) = true
  b_Grow_words : Binds K Ad.dGrow_words ["self"] []
  F_Both_words : FunZ K "words" "Both.words" sBoth_words Ad.fBoth_words Ad.dBoth_words
  k_Both_words : PySem.W.keepIn K (.ref Ad.fBoth_words) = true
  b_Both_words : Binds K Ad.dBoth_words ["self"] []
  F_Either_words : FunZ K "words" "Either.words" sEither_words Ad.fEither_words Ad.dEither_words
  k_Either_words : PySem.W.keepIn K (.ref Ad.fEither_words) = true
  b_Either_words : Binds K Ad.dEither_words ["self"] []
  F__law_words : FunZ K "_law_words" "_law_words" s_law_words Ad.f_law_words Ad.d_law_words
  g__law_words : mg "_law_words" = some (.ref Ad.f_law_words)
  k__law_words : PySem.W.keepIn K (.ref Ad.f_law_words) = true
  b__law_words : Binds K Ad.d_law_words ["form"] []
  F__law_same : FunZ K "_law_same" "_law_same" s_law_same Ad.f_law_same Ad.d_law_same
  g__law_same : mg "_law_same" = some (.ref Ad.f_law_same)
  k__law_same : PySem.W.keepIn K (.ref Ad.f_law_same) = true
  b__law_same : Binds K Ad.d_law_same ["found", "due"] []
  F__law_good : FunZ K "_law_good" "_law_good" s_law_good Ad.f_law_good Ad.d_law_good
  g__law_good : mg "_law_good" = some (.ref Ad.f_law_good)
  k__law_good : PySem.W.keepIn K (.ref Ad.f_law_good) = true
  b__law_good : Binds K Ad.d_law_good ["found", "form"] []
  F_Plan_made : FunZ K "made" "Plan.made" sPlan_made Ad.fPlan_made Ad.dPlan_made
  k_Plan_made : PySem.W.keepIn K (.ref Ad.fPlan_made) = true
  b_Plan_made : Binds K Ad.dPlan_made ["self", "shape"] []
  F_Nothing_made : FunZ K "made" "Nothing.made" sNothing_made Ad.fNothing_made Ad.dNothing_made
  k_Nothing_made : PySem.W.keepIn K (.ref Ad.fNothing_made) = true
  b_Nothing_made : Binds K Ad.dNothing_made ["self", "shape"] []
  F_Everything_made : FunZ K "made" "Everything.made" sEverything_made Ad.fEverything_made Ad.dEverything_made
  k_Everything_made : PySem.W.keepIn K (.ref Ad.fEverything_made) = true
  b_Everything_made : Binds K Ad.dEverything_made ["self", "shape"] []
  F_moved_cell : FunZ K "moved_cell" "moved_cell" smoved_cell Ad.fmoved_cell Ad.dmoved_cell
  g_moved_cell : mg "moved_cell" = some (.ref Ad.fmoved_cell)
  k_moved_cell : PySem.W.keepIn K (.ref Ad.fmoved_cell) = true
  b_moved_cell : Binds K Ad.dmoved_cell ["cell", "step"] []
  F_moved : FunZ K "moved" "moved" smoved Ad.fmoved Ad.dmoved
  g_moved : mg "moved" = some (.ref Ad.fmoved)
  k_moved : PySem.W.keepIn K (.ref Ad.fmoved) = true
  b_moved : Binds K Ad.dmoved ["shape", "step"] []
  F_Move_made : FunZ K "made" "Move.made" sMove_made Ad.fMove_made Ad.dMove_made
  k_Move_made : PySem.W.keepIn K (.ref Ad.fMove_made) = true
  b_Move_made : Binds K Ad.dMove_made ["self", "shape"] []
  F_rising : FunZ K "rising" "rising" srising Ad.frising Ad.drising
  g_rising : mg "rising" = some (.ref Ad.frising)
  k_rising : PySem.W.keepIn K (.ref Ad.frising) = true
  b_rising : Binds K Ad.drising ["cells"] []
  F_mirrored : FunZ K "mirrored" "mirrored" smirrored Ad.fmirrored Ad.dmirrored
  g_mirrored : mg "mirrored" = some (.ref Ad.fmirrored)
  k_mirrored : PySem.W.keepIn K (.ref Ad.fmirrored) = true
  b_mirrored : Binds K Ad.dmirrored ["piece"] []
  F_lies_on : FunZ K "lies_on" "lies_on" slies_on Ad.flies_on Ad.dlies_on
  g_lies_on : mg "lies_on" = some (.ref Ad.flies_on)
  k_lies_on : PySem.W.keepIn K (.ref Ad.flies_on) = true
  b_lies_on : Binds K Ad.dlies_on ["piece", "cell"] []
  F_reached : FunZ K "reached" "reached" sreached Ad.freached Ad.dreached
  g_reached : mg "reached" = some (.ref Ad.freached)
  k_reached : PySem.W.keepIn K (.ref Ad.freached) = true
  b_reached : Binds K Ad.dreached ["cells", "piece"] []
  F_less_cell : FunZ K "less_cell" "less_cell" sless_cell Ad.fless_cell Ad.dless_cell
  g_less_cell : mg "less_cell" = some (.ref Ad.fless_cell)
  k_less_cell : PySem.W.keepIn K (.ref Ad.fless_cell) = true
  b_less_cell : Binds K Ad.dless_cell ["cell", "step"] []
  F_kept_at : FunZ K "kept_at" "kept_at" skept_at Ad.fkept_at Ad.dkept_at
  g_kept_at : mg "kept_at" = some (.ref Ad.fkept_at)
  k_kept_at : PySem.W.keepIn K (.ref Ad.fkept_at) = true
  b_kept_at : Binds K Ad.dkept_at ["cells", "piece"] []
  F_eaten : FunZ K "eaten" "eaten" seaten Ad.featen Ad.deaten
  g_eaten : mg "eaten" = some (.ref Ad.featen)
  k_eaten : PySem.W.keepIn K (.ref Ad.featen) = true
  b_eaten : Binds K Ad.deaten ["shape", "piece"] []
  F_Eat_made : FunZ K "made" "Eat.made" sEat_made Ad.fEat_made Ad.dEat_made
  k_Eat_made : PySem.W.keepIn K (.ref Ad.fEat_made) = true
  b_Eat_made : Binds K Ad.dEat_made ["self", "shape"] []
  F_grown : FunZ K "grown" "grown" sgrown Ad.fgrown Ad.dgrown
  g_grown : mg "grown" = some (.ref Ad.fgrown)
  k_grown : PySem.W.keepIn K (.ref Ad.fgrown) = true
  b_grown : Binds K Ad.dgrown ["shape", "piece"] []
  F_Grow_made : FunZ K "made" "Grow.made" sGrow_made Ad.fGrow_made Ad.dGrow_made
  k_Grow_made : PySem.W.keepIn K (.ref Ad.fGrow_made) = true
  b_Grow_made : Binds K Ad.dGrow_made ["self", "shape"] []
  F_only_in : FunZ K "only_in" "only_in" sonly_in Ad.fonly_in Ad.donly_in
  g_only_in : mg "only_in" = some (.ref Ad.fonly_in)
  k_only_in : PySem.W.keepIn K (.ref Ad.fonly_in) = true
  b_only_in : Binds K Ad.donly_in ["one", "other"] []
  F_both : FunZ K "both" "both" sboth Ad.fboth Ad.dboth
  g_both : mg "both" = some (.ref Ad.fboth)
  k_both : PySem.W.keepIn K (.ref Ad.fboth) = true
  b_both : Binds K Ad.dboth ["one", "other"] []
  F_Both_made : FunZ K "made" "Both.made" sBoth_made Ad.fBoth_made Ad.dBoth_made
  k_Both_made : PySem.W.keepIn K (.ref Ad.fBoth_made) = true
  b_Both_made : Binds K Ad.dBoth_made ["self", "shape"] []
  F_outside : FunZ K "outside" "outside" soutside Ad.foutside Ad.doutside
  g_outside : mg "outside" = some (.ref Ad.foutside)
  k_outside : PySem.W.keepIn K (.ref Ad.foutside) = true
  b_outside : Binds K Ad.doutside ["shape"] []
  F_either : FunZ K "either" "either" seither Ad.feither Ad.deither
  g_either : mg "either" = some (.ref Ad.feither)
  k_either : PySem.W.keepIn K (.ref Ad.feither) = true
  b_either : Binds K Ad.deither ["one", "other"] []
  F_Either_made : FunZ K "made" "Either.made" sEither_made Ad.fEither_made Ad.dEither_made
  k_Either_made : PySem.W.keepIn K (.ref Ad.fEither_made) = true
  b_Either_made : Binds K Ad.dEither_made ["self", "shape"] []
  F_Plan_done : FunZ K "done" "Plan.done" sPlan_done Ad.fPlan_done Ad.dPlan_done
  k_Plan_done : PySem.W.keepIn K (.ref Ad.fPlan_done) = true
  b_Plan_done : Binds K Ad.dPlan_done ["self", "shape"] []
  F__law_done : FunZ K "_law_done" "_law_done" s_law_done Ad.f_law_done Ad.d_law_done
  g__law_done : mg "_law_done" = some (.ref Ad.f_law_done)
  k__law_done : PySem.W.keepIn K (.ref Ad.f_law_done) = true
  b__law_done : Binds K Ad.d_law_done ["plan", "shape"] []
  F__law_behind : FunZ K "_law_behind" "_law_behind" s_law_behind Ad.f_law_behind Ad.d_law_behind
  g__law_behind : mg "_law_behind" = some (.ref Ad.f_law_behind)
  k__law_behind : PySem.W.keepIn K (.ref Ad.f_law_behind) = true
  b__law_behind : Binds K Ad.d_law_behind ["one", "other", "chained", "shape"] []
  F_opening : FunZ K "opening" "opening" sopening Ad.fopening Ad.dopening
  g_opening : mg "opening" = some (.ref Ad.fopening)
  k_opening : PySem.W.keepIn K (.ref Ad.fopening) = true
  b_opening : Binds K Ad.dopening ["piece", "plan"] []
  F_closing : FunZ K "closing" "closing" sclosing Ad.fclosing Ad.dclosing
  g_closing : mg "closing" = some (.ref Ad.fclosing)
  k_closing : PySem.W.keepIn K (.ref Ad.fclosing) = true
  b_closing : Binds K Ad.dclosing ["piece", "plan"] []
  F_law : FunZ K "law" "law" slaw Ad.flaw Ad.dlaw
  g_law : mg "law" = some (.ref Ad.flaw)
  k_law : PySem.W.keepIn K (.ref Ad.flaw) = true
  b_law : Binds K Ad.dlaw ["script"] []
  F_Move___init__ : Fun K "__init__" "Move.__init__" sMove___init__ Ad.fMove___init__ Ad.dMove___init__
  k_Move___init__ : PySem.W.keepIn K (.ref Ad.fMove___init__) = true
  b_Move___init__ : Binds K Ad.dMove___init__ ["self", "step", "plan"] []
  F_Eat___init__ : Fun K "__init__" "Eat.__init__" sEat___init__ Ad.fEat___init__ Ad.dEat___init__
  k_Eat___init__ : PySem.W.keepIn K (.ref Ad.fEat___init__) = true
  b_Eat___init__ : Binds K Ad.dEat___init__ ["self", "piece", "plan"] []
  F_Grow___init__ : Fun K "__init__" "Grow.__init__" sGrow___init__ Ad.fGrow___init__ Ad.dGrow___init__
  k_Grow___init__ : PySem.W.keepIn K (.ref Ad.fGrow___init__) = true
  b_Grow___init__ : Binds K Ad.dGrow___init__ ["self", "piece", "plan"] []
  F_Both___init__ : Fun K "__init__" "Both.__init__" sBoth___init__ Ad.fBoth___init__ Ad.dBoth___init__
  k_Both___init__ : PySem.W.keepIn K (.ref Ad.fBoth___init__) = true
  b_Both___init__ : Binds K Ad.dBoth___init__ ["self", "one", "other"] []
  F_Either___init__ : Fun K "__init__" "Either.__init__" sEither___init__ Ad.fEither___init__ Ad.dEither___init__
  k_Either___init__ : PySem.W.keepIn K (.ref Ad.fEither___init__) = true
  b_Either___init__ : Binds K Ad.dEither___init__ ["self", "one", "other"] []
  n_ValueError : mg "ValueError" = none
  n_all : mg "all" = none
  n_bool : mg "bool" = none
  n_int : mg "int" = none
  n_isinstance : mg "isinstance" = none
  n_len : mg "len" = none
  n_list : mg "list" = none
  n_max : mg "max" = none
  n_min : mg "min" = none
  n_range : mg "range" = none
  n_set : mg "set" = none
  n_sorted : mg "sorted" = none
  n_str : mg "str" = none
  n_sum : mg "sum" = none
  n_tuple : mg "tuple" = none
  n_zip : mg "zip" = none
  c_DEEPEST : ∃ t, mg "DEEPEST" = some (.int 12 t)
  c_MOST_MADE : ∃ t, mg "MOST_MADE" = some (.int 2000 t)
  c_MOST_PLANS : ∃ t, mg "MOST_PLANS" = some (.int 40 t)
section
variable {P : Program} {w : World} {K : PySem.W.Frag} {mg : Str → Option Value} {base : Heap} {Ad : Adr}
theorem w_init_Move (T : Txt K mg Ad) : FnOk P w K mg base CX0 1 Ad.fMove___init__ Ad.dMove___init__ ["self", "step", "plan"] (SpIn Ad.c_Move "step" "plan") := by
  refine T.F_Move___init__.ok scMove___init__ (fun vs H Q E ⟨x, dx, v1, v2, e, _⟩ => by rw [e]; rfl) (fun cdv A outer s H vs Q E hr ⟨x, dx, v1, v2, e, hx, q⟩ => ?_)
  subst e
  refine ⟨_, pss_cons (ps_fld (pv 0) (pv 1) rfl) (pss_one (ps_fld (pv 0) (pv 2) rfl)), ?_⟩
  have ne : ¬ ("step" : Str) = "plan" := by decide +kernel
  refine ⟨_, rfl, _, rfl, x, Ad.c_Move, dx, [], rfl, hx, T.pl.cl _ _ (List.Mem.tail _ (List.Mem.tail _ (List.Mem.tail _ (List.Mem.head _)))), T.pl.nf _ _ _ (List.Mem.tail _ (List.Mem.tail _ (List.Mem.tail _ (List.Mem.head _)))) (by simp [PFs]), (by decide), _, rfl, _, rfl, x, Ad.c_Move, dx, _, rfl, upd_same, T.pl.cl _ _ (List.Mem.tail _ (List.Mem.tail _ (List.Mem.tail _ (List.Mem.head _)))), T.pl.nf _ _ _ (List.Mem.tail _ (List.Mem.tail _ (List.Mem.tail _ (List.Mem.head _)))) (by simp [PFs]), (by show 1 < 1000; decide), ?_⟩
  rw [Py.upd_upd, putF_two ne]
  exact q
theorem w_init_Eat (T : Txt K mg Ad) : FnOk P w K mg base CX0 1 Ad.fEat___init__ Ad.dEat___init__ ["self", "piece", "plan"] (SpIn Ad.c_Eat "piece" "plan") := by
  refine T.F_Eat___init__.ok scEat___init__ (fun vs H Q E ⟨x, dx, v1, v2, e, _⟩ => by rw [e]; rfl) (fun cdv A outer s H vs Q E hr ⟨x, dx, v1, v2, e, hx, q⟩ => ?_)
  subst e
  refine ⟨_, pss_cons (ps_fld (pv 0) (pv 1) rfl) (pss_one (ps_fld (pv 0) (pv 2) rfl)), ?_⟩
  have ne : ¬ ("piece" : Str) = "plan" := by decide +kernel
  refine ⟨_, rfl, _, rfl, x, Ad.c_Eat, dx, [], rfl, hx, T.pl.cl _ _ (List.Mem.tail _ (List.Mem.tail _ (List.Mem.tail _ (List.Mem.tail _ (List.Mem.head _))))), T.pl.nf _ _ _ (List.Mem.tail _ (List.Mem.tail _ (List.Mem.tail _ (List.Mem.tail _ (List.Mem.head _))))) (by simp [PFs]), (by decide), _, rfl, _, rfl, x, Ad.c_Eat, dx, _, rfl, upd_same, T.pl.cl _ _ (List.Mem.tail _ (List.Mem.tail _ (List.Mem.tail _ (List.Mem.tail _ (List.Mem.head _))))), T.pl.nf _ _ _ (List.Mem.tail _ (List.Mem.tail _ (List.Mem.tail _ (List.Mem.tail _ (List.Mem.head _))))) (by simp [PFs]), (by show 1 < 1000; decide), ?_⟩
  rw [Py.upd_upd, putF_two ne]
  exact q
theorem w_init_Grow (T : Txt K mg Ad) : FnOk P w K mg base CX0 1 Ad.fGrow___init__ Ad.dGrow___init__ ["self", "piece", "plan"] (SpIn Ad.c_Grow "piece" "plan") := by
  refine T.F_Grow___init__.ok scGrow___init__ (fun vs H Q E ⟨x, dx, v1, v2, e, _⟩ => by rw [e]; rfl) (fun cdv A outer s H vs Q E hr ⟨x, dx, v1, v2, e, hx, q⟩ => ?_)
  subst e
  refine ⟨_, pss_cons (ps_fld (pv 0) (pv 1) rfl) (pss_one (ps_fld (pv 0) (pv 2) rfl)), ?_⟩
  have ne : ¬ ("piece" : Str) = "plan" := by decide +kernel
  refine ⟨_, rfl, _, rfl, x, Ad.c_Grow, dx, [], rfl, hx, T.pl.cl _ _ (List.Mem.tail _ (List.Mem.tail _ (List.Mem.tail _ (List.Mem.tail _ (List.Mem.tail _ (List.Mem.head _)))))), T.pl.nf _ _ _ (List.Mem.tail _ (List.Mem.tail _ (List.Mem.tail _ (List.Mem.tail _ (List.Mem.tail _ (List.Mem.head _)))))) (by simp [PFs]), (by decide), _, rfl, _, rfl, x, Ad.c_Grow, dx, _, rfl, upd_same, T.pl.cl _ _ (List.Mem.tail _ (List.Mem.tail _ (List.Mem.tail _ (List.Mem.tail _ (List.Mem.tail _ (List.Mem.head _)))))), T.pl.nf _ _ _ (List.Mem.tail _ (List.Mem.tail _ (List.Mem.tail _ (List.Mem.tail _ (List.Mem.tail _ (List.Mem.head _)))))) (by simp [PFs]), (by show 1 < 1000; decide), ?_⟩
  rw [Py.upd_upd, putF_two ne]
  exact q
theorem w_init_Both (T : Txt K mg Ad) : FnOk P w K mg base CX0 1 Ad.fBoth___init__ Ad.dBoth___init__ ["self", "one", "other"] (SpIn Ad.c_Both "one" "other") := by
  refine T.F_Both___init__.ok scBoth___init__ (fun vs H Q E ⟨x, dx, v1, v2, e, _⟩ => by rw [e]; rfl) (fun cdv A outer s H vs Q E hr ⟨x, dx, v1, v2, e, hx, q⟩ => ?_)
  subst e
  refine ⟨_, pss_cons (ps_fld (pv 0) (pv 1) rfl) (pss_one (ps_fld (pv 0) (pv 2) rfl)), ?_⟩
  have ne : ¬ ("one" : Str) = "other" := by decide +kernel
  refine ⟨_, rfl, _, rfl, x, Ad.c_Both, dx, [], rfl, hx, T.pl.cl _ _ (List.Mem.tail _ (List.Mem.tail _ (List.Mem.tail _ (List.Mem.tail _ (List.Mem.tail _ (List.Mem.tail _ (List.Mem.head _))))))), T.pl.nf _ _ _ (List.Mem.tail _ (List.Mem.tail _ (List.Mem.tail _ (List.Mem.tail _ (List.Mem.tail _ (List.Mem.tail _ (List.Mem.head _))))))) (by simp [PFs]), (by decide), _, rfl, _, rfl, x, Ad.c_Both, dx, _, rfl, upd_same, T.pl.cl _ _ (List.Mem.tail _ (List.Mem.tail _ (List.Mem.tail _ (List.Mem.tail _ (List.Mem.tail _ (List.Mem.tail _ (List.Mem.head _))))))), T.pl.nf _ _ _ (List.Mem.tail _ (List.Mem.tail _ (List.Mem.tail _ (List.Mem.tail _ (List.Mem.tail _ (List.Mem.tail _ (List.Mem.head _))))))) (by simp [PFs]), (by show 1 < 1000; decide), ?_⟩
  rw [Py.upd_upd, putF_two ne]
  exact q
theorem w_init_Either (T : Txt K mg Ad) : FnOk P w K mg base CX0 1 Ad.fEither___init__ Ad.dEither___init__ ["self", "one", "other"] (SpIn Ad.c_Either "one" "other") := by
  refine T.F_Either___init__.ok scEither___init__ (fun vs H Q E ⟨x, dx, v1, v2, e, _⟩ => by rw [e]; rfl) (fun cdv A outer s H vs Q E hr ⟨x, dx, v1, v2, e, hx, q⟩ => ?_)
  subst e
  refine ⟨_, pss_cons (ps_fld (pv 0) (pv 1) rfl) (pss_one (ps_fld (pv 0) (pv 2) rfl)), ?_⟩
  have ne : ¬ ("one" : Str) = "other" := by decide +kernel
  refine ⟨_, rfl, _, rfl, x, Ad.c_Either, dx, [], rfl, hx, T.pl.cl _ _ (List.Mem.tail _ (List.Mem.tail _ (List.Mem.tail _ (List.Mem.tail _ (List.Mem.tail _ (List.Mem.tail _ (List.Mem.tail _ (List.Mem.head _)))))))), T.pl.nf _ _ _ (List.Mem.tail _ (List.Mem.tail _ (List.Mem.tail _ (List.Mem.tail _ (List.Mem.tail _ (List.Mem.tail _ (List.Mem.tail _ (List.Mem.head _)))))))) (by simp [PFs]), (by decide), _, rfl, _, rfl, x, Ad.c_Either, dx, _, rfl, upd_same, T.pl.cl _ _ (List.Mem.tail _ (List.Mem.tail _ (List.Mem.tail _ (List.Mem.tail _ (List.Mem.tail _ (List.Mem.tail _ (List.Mem.tail _ (List.Mem.head _)))))))), T.pl.nf _ _ _ (List.Mem.tail _ (List.Mem.tail _ (List.Mem.tail _ (List.Mem.tail _ (List.Mem.tail _ (List.Mem.tail _ (List.Mem.tail _ (List.Mem.head _)))))))) (by simp [PFs]), (by show 1 < 1000; decide), ?_⟩
  rw [Py.upd_upd, putF_two ne]
  exact q
theorem w_law_deal (T : Txt K mg Ad) : FnOk P w K mg base (L2.CX P w) 1 Ad.f_law_deal Ad.d_law_deal ["cell", "many"] (SpP mg (tc rI (t1 rI)) rI (fun a => m_law_deal a.1 a.2)) :=
  have hnd := sc_law_deal.nd
  f_ok (fun a => [im rI a.1, im rI a.2, .any, .any, .any, .any]) T.F__law_deal sc_law_deal (arc ar1) rfl (by decide) (fun _ => rfl) (fun cdv A outer s H E hr tk hp a => SX.cv (
    (p_ifT (x_tcmp op_ge dIb (x_var 0 rfl) (x_powC 1000000000000000000)) (p_retf [] (fun _ => rfl) .nil (x_sub (x_var 0 rfl) (x_powC 1000000000000000000))) (p_set 2 hnd x_int (fun number_5110 => (p_set 3 hnd (x_add (x_modC (x_var 0 rfl)) x_int) (fun one_5111 => (p_for (vs := [4]) (fun (s : (Int × Int)) => [im rI a.1, im rI a.2, im rI s.1, im rI s.2, .any, .any]) _ (number_5110, one_5111) hp (i_range1 T.n_range (a_one (x_var 1 rfl))) (gt_name 4 (by decide) hnd) (fun s_5112 x_5113 => (p_set 3 hnd (x_modC (x_add (x_add (x_mulC (x_var 3 rfl)) (x_mul (x_mulCl (x_var 4 rfl)) (x_var 4 rfl))) x_int)) (fun one_5117 => (p_set 5 hnd (x_modC (x_mul (x_var 3 rfl) (x_var 3 rfl))) (fun two_5119 => (p_set 2 hnd (x_add (x_mulC (x_var 2 rfl)) (x_modC (x_fdivC (x_var 5 rfl)))) (fun number_5120 => (s_go (o := (number_5120, one_5117)) rfl (.cons .rfl (.cons .rfl (.cons .rfl (.cons .rfl (.cons .any (.cons .any .nil)))))))))))))) (.cons .rfl (.cons .rfl (.cons .rfl (.cons .rfl (.cons .any (.cons .any .nil)))))) (fun s_5121 => (p_retf [] (fun _ => rfl) .nil (x_var 2 rfl)))))))))) (by unfold m_law_deal; simp only [ok_bindP, ok_calmP, chk_calmP, opt_calmP, R.bind_pure, R.bind_assoc] <;> rfl))
theorem w_law_take (T : Txt K mg Ad) : FnOk P w K mg base (L2.CX P w) 1 Ad.f_law_take Ad.d_law_take ["pot", "many"] (SpM rI (t1 rI) rI (fun l a => m_law_take l a)) :=
  have hnd := sc_law_take.nd
  f_okM (fun p l a => [.own (some p) (oLi (tl rI) l), im rI a, .any]) T.F__law_take sc_law_take ar1 rfl (by decide) (fun _ _ _ => rfl) (fun cdv A outer s H E hr tk hp p l a => SX.cv (
    (p_set 2 hnd (x_mod (x_ixO 0 rfl x_int) (x_var 1 rfl)) (fun digit_5130 => (s_st0 0 (x_fdiv (x_ixO 0 rfl x_int) (x_var 1 rfl)) (fun v_5132 => (p_ret (fun w => (w, (l.set 0 v_5132))) [.own (some p) (oLi (tl rI) (l.set 0 v_5132))] (fun _ => rfl) (.cons .rfl .nil) (x_var 2 rfl))))))) (by unfold m_law_take; simp only [ok_bindP, ok_calmP, chk_calmP, opt_calmP, R.bind_pure, R.bind_assoc] <;> rfl))
theorem w_law_step (T : Txt K mg Ad) : FnOk P w K mg base (L2.CX P w) 2 Ad.f_law_step Ad.d_law_step ["pot"] (SpM rI t0 rC (fun l a => m_law_step l )) :=
  have hnd := sc_law_step.nd
  f_okM (fun p l a => [.own (some p) (oLi (tl rI) l), .any, .any]) T.F__law_step sc_law_step ar0 rfl (by decide) (fun _ _ _ => rfl) (fun cdv A outer s H E hr tk hp p l a => SX.cv (
    (p_setS (Γs := fun s => [.own (some p) (oLi (tl rI) s), .any, .any]) (s := l) 1 hnd (es_ix (Γs := fun s => [.own (some p) (oLi (tl rI) s), .any, .any]) (s := l) ix_list dIxL (es_of (Γs := fun s => [.own (some p) (oLi (tl rI) s), .any, .any]) (s := l) (x_frzE (f_listN (k := 4) (ln_cons x_int (ln_cons x_int (ln_cons x_int (ln_cons (x_powC 1000000) ln_nil))))))) (fun s_5153 => (es_callM (Γs := fun s => [.own (some p) (oLi (tl rI) s), .any, .any]) (s := s_5153) 0 (fun s => s) (fun _ l => l) (w_law_take T) (hr.mono (by decide)) T.g__law_take T.k__law_take T.b__law_take tk (as_one (Γs := fun s => [.own (some p) (oLi (tl rI) s), .any, .any]) (s := s_5153) (es_of (Γs := fun s => [.own (some p) (oLi (tl rI) s), .any, .any]) (s := s_5153) x_int)) (fun _ => rfl) (fun _ _ => rfl)))) (fun far_5144 => (p_setS (Γs := fun s => [.own (some p) (oLi (tl rI) s), im rI far_5144.1, .any]) (s := far_5144.2) 2 hnd (es_bin (Γs := fun s => [.own (some p) (oLi (tl rI) s), im rI far_5144.1, .any]) (s := far_5144.2) op_sub (dI0 (f := fun i j => i - j)) (es_callM (Γs := fun s => [.own (some p) (oLi (tl rI) s), im rI far_5144.1, .any]) (s := far_5144.2) 0 (fun s => s) (fun _ l => l) (w_law_take T) (hr.mono (by decide)) T.g__law_take T.k__law_take T.b__law_take tk (as_one (Γs := fun s => [.own (some p) (oLi (tl rI) s), im rI far_5144.1, .any]) (s := far_5144.2) (es_of (Γs := fun s => [.own (some p) (oLi (tl rI) s), im rI far_5144.1, .any]) (s := far_5144.2) (x_add (x_mulCl (x_var 1 rfl)) x_int))) (fun _ => rfl) (fun _ _ => rfl)) (fun s_5150 => (es_of (Γs := fun s => [.own (some p) (oLi (tl rI) s), im rI far_5144.1, .any]) (s := s_5150) (x_var 1 rfl)))) (fun row_5145 => (p_retS (Γs := fun s => [.own (some p) (oLi (tl rI) s), im rI far_5144.1, im rI row_5145.1]) (s := row_5145.2) (fun w => (w.1, w.2)) (fun w => [.own (some p) (oLi (tl rI) w.2)]) (fun _ => rfl) (fun _ => .cons .rfl .nil) (es_tup (Γs := fun s => [.own (some p) (oLi (tl rI) s), im rI far_5144.1, im rI row_5145.1]) (s := row_5145.2) (as_cons (Γs := fun s => [.own (some p) (oLi (tl rI) s), im rI far_5144.1, im rI row_5145.1]) (s := row_5145.2) (es_of (Γs := fun s => [.own (some p) (oLi (tl rI) s), im rI far_5144.1, im rI row_5145.1]) (s := row_5145.2) (x_var 2 rfl)) (fun s_5147 => (as_one (Γs := fun s => [.own (some p) (oLi (tl rI) s), im rI far_5144.1, im rI row_5145.1]) (s := s_5147) (es_bin (Γs := fun s => [.own (some p) (oLi (tl rI) s), im rI far_5144.1, im rI row_5145.1]) (s := s_5147) op_sub (dI0 (f := fun i j => i - j)) (es_callM (Γs := fun s => [.own (some p) (oLi (tl rI) s), im rI far_5144.1, im rI row_5145.1]) (s := s_5147) 0 (fun s => s) (fun _ l => l) (w_law_take T) (hr.mono (by decide)) T.g__law_take T.k__law_take T.b__law_take tk (as_one (Γs := fun s => [.own (some p) (oLi (tl rI) s), im rI far_5144.1, im rI row_5145.1]) (s := s_5147) (es_of (Γs := fun s => [.own (some p) (oLi (tl rI) s), im rI far_5144.1, im rI row_5145.1]) (s := s_5147) (x_add (x_mulCl (x_var 1 rfl)) x_int))) (fun _ => rfl) (fun _ _ => rfl)) (fun s_5148 => (es_of (Γs := fun s => [.own (some p) (oLi (tl rI) s), im rI far_5144.1, im rI row_5145.1]) (s := s_5148) (x_var 1 rfl))))))) (fun _ _ _ h => sz ((nc (fun _ _ _ h => n1 h)) h) (by decide))))))))) (by unfold m_law_step; simp only [ok_bindP, ok_calmP, chk_calmP, opt_calmP, R.bind_pure, R.bind_assoc] <;> rfl))
theorem w_law_piece (T : Txt K mg Ad) : FnOk P w K mg base (L2.CX P w) 3 Ad.f_law_piece Ad.d_law_piece ["pot", "most"] (SpM rI (t1 rI) (rT rC) (fun l a => m_law_piece l a)) :=
  have hnd := sc_law_piece.nd
  f_okM (fun p l a => [.own (some p) (oLi (tl rI) l), im rI a, .any, .any]) T.F__law_piece sc_law_piece ar1 rfl (by decide) (fun _ _ _ => rfl) (fun cdv A outer s H E hr tk hp p l a => SX.cv (
    (p_own 2 hnd (f_nil (ρ := rC)) (fun steps_5178 => (p_forSt (Γs := fun s => [.own (some p) (oLi (tl rI) s), im rI a, .own none (oLi (tl rC) steps_5178), .any]) (vs := [3]) (fun (s : ((List Int) × (List (Int × Int)))) => [.own (some p) (oLi (tl rI) s.1), im rI a, .own none (oLi (tl rC) s.2), .any]) _ (fun s_5186 => (s_5186, steps_5178)) hp (i_range1S (Γs := fun s => [.own (some p) (oLi (tl rI) s), im rI a, .own none (oLi (tl rC) steps_5178), .any]) (s := l) T.n_range (as_one (Γs := fun s => [.own (some p) (oLi (tl rI) s), im rI a, .own none (oLi (tl rC) steps_5178), .any]) (s := l) (es_bin (Γs := fun s => [.own (some p) (oLi (tl rI) s), im rI a, .own none (oLi (tl rC) steps_5178), .any]) (s := l) op_add (dI0 (f := fun i j => i + j)) (es_of (Γs := fun s => [.own (some p) (oLi (tl rI) s), im rI a, .own none (oLi (tl rC) steps_5178), .any]) (s := l) x_int) (fun s_5187 => (es_callM (Γs := fun s => [.own (some p) (oLi (tl rI) s), im rI a, .own none (oLi (tl rC) steps_5178), .any]) (s := s_5187) 0 (fun s => s) (fun _ l => l) (w_law_take T) (hr.mono (by decide)) T.g__law_take T.k__law_take T.b__law_take tk (as_one (Γs := fun s => [.own (some p) (oLi (tl rI) s), im rI a, .own none (oLi (tl rC) steps_5178), .any]) (s := s_5187) (es_of (Γs := fun s => [.own (some p) (oLi (tl rI) s), im rI a, .own none (oLi (tl rC) steps_5178), .any]) (s := s_5187) (x_var 1 rfl))) (fun _ => rfl) (fun _ _ => rfl)))))) (gt_name 3 (by decide) hnd) (fun s_5179 x_5180 => (s_appendS (Γs := fun s => [.own (some p) (oLi (tl rI) s), im rI a, .own none (oLi (tl rC) s_5179.2), im rI x_5180]) (s := s_5179.1) 2 (es_callM (Γs := fun s => [.own (some p) (oLi (tl rI) s), im rI a, .own none (oLi (tl rC) s_5179.2), im rI x_5180]) (s := s_5179.1) 0 (fun s => s) (fun _ l => l) (w_law_step T) (hr.mono (by decide)) T.g__law_step T.k__law_step T.b__law_step tk (as_nil (Γs := fun s => [.own (some p) (oLi (tl rI) s), im rI a, .own none (oLi (tl rC) s_5179.2), im rI x_5180]) (s := s_5179.1)) (fun _ => rfl) (fun _ _ => rfl)) (fun w_5181 => (s_go (o := (w_5181.2, (s_5179.2 ++ [w_5181.1]))) rfl (.cons .rfl (.cons .rfl (.cons .rfl (.cons .any .nil)))))))) (fun _ => (.cons .rfl (.cons .rfl (.cons .rfl (.cons .any .nil))))) (fun s_5182 => (s_give 2 rfl (p_ret (fun w => (w, s_5182.1)) [.own (some p) (oLi (tl rI) s_5182.1)] (fun _ => rfl) (.cons .rfl .nil) (x_callTy call_tuple_of dTupL T.n_tuple (by decide +kernel) (a_one (x_frzE (f_sortset T.n_sorted (x_setL (u64 hr) T.n_set (x_var 2 rfl))))))))))))) (by unfold m_law_piece; simp only [ok_bindP, ok_calmP, chk_calmP, opt_calmP, R.bind_pure, R.bind_assoc] <;> rfl))
theorem w_law_chain (T : Txt K mg Ad) : FnOk P w K mg base (L2.CX P w) 4 Ad.f_law_chain Ad.d_law_chain ["pot", "many"] (SpM rI (t1 rI) rY (fun l a => m_law_chain l a)) :=
  have hnd := sc_law_chain.nd
  f_okM (fun p l a => [.own (some p) (oLi (tl rI) l), im rI a, .any, .any, .any]) T.F__law_chain sc_law_chain ar1 rfl (by decide) (fun _ _ _ => rfl) (fun cdv A outer s H E hr tk hp p l a => SX.cv (
    (p_set 2 hnd (x_cv (cvY (yTu (y1 yS))) (x_tup (a_one x_str) (fun _ _ _ h => sz (n1 h) (by decide)))) (fun form_5197 => (p_for (vs := [3]) (fun (s : ((List Int) × Dy)) => [.own (some p) (oLi (tl rI) s.1), im rI a, im rY s.2, .any, .any]) _ (l, form_5197) hp (i_range1 T.n_range (a_one (x_var 1 rfl))) (gt_name 3 (by decide) hnd) (fun s_5198 x_5199 => (p_setS (Γs := fun s => [.own (some p) (oLi (tl rI) s), im rI a, im rY s_5198.2, im rI x_5199, .any]) (s := s_5198.1) 4 hnd (es_callM (Γs := fun s => [.own (some p) (oLi (tl rI) s), im rI a, im rY s_5198.2, im rI x_5199, .any]) (s := s_5198.1) 0 (fun s => s) (fun _ l => l) (w_law_take T) (hr.mono (by decide)) T.g__law_take T.k__law_take T.b__law_take tk (as_one (Γs := fun s => [.own (some p) (oLi (tl rI) s), im rI a, im rY s_5198.2, im rI x_5199, .any]) (s := s_5198.1) (es_of (Γs := fun s => [.own (some p) (oLi (tl rI) s), im rI a, im rY s_5198.2, im rI x_5199, .any]) (s := s_5198.1) x_int)) (fun _ => rfl) (fun _ _ => rfl)) (fun way_5200 => (p_if2 (x_tcmp op_eq dEqI (x_var 4 rfl) x_int) (p_setS (Γs := fun s => [.own (some p) (oLi (tl rI) s), im rI a, im rY s_5198.2, im rI x_5199, im rI way_5200.1]) (s := way_5200.2) 2 hnd (es_map (π := rY) (fun x => Dy.tup [Dy.str x.1, (fun x => Dy.tup [Dy.int x.1, Dy.int x.2]) x.2.1, (fun d => d) x.2.2]) (yTu (yc yS (yc (yTu (yc yI (y1 yI))) (y1 yY)))).out (es_tup (Γs := fun s => [.own (some p) (oLi (tl rI) s), im rI a, im rY s_5198.2, im rI x_5199, im rI way_5200.1]) (s := way_5200.2) (as_cons (Γs := fun s => [.own (some p) (oLi (tl rI) s), im rI a, im rY s_5198.2, im rI x_5199, im rI way_5200.1]) (s := way_5200.2) (es_of (Γs := fun s => [.own (some p) (oLi (tl rI) s), im rI a, im rY s_5198.2, im rI x_5199, im rI way_5200.1]) (s := way_5200.2) x_str) (fun s_5203 => (as_cons (Γs := fun s => [.own (some p) (oLi (tl rI) s), im rI a, im rY s_5198.2, im rI x_5199, im rI way_5200.1]) (s := s_5203) (es_callM (Γs := fun s => [.own (some p) (oLi (tl rI) s), im rI a, im rY s_5198.2, im rI x_5199, im rI way_5200.1]) (s := s_5203) 0 (fun s => s) (fun _ l => l) (w_law_step T) (hr.mono (by decide)) T.g__law_step T.k__law_step T.b__law_step tk (as_nil (Γs := fun s => [.own (some p) (oLi (tl rI) s), im rI a, im rY s_5198.2, im rI x_5199, im rI way_5200.1]) (s := s_5203)) (fun _ => rfl) (fun _ _ => rfl)) (fun s_5204 => (as_one (Γs := fun s => [.own (some p) (oLi (tl rI) s), im rI a, im rY s_5198.2, im rI x_5199, im rI way_5200.1]) (s := s_5204) (es_of (Γs := fun s => [.own (some p) (oLi (tl rI) s), im rI a, im rY s_5198.2, im rI x_5199, im rI way_5200.1]) (s := s_5204) (x_var 2 rfl))))))) (fun _ _ _ h => sz ((nc (fun _ _ _ h => (nc (fun _ _ _ h => n1 h)) h)) h) (by decide)))) (fun form_5201 => (s_go (o := (form_5201.2, form_5201.1)) rfl (.cons .rfl (.cons .rfl (.cons .rfl (.cons .any (.cons .any .nil)))))))) (p_setS (Γs := fun s => [.own (some p) (oLi (tl rI) s), im rI a, im rY s_5198.2, im rI x_5199, im rI way_5200.1]) (s := way_5200.2) 2 hnd (es_map (π := rY) (fun x => Dy.tup [Dy.str x.1, (fun xs => Dy.tup (List.map (fun x => Dy.tup [Dy.int x.1, Dy.int x.2]) xs)) x.2.1, (fun d => d) x.2.2]) (yTu (yc yS (yc (yT (yTu (yc yI (y1 yI)))) (y1 yY)))).out (es_tup (Γs := fun s => [.own (some p) (oLi (tl rI) s), im rI a, im rY s_5198.2, im rI x_5199, im rI way_5200.1]) (s := way_5200.2) (as_cons (Γs := fun s => [.own (some p) (oLi (tl rI) s), im rI a, im rY s_5198.2, im rI x_5199, im rI way_5200.1]) (s := way_5200.2) (es_of (Γs := fun s => [.own (some p) (oLi (tl rI) s), im rI a, im rY s_5198.2, im rI x_5199, im rI way_5200.1]) (s := way_5200.2) (x_ixL (x_frzE (f_listN (k := 2) (ln_cons x_str (ln_cons x_str ln_nil)))) (x_sub (x_var 4 rfl) x_int))) (fun s_5208 => (as_cons (Γs := fun s => [.own (some p) (oLi (tl rI) s), im rI a, im rY s_5198.2, im rI x_5199, im rI way_5200.1]) (s := s_5208) (es_callM (Γs := fun s => [.own (some p) (oLi (tl rI) s), im rI a, im rY s_5198.2, im rI x_5199, im rI way_5200.1]) (s := s_5208) 0 (fun s => s) (fun _ l => l) (w_law_piece T) (hr.mono (by decide)) T.g__law_piece T.k__law_piece T.b__law_piece tk (as_one (Γs := fun s => [.own (some p) (oLi (tl rI) s), im rI a, im rY s_5198.2, im rI x_5199, im rI way_5200.1]) (s := s_5208) (es_of (Γs := fun s => [.own (some p) (oLi (tl rI) s), im rI a, im rY s_5198.2, im rI x_5199, im rI way_5200.1]) (s := s_5208) x_int)) (fun _ => rfl) (fun _ _ => rfl)) (fun s_5209 => (as_one (Γs := fun s => [.own (some p) (oLi (tl rI) s), im rI a, im rY s_5198.2, im rI x_5199, im rI way_5200.1]) (s := s_5209) (es_of (Γs := fun s => [.own (some p) (oLi (tl rI) s), im rI a, im rY s_5198.2, im rI x_5199, im rI way_5200.1]) (s := s_5209) (x_var 2 rfl))))))) (fun _ _ _ h => sz ((nc (fun _ _ _ h => (nc (fun _ _ _ h => n1 h)) h)) h) (by decide)))) (fun form_5205 => (s_go (o := (form_5205.2, form_5205.1)) rfl (.cons .rfl (.cons .rfl (.cons .rfl (.cons .any (.cons .any .nil)))))))))))) (.cons .rfl (.cons .rfl (.cons .rfl (.cons .any (.cons .any .nil))))) (fun s_5210 => (p_ret (fun w => (w, s_5210.1)) [.own (some p) (oLi (tl rI) s_5210.1)] (fun _ => rfl) (.cons .rfl .nil) (x_var 2 rfl))))))) (by unfold m_law_chain; simp only [ok_bindP, ok_calmP, chk_calmP, opt_calmP, R.bind_pure, R.bind_assoc] <;> rfl))
theorem w_law_tree (T : Txt K mg Ad) (fu : Nat) : FnOk P w K mg base (L2.CX P w) (3 + fu) Ad.f_law_tree Ad.d_law_tree ["pot", "many"] (SpM rI (t1 rI) rY (fun l a => m_law_tree fu l a)) := by
  have hnd := sc_law_tree.nd
  induction fu with
  | zero => exact f_okM (fun p l a => [.own (some p) (oLi (tl rI) l), im rI a, .any]) T.F__law_tree sc_law_tree ar1 rfl (by decide) (fun _ _ _ => rfl) (fun cdv A outer s H E hr tk hp p l a => SX.cv (s_bad) (by simp only [m_law_tree]))
  | succ fu ih => exact f_okM (fun p l a => [.own (some p) (oLi (tl rI) l), im rI a, .any]) T.F__law_tree sc_law_tree ar1 rfl (by decide) (fun _ _ _ => rfl) (fun cdv A outer s H E hr tk hp p l a => SX.cv (
    (p_ifT (x_tcmp op_eq dEqI (x_var 1 rfl) x_int) (p_retS (Γs := fun s => [.own (some p) (oLi (tl rI) s), im rI a, .any]) (s := l) (fun w => (w.1, w.2)) (fun w => [.own (some p) (oLi (tl rI) w.2)]) (fun _ => rfl) (fun _ => .cons .rfl .nil) (es_map (π := rY) (fun x => Dy.tup [Dy.str x]) (yTu (y1 yS)).out (es_ix (Γs := fun s => [.own (some p) (oLi (tl rI) s), im rI a, .any]) (s := l) ix_list dIxL (es_of (Γs := fun s => [.own (some p) (oLi (tl rI) s), im rI a, .any]) (s := l) (x_frzE (f_listN (k := 4) (ln_cons (x_tup (a_one x_str) (fun _ _ _ h => sz (n1 h) (by decide))) (ln_cons (x_tup (a_one x_str) (fun _ _ _ h => sz (n1 h) (by decide))) (ln_cons (x_tup (a_one x_str) (fun _ _ _ h => sz (n1 h) (by decide))) (ln_cons (x_tup (a_one x_str) (fun _ _ _ h => sz (n1 h) (by decide))) ln_nil))))))) (fun s_5243 => (es_callM (Γs := fun s => [.own (some p) (oLi (tl rI) s), im rI a, .any]) (s := s_5243) 0 (fun s => s) (fun _ l => l) (w_law_take T) (hr.mono (Nat.le_add_right_of_le (by decide))) T.g__law_take T.k__law_take T.b__law_take tk (as_one (Γs := fun s => [.own (some p) (oLi (tl rI) s), im rI a, .any]) (s := s_5243) (es_of (Γs := fun s => [.own (some p) (oLi (tl rI) s), im rI a, .any]) (s := s_5243) x_int)) (fun _ => rfl) (fun _ _ => rfl)))))) (p_ifT (x_tcmp op_eq dEqI (x_var 1 rfl) x_int) (p_retS (Γs := fun s => [.own (some p) (oLi (tl rI) s), im rI a, .any]) (s := l) (fun w => (w.1, w.2)) (fun w => [.own (some p) (oLi (tl rI) w.2)]) (fun _ => rfl) (fun _ => .cons .rfl .nil) (es_map (π := rY) (fun x => Dy.tup [Dy.str x.1, (fun x => Dy.tup [Dy.int x.1, Dy.int x.2]) x.2.1, (fun d => d) x.2.2]) (yTu (yc yS (yc (yTu (yc yI (y1 yI))) (y1 yY)))).out (es_tup (Γs := fun s => [.own (some p) (oLi (tl rI) s), im rI a, .any]) (s := l) (as_cons (Γs := fun s => [.own (some p) (oLi (tl rI) s), im rI a, .any]) (s := l) (es_of (Γs := fun s => [.own (some p) (oLi (tl rI) s), im rI a, .any]) (s := l) x_str) (fun s_5246 => (as_cons (Γs := fun s => [.own (some p) (oLi (tl rI) s), im rI a, .any]) (s := s_5246) (es_callM (Γs := fun s => [.own (some p) (oLi (tl rI) s), im rI a, .any]) (s := s_5246) 0 (fun s => s) (fun _ l => l) (w_law_step T) (hr.mono (Nat.le_add_right_of_le (by decide))) T.g__law_step T.k__law_step T.b__law_step tk (as_nil (Γs := fun s => [.own (some p) (oLi (tl rI) s), im rI a, .any]) (s := s_5246)) (fun _ => rfl) (fun _ _ => rfl)) (fun s_5247 => (as_one (Γs := fun s => [.own (some p) (oLi (tl rI) s), im rI a, .any]) (s := s_5247) (es_callM (Γs := fun s => [.own (some p) (oLi (tl rI) s), im rI a, .any]) (s := s_5247) 0 (fun s => s) (fun _ l => l) ih (hr.mono (Nat.le_refl _)) T.g__law_tree T.k__law_tree T.b__law_tree tk (as_one (Γs := fun s => [.own (some p) (oLi (tl rI) s), im rI a, .any]) (s := s_5247) (es_of (Γs := fun s => [.own (some p) (oLi (tl rI) s), im rI a, .any]) (s := s_5247) x_int)) (fun _ => rfl) (fun _ _ => rfl))))))) (fun _ _ _ h => sz ((nc (fun _ _ _ h => (nc (fun _ _ _ h => n1 h)) h)) h) (by decide))))) (p_setS (Γs := fun s => [.own (some p) (oLi (tl rI) s), im rI a, .any]) (s := l) 2 hnd (es_ix (Γs := fun s => [.own (some p) (oLi (tl rI) s), im rI a, .any]) (s := l) ix_list dIxL (es_of (Γs := fun s => [.own (some p) (oLi (tl rI) s), im rI a, .any]) (s := l) (x_frzE (f_listN (k := 2) (ln_cons x_str (ln_cons x_str ln_nil))))) (fun s_5255 => (es_callM (Γs := fun s => [.own (some p) (oLi (tl rI) s), im rI a, .any]) (s := s_5255) 0 (fun s => s) (fun _ l => l) (w_law_take T) (hr.mono (Nat.le_add_right_of_le (by decide))) T.g__law_take T.k__law_take T.b__law_take tk (as_one (Γs := fun s => [.own (some p) (oLi (tl rI) s), im rI a, .any]) (s := s_5255) (es_of (Γs := fun s => [.own (some p) (oLi (tl rI) s), im rI a, .any]) (s := s_5255) x_int)) (fun _ => rfl) (fun _ _ => rfl)))) (fun word_5248 => (p_retS (Γs := fun s => [.own (some p) (oLi (tl rI) s), im rI a, im rS word_5248.1]) (s := word_5248.2) (fun w => (w.1, w.2)) (fun w => [.own (some p) (oLi (tl rI) w.2)]) (fun _ => rfl) (fun _ => .cons .rfl .nil) (es_map (π := rY) (fun x => Dy.tup [Dy.str x.1, (fun d => d) x.2.1, (fun d => d) x.2.2]) (yTu (yc yS (yc yY (y1 yY)))).out (es_tup (Γs := fun s => [.own (some p) (oLi (tl rI) s), im rI a, im rS word_5248.1]) (s := word_5248.2) (as_cons (Γs := fun s => [.own (some p) (oLi (tl rI) s), im rI a, im rS word_5248.1]) (s := word_5248.2) (es_of (Γs := fun s => [.own (some p) (oLi (tl rI) s), im rI a, im rS word_5248.1]) (s := word_5248.2) (x_var 2 rfl)) (fun s_5251 => (as_cons (Γs := fun s => [.own (some p) (oLi (tl rI) s), im rI a, im rS word_5248.1]) (s := s_5251) (es_callM (Γs := fun s => [.own (some p) (oLi (tl rI) s), im rI a, im rS word_5248.1]) (s := s_5251) 0 (fun s => s) (fun _ l => l) ih (hr.mono (Nat.le_refl _)) T.g__law_tree T.k__law_tree T.b__law_tree tk (as_one (Γs := fun s => [.own (some p) (oLi (tl rI) s), im rI a, im rS word_5248.1]) (s := s_5251) (es_of (Γs := fun s => [.own (some p) (oLi (tl rI) s), im rI a, im rS word_5248.1]) (s := s_5251) (x_fdivC (x_sub (x_var 1 rfl) x_int)))) (fun _ => rfl) (fun _ _ => rfl)) (fun s_5252 => (as_one (Γs := fun s => [.own (some p) (oLi (tl rI) s), im rI a, im rS word_5248.1]) (s := s_5252) (es_callM (Γs := fun s => [.own (some p) (oLi (tl rI) s), im rI a, im rS word_5248.1]) (s := s_5252) 0 (fun s => s) (fun _ l => l) ih (hr.mono (Nat.le_refl _)) T.g__law_tree T.k__law_tree T.b__law_tree tk (as_one (Γs := fun s => [.own (some p) (oLi (tl rI) s), im rI a, im rS word_5248.1]) (s := s_5252) (es_of (Γs := fun s => [.own (some p) (oLi (tl rI) s), im rI a, im rS word_5248.1]) (s := s_5252) (x_sub (x_sub (x_var 1 rfl) x_int) (x_fdivC (x_sub (x_var 1 rfl) x_int))))) (fun _ => rfl) (fun _ _ => rfl))))))) (fun _ _ _ h => sz ((nc (fun _ _ _ h => (nc (fun _ _ _ h => n1 h)) h)) h) (by decide)))))))))) (by simp only [m_law_tree, ok_bindP, ok_calmP, chk_calmP, opt_calmP, R.bind_pure, R.bind_assoc] <;> rfl))
theorem w_law_form (T : Txt K mg Ad) (fu : Nat) : FnOk P w K mg base (L2.CX P w) (4 + fu) Ad.f_law_form Ad.d_law_form ["pot", "depth", "most"] (SpM rI (tc rI (t1 rI)) rY (fun l a => m_law_form fu l a.1 a.2)) := by
  have hnd := sc_law_form.nd
  induction fu with
  | zero => exact f_okM (fun p l a => [.own (some p) (oLi (tl rI) l), im rI a.1, im rI a.2, .any, .any, .any, .any]) T.F__law_form sc_law_form (arc ar1) rfl (by decide) (fun _ _ _ => rfl) (fun cdv A outer s H E hr tk hp p l a => SX.cv (s_bad) (by simp only [m_law_form]))
  | succ fu ih => exact f_okM (fun p l a => [.own (some p) (oLi (tl rI) l), im rI a.1, im rI a.2, .any, .any, .any, .any]) T.F__law_form sc_law_form (arc ar1) rfl (by decide) (fun _ _ _ => rfl) (fun cdv A outer s H E hr tk hp p l a => SX.cv (
    (p_setS (Γs := fun s => [.own (some p) (oLi (tl rI) s), im rI a.1, im rI a.2, .any, .any, .any, .any]) (s := l) 3 hnd (es_callM (Γs := fun s => [.own (some p) (oLi (tl rI) s), im rI a.1, im rI a.2, .any, .any, .any, .any]) (s := l) 0 (fun s => s) (fun _ l => l) (w_law_take T) (hr.mono (Nat.le_add_right_of_le (by decide))) T.g__law_take T.k__law_take T.b__law_take tk (as_one (Γs := fun s => [.own (some p) (oLi (tl rI) s), im rI a.1, im rI a.2, .any, .any, .any, .any]) (s := l) (es_of (Γs := fun s => [.own (some p) (oLi (tl rI) s), im rI a.1, im rI a.2, .any, .any, .any, .any]) (s := l) x_int)) (fun _ => rfl) (fun _ _ => rfl)) (fun way_5297 => (p_ifT (x_w (w_or2 (x_tcmp op_eq dEqI (x_var 1 rfl) x_int) (w_or1 (x_tcmp op_gt dIb (x_var 3 rfl) x_int)))) (p_retS (Γs := fun s => [.own (some p) (oLi (tl rI) s), im rI a.1, im rI a.2, im rI way_5297.1, .any, .any, .any]) (s := way_5297.2) (fun w => (w.1, w.2)) (fun w => [.own (some p) (oLi (tl rI) w.2)]) (fun _ => rfl) (fun _ => .cons .rfl .nil) (es_map (π := rY) (fun x => Dy.tup [Dy.str x]) (yTu (y1 yS)).out (es_ix (Γs := fun s => [.own (some p) (oLi (tl rI) s), im rI a.1, im rI a.2, im rI way_5297.1, .any, .any, .any]) (s := way_5297.2) ix_list dIxL (es_of (Γs := fun s => [.own (some p) (oLi (tl rI) s), im rI a.1, im rI a.2, im rI way_5297.1, .any, .any, .any]) (s := way_5297.2) (x_frzE (f_listN (k := 5) (ln_cons (x_tup (a_one x_str) (fun _ _ _ h => sz (n1 h) (by decide))) (ln_cons (x_tup (a_one x_str) (fun _ _ _ h => sz (n1 h) (by decide))) (ln_cons (x_tup (a_one x_str) (fun _ _ _ h => sz (n1 h) (by decide))) (ln_cons (x_tup (a_one x_str) (fun _ _ _ h => sz (n1 h) (by decide))) (ln_cons (x_tup (a_one x_str) (fun _ _ _ h => sz (n1 h) (by decide))) ln_nil)))))))) (fun s_5300 => (es_callM (Γs := fun s => [.own (some p) (oLi (tl rI) s), im rI a.1, im rI a.2, im rI way_5297.1, .any, .any, .any]) (s := s_5300) 0 (fun s => s) (fun _ l => l) (w_law_take T) (hr.mono (Nat.le_add_right_of_le (by decide))) T.g__law_take T.k__law_take T.b__law_take tk (as_one (Γs := fun s => [.own (some p) (oLi (tl rI) s), im rI a.1, im rI a.2, im rI way_5297.1, .any, .any, .any]) (s := s_5300) (es_of (Γs := fun s => [.own (some p) (oLi (tl rI) s), im rI a.1, im rI a.2, im rI way_5297.1, .any, .any, .any]) (s := s_5300) x_int)) (fun _ => rfl) (fun _ _ => rfl)))))) (p_ifT (x_tcmp op_lt dIb (x_var 3 rfl) x_int) (p_setS (Γs := fun s => [.own (some p) (oLi (tl rI) s), im rI a.1, im rI a.2, im rI way_5297.1, .any, .any, .any]) (s := way_5297.2) 5 hnd (es_callM (Γs := fun s => [.own (some p) (oLi (tl rI) s), im rI a.1, im rI a.2, im rI way_5297.1, .any, .any, .any]) (s := way_5297.2) 0 (fun s => s) (fun _ l => l) (w_law_step T) (hr.mono (Nat.le_add_right_of_le (by decide))) T.g__law_step T.k__law_step T.b__law_step tk (as_nil (Γs := fun s => [.own (some p) (oLi (tl rI) s), im rI a.1, im rI a.2, im rI way_5297.1, .any, .any, .any]) (s := way_5297.2)) (fun _ => rfl) (fun _ _ => rfl)) (fun step_5301 => (p_retS (Γs := fun s => [.own (some p) (oLi (tl rI) s), im rI a.1, im rI a.2, im rI way_5297.1, .any, im rC step_5301.1, .any]) (s := step_5301.2) (fun w => (w.1, w.2)) (fun w => [.own (some p) (oLi (tl rI) w.2)]) (fun _ => rfl) (fun _ => .cons .rfl .nil) (es_map (π := rY) (fun x => Dy.tup [Dy.str x.1, (fun x => Dy.tup [Dy.int x.1, Dy.int x.2]) x.2.1, (fun d => d) x.2.2]) (yTu (yc yS (yc (yTu (yc yI (y1 yI))) (y1 yY)))).out (es_tup (Γs := fun s => [.own (some p) (oLi (tl rI) s), im rI a.1, im rI a.2, im rI way_5297.1, .any, im rC step_5301.1, .any]) (s := step_5301.2) (as_cons (Γs := fun s => [.own (some p) (oLi (tl rI) s), im rI a.1, im rI a.2, im rI way_5297.1, .any, im rC step_5301.1, .any]) (s := step_5301.2) (es_of (Γs := fun s => [.own (some p) (oLi (tl rI) s), im rI a.1, im rI a.2, im rI way_5297.1, .any, im rC step_5301.1, .any]) (s := step_5301.2) x_str) (fun s_5303 => (as_cons (Γs := fun s => [.own (some p) (oLi (tl rI) s), im rI a.1, im rI a.2, im rI way_5297.1, .any, im rC step_5301.1, .any]) (s := s_5303) (es_of (Γs := fun s => [.own (some p) (oLi (tl rI) s), im rI a.1, im rI a.2, im rI way_5297.1, .any, im rC step_5301.1, .any]) (s := s_5303) (x_var 5 rfl)) (fun s_5304 => (as_one (Γs := fun s => [.own (some p) (oLi (tl rI) s), im rI a.1, im rI a.2, im rI way_5297.1, .any, im rC step_5301.1, .any]) (s := s_5304) (es_callM (Γs := fun s => [.own (some p) (oLi (tl rI) s), im rI a.1, im rI a.2, im rI way_5297.1, .any, im rC step_5301.1, .any]) (s := s_5304) 0 (fun s => s) (fun _ l => l) ih (hr.mono (Nat.le_refl _)) T.g__law_form T.k__law_form T.b__law_form tk (as_cons (Γs := fun s => [.own (some p) (oLi (tl rI) s), im rI a.1, im rI a.2, im rI way_5297.1, .any, im rC step_5301.1, .any]) (s := s_5304) (es_of (Γs := fun s => [.own (some p) (oLi (tl rI) s), im rI a.1, im rI a.2, im rI way_5297.1, .any, im rC step_5301.1, .any]) (s := s_5304) (x_sub (x_var 1 rfl) x_int)) (fun s_5305 => (as_one (Γs := fun s => [.own (some p) (oLi (tl rI) s), im rI a.1, im rI a.2, im rI way_5297.1, .any, im rC step_5301.1, .any]) (s := s_5305) (es_of (Γs := fun s => [.own (some p) (oLi (tl rI) s), im rI a.1, im rI a.2, im rI way_5297.1, .any, im rC step_5301.1, .any]) (s := s_5305) (x_var 2 rfl))))) (fun _ => rfl) (fun _ _ => rfl))))))) (fun _ _ _ h => sz ((nc (fun _ _ _ h => (nc (fun _ _ _ h => n1 h)) h)) h) (by decide))))))) (p_ifT (x_tcmp op_lt dIb (x_var 3 rfl) x_int) (p_setS (Γs := fun s => [.own (some p) (oLi (tl rI) s), im rI a.1, im rI a.2, im rI way_5297.1, .any, .any, .any]) (s := way_5297.2) 6 hnd (es_callM (Γs := fun s => [.own (some p) (oLi (tl rI) s), im rI a.1, im rI a.2, im rI way_5297.1, .any, .any, .any]) (s := way_5297.2) 0 (fun s => s) (fun _ l => l) (w_law_piece T) (hr.mono (Nat.le_add_right_of_le (by decide))) T.g__law_piece T.k__law_piece T.b__law_piece tk (as_one (Γs := fun s => [.own (some p) (oLi (tl rI) s), im rI a.1, im rI a.2, im rI way_5297.1, .any, .any, .any]) (s := way_5297.2) (es_of (Γs := fun s => [.own (some p) (oLi (tl rI) s), im rI a.1, im rI a.2, im rI way_5297.1, .any, .any, .any]) (s := way_5297.2) (x_var 2 rfl))) (fun _ => rfl) (fun _ _ => rfl)) (fun piece_5306 => (p_retS (Γs := fun s => [.own (some p) (oLi (tl rI) s), im rI a.1, im rI a.2, im rI way_5297.1, .any, .any, im (rT rC) piece_5306.1]) (s := piece_5306.2) (fun w => (w.1, w.2)) (fun w => [.own (some p) (oLi (tl rI) w.2)]) (fun _ => rfl) (fun _ => .cons .rfl .nil) (es_map (π := rY) (fun x => Dy.tup [Dy.str x.1, (fun xs => Dy.tup (List.map (fun x => Dy.tup [Dy.int x.1, Dy.int x.2]) xs)) x.2.1, (fun d => d) x.2.2]) (yTu (yc yS (yc (yT (yTu (yc yI (y1 yI)))) (y1 yY)))).out (es_tup (Γs := fun s => [.own (some p) (oLi (tl rI) s), im rI a.1, im rI a.2, im rI way_5297.1, .any, .any, im (rT rC) piece_5306.1]) (s := piece_5306.2) (as_cons (Γs := fun s => [.own (some p) (oLi (tl rI) s), im rI a.1, im rI a.2, im rI way_5297.1, .any, .any, im (rT rC) piece_5306.1]) (s := piece_5306.2) (es_of (Γs := fun s => [.own (some p) (oLi (tl rI) s), im rI a.1, im rI a.2, im rI way_5297.1, .any, .any, im (rT rC) piece_5306.1]) (s := piece_5306.2) (x_ixL (x_frzE (f_listN (k := 2) (ln_cons x_str (ln_cons x_str ln_nil)))) (x_modC (x_var 3 rfl)))) (fun s_5309 => (as_cons (Γs := fun s => [.own (some p) (oLi (tl rI) s), im rI a.1, im rI a.2, im rI way_5297.1, .any, .any, im (rT rC) piece_5306.1]) (s := s_5309) (es_of (Γs := fun s => [.own (some p) (oLi (tl rI) s), im rI a.1, im rI a.2, im rI way_5297.1, .any, .any, im (rT rC) piece_5306.1]) (s := s_5309) (x_var 6 rfl)) (fun s_5310 => (as_one (Γs := fun s => [.own (some p) (oLi (tl rI) s), im rI a.1, im rI a.2, im rI way_5297.1, .any, .any, im (rT rC) piece_5306.1]) (s := s_5310) (es_callM (Γs := fun s => [.own (some p) (oLi (tl rI) s), im rI a.1, im rI a.2, im rI way_5297.1, .any, .any, im (rT rC) piece_5306.1]) (s := s_5310) 0 (fun s => s) (fun _ l => l) ih (hr.mono (Nat.le_refl _)) T.g__law_form T.k__law_form T.b__law_form tk (as_cons (Γs := fun s => [.own (some p) (oLi (tl rI) s), im rI a.1, im rI a.2, im rI way_5297.1, .any, .any, im (rT rC) piece_5306.1]) (s := s_5310) (es_of (Γs := fun s => [.own (some p) (oLi (tl rI) s), im rI a.1, im rI a.2, im rI way_5297.1, .any, .any, im (rT rC) piece_5306.1]) (s := s_5310) (x_sub (x_var 1 rfl) x_int)) (fun s_5311 => (as_one (Γs := fun s => [.own (some p) (oLi (tl rI) s), im rI a.1, im rI a.2, im rI way_5297.1, .any, .any, im (rT rC) piece_5306.1]) (s := s_5311) (es_of (Γs := fun s => [.own (some p) (oLi (tl rI) s), im rI a.1, im rI a.2, im rI way_5297.1, .any, .any, im (rT rC) piece_5306.1]) (s := s_5311) (x_var 2 rfl))))) (fun _ => rfl) (fun _ _ => rfl))))))) (fun _ _ _ h => sz ((nc (fun _ _ _ h => (nc (fun _ _ _ h => n1 h)) h)) h) (by decide))))))) (p_setS (Γs := fun s => [.own (some p) (oLi (tl rI) s), im rI a.1, im rI a.2, im rI way_5297.1, .any, .any, .any]) (s := way_5297.2) 4 hnd (es_callM (Γs := fun s => [.own (some p) (oLi (tl rI) s), im rI a.1, im rI a.2, im rI way_5297.1, .any, .any, .any]) (s := way_5297.2) 0 (fun s => s) (fun _ l => l) ih (hr.mono (Nat.le_refl _)) T.g__law_form T.k__law_form T.b__law_form tk (as_cons (Γs := fun s => [.own (some p) (oLi (tl rI) s), im rI a.1, im rI a.2, im rI way_5297.1, .any, .any, .any]) (s := way_5297.2) (es_of (Γs := fun s => [.own (some p) (oLi (tl rI) s), im rI a.1, im rI a.2, im rI way_5297.1, .any, .any, .any]) (s := way_5297.2) (x_sub (x_var 1 rfl) x_int)) (fun s_5318 => (as_one (Γs := fun s => [.own (some p) (oLi (tl rI) s), im rI a.1, im rI a.2, im rI way_5297.1, .any, .any, .any]) (s := s_5318) (es_of (Γs := fun s => [.own (some p) (oLi (tl rI) s), im rI a.1, im rI a.2, im rI way_5297.1, .any, .any, .any]) (s := s_5318) (x_var 2 rfl))))) (fun _ => rfl) (fun _ _ => rfl)) (fun one_5312 => (p_retS (Γs := fun s => [.own (some p) (oLi (tl rI) s), im rI a.1, im rI a.2, im rI way_5297.1, im rY one_5312.1, .any, .any]) (s := one_5312.2) (fun w => (w.1, w.2)) (fun w => [.own (some p) (oLi (tl rI) w.2)]) (fun _ => rfl) (fun _ => .cons .rfl .nil) (es_map (π := rY) (fun x => Dy.tup [Dy.str x.1, (fun d => d) x.2.1, (fun d => d) x.2.2]) (yTu (yc yS (yc yY (y1 yY)))).out (es_tup (Γs := fun s => [.own (some p) (oLi (tl rI) s), im rI a.1, im rI a.2, im rI way_5297.1, im rY one_5312.1, .any, .any]) (s := one_5312.2) (as_cons (Γs := fun s => [.own (some p) (oLi (tl rI) s), im rI a.1, im rI a.2, im rI way_5297.1, im rY one_5312.1, .any, .any]) (s := one_5312.2) (es_of (Γs := fun s => [.own (some p) (oLi (tl rI) s), im rI a.1, im rI a.2, im rI way_5297.1, im rY one_5312.1, .any, .any]) (s := one_5312.2) (x_ixL (x_frzE (f_listN (k := 2) (ln_cons x_str (ln_cons x_str ln_nil)))) (x_modC (x_var 3 rfl)))) (fun s_5315 => (as_cons (Γs := fun s => [.own (some p) (oLi (tl rI) s), im rI a.1, im rI a.2, im rI way_5297.1, im rY one_5312.1, .any, .any]) (s := s_5315) (es_of (Γs := fun s => [.own (some p) (oLi (tl rI) s), im rI a.1, im rI a.2, im rI way_5297.1, im rY one_5312.1, .any, .any]) (s := s_5315) (x_var 4 rfl)) (fun s_5316 => (as_one (Γs := fun s => [.own (some p) (oLi (tl rI) s), im rI a.1, im rI a.2, im rI way_5297.1, im rY one_5312.1, .any, .any]) (s := s_5316) (es_callM (Γs := fun s => [.own (some p) (oLi (tl rI) s), im rI a.1, im rI a.2, im rI way_5297.1, im rY one_5312.1, .any, .any]) (s := s_5316) 0 (fun s => s) (fun _ l => l) ih (hr.mono (Nat.le_refl _)) T.g__law_form T.k__law_form T.b__law_form tk (as_cons (Γs := fun s => [.own (some p) (oLi (tl rI) s), im rI a.1, im rI a.2, im rI way_5297.1, im rY one_5312.1, .any, .any]) (s := s_5316) (es_of (Γs := fun s => [.own (some p) (oLi (tl rI) s), im rI a.1, im rI a.2, im rI way_5297.1, im rY one_5312.1, .any, .any]) (s := s_5316) (x_sub (x_var 1 rfl) x_int)) (fun s_5317 => (as_one (Γs := fun s => [.own (some p) (oLi (tl rI) s), im rI a.1, im rI a.2, im rI way_5297.1, im rY one_5312.1, .any, .any]) (s := s_5317) (es_of (Γs := fun s => [.own (some p) (oLi (tl rI) s), im rI a.1, im rI a.2, im rI way_5297.1, im rY one_5312.1, .any, .any]) (s := s_5317) (x_var 2 rfl))))) (fun _ => rfl) (fun _ _ => rfl))))))) (fun _ _ _ h => sz ((nc (fun _ _ _ h => (nc (fun _ _ _ h => n1 h)) h)) h) (by decide))))))))))))) (by simp only [m_law_form, ok_bindP, ok_calmP, chk_calmP, opt_calmP, R.bind_pure, R.bind_assoc] <;> rfl))
theorem w_law_two (T : Txt K mg Ad) : FnOk P w K mg base (L2.CX P w) 16 Ad.f_law_two Ad.d_law_two ["pot"] (SpM rI t0 (rL rY) (fun l a => m_law_two l )) :=
  have hnd := sc_law_two.nd
  f_okM (fun p l a => [.own (some p) (oLi (tl rI) l), .any, .any, .any, .any, .any, .any]) T.F__law_two sc_law_two ar0 rfl (by decide) (fun _ _ _ => rfl) (fun cdv A outer s H E hr tk hp p l a => SX.cv (
    (p_setS (Γs := fun s => [.own (some p) (oLi (tl rI) s), .any, .any, .any, .any, .any, .any]) (s := l) 1 hnd (es_callM (Γs := fun s => [.own (some p) (oLi (tl rI) s), .any, .any, .any, .any, .any, .any]) (s := l) 0 (fun s => s) (fun _ l => l) (w_law_take T) (hr.mono (by decide)) T.g__law_take T.k__law_take T.b__law_take tk (as_one (Γs := fun s => [.own (some p) (oLi (tl rI) s), .any, .any, .any, .any, .any, .any]) (s := l) (es_of (Γs := fun s => [.own (some p) (oLi (tl rI) s), .any, .any, .any, .any, .any, .any]) (s := l) x_int)) (fun _ => rfl) (fun _ _ => rfl)) (fun way_5325 => (p_ifT (x_tcmp op_eq dEqI (x_var 1 rfl) x_int) (p_set 3 hnd (x_cv (cvY (yTu (y1 yS))) (x_tup (a_one x_str) (fun _ _ _ h => sz (n1 h) (by decide)))) (fun form_5326 => (p_for (vs := [4]) (fun (s : ((List Int) × Dy)) => [.own (some p) (oLi (tl rI) s.1), im rI way_5325.1, .any, im rY s.2, .any, .any, .any]) _ (way_5325.2, form_5326) hp (i_rangeC T.n_range) (gt_name 4 (by decide) hnd) (fun s_5327 x_5328 => (p_setS (Γs := fun s => [.own (some p) (oLi (tl rI) s), im rI way_5325.1, .any, im rY s_5327.2, im rI x_5328, .any, .any]) (s := s_5327.1) 3 hnd (es_map (π := rY) (fun x => Dy.tup [Dy.str x.1, (fun x => Dy.tup [Dy.int x.1, Dy.int x.2]) x.2.1, (fun d => d) x.2.2]) (yTu (yc yS (yc (yTu (yc yI (y1 yI))) (y1 yY)))).out (es_tup (Γs := fun s => [.own (some p) (oLi (tl rI) s), im rI way_5325.1, .any, im rY s_5327.2, im rI x_5328, .any, .any]) (s := s_5327.1) (as_cons (Γs := fun s => [.own (some p) (oLi (tl rI) s), im rI way_5325.1, .any, im rY s_5327.2, im rI x_5328, .any, .any]) (s := s_5327.1) (es_of (Γs := fun s => [.own (some p) (oLi (tl rI) s), im rI way_5325.1, .any, im rY s_5327.2, im rI x_5328, .any, .any]) (s := s_5327.1) x_str) (fun s_5331 => (as_cons (Γs := fun s => [.own (some p) (oLi (tl rI) s), im rI way_5325.1, .any, im rY s_5327.2, im rI x_5328, .any, .any]) (s := s_5331) (es_callM (Γs := fun s => [.own (some p) (oLi (tl rI) s), im rI way_5325.1, .any, im rY s_5327.2, im rI x_5328, .any, .any]) (s := s_5331) 0 (fun s => s) (fun _ l => l) (w_law_step T) (hr.mono (by decide)) T.g__law_step T.k__law_step T.b__law_step tk (as_nil (Γs := fun s => [.own (some p) (oLi (tl rI) s), im rI way_5325.1, .any, im rY s_5327.2, im rI x_5328, .any, .any]) (s := s_5331)) (fun _ => rfl) (fun _ _ => rfl)) (fun s_5332 => (as_one (Γs := fun s => [.own (some p) (oLi (tl rI) s), im rI way_5325.1, .any, im rY s_5327.2, im rI x_5328, .any, .any]) (s := s_5332) (es_of (Γs := fun s => [.own (some p) (oLi (tl rI) s), im rI way_5325.1, .any, im rY s_5327.2, im rI x_5328, .any, .any]) (s := s_5332) (x_var 3 rfl))))))) (fun _ _ _ h => sz ((nc (fun _ _ _ h => (nc (fun _ _ _ h => n1 h)) h)) h) (by decide)))) (fun form_5329 => (s_go (o := (form_5329.2, form_5329.1)) rfl (.cons .rfl (.cons .rfl (.cons .any (.cons .rfl (.cons .any (.cons .any (.cons .any .nil))))))))))) (.cons .rfl (.cons .rfl (.cons .any (.cons .rfl (.cons .any (.cons .any (.cons .any .nil))))))) (fun s_5333 => (p_retS (Γs := fun s => [.own (some p) (oLi (tl rI) s), im rI way_5325.1, .any, im rY s_5333.2, .any, .any, .any]) (s := s_5333.1) (fun w => (w.1, w.2)) (fun w => [.own (some p) (oLi (tl rI) w.2)]) (fun _ => rfl) (fun _ => .cons .rfl .nil) (es_frz (Γs := fun s => [.own (some p) (oLi (tl rI) s), im rI way_5325.1, .any, im rY s_5333.2, .any, .any, .any]) (s := s_5333.1) (fs_list (Γs := fun s => [.own (some p) (oLi (tl rI) s), im rI way_5325.1, .any, im rY s_5333.2, .any, .any, .any]) (s := s_5333.1) (k := 2) (as_nc (Γs := fun s => [.own (some p) (oLi (tl rI) s), im rI way_5325.1, .any, im rY s_5333.2, .any, .any, .any]) (s := s_5333.1) (es_callM (Γs := fun s => [.own (some p) (oLi (tl rI) s), im rI way_5325.1, .any, im rY s_5333.2, .any, .any, .any]) (s := s_5333.1) 0 (fun s => s) (fun _ l => l) (w_law_chain T) (hr.mono (by decide)) T.g__law_chain T.k__law_chain T.b__law_chain tk (as_one (Γs := fun s => [.own (some p) (oLi (tl rI) s), im rI way_5325.1, .any, im rY s_5333.2, .any, .any, .any]) (s := s_5333.1) (es_callM (Γs := fun s => [.own (some p) (oLi (tl rI) s), im rI way_5325.1, .any, im rY s_5333.2, .any, .any, .any]) (s := s_5333.1) 0 (fun s => s) (fun _ l => l) (w_law_take T) (hr.mono (by decide)) T.g__law_take T.k__law_take T.b__law_take tk (as_one (Γs := fun s => [.own (some p) (oLi (tl rI) s), im rI way_5325.1, .any, im rY s_5333.2, .any, .any, .any]) (s := s_5333.1) (es_of (Γs := fun s => [.own (some p) (oLi (tl rI) s), im rI way_5325.1, .any, im rY s_5333.2, .any, .any, .any]) (s := s_5333.1) x_int)) (fun _ => rfl) (fun _ _ => rfl))) (fun _ => rfl) (fun _ _ => rfl)) (fun s_5336 => (as_nc (Γs := fun s => [.own (some p) (oLi (tl rI) s), im rI way_5325.1, .any, im rY s_5333.2, .any, .any, .any]) (s := s_5336) (es_of (Γs := fun s => [.own (some p) (oLi (tl rI) s), im rI way_5325.1, .any, im rY s_5333.2, .any, .any, .any]) (s := s_5336) (x_cv (cvY (yTu (yc yS (yc (yTu (y1 yS)) (y1 yY))))) (x_tup (a_cons x_str (a_cons (x_tup (a_one x_str) (fun _ _ _ h => sz (n1 h) (by decide))) (a_one (x_var 3 rfl)))) (fun _ _ _ h => sz ((nc (fun _ _ _ h => (nc (fun _ _ _ h => n1 h)) h)) h) (by decide))))) (fun s_5337 => (as_n0 (Γs := fun s => [.own (some p) (oLi (tl rI) s), im rI way_5325.1, .any, im rY s_5333.2, .any, .any, .any]) (s := s_5337))))))))))))) (p_ifT (x_tcmp op_eq dEqI (x_var 1 rfl) x_int) (p_setS (Γs := fun s => [.own (some p) (oLi (tl rI) s), im rI way_5325.1, .any, .any, .any, .any, .any]) (s := way_5325.2) 5 hnd (es_callM (Γs := fun s => [.own (some p) (oLi (tl rI) s), im rI way_5325.1, .any, .any, .any, .any, .any]) (s := way_5325.2) 0 (fun s => s) (fun _ l => l) (w_law_take T) (hr.mono (by decide)) T.g__law_take T.k__law_take T.b__law_take tk (as_one (Γs := fun s => [.own (some p) (oLi (tl rI) s), im rI way_5325.1, .any, .any, .any, .any, .any]) (s := way_5325.2) (es_of (Γs := fun s => [.own (some p) (oLi (tl rI) s), im rI way_5325.1, .any, .any, .any, .any, .any]) (s := way_5325.2) x_int)) (fun _ => rfl) (fun _ _ => rfl)) (fun many_5338 => (p_retS (Γs := fun s => [.own (some p) (oLi (tl rI) s), im rI way_5325.1, .any, .any, .any, im rI many_5338.1, .any]) (s := many_5338.2) (fun w => (w.1, w.2)) (fun w => [.own (some p) (oLi (tl rI) w.2)]) (fun _ => rfl) (fun _ => .cons .rfl .nil) (es_frz (Γs := fun s => [.own (some p) (oLi (tl rI) s), im rI way_5325.1, .any, .any, .any, im rI many_5338.1, .any]) (s := many_5338.2) (fs_list (Γs := fun s => [.own (some p) (oLi (tl rI) s), im rI way_5325.1, .any, .any, .any, im rI many_5338.1, .any]) (s := many_5338.2) (k := 2) (as_nc (Γs := fun s => [.own (some p) (oLi (tl rI) s), im rI way_5325.1, .any, .any, .any, im rI many_5338.1, .any]) (s := many_5338.2) (es_callM (Γs := fun s => [.own (some p) (oLi (tl rI) s), im rI way_5325.1, .any, .any, .any, im rI many_5338.1, .any]) (s := many_5338.2) 0 (fun s => s) (fun _ l => l) (w_law_chain T) (hr.mono (by decide)) T.g__law_chain T.k__law_chain T.b__law_chain tk (as_one (Γs := fun s => [.own (some p) (oLi (tl rI) s), im rI way_5325.1, .any, .any, .any, im rI many_5338.1, .any]) (s := many_5338.2) (es_of (Γs := fun s => [.own (some p) (oLi (tl rI) s), im rI way_5325.1, .any, .any, .any, im rI many_5338.1, .any]) (s := many_5338.2) (x_var 5 rfl))) (fun _ => rfl) (fun _ _ => rfl)) (fun s_5342 => (as_nc (Γs := fun s => [.own (some p) (oLi (tl rI) s), im rI way_5325.1, .any, .any, .any, im rI many_5338.1, .any]) (s := s_5342) (es_callM (Γs := fun s => [.own (some p) (oLi (tl rI) s), im rI way_5325.1, .any, .any, .any, im rI many_5338.1, .any]) (s := s_5342) 0 (fun s => s) (fun _ l => l) (w_law_chain T) (hr.mono (by decide)) T.g__law_chain T.k__law_chain T.b__law_chain tk (as_one (Γs := fun s => [.own (some p) (oLi (tl rI) s), im rI way_5325.1, .any, .any, .any, im rI many_5338.1, .any]) (s := s_5342) (es_callB (Γs := fun s => [.own (some p) (oLi (tl rI) s), im rI way_5325.1, .any, .any, .any, im rI many_5338.1, .any]) (s := s_5342) (call_min2 rfl) dMin T.n_min (by decide +kernel) (as_cons (Γs := fun s => [.own (some p) (oLi (tl rI) s), im rI way_5325.1, .any, .any, .any, im rI many_5338.1, .any]) (s := s_5342) (es_of (Γs := fun s => [.own (some p) (oLi (tl rI) s), im rI way_5325.1, .any, .any, .any, im rI many_5338.1, .any]) (s := s_5342) x_int) (fun s_5344 => (as_one (Γs := fun s => [.own (some p) (oLi (tl rI) s), im rI way_5325.1, .any, .any, .any, im rI many_5338.1, .any]) (s := s_5344) (es_bin (Γs := fun s => [.own (some p) (oLi (tl rI) s), im rI way_5325.1, .any, .any, .any, im rI many_5338.1, .any]) (s := s_5344) op_sub (dI0 (f := fun i j => i - j)) (es_bin (Γs := fun s => [.own (some p) (oLi (tl rI) s), im rI way_5325.1, .any, .any, .any, im rI many_5338.1, .any]) (s := s_5344) op_add (dI0 (f := fun i j => i + j)) (es_of (Γs := fun s => [.own (some p) (oLi (tl rI) s), im rI way_5325.1, .any, .any, .any, im rI many_5338.1, .any]) (s := s_5344) x_int) (fun s_5346 => (es_callM (Γs := fun s => [.own (some p) (oLi (tl rI) s), im rI way_5325.1, .any, .any, .any, im rI many_5338.1, .any]) (s := s_5346) 0 (fun s => s) (fun _ l => l) (w_law_take T) (hr.mono (by decide)) T.g__law_take T.k__law_take T.b__law_take tk (as_one (Γs := fun s => [.own (some p) (oLi (tl rI) s), im rI way_5325.1, .any, .any, .any, im rI many_5338.1, .any]) (s := s_5346) (es_of (Γs := fun s => [.own (some p) (oLi (tl rI) s), im rI way_5325.1, .any, .any, .any, im rI many_5338.1, .any]) (s := s_5346) x_int)) (fun _ => rfl) (fun _ _ => rfl)))) (fun s_5345 => (es_of (Γs := fun s => [.own (some p) (oLi (tl rI) s), im rI way_5325.1, .any, .any, .any, im rI many_5338.1, .any]) (s := s_5345) (x_var 5 rfl))))))))) (fun _ => rfl) (fun _ _ => rfl)) (fun s_5343 => (as_n0 (Γs := fun s => [.own (some p) (oLi (tl rI) s), im rI way_5325.1, .any, .any, .any, im rI many_5338.1, .any]) (s := s_5343))))))))))) (p_ifT (x_tcmp op_eq dEqI (x_var 1 rfl) x_int) (p_setS (Γs := fun s => [.own (some p) (oLi (tl rI) s), im rI way_5325.1, .any, .any, .any, .any, .any]) (s := way_5325.2) 6 hnd (es_map (π := rY) (fun x => Dy.tup [Dy.str x]) (yTu (y1 yS)).out (es_ix (Γs := fun s => [.own (some p) (oLi (tl rI) s), im rI way_5325.1, .any, .any, .any, .any, .any]) (s := way_5325.2) ix_list dIxL (es_of (Γs := fun s => [.own (some p) (oLi (tl rI) s), im rI way_5325.1, .any, .any, .any, .any, .any]) (s := way_5325.2) (x_frzE (f_listN (k := 3) (ln_cons (x_tup (a_one x_str) (fun _ _ _ h => sz (n1 h) (by decide))) (ln_cons (x_tup (a_one x_str) (fun _ _ _ h => sz (n1 h) (by decide))) (ln_cons (x_tup (a_one x_str) (fun _ _ _ h => sz (n1 h) (by decide))) ln_nil)))))) (fun s_5358 => (es_callM (Γs := fun s => [.own (some p) (oLi (tl rI) s), im rI way_5325.1, .any, .any, .any, .any, .any]) (s := s_5358) 0 (fun s => s) (fun _ l => l) (w_law_take T) (hr.mono (by decide)) T.g__law_take T.k__law_take T.b__law_take tk (as_one (Γs := fun s => [.own (some p) (oLi (tl rI) s), im rI way_5325.1, .any, .any, .any, .any, .any]) (s := s_5358) (es_of (Γs := fun s => [.own (some p) (oLi (tl rI) s), im rI way_5325.1, .any, .any, .any, .any, .any]) (s := s_5358) x_int)) (fun _ => rfl) (fun _ _ => rfl))))) (fun leaf_5347 => (p_retS (Γs := fun s => [.own (some p) (oLi (tl rI) s), im rI way_5325.1, .any, .any, .any, .any, im rY leaf_5347.1]) (s := leaf_5347.2) (fun w => (w.1, w.2)) (fun w => [.own (some p) (oLi (tl rI) w.2)]) (fun _ => rfl) (fun _ => .cons .rfl .nil) (es_frz (Γs := fun s => [.own (some p) (oLi (tl rI) s), im rI way_5325.1, .any, .any, .any, .any, im rY leaf_5347.1]) (s := leaf_5347.2) (fs_list (Γs := fun s => [.own (some p) (oLi (tl rI) s), im rI way_5325.1, .any, .any, .any, .any, im rY leaf_5347.1]) (s := leaf_5347.2) (k := 2) (as_nc (Γs := fun s => [.own (some p) (oLi (tl rI) s), im rI way_5325.1, .any, .any, .any, .any, im rY leaf_5347.1]) (s := leaf_5347.2) (es_callM (Γs := fun s => [.own (some p) (oLi (tl rI) s), im rI way_5325.1, .any, .any, .any, .any, im rY leaf_5347.1]) (s := leaf_5347.2) 0 (fun s => s) (fun _ l => l) (w_law_tree T 12) (hr.mono (by decide)) T.g__law_tree T.k__law_tree T.b__law_tree tk (as_one (Γs := fun s => [.own (some p) (oLi (tl rI) s), im rI way_5325.1, .any, .any, .any, .any, im rY leaf_5347.1]) (s := leaf_5347.2) (es_bin (Γs := fun s => [.own (some p) (oLi (tl rI) s), im rI way_5325.1, .any, .any, .any, .any, im rY leaf_5347.1]) (s := leaf_5347.2) op_add (dI0 (f := fun i j => i + j)) (es_of (Γs := fun s => [.own (some p) (oLi (tl rI) s), im rI way_5325.1, .any, .any, .any, .any, im rY leaf_5347.1]) (s := leaf_5347.2) x_int) (fun s_5352 => (es_callM (Γs := fun s => [.own (some p) (oLi (tl rI) s), im rI way_5325.1, .any, .any, .any, .any, im rY leaf_5347.1]) (s := s_5352) 0 (fun s => s) (fun _ l => l) (w_law_take T) (hr.mono (by decide)) T.g__law_take T.k__law_take T.b__law_take tk (as_one (Γs := fun s => [.own (some p) (oLi (tl rI) s), im rI way_5325.1, .any, .any, .any, .any, im rY leaf_5347.1]) (s := s_5352) (es_of (Γs := fun s => [.own (some p) (oLi (tl rI) s), im rI way_5325.1, .any, .any, .any, .any, im rY leaf_5347.1]) (s := s_5352) x_int)) (fun _ => rfl) (fun _ _ => rfl))))) (fun _ => rfl) (fun _ _ => rfl)) (fun s_5351 => (as_nc (Γs := fun s => [.own (some p) (oLi (tl rI) s), im rI way_5325.1, .any, .any, .any, .any, im rY leaf_5347.1]) (s := s_5351) (es_map (π := rY) (fun x => Dy.tup [Dy.str x.1, (fun x => Dy.tup [Dy.int x.1, Dy.int x.2]) x.2.1, (fun d => d) x.2.2]) (yTu (yc yS (yc (yTu (yc yI (y1 yI))) (y1 yY)))).out (es_tup (Γs := fun s => [.own (some p) (oLi (tl rI) s), im rI way_5325.1, .any, .any, .any, .any, im rY leaf_5347.1]) (s := s_5351) (as_cons (Γs := fun s => [.own (some p) (oLi (tl rI) s), im rI way_5325.1, .any, .any, .any, .any, im rY leaf_5347.1]) (s := s_5351) (es_of (Γs := fun s => [.own (some p) (oLi (tl rI) s), im rI way_5325.1, .any, .any, .any, .any, im rY leaf_5347.1]) (s := s_5351) x_str) (fun s_5354 => (as_cons (Γs := fun s => [.own (some p) (oLi (tl rI) s), im rI way_5325.1, .any, .any, .any, .any, im rY leaf_5347.1]) (s := s_5354) (es_callM (Γs := fun s => [.own (some p) (oLi (tl rI) s), im rI way_5325.1, .any, .any, .any, .any, im rY leaf_5347.1]) (s := s_5354) 0 (fun s => s) (fun _ l => l) (w_law_step T) (hr.mono (by decide)) T.g__law_step T.k__law_step T.b__law_step tk (as_nil (Γs := fun s => [.own (some p) (oLi (tl rI) s), im rI way_5325.1, .any, .any, .any, .any, im rY leaf_5347.1]) (s := s_5354)) (fun _ => rfl) (fun _ _ => rfl)) (fun s_5355 => (as_one (Γs := fun s => [.own (some p) (oLi (tl rI) s), im rI way_5325.1, .any, .any, .any, .any, im rY leaf_5347.1]) (s := s_5355) (es_of (Γs := fun s => [.own (some p) (oLi (tl rI) s), im rI way_5325.1, .any, .any, .any, .any, im rY leaf_5347.1]) (s := s_5355) (x_var 6 rfl))))))) (fun _ _ _ h => sz ((nc (fun _ _ _ h => (nc (fun _ _ _ h => n1 h)) h)) h) (by decide)))) (fun s_5353 => (as_n0 (Γs := fun s => [.own (some p) (oLi (tl rI) s), im rI way_5325.1, .any, .any, .any, .any, im rY leaf_5347.1]) (s := s_5353))))))))))) (p_ifT (x_tcmp op_eq dEqI (x_var 1 rfl) x_int) (p_retS (Γs := fun s => [.own (some p) (oLi (tl rI) s), im rI way_5325.1, .any, .any, .any, .any, .any]) (s := way_5325.2) (fun w => (w.1, w.2)) (fun w => [.own (some p) (oLi (tl rI) w.2)]) (fun _ => rfl) (fun _ => .cons .rfl .nil) (es_frz (Γs := fun s => [.own (some p) (oLi (tl rI) s), im rI way_5325.1, .any, .any, .any, .any, .any]) (s := way_5325.2) (fs_list (Γs := fun s => [.own (some p) (oLi (tl rI) s), im rI way_5325.1, .any, .any, .any, .any, .any]) (s := way_5325.2) (k := 2) (as_nc (Γs := fun s => [.own (some p) (oLi (tl rI) s), im rI way_5325.1, .any, .any, .any, .any, .any]) (s := way_5325.2) (es_callM (Γs := fun s => [.own (some p) (oLi (tl rI) s), im rI way_5325.1, .any, .any, .any, .any, .any]) (s := way_5325.2) 0 (fun s => s) (fun _ l => l) (w_law_tree T 12) (hr.mono (by decide)) T.g__law_tree T.k__law_tree T.b__law_tree tk (as_one (Γs := fun s => [.own (some p) (oLi (tl rI) s), im rI way_5325.1, .any, .any, .any, .any, .any]) (s := way_5325.2) (es_bin (Γs := fun s => [.own (some p) (oLi (tl rI) s), im rI way_5325.1, .any, .any, .any, .any, .any]) (s := way_5325.2) op_add (dI0 (f := fun i j => i + j)) (es_of (Γs := fun s => [.own (some p) (oLi (tl rI) s), im rI way_5325.1, .any, .any, .any, .any, .any]) (s := way_5325.2) x_int) (fun s_5364 => (es_callM (Γs := fun s => [.own (some p) (oLi (tl rI) s), im rI way_5325.1, .any, .any, .any, .any, .any]) (s := s_5364) 0 (fun s => s) (fun _ l => l) (w_law_take T) (hr.mono (by decide)) T.g__law_take T.k__law_take T.b__law_take tk (as_one (Γs := fun s => [.own (some p) (oLi (tl rI) s), im rI way_5325.1, .any, .any, .any, .any, .any]) (s := s_5364) (es_of (Γs := fun s => [.own (some p) (oLi (tl rI) s), im rI way_5325.1, .any, .any, .any, .any, .any]) (s := s_5364) x_int)) (fun _ => rfl) (fun _ _ => rfl))))) (fun _ => rfl) (fun _ _ => rfl)) (fun s_5363 => (as_nc (Γs := fun s => [.own (some p) (oLi (tl rI) s), im rI way_5325.1, .any, .any, .any, .any, .any]) (s := s_5363) (es_callM (Γs := fun s => [.own (some p) (oLi (tl rI) s), im rI way_5325.1, .any, .any, .any, .any, .any]) (s := s_5363) 0 (fun s => s) (fun _ l => l) (w_law_tree T 12) (hr.mono (by decide)) T.g__law_tree T.k__law_tree T.b__law_tree tk (as_one (Γs := fun s => [.own (some p) (oLi (tl rI) s), im rI way_5325.1, .any, .any, .any, .any, .any]) (s := s_5363) (es_bin (Γs := fun s => [.own (some p) (oLi (tl rI) s), im rI way_5325.1, .any, .any, .any, .any, .any]) (s := s_5363) op_add (dI0 (f := fun i j => i + j)) (es_of (Γs := fun s => [.own (some p) (oLi (tl rI) s), im rI way_5325.1, .any, .any, .any, .any, .any]) (s := s_5363) x_int) (fun s_5366 => (es_callM (Γs := fun s => [.own (some p) (oLi (tl rI) s), im rI way_5325.1, .any, .any, .any, .any, .any]) (s := s_5366) 0 (fun s => s) (fun _ l => l) (w_law_take T) (hr.mono (by decide)) T.g__law_take T.k__law_take T.b__law_take tk (as_one (Γs := fun s => [.own (some p) (oLi (tl rI) s), im rI way_5325.1, .any, .any, .any, .any, .any]) (s := s_5366) (es_of (Γs := fun s => [.own (some p) (oLi (tl rI) s), im rI way_5325.1, .any, .any, .any, .any, .any]) (s := s_5366) x_int)) (fun _ => rfl) (fun _ _ => rfl))))) (fun _ => rfl) (fun _ _ => rfl)) (fun s_5365 => (as_n0 (Γs := fun s => [.own (some p) (oLi (tl rI) s), im rI way_5325.1, .any, .any, .any, .any, .any]) (s := s_5365))))))))) (p_setS (Γs := fun s => [.own (some p) (oLi (tl rI) s), im rI way_5325.1, .any, .any, .any, .any, .any]) (s := way_5325.2) 2 hnd (es_callM (Γs := fun s => [.own (some p) (oLi (tl rI) s), im rI way_5325.1, .any, .any, .any, .any, .any]) (s := way_5325.2) 0 (fun s => s) (fun _ l => l) (w_law_form T 6) (hr.mono (by decide)) T.g__law_form T.k__law_form T.b__law_form tk (as_cons (Γs := fun s => [.own (some p) (oLi (tl rI) s), im rI way_5325.1, .any, .any, .any, .any, .any]) (s := way_5325.2) (es_of (Γs := fun s => [.own (some p) (oLi (tl rI) s), im rI way_5325.1, .any, .any, .any, .any, .any]) (s := way_5325.2) x_int) (fun s_5372 => (as_one (Γs := fun s => [.own (some p) (oLi (tl rI) s), im rI way_5325.1, .any, .any, .any, .any, .any]) (s := s_5372) (es_of (Γs := fun s => [.own (some p) (oLi (tl rI) s), im rI way_5325.1, .any, .any, .any, .any, .any]) (s := s_5372) x_int)))) (fun _ => rfl) (fun _ _ => rfl)) (fun one_5367 => (p_retS (Γs := fun s => [.own (some p) (oLi (tl rI) s), im rI way_5325.1, im rY one_5367.1, .any, .any, .any, .any]) (s := one_5367.2) (fun w => (w.1, w.2)) (fun w => [.own (some p) (oLi (tl rI) w.2)]) (fun _ => rfl) (fun _ => .cons .rfl .nil) (es_frz (Γs := fun s => [.own (some p) (oLi (tl rI) s), im rI way_5325.1, im rY one_5367.1, .any, .any, .any, .any]) (s := one_5367.2) (fs_list (Γs := fun s => [.own (some p) (oLi (tl rI) s), im rI way_5325.1, im rY one_5367.1, .any, .any, .any, .any]) (s := one_5367.2) (k := 2) (as_nc (Γs := fun s => [.own (some p) (oLi (tl rI) s), im rI way_5325.1, im rY one_5367.1, .any, .any, .any, .any]) (s := one_5367.2) (es_of (Γs := fun s => [.own (some p) (oLi (tl rI) s), im rI way_5325.1, im rY one_5367.1, .any, .any, .any, .any]) (s := one_5367.2) (x_var 2 rfl)) (fun s_5369 => (as_nc (Γs := fun s => [.own (some p) (oLi (tl rI) s), im rI way_5325.1, im rY one_5367.1, .any, .any, .any, .any]) (s := s_5369) (es_callM (Γs := fun s => [.own (some p) (oLi (tl rI) s), im rI way_5325.1, im rY one_5367.1, .any, .any, .any, .any]) (s := s_5369) 0 (fun s => s) (fun _ l => l) (w_law_form T 6) (hr.mono (by decide)) T.g__law_form T.k__law_form T.b__law_form tk (as_cons (Γs := fun s => [.own (some p) (oLi (tl rI) s), im rI way_5325.1, im rY one_5367.1, .any, .any, .any, .any]) (s := s_5369) (es_of (Γs := fun s => [.own (some p) (oLi (tl rI) s), im rI way_5325.1, im rY one_5367.1, .any, .any, .any, .any]) (s := s_5369) x_int) (fun s_5371 => (as_one (Γs := fun s => [.own (some p) (oLi (tl rI) s), im rI way_5325.1, im rY one_5367.1, .any, .any, .any, .any]) (s := s_5371) (es_of (Γs := fun s => [.own (some p) (oLi (tl rI) s), im rI way_5325.1, im rY one_5367.1, .any, .any, .any, .any]) (s := s_5371) x_int)))) (fun _ => rfl) (fun _ _ => rfl)) (fun s_5370 => (as_n0 (Γs := fun s => [.own (some p) (oLi (tl rI) s), im rI way_5325.1, im rY one_5367.1, .any, .any, .any, .any]) (s := s_5370)))))))))))))))))) (by unfold m_law_two; simp only [ok_bindP, ok_calmP, chk_calmP, opt_calmP, R.bind_pure, R.bind_assoc] <;> rfl))
theorem w_law_shape (T : Txt K mg Ad) : FnOk P w K mg base (L2.CX P w) 2 Ad.f_law_shape Ad.d_law_shape ["pot"] (SpM rI t0 (rTu (tc (rT rC) (t1 rB))) (fun l a => m_law_shape l )) :=
  have hnd := sc_law_shape.nd
  f_okM (fun p l a => [.own (some p) (oLi (tl rI) l), .any, .any, .any, .any, .any, .any, .any]) T.F__law_shape sc_law_shape ar0 rfl (by decide) (fun _ _ _ => rfl) (fun cdv A outer s H E hr tk hp p l a => SX.cv (
    (p_setS (Γs := fun s => [.own (some p) (oLi (tl rI) s), .any, .any, .any, .any, .any, .any, .any]) (s := l) 1 hnd (es_ix (Γs := fun s => [.own (some p) (oLi (tl rI) s), .any, .any, .any, .any, .any, .any, .any]) (s := l) ix_list dIxL (es_of (Γs := fun s => [.own (some p) (oLi (tl rI) s), .any, .any, .any, .any, .any, .any, .any]) (s := l) (x_frzE (f_listN (k := 8) (ln_cons x_int (ln_cons x_int (ln_cons x_int (ln_cons x_int (ln_cons x_int (ln_cons x_int (ln_cons x_int (ln_cons x_int ln_nil))))))))))) (fun s_5442 => (es_callM (Γs := fun s => [.own (some p) (oLi (tl rI) s), .any, .any, .any, .any, .any, .any, .any]) (s := s_5442) 0 (fun s => s) (fun _ l => l) (w_law_take T) (hr.mono (by decide)) T.g__law_take T.k__law_take T.b__law_take tk (as_one (Γs := fun s => [.own (some p) (oLi (tl rI) s), .any, .any, .any, .any, .any, .any, .any]) (s := s_5442) (es_of (Γs := fun s => [.own (some p) (oLi (tl rI) s), .any, .any, .any, .any, .any, .any, .any]) (s := s_5442) x_int)) (fun _ => rfl) (fun _ _ => rfl)))) (fun many_5406 => (p_setS (Γs := fun s => [.own (some p) (oLi (tl rI) s), im rI many_5406.1, .any, .any, .any, .any, .any, .any]) (s := many_5406.2) 2 hnd (es_ix (Γs := fun s => [.own (some p) (oLi (tl rI) s), im rI many_5406.1, .any, .any, .any, .any, .any, .any]) (s := many_5406.2) ix_list dIxL (es_of (Γs := fun s => [.own (some p) (oLi (tl rI) s), im rI many_5406.1, .any, .any, .any, .any, .any, .any]) (s := many_5406.2) (x_frzE (f_listN (k := 4) (ln_cons x_int (ln_cons x_int (ln_cons x_int (ln_cons x_int ln_nil))))))) (fun s_5439 => (es_callM (Γs := fun s => [.own (some p) (oLi (tl rI) s), im rI many_5406.1, .any, .any, .any, .any, .any, .any]) (s := s_5439) 0 (fun s => s) (fun _ l => l) (w_law_take T) (hr.mono (by decide)) T.g__law_take T.k__law_take T.b__law_take tk (as_one (Γs := fun s => [.own (some p) (oLi (tl rI) s), im rI many_5406.1, .any, .any, .any, .any, .any, .any]) (s := s_5439) (es_of (Γs := fun s => [.own (some p) (oLi (tl rI) s), im rI many_5406.1, .any, .any, .any, .any, .any, .any]) (s := s_5439) x_int)) (fun _ => rfl) (fun _ _ => rfl)))) (fun wide_5407 => (p_setS (Γs := fun s => [.own (some p) (oLi (tl rI) s), im rI many_5406.1, im rI wide_5407.1, .any, .any, .any, .any, .any]) (s := wide_5407.2) 3 hnd (es_ix (Γs := fun s => [.own (some p) (oLi (tl rI) s), im rI many_5406.1, im rI wide_5407.1, .any, .any, .any, .any, .any]) (s := wide_5407.2) ix_list dIxL (es_of (Γs := fun s => [.own (some p) (oLi (tl rI) s), im rI many_5406.1, im rI wide_5407.1, .any, .any, .any, .any, .any]) (s := wide_5407.2) (x_frzE (f_listN (k := 5) (ln_cons x_int (ln_cons x_int (ln_cons x_int (ln_cons (x_powC 100000000000) (ln_cons (x_sub x_int (x_powC 100000000000)) ln_nil)))))))) (fun s_5436 => (es_callM (Γs := fun s => [.own (some p) (oLi (tl rI) s), im rI many_5406.1, im rI wide_5407.1, .any, .any, .any, .any, .any]) (s := s_5436) 0 (fun s => s) (fun _ l => l) (w_law_take T) (hr.mono (by decide)) T.g__law_take T.k__law_take T.b__law_take tk (as_one (Γs := fun s => [.own (some p) (oLi (tl rI) s), im rI many_5406.1, im rI wide_5407.1, .any, .any, .any, .any, .any]) (s := s_5436) (es_of (Γs := fun s => [.own (some p) (oLi (tl rI) s), im rI many_5406.1, im rI wide_5407.1, .any, .any, .any, .any, .any]) (s := s_5436) x_int)) (fun _ => rfl) (fun _ _ => rfl)))) (fun row_5408 => (p_setS (Γs := fun s => [.own (some p) (oLi (tl rI) s), im rI many_5406.1, im rI wide_5407.1, im rI row_5408.1, .any, .any, .any, .any]) (s := row_5408.2) 4 hnd (es_ix (Γs := fun s => [.own (some p) (oLi (tl rI) s), im rI many_5406.1, im rI wide_5407.1, im rI row_5408.1, .any, .any, .any, .any]) (s := row_5408.2) ix_list dIxL (es_of (Γs := fun s => [.own (some p) (oLi (tl rI) s), im rI many_5406.1, im rI wide_5407.1, im rI row_5408.1, .any, .any, .any, .any]) (s := row_5408.2) (x_frzE (f_listN (k := 5) (ln_cons x_int (ln_cons x_int (ln_cons x_int (ln_cons (x_powC 100000000000) (ln_cons (x_sub x_int (x_powC 100000000000)) ln_nil)))))))) (fun s_5433 => (es_callM (Γs := fun s => [.own (some p) (oLi (tl rI) s), im rI many_5406.1, im rI wide_5407.1, im rI row_5408.1, .any, .any, .any, .any]) (s := s_5433) 0 (fun s => s) (fun _ l => l) (w_law_take T) (hr.mono (by decide)) T.g__law_take T.k__law_take T.b__law_take tk (as_one (Γs := fun s => [.own (some p) (oLi (tl rI) s), im rI many_5406.1, im rI wide_5407.1, im rI row_5408.1, .any, .any, .any, .any]) (s := s_5433) (es_of (Γs := fun s => [.own (some p) (oLi (tl rI) s), im rI many_5406.1, im rI wide_5407.1, im rI row_5408.1, .any, .any, .any, .any]) (s := s_5433) x_int)) (fun _ => rfl) (fun _ _ => rfl)))) (fun column_5409 => (p_own 5 hnd (f_nil (ρ := rC)) (fun cells_5410 => (p_for (vs := [6]) (fun (s : ((List Int) × (List (Int × Int)))) => [.own (some p) (oLi (tl rI) s.1), im rI many_5406.1, im rI wide_5407.1, im rI row_5408.1, im rI column_5409.1, .own none (oLi (tl rC) s.2), .any, .any]) _ (column_5409.2, cells_5410) hp (i_range1 T.n_range (a_one (x_var 1 rfl))) (gt_name 6 (by decide) hnd) (fun s_5411 x_5412 => (p_setS (Γs := fun s => [.own (some p) (oLi (tl rI) s), im rI many_5406.1, im rI wide_5407.1, im rI row_5408.1, im rI column_5409.1, .own none (oLi (tl rC) s_5411.2), im rI x_5412, .any]) (s := s_5411.1) 7 hnd (es_bin (Γs := fun s => [.own (some p) (oLi (tl rI) s), im rI many_5406.1, im rI wide_5407.1, im rI row_5408.1, im rI column_5409.1, .own none (oLi (tl rC) s_5411.2), im rI x_5412, .any]) (s := s_5411.1) op_sub (dI0 (f := fun i j => i - j)) (es_bin (Γs := fun s => [.own (some p) (oLi (tl rI) s), im rI many_5406.1, im rI wide_5407.1, im rI row_5408.1, im rI column_5409.1, .own none (oLi (tl rC) s_5411.2), im rI x_5412, .any]) (s := s_5411.1) op_add (dI0 (f := fun i j => i + j)) (es_of (Γs := fun s => [.own (some p) (oLi (tl rI) s), im rI many_5406.1, im rI wide_5407.1, im rI row_5408.1, im rI column_5409.1, .own none (oLi (tl rC) s_5411.2), im rI x_5412, .any]) (s := s_5411.1) (x_var 3 rfl)) (fun s_5421 => (es_callM (Γs := fun s => [.own (some p) (oLi (tl rI) s), im rI many_5406.1, im rI wide_5407.1, im rI row_5408.1, im rI column_5409.1, .own none (oLi (tl rC) s_5411.2), im rI x_5412, .any]) (s := s_5421) 0 (fun s => s) (fun _ l => l) (w_law_take T) (hr.mono (by decide)) T.g__law_take T.k__law_take T.b__law_take tk (as_one (Γs := fun s => [.own (some p) (oLi (tl rI) s), im rI many_5406.1, im rI wide_5407.1, im rI row_5408.1, im rI column_5409.1, .own none (oLi (tl rC) s_5411.2), im rI x_5412, .any]) (s := s_5421) (es_of (Γs := fun s => [.own (some p) (oLi (tl rI) s), im rI many_5406.1, im rI wide_5407.1, im rI row_5408.1, im rI column_5409.1, .own none (oLi (tl rC) s_5411.2), im rI x_5412, .any]) (s := s_5421) (x_add (x_mulCl (x_var 2 rfl)) x_int))) (fun _ => rfl) (fun _ _ => rfl)))) (fun s_5420 => (es_of (Γs := fun s => [.own (some p) (oLi (tl rI) s), im rI many_5406.1, im rI wide_5407.1, im rI row_5408.1, im rI column_5409.1, .own none (oLi (tl rC) s_5411.2), im rI x_5412, .any]) (s := s_5420) (x_var 2 rfl)))) (fun place_5413 => (s_appendS (Γs := fun s => [.own (some p) (oLi (tl rI) s), im rI many_5406.1, im rI wide_5407.1, im rI row_5408.1, im rI column_5409.1, .own none (oLi (tl rC) s_5411.2), im rI x_5412, im rI place_5413.1]) (s := place_5413.2) 5 (es_tup (Γs := fun s => [.own (some p) (oLi (tl rI) s), im rI many_5406.1, im rI wide_5407.1, im rI row_5408.1, im rI column_5409.1, .own none (oLi (tl rC) s_5411.2), im rI x_5412, im rI place_5413.1]) (s := place_5413.2) (as_cons (Γs := fun s => [.own (some p) (oLi (tl rI) s), im rI many_5406.1, im rI wide_5407.1, im rI row_5408.1, im rI column_5409.1, .own none (oLi (tl rC) s_5411.2), im rI x_5412, im rI place_5413.1]) (s := place_5413.2) (es_of (Γs := fun s => [.own (some p) (oLi (tl rI) s), im rI many_5406.1, im rI wide_5407.1, im rI row_5408.1, im rI column_5409.1, .own none (oLi (tl rC) s_5411.2), im rI x_5412, im rI place_5413.1]) (s := place_5413.2) (x_var 7 rfl)) (fun s_5416 => (as_one (Γs := fun s => [.own (some p) (oLi (tl rI) s), im rI many_5406.1, im rI wide_5407.1, im rI row_5408.1, im rI column_5409.1, .own none (oLi (tl rC) s_5411.2), im rI x_5412, im rI place_5413.1]) (s := s_5416) (es_bin (Γs := fun s => [.own (some p) (oLi (tl rI) s), im rI many_5406.1, im rI wide_5407.1, im rI row_5408.1, im rI column_5409.1, .own none (oLi (tl rC) s_5411.2), im rI x_5412, im rI place_5413.1]) (s := s_5416) op_sub (dI0 (f := fun i j => i - j)) (es_bin (Γs := fun s => [.own (some p) (oLi (tl rI) s), im rI many_5406.1, im rI wide_5407.1, im rI row_5408.1, im rI column_5409.1, .own none (oLi (tl rC) s_5411.2), im rI x_5412, im rI place_5413.1]) (s := s_5416) op_add (dI0 (f := fun i j => i + j)) (es_of (Γs := fun s => [.own (some p) (oLi (tl rI) s), im rI many_5406.1, im rI wide_5407.1, im rI row_5408.1, im rI column_5409.1, .own none (oLi (tl rC) s_5411.2), im rI x_5412, im rI place_5413.1]) (s := s_5416) (x_var 4 rfl)) (fun s_5418 => (es_callM (Γs := fun s => [.own (some p) (oLi (tl rI) s), im rI many_5406.1, im rI wide_5407.1, im rI row_5408.1, im rI column_5409.1, .own none (oLi (tl rC) s_5411.2), im rI x_5412, im rI place_5413.1]) (s := s_5418) 0 (fun s => s) (fun _ l => l) (w_law_take T) (hr.mono (by decide)) T.g__law_take T.k__law_take T.b__law_take tk (as_one (Γs := fun s => [.own (some p) (oLi (tl rI) s), im rI many_5406.1, im rI wide_5407.1, im rI row_5408.1, im rI column_5409.1, .own none (oLi (tl rC) s_5411.2), im rI x_5412, im rI place_5413.1]) (s := s_5418) (es_of (Γs := fun s => [.own (some p) (oLi (tl rI) s), im rI many_5406.1, im rI wide_5407.1, im rI row_5408.1, im rI column_5409.1, .own none (oLi (tl rC) s_5411.2), im rI x_5412, im rI place_5413.1]) (s := s_5418) (x_add (x_mulCl (x_var 2 rfl)) x_int))) (fun _ => rfl) (fun _ _ => rfl)))) (fun s_5417 => (es_of (Γs := fun s => [.own (some p) (oLi (tl rI) s), im rI many_5406.1, im rI wide_5407.1, im rI row_5408.1, im rI column_5409.1, .own none (oLi (tl rC) s_5411.2), im rI x_5412, im rI place_5413.1]) (s := s_5417) (x_var 2 rfl))))))) (fun _ _ _ h => sz ((nc (fun _ _ _ h => n1 h)) h) (by decide))) (fun w_5414 => (s_go (o := (w_5414.2, (s_5411.2 ++ [w_5414.1]))) rfl (.cons .rfl (.cons .rfl (.cons .rfl (.cons .rfl (.cons .rfl (.cons .rfl (.cons .any (.cons .any .nil)))))))))))))) (.cons .rfl (.cons .rfl (.cons .rfl (.cons .rfl (.cons .rfl (.cons .rfl (.cons .any (.cons .any .nil)))))))) (fun s_5422 => (s_give 5 rfl (p_retS (Γs := fun s => [.own (some p) (oLi (tl rI) s), im rI many_5406.1, im rI wide_5407.1, im rI row_5408.1, im rI column_5409.1, im (rL rC) s_5422.2, .any, .any]) (s := s_5422.1) (fun w => (w.1, w.2)) (fun w => [.own (some p) (oLi (tl rI) w.2)]) (fun _ => rfl) (fun _ => .cons .rfl .nil) (es_tup (Γs := fun s => [.own (some p) (oLi (tl rI) s), im rI many_5406.1, im rI wide_5407.1, im rI row_5408.1, im rI column_5409.1, im (rL rC) s_5422.2, .any, .any]) (s := s_5422.1) (as_cons (Γs := fun s => [.own (some p) (oLi (tl rI) s), im rI many_5406.1, im rI wide_5407.1, im rI row_5408.1, im rI column_5409.1, im (rL rC) s_5422.2, .any, .any]) (s := s_5422.1) (es_of (Γs := fun s => [.own (some p) (oLi (tl rI) s), im rI many_5406.1, im rI wide_5407.1, im rI row_5408.1, im rI column_5409.1, im (rL rC) s_5422.2, .any, .any]) (s := s_5422.1) (x_callTy call_tuple_of dTupL T.n_tuple (by decide +kernel) (a_one (x_frzE (f_sortset T.n_sorted (x_setL (u64 hr) T.n_set (x_var 5 rfl))))))) (fun s_5427 => (as_one (Γs := fun s => [.own (some p) (oLi (tl rI) s), im rI many_5406.1, im rI wide_5407.1, im rI row_5408.1, im rI column_5409.1, im (rL rC) s_5422.2, .any, .any]) (s := s_5427) (es_cmp (Γs := fun s => [.own (some p) (oLi (tl rI) s), im rI many_5406.1, im rI wide_5407.1, im rI row_5408.1, im rI column_5409.1, im (rL rC) s_5422.2, .any, .any]) (s := s_5427) op_eq dEqI (es_callM (Γs := fun s => [.own (some p) (oLi (tl rI) s), im rI many_5406.1, im rI wide_5407.1, im rI row_5408.1, im rI column_5409.1, im (rL rC) s_5422.2, .any, .any]) (s := s_5427) 0 (fun s => s) (fun _ l => l) (w_law_take T) (hr.mono (by decide)) T.g__law_take T.k__law_take T.b__law_take tk (as_one (Γs := fun s => [.own (some p) (oLi (tl rI) s), im rI many_5406.1, im rI wide_5407.1, im rI row_5408.1, im rI column_5409.1, im (rL rC) s_5422.2, .any, .any]) (s := s_5427) (es_of (Γs := fun s => [.own (some p) (oLi (tl rI) s), im rI many_5406.1, im rI wide_5407.1, im rI row_5408.1, im rI column_5409.1, im (rL rC) s_5422.2, .any, .any]) (s := s_5427) x_int)) (fun _ => rfl) (fun _ _ => rfl)) (fun s_5429 => (es_of (Γs := fun s => [.own (some p) (oLi (tl rI) s), im rI many_5406.1, im rI wide_5407.1, im rI row_5408.1, im rI column_5409.1, im (rL rC) s_5422.2, .any, .any]) (s := s_5429) x_int)))))) (fun _ _ _ h => sz ((nc (fun _ _ _ h => n1 h)) h) (by decide)))))))))))))))))) (by unfold m_law_shape; simp only [ok_bindP, ok_calmP, chk_calmP, opt_calmP, R.bind_pure, R.bind_assoc] <;> rfl))
theorem w_law_plan (T : Txt K mg Ad) (fu : Nat) : FnOk P w K mg base (L2.CX P w) (3 + fu) Ad.f_law_plan Ad.d_law_plan ["form"] (SpP mg (t1 rY) (rPl (csl Ad)) (fun a => m_law_plan fu a)) := by
  have hnd := sc_law_plan.nd
  induction fu with
  | zero => exact f_ok (fun a => [im rY a]) T.F__law_plan sc_law_plan ar1 rfl (by decide) (fun _ => rfl) (fun cdv A outer s H E hr tk hp a => SX.cv (s_bad) (by simp only [m_law_plan]))
  | succ fu ih => exact f_ok (fun a => [im rY a]) T.F__law_plan sc_law_plan ar1 rfl (by decide) (fun _ => rfl) (fun cdv A outer s H E hr tk hp a => SX.cv (
    (p_ifT (x_tcmp (op_eqD (u64 hr)) dEqY (x_ix ix_any dIxY (x_var 0 rfl) x_int) (x_cv (cvY yS) x_str)) (p_retf [] (fun _ => rfl) .nil (x_mk0 (mkKeep (List.Mem.head _)) T.mk_Keep T.gc_Keep)) (p_ifT (x_tcmp (op_eqD (u64 hr)) dEqY (x_ix ix_any dIxY (x_var 0 rfl) x_int) (x_cv (cvY yS) x_str)) (p_retf [] (fun _ => rfl) .nil (x_mk0 (mkNothing (List.Mem.tail _ (List.Mem.head _))) T.mk_Nothing T.gc_Nothing)) (p_ifT (x_tcmp (op_eqD (u64 hr)) dEqY (x_ix ix_any dIxY (x_var 0 rfl) x_int) (x_cv (cvY yS) x_str)) (p_retf [] (fun _ => rfl) .nil (x_mk0 (mkEverything (List.Mem.tail _ (List.Mem.tail _ (List.Mem.head _)))) T.mk_Everything T.gc_Everything)) (p_ifT (x_tcmp (op_eqD (u64 hr)) dEqY (x_ix ix_any dIxY (x_var 0 rfl) x_int) (x_cv (cvY yS) x_str)) (p_retf [] (fun _ => rfl) .nil (x_mk2 (mkMove (List.Mem.tail _ (List.Mem.tail _ (List.Mem.tail _ (List.Mem.head _))))) T.mk_Move (w_init_Move T) (hr.mono (Nat.le_add_right_of_le (by decide))) T.gc_Move T.b_Move___init__ (a_cons (x_out (ouTu (ouc ouI (ou1 ouI))) (x_ix ix_any dIxY (x_var 0 rfl) x_int)) (a_one (x_call ih (hr.mono (Nat.le_refl _)) T.g__law_plan T.k__law_plan T.b__law_plan tk .nil (a_one (x_ix ix_any dIxY (x_var 0 rfl) x_int))))))) (p_ifT (x_tcmp (op_eqD (u64 hr)) dEqY (x_ix ix_any dIxY (x_var 0 rfl) x_int) (x_cv (cvY yS) x_str)) (p_retf [] (fun _ => rfl) .nil (x_mk2 (mkEat (List.Mem.tail _ (List.Mem.tail _ (List.Mem.tail _ (List.Mem.tail _ (List.Mem.head _)))))) T.mk_Eat (w_init_Eat T) (hr.mono (Nat.le_add_right_of_le (by decide))) T.gc_Eat T.b_Eat___init__ (a_cons (x_out (ouT (ouTu (ouc ouI (ou1 ouI)))) (x_ix ix_any dIxY (x_var 0 rfl) x_int)) (a_one (x_call ih (hr.mono (Nat.le_refl _)) T.g__law_plan T.k__law_plan T.b__law_plan tk .nil (a_one (x_ix ix_any dIxY (x_var 0 rfl) x_int))))))) (p_ifT (x_tcmp (op_eqD (u64 hr)) dEqY (x_ix ix_any dIxY (x_var 0 rfl) x_int) (x_cv (cvY yS) x_str)) (p_retf [] (fun _ => rfl) .nil (x_mk2 (mkGrow (List.Mem.tail _ (List.Mem.tail _ (List.Mem.tail _ (List.Mem.tail _ (List.Mem.tail _ (List.Mem.head _))))))) T.mk_Grow (w_init_Grow T) (hr.mono (Nat.le_add_right_of_le (by decide))) T.gc_Grow T.b_Grow___init__ (a_cons (x_out (ouT (ouTu (ouc ouI (ou1 ouI)))) (x_ix ix_any dIxY (x_var 0 rfl) x_int)) (a_one (x_call ih (hr.mono (Nat.le_refl _)) T.g__law_plan T.k__law_plan T.b__law_plan tk .nil (a_one (x_ix ix_any dIxY (x_var 0 rfl) x_int))))))) (p_ifT (x_tcmp (op_eqD (u64 hr)) dEqY (x_ix ix_any dIxY (x_var 0 rfl) x_int) (x_cv (cvY yS) x_str)) (p_retf [] (fun _ => rfl) .nil (x_mk2 (mkBoth (List.Mem.tail _ (List.Mem.tail _ (List.Mem.tail _ (List.Mem.tail _ (List.Mem.tail _ (List.Mem.tail _ (List.Mem.head _)))))))) T.mk_Both (w_init_Both T) (hr.mono (Nat.le_add_right_of_le (by decide))) T.gc_Both T.b_Both___init__ (a_cons (x_call ih (hr.mono (Nat.le_refl _)) T.g__law_plan T.k__law_plan T.b__law_plan tk .nil (a_one (x_ix ix_any dIxY (x_var 0 rfl) x_int))) (a_one (x_call ih (hr.mono (Nat.le_refl _)) T.g__law_plan T.k__law_plan T.b__law_plan tk .nil (a_one (x_ix ix_any dIxY (x_var 0 rfl) x_int))))))) (p_retf [] (fun _ => rfl) .nil (x_mk2 (mkEither (List.Mem.tail _ (List.Mem.tail _ (List.Mem.tail _ (List.Mem.tail _ (List.Mem.tail _ (List.Mem.tail _ (List.Mem.tail _ (List.Mem.head _))))))))) T.mk_Either (w_init_Either T) (hr.mono (Nat.le_add_right_of_le (by decide))) T.gc_Either T.b_Either___init__ (a_cons (x_call ih (hr.mono (Nat.le_refl _)) T.g__law_plan T.k__law_plan T.b__law_plan tk .nil (a_one (x_ix ix_any dIxY (x_var 0 rfl) x_int))) (a_one (x_call ih (hr.mono (Nat.le_refl _)) T.g__law_plan T.k__law_plan T.b__law_plan tk .nil (a_one (x_ix ix_any dIxY (x_var 0 rfl) x_int))))))))))))))) (by simp only [m_law_plan, ok_bindP, ok_calmP, chk_calmP, opt_calmP, R.bind_pure, R.bind_assoc] <;> rfl))
theorem w_Keep_put_behind (T : Txt K mg Ad) : FnOk P w K mg base (L2.CX P w) 1 Ad.fKeep_put_behind Ad.dKeep_put_behind ["self", "one"] (SpP mg (tc (rPl (csl Ad)) (t1 (rPl (csl Ad)))) (rPl (csl Ad)) (fun a => m_Keep_put_behind a.1 a.2)) :=
  have hnd := scKeep_put_behind.nd
  f_ok (fun a => [im (rPl (csl Ad)) a.1, im (rPl (csl Ad)) a.2]) T.F_Keep_put_behind scKeep_put_behind (arc ar1) rfl (by decide) (fun _ => rfl) (fun cdv A outer s H E hr tk hp a => SX.cv (
    (p_retf [] (fun _ => rfl) .nil (x_var 1 rfl))) (by unfold m_Keep_put_behind; simp only [ok_bindP, ok_calmP, chk_calmP, opt_calmP, R.bind_pure, R.bind_assoc] <;> rfl))
theorem w_Plan_put_behind (T : Txt K mg Ad) : FnOk P w K mg base (L2.CX P w) 1 Ad.fPlan_put_behind Ad.dPlan_put_behind ["self", "one"] (SpP mg (tc (rPl (csl Ad)) (t1 (rPl (csl Ad)))) (rPl (csl Ad)) (fun a => m_Plan_put_behind a.1 a.2)) :=
  have hnd := scPlan_put_behind.nd
  f_ok (fun a => [im (rPl (csl Ad)) a.1, im (rPl (csl Ad)) a.2]) T.F_Plan_put_behind scPlan_put_behind (arc ar1) rfl (by decide) (fun _ => rfl) (fun cdv A outer s H E hr tk hp a => SX.cv (
    (p_retf [] (fun _ => rfl) .nil (x_var 0 rfl))) (by unfold m_Plan_put_behind; simp only [ok_bindP, ok_calmP, chk_calmP, opt_calmP, R.bind_pure, R.bind_assoc] <;> rfl))
theorem w_Move_put_behind (T : Txt K mg Ad) {L : Nat} (hL : 2 ≤ L) {D : Pl → Pl → R Pl} (ih : MethD P w K mg base (csl Ad) "put_behind" L (tc (rPl (csl Ad)) (t1 (rPl (csl Ad)))) (SpP mg (tc (rPl (csl Ad)) (t1 (rPl (csl Ad)))) (rPl (csl Ad))) (fun x => x.1) (fun a => D a.1 a.2)) : FnOk P w K mg base (L2.CX P w) (L + 1) Ad.fMove_put_behind Ad.dMove_put_behind ["self", "one"] (SpP mg (tc (rPl (csl Ad)) (t1 (rPl (csl Ad)))) (rPl (csl Ad)) (fun a => m_Move_put_behind D a.1 a.2)) :=
  have hnd := scMove_put_behind.nd
  f_ok (fun a => [im (rPl (csl Ad)) a.1, im (rPl (csl Ad)) a.2]) T.F_Move_put_behind scMove_put_behind (arc ar1) rfl (by decide) (fun _ => rfl) (fun cdv A outer s H E hr tk hp a => SX.cv (
    (p_retf [] (fun _ => rfl) .nil (x_mk2 (mkMove (List.Mem.tail _ (List.Mem.tail _ (List.Mem.tail _ (List.Mem.head _))))) T.mk_Move (w_init_Move T) (hr.mono (by omega)) T.gc_Move T.b_Move___init__ (a_cons (x_fld (fldStep _) T.pl (x_var 0 rfl)) (a_one (x_meth ih T.pl (hr.mono (by omega)) tk .nil (by decide +kernel) (x_fld (fldPlan _) T.pl (x_var 0 rfl)) (a_one (x_var 1 rfl)))))))) (by unfold m_Move_put_behind; simp only [ok_bindP, ok_calmP, chk_calmP, opt_calmP, R.bind_pure, R.bind_assoc] <;> rfl))
theorem w_Eat_put_behind (T : Txt K mg Ad) {L : Nat} (hL : 2 ≤ L) {D : Pl → Pl → R Pl} (ih : MethD P w K mg base (csl Ad) "put_behind" L (tc (rPl (csl Ad)) (t1 (rPl (csl Ad)))) (SpP mg (tc (rPl (csl Ad)) (t1 (rPl (csl Ad)))) (rPl (csl Ad))) (fun x => x.1) (fun a => D a.1 a.2)) : FnOk P w K mg base (L2.CX P w) (L + 1) Ad.fEat_put_behind Ad.dEat_put_behind ["self", "one"] (SpP mg (tc (rPl (csl Ad)) (t1 (rPl (csl Ad)))) (rPl (csl Ad)) (fun a => m_Eat_put_behind D a.1 a.2)) :=
  have hnd := scEat_put_behind.nd
  f_ok (fun a => [im (rPl (csl Ad)) a.1, im (rPl (csl Ad)) a.2]) T.F_Eat_put_behind scEat_put_behind (arc ar1) rfl (by decide) (fun _ => rfl) (fun cdv A outer s H E hr tk hp a => SX.cv (
    (p_retf [] (fun _ => rfl) .nil (x_mk2 (mkEat (List.Mem.tail _ (List.Mem.tail _ (List.Mem.tail _ (List.Mem.tail _ (List.Mem.head _)))))) T.mk_Eat (w_init_Eat T) (hr.mono (by omega)) T.gc_Eat T.b_Eat___init__ (a_cons (x_fld (fldPiece _) T.pl (x_var 0 rfl)) (a_one (x_meth ih T.pl (hr.mono (by omega)) tk .nil (by decide +kernel) (x_fld (fldPlan _) T.pl (x_var 0 rfl)) (a_one (x_var 1 rfl)))))))) (by unfold m_Eat_put_behind; simp only [ok_bindP, ok_calmP, chk_calmP, opt_calmP, R.bind_pure, R.bind_assoc] <;> rfl))
theorem w_Grow_put_behind (T : Txt K mg Ad) {L : Nat} (hL : 2 ≤ L) {D : Pl → Pl → R Pl} (ih : MethD P w K mg base (csl Ad) "put_behind" L (tc (rPl (csl Ad)) (t1 (rPl (csl Ad)))) (SpP mg (tc (rPl (csl Ad)) (t1 (rPl (csl Ad)))) (rPl (csl Ad))) (fun x => x.1) (fun a => D a.1 a.2)) : FnOk P w K mg base (L2.CX P w) (L + 1) Ad.fGrow_put_behind Ad.dGrow_put_behind ["self", "one"] (SpP mg (tc (rPl (csl Ad)) (t1 (rPl (csl Ad)))) (rPl (csl Ad)) (fun a => m_Grow_put_behind D a.1 a.2)) :=
  have hnd := scGrow_put_behind.nd
  f_ok (fun a => [im (rPl (csl Ad)) a.1, im (rPl (csl Ad)) a.2]) T.F_Grow_put_behind scGrow_put_behind (arc ar1) rfl (by decide) (fun _ => rfl) (fun cdv A outer s H E hr tk hp a => SX.cv (
    (p_retf [] (fun _ => rfl) .nil (x_mk2 (mkGrow (List.Mem.tail _ (List.Mem.tail _ (List.Mem.tail _ (List.Mem.tail _ (List.Mem.tail _ (List.Mem.head _))))))) T.mk_Grow (w_init_Grow T) (hr.mono (by omega)) T.gc_Grow T.b_Grow___init__ (a_cons (x_fld (fldPiece _) T.pl (x_var 0 rfl)) (a_one (x_meth ih T.pl (hr.mono (by omega)) tk .nil (by decide +kernel) (x_fld (fldPlan _) T.pl (x_var 0 rfl)) (a_one (x_var 1 rfl)))))))) (by unfold m_Grow_put_behind; simp only [ok_bindP, ok_calmP, chk_calmP, opt_calmP, R.bind_pure, R.bind_assoc] <;> rfl))
theorem w_Both_put_behind (T : Txt K mg Ad) {L : Nat} (hL : 2 ≤ L) {D : Pl → Pl → R Pl} (ih : MethD P w K mg base (csl Ad) "put_behind" L (tc (rPl (csl Ad)) (t1 (rPl (csl Ad)))) (SpP mg (tc (rPl (csl Ad)) (t1 (rPl (csl Ad)))) (rPl (csl Ad))) (fun x => x.1) (fun a => D a.1 a.2)) : FnOk P w K mg base (L2.CX P w) (L + 1) Ad.fBoth_put_behind Ad.dBoth_put_behind ["self", "one"] (SpP mg (tc (rPl (csl Ad)) (t1 (rPl (csl Ad)))) (rPl (csl Ad)) (fun a => m_Both_put_behind D a.1 a.2)) :=
  have hnd := scBoth_put_behind.nd
  f_ok (fun a => [im (rPl (csl Ad)) a.1, im (rPl (csl Ad)) a.2]) T.F_Both_put_behind scBoth_put_behind (arc ar1) rfl (by decide) (fun _ => rfl) (fun cdv A outer s H E hr tk hp a => SX.cv (
    (p_retf [] (fun _ => rfl) .nil (x_mk2 (mkBoth (List.Mem.tail _ (List.Mem.tail _ (List.Mem.tail _ (List.Mem.tail _ (List.Mem.tail _ (List.Mem.tail _ (List.Mem.head _)))))))) T.mk_Both (w_init_Both T) (hr.mono (by omega)) T.gc_Both T.b_Both___init__ (a_cons (x_meth ih T.pl (hr.mono (by omega)) tk .nil (by decide +kernel) (x_fld (fldOne _) T.pl (x_var 0 rfl)) (a_one (x_var 1 rfl))) (a_one (x_meth ih T.pl (hr.mono (by omega)) tk .nil (by decide +kernel) (x_fld (fldOther _) T.pl (x_var 0 rfl)) (a_one (x_var 1 rfl)))))))) (by unfold m_Both_put_behind; simp only [ok_bindP, ok_calmP, chk_calmP, opt_calmP, R.bind_pure, R.bind_assoc] <;> rfl))
theorem w_Either_put_behind (T : Txt K mg Ad) {L : Nat} (hL : 2 ≤ L) {D : Pl → Pl → R Pl} (ih : MethD P w K mg base (csl Ad) "put_behind" L (tc (rPl (csl Ad)) (t1 (rPl (csl Ad)))) (SpP mg (tc (rPl (csl Ad)) (t1 (rPl (csl Ad)))) (rPl (csl Ad))) (fun x => x.1) (fun a => D a.1 a.2)) : FnOk P w K mg base (L2.CX P w) (L + 1) Ad.fEither_put_behind Ad.dEither_put_behind ["self", "one"] (SpP mg (tc (rPl (csl Ad)) (t1 (rPl (csl Ad)))) (rPl (csl Ad)) (fun a => m_Either_put_behind D a.1 a.2)) :=
  have hnd := scEither_put_behind.nd
  f_ok (fun a => [im (rPl (csl Ad)) a.1, im (rPl (csl Ad)) a.2]) T.F_Either_put_behind scEither_put_behind (arc ar1) rfl (by decide) (fun _ => rfl) (fun cdv A outer s H E hr tk hp a => SX.cv (
    (p_retf [] (fun _ => rfl) .nil (x_mk2 (mkEither (List.Mem.tail _ (List.Mem.tail _ (List.Mem.tail _ (List.Mem.tail _ (List.Mem.tail _ (List.Mem.tail _ (List.Mem.tail _ (List.Mem.head _))))))))) T.mk_Either (w_init_Either T) (hr.mono (by omega)) T.gc_Either T.b_Either___init__ (a_cons (x_meth ih T.pl (hr.mono (by omega)) tk .nil (by decide +kernel) (x_fld (fldOne _) T.pl (x_var 0 rfl)) (a_one (x_var 1 rfl))) (a_one (x_meth ih T.pl (hr.mono (by omega)) tk .nil (by decide +kernel) (x_fld (fldOther _) T.pl (x_var 0 rfl)) (a_one (x_var 1 rfl)))))))) (by unfold m_Either_put_behind; simp only [ok_bindP, ok_calmP, chk_calmP, opt_calmP, R.bind_pure, R.bind_assoc] <;> rfl))
theorem w_D_put_behind (T : Txt K mg Ad) (fu : Nat) : MethD P w K mg base (csl Ad) "put_behind" (2 + 1 * fu) (tc (rPl (csl Ad)) (t1 (rPl (csl Ad)))) (SpP mg (tc (rPl (csl Ad)) (t1 (rPl (csl Ad)))) (rPl (csl Ad))) (fun x => x.1) (fun a => m_D_put_behind fu a.1 a.2) := by
  induction fu with
  | zero => exact ⟨(pl_cons ⟨_, T.mt_Keep_put_behind, .inl fun x _ => by simp only [m_D_put_behind]⟩ (pl_cons ⟨_, T.mt_Nothing_put_behind, .inl fun x _ => by simp only [m_D_put_behind]⟩ (pl_cons ⟨_, T.mt_Everything_put_behind, .inl fun x _ => by simp only [m_D_put_behind]⟩ (pl_cons ⟨_, T.mt_Move_put_behind, .inl fun x _ => by simp only [m_D_put_behind]⟩ (pl_cons ⟨_, T.mt_Eat_put_behind, .inl fun x _ => by simp only [m_D_put_behind]⟩ (pl_cons ⟨_, T.mt_Grow_put_behind, .inl fun x _ => by simp only [m_D_put_behind]⟩ (pl_cons ⟨_, T.mt_Both_put_behind, .inl fun x _ => by simp only [m_D_put_behind]⟩ (pl_cons ⟨_, T.mt_Either_put_behind, .inl fun x _ => by simp only [m_D_put_behind]⟩ pl_nil))))))))⟩
  | succ fu ih => exact ⟨(pl_cons ⟨_, T.mt_Keep_put_behind, .inr ⟨_, _, _, _, (by omega), T.b_Keep_put_behind, w_Keep_put_behind T, fun x hx => by simp only [m_D_put_behind, hx]⟩⟩ (pl_cons ⟨_, T.mt_Nothing_put_behind, .inr ⟨_, _, _, _, (by omega), T.b_Plan_put_behind, w_Plan_put_behind T, fun x hx => by simp only [m_D_put_behind, hx]⟩⟩ (pl_cons ⟨_, T.mt_Everything_put_behind, .inr ⟨_, _, _, _, (by omega), T.b_Plan_put_behind, w_Plan_put_behind T, fun x hx => by simp only [m_D_put_behind, hx]⟩⟩ (pl_cons ⟨_, T.mt_Move_put_behind, .inr ⟨_, _, _, _, (by omega), T.b_Move_put_behind, w_Move_put_behind T (Nat.le_add_right _ _) ih, fun x hx => by simp only [m_D_put_behind, hx]⟩⟩ (pl_cons ⟨_, T.mt_Eat_put_behind, .inr ⟨_, _, _, _, (by omega), T.b_Eat_put_behind, w_Eat_put_behind T (Nat.le_add_right _ _) ih, fun x hx => by simp only [m_D_put_behind, hx]⟩⟩ (pl_cons ⟨_, T.mt_Grow_put_behind, .inr ⟨_, _, _, _, (by omega), T.b_Grow_put_behind, w_Grow_put_behind T (Nat.le_add_right _ _) ih, fun x hx => by simp only [m_D_put_behind, hx]⟩⟩ (pl_cons ⟨_, T.mt_Both_put_behind, .inr ⟨_, _, _, _, (by omega), T.b_Both_put_behind, w_Both_put_behind T (Nat.le_add_right _ _) ih, fun x hx => by simp only [m_D_put_behind, hx]⟩⟩ (pl_cons ⟨_, T.mt_Either_put_behind, .inr ⟨_, _, _, _, (by omega), T.b_Either_put_behind, w_Either_put_behind T (Nat.le_add_right _ _) ih, fun x hx => by simp only [m_D_put_behind, hx]⟩⟩ pl_nil))))))))⟩
theorem w_Plan_parts_in (T : Txt K mg Ad) : FnOk P w K mg base (L2.CX P w) 1 Ad.fPlan_parts_in Ad.dPlan_parts_in ["self"] (SpP mg (t1 (rPl (csl Ad))) (rL (rPl (csl Ad))) (fun a => m_Plan_parts_in a)) :=
  have hnd := scPlan_parts_in.nd
  f_ok (fun a => [im (rPl (csl Ad)) a]) T.F_Plan_parts_in scPlan_parts_in ar1 rfl (by decide) (fun _ => rfl) (fun cdv A outer s H E hr tk hp a => SX.cv (
    (p_retf [] (fun _ => rfl) .nil (x_frzE (f_nil (ρ := (rPl (csl Ad))))))) (by unfold m_Plan_parts_in; simp only [ok_bindP, ok_calmP, chk_calmP, opt_calmP, R.bind_pure, R.bind_assoc] <;> rfl))
theorem w_Move_parts_in (T : Txt K mg Ad) : FnOk P w K mg base (L2.CX P w) 1 Ad.fMove_parts_in Ad.dMove_parts_in ["self"] (SpP mg (t1 (rPl (csl Ad))) (rL (rPl (csl Ad))) (fun a => m_Move_parts_in a)) :=
  have hnd := scMove_parts_in.nd
  f_ok (fun a => [im (rPl (csl Ad)) a]) T.F_Move_parts_in scMove_parts_in ar1 rfl (by decide) (fun _ => rfl) (fun cdv A outer s H E hr tk hp a => SX.cv (
    (p_retf [] (fun _ => rfl) .nil (x_frzE (f_listN (k := 1) (ln_cons (x_fld (fldPlan _) T.pl (x_var 0 rfl)) ln_nil))))) (by unfold m_Move_parts_in; simp only [ok_bindP, ok_calmP, chk_calmP, opt_calmP, R.bind_pure, R.bind_assoc] <;> rfl))
theorem w_Eat_parts_in (T : Txt K mg Ad) : FnOk P w K mg base (L2.CX P w) 1 Ad.fEat_parts_in Ad.dEat_parts_in ["self"] (SpP mg (t1 (rPl (csl Ad))) (rL (rPl (csl Ad))) (fun a => m_Eat_parts_in a)) :=
  have hnd := scEat_parts_in.nd
  f_ok (fun a => [im (rPl (csl Ad)) a]) T.F_Eat_parts_in scEat_parts_in ar1 rfl (by decide) (fun _ => rfl) (fun cdv A outer s H E hr tk hp a => SX.cv (
    (p_retf [] (fun _ => rfl) .nil (x_frzE (f_listN (k := 1) (ln_cons (x_fld (fldPlan _) T.pl (x_var 0 rfl)) ln_nil))))) (by unfold m_Eat_parts_in; simp only [ok_bindP, ok_calmP, chk_calmP, opt_calmP, R.bind_pure, R.bind_assoc] <;> rfl))
theorem w_Grow_parts_in (T : Txt K mg Ad) : FnOk P w K mg base (L2.CX P w) 1 Ad.fGrow_parts_in Ad.dGrow_parts_in ["self"] (SpP mg (t1 (rPl (csl Ad))) (rL (rPl (csl Ad))) (fun a => m_Grow_parts_in a)) :=
  have hnd := scGrow_parts_in.nd
  f_ok (fun a => [im (rPl (csl Ad)) a]) T.F_Grow_parts_in scGrow_parts_in ar1 rfl (by decide) (fun _ => rfl) (fun cdv A outer s H E hr tk hp a => SX.cv (
    (p_retf [] (fun _ => rfl) .nil (x_frzE (f_listN (k := 1) (ln_cons (x_fld (fldPlan _) T.pl (x_var 0 rfl)) ln_nil))))) (by unfold m_Grow_parts_in; simp only [ok_bindP, ok_calmP, chk_calmP, opt_calmP, R.bind_pure, R.bind_assoc] <;> rfl))
theorem w_Both_parts_in (T : Txt K mg Ad) : FnOk P w K mg base (L2.CX P w) 1 Ad.fBoth_parts_in Ad.dBoth_parts_in ["self"] (SpP mg (t1 (rPl (csl Ad))) (rL (rPl (csl Ad))) (fun a => m_Both_parts_in a)) :=
  have hnd := scBoth_parts_in.nd
  f_ok (fun a => [im (rPl (csl Ad)) a]) T.F_Both_parts_in scBoth_parts_in ar1 rfl (by decide) (fun _ => rfl) (fun cdv A outer s H E hr tk hp a => SX.cv (
    (p_retf [] (fun _ => rfl) .nil (x_frzE (f_listN (k := 2) (ln_cons (x_fld (fldOne _) T.pl (x_var 0 rfl)) (ln_cons (x_fld (fldOther _) T.pl (x_var 0 rfl)) ln_nil)))))) (by unfold m_Both_parts_in; simp only [ok_bindP, ok_calmP, chk_calmP, opt_calmP, R.bind_pure, R.bind_assoc] <;> rfl))
theorem w_Either_parts_in (T : Txt K mg Ad) : FnOk P w K mg base (L2.CX P w) 1 Ad.fEither_parts_in Ad.dEither_parts_in ["self"] (SpP mg (t1 (rPl (csl Ad))) (rL (rPl (csl Ad))) (fun a => m_Either_parts_in a)) :=
  have hnd := scEither_parts_in.nd
  f_ok (fun a => [im (rPl (csl Ad)) a]) T.F_Either_parts_in scEither_parts_in ar1 rfl (by decide) (fun _ => rfl) (fun cdv A outer s H E hr tk hp a => SX.cv (
    (p_retf [] (fun _ => rfl) .nil (x_frzE (f_listN (k := 2) (ln_cons (x_fld (fldOne _) T.pl (x_var 0 rfl)) (ln_cons (x_fld (fldOther _) T.pl (x_var 0 rfl)) ln_nil)))))) (by unfold m_Either_parts_in; simp only [ok_bindP, ok_calmP, chk_calmP, opt_calmP, R.bind_pure, R.bind_assoc] <;> rfl))
theorem w_D_parts_in (T : Txt K mg Ad) : MethD P w K mg base (csl Ad) "parts_in" 1 (t1 (rPl (csl Ad))) (SpP mg (t1 (rPl (csl Ad))) (rL (rPl (csl Ad)))) (fun x => x) (fun a => m_D_parts_in a) :=
  ⟨(pl_cons ⟨_, T.mt_Keep_parts_in, .inr ⟨_, _, _, _, (by decide), T.b_Plan_parts_in, w_Plan_parts_in T, fun x hx => by simp only [m_D_parts_in, hx]⟩⟩ (pl_cons ⟨_, T.mt_Nothing_parts_in, .inr ⟨_, _, _, _, (by decide), T.b_Plan_parts_in, w_Plan_parts_in T, fun x hx => by simp only [m_D_parts_in, hx]⟩⟩ (pl_cons ⟨_, T.mt_Everything_parts_in, .inr ⟨_, _, _, _, (by decide), T.b_Plan_parts_in, w_Plan_parts_in T, fun x hx => by simp only [m_D_parts_in, hx]⟩⟩ (pl_cons ⟨_, T.mt_Move_parts_in, .inr ⟨_, _, _, _, (by decide), T.b_Move_parts_in, w_Move_parts_in T, fun x hx => by simp only [m_D_parts_in, hx]⟩⟩ (pl_cons ⟨_, T.mt_Eat_parts_in, .inr ⟨_, _, _, _, (by decide), T.b_Eat_parts_in, w_Eat_parts_in T, fun x hx => by simp only [m_D_parts_in, hx]⟩⟩ (pl_cons ⟨_, T.mt_Grow_parts_in, .inr ⟨_, _, _, _, (by decide), T.b_Grow_parts_in, w_Grow_parts_in T, fun x hx => by simp only [m_D_parts_in, hx]⟩⟩ (pl_cons ⟨_, T.mt_Both_parts_in, .inr ⟨_, _, _, _, (by decide), T.b_Both_parts_in, w_Both_parts_in T, fun x hx => by simp only [m_D_parts_in, hx]⟩⟩ (pl_cons ⟨_, T.mt_Either_parts_in, .inr ⟨_, _, _, _, (by decide), T.b_Either_parts_in, w_Either_parts_in T, fun x hx => by simp only [m_D_parts_in, hx]⟩⟩ pl_nil))))))))⟩
theorem w_many_in (T : Txt K mg Ad) (fu : Nat) : FnOk P w K mg base (L2.CX P w) (2 + fu) Ad.fmany_in Ad.dmany_in ["plan"] (SpP mg (t1 (rPl (csl Ad))) rI (fun a => m_many_in fu a)) := by
  have hnd := scmany_in.nd
  induction fu with
  | zero => exact f_ok (fun a => [im (rPl (csl Ad)) a, .any]) T.F_many_in scmany_in ar1 rfl (by decide) (fun _ => rfl) (fun cdv A outer s H E hr tk hp a => SX.cv (s_bad) (by simp only [m_many_in]))
  | succ fu ih => exact f_ok (fun a => [im (rPl (csl Ad)) a, .any]) T.F_many_in scmany_in ar1 rfl (by decide) (fun _ => rfl) (fun cdv A outer s H E hr tk hp a => SX.cv (
    (p_retf [] (fun _ => rfl) .nil (x_add x_int (x_callB (cr_sum rfl) dSum T.n_sum (by decide +kernel) (a_one (x_frzE (f_lcM (own := [("part", 1)]) hnd (i_list (x_meth0 (w_D_parts_in T) T.pl (hr.mono (Nat.le_add_right_of_le (by decide))) tk .nil (by decide +kernel) (x_var 0 rfl))) (blkOk_by (N := Nmany_in) (sc := defScope smany_in) (by decide +kernel)) (fun _ _ _ _ _ => (gt_name 1 (by decide) hnd)) (fun _ _ _ _ _ y_5614 => (x_call ih (hr.mono (Nat.le_refl _)) T.g_many_in T.k_many_in T.b_many_in takes0 .nil (a_one (x_var 1 rfl))))))))))) (by simp only [m_many_in, ok_bindP, ok_calmP, chk_calmP, opt_calmP, R.bind_pure, R.bind_assoc] <;> rfl))
theorem w_deep (T : Txt K mg Ad) (fu : Nat) : FnOk P w K mg base (L2.CX P w) (2 + fu) Ad.fdeep Ad.ddeep ["plan"] (SpP mg (t1 (rPl (csl Ad))) rI (fun a => m_deep fu a)) := by
  have hnd := scdeep.nd
  induction fu with
  | zero => exact f_ok (fun a => [im (rPl (csl Ad)) a, .any]) T.F_deep scdeep ar1 rfl (by decide) (fun _ => rfl) (fun cdv A outer s H E hr tk hp a => SX.cv (s_bad) (by simp only [m_deep]))
  | succ fu ih => exact f_ok (fun a => [im (rPl (csl Ad)) a, .any]) T.F_deep scdeep ar1 rfl (by decide) (fun _ => rfl) (fun cdv A outer s H E hr tk hp a => SX.cv (
    (p_retf [] (fun _ => rfl) .nil (x_add x_int (x_maxDf 0 (u64 hr) T.n_max (x_frzE (f_lcM (own := [("part", 1)]) hnd (i_list (x_meth0 (w_D_parts_in T) T.pl (hr.mono (Nat.le_add_right_of_le (by decide))) tk .nil (by decide +kernel) (x_var 0 rfl))) (blkOk_by (N := Ndeep) (sc := defScope sdeep) (by decide +kernel)) (fun _ _ _ _ _ => (gt_name 1 (by decide) hnd)) (fun _ _ _ _ _ y_5629 => (x_call ih (hr.mono (Nat.le_refl _)) T.g_deep T.k_deep T.b_deep takes0 .nil (a_one (x_var 1 rfl)))))))))) (by simp only [m_deep, ok_bindP, ok_calmP, chk_calmP, opt_calmP, R.bind_pure, R.bind_assoc] <;> rfl))
theorem w_let_by (T : Txt K mg Ad) : FnOk P w K mg base (L2.CX P w) 63 Ad.flet_by Ad.dlet_by ["plan"] (SpP mg (t1 (rPl (csl Ad))) (rPl (csl Ad)) (fun a => m_let_by a)) :=
  have hnd := sclet_by.nd
  f_ok (fun a => [im (rPl (csl Ad)) a]) T.F_let_by sclet_by ar1 rfl (by decide) (fun _ => rfl) (fun cdv A outer s H E hr tk hp a => SX.cv (
    (p_ifT (x_w (w_or (x_tcmp op_gt dIb (x_call (w_many_in T 60) (hr.mono (by decide)) T.g_many_in T.k_many_in T.b_many_in tk .nil (a_one (x_var 0 rfl))) (x_globI T.c_MOST_PLANS)) (w_or1 (x_tcmp op_gt dIb (x_call (w_deep T 60) (hr.mono (by decide)) T.g_deep T.k_deep T.b_deep tk .nil (a_one (x_var 0 rfl))) (x_globI T.c_DEEPEST))))) (p_raiseX T.x_TooMany tk .nil) (p_retf [] (fun _ => rfl) .nil (x_var 0 rfl)))) (by unfold m_let_by; simp only [ok_bindP, ok_calmP, chk_calmP, opt_calmP, R.bind_pure, R.bind_assoc] <;> rfl))
theorem w_after (T : Txt K mg Ad) : FnOk P w K mg base (L2.CX P w) 64 Ad.fafter Ad.dafter ["one", "other"] (SpP mg (tc (rPl (csl Ad)) (t1 (rPl (csl Ad)))) (rPl (csl Ad)) (fun a => m_after a.1 a.2)) :=
  have hnd := scafter.nd
  f_ok (fun a => [im (rPl (csl Ad)) a.1, im (rPl (csl Ad)) a.2]) T.F_after scafter (arc ar1) rfl (by decide) (fun _ => rfl) (fun cdv A outer s H E hr tk hp a => SX.cv (
    (p_retf [] (fun _ => rfl) .nil (x_call (w_let_by T) (hr.mono (by decide)) T.g_let_by T.k_let_by T.b_let_by tk .nil (a_one (x_meth (w_D_put_behind T 20) T.pl (hr.mono (by decide)) tk .nil (by decide +kernel) (x_var 1 rfl) (a_one (x_var 0 rfl))))))) (by unfold m_after; simp only [ok_bindP, ok_calmP, chk_calmP, opt_calmP, R.bind_pure, R.bind_assoc] <;> rfl))
theorem w_law_kind (T : Txt K mg Ad) {a : Addr} {oe : Obj} {cl : Value} {d : Option Addr} {r : Er} (hz : Zc cl d oe) (hf : ∃ vs, oe.data = .fields vs) (hc : ∃ C, mg r.cls = some (.ref C) ∧ cl = .ref C) (hd : d = none) : FnE P w K mg base 1 Ad.f_law_kind Ad.d_law_kind ["error"] (a, oe) (SpP mg (t1 (rExc a)) rS fun _ => (m_law_kind r).calm) :=
  f_okE T.F__law_kind sc_law_kind (by decide) (fun cdv A outer s H E hr => SX.cv (
    (p_ifT (x_w (w_or (x_tnot (x_test (x_isEp 0 (fun s => if s = ("TooMany" : Str) then some true else none) (List.Mem.head _) hz hf hc hd T.n_isinstance (nm_own T.gc_TooMany) (ct_cons T.x_TooMany.g ⟨T.x_TooMany.c, T.i_TooMany_TooMany⟩ ct_nil)))) (w_or (x_tnot (x_test (x_isEp 0 (fun s => if s = ("TooMany" : Str) then some true else none) (List.Mem.head _) hz hf hc hd T.n_isinstance (nm_blt T.n_ValueError (by decide +kernel)) (ct_cons T.x_TooMany.g ⟨T.x_TooMany.c, T.i_TooMany_ValueError⟩ ct_nil)))) (w_or1 (x_test (x_isETp 0 (fun s => if s = ("TooMany" : Str) then some false else none) (List.Mem.head _) hz hf hc hd T.n_isinstance (.cons (nm_own T.gc_BadCell) (.cons (nm_own T.gc_BadPiece) .nil rfl) rfl) (Nat.le_of_ble_eq_true rfl) (ct_cons T.x_TooMany.g ⟨T.x_TooMany.c, T.t_TooMany_BadCell_BadPiece⟩ ct_nil))))))) (p_retf [] (fun _ => rfl) .nil x_str) (p_retf [] (fun _ => rfl) .nil x_str))) (by unfold m_law_kind; simp only [ok_bindP, ok_calmP, chk_calmP, opt_calmP, R.bind_pure, R.bind_assoc] <;> rfl))
theorem w_law_asked (T : Txt K mg Ad) : FnOk P w K mg base (L2.CX P w) 65 Ad.f_law_asked Ad.d_law_asked ["way", "one", "other"] (SpP mg (tc rI (tc (rPl (csl Ad)) (t1 (rPl (csl Ad))))) (rQ (csl Ad)) (fun a => m_law_asked a.1 a.2.1 a.2.2)) :=
  have hnd := sc_law_asked.nd
  f_ok (fun a => [im rI a.1, im (rPl (csl Ad)) a.2.1, im (rPl (csl Ad)) a.2.2, .any, .any]) T.F__law_asked sc_law_asked (arc (arc ar1)) rfl (by decide) (fun _ => rfl) (fun cdv A outer s H E hr tk hp a => SX.cv (
    (p_set 3 hnd (x_nonO (ρ := (rQ (csl Ad)))) (fun found_5657 => (p_tryAs 4 (fun s => if s = ("TooMany" : Str) then some true else none) [im rI a.1, im (rPl (csl Ad)) a.2.1, im (rPl (csl Ad)) a.2.2, im (rO (rQ (csl Ad))) found_5657, .any] (fun (s : Option (Sum Str Pl)) => [im rI a.1, im (rPl (csl Ad)) a.2.1, im (rPl (csl Ad)) a.2.2, im (rO (rQ (csl Ad))) s, .any]) hnd T.gc_MossError tk .nil (ct_cons T.x_TooMany.g T.e_TooMany_MossError ct_nil) (fun W_5658 pn_5659 xe_5660 tk_5661 hp_5662 => (p_if2 (x_tcmp op_eq dEqI (x_var 0 rfl) x_int) (p_set 3 hnd (x_cv (cvS cvQR) (x_call (w_after T) (hr.mono (by decide)) T.g_after T.k_after T.b_after tk_5661 (.cons .rfl (.cons .rfl (.cons .rfl (.cons .rfl (.cons .any .nil))))) (a_cons (x_var 1 rfl) (a_one (x_var 2 rfl))))) (fun found_5674 => (s_nx (o := found_5674) rfl (.cons .rfl (.cons .rfl (.cons .rfl (.cons .rfl (.cons .any .nil)))))))) (p_if2 (x_tcmp op_eq dEqI (x_var 0 rfl) x_int) s_bad s_bad))) (fun a_5663 oe_5664 cl_5665 d_5666 pn_5667 r_5668 hz_5669 hf_5670 hc_5671 hd_5672 => (p_set 3 hnd (x_cv (cvS cvQL) (x_callE 4 (w_law_kind T hz_5669 hf_5670 hc_5671 hd_5672) (roomE (hr.mono (by decide))) (List.Mem.head _) T.g__law_kind T.k__law_kind T.b__law_kind)) (fun found_5676 => (s_nx (o := found_5676) rfl (.cons .rfl (.cons .rfl (.cons .rfl (.cons .rfl (.cons .any .nil))))))))) (fun _ x h => by injection h with h; exact h.symm) (fun s_5677 => (p_retf [] (fun _ => rfl) .nil (x_some (x_var 3 rfl)))))))) (by unfold m_law_asked; simp only [ok_bindP, ok_calmP, chk_calmP, opt_calmP, R.bind_pure, R.bind_assoc] <;> rfl))
theorem w_law_put (T : Txt K mg Ad) (fu : Nat) : FnOk P w K mg base (L2.CX P w) (1 + fu) Ad.f_law_put Ad.d_law_put ["form", "one"] (SpP mg (tc rY (t1 rY)) rY (fun a => m_law_put fu a.1 a.2)) := by
  have hnd := sc_law_put.nd
  induction fu with
  | zero => exact f_ok (fun a => [im rY a.1, im rY a.2]) T.F__law_put sc_law_put (arc ar1) rfl (by decide) (fun _ => rfl) (fun cdv A outer s H E hr tk hp a => SX.cv (s_bad) (by simp only [m_law_put]))
  | succ fu ih => exact f_ok (fun a => [im rY a.1, im rY a.2]) T.F__law_put sc_law_put (arc ar1) rfl (by decide) (fun _ => rfl) (fun cdv A outer s H E hr tk hp a => SX.cv (
    (p_ifT (x_tcmp (op_eqD (u64 hr)) dEqY (x_ix ix_any dIxY (x_var 0 rfl) x_int) (x_cv (cvY yS) x_str)) (p_retf [] (fun _ => rfl) .nil (x_var 1 rfl)) (p_ifT (x_tcmp op_eq dEqI (x_len dLenY T.n_len (a_one (x_var 0 rfl))) x_int) (p_retf [] (fun _ => rfl) .nil (x_var 0 rfl)) (p_ifT (x_w (w_or (x_tcmp (op_eqD (u64 hr)) dEqY (x_ix ix_any dIxY (x_var 0 rfl) x_int) (x_cv (cvY yS) x_str)) (w_or1 (x_tcmp (op_eqD (u64 hr)) dEqY (x_ix ix_any dIxY (x_var 0 rfl) x_int) (x_cv (cvY yS) x_str))))) (p_retf [] (fun _ => rfl) .nil (x_cv (cvY (yTu (yc yY (yc yY (y1 yY))))) (x_tup (a_cons (x_ix ix_any dIxY (x_var 0 rfl) x_int) (a_cons (x_call ih (hr.mono (Nat.le_refl _)) T.g__law_put T.k__law_put T.b__law_put tk .nil (a_cons (x_ix ix_any dIxY (x_var 0 rfl) x_int) (a_one (x_var 1 rfl)))) (a_one (x_call ih (hr.mono (Nat.le_refl _)) T.g__law_put T.k__law_put T.b__law_put tk .nil (a_cons (x_ix ix_any dIxY (x_var 0 rfl) x_int) (a_one (x_var 1 rfl))))))) (fun _ _ _ h => sz ((nc (fun _ _ _ h => (nc (fun _ _ _ h => n1 h)) h)) h) (by decide))))) (p_retf [] (fun _ => rfl) .nil (x_cv (cvY (yTu (yc yY (yc yY (y1 yY))))) (x_tup (a_cons (x_ix ix_any dIxY (x_var 0 rfl) x_int) (a_cons (x_ix ix_any dIxY (x_var 0 rfl) x_int) (a_one (x_call ih (hr.mono (Nat.le_refl _)) T.g__law_put T.k__law_put T.b__law_put tk .nil (a_cons (x_ix ix_any dIxY (x_var 0 rfl) x_int) (a_one (x_var 1 rfl))))))) (fun _ _ _ h => sz ((nc (fun _ _ _ h => (nc (fun _ _ _ h => n1 h)) h)) h) (by decide))))))))) (by simp only [m_law_put, ok_bindP, ok_calmP, chk_calmP, opt_calmP, R.bind_pure, R.bind_assoc] <;> rfl))
theorem w_law_parts (T : Txt K mg Ad) : FnOk P w K mg base (L2.CX P w) 1 Ad.f_law_parts Ad.d_law_parts ["form"] (SpP mg (t1 rY) (rL rY) (fun a => m_law_parts a)) :=
  have hnd := sc_law_parts.nd
  f_ok (fun a => [im rY a]) T.F__law_parts sc_law_parts ar1 rfl (by decide) (fun _ => rfl) (fun cdv A outer s H E hr tk hp a => SX.cv (
    (p_ifT (x_tcmp op_eq dEqI (x_len dLenY T.n_len (a_one (x_var 0 rfl))) x_int) (p_retf [] (fun _ => rfl) .nil (x_frzE (f_nil (ρ := rY)))) (p_ifT (x_w (w_or (x_tcmp (op_eqD (u64 hr)) dEqY (x_ix ix_any dIxY (x_var 0 rfl) x_int) (x_cv (cvY yS) x_str)) (w_or1 (x_tcmp (op_eqD (u64 hr)) dEqY (x_ix ix_any dIxY (x_var 0 rfl) x_int) (x_cv (cvY yS) x_str))))) (p_retf [] (fun _ => rfl) .nil (x_frzE (f_listN (k := 2) (ln_cons (x_ix ix_any dIxY (x_var 0 rfl) x_int) (ln_cons (x_ix ix_any dIxY (x_var 0 rfl) x_int) ln_nil))))) (p_retf [] (fun _ => rfl) .nil (x_frzE (f_listN (k := 1) (ln_cons (x_ix ix_any dIxY (x_var 0 rfl) x_int) ln_nil))))))) (by unfold m_law_parts; simp only [ok_bindP, ok_calmP, chk_calmP, opt_calmP, R.bind_pure, R.bind_assoc] <;> rfl))
theorem w_law_many (T : Txt K mg Ad) (fu : Nat) : FnOk P w K mg base (L2.CX P w) (2 + fu) Ad.f_law_many Ad.d_law_many ["form"] (SpP mg (t1 rY) rI (fun a => m_law_many fu a)) := by
  have hnd := sc_law_many.nd
  induction fu with
  | zero => exact f_ok (fun a => [im rY a, .any]) T.F__law_many sc_law_many ar1 rfl (by decide) (fun _ => rfl) (fun cdv A outer s H E hr tk hp a => SX.cv (s_bad) (by simp only [m_law_many]))
  | succ fu ih => exact f_ok (fun a => [im rY a, .any]) T.F__law_many sc_law_many ar1 rfl (by decide) (fun _ => rfl) (fun cdv A outer s H E hr tk hp a => SX.cv (
    (p_retf [] (fun _ => rfl) .nil (x_add x_int (x_callB (cr_sum rfl) dSum T.n_sum (by decide +kernel) (a_one (x_frzE (f_lcM (own := [("part", 1)]) hnd (i_list (x_call (w_law_parts T) (hr.mono (Nat.le_add_right_of_le (by decide))) T.g__law_parts T.k__law_parts T.b__law_parts tk .nil (a_one (x_var 0 rfl)))) (blkOk_by (N := N_law_many) (sc := defScope s_law_many) (by decide +kernel)) (fun _ _ _ _ _ => (gt_name 1 (by decide) hnd)) (fun _ _ _ _ _ y_5760 => (x_call ih (hr.mono (Nat.le_refl _)) T.g__law_many T.k__law_many T.b__law_many takes0 .nil (a_one (x_var 1 rfl))))))))))) (by simp only [m_law_many, ok_bindP, ok_calmP, chk_calmP, opt_calmP, R.bind_pure, R.bind_assoc] <;> rfl))
theorem w_law_deep (T : Txt K mg Ad) (fu : Nat) : FnOk P w K mg base (L2.CX P w) (2 + fu) Ad.f_law_deep Ad.d_law_deep ["form"] (SpP mg (t1 rY) rI (fun a => m_law_deep fu a)) := by
  have hnd := sc_law_deep.nd
  induction fu with
  | zero => exact f_ok (fun a => [im rY a, .any]) T.F__law_deep sc_law_deep ar1 rfl (by decide) (fun _ => rfl) (fun cdv A outer s H E hr tk hp a => SX.cv (s_bad) (by simp only [m_law_deep]))
  | succ fu ih => exact f_ok (fun a => [im rY a, .any]) T.F__law_deep sc_law_deep ar1 rfl (by decide) (fun _ => rfl) (fun cdv A outer s H E hr tk hp a => SX.cv (
    (p_retf [] (fun _ => rfl) .nil (x_add x_int (x_callB (cr_max rfl) dMax1 T.n_max (by decide +kernel) (a_one (x_frzE (f_catL (x_frzE (f_listN (k := 1) (ln_cons x_int ln_nil))) (x_frzE (f_lcM (own := [("part", 1)]) hnd (i_list (x_call (w_law_parts T) (hr.mono (Nat.le_add_right_of_le (by decide))) T.g__law_parts T.k__law_parts T.b__law_parts tk .nil (a_one (x_var 0 rfl)))) (blkOk_by (N := N_law_deep) (sc := defScope s_law_deep) (by decide +kernel)) (fun _ _ _ _ _ => (gt_name 1 (by decide) hnd)) (fun _ _ _ _ _ y_5786 => (x_call ih (hr.mono (Nat.le_refl _)) T.g__law_deep T.k__law_deep T.b__law_deep takes0 .nil (a_one (x_var 1 rfl))))))))))))) (by simp only [m_law_deep, ok_bindP, ok_calmP, chk_calmP, opt_calmP, R.bind_pure, R.bind_assoc] <;> rfl))
theorem w_Keep_words (T : Txt K mg Ad) : FnOk P w K mg base (L2.CX P w) 1 Ad.fKeep_words Ad.dKeep_words ["self"] (SpP mg (t1 (rPl (csl Ad))) (rL rS) (fun a => m_Keep_words a)) :=
  have hnd := scKeep_words.nd
  f_ok (fun a => [im (rPl (csl Ad)) a]) T.F_Keep_words scKeep_words ar1 rfl (by decide) (fun _ => rfl) (fun cdv A outer s H E hr tk hp a => SX.cv (
    (p_retf [] (fun _ => rfl) .nil (x_frzE (f_listN (k := 1) (ln_cons x_str ln_nil))))) (by unfold m_Keep_words; simp only [ok_bindP, ok_calmP, chk_calmP, opt_calmP, R.bind_pure, R.bind_assoc] <;> rfl))
theorem w_Nothing_words (T : Txt K mg Ad) : FnOk P w K mg base (L2.CX P w) 1 Ad.fNothing_words Ad.dNothing_words ["self"] (SpP mg (t1 (rPl (csl Ad))) (rL rS) (fun a => m_Nothing_words a)) :=
  have hnd := scNothing_words.nd
  f_ok (fun a => [im (rPl (csl Ad)) a]) T.F_Nothing_words scNothing_words ar1 rfl (by decide) (fun _ => rfl) (fun cdv A outer s H E hr tk hp a => SX.cv (
    (p_retf [] (fun _ => rfl) .nil (x_frzE (f_listN (k := 1) (ln_cons x_str ln_nil))))) (by unfold m_Nothing_words; simp only [ok_bindP, ok_calmP, chk_calmP, opt_calmP, R.bind_pure, R.bind_assoc] <;> rfl))
theorem w_Everything_words (T : Txt K mg Ad) : FnOk P w K mg base (L2.CX P w) 1 Ad.fEverything_words Ad.dEverything_words ["self"] (SpP mg (t1 (rPl (csl Ad))) (rL rS) (fun a => m_Everything_words a)) :=
  have hnd := scEverything_words.nd
  f_ok (fun a => [im (rPl (csl Ad)) a]) T.F_Everything_words scEverything_words ar1 rfl (by decide) (fun _ => rfl) (fun cdv A outer s H E hr tk hp a => SX.cv (
    (p_retf [] (fun _ => rfl) .nil (x_frzE (f_listN (k := 1) (ln_cons x_str ln_nil))))) (by unfold m_Everything_words; simp only [ok_bindP, ok_calmP, chk_calmP, opt_calmP, R.bind_pure, R.bind_assoc] <;> rfl))
theorem w_step_words (T : Txt K mg Ad) : FnOk P w K mg base (L2.CX P w) 1 Ad.fstep_words Ad.dstep_words ["steps"] (SpP mg (t1 (rL rC)) (rL rS) (fun a => m_step_words a)) :=
  have hnd := scstep_words.nd
  f_ok (fun a => [im (rL rC) a, .any, .any, .any]) T.F_step_words scstep_words ar1 rfl (by decide) (fun _ => rfl) (fun cdv A outer s H E hr tk hp a => SX.cv (
    (p_own 1 hnd (f_nil (ρ := rS)) (fun words_5803 => (p_for (vs := [3, 2]) (fun (s : List Str) => [im (rL rC) a, .own none (oLi (tl rS) s), .any, .any]) _ words_5803 hp (i_list (x_var 0 rfl)) (gt_tup rfl (gts_cons (gt_name 2 (by decide) hnd) (gts_one (gt_name 3 (by decide) hnd)))) (fun s_5804 x_5805 => (s_extend 1 (x_frzE (f_listN (k := 2) (ln_cons (x_callTy call_str_int dStrI T.n_str (by decide +kernel) (a_one (x_var 2 rfl))) (ln_cons (x_callTy call_str_int dStrI T.n_str (by decide +kernel) (a_one (x_var 3 rfl))) ln_nil)))) (fun y_5809 => (s_go (o := (s_5804 ++ y_5809)) rfl (.cons .rfl (.cons .rfl (.cons .any (.cons .any .nil)))))))) (.cons .rfl (.cons .rfl (.cons .any (.cons .any .nil)))) (fun s_5810 => (s_give 1 rfl (p_retf [] (fun _ => rfl) .nil (x_var 1 rfl)))))))) (by unfold m_step_words; simp only [ok_bindP, ok_calmP, chk_calmP, opt_calmP, R.bind_pure, R.bind_assoc] <;> rfl))
theorem w_Move_words (T : Txt K mg Ad) {L : Nat} (hL : 1 ≤ L) {D : Pl → R (List Str)} (ih : MethD P w K mg base (csl Ad) "words" L (t1 (rPl (csl Ad))) (SpP mg (t1 (rPl (csl Ad))) (rL rS)) (fun x => x) (fun a => D a)) : FnOk P w K mg base (L2.CX P w) (L + 1) Ad.fMove_words Ad.dMove_words ["self"] (SpP mg (t1 (rPl (csl Ad))) (rL rS) (fun a => m_Move_words D a)) :=
  have hnd := scMove_words.nd
  f_ok (fun a => [im (rPl (csl Ad)) a]) T.F_Move_words scMove_words ar1 rfl (by decide) (fun _ => rfl) (fun cdv A outer s H E hr tk hp a => SX.cv (
    (p_retf [] (fun _ => rfl) .nil (x_frzE (f_catL (x_frzE (f_catL (x_frzE (f_listN (k := 1) (ln_cons x_str ln_nil))) (x_call (w_step_words T) (hr.mono (by omega)) T.g_step_words T.k_step_words T.b_step_words tk .nil (a_one (x_frzE (f_listN (k := 1) (ln_cons (x_fld (fldStep _) T.pl (x_var 0 rfl)) ln_nil))))))) (x_meth0 ih T.pl (hr.mono (by omega)) tk .nil (by decide +kernel) (x_fld (fldPlan _) T.pl (x_var 0 rfl))))))) (by unfold m_Move_words; simp only [ok_bindP, ok_calmP, chk_calmP, opt_calmP, R.bind_pure, R.bind_assoc] <;> rfl))
theorem w_step_words_2 (T : Txt K mg Ad) : FnOk P w K mg base (L2.CX P w) 1 Ad.fstep_words Ad.dstep_words ["steps"] (SpP mg (t1 (rT rC)) (rL rS) (fun a => m_step_words_2 a)) :=
  have hnd := scstep_words.nd
  f_ok (fun a => [im (rT rC) a, .any, .any, .any]) T.F_step_words scstep_words ar1 rfl (by decide) (fun _ => rfl) (fun cdv A outer s H E hr tk hp a => SX.cv (
    (p_own 1 hnd (f_nil (ρ := rS)) (fun words_5842 => (p_for (vs := [3, 2]) (fun (s : List Str) => [im (rT rC) a, .own none (oLi (tl rS) s), .any, .any]) _ words_5842 hp (i_tup (x_var 0 rfl)) (gt_tup rfl (gts_cons (gt_name 2 (by decide) hnd) (gts_one (gt_name 3 (by decide) hnd)))) (fun s_5843 x_5844 => (s_extend 1 (x_frzE (f_listN (k := 2) (ln_cons (x_callTy call_str_int dStrI T.n_str (by decide +kernel) (a_one (x_var 2 rfl))) (ln_cons (x_callTy call_str_int dStrI T.n_str (by decide +kernel) (a_one (x_var 3 rfl))) ln_nil)))) (fun y_5848 => (s_go (o := (s_5843 ++ y_5848)) rfl (.cons .rfl (.cons .rfl (.cons .any (.cons .any .nil)))))))) (.cons .rfl (.cons .rfl (.cons .any (.cons .any .nil)))) (fun s_5849 => (s_give 1 rfl (p_retf [] (fun _ => rfl) .nil (x_var 1 rfl)))))))) (by unfold m_step_words_2; simp only [ok_bindP, ok_calmP, chk_calmP, opt_calmP, R.bind_pure, R.bind_assoc] <;> rfl))
theorem w_Eat_words (T : Txt K mg Ad) {L : Nat} (hL : 1 ≤ L) {D : Pl → R (List Str)} (ih : MethD P w K mg base (csl Ad) "words" L (t1 (rPl (csl Ad))) (SpP mg (t1 (rPl (csl Ad))) (rL rS)) (fun x => x) (fun a => D a)) : FnOk P w K mg base (L2.CX P w) (L + 1) Ad.fEat_words Ad.dEat_words ["self"] (SpP mg (t1 (rPl (csl Ad))) (rL rS) (fun a => m_Eat_words D a)) :=
  have hnd := scEat_words.nd
  f_ok (fun a => [im (rPl (csl Ad)) a]) T.F_Eat_words scEat_words ar1 rfl (by decide) (fun _ => rfl) (fun cdv A outer s H E hr tk hp a => SX.cv (
    (p_retf [] (fun _ => rfl) .nil (x_frzE (f_catL (x_frzE (f_catL (x_frzE (f_listN (k := 2) (ln_cons x_str (ln_cons (x_callTy call_str_int dStrI T.n_str (by decide +kernel) (a_one (x_len dLenT T.n_len (a_one (x_fld (fldPiece _) T.pl (x_var 0 rfl)))))) ln_nil)))) (x_call (w_step_words_2 T) (hr.mono (by omega)) T.g_step_words T.k_step_words T.b_step_words tk .nil (a_one (x_fld (fldPiece _) T.pl (x_var 0 rfl)))))) (x_meth0 ih T.pl (hr.mono (by omega)) tk .nil (by decide +kernel) (x_fld (fldPlan _) T.pl (x_var 0 rfl))))))) (by unfold m_Eat_words; simp only [ok_bindP, ok_calmP, chk_calmP, opt_calmP, R.bind_pure, R.bind_assoc] <;> rfl))
theorem w_Grow_words (T : Txt K mg Ad) {L : Nat} (hL : 1 ≤ L) {D : Pl → R (List Str)} (ih : MethD P w K mg base (csl Ad) "words" L (t1 (rPl (csl Ad))) (SpP mg (t1 (rPl (csl Ad))) (rL rS)) (fun x => x) (fun a => D a)) : FnOk P w K mg base (L2.CX P w) (L + 1) Ad.fGrow_words Ad.dGrow_words ["self"] (SpP mg (t1 (rPl (csl Ad))) (rL rS) (fun a => m_Grow_words D a)) :=
  have hnd := scGrow_words.nd
  f_ok (fun a => [im (rPl (csl Ad)) a]) T.F_Grow_words scGrow_words ar1 rfl (by decide) (fun _ => rfl) (fun cdv A outer s H E hr tk hp a => SX.cv (
    (p_retf [] (fun _ => rfl) .nil (x_frzE (f_catL (x_frzE (f_catL (x_frzE (f_listN (k := 2) (ln_cons x_str (ln_cons (x_callTy call_str_int dStrI T.n_str (by decide +kernel) (a_one (x_len dLenT T.n_len (a_one (x_fld (fldPiece _) T.pl (x_var 0 rfl)))))) ln_nil)))) (x_call (w_step_words_2 T) (hr.mono (by omega)) T.g_step_words T.k_step_words T.b_step_words tk .nil (a_one (x_fld (fldPiece _) T.pl (x_var 0 rfl)))))) (x_meth0 ih T.pl (hr.mono (by omega)) tk .nil (by decide +kernel) (x_fld (fldPlan _) T.pl (x_var 0 rfl))))))) (by unfold m_Grow_words; simp only [ok_bindP, ok_calmP, chk_calmP, opt_calmP, R.bind_pure, R.bind_assoc] <;> rfl))
theorem w_Both_words (T : Txt K mg Ad) {L : Nat} (hL : 1 ≤ L) {D : Pl → R (List Str)} (ih : MethD P w K mg base (csl Ad) "words" L (t1 (rPl (csl Ad))) (SpP mg (t1 (rPl (csl Ad))) (rL rS)) (fun x => x) (fun a => D a)) : FnOk P w K mg base (L2.CX P w) (L + 1) Ad.fBoth_words Ad.dBoth_words ["self"] (SpP mg (t1 (rPl (csl Ad))) (rL rS) (fun a => m_Both_words D a)) :=
  have hnd := scBoth_words.nd
  f_ok (fun a => [im (rPl (csl Ad)) a]) T.F_Both_words scBoth_words ar1 rfl (by decide) (fun _ => rfl) (fun cdv A outer s H E hr tk hp a => SX.cv (
    (p_retf [] (fun _ => rfl) .nil (x_frzE (f_catL (x_frzE (f_catL (x_frzE (f_listN (k := 1) (ln_cons x_str ln_nil))) (x_meth0 ih T.pl (hr.mono (by omega)) tk .nil (by decide +kernel) (x_fld (fldOne _) T.pl (x_var 0 rfl))))) (x_meth0 ih T.pl (hr.mono (by omega)) tk .nil (by decide +kernel) (x_fld (fldOther _) T.pl (x_var 0 rfl))))))) (by unfold m_Both_words; simp only [ok_bindP, ok_calmP, chk_calmP, opt_calmP, R.bind_pure, R.bind_assoc] <;> rfl))
theorem w_Either_words (T : Txt K mg Ad) {L : Nat} (hL : 1 ≤ L) {D : Pl → R (List Str)} (ih : MethD P w K mg base (csl Ad) "words" L (t1 (rPl (csl Ad))) (SpP mg (t1 (rPl (csl Ad))) (rL rS)) (fun x => x) (fun a => D a)) : FnOk P w K mg base (L2.CX P w) (L + 1) Ad.fEither_words Ad.dEither_words ["self"] (SpP mg (t1 (rPl (csl Ad))) (rL rS) (fun a => m_Either_words D a)) :=
  have hnd := scEither_words.nd
  f_ok (fun a => [im (rPl (csl Ad)) a]) T.F_Either_words scEither_words ar1 rfl (by decide) (fun _ => rfl) (fun cdv A outer s H E hr tk hp a => SX.cv (
    (p_retf [] (fun _ => rfl) .nil (x_frzE (f_catL (x_frzE (f_catL (x_frzE (f_listN (k := 1) (ln_cons x_str ln_nil))) (x_meth0 ih T.pl (hr.mono (by omega)) tk .nil (by decide +kernel) (x_fld (fldOne _) T.pl (x_var 0 rfl))))) (x_meth0 ih T.pl (hr.mono (by omega)) tk .nil (by decide +kernel) (x_fld (fldOther _) T.pl (x_var 0 rfl))))))) (by unfold m_Either_words; simp only [ok_bindP, ok_calmP, chk_calmP, opt_calmP, R.bind_pure, R.bind_assoc] <;> rfl))
theorem w_D_words (T : Txt K mg Ad) (fu : Nat) : MethD P w K mg base (csl Ad) "words" (1 + 1 * fu) (t1 (rPl (csl Ad))) (SpP mg (t1 (rPl (csl Ad))) (rL rS)) (fun x => x) (fun a => m_D_words fu a) := by
  induction fu with
  | zero => exact ⟨(pl_cons ⟨_, T.mt_Keep_words, .inl fun x _ => by simp only [m_D_words]⟩ (pl_cons ⟨_, T.mt_Nothing_words, .inl fun x _ => by simp only [m_D_words]⟩ (pl_cons ⟨_, T.mt_Everything_words, .inl fun x _ => by simp only [m_D_words]⟩ (pl_cons ⟨_, T.mt_Move_words, .inl fun x _ => by simp only [m_D_words]⟩ (pl_cons ⟨_, T.mt_Eat_words, .inl fun x _ => by simp only [m_D_words]⟩ (pl_cons ⟨_, T.mt_Grow_words, .inl fun x _ => by simp only [m_D_words]⟩ (pl_cons ⟨_, T.mt_Both_words, .inl fun x _ => by simp only [m_D_words]⟩ (pl_cons ⟨_, T.mt_Either_words, .inl fun x _ => by simp only [m_D_words]⟩ pl_nil))))))))⟩
  | succ fu ih => exact ⟨(pl_cons ⟨_, T.mt_Keep_words, .inr ⟨_, _, _, _, (by omega), T.b_Keep_words, w_Keep_words T, fun x hx => by simp only [m_D_words, hx]⟩⟩ (pl_cons ⟨_, T.mt_Nothing_words, .inr ⟨_, _, _, _, (by omega), T.b_Nothing_words, w_Nothing_words T, fun x hx => by simp only [m_D_words, hx]⟩⟩ (pl_cons ⟨_, T.mt_Everything_words, .inr ⟨_, _, _, _, (by omega), T.b_Everything_words, w_Everything_words T, fun x hx => by simp only [m_D_words, hx]⟩⟩ (pl_cons ⟨_, T.mt_Move_words, .inr ⟨_, _, _, _, (by omega), T.b_Move_words, w_Move_words T (Nat.le_add_right _ _) ih, fun x hx => by simp only [m_D_words, hx]⟩⟩ (pl_cons ⟨_, T.mt_Eat_words, .inr ⟨_, _, _, _, (by omega), T.b_Eat_words, w_Eat_words T (Nat.le_add_right _ _) ih, fun x hx => by simp only [m_D_words, hx]⟩⟩ (pl_cons ⟨_, T.mt_Grow_words, .inr ⟨_, _, _, _, (by omega), T.b_Grow_words, w_Grow_words T (Nat.le_add_right _ _) ih, fun x hx => by simp only [m_D_words, hx]⟩⟩ (pl_cons ⟨_, T.mt_Both_words, .inr ⟨_, _, _, _, (by omega), T.b_Both_words, w_Both_words T (Nat.le_add_right _ _) ih, fun x hx => by simp only [m_D_words, hx]⟩⟩ (pl_cons ⟨_, T.mt_Either_words, .inr ⟨_, _, _, _, (by omega), T.b_Either_words, w_Either_words T (Nat.le_add_right _ _) ih, fun x hx => by simp only [m_D_words, hx]⟩⟩ pl_nil))))))))⟩
theorem w_law_words (T : Txt K mg Ad) (fu : Nat) : FnOk P w K mg base (L2.CX P w) (2 + fu) Ad.f_law_words Ad.d_law_words ["form"] (SpP mg (t1 rY) (rL rS) (fun a => m_law_words fu a)) := by
  have hnd := sc_law_words.nd
  induction fu with
  | zero => exact f_ok (fun a => [im rY a, .any, .any, .any, .any, .any]) T.F__law_words sc_law_words ar1 rfl (by decide) (fun _ => rfl) (fun cdv A outer s H E hr tk hp a => SX.cv (s_bad) (by simp only [m_law_words]))
  | succ fu ih => exact f_ok (fun a => [im rY a, .any, .any, .any, .any, .any]) T.F__law_words sc_law_words ar1 rfl (by decide) (fun _ => rfl) (fun cdv A outer s H E hr tk hp a => SX.cv (
    (p_own 1 hnd (f_listN (k := 1) (ln_cons (x_out ouS (x_ix ix_any dIxY (x_var 0 rfl) x_int)) ln_nil)) (fun words_5966 => (p_set 2 hnd (x_cv (cvY (yT yI)) (x_tup0 (ρ := rI))) (fun steps_5967 => (p_ifJ (fun (s : Dy) => [im rY a, .own none (oLi (tl rS) words_5966), im rY s, .any, .any, .any]) (x_tcmp (op_eqD (u64 hr)) dEqY (x_ix ix_any dIxY (x_var 0 rfl) x_int) (x_cv (cvY yS) x_str)) (p_set 2 hnd (x_cv (cvY (yTu (y1 yY))) (x_tup (a_one (x_ix ix_any dIxY (x_var 0 rfl) x_int)) (fun _ _ _ h => sz (n1 h) (by decide)))) (fun steps_5970 => (s_nx (o := steps_5970) rfl (.cons .rfl (.cons .rfl (.cons .rfl (.cons .any (.cons .any (.cons .any .nil))))))))) (s_nx (o := steps_5967) rfl (.cons .rfl (.cons .rfl (.cons .rfl (.cons .any (.cons .any (.cons .any .nil))))))) (fun s_5971 => (p_ifJ (fun (s : ((List Str) × Dy)) => [im rY a, .own none (oLi (tl rS) s.1), im rY s.2, .any, .any, .any]) (x_w (w_or (x_tcmp (op_eqD (u64 hr)) dEqY (x_ix ix_any dIxY (x_var 0 rfl) x_int) (x_cv (cvY yS) x_str)) (w_or1 (x_tcmp (op_eqD (u64 hr)) dEqY (x_ix ix_any dIxY (x_var 0 rfl) x_int) (x_cv (cvY yS) x_str))))) (s_append 1 (x_callTy call_str_int dStrI T.n_str (by decide +kernel) (a_one (x_len dLenY T.n_len (a_one (x_ix ix_any dIxY (x_var 0 rfl) x_int))))) (fun y_5977 => (p_set 2 hnd (x_ix ix_any dIxY (x_var 0 rfl) x_int) (fun steps_5978 => (s_nx (o := ((words_5966 ++ [y_5977]), steps_5978)) rfl (.cons .rfl (.cons .rfl (.cons .rfl (.cons .any (.cons .any (.cons .any .nil))))))))))) (s_nx (o := (words_5966, s_5971)) rfl (.cons .rfl (.cons .rfl (.cons .rfl (.cons .any (.cons .any (.cons .any .nil))))))) (fun s_5979 => (p_for (vs := [5, 4]) (fun (s : List Str) => [im rY a, .own none (oLi (tl rS) s), im rY s_5979.2, .any, .any, .any]) _ s_5979.1 hp (i_tup (x_out (ouT (ouTu (ouc ouI (ou1 ouI)))) (x_var 2 rfl))) (gt_tup rfl (gts_cons (gt_name 4 (by decide) hnd) (gts_one (gt_name 5 (by decide) hnd)))) (fun s_5980 x_5981 => (s_extend 1 (x_frzE (f_listN (k := 2) (ln_cons (x_callTy call_str_int dStrI T.n_str (by decide +kernel) (a_one (x_var 4 rfl))) (ln_cons (x_callTy call_str_int dStrI T.n_str (by decide +kernel) (a_one (x_var 5 rfl))) ln_nil)))) (fun y_5985 => (s_go (o := (s_5980 ++ y_5985)) rfl (.cons .rfl (.cons .rfl (.cons .rfl (.cons .any (.cons .any (.cons .any .nil)))))))))) (.cons .rfl (.cons .rfl (.cons .rfl (.cons .any (.cons .any (.cons .any .nil)))))) (fun s_5986 => (p_for (vs := [3]) (fun (s : List Str) => [im rY a, .own none (oLi (tl rS) s), im rY s_5979.2, .any, .any, .any]) _ s_5986 hp (i_list (x_call (w_law_parts T) (hr.mono (Nat.le_add_right_of_le (by decide))) T.g__law_parts T.k__law_parts T.b__law_parts tk .nil (a_one (x_var 0 rfl)))) (gt_name 3 (by decide) hnd) (fun s_5987 x_5988 => (s_extend 1 (x_call ih (hr.mono (Nat.le_refl _)) T.g__law_words T.k__law_words T.b__law_words tk .nil (a_one (x_var 3 rfl))) (fun y_5989 => (s_go (o := (s_5987 ++ y_5989)) rfl (.cons .rfl (.cons .rfl (.cons .rfl (.cons .any (.cons .any (.cons .any .nil)))))))))) (.cons .rfl (.cons .rfl (.cons .rfl (.cons .any (.cons .any (.cons .any .nil)))))) (fun s_5990 => (s_give 1 rfl (p_retf [] (fun _ => rfl) .nil (x_var 1 rfl)))))))))))))))) (by simp only [m_law_words, ok_bindP, ok_calmP, chk_calmP, opt_calmP, R.bind_pure, R.bind_assoc] <;> rfl))
theorem w_law_same (T : Txt K mg Ad) (fu : Nat) : FnOk P w K mg base (L2.CX P w) (1 + fu) Ad.f_law_same Ad.d_law_same ["found", "due"] (SpP mg (tc rY (t1 rY)) rB (fun a => m_law_same fu a.1 a.2)) := by
  have hnd := sc_law_same.nd
  induction fu with
  | zero => exact f_ok (fun a => [im rY a.1, im rY a.2, .any, .any]) T.F__law_same sc_law_same (arc ar1) rfl (by decide) (fun _ => rfl) (fun cdv A outer s H E hr tk hp a => SX.cv (s_bad) (by simp only [m_law_same]))
  | succ fu ih => exact f_ok (fun a => [im rY a.1, im rY a.2, .any, .any]) T.F__law_same sc_law_same (arc ar1) rfl (by decide) (fun _ => rfl) (fun cdv A outer s H E hr tk hp a => SX.cv (
    (p_ifT (x_test (x_isi2 (T1 := "tuple") (T2 := "list") Dy.isTup Dy.isLst tyY ky_tuple ky_list T.n_isinstance T.n_tuple T.n_list (by decide +kernel) (by decide +kernel) (x_var 1 rfl))) (p_ifT (x_w (w_or2 (x_tcmp op_ne dNeB (x_isi (T := "tuple") Dy.isTup tyY ky_tuple T.n_isinstance T.n_tuple (by decide +kernel) (x_var 0 rfl)) (x_isi (T := "tuple") Dy.isTup tyY ky_tuple T.n_isinstance T.n_tuple (by decide +kernel) (x_var 1 rfl))) (w_or1 (x_tnot (x_test (x_isi2 (T1 := "tuple") (T2 := "list") Dy.isTup Dy.isLst tyY ky_tuple ky_list T.n_isinstance T.n_tuple T.n_list (by decide +kernel) (by decide +kernel) (x_var 0 rfl))))))) (p_retf [] (fun _ => rfl) .nil x_bl) (p_retf [] (fun _ => rfl) .nil (x_and (x_cmp op_eq dEqI (x_len dLenY T.n_len (a_one (x_var 0 rfl))) (x_len dLenY T.n_len (a_one (x_var 1 rfl)))) (x_one (x_callB (cr_all rfl) dAll T.n_all (by decide +kernel) (a_one (x_frzE (f_lcM (own := [("one", 2), ("other", 3)]) hnd (i_zipY T.n_zip (a_cons (x_var 0 rfl) (a_one (x_var 1 rfl)))) (blkOk_by (N := N_law_same) (sc := defScope s_law_same) (by decide +kernel)) (fun _ _ _ _ _ => (gt_tup rfl (gts_cons (gt_name 2 (by decide) hnd) (gts_one (gt_name 3 (by decide) hnd))))) (fun _ _ _ _ _ y_6004 => (x_call ih (hr.mono (Nat.le_refl _)) T.g__law_same T.k__law_same T.b__law_same takes0 .nil (a_cons (x_var 2 rfl) (a_one (x_var 3 rfl))))))))))))) (p_ifT (x_w (w_or2 (x_test (x_isi (T := "bool") Dy.isBl tyY ky_bool T.n_isinstance T.n_bool (by decide +kernel) (x_var 1 rfl))) (w_or1 (x_test (x_isi (T := "bool") Dy.isBl tyY ky_bool T.n_isinstance T.n_bool (by decide +kernel) (x_var 0 rfl)))))) (p_retf [] (fun _ => rfl) .nil (x_and (x_isi (T := "bool") Dy.isBl tyY ky_bool T.n_isinstance T.n_bool (by decide +kernel) (x_var 1 rfl)) (x_and (x_isi (T := "bool") Dy.isBl tyY ky_bool T.n_isinstance T.n_bool (by decide +kernel) (x_var 0 rfl)) (x_one (x_cmp (op_eqD (u64 hr)) dEqY (x_var 0 rfl) (x_var 1 rfl)))))) (p_ifT (x_test (x_isi (T := "str") Dy.isStr tyY ky_str T.n_isinstance T.n_str (by decide +kernel) (x_var 1 rfl))) (p_retf [] (fun _ => rfl) .nil (x_and (x_isi (T := "str") Dy.isStr tyY ky_str T.n_isinstance T.n_str (by decide +kernel) (x_var 0 rfl)) (x_one (x_cmp (op_eqD (u64 hr)) dEqY (x_var 0 rfl) (x_var 1 rfl))))) (p_retf [] (fun _ => rfl) .nil (x_and (x_isi (T := "int") Dy.isInt tyY ky_int T.n_isinstance T.n_int (by decide +kernel) (x_var 0 rfl)) (x_one (x_cmp (op_eqD (u64 hr)) dEqY (x_var 0 rfl) (x_var 1 rfl))))))))) (by simp only [m_law_same, ok_bindP, ok_calmP, chk_calmP, opt_calmP, R.bind_pure, R.bind_assoc] <;> rfl))
theorem w_law_good (T : Txt K mg Ad) : FnOk P w K mg base (L2.CX P w) 63 Ad.f_law_good Ad.d_law_good ["found", "form"] (SpP mg (tc (rQ (csl Ad)) (t1 rY)) rB (fun a => m_law_good a.1 a.2)) :=
  have hnd := sc_law_good.nd
  f_ok (fun a => [im (rQ (csl Ad)) a.1, im rY a.2]) T.F__law_good sc_law_good (arc ar1) rfl (by decide) (fun _ => rfl) (fun cdv A outer s H E hr tk hp a => SX.cv (
    (p_ifT (x_w (w_or (x_tcmp op_gt dIb (x_call (w_law_many T 60) (hr.mono (by decide)) T.g__law_many T.k__law_many T.b__law_many tk .nil (a_one (x_var 1 rfl))) x_int) (w_or1 (x_tcmp op_gt dIb (x_call (w_law_deep T 60) (hr.mono (by decide)) T.g__law_deep T.k__law_deep T.b__law_deep tk .nil (a_one (x_var 1 rfl))) x_int)))) (p_retf [] (fun _ => rfl) .nil (x_and (x_isQ T.n_isinstance T.pl (x_var 0 rfl) (nm_blt T.n_str (by decide +kernel)) (pl_cons (k0 := .Keep) (C0 := Ad.c_Keep) T.i_Keep_str (pl_cons (k0 := .Nothing) (C0 := Ad.c_Nothing) T.i_Nothing_str (pl_cons (k0 := .Everything) (C0 := Ad.c_Everything) T.i_Everything_str (pl_cons (k0 := .Move) (C0 := Ad.c_Move) T.i_Move_str (pl_cons (k0 := .Eat) (C0 := Ad.c_Eat) T.i_Eat_str (pl_cons (k0 := .Grow) (C0 := Ad.c_Grow) T.i_Grow_str (pl_cons (k0 := .Both) (C0 := Ad.c_Both) T.i_Both_str (pl_cons (k0 := .Either) (C0 := Ad.c_Either) T.i_Either_str pl_nil))))))))) (x_one (x_cmp op_eq dEqS (x_qL (x_var 0 rfl)) x_str)))) (p_retf [] (fun _ => rfl) .nil (x_and (x_not (x_isQ T.n_isinstance T.pl (x_var 0 rfl) (nm_blt T.n_str (by decide +kernel)) (pl_cons (k0 := .Keep) (C0 := Ad.c_Keep) T.i_Keep_str (pl_cons (k0 := .Nothing) (C0 := Ad.c_Nothing) T.i_Nothing_str (pl_cons (k0 := .Everything) (C0 := Ad.c_Everything) T.i_Everything_str (pl_cons (k0 := .Move) (C0 := Ad.c_Move) T.i_Move_str (pl_cons (k0 := .Eat) (C0 := Ad.c_Eat) T.i_Eat_str (pl_cons (k0 := .Grow) (C0 := Ad.c_Grow) T.i_Grow_str (pl_cons (k0 := .Both) (C0 := Ad.c_Both) T.i_Both_str (pl_cons (k0 := .Either) (C0 := Ad.c_Either) T.i_Either_str pl_nil)))))))))) (x_one (x_call (w_law_same T 60) (hr.mono (by decide)) T.g__law_same T.k__law_same T.b__law_same tk .nil (a_cons (x_cv (cvY (yL yS)) (x_meth0 (w_D_words T 60) T.pl (hr.mono (by decide)) tk .nil (by decide +kernel) (x_qR (x_var 0 rfl)))) (a_one (x_cv (cvY (yL yS)) (x_call (w_law_words T 60) (hr.mono (by decide)) T.g__law_words T.k__law_words T.b__law_words tk .nil (a_one (x_var 1 rfl)))))))))))) (by unfold m_law_good; simp only [ok_bindP, ok_calmP, chk_calmP, opt_calmP, R.bind_pure, R.bind_assoc] <;> rfl))
theorem w_Plan_made (T : Txt K mg Ad) : FnOk P w K mg base (L2.CX P w) 1 Ad.fPlan_made Ad.dPlan_made ["self", "shape"] (SpP mg (tc (rPl (csl Ad)) (t1 (rTu (tc (rT rC) (t1 rB))))) (rTu (tc (rT rC) (t1 rB))) (fun a => m_Plan_made a.1 a.2)) :=
  have hnd := scPlan_made.nd
  f_ok (fun a => [im (rPl (csl Ad)) a.1, im (rTu (tc (rT rC) (t1 rB))) a.2]) T.F_Plan_made scPlan_made (arc ar1) rfl (by decide) (fun _ => rfl) (fun cdv A outer s H E hr tk hp a => SX.cv (
    (p_retf [] (fun _ => rfl) .nil (x_var 1 rfl))) (by unfold m_Plan_made; simp only [ok_bindP, ok_calmP, chk_calmP, opt_calmP, R.bind_pure, R.bind_assoc] <;> rfl))
theorem w_Nothing_made (T : Txt K mg Ad) : FnOk P w K mg base (L2.CX P w) 1 Ad.fNothing_made Ad.dNothing_made ["self", "shape"] (SpP mg (tc (rPl (csl Ad)) (t1 (rTu (tc (rT rC) (t1 rB))))) (rTu (tc (rT rC) (t1 rB))) (fun a => m_Nothing_made a.1 a.2)) :=
  have hnd := scNothing_made.nd
  f_ok (fun a => [im (rPl (csl Ad)) a.1, im (rTu (tc (rT rC) (t1 rB))) a.2]) T.F_Nothing_made scNothing_made (arc ar1) rfl (by decide) (fun _ => rfl) (fun cdv A outer s H E hr tk hp a => SX.cv (
    (p_retf [] (fun _ => rfl) .nil (x_tup (a_cons (x_tup0 (ρ := rC)) (a_one x_bl)) (fun _ _ _ h => sz ((nc (fun _ _ _ h => n1 h)) h) (by decide))))) (by unfold m_Nothing_made; simp only [ok_bindP, ok_calmP, chk_calmP, opt_calmP, R.bind_pure, R.bind_assoc] <;> rfl))
theorem w_Everything_made (T : Txt K mg Ad) : FnOk P w K mg base (L2.CX P w) 1 Ad.fEverything_made Ad.dEverything_made ["self", "shape"] (SpP mg (tc (rPl (csl Ad)) (t1 (rTu (tc (rT rC) (t1 rB))))) (rTu (tc (rT rC) (t1 rB))) (fun a => m_Everything_made a.1 a.2)) :=
  have hnd := scEverything_made.nd
  f_ok (fun a => [im (rPl (csl Ad)) a.1, im (rTu (tc (rT rC) (t1 rB))) a.2]) T.F_Everything_made scEverything_made (arc ar1) rfl (by decide) (fun _ => rfl) (fun cdv A outer s H E hr tk hp a => SX.cv (
    (p_retf [] (fun _ => rfl) .nil (x_tup (a_cons (x_tup0 (ρ := rC)) (a_one x_bl)) (fun _ _ _ h => sz ((nc (fun _ _ _ h => n1 h)) h) (by decide))))) (by unfold m_Everything_made; simp only [ok_bindP, ok_calmP, chk_calmP, opt_calmP, R.bind_pure, R.bind_assoc] <;> rfl))
theorem w_moved_cell (T : Txt K mg Ad) : FnOk P w K mg base (L2.CX P w) 1 Ad.fmoved_cell Ad.dmoved_cell ["cell", "step"] (SpP mg (tc rC (t1 rC)) rC (fun a => m_moved_cell a.1 a.2)) :=
  have hnd := scmoved_cell.nd
  f_ok (fun a => [im rC a.1, im rC a.2]) T.F_moved_cell scmoved_cell (arc ar1) rfl (by decide) (fun _ => rfl) (fun cdv A outer s H E hr tk hp a => SX.cv (
    (p_retf [] (fun _ => rfl) .nil (x_tup (a_cons (x_add (x_pj 0 pj0 (x_var 0 rfl)) (x_pj 0 pj0 (x_var 1 rfl))) (a_one (x_add (x_pj 1 (pjs pj1) (x_var 0 rfl)) (x_pj 1 (pjs pj1) (x_var 1 rfl))))) (fun _ _ _ h => sz ((nc (fun _ _ _ h => n1 h)) h) (by decide))))) (by unfold m_moved_cell; simp only [ok_bindP, ok_calmP, chk_calmP, opt_calmP, R.bind_pure, R.bind_assoc] <;> rfl))
theorem w_moved (T : Txt K mg Ad) : FnOk P w K mg base (L2.CX P w) 2 Ad.fmoved Ad.dmoved ["shape", "step"] (SpP mg (tc (rTu (tc (rT rC) (t1 rB))) (t1 rC)) (rTu (tc (rT rC) (t1 rB))) (fun a => m_moved a.1 a.2)) :=
  have hnd := scmoved.nd
  f_ok (fun a => [im (rTu (tc (rT rC) (t1 rB))) a.1, im rC a.2, .any, .any, .any]) T.F_moved scmoved (arc ar1) rfl (by decide) (fun _ => rfl) (fun cdv A outer s H E hr tk hp a => SX.cv (
    (p_asg (vs := [2, 3]) (gt_tup rfl (gts_cons (gt_name 2 (by decide) hnd) (gts_one (gt_name 3 (by decide) hnd)))) (x_var 0 rfl) (fun p_6048 => (p_retf [] (fun _ => rfl) .nil (x_tup (a_cons (x_callTy call_tuple_of dTupL T.n_tuple (by decide +kernel) (a_one (x_frzE (f_lcM (own := [("cell", 4)]) hnd (i_tup (x_var 2 rfl)) (blkOk_by (N := Nmoved) (sc := defScope smoved) (by decide +kernel)) (fun _ _ _ _ _ => (gt_name 4 (by decide) hnd)) (fun _ _ _ _ _ y_6049 => (x_call (w_moved_cell T) (hr.mono (by decide)) T.g_moved_cell T.k_moved_cell T.b_moved_cell takes0 .nil (a_cons (x_var 4 rfl) (a_one (x_var 1 rfl))))))))) (a_one (x_var 3 rfl))) (fun _ _ _ h => sz ((nc (fun _ _ _ h => n1 h)) h) (by decide))))))) (by unfold m_moved; simp only [ok_bindP, ok_calmP, chk_calmP, opt_calmP, R.bind_pure, R.bind_assoc] <;> rfl))
theorem w_Move_made (T : Txt K mg Ad) {L : Nat} (hL : 4 ≤ L) {D : Pl → ((List (Int × Int)) × Bool) → R ((List (Int × Int)) × Bool)} (ih : MethD P w K mg base (csl Ad) "done" L (tc (rPl (csl Ad)) (t1 (rTu (tc (rT rC) (t1 rB))))) (SpP mg (tc (rPl (csl Ad)) (t1 (rTu (tc (rT rC) (t1 rB))))) (rTu (tc (rT rC) (t1 rB)))) (fun x => x.1) (fun a => D a.1 a.2)) : FnOk P w K mg base (L2.CX P w) (L + 1) Ad.fMove_made Ad.dMove_made ["self", "shape"] (SpP mg (tc (rPl (csl Ad)) (t1 (rTu (tc (rT rC) (t1 rB))))) (rTu (tc (rT rC) (t1 rB))) (fun a => m_Move_made D a.1 a.2)) :=
  have hnd := scMove_made.nd
  f_ok (fun a => [im (rPl (csl Ad)) a.1, im (rTu (tc (rT rC) (t1 rB))) a.2]) T.F_Move_made scMove_made (arc ar1) rfl (by decide) (fun _ => rfl) (fun cdv A outer s H E hr tk hp a => SX.cv (
    (p_retf [] (fun _ => rfl) .nil (x_call (w_moved T) (hr.mono (by omega)) T.g_moved T.k_moved T.b_moved tk .nil (a_cons (x_meth ih T.pl (hr.mono (by omega)) tk .nil (by decide +kernel) (x_fld (fldPlan _) T.pl (x_var 0 rfl)) (a_one (x_var 1 rfl))) (a_one (x_fld (fldStep _) T.pl (x_var 0 rfl))))))) (by unfold m_Move_made; simp only [ok_bindP, ok_calmP, chk_calmP, opt_calmP, R.bind_pure, R.bind_assoc] <;> rfl))
theorem w_rising (T : Txt K mg Ad) : FnOk P w K mg base (L2.CX P w) 1 Ad.frising Ad.drising ["cells"] (SpP mg (t1 (rL rC)) (rT rC) (fun a => m_rising a)) :=
  have hnd := scrising.nd
  f_ok (fun a => [im (rL rC) a]) T.F_rising scrising ar1 rfl (by decide) (fun _ => rfl) (fun cdv A outer s H E hr tk hp a => SX.cv (
    (p_retf [] (fun _ => rfl) .nil (x_callTy call_tuple_of dTupL T.n_tuple (by decide +kernel) (a_one (x_frzE (f_sortset T.n_sorted (x_setL (u64 hr) T.n_set (x_var 0 rfl)))))))) (by unfold m_rising; simp only [ok_bindP, ok_calmP, chk_calmP, opt_calmP, R.bind_pure, R.bind_assoc] <;> rfl))
theorem w_mirrored (T : Txt K mg Ad) : FnOk P w K mg base (L2.CX P w) 2 Ad.fmirrored Ad.dmirrored ["piece"] (SpP mg (t1 (rT rC)) (rT rC) (fun a => m_mirrored a)) :=
  have hnd := scmirrored.nd
  f_ok (fun a => [im (rT rC) a, .any, .any]) T.F_mirrored scmirrored ar1 rfl (by decide) (fun _ => rfl) (fun cdv A outer s H E hr tk hp a => SX.cv (
    (p_retf [] (fun _ => rfl) .nil (x_call (w_rising T) (hr.mono (by decide)) T.g_rising T.k_rising T.b_rising tk .nil (a_one (x_frzE (f_lcM (own := [("row", 1), ("column", 2)]) hnd (i_tup (x_var 0 rfl)) (blkOk_by (N := Nmirrored) (sc := defScope smirrored) (by decide +kernel)) (fun _ _ _ _ _ => (gt_tup rfl (gts_cons (gt_name 1 (by decide) hnd) (gts_one (gt_name 2 (by decide) hnd))))) (fun _ _ _ _ _ y_6065 => (x_tup (a_cons (x_sub x_int (x_var 1 rfl)) (a_one (x_sub x_int (x_var 2 rfl)))) (fun _ _ _ h => sz ((nc (fun _ _ _ h => n1 h)) h) (by decide)))))))))) (by unfold m_mirrored; simp only [ok_bindP, ok_calmP, chk_calmP, opt_calmP, R.bind_pure, R.bind_assoc] <;> rfl))
theorem w_lies_on (T : Txt K mg Ad) : FnOk P w K mg base (L2.CX P w) 2 Ad.flies_on Ad.dlies_on ["piece", "cell"] (SpP mg (tc (rT rC) (t1 rC)) (rL rC) (fun a => m_lies_on a.1 a.2)) :=
  have hnd := sclies_on.nd
  f_ok (fun a => [im (rT rC) a.1, im rC a.2, .any]) T.F_lies_on sclies_on (arc ar1) rfl (by decide) (fun _ => rfl) (fun cdv A outer s H E hr tk hp a => SX.cv (
    (p_retf [] (fun _ => rfl) .nil (x_frzE (f_lcM (own := [("step", 2)]) hnd (i_tup (x_var 0 rfl)) (blkOk_by (N := Nlies_on) (sc := defScope slies_on) (by decide +kernel)) (fun _ _ _ _ _ => (gt_name 2 (by decide) hnd)) (fun _ _ _ _ _ y_6071 => (x_call (w_moved_cell T) (hr.mono (by decide)) T.g_moved_cell T.k_moved_cell T.b_moved_cell takes0 .nil (a_cons (x_var 2 rfl) (a_one (x_var 1 rfl))))))))) (by unfold m_lies_on; simp only [ok_bindP, ok_calmP, chk_calmP, opt_calmP, R.bind_pure, R.bind_assoc] <;> rfl))
theorem w_reached (T : Txt K mg Ad) : FnOk P w K mg base (L2.CX P w) 3 Ad.freached Ad.dreached ["cells", "piece"] (SpP mg (tc (rT rC) (t1 (rT rC))) (rT rC) (fun a => m_reached a.1 a.2)) :=
  have hnd := screached.nd
  f_ok (fun a => [im (rT rC) a.1, im (rT rC) a.2, .any, .any]) T.F_reached screached (arc ar1) rfl (by decide) (fun _ => rfl) (fun cdv A outer s H E hr tk hp a => SX.cv (
    (p_own 2 hnd (f_nil (ρ := rC)) (fun told_6074 => (p_for (vs := [3]) (fun (s : List (Int × Int)) => [im (rT rC) a.1, im (rT rC) a.2, .own none (oLi (tl rC) s), .any]) _ told_6074 hp (i_tup (x_var 0 rfl)) (gt_name 3 (by decide) hnd) (fun s_6075 x_6076 => (s_extend 2 (x_call (w_lies_on T) (hr.mono (by decide)) T.g_lies_on T.k_lies_on T.b_lies_on tk .nil (a_cons (x_var 1 rfl) (a_one (x_var 3 rfl)))) (fun y_6077 => (s_go (o := (s_6075 ++ y_6077)) rfl (.cons .rfl (.cons .rfl (.cons .rfl (.cons .any .nil)))))))) (.cons .rfl (.cons .rfl (.cons .rfl (.cons .any .nil)))) (fun s_6078 => (s_give 2 rfl (p_retf [] (fun _ => rfl) .nil (x_call (w_rising T) (hr.mono (by decide)) T.g_rising T.k_rising T.b_rising tk .nil (a_one (x_var 2 rfl)))))))))) (by unfold m_reached; simp only [ok_bindP, ok_calmP, chk_calmP, opt_calmP, R.bind_pure, R.bind_assoc] <;> rfl))
theorem w_less_cell (T : Txt K mg Ad) : FnOk P w K mg base (L2.CX P w) 1 Ad.fless_cell Ad.dless_cell ["cell", "step"] (SpP mg (tc rC (t1 rC)) rC (fun a => m_less_cell a.1 a.2)) :=
  have hnd := scless_cell.nd
  f_ok (fun a => [im rC a.1, im rC a.2]) T.F_less_cell scless_cell (arc ar1) rfl (by decide) (fun _ => rfl) (fun cdv A outer s H E hr tk hp a => SX.cv (
    (p_retf [] (fun _ => rfl) .nil (x_tup (a_cons (x_sub (x_pj 0 pj0 (x_var 0 rfl)) (x_pj 0 pj0 (x_var 1 rfl))) (a_one (x_sub (x_pj 1 (pjs pj1) (x_var 0 rfl)) (x_pj 1 (pjs pj1) (x_var 1 rfl))))) (fun _ _ _ h => sz ((nc (fun _ _ _ h => n1 h)) h) (by decide))))) (by unfold m_less_cell; simp only [ok_bindP, ok_calmP, chk_calmP, opt_calmP, R.bind_pure, R.bind_assoc] <;> rfl))
theorem w_kept_at (T : Txt K mg Ad) : FnOk P w K mg base (L2.CX P w) 3 Ad.fkept_at Ad.dkept_at ["cells", "piece"] (SpP mg (tc (rT rC) (t1 (rT rC))) (rT rC) (fun a => m_kept_at a.1 a.2)) :=
  have hnd := sckept_at.nd
  f_ok (fun a => [im (rT rC) a.1, im (rT rC) a.2, .any, .any, .any, .any, .any]) T.F_kept_at sckept_at (arc ar1) rfl (by decide) (fun _ => rfl) (fun cdv A outer s H E hr tk hp a => SX.cv (
    (p_own 2 hnd (f_dict (ky := kyC) (π := rB)) (fun _ => (p_for (vs := [3]) (fun (s : List ((Int × Int) × Bool)) => [im (rT rC) a.1, im (rT rC) a.2, .own none (oD kyC rB s), .any, .any, .any, .any]) _ ([] : List ((Int × Int) × Bool)) hp (i_tup (x_var 0 rfl)) (gt_name 3 (by decide) hnd) (fun s_6100 x_6101 => (s_dput 2 (u1 hr) x_bl (x_var 3 rfl) (fun v_6102 k_6103 => (let held_6104 : List ((Int × Int) × Bool) := (dPut s_6100 k_6103 v_6102); (s_go (o := held_6104) rfl (.cons .rfl (.cons .rfl (.cons .rfl (.cons .any (.cons .any (.cons .any (.cons .any .nil)))))))))))) (.cons .rfl (.cons .rfl (.cons .rfl (.cons .any (.cons .any (.cons .any (.cons .any .nil))))))) (fun s_6105 => (p_own 4 hnd (f_nil (ρ := rC)) (fun told_6106 => (s_giveD 2 rfl (p_for (vs := [3]) (fun (s : List (Int × Int)) => [im (rT rC) a.1, im (rT rC) a.2, im (rD kyC rB) s_6105, .any, .own none (oLi (tl rC) s), .any, .any]) _ told_6106 hp (i_tup (x_var 0 rfl)) (gt_name 3 (by decide) hnd) (fun s_6107 x_6108 => (p_set 5 hnd (x_call (w_less_cell T) (hr.mono (by decide)) T.g_less_cell T.k_less_cell T.b_less_cell tk .nil (a_cons (x_var 3 rfl) (a_one (x_ixT (x_var 1 rfl) x_int)))) (fun place_6111 => (p_if2 (x_test (x_callB (cr_all rfl) dAll T.n_all (by decide +kernel) (a_one (x_frzE (f_lcM (own := [("there", 6)]) hnd (i_list (x_call (w_lies_on T) (hr.mono (by decide)) T.g_lies_on T.k_lies_on T.b_lies_on tk .nil (a_cons (x_var 1 rfl) (a_one (x_var 5 rfl))))) (blkOk_by (N := Nkept_at) (sc := defScope skept_at) (by decide +kernel)) (fun _ _ _ _ _ => (gt_name 6 (by decide) hnd)) (fun _ _ _ _ _ y_6112 => (c_val (c_in (u1 hr) (x_var 6 rfl) (d_imm (x_var 2 rfl)))))))))) (s_append 4 (x_var 5 rfl) (fun y_6115 => (s_go (o := (s_6107 ++ [y_6115])) rfl (.cons .rfl (.cons .rfl (.cons .rfl (.cons .any (.cons .rfl (.cons .any (.cons .any .nil)))))))))) (s_go (o := s_6107) rfl (.cons .rfl (.cons .rfl (.cons .rfl (.cons .any (.cons .rfl (.cons .any (.cons .any .nil)))))))))))) (.cons .rfl (.cons .rfl (.cons .rfl (.cons .any (.cons .rfl (.cons .any (.cons .any .nil))))))) (fun s_6117 => (s_give 4 rfl (p_retf [] (fun _ => rfl) .nil (x_callTy call_tuple_of dTupL T.n_tuple (by decide +kernel) (a_one (x_var 4 rfl))))))))))))))) (by unfold m_kept_at; simp only [ok_bindP, ok_calmP, chk_calmP, opt_calmP, R.bind_pure, R.bind_assoc] <;> rfl))
theorem w_eaten (T : Txt K mg Ad) : FnOk P w K mg base (L2.CX P w) 4 Ad.featen Ad.deaten ["shape", "piece"] (SpP mg (tc (rTu (tc (rT rC) (t1 rB))) (t1 (rT rC))) (rTu (tc (rT rC) (t1 rB))) (fun a => m_eaten a.1 a.2)) :=
  have hnd := sceaten.nd
  f_ok (fun a => [im (rTu (tc (rT rC) (t1 rB))) a.1, im (rT rC) a.2, .any, .any]) T.F_eaten sceaten (arc ar1) rfl (by decide) (fun _ => rfl) (fun cdv A outer s H E hr tk hp a => SX.cv (
    (p_asg (vs := [2, 3]) (gt_tup rfl (gts_cons (gt_name 2 (by decide) hnd) (gts_one (gt_name 3 (by decide) hnd)))) (x_var 0 rfl) (fun p_6119 => (p_ifT (x_test (x_var 3 rfl)) (p_retf [] (fun _ => rfl) .nil (x_tup (a_cons (x_call (w_reached T) (hr.mono (by decide)) T.g_reached T.k_reached T.b_reached tk .nil (a_cons (x_var 2 rfl) (a_one (x_call (w_mirrored T) (hr.mono (by decide)) T.g_mirrored T.k_mirrored T.b_mirrored tk .nil (a_one (x_var 1 rfl)))))) (a_one x_bl)) (fun _ _ _ h => sz ((nc (fun _ _ _ h => n1 h)) h) (by decide)))) (p_retf [] (fun _ => rfl) .nil (x_tup (a_cons (x_call (w_kept_at T) (hr.mono (by decide)) T.g_kept_at T.k_kept_at T.b_kept_at tk .nil (a_cons (x_var 2 rfl) (a_one (x_var 1 rfl)))) (a_one x_bl)) (fun _ _ _ h => sz ((nc (fun _ _ _ h => n1 h)) h) (by decide)))))))) (by unfold m_eaten; simp only [ok_bindP, ok_calmP, chk_calmP, opt_calmP, R.bind_pure, R.bind_assoc] <;> rfl))
theorem w_Eat_made (T : Txt K mg Ad) {L : Nat} (hL : 4 ≤ L) {D : Pl → ((List (Int × Int)) × Bool) → R ((List (Int × Int)) × Bool)} (ih : MethD P w K mg base (csl Ad) "done" L (tc (rPl (csl Ad)) (t1 (rTu (tc (rT rC) (t1 rB))))) (SpP mg (tc (rPl (csl Ad)) (t1 (rTu (tc (rT rC) (t1 rB))))) (rTu (tc (rT rC) (t1 rB)))) (fun x => x.1) (fun a => D a.1 a.2)) : FnOk P w K mg base (L2.CX P w) (L + 1) Ad.fEat_made Ad.dEat_made ["self", "shape"] (SpP mg (tc (rPl (csl Ad)) (t1 (rTu (tc (rT rC) (t1 rB))))) (rTu (tc (rT rC) (t1 rB))) (fun a => m_Eat_made D a.1 a.2)) :=
  have hnd := scEat_made.nd
  f_ok (fun a => [im (rPl (csl Ad)) a.1, im (rTu (tc (rT rC) (t1 rB))) a.2]) T.F_Eat_made scEat_made (arc ar1) rfl (by decide) (fun _ => rfl) (fun cdv A outer s H E hr tk hp a => SX.cv (
    (p_retf [] (fun _ => rfl) .nil (x_call (w_eaten T) (hr.mono (by omega)) T.g_eaten T.k_eaten T.b_eaten tk .nil (a_cons (x_meth ih T.pl (hr.mono (by omega)) tk .nil (by decide +kernel) (x_fld (fldPlan _) T.pl (x_var 0 rfl)) (a_one (x_var 1 rfl))) (a_one (x_fld (fldPiece _) T.pl (x_var 0 rfl))))))) (by unfold m_Eat_made; simp only [ok_bindP, ok_calmP, chk_calmP, opt_calmP, R.bind_pure, R.bind_assoc] <;> rfl))
theorem w_grown (T : Txt K mg Ad) : FnOk P w K mg base (L2.CX P w) 4 Ad.fgrown Ad.dgrown ["shape", "piece"] (SpP mg (tc (rTu (tc (rT rC) (t1 rB))) (t1 (rT rC))) (rTu (tc (rT rC) (t1 rB))) (fun a => m_grown a.1 a.2)) :=
  have hnd := scgrown.nd
  f_ok (fun a => [im (rTu (tc (rT rC) (t1 rB))) a.1, im (rT rC) a.2, .any, .any]) T.F_grown scgrown (arc ar1) rfl (by decide) (fun _ => rfl) (fun cdv A outer s H E hr tk hp a => SX.cv (
    (p_asg (vs := [2, 3]) (gt_tup rfl (gts_cons (gt_name 2 (by decide) hnd) (gts_one (gt_name 3 (by decide) hnd)))) (x_var 0 rfl) (fun p_6137 => (p_ifT (x_test (x_var 3 rfl)) (p_retf [] (fun _ => rfl) .nil (x_tup (a_cons (x_call (w_kept_at T) (hr.mono (by decide)) T.g_kept_at T.k_kept_at T.b_kept_at tk .nil (a_cons (x_var 2 rfl) (a_one (x_call (w_mirrored T) (hr.mono (by decide)) T.g_mirrored T.k_mirrored T.b_mirrored tk .nil (a_one (x_var 1 rfl)))))) (a_one x_bl)) (fun _ _ _ h => sz ((nc (fun _ _ _ h => n1 h)) h) (by decide)))) (p_retf [] (fun _ => rfl) .nil (x_tup (a_cons (x_call (w_reached T) (hr.mono (by decide)) T.g_reached T.k_reached T.b_reached tk .nil (a_cons (x_var 2 rfl) (a_one (x_var 1 rfl)))) (a_one x_bl)) (fun _ _ _ h => sz ((nc (fun _ _ _ h => n1 h)) h) (by decide)))))))) (by unfold m_grown; simp only [ok_bindP, ok_calmP, chk_calmP, opt_calmP, R.bind_pure, R.bind_assoc] <;> rfl))
theorem w_Grow_made (T : Txt K mg Ad) {L : Nat} (hL : 4 ≤ L) {D : Pl → ((List (Int × Int)) × Bool) → R ((List (Int × Int)) × Bool)} (ih : MethD P w K mg base (csl Ad) "done" L (tc (rPl (csl Ad)) (t1 (rTu (tc (rT rC) (t1 rB))))) (SpP mg (tc (rPl (csl Ad)) (t1 (rTu (tc (rT rC) (t1 rB))))) (rTu (tc (rT rC) (t1 rB)))) (fun x => x.1) (fun a => D a.1 a.2)) : FnOk P w K mg base (L2.CX P w) (L + 1) Ad.fGrow_made Ad.dGrow_made ["self", "shape"] (SpP mg (tc (rPl (csl Ad)) (t1 (rTu (tc (rT rC) (t1 rB))))) (rTu (tc (rT rC) (t1 rB))) (fun a => m_Grow_made D a.1 a.2)) :=
  have hnd := scGrow_made.nd
  f_ok (fun a => [im (rPl (csl Ad)) a.1, im (rTu (tc (rT rC) (t1 rB))) a.2]) T.F_Grow_made scGrow_made (arc ar1) rfl (by decide) (fun _ => rfl) (fun cdv A outer s H E hr tk hp a => SX.cv (
    (p_retf [] (fun _ => rfl) .nil (x_call (w_grown T) (hr.mono (by omega)) T.g_grown T.k_grown T.b_grown tk .nil (a_cons (x_meth ih T.pl (hr.mono (by omega)) tk .nil (by decide +kernel) (x_fld (fldPlan _) T.pl (x_var 0 rfl)) (a_one (x_var 1 rfl))) (a_one (x_fld (fldPiece _) T.pl (x_var 0 rfl))))))) (by unfold m_Grow_made; simp only [ok_bindP, ok_calmP, chk_calmP, opt_calmP, R.bind_pure, R.bind_assoc] <;> rfl))
theorem w_rising_2 (T : Txt K mg Ad) : FnOk P w K mg base (L2.CX P w) 1 Ad.frising Ad.drising ["cells"] (SpP mg (t1 (rT rC)) (rT rC) (fun a => m_rising_2 a)) :=
  have hnd := scrising.nd
  f_ok (fun a => [im (rT rC) a]) T.F_rising scrising ar1 rfl (by decide) (fun _ => rfl) (fun cdv A outer s H E hr tk hp a => SX.cv (
    (p_retf [] (fun _ => rfl) .nil (x_callTy call_tuple_of dTupL T.n_tuple (by decide +kernel) (a_one (x_frzE (f_sortset T.n_sorted (x_setT (u64 hr) T.n_set (x_var 0 rfl)))))))) (by unfold m_rising_2; simp only [ok_bindP, ok_calmP, chk_calmP, opt_calmP, R.bind_pure, R.bind_assoc] <;> rfl))
theorem w_only_in (T : Txt K mg Ad) : FnOk P w K mg base (L2.CX P w) 1 Ad.fonly_in Ad.donly_in ["one", "other"] (SpP mg (tc (rT rC) (t1 (rT rC))) (rT rC) (fun a => m_only_in a.1 a.2)) :=
  have hnd := sconly_in.nd
  f_ok (fun a => [im (rT rC) a.1, im (rT rC) a.2, .any, .any]) T.F_only_in sconly_in (arc ar1) rfl (by decide) (fun _ => rfl) (fun cdv A outer s H E hr tk hp a => SX.cv (
    (p_own 2 hnd (f_dict (ky := kyC) (π := rB)) (fun _ => (p_for (vs := [3]) (fun (s : List ((Int × Int) × Bool)) => [im (rT rC) a.1, im (rT rC) a.2, .own none (oD kyC rB s), .any]) _ ([] : List ((Int × Int) × Bool)) hp (i_tup (x_var 1 rfl)) (gt_name 3 (by decide) hnd) (fun s_6163 x_6164 => (s_dput 2 (u1 hr) x_bl (x_var 3 rfl) (fun v_6165 k_6166 => (let seen_6167 : List ((Int × Int) × Bool) := (dPut s_6163 k_6166 v_6165); (s_go (o := seen_6167) rfl (.cons .rfl (.cons .rfl (.cons .rfl (.cons .any .nil))))))))) (.cons .rfl (.cons .rfl (.cons .rfl (.cons .any .nil)))) (fun s_6168 => (s_giveD 2 rfl (p_retf [] (fun _ => rfl) .nil (x_callTy call_tuple_of dTupL T.n_tuple (by decide +kernel) (a_one (x_frzE (f_lcF (own := [("cell", 3)]) hnd (i_tup (x_var 0 rfl)) (blkOk_by (N := Nonly_in) (sc := defScope sonly_in) (by decide +kernel)) (fun _ _ _ _ _ => (gt_name 3 (by decide) hnd)) (fun _ _ _ _ _ y_6169 => (ts_one (c_tst (c_nin (u1 hr) (x_var 3 rfl) (d_imm (x_var 2 rfl)))))) (fun _ _ _ _ _ y_6169 => (x_var 3 rfl))))))))))))) (by unfold m_only_in; simp only [ok_bindP, ok_calmP, chk_calmP, opt_calmP, R.bind_pure, R.bind_assoc] <;> rfl))
theorem w_both (T : Txt K mg Ad) : FnOk P w K mg base (L2.CX P w) 2 Ad.fboth Ad.dboth ["one", "other"] (SpP mg (tc (rTu (tc (rT rC) (t1 rB))) (t1 (rTu (tc (rT rC) (t1 rB))))) (rTu (tc (rT rC) (t1 rB))) (fun a => m_both a.1 a.2)) :=
  have hnd := scboth.nd
  f_ok (fun a => [im (rTu (tc (rT rC) (t1 rB))) a.1, im (rTu (tc (rT rC) (t1 rB))) a.2]) T.F_both scboth (arc ar1) rfl (by decide) (fun _ => rfl) (fun cdv A outer s H E hr tk hp a => SX.cv (
    (p_ifT (x_w (w_and2 (x_test (x_pj 1 (pjs pj1) (x_var 0 rfl))) (w_and1 (x_test (x_pj 1 (pjs pj1) (x_var 1 rfl)))))) (p_retf [] (fun _ => rfl) .nil (x_tup (a_cons (x_call (w_rising_2 T) (hr.mono (by decide)) T.g_rising T.k_rising T.b_rising tk .nil (a_one (x_catT (x_pj 0 pj0 (x_var 0 rfl)) (x_pj 0 pj0 (x_var 1 rfl))))) (a_one x_bl)) (fun _ _ _ h => sz ((nc (fun _ _ _ h => n1 h)) h) (by decide)))) (p_ifT (x_test (x_pj 1 (pjs pj1) (x_var 0 rfl))) (p_retf [] (fun _ => rfl) .nil (x_tup (a_cons (x_call (w_only_in T) (hr.mono (by decide)) T.g_only_in T.k_only_in T.b_only_in tk .nil (a_cons (x_pj 0 pj0 (x_var 1 rfl)) (a_one (x_pj 0 pj0 (x_var 0 rfl))))) (a_one x_bl)) (fun _ _ _ h => sz ((nc (fun _ _ _ h => n1 h)) h) (by decide)))) (p_ifT (x_test (x_pj 1 (pjs pj1) (x_var 1 rfl))) (p_retf [] (fun _ => rfl) .nil (x_tup (a_cons (x_call (w_only_in T) (hr.mono (by decide)) T.g_only_in T.k_only_in T.b_only_in tk .nil (a_cons (x_pj 0 pj0 (x_var 0 rfl)) (a_one (x_pj 0 pj0 (x_var 1 rfl))))) (a_one x_bl)) (fun _ _ _ h => sz ((nc (fun _ _ _ h => n1 h)) h) (by decide)))) (p_retf [] (fun _ => rfl) .nil (x_tup (a_cons (x_call (w_only_in T) (hr.mono (by decide)) T.g_only_in T.k_only_in T.b_only_in tk .nil (a_cons (x_pj 0 pj0 (x_var 0 rfl)) (a_one (x_call (w_only_in T) (hr.mono (by decide)) T.g_only_in T.k_only_in T.b_only_in tk .nil (a_cons (x_pj 0 pj0 (x_var 0 rfl)) (a_one (x_pj 0 pj0 (x_var 1 rfl)))))))) (a_one x_bl)) (fun _ _ _ h => sz ((nc (fun _ _ _ h => n1 h)) h) (by decide)))))))) (by unfold m_both; simp only [ok_bindP, ok_calmP, chk_calmP, opt_calmP, R.bind_pure, R.bind_assoc] <;> rfl))
theorem w_Both_made (T : Txt K mg Ad) {L : Nat} (hL : 4 ≤ L) {D : Pl → ((List (Int × Int)) × Bool) → R ((List (Int × Int)) × Bool)} (ih : MethD P w K mg base (csl Ad) "done" L (tc (rPl (csl Ad)) (t1 (rTu (tc (rT rC) (t1 rB))))) (SpP mg (tc (rPl (csl Ad)) (t1 (rTu (tc (rT rC) (t1 rB))))) (rTu (tc (rT rC) (t1 rB)))) (fun x => x.1) (fun a => D a.1 a.2)) : FnOk P w K mg base (L2.CX P w) (L + 1) Ad.fBoth_made Ad.dBoth_made ["self", "shape"] (SpP mg (tc (rPl (csl Ad)) (t1 (rTu (tc (rT rC) (t1 rB))))) (rTu (tc (rT rC) (t1 rB))) (fun a => m_Both_made D a.1 a.2)) :=
  have hnd := scBoth_made.nd
  f_ok (fun a => [im (rPl (csl Ad)) a.1, im (rTu (tc (rT rC) (t1 rB))) a.2]) T.F_Both_made scBoth_made (arc ar1) rfl (by decide) (fun _ => rfl) (fun cdv A outer s H E hr tk hp a => SX.cv (
    (p_retf [] (fun _ => rfl) .nil (x_call (w_both T) (hr.mono (by omega)) T.g_both T.k_both T.b_both tk .nil (a_cons (x_meth ih T.pl (hr.mono (by omega)) tk .nil (by decide +kernel) (x_fld (fldOne _) T.pl (x_var 0 rfl)) (a_one (x_var 1 rfl))) (a_one (x_meth ih T.pl (hr.mono (by omega)) tk .nil (by decide +kernel) (x_fld (fldOther _) T.pl (x_var 0 rfl)) (a_one (x_var 1 rfl)))))))) (by unfold m_Both_made; simp only [ok_bindP, ok_calmP, chk_calmP, opt_calmP, R.bind_pure, R.bind_assoc] <;> rfl))
theorem w_outside (T : Txt K mg Ad) : FnOk P w K mg base (L2.CX P w) 1 Ad.foutside Ad.doutside ["shape"] (SpP mg (t1 (rTu (tc (rT rC) (t1 rB)))) (rTu (tc (rT rC) (t1 rB))) (fun a => m_outside a)) :=
  have hnd := scoutside.nd
  f_ok (fun a => [im (rTu (tc (rT rC) (t1 rB))) a, .any, .any]) T.F_outside scoutside ar1 rfl (by decide) (fun _ => rfl) (fun cdv A outer s H E hr tk hp a => SX.cv (
    (p_asg (vs := [1, 2]) (gt_tup rfl (gts_cons (gt_name 1 (by decide) hnd) (gts_one (gt_name 2 (by decide) hnd)))) (x_var 0 rfl) (fun p_6194 => (p_retf [] (fun _ => rfl) .nil (x_tup (a_cons (x_var 1 rfl) (a_one (x_not (x_var 2 rfl)))) (fun _ _ _ h => sz ((nc (fun _ _ _ h => n1 h)) h) (by decide))))))) (by unfold m_outside; simp only [ok_bindP, ok_calmP, chk_calmP, opt_calmP, R.bind_pure, R.bind_assoc] <;> rfl))
theorem w_either (T : Txt K mg Ad) : FnOk P w K mg base (L2.CX P w) 3 Ad.feither Ad.deither ["one", "other"] (SpP mg (tc (rTu (tc (rT rC) (t1 rB))) (t1 (rTu (tc (rT rC) (t1 rB))))) (rTu (tc (rT rC) (t1 rB))) (fun a => m_either a.1 a.2)) :=
  have hnd := sceither.nd
  f_ok (fun a => [im (rTu (tc (rT rC) (t1 rB))) a.1, im (rTu (tc (rT rC) (t1 rB))) a.2]) T.F_either sceither (arc ar1) rfl (by decide) (fun _ => rfl) (fun cdv A outer s H E hr tk hp a => SX.cv (
    (p_retf [] (fun _ => rfl) .nil (x_call (w_outside T) (hr.mono (by decide)) T.g_outside T.k_outside T.b_outside tk .nil (a_one (x_call (w_both T) (hr.mono (by decide)) T.g_both T.k_both T.b_both tk .nil (a_cons (x_call (w_outside T) (hr.mono (by decide)) T.g_outside T.k_outside T.b_outside tk .nil (a_one (x_var 0 rfl))) (a_one (x_call (w_outside T) (hr.mono (by decide)) T.g_outside T.k_outside T.b_outside tk .nil (a_one (x_var 1 rfl)))))))))) (by unfold m_either; simp only [ok_bindP, ok_calmP, chk_calmP, opt_calmP, R.bind_pure, R.bind_assoc] <;> rfl))
theorem w_Either_made (T : Txt K mg Ad) {L : Nat} (hL : 4 ≤ L) {D : Pl → ((List (Int × Int)) × Bool) → R ((List (Int × Int)) × Bool)} (ih : MethD P w K mg base (csl Ad) "done" L (tc (rPl (csl Ad)) (t1 (rTu (tc (rT rC) (t1 rB))))) (SpP mg (tc (rPl (csl Ad)) (t1 (rTu (tc (rT rC) (t1 rB))))) (rTu (tc (rT rC) (t1 rB)))) (fun x => x.1) (fun a => D a.1 a.2)) : FnOk P w K mg base (L2.CX P w) (L + 1) Ad.fEither_made Ad.dEither_made ["self", "shape"] (SpP mg (tc (rPl (csl Ad)) (t1 (rTu (tc (rT rC) (t1 rB))))) (rTu (tc (rT rC) (t1 rB))) (fun a => m_Either_made D a.1 a.2)) :=
  have hnd := scEither_made.nd
  f_ok (fun a => [im (rPl (csl Ad)) a.1, im (rTu (tc (rT rC) (t1 rB))) a.2]) T.F_Either_made scEither_made (arc ar1) rfl (by decide) (fun _ => rfl) (fun cdv A outer s H E hr tk hp a => SX.cv (
    (p_retf [] (fun _ => rfl) .nil (x_call (w_either T) (hr.mono (by omega)) T.g_either T.k_either T.b_either tk .nil (a_cons (x_meth ih T.pl (hr.mono (by omega)) tk .nil (by decide +kernel) (x_fld (fldOne _) T.pl (x_var 0 rfl)) (a_one (x_var 1 rfl))) (a_one (x_meth ih T.pl (hr.mono (by omega)) tk .nil (by decide +kernel) (x_fld (fldOther _) T.pl (x_var 0 rfl)) (a_one (x_var 1 rfl)))))))) (by unfold m_Either_made; simp only [ok_bindP, ok_calmP, chk_calmP, opt_calmP, R.bind_pure, R.bind_assoc] <;> rfl))
theorem w_D_made (T : Txt K mg Ad) {L : Nat} (hL : 4 ≤ L) {D : Pl → ((List (Int × Int)) × Bool) → R ((List (Int × Int)) × Bool)} (ih : MethD P w K mg base (csl Ad) "done" L (tc (rPl (csl Ad)) (t1 (rTu (tc (rT rC) (t1 rB))))) (SpP mg (tc (rPl (csl Ad)) (t1 (rTu (tc (rT rC) (t1 rB))))) (rTu (tc (rT rC) (t1 rB)))) (fun x => x.1) (fun a => D a.1 a.2)) : MethD P w K mg base (csl Ad) "made" (L + 1) (tc (rPl (csl Ad)) (t1 (rTu (tc (rT rC) (t1 rB))))) (SpP mg (tc (rPl (csl Ad)) (t1 (rTu (tc (rT rC) (t1 rB))))) (rTu (tc (rT rC) (t1 rB)))) (fun x => x.1) (fun a => m_D_made D a.1 a.2) :=
  ⟨(pl_cons ⟨_, T.mt_Keep_made, .inr ⟨_, _, _, _, (by omega), T.b_Plan_made, w_Plan_made T, fun x hx => by simp only [m_D_made, hx]⟩⟩ (pl_cons ⟨_, T.mt_Nothing_made, .inr ⟨_, _, _, _, (by omega), T.b_Nothing_made, w_Nothing_made T, fun x hx => by simp only [m_D_made, hx]⟩⟩ (pl_cons ⟨_, T.mt_Everything_made, .inr ⟨_, _, _, _, (by omega), T.b_Everything_made, w_Everything_made T, fun x hx => by simp only [m_D_made, hx]⟩⟩ (pl_cons ⟨_, T.mt_Move_made, .inr ⟨_, _, _, _, (by omega), T.b_Move_made, w_Move_made T hL ih, fun x hx => by simp only [m_D_made, hx]⟩⟩ (pl_cons ⟨_, T.mt_Eat_made, .inr ⟨_, _, _, _, (by omega), T.b_Eat_made, w_Eat_made T hL ih, fun x hx => by simp only [m_D_made, hx]⟩⟩ (pl_cons ⟨_, T.mt_Grow_made, .inr ⟨_, _, _, _, (by omega), T.b_Grow_made, w_Grow_made T hL ih, fun x hx => by simp only [m_D_made, hx]⟩⟩ (pl_cons ⟨_, T.mt_Both_made, .inr ⟨_, _, _, _, (by omega), T.b_Both_made, w_Both_made T hL ih, fun x hx => by simp only [m_D_made, hx]⟩⟩ (pl_cons ⟨_, T.mt_Either_made, .inr ⟨_, _, _, _, (by omega), T.b_Either_made, w_Either_made T hL ih, fun x hx => by simp only [m_D_made, hx]⟩⟩ pl_nil))))))))⟩
theorem w_Plan_done (T : Txt K mg Ad) {L : Nat} (hL : 4 ≤ L) {D : Pl → ((List (Int × Int)) × Bool) → R ((List (Int × Int)) × Bool)} (ih : MethD P w K mg base (csl Ad) "done" L (tc (rPl (csl Ad)) (t1 (rTu (tc (rT rC) (t1 rB))))) (SpP mg (tc (rPl (csl Ad)) (t1 (rTu (tc (rT rC) (t1 rB))))) (rTu (tc (rT rC) (t1 rB)))) (fun x => x.1) (fun a => D a.1 a.2)) : FnOk P w K mg base (L2.CX P w) (L + 2) Ad.fPlan_done Ad.dPlan_done ["self", "shape"] (SpP mg (tc (rPl (csl Ad)) (t1 (rTu (tc (rT rC) (t1 rB))))) (rTu (tc (rT rC) (t1 rB))) (fun a => m_Plan_done D a.1 a.2)) :=
  have hnd := scPlan_done.nd
  f_ok (fun a => [im (rPl (csl Ad)) a.1, im (rTu (tc (rT rC) (t1 rB))) a.2, .any]) T.F_Plan_done scPlan_done (arc ar1) rfl (by decide) (fun _ => rfl) (fun cdv A outer s H E hr tk hp a => SX.cv (
    (p_set 2 hnd (x_meth (w_D_made T hL ih) T.pl (hr.mono (by omega)) tk .nil (by decide +kernel) (x_var 0 rfl) (a_one (x_var 1 rfl))) (fun told_6212 => (p_ifT (x_tcmp op_gt dIb (x_len dLenT T.n_len (a_one (x_pj 0 pj0 (x_var 2 rfl)))) (x_globI T.c_MOST_MADE)) (p_raiseX T.x_TooMany tk .nil) (p_retf [] (fun _ => rfl) .nil (x_var 2 rfl)))))) (by unfold m_Plan_done; simp only [ok_bindP, ok_calmP, chk_calmP, opt_calmP, R.bind_pure, R.bind_assoc] <;> rfl))
theorem w_D_done (T : Txt K mg Ad) (fu : Nat) : MethD P w K mg base (csl Ad) "done" (4 + 2 * fu) (tc (rPl (csl Ad)) (t1 (rTu (tc (rT rC) (t1 rB))))) (SpP mg (tc (rPl (csl Ad)) (t1 (rTu (tc (rT rC) (t1 rB))))) (rTu (tc (rT rC) (t1 rB)))) (fun x => x.1) (fun a => m_D_done fu a.1 a.2) := by
  induction fu with
  | zero => exact ⟨(pl_cons ⟨_, T.mt_Keep_done, .inl fun x _ => by simp only [m_D_done]⟩ (pl_cons ⟨_, T.mt_Nothing_done, .inl fun x _ => by simp only [m_D_done]⟩ (pl_cons ⟨_, T.mt_Everything_done, .inl fun x _ => by simp only [m_D_done]⟩ (pl_cons ⟨_, T.mt_Move_done, .inl fun x _ => by simp only [m_D_done]⟩ (pl_cons ⟨_, T.mt_Eat_done, .inl fun x _ => by simp only [m_D_done]⟩ (pl_cons ⟨_, T.mt_Grow_done, .inl fun x _ => by simp only [m_D_done]⟩ (pl_cons ⟨_, T.mt_Both_done, .inl fun x _ => by simp only [m_D_done]⟩ (pl_cons ⟨_, T.mt_Either_done, .inl fun x _ => by simp only [m_D_done]⟩ pl_nil))))))))⟩
  | succ fu ih => exact ⟨(pl_cons ⟨_, T.mt_Keep_done, .inr ⟨_, _, _, _, (by omega), T.b_Plan_done, w_Plan_done T (Nat.le_add_right _ _) ih, fun x hx => by simp only [m_D_done, hx]⟩⟩ (pl_cons ⟨_, T.mt_Nothing_done, .inr ⟨_, _, _, _, (by omega), T.b_Plan_done, w_Plan_done T (Nat.le_add_right _ _) ih, fun x hx => by simp only [m_D_done, hx]⟩⟩ (pl_cons ⟨_, T.mt_Everything_done, .inr ⟨_, _, _, _, (by omega), T.b_Plan_done, w_Plan_done T (Nat.le_add_right _ _) ih, fun x hx => by simp only [m_D_done, hx]⟩⟩ (pl_cons ⟨_, T.mt_Move_done, .inr ⟨_, _, _, _, (by omega), T.b_Plan_done, w_Plan_done T (Nat.le_add_right _ _) ih, fun x hx => by simp only [m_D_done, hx]⟩⟩ (pl_cons ⟨_, T.mt_Eat_done, .inr ⟨_, _, _, _, (by omega), T.b_Plan_done, w_Plan_done T (Nat.le_add_right _ _) ih, fun x hx => by simp only [m_D_done, hx]⟩⟩ (pl_cons ⟨_, T.mt_Grow_done, .inr ⟨_, _, _, _, (by omega), T.b_Plan_done, w_Plan_done T (Nat.le_add_right _ _) ih, fun x hx => by simp only [m_D_done, hx]⟩⟩ (pl_cons ⟨_, T.mt_Both_done, .inr ⟨_, _, _, _, (by omega), T.b_Plan_done, w_Plan_done T (Nat.le_add_right _ _) ih, fun x hx => by simp only [m_D_done, hx]⟩⟩ (pl_cons ⟨_, T.mt_Either_done, .inr ⟨_, _, _, _, (by omega), T.b_Plan_done, w_Plan_done T (Nat.le_add_right _ _) ih, fun x hx => by simp only [m_D_done, hx]⟩⟩ pl_nil))))))))⟩
theorem w_law_done (T : Txt K mg Ad) : FnOk P w K mg base (L2.CX P w) 125 Ad.f_law_done Ad.d_law_done ["plan", "shape"] (SpP mg (tc (rPl (csl Ad)) (t1 (rTu (tc (rT rC) (t1 rB))))) (rO (rTu (tc (rT rC) (t1 rB)))) (fun a => m_law_done a.1 a.2)) :=
  have hnd := sc_law_done.nd
  f_ok (fun a => [im (rPl (csl Ad)) a.1, im (rTu (tc (rT rC) (t1 rB))) a.2, .any]) T.F__law_done sc_law_done (arc ar1) rfl (by decide) (fun _ => rfl) (fun cdv A outer s H E hr tk hp a => SX.cv (
    (p_set 2 hnd (x_nonO (ρ := (rTu (tc (rT rC) (t1 rB))))) (fun found_6217 => (p_tryOnly (fun s => if s = ("TooMany" : Str) then some true else none) [im (rPl (csl Ad)) a.1, im (rTu (tc (rT rC) (t1 rB))) a.2, im (rO (rTu (tc (rT rC) (t1 rB)))) found_6217] (fun (s : Option ((List (Int × Int)) × Bool)) => [im (rPl (csl Ad)) a.1, im (rTu (tc (rT rC) (t1 rB))) a.2, im (rO (rTu (tc (rT rC) (t1 rB)))) s]) T.gc_TooMany tk .nil (ct_cons T.x_TooMany.g T.e_TooMany_TooMany ct_nil) (fun W_6218 pn_6219 xe_6220 tk_6221 hp_6222 => (p_set 2 hnd (x_map (ρ' := (rO (rTu (tc (rT rC) (t1 rB))))) some (fun _ _ _ h => h) (x_meth (w_D_done T 60) T.pl (hr.mono (by decide)) tk_6221 (.cons .rfl (.cons .rfl (.cons .rfl .nil))) (by decide +kernel) (x_var 0 rfl) (a_one (x_var 1 rfl)))) (fun found_6234 => (s_nx (o := found_6234) rfl (.cons .rfl (.cons .rfl (.cons .rfl .nil))))))) (fun a_6223 oe_6224 cl_6225 d_6226 pn_6227 r_6228 hz_6229 hf_6230 hc_6231 hd_6232 => (p_set 2 hnd (x_nonO (ρ := (rTu (tc (rT rC) (t1 rB))))) (fun found_6235 => (s_nx (o := found_6235) rfl (.cons .rfl (.cons .rfl (.cons .rfl .nil))))))) (fun s_6236 => (p_retf [] (fun _ => rfl) .nil (x_var 2 rfl))))))) (by unfold m_law_done; simp only [ok_bindP, ok_calmP, chk_calmP, opt_calmP, R.bind_pure, R.bind_assoc] <;> rfl))
theorem w_law_behind (T : Txt K mg Ad) : FnOk P w K mg base (L2.CX P w) 126 Ad.f_law_behind Ad.d_law_behind ["one", "other", "chained", "shape"] (SpP mg (tc (rPl (csl Ad)) (tc (rPl (csl Ad)) (tc (rPl (csl Ad)) (t1 (rTu (tc (rT rC) (t1 rB))))))) rB (fun a => m_law_behind a.1 a.2.1 a.2.2.1 a.2.2.2)) :=
  have hnd := sc_law_behind.nd
  f_ok (fun a => [im (rPl (csl Ad)) a.1, im (rPl (csl Ad)) a.2.1, im (rPl (csl Ad)) a.2.2.1, im (rTu (tc (rT rC) (t1 rB))) a.2.2.2, .any, .any]) T.F__law_behind sc_law_behind (arc (arc (arc ar1))) rfl (by decide) (fun _ => rfl) (fun cdv A outer s H E hr tk hp a => SX.cv (
    (p_set 4 hnd (x_call (w_law_done T) (hr.mono (by decide)) T.g__law_done T.k__law_done T.b__law_done tk .nil (a_cons (x_var 0 rfl) (a_one (x_var 3 rfl)))) (fun first_6248 => (p_ifT (x_w (w_or (c_tst (c_isN nnTu (x_var 4 rfl))) (w_or1 (x_tcmp op_gt dIb (x_len dLenT T.n_len (a_one (x_pj 0 pj0 (x_some (x_var 4 rfl))))) x_int)))) (p_retf [] (fun _ => rfl) .nil x_bl) (p_set 5 hnd (x_call (w_law_done T) (hr.mono (by decide)) T.g__law_done T.k__law_done T.b__law_done tk .nil (a_cons (x_var 1 rfl) (a_one (x_some (x_var 4 rfl))))) (fun second_6254 => (p_retf [] (fun _ => rfl) .nil (x_or (c_val (c_isN nnTu (x_var 5 rfl))) (x_one (x_call (w_law_same T 60) (hr.mono (by decide)) T.g__law_same T.k__law_same T.b__law_same tk .nil (a_cons (x_cv (cvY (yO (yTu (yc (yT (yTu (yc yI (y1 yI)))) (y1 yB))))) (x_call (w_law_done T) (hr.mono (by decide)) T.g__law_done T.k__law_done T.b__law_done tk .nil (a_cons (x_var 2 rfl) (a_one (x_var 3 rfl))))) (a_one (x_cv (cvY (yO (yTu (yc (yT (yTu (yc yI (y1 yI)))) (y1 yB))))) (x_var 5 rfl)))))))))))))) (by unfold m_law_behind; simp only [ok_bindP, ok_calmP, chk_calmP, opt_calmP, R.bind_pure, R.bind_assoc] <;> rfl))
theorem w_opening (T : Txt K mg Ad) : FnOk P w K mg base (L2.CX P w) 64 Ad.fopening Ad.dopening ["piece", "plan"] (SpP mg (tc (rT rC) (t1 (rPl (csl Ad)))) (rPl (csl Ad)) (fun a => m_opening a.1 a.2)) :=
  have hnd := scopening.nd
  f_ok (fun a => [im (rT rC) a.1, im (rPl (csl Ad)) a.2]) T.F_opening scopening (arc ar1) rfl (by decide) (fun _ => rfl) (fun cdv A outer s H E hr tk hp a => SX.cv (
    (p_retf [] (fun _ => rfl) .nil (x_call (w_let_by T) (hr.mono (by decide)) T.g_let_by T.k_let_by T.b_let_by tk .nil (a_one (x_mk2 (mkGrow (List.Mem.tail _ (List.Mem.tail _ (List.Mem.tail _ (List.Mem.tail _ (List.Mem.tail _ (List.Mem.head _))))))) T.mk_Grow (w_init_Grow T) (hr.mono (by decide)) T.gc_Grow T.b_Grow___init__ (a_cons (x_var 0 rfl) (a_one (x_mk2 (mkEat (List.Mem.tail _ (List.Mem.tail _ (List.Mem.tail _ (List.Mem.tail _ (List.Mem.head _)))))) T.mk_Eat (w_init_Eat T) (hr.mono (by decide)) T.gc_Eat T.b_Eat___init__ (a_cons (x_var 0 rfl) (a_one (x_var 1 rfl))))))))))) (by unfold m_opening; simp only [ok_bindP, ok_calmP, chk_calmP, opt_calmP, R.bind_pure, R.bind_assoc] <;> rfl))
theorem w_closing (T : Txt K mg Ad) : FnOk P w K mg base (L2.CX P w) 64 Ad.fclosing Ad.dclosing ["piece", "plan"] (SpP mg (tc (rT rC) (t1 (rPl (csl Ad)))) (rPl (csl Ad)) (fun a => m_closing a.1 a.2)) :=
  have hnd := scclosing.nd
  f_ok (fun a => [im (rT rC) a.1, im (rPl (csl Ad)) a.2]) T.F_closing scclosing (arc ar1) rfl (by decide) (fun _ => rfl) (fun cdv A outer s H E hr tk hp a => SX.cv (
    (p_retf [] (fun _ => rfl) .nil (x_call (w_let_by T) (hr.mono (by decide)) T.g_let_by T.k_let_by T.b_let_by tk .nil (a_one (x_mk2 (mkEat (List.Mem.tail _ (List.Mem.tail _ (List.Mem.tail _ (List.Mem.tail _ (List.Mem.head _)))))) T.mk_Eat (w_init_Eat T) (hr.mono (by decide)) T.gc_Eat T.b_Eat___init__ (a_cons (x_var 0 rfl) (a_one (x_mk2 (mkGrow (List.Mem.tail _ (List.Mem.tail _ (List.Mem.tail _ (List.Mem.tail _ (List.Mem.tail _ (List.Mem.head _))))))) T.mk_Grow (w_init_Grow T) (hr.mono (by decide)) T.gc_Grow T.b_Grow___init__ (a_cons (x_var 0 rfl) (a_one (x_var 1 rfl))))))))))) (by unfold m_closing; simp only [ok_bindP, ok_calmP, chk_calmP, opt_calmP, R.bind_pure, R.bind_assoc] <;> rfl))
theorem w_law_asked_2 (T : Txt K mg Ad) : FnOk P w K mg base (L2.CX P w) 65 Ad.f_law_asked Ad.d_law_asked ["way", "one", "other"] (SpP mg (tc rI (tc (rPl (csl Ad)) (t1 (rT rC)))) (rQ (csl Ad)) (fun a => m_law_asked_2 a.1 a.2.1 a.2.2)) :=
  have hnd := sc_law_asked.nd
  f_ok (fun a => [im rI a.1, im (rPl (csl Ad)) a.2.1, im (rT rC) a.2.2, .any, .any]) T.F__law_asked sc_law_asked (arc (arc ar1)) rfl (by decide) (fun _ => rfl) (fun cdv A outer s H E hr tk hp a => SX.cv (
    (p_set 3 hnd (x_nonO (ρ := (rQ (csl Ad)))) (fun found_6287 => (p_tryAs 4 (fun s => if s = ("TooMany" : Str) then some true else none) [im rI a.1, im (rPl (csl Ad)) a.2.1, im (rT rC) a.2.2, im (rO (rQ (csl Ad))) found_6287, .any] (fun (s : Option (Sum Str Pl)) => [im rI a.1, im (rPl (csl Ad)) a.2.1, im (rT rC) a.2.2, im (rO (rQ (csl Ad))) s, .any]) hnd T.gc_MossError tk .nil (ct_cons T.x_TooMany.g T.e_TooMany_MossError ct_nil) (fun W_6288 pn_6289 xe_6290 tk_6291 hp_6292 => (p_if2 (x_tcmp op_eq dEqI (x_var 0 rfl) x_int) s_bad (p_if2 (x_tcmp op_eq dEqI (x_var 0 rfl) x_int) (p_set 3 hnd (x_cv (cvS cvQR) (x_call (w_opening T) (hr.mono (by decide)) T.g_opening T.k_opening T.b_opening tk_6291 (.cons .rfl (.cons .rfl (.cons .rfl (.cons .rfl (.cons .any .nil))))) (a_cons (x_var 2 rfl) (a_one (x_var 1 rfl))))) (fun found_6304 => (s_nx (o := found_6304) rfl (.cons .rfl (.cons .rfl (.cons .rfl (.cons .rfl (.cons .any .nil)))))))) (p_set 3 hnd (x_cv (cvS cvQR) (x_call (w_closing T) (hr.mono (by decide)) T.g_closing T.k_closing T.b_closing tk_6291 (.cons .rfl (.cons .rfl (.cons .rfl (.cons .rfl (.cons .any .nil))))) (a_cons (x_var 2 rfl) (a_one (x_var 1 rfl))))) (fun found_6306 => (s_nx (o := found_6306) rfl (.cons .rfl (.cons .rfl (.cons .rfl (.cons .rfl (.cons .any .nil))))))))))) (fun a_6293 oe_6294 cl_6295 d_6296 pn_6297 r_6298 hz_6299 hf_6300 hc_6301 hd_6302 => (p_set 3 hnd (x_cv (cvS cvQL) (x_callE 4 (w_law_kind T hz_6299 hf_6300 hc_6301 hd_6302) (roomE (hr.mono (by decide))) (List.Mem.head _) T.g__law_kind T.k__law_kind T.b__law_kind)) (fun found_6308 => (s_nx (o := found_6308) rfl (.cons .rfl (.cons .rfl (.cons .rfl (.cons .rfl (.cons .any .nil))))))))) (fun _ x h => by injection h with h; exact h.symm) (fun s_6309 => (p_retf [] (fun _ => rfl) .nil (x_some (x_var 3 rfl)))))))) (by unfold m_law_asked_2; simp only [ok_bindP, ok_calmP, chk_calmP, opt_calmP, R.bind_pure, R.bind_assoc] <;> rfl))
theorem w_law (T : Txt K mg Ad) : FnOk P w K mg base (L2.CX P w) 127 Ad.flaw Ad.dlaw ["script"] (SpP mg (t1 (rScr K)) rB (fun a => m_law a)) :=
  have hnd := sclaw.nd
  f_ok (fun a => [im (rScr K) a, .any, .any, .any, .any, .any, .any, .any, .any]) T.F_law sclaw ar1 rfl (by decide) (fun _ => rfl) (fun cdv A outer s H E hr tk hp a => SX.cv (
    (p_forO (vs := [1]) (fun (s : Unit) => [im (rScr K) a, .any, .any, .any, .any, .any, .any, .any, .any]) (rtP rB) (fun a => a) _ () hp (i_list (x_frzE (f_catL (x_frzE (f_slS (x_var 0 rfl) o_none (o_some x_int))) (x_frzE (f_listN (k := 1) (ln_cons x_int ln_nil)))))) (gt_name 1 (by decide) hnd) (fun s_6354 x_6355 => (p_own 2 hnd (f_listN (k := 1) (ln_cons (x_call (w_law_deal T) (hr.mono (by decide)) T.g__law_deal T.k__law_deal T.b__law_deal tk .nil (a_cons (x_var 1 rfl) (a_one x_int))) ln_nil)) (fun pot_6357 => (p_setS (Γs := fun s => [im (rScr K) a, im rI x_6355, .own none (oLi (tl rI) s), .any, .any, .any, .any, .any, .any]) (s := pot_6357) 3 hnd (es_callM (Γs := fun s => [im (rScr K) a, im rI x_6355, .own none (oLi (tl rI) s), .any, .any, .any, .any, .any, .any]) (s := pot_6357) 2 (fun s => s) (fun _ l => l) (w_law_two T) (hr.mono (by decide)) T.g__law_two T.k__law_two T.b__law_two tk (as_nil (Γs := fun s => [im (rScr K) a, im rI x_6355, .own none (oLi (tl rI) s), .any, .any, .any, .any, .any, .any]) (s := pot_6357)) (fun _ => rfl) (fun _ _ => rfl)) (fun forms_6358 => (p_setS (Γs := fun s => [im (rScr K) a, im rI x_6355, .own none (oLi (tl rI) s), im (rL rY) forms_6358.1, .any, .any, .any, .any, .any]) (s := forms_6358.2) 4 hnd (es_callM (Γs := fun s => [im (rScr K) a, im rI x_6355, .own none (oLi (tl rI) s), im (rL rY) forms_6358.1, .any, .any, .any, .any, .any]) (s := forms_6358.2) 2 (fun s => s) (fun _ l => l) (w_law_piece T) (hr.mono (by decide)) T.g__law_piece T.k__law_piece T.b__law_piece tk (as_one (Γs := fun s => [im (rScr K) a, im rI x_6355, .own none (oLi (tl rI) s), im (rL rY) forms_6358.1, .any, .any, .any, .any, .any]) (s := forms_6358.2) (es_of (Γs := fun s => [im (rScr K) a, im rI x_6355, .own none (oLi (tl rI) s), im (rL rY) forms_6358.1, .any, .any, .any, .any, .any]) (s := forms_6358.2) x_int)) (fun _ => rfl) (fun _ _ => rfl)) (fun piece_6359 => (p_setS (Γs := fun s => [im (rScr K) a, im rI x_6355, .own none (oLi (tl rI) s), im (rL rY) forms_6358.1, im (rT rC) piece_6359.1, .any, .any, .any, .any]) (s := piece_6359.2) 5 hnd (es_callM (Γs := fun s => [im (rScr K) a, im rI x_6355, .own none (oLi (tl rI) s), im (rL rY) forms_6358.1, im (rT rC) piece_6359.1, .any, .any, .any, .any]) (s := piece_6359.2) 2 (fun s => s) (fun _ l => l) (w_law_shape T) (hr.mono (by decide)) T.g__law_shape T.k__law_shape T.b__law_shape tk (as_nil (Γs := fun s => [im (rScr K) a, im rI x_6355, .own none (oLi (tl rI) s), im (rL rY) forms_6358.1, im (rT rC) piece_6359.1, .any, .any, .any, .any]) (s := piece_6359.2)) (fun _ => rfl) (fun _ _ => rfl)) (fun shape_6360 => (p_set 6 hnd (x_call (w_law_plan T 16) (hr.mono (by decide)) T.g__law_plan T.k__law_plan T.b__law_plan tk .nil (a_one (x_ixL (x_var 3 rfl) x_int))) (fun one_6362 => (p_set 7 hnd (x_call (w_law_plan T 16) (hr.mono (by decide)) T.g__law_plan T.k__law_plan T.b__law_plan tk .nil (a_one (x_ixL (x_var 3 rfl) x_int))) (fun other_6364 => (p_set 8 hnd (x_call (w_law_asked T) (hr.mono (by decide)) T.g__law_asked T.k__law_asked T.b__law_asked tk .nil (a_cons x_int (a_cons (x_var 6 rfl) (a_one (x_var 7 rfl))))) (fun chained_6365 => (p_ifT (x_tnot (x_test (x_call (w_law_good T) (hr.mono (by decide)) T.g__law_good T.k__law_good T.b__law_good tk .nil (a_cons (x_var 8 rfl) (a_one (x_call (w_law_put T 20) (hr.mono (by decide)) T.g__law_put T.k__law_put T.b__law_put tk .nil (a_cons (x_ixL (x_var 3 rfl) x_int) (a_one (x_ixL (x_var 3 rfl) x_int))))))))) (p_ret (fun w => Stp.rt w) [] (fun _ => rfl) .nil x_bl) (p_ifT (x_w (w_and (x_tnot (x_test (x_isQ T.n_isinstance T.pl (x_var 8 rfl) (nm_blt T.n_str (by decide +kernel)) (pl_cons (k0 := .Keep) (C0 := Ad.c_Keep) T.i_Keep_str (pl_cons (k0 := .Nothing) (C0 := Ad.c_Nothing) T.i_Nothing_str (pl_cons (k0 := .Everything) (C0 := Ad.c_Everything) T.i_Everything_str (pl_cons (k0 := .Move) (C0 := Ad.c_Move) T.i_Move_str (pl_cons (k0 := .Eat) (C0 := Ad.c_Eat) T.i_Eat_str (pl_cons (k0 := .Grow) (C0 := Ad.c_Grow) T.i_Grow_str (pl_cons (k0 := .Both) (C0 := Ad.c_Both) T.i_Both_str (pl_cons (k0 := .Either) (C0 := Ad.c_Either) T.i_Either_str pl_nil))))))))))) (w_and1 (x_tnot (x_test (x_call (w_law_behind T) (hr.mono (by decide)) T.g__law_behind T.k__law_behind T.b__law_behind tk .nil (a_cons (x_var 6 rfl) (a_cons (x_var 7 rfl) (a_cons (x_qR (x_var 8 rfl)) (a_one (x_var 5 rfl))))))))))) (p_ret (fun w => Stp.rt w) [] (fun _ => rfl) .nil x_bl) (p_ifT (x_tnot (x_test (x_call (w_law_good T) (hr.mono (by decide)) T.g__law_good T.k__law_good T.b__law_good tk .nil (a_cons (x_call (w_law_asked_2 T) (hr.mono (by decide)) T.g__law_asked T.k__law_asked T.b__law_asked tk .nil (a_cons x_int (a_cons (x_var 6 rfl) (a_one (x_var 4 rfl))))) (a_one (x_cv (cvY (yTu (yc yS (yc (yT (yTu (yc yI (y1 yI)))) (y1 (yTu (yc yS (yc (yT (yTu (yc yI (y1 yI)))) (y1 yY))))))))) (x_tup (a_cons x_str (a_cons (x_var 4 rfl) (a_one (x_tup (a_cons x_str (a_cons (x_var 4 rfl) (a_one (x_ixL (x_var 3 rfl) x_int)))) (fun _ _ _ h => sz ((nc (fun _ _ _ h => (nc (fun _ _ _ h => n1 h)) h)) h) (by decide)))))) (fun _ _ _ h => sz ((nc (fun _ _ _ h => (nc (fun _ _ _ h => n1 h)) h)) h) (by decide))))))))) (p_ret (fun w => Stp.rt w) [] (fun _ => rfl) .nil x_bl) (p_ifT (x_tnot (x_test (x_call (w_law_good T) (hr.mono (by decide)) T.g__law_good T.k__law_good T.b__law_good tk .nil (a_cons (x_call (w_law_asked_2 T) (hr.mono (by decide)) T.g__law_asked T.k__law_asked T.b__law_asked tk .nil (a_cons x_int (a_cons (x_var 6 rfl) (a_one (x_var 4 rfl))))) (a_one (x_cv (cvY (yTu (yc yS (yc (yT (yTu (yc yI (y1 yI)))) (y1 (yTu (yc yS (yc (yT (yTu (yc yI (y1 yI)))) (y1 yY))))))))) (x_tup (a_cons x_str (a_cons (x_var 4 rfl) (a_one (x_tup (a_cons x_str (a_cons (x_var 4 rfl) (a_one (x_ixL (x_var 3 rfl) x_int)))) (fun _ _ _ h => sz ((nc (fun _ _ _ h => (nc (fun _ _ _ h => n1 h)) h)) h) (by decide)))))) (fun _ _ _ h => sz ((nc (fun _ _ _ h => (nc (fun _ _ _ h => n1 h)) h)) h) (by decide))))))))) (p_ret (fun w => Stp.rt w) [] (fun _ => rfl) .nil x_bl) (p_ifT (x_w (w_or (x_tcmp (op_neD (u64 hr)) dNeY (x_cv (cvY (yL yS)) (x_meth0 (w_D_words T 60) T.pl (hr.mono (by decide)) tk .nil (by decide +kernel) (x_var 6 rfl))) (x_cv (cvY (yL yS)) (x_call (w_law_words T 60) (hr.mono (by decide)) T.g__law_words T.k__law_words T.b__law_words tk .nil (a_one (x_ixL (x_var 3 rfl) x_int))))) (w_or1 (x_tcmp (op_neD (u64 hr)) dNeY (x_cv (cvY (yL yS)) (x_meth0 (w_D_words T 60) T.pl (hr.mono (by decide)) tk .nil (by decide +kernel) (x_var 7 rfl))) (x_cv (cvY (yL yS)) (x_call (w_law_words T 60) (hr.mono (by decide)) T.g__law_words T.k__law_words T.b__law_words tk .nil (a_one (x_ixL (x_var 3 rfl) x_int)))))))) (p_ret (fun w => Stp.rt w) [] (fun _ => rfl) .nil x_bl) (s_go (o := (Stp.nx ())) rfl (.cons .rfl (.cons .any (.cons .any (.cons .any (.cons .any (.cons .any (.cons .any (.cons .any (.cons .any .nil)))))))))))))))))))))))))))))) (.cons .rfl (.cons .any (.cons .any (.cons .any (.cons .any (.cons .any (.cons .any (.cons .any (.cons .any .nil))))))))) (fun a => .rtf rfl) (fun s_6419 => (p_retf [] (fun _ => rfl) .nil x_bl)))) (by unfold m_law; simp only [ok_bindP, ok_calmP, chk_calmP, opt_calmP, R.bind_pure, R.bind_assoc] <;> rfl))
end
end G

namespace G
open PySem PySem.Spec PyProof.Rows L2 Py
theorem atN {α : Type} {xs : List α} (i : Int) (h0 : 0 ≤ i) (h : i < (xs.length : Nat)) : ∃ x, atI xs i = some x ∧ x ∈ xs := by
  obtain ⟨k, rfl⟩ : ∃ k : Nat, i = (k : Int) := ⟨i.toNat, by omega⟩
  have hk : k < xs.length := by omega
  exact ⟨xs[k], atI_nat (List.getElem?_eq_getElem hk), List.getElem_mem hk⟩
theorem up_nodup {xs : List (Int × Int)} (h : Up xs) : xs.Nodup := (List.Pairwise.imp (fun {a b} (z : ltC a b = true) (e : a = b) => ltC_irrefl a (by rw [← e] at z; exact z)) h : xs.Pairwise (· ≠ ·))
theorem sortC_rise {xs : List (Int × Int)} (h : xs.Nodup) : sortC xs = rise xs := by
  have p : (rise xs).Perm xs := (List.perm_ext_iff_of_nodup (up_nodup (up_rise xs)) h).mpr fun c => mem_rise c xs
  exact asc_eq totC (asc_srt totC xs) (up_asc (up_rise xs)) ((perm_srt xs).trans p.symm)
theorem keys_dPut {κ ν : Type} [DecidableEq κ] (d : List (κ × ν)) (k : κ) (v : ν) : (dPut d k v).map Prod.fst = if k ∈ d.map Prod.fst then d.map Prod.fst else d.map Prod.fst ++ [k] := by
  unfold dPut
  by_cases h : (d.any fun q => decide (q.1 = k)) = true
  · have hm : k ∈ d.map Prod.fst := by
      obtain ⟨q, hq, e⟩ := List.any_eq_true.mp h
      exact List.mem_map.mpr ⟨q, hq, by simpa using e⟩
    rw [if_pos h, if_pos hm, List.map_map]
    refine List.map_congr_left fun q _ => ?_
    by_cases e : q.1 = k <;> simp [e]
  · have hm : k ∉ d.map Prod.fst := fun z => by
      obtain ⟨q, hq, e⟩ := List.mem_map.mp z
      exact h (List.any_eq_true.mpr ⟨q, hq, by simpa using e⟩)
    rw [if_neg h, if_neg hm, List.map_append]
    rfl
/-- a dict's keys, as a set -/
structure Keys {κ ν : Type} (d : List (κ × ν)) (S : κ → Prop) (n : Nat) : Prop where
  nd : (d.map Prod.fst).Nodup
  mem : ∀ c, c ∈ d.map Prod.fst ↔ S c
  len : d.length ≤ n
theorem Keys.nil {κ ν : Type} : Keys ([] : List (κ × ν)) (fun _ => False) 0 := ⟨List.Pairwise.nil, fun c => by simp, Nat.le_refl _⟩
theorem Keys.put {κ ν : Type} [DecidableEq κ] {d : List (κ × ν)} {S : κ → Prop} {n : Nat} (h : Keys d S n) (k : κ) (v : ν) : Keys (dPut d k v) (fun c => S c ∨ c = k) (n + 1) := by
  refine ⟨?_, fun c => ?_, ?_⟩
  · rw [keys_dPut]
    split
    · exact h.nd
    · next hk =>
      exact List.nodup_append.mpr ⟨h.nd, by simp, fun a ha b hb e => by
        rw [List.mem_singleton.mp hb] at e
        exact hk (e ▸ ha)⟩
  · rw [keys_dPut]
    split
    · next hk =>
      rw [h.mem]
      exact ⟨.inl, fun z => z.elim id fun e => by rw [e]; exact (h.mem k).mp hk⟩
    · rw [List.mem_append, h.mem, List.mem_singleton]
  · have := len_dPut d k v
    have := h.len
    omega
theorem Keys.cong {κ ν : Type} {d : List (κ × ν)} {S T : κ → Prop} {n : Nat} (h : Keys d S n) (e : ∀ c, S c ↔ T c) : Keys d T n := ⟨h.nd, fun c => (h.mem c).trans (e c), h.len⟩
theorem Keys.sorted {ν : Type} {d : List ((Int × Int) × ν)} {S : Int × Int → Prop} {n : Nat} (h : Keys d S n) : Up (sortC (d.map Prod.fst)) ∧ (∀ c, c ∈ sortC (d.map Prod.fst) ↔ S c) ∧ (sortC (d.map Prod.fst)).length ≤ n := by
  refine ⟨?_, fun c => ?_, ?_⟩
  · rw [sortC_rise h.nd]
    exact up_rise _
  · rw [sortC_rise h.nd, mem_rise, h.mem]
  · rw [sortC_rise h.nd]
    exact Nat.le_trans (len_rise _) (by rw [List.length_map]; exact h.len)
/-- a list of one number -/
def Sgl (l : List Int) : Prop := ∃ g, l = [g]
theorem gd_calm {α β : Type} {P : α → Prop} {Q : β → Prop} {m : R α} {f : α → R β} (h : Gd m P) (k : ∀ a, P a → Gd (f a) Q) : Gd (m.calm.bind f) Q := by
  obtain ⟨a, e, p⟩ := h
  subst e
  exact k a p
theorem take_ok {l : List Int} (hl : Sgl l) {n : Int} (h0 : 0 < n) (h : n < 2 ^ 62) : Gd (m_law_take l n) fun r => (0 ≤ r.1 ∧ r.1 < n) ∧ Sgl r.2 := by
  obtain ⟨g, rfl⟩ := hl
  unfold m_law_take
  refine Gd.bind (P := fun r => r = g % n) (Gd.optB (a := g) rfl (Gd.chk h0 rfl)) fun r e => ?_
  subst e
  refine Gd.bind (P := fun r => r = g / n) (Gd.optB (a := g) rfl (Gd.chk (⟨h0, Nat.lt_trans (dv_ok h0 62 (by decide) (by omega)).2 (by decide)⟩ : CDivW g n) rfl)) fun r e => ?_
  subst e
  exact Gd.chkB (by simp) (Gd.ok ⟨⟨Int.emod_nonneg _ (Int.ne_of_gt h0), Int.emod_lt_of_pos _ h0⟩, _, rfl⟩)
theorem takeB {β : Type} {Q : β → Prop} {f : Int × List Int → R β} {l : List Int} (hl : Sgl l) {n : Int} (h0 : 0 < n) (h : n < 2 ^ 62) (k : ∀ d l', 0 ≤ d → d < n → Sgl l' → Gd (f (d, l')) Q) : Gd ((m_law_take l n).calm.bind f) Q :=
  gd_calm (take_ok hl h0 h) fun a p => k a.1 a.2 p.1.1 p.1.2 p.2
/-- an item of a short list, by a number taken -/
theorem takeAt {α β : Type} {Q : β → Prop} {f : α × List Int → R β} {l : List Int} {xs : List α} (hl : Sgl l) {n : Int} (h0 : 0 < n) (h : n < 2 ^ 62) (hx : n = (xs.length : Nat)) (k : ∀ x l', x ∈ xs → Sgl l' → Gd (f (x, l')) Q) :
    Gd (((m_law_take l n).calm.bind fun z => (ofOpt (atI xs z.1)).bind fun x => R.ok (x, z.2)).bind f) Q := by
  refine Gd.bind (P := fun r => r.1 ∈ xs ∧ Sgl r.2) (takeB hl h0 h fun d l' d0 d1 hl' => ?_) fun r hr => k r.1 r.2 hr.1 hr.2
  obtain ⟨x, ex, hm⟩ := atN (xs := xs) d d0 (by omega)
  exact Gd.optB ex (Gd.ok ⟨hm, hl'⟩)
theorem deal3_ok (c : Int) {n : Int} (h0 : 0 ≤ n) (h1 : n ≤ 1000) : Gd (m_law_deal c n) fun _ => True := by
  unfold m_law_deal
  refine Gd.ite (fun _ => Gd.ok trivial) fun _ => ?_
  dsimp only
  refine Gd.chkB (by omega) ?_
  refine (Gd.forR (I := fun t : Int × Int => 0 ≤ t.2 ∧ t.2 < 2147500454) (fun t k hk ht => ?_) (by dsimp only; omega)).bind fun _ _ => Gd.ok trivial
  have hk' := mem_rangeI.mp hk
  refine Gd.bind (P := fun x : Int => 0 ≤ x ∧ x < 2147483647) (Gd.bind (P := fun _ => True) (Gd.bind (P := fun _ => True) (Gd.chkB (mulW_ok 40 (by decide) (by omega) (by omega)) (Gd.ok trivial)) fun x _ => Gd.ok trivial) fun x _ => Gd.ok (by omega)) fun x hx => ?_
  refine Gd.bind (P := fun _ => True) (Gd.chkB (mulW_ok 40 (by decide) (by omega) (by omega)) (Gd.ok trivial)) fun y _ => ?_
  exact Gd.ok (by dsimp only; omega)
/-! ### what plans make -/
/-- refused where it is too great -/
def big (r : Shp) : R Shp := if (decide ((2000 : Int) < ((r.1).length : Int))) = true then R.er ⟨"TooMany", none⟩ else R.ok r
theorem big_ok {r : Shp} (h : r.1.length ≤ 2000) : big r = .ok r := if_neg (by simp; omega)
theorem big_er {r : Shp} (h : 2000 < r.1.length) : big r = .er ⟨"TooMany", none⟩ := if_pos (by simp; omega)
theorem done_keep (n : Nat) (s : Shp) : m_D_done (n + 1) .keep s = big s := rfl
theorem done_nothing (n : Nat) (s : Shp) : m_D_done (n + 1) .nothing s = .ok ([], false) := rfl
theorem done_everything (n : Nat) (s : Shp) : m_D_done (n + 1) .everything s = .ok ([], true) := rfl
theorem two_bind {α β γ : Type} (m : R α) (b : β) (k : α → β → R γ) : (m.bind fun x => (R.ok b).bind fun y => (R.ok (x, y) : R (α × β))).bind (fun z => k z.1 z.2) = m.bind fun x => k x b := by cases m <;> rfl
theorem two_bind2 {α β γ : Type} (m : R α) (m2 : R β) (k : α → β → R γ) : (m.bind fun x => m2.bind fun y => (R.ok (x, y) : R (α × β))).bind (fun z => k z.1 z.2) = m.bind fun x => m2.bind fun y => k x y := by cases m <;> cases m2 <;> rfl
theorem done_move (n : Nat) (t : Int × Int) (p : Pl) (s : Shp) : m_D_done (n + 1) (.move t p) s = ((m_D_done n p s).bind fun r => m_moved r t).bind big := by
  show (m_Move_made (m_D_done n) (.move t p) s).bind big = _
  congr 1
  exact two_bind _ t m_moved
theorem done_eat (n : Nat) (t : List (Int × Int)) (p : Pl) (s : Shp) : m_D_done (n + 1) (.eat t p) s = ((m_D_done n p s).bind fun r => m_eaten r t).bind big := by
  show (m_Eat_made (m_D_done n) (.eat t p) s).bind big = _
  congr 1
  exact two_bind _ t m_eaten
theorem done_grow (n : Nat) (t : List (Int × Int)) (p : Pl) (s : Shp) : m_D_done (n + 1) (.grow t p) s = ((m_D_done n p s).bind fun r => m_grown r t).bind big := by
  show (m_Grow_made (m_D_done n) (.grow t p) s).bind big = _
  congr 1
  exact two_bind _ t m_grown
theorem done_both (n : Nat) (p q : Pl) (s : Shp) : m_D_done (n + 1) (.both p q) s = ((m_D_done n p s).bind fun a => (m_D_done n q s).bind fun b => m_both a b).bind big := by
  show (m_Both_made (m_D_done n) (.both p q) s).bind big = _
  congr 1
  exact two_bind2 _ _ m_both
theorem done_either (n : Nat) (p q : Pl) (s : Shp) : m_D_done (n + 1) (.either p q) s = ((m_D_done n p s).bind fun a => (m_D_done n q s).bind fun b => m_either a b).bind big := by
  show (m_Either_made (m_D_done n) (.either p q) s).bind big = _
  congr 1
  exact two_bind2 _ _ m_either
def mvS (s : Shp) (t : Int × Int) : Shp := (s.1.map fun y => (y.1 + t.1, y.2 + t.2), s.2)
theorem moved_ok (s : Shp) (t : Int × Int) (h : s.1.length ≤ 50000) : m_moved s t = .ok (mvS s t) := by
  refine Gd.eq ?_
  unfold m_moved
  dsimp only
  refine Gd.bind (P := fun r => r = s.1.map fun y => (y.1 + t.1, y.2 + t.2)) (Gd.bind (P := fun r => r = s.1.map fun y => (y.1 + t.1, y.2 + t.2)) (Gd.mapRB (g := fun y => (y.1 + t.1, y.2 + t.2)) (fun _ _ => rfl) (Gd.chk (small_size (by rw [List.length_map]; omega)) rfl)) fun r e => Gd.ok e) fun r e => Gd.ok (by rw [e]; rfl)
theorem rising_ok (xs : List (Int × Int)) (h : xs.length ≤ 9800) : m_rising xs = .ok (rise xs) := by
  refine Gd.eq ?_
  unfold m_rising
  exact Gd.bind (P := fun r => r = rise xs) (Gd.chk (Nat.le_trans (len_rise xs) h) rfl) fun a e => Gd.ok e
/-- for x in xs: d[f x] = True -/
theorem Keys.fill {α κ : Type} [DecidableEq κ] {d : List (κ × Bool)} {S : κ → Prop} {n : Nat} {xs : List α} (f : α → κ) (h : Keys d S n) (hn : n + xs.length ≤ 90000) :
    Gd (forR (fun d x => (chk (d.length < sizeLine) ()).bind fun _ => R.ok (dPut d (f x) true)) xs d) fun d' => Keys d' (fun c => S c ∨ ∃ x ∈ xs, c = f x) (n + xs.length) := by
  refine Gd.forRl (I := fun p d' => Keys d' (fun c => S c ∨ ∃ x ∈ p, c = f x) (n + p.length)) (fun p x t s e hi => ?_) (h.cong fun c => by simp)
  have z := congrArg List.length e
  simp only [List.length_append, List.length_cons] at z
  have := hi.len
  refine Gd.chkB (small_lt (by omega)) (Gd.ok ?_)
  have k := hi.put (f x) true
  rw [List.length_append]
  refine Keys.cong k fun c => ?_
  constructor
  · rintro ((h | ⟨y, hy, e⟩) | h)
    · exact .inl h
    · exact .inr ⟨y, List.mem_append_left _ hy, e⟩
    · exact .inr ⟨x, List.mem_append_right _ List.mem_cons_self, h⟩
  · rintro (h | ⟨y, hy, e⟩)
    · exact .inl (.inl h)
    · rcases List.mem_append.mp hy with q | q
      · exact .inl (.inr ⟨y, q, e⟩)
      · rw [List.mem_singleton.mp q] at e
        exact .inr e
/-- .. where the turn is any that puts f x -/
theorem Keys.fillM {α κ : Type} [DecidableEq κ] {d : List (κ × Bool)} {S : κ → Prop} {n : Nat} {xs : List α} (f : α → κ) {g : List (κ × Bool) → α → R (List (κ × Bool))} (h : Keys d S n) (hn : n + xs.length ≤ 90000)
    (hg : ∀ d x, x ∈ xs → d.length ≤ 90000 → g d x = .ok (dPut d (f x) true)) :
    Gd (forR g xs d) fun d' => Keys d' (fun c => S c ∨ ∃ x ∈ xs, c = f x) (n + xs.length) := by
  refine Gd.forRl (I := fun p d' => Keys d' (fun c => S c ∨ ∃ x ∈ p, c = f x) (n + p.length)) (fun p x t s e hi => ?_) (h.cong fun c => by simp)
  have z := congrArg List.length e
  simp only [List.length_append, List.length_cons] at z
  have := hi.len
  refine Gd.of (hg s x (by rw [e]; simp) (by omega)) ?_
  have k := hi.put (f x) true
  rw [List.length_append]
  refine Keys.cong k fun c => ?_
  constructor
  · rintro ((h | ⟨y, hy, e⟩) | h)
    · exact .inl h
    · exact .inr ⟨y, List.mem_append_left _ hy, e⟩
    · exact .inr ⟨x, List.mem_append_right _ List.mem_cons_self, h⟩
  · rintro (h | ⟨y, hy, e⟩)
    · exact .inl (.inl h)
    · rcases List.mem_append.mp hy with q | q
      · exact .inl (.inr ⟨y, q, e⟩)
      · rw [List.mem_singleton.mp q] at e
        exact .inr e
theorem dGet_some {κ ν : Type} [DecidableEq κ] (d : List (κ × ν)) (k : κ) : (dGet d k).isSome = decide (k ∈ d.map Prod.fst) := by
  unfold dGet
  rw [Option.isSome_map, Bool.eq_iff_iff, List.find?_isSome, decide_eq_true_eq, List.mem_map]
  constructor
  · rintro ⟨q, hq, e⟩
    exact ⟨q, hq, by simpa using e⟩
  · rintro ⟨q, hq, e⟩
    exact ⟨q, hq, by simpa using e⟩
theorem Keys.has {κ ν : Type} [DecidableEq κ] {d : List (κ × ν)} {S : κ → Prop} [DecidablePred S] {n : Nat} (h : Keys d S n) (k : κ) : (dGet d k).isSome = decide (S k) := by
  rw [dGet_some, Bool.eq_iff_iff, decide_eq_true_eq, decide_eq_true_eq, h.mem]
theorem lies_ok (p : List (Int × Int)) (c : Int × Int) (h : p.length ≤ 9800) : m_lies_on p c = .ok (p.map fun s => (c.1 + s.1, c.2 + s.2)) := by
  refine Gd.eq ?_
  unfold m_lies_on
  exact Gd.mapRB (g := fun s => (c.1 + s.1, c.2 + s.2)) (fun x _ => by show m_moved_cell x c = _; unfold m_moved_cell; rw [Int.add_comm x.1, Int.add_comm x.2]) (Gd.chk (small_size (by rw [List.length_map]; omega)) rfl)
theorem mirrored_ok (p : List (Int × Int)) (h : p.length ≤ 9800) : m_mirrored p = .ok (rise (p.map fun s => (0 - s.1, 0 - s.2))) := by
  refine Gd.eq ?_
  unfold m_mirrored
  refine Gd.bind (P := fun r => r = p.map fun s => (0 - s.1, 0 - s.2)) (Gd.mapRB (g := fun s => (0 - s.1, 0 - s.2)) (fun x _ => rfl) (Gd.chk (small_size (by rw [List.length_map]; omega)) rfl)) fun r e => ?_
  subst e
  exact Gd.of (rising_ok _ (by rw [List.length_map]; exact h)) rfl
theorem mem_mir (p : List (Int × Int)) (c : Int × Int) : c ∈ rise (p.map fun s => (0 - s.1, 0 - s.2)) ↔ (0 - c.1, 0 - c.2) ∈ p := by
  rw [mem_rise, List.mem_map]
  constructor
  · rintro ⟨a, ha, e⟩
    subst e
    simpa using ha
  · intro h
    exact ⟨_, h, by simp⟩
theorem mir_len (p : List (Int × Int)) : (rise (p.map fun s => (0 - s.1, 0 - s.2))).length ≤ p.length := Nat.le_trans (len_rise _) (by rw [List.length_map]; exact Nat.le_refl _)
theorem mir_ne {p : List (Int × Int)} (h : p ≠ []) : rise (p.map fun s => (0 - s.1, 0 - s.2)) ≠ [] := fun z => by
  obtain ⟨c, hc⟩ := List.exists_mem_of_ne_nil p h
  have := (mem_mir p (0 - c.1, 0 - c.2)).mpr (by simpa using hc)
  rw [z] at this
  cases this
theorem up_shift {xs : List (Int × Int)} (h : Up xs) (s : Int × Int) : Up (xs.map fun c => (c.1 - s.1, c.2 - s.2)) := List.pairwise_map.mpr (List.Pairwise.imp (fun {a b} z => by
  rw [ltC_iff] at *
  simp only
  omega) h)
/-- all the cells on which the piece lies at some cell -/
theorem reached_ok (cs p : List (Int × Int)) (h : cs.length * p.length ≤ 9800) (hp : p.length ≤ 9800) : Gd (m_reached cs p) fun r => Up r ∧ (∀ c, c ∈ r ↔ ∃ x ∈ cs, ∃ s ∈ p, c = (x.1 + s.1, x.2 + s.2)) ∧ r.length ≤ cs.length * p.length := by
  unfold m_reached
  refine (Gd.forRl (I := fun q (t : List (Int × Int)) => (∀ c, c ∈ t ↔ ∃ x ∈ q, ∃ s ∈ p, c = (x.1 + s.1, x.2 + s.2)) ∧ t.length = q.length * p.length) (fun q x r t e hi => ?_) ⟨fun c => by simp, by simp⟩).bind fun t ht => ?_
  · obtain ⟨i1, i2⟩ := hi
    have z := congrArg List.length e
    simp only [List.length_append, List.length_cons] at z
    have z2 : (q.length + 1) * p.length ≤ cs.length * p.length := Nat.mul_le_mul_right _ (by omega)
    rw [Nat.add_mul, Nat.one_mul] at z2
    refine Gd.eqB (lies_ok p x hp) (Gd.chkB (small_size (by rw [List.length_map]; omega)) (Gd.ok ⟨fun c => ?_, ?_⟩))
    · rw [List.mem_append, i1, List.mem_map]
      constructor
      · rintro (⟨y, hy, s, hs, e⟩ | ⟨s, hs, e⟩)
        · exact ⟨y, List.mem_append_left _ hy, s, hs, e⟩
        · exact ⟨x, List.mem_append_right _ List.mem_cons_self, s, hs, e.symm⟩
      · rintro ⟨y, hy, s, hs, e⟩
        rcases List.mem_append.mp hy with w | w
        · exact .inl ⟨y, w, s, hs, e⟩
        · rw [List.mem_singleton.mp w] at e
          exact .inr ⟨s, hs, e.symm⟩
    · rw [List.length_append, i2, List.length_map, List.length_append, List.length_singleton, Nat.add_mul, Nat.one_mul]
  · refine Gd.of (rising_ok t (by omega)) ⟨up_rise _, fun c => by rw [mem_rise, ht.1], Nat.le_trans (len_rise _) (by omega)⟩
/-- all the cells at which the piece lies on cells alone -/
theorem kept_ok (cs p : List (Int × Int)) (hu : Up cs) (hc : cs.length ≤ 9800) (hp : p.length ≤ 9800) (ne : p ≠ []) : Gd (m_kept_at cs p) fun r => Up r ∧ (∀ c, c ∈ r ↔ ∀ s ∈ p, (c.1 + s.1, c.2 + s.2) ∈ cs) ∧ r.length ≤ cs.length := by
  obtain ⟨s0, ps, rfl⟩ := List.exists_cons_of_ne_nil ne
  unfold m_kept_at
  refine (Keys.fillM (xs := cs) (fun c => c) .nil (by omega) fun d x _ hd => ?_).bind fun d hd => ?_
  · exact Gd.eq (Gd.chkB (small_lt (by omega)) (Gd.ok rfl))
  · have hd' : Keys d (fun c => c ∈ cs) (0 + cs.length) := hd.cong fun c => by simp
    refine (Gd.forRl (I := fun q (t : List (Int × Int)) => t = (q.map fun c => (c.1 - s0.1, c.2 - s0.2)).filter fun c => (s0 :: ps).all fun s => decide ((c.1 + s.1, c.2 + s.2) ∈ cs)) (fun q x r t e hi => ?_) rfl).bind fun t ht => Gd.ok ?_
    · have z := congrArg List.length e
      simp only [List.length_append, List.length_cons] at z
      refine Gd.bind (P := fun y => y = (x.1 - s0.1, x.2 - s0.2)) (Gd.bind (P := fun y => y = (x, s0)) (Gd.optB (a := s0) (show atI (s0 :: ps) ((0 : Nat) : Int) = some s0 from atI_nat rfl) (Gd.ok rfl)) fun y e => by subst e; exact Gd.ok rfl) fun y ey => ?_
      subst ey
      refine Gd.bind (P := fun b => b = (s0 :: ps).all fun s => decide ((x.1 - s0.1 + s.1, x.2 - s0.2 + s.2) ∈ cs)) ?_ fun b eb => ?_
      · refine Gd.bind (P := fun ys => ys = (s0 :: ps).map fun s => decide ((x.1 - s0.1 + s.1, x.2 - s0.2 + s.2) ∈ cs)) (Gd.eqB (lies_ok _ _ hp) (Gd.mapRB (g := fun c => decide (c ∈ cs)) (fun y _ => by rw [hd'.has]) (Gd.chk (small_size (by rw [List.length_map, List.length_map]; omega)) (by rw [List.map_map]; rfl)))) fun ys e => Gd.ok ?_
        subst e
        rw [List.all_map]
        rfl
      · have lt : t.length ≤ q.length := by
          rw [hi]
          exact Nat.le_trans (List.length_filter_le ..) (by rw [List.length_map]; exact Nat.le_refl _)
        refine Gd.ite (fun hb => Gd.chkB (small_lt (by omega)) (Gd.ok ?_)) fun hb => Gd.ok ?_
        · rw [hi, List.map_append, List.filter_append]
          congr 1
          rw [eb] at hb
          exact (List.filter_cons_of_pos (p := fun c => (s0 :: ps).all fun s => decide ((c.1 + s.1, c.2 + s.2) ∈ cs)) (a := (x.1 - s0.1, x.2 - s0.2)) (l := []) hb).symm
        · rw [hi, List.map_append, List.filter_append]
          rw [eb] at hb
          have k := List.filter_cons_of_neg (p := fun c => (s0 :: ps).all fun s => decide ((c.1 + s.1, c.2 + s.2) ∈ cs)) (a := (x.1 - s0.1, x.2 - s0.2)) (l := []) hb
          rw [List.map_singleton, k, List.filter_nil, List.append_nil]
    · subst ht
      refine ⟨List.Pairwise.filter _ (up_shift hu s0), fun c => ?_, Nat.le_trans (List.length_filter_le ..) (by rw [List.length_map]; exact Nat.le_refl _)⟩
      rw [List.mem_filter, List.mem_map, List.all_eq_true]
      constructor
      · rintro ⟨_, h⟩ s hs
        simpa using h s hs
      · intro h
        exact ⟨⟨(c.1 + s0.1, c.2 + s0.2), h s0 List.mem_cons_self, by ext <;> simp⟩, fun s hs => by simpa using h s hs⟩
def InDil (cs p : List (Int × Int)) (c : Int × Int) : Prop := ∃ x ∈ cs, ∃ s ∈ p, c = (x.1 + s.1, x.2 + s.2)
def InEro (cs p : List (Int × Int)) (c : Int × Int) : Prop := ∀ s ∈ p, (c.1 + s.1, c.2 + s.2) ∈ cs
/-- with the piece mirrored -/
def InDilM (cs p : List (Int × Int)) (c : Int × Int) : Prop := ∃ x ∈ cs, ∃ s ∈ p, c = (x.1 - s.1, x.2 - s.2)
def InEroM (cs p : List (Int × Int)) (c : Int × Int) : Prop := ∀ s ∈ p, (c.1 - s.1, c.2 - s.2) ∈ cs
theorem dil_mir (cs p : List (Int × Int)) (c : Int × Int) : InDil cs (rise (p.map fun s => (0 - s.1, 0 - s.2))) c ↔ InDilM cs p c := by
  constructor
  · rintro ⟨x, hx, s, hs, e⟩
    exact ⟨x, hx, _, (mem_mir p s).mp hs, by rw [e]; ext <;> simp <;> omega⟩
  · rintro ⟨x, hx, s, hs, e⟩
    exact ⟨x, hx, (0 - s.1, 0 - s.2), (mem_mir p _).mpr (by simpa using hs), by rw [e]; ext <;> simp <;> omega⟩
theorem ero_mir (cs p : List (Int × Int)) (c : Int × Int) : InEro cs (rise (p.map fun s => (0 - s.1, 0 - s.2))) c ↔ InEroM cs p c := by
  constructor
  · intro h s hs
    have := h (0 - s.1, 0 - s.2) ((mem_mir p _).mpr (by simpa using hs))
    have e : (c.1 - s.1, c.2 - s.2) = (c.1 + (0 - s.1), c.2 + (0 - s.2)) := by ext <;> simp <;> omega
    rw [e]
    exact this
  · intro h s hs
    have := h _ ((mem_mir p s).mp hs)
    have e : (c.1 + s.1, c.2 + s.2) = (c.1 - (0 - s.1), c.2 - (0 - s.2)) := by ext <;> simp <;> omega
    rw [e]
    exact this
theorem grown_c (s : Shp) (p : List (Int × Int)) (u : Up s.1) (h : s.2 = false → s.1.length * p.length ≤ 9800) (hs : s.1.length ≤ 9800) (hp : p.length ≤ 9800) (ne : p ≠ []) :
    Gd (m_grown s p) fun r => Up r.1 ∧ r.2 = s.2 ∧ (∀ c, c ∈ r.1 ↔ if s.2 = true then InEroM s.1 p c else InDil s.1 p c) ∧ r.1.length ≤ 9800 ∧ (s.2 = true → r.1.length ≤ s.1.length) ∧ (s.2 = false → r.1.length ≤ s.1.length * p.length) := by
  unfold m_grown
  refine Gd.ite (fun hr => ?_) fun hr => ?_
  · have hr' : s.2 = true := hr
    refine Gd.bind (P := fun r => Up r ∧ (∀ c, c ∈ r ↔ InEroM s.1 p c) ∧ r.length ≤ s.1.length) (Gd.bind (P := fun q => q = (s.1, rise (p.map fun s => (0 - s.1, 0 - s.2)))) (Gd.eqB (mirrored_ok p hp) (Gd.ok rfl)) fun q e => ?_) fun r hr2 => Gd.ok ⟨hr2.1, hr.symm, fun c => ?_, by have := hr2.2.2; show r.length ≤ _; omega, fun _ => hr2.2.2, fun z => absurd (hr'.symm.trans z) (by decide)⟩
    · subst e
      exact (kept_ok s.1 _ u hs (Nat.le_trans (mir_len p) hp) (mir_ne ne)).mono fun r h => ⟨h.1, fun c => (h.2.1 c).trans (ero_mir s.1 p c), h.2.2⟩
    · rw [if_pos hr']
      exact hr2.2.1 c
  · have hr' : s.2 = false := by
      have hr' : ¬ s.2 = true := hr
      simpa using hr'
    refine (reached_ok s.1 p (h hr') hp).bind fun r hr2 => Gd.ok ⟨hr2.1, hr'.symm, fun c => ?_, by have := hr2.2.2; have := h hr'; show r.length ≤ _; omega, fun z => absurd (hr'.symm.trans z) (by decide), fun _ => hr2.2.2⟩
    rw [hr', if_neg (by decide)]
    exact hr2.2.1 c
theorem eaten_c (s : Shp) (p : List (Int × Int)) (u : Up s.1) (h : s.2 = true → s.1.length * p.length ≤ 9800) (hs : s.1.length ≤ 9800) (hp : p.length ≤ 9800) (ne : p ≠ []) :
    Gd (m_eaten s p) fun r => Up r.1 ∧ r.2 = s.2 ∧ (∀ c, c ∈ r.1 ↔ if s.2 = true then InDilM s.1 p c else InEro s.1 p c) ∧ r.1.length ≤ 9800 ∧ (s.2 = false → r.1.length ≤ s.1.length) ∧ (s.2 = true → r.1.length ≤ s.1.length * p.length) := by
  unfold m_eaten
  refine Gd.ite (fun hr => ?_) fun hr => ?_
  · have hr' : s.2 = true := hr
    refine Gd.bind (P := fun r => Up r ∧ (∀ c, c ∈ r ↔ InDilM s.1 p c) ∧ r.length ≤ s.1.length * p.length) (Gd.bind (P := fun q => q = (s.1, rise (p.map fun s => (0 - s.1, 0 - s.2)))) (Gd.eqB (mirrored_ok p hp) (Gd.ok rfl)) fun q e => ?_) fun r hr2 => Gd.ok ⟨hr2.1, hr.symm, fun c => ?_, by have := hr2.2.2; have := h hr'; show r.length ≤ _; omega, fun z => absurd (hr'.symm.trans z) (by decide), fun _ => hr2.2.2⟩
    · subst e
      have l2 : s.1.length * (rise (p.map fun s => (0 - s.1, 0 - s.2))).length ≤ s.1.length * p.length := Nat.mul_le_mul_left _ (mir_len p)
      have := h hr'
      exact (reached_ok s.1 _ (by show s.1.length * _ ≤ _; omega) (Nat.le_trans (mir_len p) hp)).mono fun r h => ⟨h.1, fun c => (h.2.1 c).trans (dil_mir s.1 p c), by have := h.2.2; omega⟩
    · rw [if_pos hr']
      exact hr2.2.1 c
  · have hr' : s.2 = false := by
      have hr' : ¬ s.2 = true := hr
      simpa using hr'
    refine (kept_ok s.1 p u hs hp ne).bind fun r hr2 => Gd.ok ⟨hr2.1, hr'.symm, fun c => ?_, by have := hr2.2.2; show r.length ≤ _; omega, fun _ => hr2.2.2, fun z => absurd (hr'.symm.trans z) (by decide)⟩
    rw [hr', if_neg (by decide)]
    exact hr2.2.1 c
theorem dil_of {a p : List (Int × Int)} {P : Int × Int → Prop} (h : ∀ c, c ∈ a ↔ P c) (c : Int × Int) : InDil a p c ↔ ∃ s ∈ p, P (c.1 - s.1, c.2 - s.2) := by
  constructor
  · rintro ⟨x, hx, s, hs, rfl⟩
    exact ⟨s, hs, by
      have e : ((x.1 + s.1, x.2 + s.2).1 - s.1, (x.1 + s.1, x.2 + s.2).2 - s.2) = x := by ext <;> simp
      rw [e]
      exact (h x).mp hx⟩
  · rintro ⟨s, hs, hp⟩
    exact ⟨_, (h _).mpr hp, s, hs, by ext <;> simp⟩
theorem dilM_of {a p : List (Int × Int)} {P : Int × Int → Prop} (h : ∀ c, c ∈ a ↔ P c) (c : Int × Int) : InDilM a p c ↔ ∃ s ∈ p, P (c.1 + s.1, c.2 + s.2) := by
  constructor
  · rintro ⟨x, hx, s, hs, rfl⟩
    exact ⟨s, hs, by
      have e : ((x.1 - s.1, x.2 - s.2).1 + s.1, (x.1 - s.1, x.2 - s.2).2 + s.2) = x := by ext <;> simp
      rw [e]
      exact (h x).mp hx⟩
  · rintro ⟨s, hs, hp⟩
    exact ⟨_, (h _).mpr hp, s, hs, by ext <;> simp⟩
theorem has_fin {a : Shp} (h : a.2 = false) (c : Int × Int) : hasS a c = true ↔ c ∈ a.1 := by
  unfold hasS
  rw [h, ← hasB_iff]
  cases hasB c a.1 <;> decide
theorem has_inf {a : Shp} (h : a.2 = true) (c : Int × Int) : hasS a c = true ↔ c ∉ a.1 := by
  unfold hasS
  rw [h, ← hasB_iff]
  cases hasB c a.1 <;> decide
/-- what a grown, an eaten shape has -/
def HG (f : Int × Int → Prop) (p : List (Int × Int)) (c : Int × Int) : Prop := ∃ t ∈ p, f (c.1 - t.1, c.2 - t.2)
def HE (f : Int × Int → Prop) (p : List (Int × Int)) (c : Int × Int) : Prop := ∀ t ∈ p, f (c.1 + t.1, c.2 + t.2)
abbrev Hs (s : Shp) : Int × Int → Prop := fun c => hasS s c = true
structure Grw (s : Shp) (r : Shp) (f : Int × Int → Prop) : Prop where
  up : Up r.1
  rest : r.2 = s.2
  has : ∀ c, hasS r c = true ↔ f c
  len : r.1.length ≤ 9800
theorem grown_has (s : Shp) (p : List (Int × Int)) (u : Up s.1) (h : s.2 = false → s.1.length * p.length ≤ 9800) (hs : s.1.length ≤ 9800) (hp : p.length ≤ 9800) (ne : p ≠ []) :
    Gd (m_grown s p) fun r => Grw s r (HG (Hs s) p) ∧ (s.2 = true → r.1.length ≤ s.1.length) ∧ (s.2 = false → r.1.length ≤ s.1.length * p.length) := by
  refine (grown_c s p u h hs hp ne).mono fun r hr => ⟨⟨hr.1, hr.2.1, fun c => ?_, hr.2.2.2.1⟩, hr.2.2.2.2⟩
  obtain ⟨_, r2, r3, _⟩ := hr
  by_cases hb : s.2 = true
  · rw [has_inf (r2.trans hb), r3, if_pos hb]
    unfold InEroM HG Hs
    simp only [has_inf hb]
    constructor
    · intro h
      exact Classical.byContradiction fun z => h fun t ht => Classical.byContradiction fun w => z ⟨t, ht, w⟩
    · rintro ⟨t, ht, w⟩ h
      exact w (h t ht)
  · have hb' : s.2 = false := by simpa using hb
    rw [has_fin (r2.trans hb'), r3, if_neg hb]
    unfold HG Hs
    simp only [has_fin hb']
    exact dil_of (fun c => Iff.rfl) c
theorem eaten_has (s : Shp) (p : List (Int × Int)) (u : Up s.1) (h : s.2 = true → s.1.length * p.length ≤ 9800) (hs : s.1.length ≤ 9800) (hp : p.length ≤ 9800) (ne : p ≠ []) :
    Gd (m_eaten s p) fun r => Grw s r (HE (Hs s) p) ∧ (s.2 = false → r.1.length ≤ s.1.length) ∧ (s.2 = true → r.1.length ≤ s.1.length * p.length) := by
  refine (eaten_c s p u h hs hp ne).mono fun r hr => ⟨⟨hr.1, hr.2.1, fun c => ?_, hr.2.2.2.1⟩, hr.2.2.2.2⟩
  obtain ⟨_, r2, r3, _⟩ := hr
  by_cases hb : s.2 = true
  · rw [has_inf (r2.trans hb), r3, if_pos hb]
    unfold HE Hs
    simp only [has_inf hb]
    rw [dilM_of (fun c => Iff.rfl) c]
    constructor
    · intro h t ht w
      exact h ⟨t, ht, w⟩
    · rintro h ⟨t, ht, w⟩
      exact h t ht w
  · have hb' : s.2 = false := by simpa using hb
    rw [has_fin (r2.trans hb'), r3, if_neg hb]
    unfold HE Hs
    simp only [has_fin hb']
    exact Iff.rfl
theorem HG.cong {f g : Int × Int → Prop} (h : ∀ c, f c ↔ g c) (p : List (Int × Int)) (c : Int × Int) : HG f p c ↔ HG g p c := exists_congr fun t => and_congr_right fun _ => h _
theorem HE.cong {f g : Int × Int → Prop} (h : ∀ c, f c ↔ g c) (p : List (Int × Int)) (c : Int × Int) : HE f p c ↔ HE g p c := forall_congr' fun t => forall_congr' fun _ => h _
theorem only_in_ok (one other : List (Int × Int)) (h1 : one.length ≤ 90000) (h2 : other.length ≤ 90000) : m_only_in one other = .ok (one.filter fun c => !hasB c other) := by
  refine Gd.eq ?_
  unfold m_only_in
  refine (Gd.forRl (I := fun p d => SeenBy p d) (fun p x q d e hi => ?_) SeenBy.nil).bind fun d hd => ?_
  · have z := congrArg List.length e
    simp only [List.length_append, List.length_cons] at z
    have z2 := hi.1
    exact Gd.chkB (small_lt (by omega)) (Gd.ok (hi.put x true))
  · refine Gd.bind (P := fun r => r = one.filter fun c => !hasB c other) (Gd.fmRB (p := fun c => !hasB c other) (g := fun c => c) (fun c _ => by rw [hd.2]) (fun c _ => rfl) (Gd.chk ?_ ?_)) fun a e => Gd.ok e
    · rw [List.length_map]
      have := List.length_filter_le (fun c => !hasB c other) one
      exact small_size (by omega)
    · exact List.map_id' _
/-- both, told cell by cell -/
theorem both_sharp (one other : Shp) (u1 : Up one.1) (u2 : Up other.1) (h1 : one.1.length ≤ 2000) (h2 : other.1.length ≤ 2000) :
    Gd (m_both one other) fun r => Up r.1 ∧ r.2 = (one.2 && other.2) ∧ (∀ c, hasS r c = (hasS one c && hasS other c)) ∧ r.1.length ≤ one.1.length + other.1.length := by
  unfold m_both
  have lf : ∀ (p : Int × Int → Bool) (xs : List (Int × Int)) (n : Nat), xs.length ≤ n → (xs.filter p).length ≤ n := fun p xs n h => Nat.le_trans (List.length_filter_le p xs) h
  have fil : ∀ (c : Int × Int) (p : Int × Int → Bool) (xs : List (Int × Int)), hasB c (xs.filter p) = (hasB c xs && p c) := fun c p xs => by
    rw [Bool.eq_iff_iff, Bool.and_eq_true, hasB_iff, hasB_iff, List.mem_filter]
  refine Gd.ite (fun h => ?_) fun h => Gd.ite (fun ha => ?_) fun ha => Gd.ite (fun hb => ?_) fun hb => ?_
  · rw [Bool.and_eq_true] at h
    refine Gd.bind (P := fun r => r = rise (one.1 ++ other.1)) (Gd.chkB (small_size (by omega)) (Gd.of (rising_ok _ (by simp; omega)) rfl)) fun a e => Gd.ok ?_
    subst e
    refine ⟨up_rise _, by rw [h.1, h.2] <;> rfl, fun c => ?_, Nat.le_trans (len_rise _) (by simp)⟩
    have z : hasB c (rise (one.1 ++ other.1)) = (hasB c one.1 || hasB c other.1) := by
      rw [Bool.eq_iff_iff, Bool.or_eq_true, hasB_iff, hasB_iff, hasB_iff, mem_rise, List.mem_append]
    unfold hasS
    rw [z, h.1, h.2]
    cases hasB c one.1 <;> cases hasB c other.1 <;> rfl
  · have ho : other.2 = false := by
      rw [ha, Bool.true_and] at h
      simpa using h
    refine Gd.eqB (only_in_ok other.1 one.1 (by omega) (by omega)) (Gd.ok ⟨up_filter u2, by rw [ha, ho] <;> rfl, fun c => ?_, lf _ _ _ (by show other.1.length ≤ _; omega)⟩)
    unfold hasS
    rw [fil, ha, ho]
    cases hasB c one.1 <;> cases hasB c other.1 <;> rfl
  · have ho : one.2 = false := by simpa using ha
    refine Gd.eqB (only_in_ok one.1 other.1 (by omega) (by omega)) (Gd.ok ⟨up_filter u1, by rw [hb, ho] <;> rfl, fun c => ?_, lf _ _ _ (by show one.1.length ≤ _; omega)⟩)
    unfold hasS
    rw [fil, hb, ho]
    cases hasB c one.1 <;> cases hasB c other.1 <;> rfl
  · have h1' : one.2 = false := by simpa using ha
    have h2' : other.2 = false := by simpa using hb
    refine Gd.bind (P := fun r => r = one.1.filter fun c => !hasB c (one.1.filter fun c => !hasB c other.1)) (Gd.bind (P := fun r => r = (one.1, one.1.filter fun c => !hasB c other.1)) (Gd.eqB (only_in_ok one.1 other.1 (by omega) (by omega)) (Gd.ok rfl)) fun a e => by
      rw [e]
      have := List.length_filter_le (fun c => !hasB c other.1) one.1
      exact Gd.of (only_in_ok _ _ (by show one.1.length ≤ _; omega) (by show (List.filter _ _).length ≤ _; omega)) rfl) fun a e => Gd.ok ?_
    subst e
    refine ⟨up_filter u1, by rw [h1', h2'] <;> rfl, fun c => ?_, lf _ _ _ (by show one.1.length ≤ _; omega)⟩
    unfold hasS
    rw [fil, fil, h1', h2']
    cases hasB c one.1 <;> cases hasB c other.1 <;> rfl
theorem outside_ok (s : Shp) : m_outside s = .ok (s.1, !s.2) := rfl
/-! ### two values told alike -/
def OkE : Nat → Dy → Prop
  | 0, _ => False
  | n + 1, .tup l => l.length ≤ 50000 ∧ ∀ x ∈ l, OkE n x
  | n + 1, .lst l => l.length ≤ 50000 ∧ ∀ x ∈ l, OkE n x
  | _ + 1, .str s => PyData.strOk s = true
  | _ + 1, .non => False
  | _ + 1, _ => True
theorem mem_zip_self {α : Type} : ∀ {l : List α} {q : α × α}, q ∈ l.zip l → q.1 ∈ l ∧ q.2 = q.1
  | x :: l, q, h => by
    rw [List.zip_cons_cons] at h
    rcases List.mem_cons.mp h with e | h
    · subst e
      exact ⟨List.mem_cons_self, rfl⟩
    · obtain ⟨h1, h2⟩ := mem_zip_self h
      exact ⟨List.mem_cons_of_mem _ h1, h2⟩
theorem all_map_true {α : Type} (l : List α) : (l.map fun _ => true).all id = true := by
  rw [List.all_eq_true]
  intro x hx
  obtain ⟨_, _, rfl⟩ := List.mem_map.mp hx
  rfl
theorem same_ok : ∀ (n : Nat) (d : Dy), OkE n d → m_law_same n d d = .ok true
  | 0, _, h => h.elim
  | n + 1, d, h => by
    have row : ∀ l : List Dy, l.length ≤ 50000 → (∀ x ∈ l, OkE n x) → ((mapR (fun y : Dy × Dy => m_law_same n y.1 y.2) (l.zip l)).bind fun ys => chk (ys.length ≤ sizeLine) ys) = .ok ((l.zip l).map fun _ => true) := fun l hl hx => by
      refine Gd.eq ?_
      refine Gd.mapRB (g := fun _ => true) (fun q hq => ?_) (Gd.chk (small_size (by rw [List.length_map, List.length_zip]; omega)) rfl)
      obtain ⟨h1, h2⟩ := mem_zip_self hq
      rw [h2]
      exact same_ok n q.1 (hx _ h1)
    cases d with
    | non => exact h.elim
    | int i => simp [m_law_same, Dy.isN, Dy.isBl, Dy.isInt, Dy.isStr, Dy.isTup, Dy.isLst, Dy.shp, Dy.eqv, Dy.dat, chk, SeqAt.shaped, PyData.eqv, PyData.canLay0, PyData.depth]
    | bl i => simp [m_law_same, Dy.isN, Dy.isBl, Dy.isInt, Dy.isStr, Dy.isTup, Dy.isLst, Dy.shp, Dy.eqv, Dy.dat, chk, SeqAt.shaped, PyData.eqv, PyData.canLay0, PyData.depth]
    | str i =>
      have h' : PyData.strOk i = true := h
      simp [h', m_law_same, Dy.isN, Dy.isBl, Dy.isInt, Dy.isStr, Dy.isTup, Dy.isLst, Dy.shp, Dy.eqv, Dy.dat, chk, SeqAt.shaped, PyData.eqv, PyData.canLay0, PyData.depth]
    | tup l =>
      have r := row l h.1 h.2
      simp only [m_law_same, Dy.isN, Dy.isBl, Dy.isInt, Dy.isStr, Dy.isTup, Dy.isLst, Dy.len, Dy.zip, ofOpt, ok_bindP]
      simp only [Bool.false_eq_true, if_false, Bool.not_true, Bool.and_false, Bool.or_false, Bool.true_or, Bool.false_and, decide_true, if_true, r, ok_bindP, all_map_true]
    | lst l =>
      have r := row l h.1 h.2
      simp only [m_law_same, Dy.isN, Dy.isBl, Dy.isInt, Dy.isStr, Dy.isTup, Dy.isLst, Dy.len, Dy.zip, ofOpt, ok_bindP]
      simp only [Bool.false_eq_true, if_false, Bool.not_true, Bool.and_false, Bool.or_false, Bool.false_or, Bool.false_and, decide_true, if_true, r, ok_bindP, all_map_true]
/-- a cell, a shape as a value of any kind -/
abbrev dyC (x : Int × Int) : Dy := Dy.tup [Dy.int x.1, Dy.int x.2]
abbrev dyS (x : Shp) : Dy := Dy.tup [Dy.tup (List.map (fun x => Dy.tup [Dy.int x.1, Dy.int x.2]) x.1), Dy.bl x.2]
theorem okC (n : Nat) (c : Int × Int) : OkE (n + 2) (dyC c) := ⟨by simp, fun x hx => by
  simp only [List.mem_cons, List.not_mem_nil, or_false] at hx
  rcases hx with rfl | rfl <;> trivial⟩
theorem okS (n : Nat) (s : Shp) (h : s.1.length ≤ 50000) : OkE (n + 4) (dyS s) := ⟨by simp, fun x hx => by
  simp only [List.mem_cons, List.not_mem_nil, or_false] at hx
  rcases hx with rfl | rfl
  · refine ⟨by rw [List.length_map]; exact h, fun y hy => ?_⟩
    obtain ⟨c, _, rfl⟩ := List.mem_map.mp hy
    exact okC n c
  · trivial⟩
/-! ### forms: plans as tuples of words -/
abbrev fC (x : Int × Int) : Dy := Dy.tup [Dy.int x.1, Dy.int x.2]
abbrev fT (q : List (Int × Int)) : Dy := Dy.tup (List.map (fun x => Dy.tup [Dy.int x.1, Dy.int x.2]) q)
def fD : Pl → Dy
  | .keep => Dy.tup [Dy.str ("keep" : Str)]
  | .nothing => Dy.tup [Dy.str ("none" : Str)]
  | .everything => Dy.tup [Dy.str ("all" : Str)]
  | .move t p => Dy.tup [Dy.str ("move" : Str), fC t, fD p]
  | .eat q p => Dy.tup [Dy.str ("eat" : Str), fT q, fD p]
  | .grow q p => Dy.tup [Dy.str ("grow" : Str), fT q, fD p]
  | .both a b => Dy.tup [Dy.str ("both" : Str), fD a, fD b]
  | .either a b => Dy.tup [Dy.str ("either" : Str), fD a, fD b]
def dp : Pl → Nat
  | .keep => 0
  | .nothing => 0
  | .everything => 0
  | .move _ p => dp p + 1
  | .eat _ p => dp p + 1
  | .grow _ p => dp p + 1
  | .both a b => max (dp a) (dp b) + 1
  | .either a b => max (dp a) (dp b) + 1
/-- a step that is not too far -/
def Smt (t : Int × Int) : Prop := t.1.natAbs < 2 ^ 40 ∧ t.2.natAbs < 2 ^ 40
structure Pce (m : Nat) (q : List (Int × Int)) : Prop where
  up : Up q
  ne : q ≠ []
  len : q.length ≤ m
  sm : ∀ t ∈ q, Smt t
/-- its pieces have at most so many steps -/
def Pcs (m : Nat) : Pl → Prop
  | .keep => True
  | .nothing => True
  | .everything => True
  | .move t p => Smt t ∧ Pcs m p
  | .eat q p => Pce m q ∧ Pcs m p
  | .grow q p => Pce m q ∧ Pcs m p
  | .both a b => Pcs m a ∧ Pcs m b
  | .either a b => Pcs m a ∧ Pcs m b
theorem tq {a b : Str} {v : Bool} (sa : PyData.strOk a = true) (sb : PyData.strOk b = true) (h : decide (a = b) = v) : chk (Dy.shp (Dy.str a) = true ∧ Dy.shp (Dy.str b) = true) (Dy.eqv (Dy.str a) (Dy.str b)) = R.ok v := by
  subst h
  simp [sa, sb, Dy.shp, Dy.eqv, Dy.dat, chk, SeqAt.shaped, PyData.eqv, PyData.canLay0, PyData.depth]
  first | rfl | exact (Bool.beq_eq_decide_eq _ _) | (cases h : a == b <;> simp_all)
theorem so_keep : PyData.strOk ("keep" : Str) = true := by decide +kernel
theorem so_none : PyData.strOk ("none" : Str) = true := by decide +kernel
theorem so_all : PyData.strOk ("all" : Str) = true := by decide +kernel
theorem so_move : PyData.strOk ("move" : Str) = true := by decide +kernel
theorem so_eat : PyData.strOk ("eat" : Str) = true := by decide +kernel
theorem so_grow : PyData.strOk ("grow" : Str) = true := by decide +kernel
theorem so_both : PyData.strOk ("both" : Str) = true := by decide +kernel
theorem so_either : PyData.strOk ("either" : Str) = true := by decide +kernel
theorem q_keep_keep : chk (Dy.shp (Dy.str ("keep" : Str)) = true ∧ Dy.shp (Dy.str ("keep" : Str)) = true) (Dy.eqv (Dy.str ("keep" : Str)) (Dy.str ("keep" : Str))) = R.ok true := tq so_keep so_keep (by decide +kernel)
theorem q_keep_move : chk (Dy.shp (Dy.str ("keep" : Str)) = true ∧ Dy.shp (Dy.str ("move" : Str)) = true) (Dy.eqv (Dy.str ("keep" : Str)) (Dy.str ("move" : Str))) = R.ok false := tq so_keep so_move (by decide +kernel)
theorem q_keep_eat : chk (Dy.shp (Dy.str ("keep" : Str)) = true ∧ Dy.shp (Dy.str ("eat" : Str)) = true) (Dy.eqv (Dy.str ("keep" : Str)) (Dy.str ("eat" : Str))) = R.ok false := tq so_keep so_eat (by decide +kernel)
theorem q_keep_grow : chk (Dy.shp (Dy.str ("keep" : Str)) = true ∧ Dy.shp (Dy.str ("grow" : Str)) = true) (Dy.eqv (Dy.str ("keep" : Str)) (Dy.str ("grow" : Str))) = R.ok false := tq so_keep so_grow (by decide +kernel)
theorem q_none_keep : chk (Dy.shp (Dy.str ("none" : Str)) = true ∧ Dy.shp (Dy.str ("keep" : Str)) = true) (Dy.eqv (Dy.str ("none" : Str)) (Dy.str ("keep" : Str))) = R.ok false := tq so_none so_keep (by decide +kernel)
theorem q_none_none : chk (Dy.shp (Dy.str ("none" : Str)) = true ∧ Dy.shp (Dy.str ("none" : Str)) = true) (Dy.eqv (Dy.str ("none" : Str)) (Dy.str ("none" : Str))) = R.ok true := tq so_none so_none (by decide +kernel)
theorem q_none_move : chk (Dy.shp (Dy.str ("none" : Str)) = true ∧ Dy.shp (Dy.str ("move" : Str)) = true) (Dy.eqv (Dy.str ("none" : Str)) (Dy.str ("move" : Str))) = R.ok false := tq so_none so_move (by decide +kernel)
theorem q_none_eat : chk (Dy.shp (Dy.str ("none" : Str)) = true ∧ Dy.shp (Dy.str ("eat" : Str)) = true) (Dy.eqv (Dy.str ("none" : Str)) (Dy.str ("eat" : Str))) = R.ok false := tq so_none so_eat (by decide +kernel)
theorem q_none_grow : chk (Dy.shp (Dy.str ("none" : Str)) = true ∧ Dy.shp (Dy.str ("grow" : Str)) = true) (Dy.eqv (Dy.str ("none" : Str)) (Dy.str ("grow" : Str))) = R.ok false := tq so_none so_grow (by decide +kernel)
theorem q_all_keep : chk (Dy.shp (Dy.str ("all" : Str)) = true ∧ Dy.shp (Dy.str ("keep" : Str)) = true) (Dy.eqv (Dy.str ("all" : Str)) (Dy.str ("keep" : Str))) = R.ok false := tq so_all so_keep (by decide +kernel)
theorem q_all_none : chk (Dy.shp (Dy.str ("all" : Str)) = true ∧ Dy.shp (Dy.str ("none" : Str)) = true) (Dy.eqv (Dy.str ("all" : Str)) (Dy.str ("none" : Str))) = R.ok false := tq so_all so_none (by decide +kernel)
theorem q_all_all : chk (Dy.shp (Dy.str ("all" : Str)) = true ∧ Dy.shp (Dy.str ("all" : Str)) = true) (Dy.eqv (Dy.str ("all" : Str)) (Dy.str ("all" : Str))) = R.ok true := tq so_all so_all (by decide +kernel)
theorem q_all_move : chk (Dy.shp (Dy.str ("all" : Str)) = true ∧ Dy.shp (Dy.str ("move" : Str)) = true) (Dy.eqv (Dy.str ("all" : Str)) (Dy.str ("move" : Str))) = R.ok false := tq so_all so_move (by decide +kernel)
theorem q_all_eat : chk (Dy.shp (Dy.str ("all" : Str)) = true ∧ Dy.shp (Dy.str ("eat" : Str)) = true) (Dy.eqv (Dy.str ("all" : Str)) (Dy.str ("eat" : Str))) = R.ok false := tq so_all so_eat (by decide +kernel)
theorem q_all_grow : chk (Dy.shp (Dy.str ("all" : Str)) = true ∧ Dy.shp (Dy.str ("grow" : Str)) = true) (Dy.eqv (Dy.str ("all" : Str)) (Dy.str ("grow" : Str))) = R.ok false := tq so_all so_grow (by decide +kernel)
theorem q_move_keep : chk (Dy.shp (Dy.str ("move" : Str)) = true ∧ Dy.shp (Dy.str ("keep" : Str)) = true) (Dy.eqv (Dy.str ("move" : Str)) (Dy.str ("keep" : Str))) = R.ok false := tq so_move so_keep (by decide +kernel)
theorem q_move_none : chk (Dy.shp (Dy.str ("move" : Str)) = true ∧ Dy.shp (Dy.str ("none" : Str)) = true) (Dy.eqv (Dy.str ("move" : Str)) (Dy.str ("none" : Str))) = R.ok false := tq so_move so_none (by decide +kernel)
theorem q_move_all : chk (Dy.shp (Dy.str ("move" : Str)) = true ∧ Dy.shp (Dy.str ("all" : Str)) = true) (Dy.eqv (Dy.str ("move" : Str)) (Dy.str ("all" : Str))) = R.ok false := tq so_move so_all (by decide +kernel)
theorem q_move_move : chk (Dy.shp (Dy.str ("move" : Str)) = true ∧ Dy.shp (Dy.str ("move" : Str)) = true) (Dy.eqv (Dy.str ("move" : Str)) (Dy.str ("move" : Str))) = R.ok true := tq so_move so_move (by decide +kernel)
theorem q_move_eat : chk (Dy.shp (Dy.str ("move" : Str)) = true ∧ Dy.shp (Dy.str ("eat" : Str)) = true) (Dy.eqv (Dy.str ("move" : Str)) (Dy.str ("eat" : Str))) = R.ok false := tq so_move so_eat (by decide +kernel)
theorem q_move_grow : chk (Dy.shp (Dy.str ("move" : Str)) = true ∧ Dy.shp (Dy.str ("grow" : Str)) = true) (Dy.eqv (Dy.str ("move" : Str)) (Dy.str ("grow" : Str))) = R.ok false := tq so_move so_grow (by decide +kernel)
theorem q_move_both : chk (Dy.shp (Dy.str ("move" : Str)) = true ∧ Dy.shp (Dy.str ("both" : Str)) = true) (Dy.eqv (Dy.str ("move" : Str)) (Dy.str ("both" : Str))) = R.ok false := tq so_move so_both (by decide +kernel)
theorem q_move_either : chk (Dy.shp (Dy.str ("move" : Str)) = true ∧ Dy.shp (Dy.str ("either" : Str)) = true) (Dy.eqv (Dy.str ("move" : Str)) (Dy.str ("either" : Str))) = R.ok false := tq so_move so_either (by decide +kernel)
theorem q_eat_keep : chk (Dy.shp (Dy.str ("eat" : Str)) = true ∧ Dy.shp (Dy.str ("keep" : Str)) = true) (Dy.eqv (Dy.str ("eat" : Str)) (Dy.str ("keep" : Str))) = R.ok false := tq so_eat so_keep (by decide +kernel)
theorem q_eat_none : chk (Dy.shp (Dy.str ("eat" : Str)) = true ∧ Dy.shp (Dy.str ("none" : Str)) = true) (Dy.eqv (Dy.str ("eat" : Str)) (Dy.str ("none" : Str))) = R.ok false := tq so_eat so_none (by decide +kernel)
theorem q_eat_all : chk (Dy.shp (Dy.str ("eat" : Str)) = true ∧ Dy.shp (Dy.str ("all" : Str)) = true) (Dy.eqv (Dy.str ("eat" : Str)) (Dy.str ("all" : Str))) = R.ok false := tq so_eat so_all (by decide +kernel)
theorem q_eat_move : chk (Dy.shp (Dy.str ("eat" : Str)) = true ∧ Dy.shp (Dy.str ("move" : Str)) = true) (Dy.eqv (Dy.str ("eat" : Str)) (Dy.str ("move" : Str))) = R.ok false := tq so_eat so_move (by decide +kernel)
theorem q_eat_eat : chk (Dy.shp (Dy.str ("eat" : Str)) = true ∧ Dy.shp (Dy.str ("eat" : Str)) = true) (Dy.eqv (Dy.str ("eat" : Str)) (Dy.str ("eat" : Str))) = R.ok true := tq so_eat so_eat (by decide +kernel)
theorem q_eat_grow : chk (Dy.shp (Dy.str ("eat" : Str)) = true ∧ Dy.shp (Dy.str ("grow" : Str)) = true) (Dy.eqv (Dy.str ("eat" : Str)) (Dy.str ("grow" : Str))) = R.ok false := tq so_eat so_grow (by decide +kernel)
theorem q_eat_both : chk (Dy.shp (Dy.str ("eat" : Str)) = true ∧ Dy.shp (Dy.str ("both" : Str)) = true) (Dy.eqv (Dy.str ("eat" : Str)) (Dy.str ("both" : Str))) = R.ok false := tq so_eat so_both (by decide +kernel)
theorem q_eat_either : chk (Dy.shp (Dy.str ("eat" : Str)) = true ∧ Dy.shp (Dy.str ("either" : Str)) = true) (Dy.eqv (Dy.str ("eat" : Str)) (Dy.str ("either" : Str))) = R.ok false := tq so_eat so_either (by decide +kernel)
theorem q_grow_keep : chk (Dy.shp (Dy.str ("grow" : Str)) = true ∧ Dy.shp (Dy.str ("keep" : Str)) = true) (Dy.eqv (Dy.str ("grow" : Str)) (Dy.str ("keep" : Str))) = R.ok false := tq so_grow so_keep (by decide +kernel)
theorem q_grow_none : chk (Dy.shp (Dy.str ("grow" : Str)) = true ∧ Dy.shp (Dy.str ("none" : Str)) = true) (Dy.eqv (Dy.str ("grow" : Str)) (Dy.str ("none" : Str))) = R.ok false := tq so_grow so_none (by decide +kernel)
theorem q_grow_all : chk (Dy.shp (Dy.str ("grow" : Str)) = true ∧ Dy.shp (Dy.str ("all" : Str)) = true) (Dy.eqv (Dy.str ("grow" : Str)) (Dy.str ("all" : Str))) = R.ok false := tq so_grow so_all (by decide +kernel)
theorem q_grow_move : chk (Dy.shp (Dy.str ("grow" : Str)) = true ∧ Dy.shp (Dy.str ("move" : Str)) = true) (Dy.eqv (Dy.str ("grow" : Str)) (Dy.str ("move" : Str))) = R.ok false := tq so_grow so_move (by decide +kernel)
theorem q_grow_eat : chk (Dy.shp (Dy.str ("grow" : Str)) = true ∧ Dy.shp (Dy.str ("eat" : Str)) = true) (Dy.eqv (Dy.str ("grow" : Str)) (Dy.str ("eat" : Str))) = R.ok false := tq so_grow so_eat (by decide +kernel)
theorem q_grow_grow : chk (Dy.shp (Dy.str ("grow" : Str)) = true ∧ Dy.shp (Dy.str ("grow" : Str)) = true) (Dy.eqv (Dy.str ("grow" : Str)) (Dy.str ("grow" : Str))) = R.ok true := tq so_grow so_grow (by decide +kernel)
theorem q_grow_both : chk (Dy.shp (Dy.str ("grow" : Str)) = true ∧ Dy.shp (Dy.str ("both" : Str)) = true) (Dy.eqv (Dy.str ("grow" : Str)) (Dy.str ("both" : Str))) = R.ok false := tq so_grow so_both (by decide +kernel)
theorem q_grow_either : chk (Dy.shp (Dy.str ("grow" : Str)) = true ∧ Dy.shp (Dy.str ("either" : Str)) = true) (Dy.eqv (Dy.str ("grow" : Str)) (Dy.str ("either" : Str))) = R.ok false := tq so_grow so_either (by decide +kernel)
theorem q_both_keep : chk (Dy.shp (Dy.str ("both" : Str)) = true ∧ Dy.shp (Dy.str ("keep" : Str)) = true) (Dy.eqv (Dy.str ("both" : Str)) (Dy.str ("keep" : Str))) = R.ok false := tq so_both so_keep (by decide +kernel)
theorem q_both_none : chk (Dy.shp (Dy.str ("both" : Str)) = true ∧ Dy.shp (Dy.str ("none" : Str)) = true) (Dy.eqv (Dy.str ("both" : Str)) (Dy.str ("none" : Str))) = R.ok false := tq so_both so_none (by decide +kernel)
theorem q_both_all : chk (Dy.shp (Dy.str ("both" : Str)) = true ∧ Dy.shp (Dy.str ("all" : Str)) = true) (Dy.eqv (Dy.str ("both" : Str)) (Dy.str ("all" : Str))) = R.ok false := tq so_both so_all (by decide +kernel)
theorem q_both_move : chk (Dy.shp (Dy.str ("both" : Str)) = true ∧ Dy.shp (Dy.str ("move" : Str)) = true) (Dy.eqv (Dy.str ("both" : Str)) (Dy.str ("move" : Str))) = R.ok false := tq so_both so_move (by decide +kernel)
theorem q_both_eat : chk (Dy.shp (Dy.str ("both" : Str)) = true ∧ Dy.shp (Dy.str ("eat" : Str)) = true) (Dy.eqv (Dy.str ("both" : Str)) (Dy.str ("eat" : Str))) = R.ok false := tq so_both so_eat (by decide +kernel)
theorem q_both_grow : chk (Dy.shp (Dy.str ("both" : Str)) = true ∧ Dy.shp (Dy.str ("grow" : Str)) = true) (Dy.eqv (Dy.str ("both" : Str)) (Dy.str ("grow" : Str))) = R.ok false := tq so_both so_grow (by decide +kernel)
theorem q_both_both : chk (Dy.shp (Dy.str ("both" : Str)) = true ∧ Dy.shp (Dy.str ("both" : Str)) = true) (Dy.eqv (Dy.str ("both" : Str)) (Dy.str ("both" : Str))) = R.ok true := tq so_both so_both (by decide +kernel)
theorem q_both_either : chk (Dy.shp (Dy.str ("both" : Str)) = true ∧ Dy.shp (Dy.str ("either" : Str)) = true) (Dy.eqv (Dy.str ("both" : Str)) (Dy.str ("either" : Str))) = R.ok false := tq so_both so_either (by decide +kernel)
theorem q_either_keep : chk (Dy.shp (Dy.str ("either" : Str)) = true ∧ Dy.shp (Dy.str ("keep" : Str)) = true) (Dy.eqv (Dy.str ("either" : Str)) (Dy.str ("keep" : Str))) = R.ok false := tq so_either so_keep (by decide +kernel)
theorem q_either_none : chk (Dy.shp (Dy.str ("either" : Str)) = true ∧ Dy.shp (Dy.str ("none" : Str)) = true) (Dy.eqv (Dy.str ("either" : Str)) (Dy.str ("none" : Str))) = R.ok false := tq so_either so_none (by decide +kernel)
theorem q_either_all : chk (Dy.shp (Dy.str ("either" : Str)) = true ∧ Dy.shp (Dy.str ("all" : Str)) = true) (Dy.eqv (Dy.str ("either" : Str)) (Dy.str ("all" : Str))) = R.ok false := tq so_either so_all (by decide +kernel)
theorem q_either_move : chk (Dy.shp (Dy.str ("either" : Str)) = true ∧ Dy.shp (Dy.str ("move" : Str)) = true) (Dy.eqv (Dy.str ("either" : Str)) (Dy.str ("move" : Str))) = R.ok false := tq so_either so_move (by decide +kernel)
theorem q_either_eat : chk (Dy.shp (Dy.str ("either" : Str)) = true ∧ Dy.shp (Dy.str ("eat" : Str)) = true) (Dy.eqv (Dy.str ("either" : Str)) (Dy.str ("eat" : Str))) = R.ok false := tq so_either so_eat (by decide +kernel)
theorem q_either_grow : chk (Dy.shp (Dy.str ("either" : Str)) = true ∧ Dy.shp (Dy.str ("grow" : Str)) = true) (Dy.eqv (Dy.str ("either" : Str)) (Dy.str ("grow" : Str))) = R.ok false := tq so_either so_grow (by decide +kernel)
theorem q_either_both : chk (Dy.shp (Dy.str ("either" : Str)) = true ∧ Dy.shp (Dy.str ("both" : Str)) = true) (Dy.eqv (Dy.str ("either" : Str)) (Dy.str ("both" : Str))) = R.ok false := tq so_either so_both (by decide +kernel)
theorem q_either_either : chk (Dy.shp (Dy.str ("either" : Str)) = true ∧ Dy.shp (Dy.str ("either" : Str)) = true) (Dy.eqv (Dy.str ("either" : Str)) (Dy.str ("either" : Str))) = R.ok true := tq so_either so_either (by decide +kernel)
theorem at0 (x : Dy) (l : List Dy) : ofOpt (Dy.at (Dy.tup (x :: l)) (0 : Int)) = R.ok x := by
  have h : atI (x :: l) ((0 : Nat) : Int) = some x := atI_nat rfl
  exact congrArg ofOpt h
theorem at1 (x y : Dy) (l : List Dy) : ofOpt (Dy.at (Dy.tup (x :: y :: l)) (1 : Int)) = R.ok y := by
  have h : atI (x :: y :: l) ((1 : Nat) : Int) = some y := atI_nat rfl
  exact congrArg ofOpt h
theorem at2' (x y z : Dy) (l : List Dy) : ofOpt (Dy.at (Dy.tup (x :: y :: z :: l)) (2 : Int)) = R.ok z := by
  have h : atI (x :: y :: z :: l) ((2 : Nat) : Int) = some z := atI_nat rfl
  exact congrArg ofOpt h
theorem out_C (t : Int × Int) : ofOpt ((asTu (asc asI (as1 asI))) (Dy.tup [Dy.int t.1, Dy.int t.2])) = R.ok t := rfl
theorem all_out : ∀ q : List (Int × Int), allM (asTu (asc asI (as1 asI))) (List.map (fun x => Dy.tup [Dy.int x.1, Dy.int x.2]) q) = some q
  | [] => rfl
  | x :: q => by
    rw [List.map_cons]
    unfold allM
    rw [all_out q]
    rfl
theorem out_T (q : List (Int × Int)) : ofOpt ((asT (asTu (asc asI (as1 asI)))) (Dy.tup (List.map (fun x => Dy.tup [Dy.int x.1, Dy.int x.2]) q))) = R.ok q := by
  show ofOpt (allM _ _) = _
  rw [all_out]
  rfl
theorem pcs_mono {m k : Nat} (h : m ≤ k) : ∀ {p : Pl}, Pcs m p → Pcs k p
  | .keep, _ => trivial
  | .nothing, _ => trivial
  | .everything, _ => trivial
  | .move _ _, hp => ⟨hp.1, pcs_mono h hp.2⟩
  | .eat _ _, hp => ⟨⟨hp.1.up, hp.1.ne, Nat.le_trans hp.1.len h, hp.1.sm⟩, pcs_mono h hp.2⟩
  | .grow _ _, hp => ⟨⟨hp.1.up, hp.1.ne, Nat.le_trans hp.1.len h, hp.1.sm⟩, pcs_mono h hp.2⟩
  | .both _ _, hp => ⟨pcs_mono h hp.1, pcs_mono h hp.2⟩
  | .either _ _, hp => ⟨pcs_mono h hp.1, pcs_mono h hp.2⟩
theorem step_ok {l : List Int} (hl : Sgl l) : Gd (m_law_step l) fun r => Smt r.1 ∧ Sgl r.2 := by
  unfold m_law_step
  refine takeAt hl (by decide) (by decide) rfl fun far l1 hf h1 => ?_
  have f6 : 1 ≤ far ∧ far ≤ 1000000 := by
    simp only [List.mem_cons, List.not_mem_nil, or_false] at hf
    omega
  refine Gd.bind (P := fun w : Int × List Int => w.1.natAbs < 2 ^ 40 ∧ Sgl w.2) (takeB h1 (by dsimp only; omega) (by dsimp only; omega) fun d l' _ _ h => Gd.ok ⟨by dsimp only at *; omega, h⟩) fun w hw => ?_
  exact takeB hw.2 (by dsimp only; omega) (by dsimp only; omega) fun d l' _ _ h => Gd.ok ⟨⟨hw.1, by dsimp only at *; omega⟩, h⟩
theorem piece_ok {l : List Int} (hl : Sgl l) {m : Nat} (m1 : 1 ≤ m) (m2 : m ≤ 1000) : Gd (m_law_piece l (m : Int)) fun r => Pce m r.1 ∧ Sgl r.2 := by
  unfold m_law_piece
  refine Gd.bind (P := fun w : List Int × List Int => w.1.length ≤ m ∧ w.1 ≠ [] ∧ Sgl w.2) (takeB hl (by omega) (by omega) fun d l' d0 d1 h => ?_) fun w hw => ?_
  · refine Gd.chkB (by dsimp only; omega) (Gd.ok ⟨by show (rangeI 0 (1 + d)).length ≤ m; rw [len_rangeI]; omega, fun z => ?_, h⟩)
    have := congrArg List.length z
    have e : (rangeI 0 (1 + d)).length = (1 + d - 0).toNat := len_rangeI _ _
    have this' : (rangeI 0 (1 + d)).length = 0 := this
    omega
  · obtain ⟨w1, w2, w3⟩ := hw
    refine (Gd.forRl (I := fun q (t : List Int × List (Int × Int)) => Sgl t.1 ∧ t.2.length = q.length ∧ ∀ c ∈ t.2, Smt c) (fun q x r t e hi => ?_) ⟨w3, rfl, fun c hc => absurd hc List.not_mem_nil⟩).bind fun t ht => ?_
    · obtain ⟨i1, i2, i3⟩ := hi
      have z := congrArg List.length e
      simp only [List.length_append, List.length_cons] at z
      refine gd_calm (step_ok i1) fun v ⟨v1, v2⟩ => ?_
      refine Gd.chkB (small_lt (by omega)) (Gd.ok ⟨v2, by simp [i2], fun c hc => ?_⟩)
      rcases List.mem_append.mp hc with h | h
      · exact i3 c h
      · rw [List.mem_singleton.mp h]
        exact v1
    · obtain ⟨t1, t2, t3⟩ := ht
      refine Gd.bind (P := fun r => r = rise t.2) (Gd.bind (P := fun r => r = rise t.2) (Gd.chk (Nat.le_trans (len_rise _) (by omega)) rfl) fun r e => Gd.ok e) fun r e => ?_
      subst e
      refine Gd.ok ⟨⟨up_rise _, fun z => ?_, Nat.le_trans (len_rise _) (by omega), fun c hc => t3 c ((mem_rise c _).mp hc)⟩, t1⟩
      obtain ⟨x, hx⟩ := List.exists_mem_of_ne_nil _ (show t.2 ≠ [] from fun y => w2 (List.eq_nil_of_length_eq_zero (by rw [← t2, y]; rfl)))
      have := (mem_rise x t.2).mpr hx
      have z' : rise t.2 = [] := z
      rw [z'] at this
      cases this
theorem form_ok {m : Nat} (m1 : 1 ≤ m) (m2 : m ≤ 1000) : ∀ (n d : Nat) (l : List Int), d < n → Sgl l → Gd (m_law_form n l (d : Int) (m : Int)) fun r => (∃ p, r.1 = fD p ∧ dp p ≤ d ∧ Pcs m p) ∧ Sgl r.2
  | 0, _, _, h, _ => absurd h (Nat.not_lt_zero _)
  | n + 1, d, l, h, hl => by
    unfold m_law_form
    refine gd_calm (take_ok hl (by decide) (by decide)) fun way ⟨⟨w0, w1⟩, hw⟩ => ?_
    refine Gd.ite (fun _ => ?_) fun z => ?_
    · refine takeB hw (by decide) (by decide) fun k l' k0 k1 h' => ?_
      obtain ⟨x, ex, hx⟩ := atN (xs := [("keep" : Str), ("keep" : Str), ("keep" : Str), ("none" : Str), ("all" : Str)]) k k0 k1
      refine Gd.optB ex (Gd.ok ⟨?_, h'⟩)
      simp only [List.mem_cons, List.not_mem_nil, or_false] at hx
      rcases hx with rfl | rfl | rfl | rfl | rfl
      · exact ⟨.keep, rfl, Nat.zero_le _, trivial⟩
      · exact ⟨.keep, rfl, Nat.zero_le _, trivial⟩
      · exact ⟨.keep, rfl, Nat.zero_le _, trivial⟩
      · exact ⟨.nothing, rfl, Nat.zero_le _, trivial⟩
      · exact ⟨.everything, rfl, Nat.zero_le _, trivial⟩
    · have d1 : 1 ≤ d := by
        simp only [Bool.or_eq_true, decide_eq_true_eq] at z
        omega
      have ed : (d : Int) - 1 = ((d - 1 : Nat) : Int) := by omega
      rw [ed]
      have ih := fun l hl => form_ok m1 m2 n (d - 1) l (by omega) hl
      refine Gd.ite (fun _ => ?_) fun _ => Gd.ite (fun _ => ?_) fun _ => ?_
      · refine gd_calm (step_ok hw) fun st ⟨s1, s2⟩ => gd_calm (ih _ s2) fun f ⟨⟨p, e, h1, h2⟩, f2⟩ => Gd.ok ⟨⟨.move st.1 p, ?_, ?_, s1, h2⟩, f2⟩
        · show Dy.tup [Dy.str ("move" : Str), fC st.1, f.1] = _
          rw [e]
          rfl
        · show dp p + 1 ≤ d
          omega
      · refine gd_calm (piece_ok hw m1 m2) fun q ⟨q1, q2⟩ => ?_
        obtain ⟨x, ex, hx⟩ := atN (xs := [("eat" : Str), ("grow" : Str)]) (way.1 % 2) (Int.emod_nonneg _ (by decide)) (Int.emod_lt_of_pos _ (by decide))
        refine Gd.optB ex (gd_calm (ih _ q2) fun f ⟨⟨p, e, h1, h2⟩, f2⟩ => ?_)
        simp only [List.mem_cons, List.not_mem_nil, or_false] at hx
        rcases hx with rfl | rfl
        · refine Gd.ok ⟨⟨.eat q.1 p, ?_, ?_, q1, h2⟩, f2⟩
          · show Dy.tup [Dy.str ("eat" : Str), fT q.1, f.1] = _
            rw [e]
            rfl
          · show dp p + 1 ≤ d
            omega
        · refine Gd.ok ⟨⟨.grow q.1 p, ?_, ?_, q1, h2⟩, f2⟩
          · show Dy.tup [Dy.str ("grow" : Str), fT q.1, f.1] = _
            rw [e]
            rfl
          · show dp p + 1 ≤ d
            omega
      · refine gd_calm (ih _ hw) fun g ⟨⟨a, ea, a1, a2⟩, g2⟩ => ?_
        obtain ⟨x, ex, hx⟩ := atN (xs := [("both" : Str), ("either" : Str)]) (way.1 % 2) (Int.emod_nonneg _ (by decide)) (Int.emod_lt_of_pos _ (by decide))
        refine Gd.optB ex (gd_calm (ih _ g2) fun f ⟨⟨b, eb, b1, b2⟩, f2⟩ => ?_)
        simp only [List.mem_cons, List.not_mem_nil, or_false] at hx
        rcases hx with rfl | rfl
        · refine Gd.ok ⟨⟨.both a b, ?_, ?_, a2, b2⟩, f2⟩
          · show Dy.tup [Dy.str ("both" : Str), g.1, f.1] = _
            rw [ea, eb]
            rfl
          · show max (dp a) (dp b) + 1 ≤ d
            omega
        · refine Gd.ok ⟨⟨.either a b, ?_, ?_, a2, b2⟩, f2⟩
          · show Dy.tup [Dy.str ("either" : Str), g.1, f.1] = _
            rw [ea, eb]
            rfl
          · show max (dp a) (dp b) + 1 ≤ d
            omega
theorem plan_ok : ∀ (n : Nat) (p : Pl), dp p < n → m_law_plan n (fD p) = .ok p
  | 0, _, h => absurd h (Nat.not_lt_zero _)
  | n + 1, .keep, _ => by simp only [m_law_plan, fD, at0, ok_bindP, q_keep_keep, Bool.false_eq_true, if_false, if_true, Bool.false_or, Bool.or_false, Bool.true_or]
  | n + 1, .nothing, _ => by simp only [m_law_plan, fD, at0, ok_bindP, q_none_keep, q_none_none, Bool.false_eq_true, if_false, if_true, Bool.false_or, Bool.or_false, Bool.true_or]
  | n + 1, .everything, _ => by simp only [m_law_plan, fD, at0, ok_bindP, q_all_keep, q_all_none, q_all_all, Bool.false_eq_true, if_false, if_true, Bool.false_or, Bool.or_false, Bool.true_or]
  | n + 1, .move t p, h => by
    have ih := plan_ok n p (by unfold dp at h; omega)
    simp only [m_law_plan, fD, fC, fT, at0, at1, at2', out_C, out_T, ok_bindP, ih, q_move_keep, q_move_none, q_move_all, q_move_move, Bool.false_eq_true, if_false, if_true, Bool.false_or, Bool.or_false, Bool.true_or]
  | n + 1, .eat t p, h => by
    have ih := plan_ok n p (by unfold dp at h; omega)
    simp only [m_law_plan, fD, fC, fT, at0, at1, at2', out_C, out_T, ok_bindP, ih, q_eat_keep, q_eat_none, q_eat_all, q_eat_move, q_eat_eat, Bool.false_eq_true, if_false, if_true, Bool.false_or, Bool.or_false, Bool.true_or]
  | n + 1, .grow t p, h => by
    have ih := plan_ok n p (by unfold dp at h; omega)
    simp only [m_law_plan, fD, fC, fT, at0, at1, at2', out_C, out_T, ok_bindP, ih, q_grow_keep, q_grow_none, q_grow_all, q_grow_move, q_grow_eat, q_grow_grow, Bool.false_eq_true, if_false, if_true, Bool.false_or, Bool.or_false, Bool.true_or]
  | n + 1, .both a b, h => by
    have ia := plan_ok n a (by unfold dp at h; omega)
    have ib := plan_ok n b (by unfold dp at h; omega)
    simp only [m_law_plan, fD, at0, at1, at2', ok_bindP, ia, ib, q_both_keep, q_both_none, q_both_all, q_both_move, q_both_eat, q_both_grow, q_both_both, Bool.false_eq_true, if_false, if_true, Bool.false_or, Bool.or_false, Bool.true_or]
  | n + 1, .either a b, h => by
    have ia := plan_ok n a (by unfold dp at h; omega)
    have ib := plan_ok n b (by unfold dp at h; omega)
    simp only [m_law_plan, fD, at0, at1, at2', ok_bindP, ia, ib, q_either_keep, q_either_none, q_either_all, q_either_move, q_either_eat, q_either_grow, q_either_both, Bool.false_eq_true, if_false, if_true, Bool.false_or, Bool.or_false, Bool.true_or]
/-- the steps on which a cell hangs -/
def InR : Pl → Int × Int → Prop
  | .keep, c => c = (0, 0)
  | .nothing, _ => False
  | .everything, _ => False
  | .move t p, c => ∃ s, InR p s ∧ c = (s.1 - t.1, s.2 - t.2)
  | .eat q p, c => ∃ s, InR p s ∧ ∃ t ∈ q, c = (s.1 + t.1, s.2 + t.2)
  | .grow q p, c => ∃ s, InR p s ∧ ∃ t ∈ q, c = (s.1 - t.1, s.2 - t.2)
  | .both a b, c => InR a c ∨ InR b c
  | .either a b, c => InR a c ∨ InR b c
/-! ### what a plan has, cell by cell -/
def Sem : Pl → (Int × Int → Prop) → Int × Int → Prop
  | .keep, f, c => f c
  | .nothing, _, _ => False
  | .everything, _, _ => True
  | .move t p, f, c => Sem p f (c.1 - t.1, c.2 - t.2)
  | .eat q p, f, c => ∀ t ∈ q, Sem p f (c.1 + t.1, c.2 + t.2)
  | .grow q p, f, c => ∃ t ∈ q, Sem p f (c.1 - t.1, c.2 - t.2)
  | .both a b, f, c => Sem a f c ∧ Sem b f c
  | .either a b, f, c => Sem a f c ∨ Sem b f c
def restOf : Pl → Bool → Bool
  | .keep, b => b
  | .nothing, _ => false
  | .everything, _ => true
  | .move _ p, b => restOf p b
  | .eat _ p, b => restOf p b
  | .grow _ p, b => restOf p b
  | .both x y, b => restOf x b && restOf y b
  | .either x y, b => restOf x b || restOf y b
theorem Sem.cong {f g : Int × Int → Prop} (h : ∀ c, f c ↔ g c) : ∀ (p : Pl) (c : Int × Int), Sem p f c ↔ Sem p g c
  | .keep, c => h c
  | .nothing, _ => Iff.rfl
  | .everything, _ => Iff.rfl
  | .move t p, c => Sem.cong h p _
  | .eat q p, c => forall_congr' fun t => forall_congr' fun _ => Sem.cong h p _
  | .grow q p, c => exists_congr fun t => and_congr_right fun _ => Sem.cong h p _
  | .both a b, c => and_congr (Sem.cong h a c) (Sem.cong h b c)
  | .either a b, c => or_congr (Sem.cong h a c) (Sem.cong h b c)
/-- it hangs on these cells alone -/
theorem Sem.local {f g : Int × Int → Prop} : ∀ (p : Pl) (c : Int × Int), (∀ s, InR p s → (f (c.1 + s.1, c.2 + s.2) ↔ g (c.1 + s.1, c.2 + s.2))) → (Sem p f c ↔ Sem p g c)
  | .keep, c, h => by
    have := h (0, 0) rfl
    simpa [Sem] using this
  | .nothing, _, _ => Iff.rfl
  | .everything, _, _ => Iff.rfl
  | .move t p, c, h => Sem.local p _ fun s hs => by
    have := h _ ⟨s, hs, rfl⟩
    have e : (c.1 - t.1 + s.1, c.2 - t.2 + s.2) = (c.1 + (s.1 - t.1), c.2 + (s.2 - t.2)) := by ext <;> simp <;> omega
    rw [e]
    exact this
  | .eat q p, c, h => forall_congr' fun t => forall_congr' fun ht => Sem.local p _ fun s hs => by
    have := h _ ⟨s, hs, t, ht, rfl⟩
    have e : (c.1 + t.1 + s.1, c.2 + t.2 + s.2) = (c.1 + (s.1 + t.1), c.2 + (s.2 + t.2)) := by ext <;> simp <;> omega
    rw [e]
    exact this
  | .grow q p, c, h => exists_congr fun t => and_congr_right fun ht => Sem.local p _ fun s hs => by
    have := h _ ⟨s, hs, t, ht, rfl⟩
    have e : (c.1 - t.1 + s.1, c.2 - t.2 + s.2) = (c.1 + (s.1 - t.1), c.2 + (s.2 - t.2)) := by ext <;> simp <;> omega
    rw [e]
    exact this
  | .both a b, c, h => and_congr (Sem.local a c fun s hs => h s (.inl hs)) (Sem.local b c fun s hs => h s (.inr hs))
  | .either a b, c, h => or_congr (Sem.local a c fun s hs => h s (.inl hs)) (Sem.local b c fun s hs => h s (.inr hs))
theorem Sem.rest {m : Nat} (b : Bool) : ∀ (p : Pl), Pcs m p → ∀ c, Sem p (fun _ => b = true) c ↔ restOf p b = true
  | .keep, _, c => Iff.rfl
  | .nothing, _, c => ⟨fun h => h.elim, fun h => by cases h⟩
  | .everything, _, c => ⟨fun _ => rfl, fun _ => trivial⟩
  | .move t p, h, c => Sem.rest b p h.2 _
  | .eat q p, h, c => ⟨fun k => by
      obtain ⟨t, ht⟩ := List.exists_mem_of_ne_nil _ h.1.ne
      exact (Sem.rest b p h.2 _).mp (k t ht), fun k t _ => (Sem.rest b p h.2 _).mpr k⟩
  | .grow q p, h, c => ⟨fun ⟨t, _, k⟩ => (Sem.rest b p h.2 _).mp k, fun k => by
      obtain ⟨t, ht⟩ := List.exists_mem_of_ne_nil _ h.1.ne
      exact ⟨t, ht, (Sem.rest b p h.2 _).mpr k⟩⟩
  | .both x y, h, c => by
    show Sem x _ c ∧ Sem y _ c ↔ (restOf x b && restOf y b) = true
    rw [Bool.and_eq_true, Sem.rest b x h.1, Sem.rest b y h.2]
  | .either x y, h, c => by
    show Sem x _ c ∨ Sem y _ c ↔ (restOf x b || restOf y b) = true
    rw [Bool.or_eq_true, Sem.rest b x h.1, Sem.rest b y h.2]
/-! ### made, or too great -/
def Gr {α : Type} (m : R α) (P : α → Prop) : Prop := (∃ r, m = .ok r ∧ P r) ∨ m = .er ⟨"TooMany", none⟩
theorem Gr.of {α : Type} {m : R α} {P : α → Prop} (h : Gd m P) : Gr m P := .inl h
theorem Gr.bind {α β : Type} {m : R α} {f : α → R β} {P : α → Prop} {Q : β → Prop} (h : Gr m P) (k : ∀ r, P r → Gr (f r) Q) : Gr (m.bind f) Q := by
  rcases h with ⟨r, e, p⟩ | e
  · rw [e]
    exact k r p
  · rw [e]
    exact .inr rfl
theorem Gr.big {r : Shp} {Q : Shp → Prop} (h : r.1.length ≤ 2000 → Q r) : Gr (G.big r) Q := by
  by_cases c : 2000 < r.1.length
  · exact .inr (big_er c)
  · exact .inl ⟨r, big_ok (by omega), h (by omega)⟩
/-- a small shape -/
structure Sh1 (s : Shp) : Prop where
  up : Up s.1
  len : s.1.length ≤ 20
theorem shape_ok {l : List Int} (hl : Sgl l) : Gd (m_law_shape l) fun r => Sh1 r.1 ∧ Sgl r.2 := by
  unfold m_law_shape
  refine takeAt hl (by decide) (by decide) rfl fun many l1 hm h1 => ?_
  have m20 : 0 ≤ many ∧ many ≤ 20 := by
    simp only [List.mem_cons, List.not_mem_nil, or_false] at hm
    omega
  refine takeAt h1 (by decide) (by decide) rfl fun wide l2 hw h2 => ?_
  have w5 : 1 ≤ wide ∧ wide ≤ 5 := by
    simp only [List.mem_cons, List.not_mem_nil, or_false] at hw
    omega
  refine takeAt h2 (by decide) (by decide) rfl fun row l3 _ h3 => ?_
  refine takeAt h3 (by decide) (by decide) rfl fun col l4 _ h4 => ?_
  dsimp only
  refine Gd.chkB (by omega) ?_
  refine (Gd.forRl (I := fun q (t : List Int × List (Int × Int)) => Sgl t.1 ∧ t.2.length = q.length) (fun q x r t e hi => ?_) ⟨h4, rfl⟩).bind fun t ht => ?_
  · obtain ⟨i1, i2⟩ := hi
    have z := congrArg List.length e
    rw [len_rangeI] at z
    simp only [List.length_append, List.length_cons] at z
    refine Gd.bind (P := fun w => Sgl w.2) (takeB i1 (by omega) (by omega) fun d l' _ _ h => Gd.ok h) fun w hw => ?_
    refine Gd.bind (P := fun w => Sgl w.2) (takeB hw (by omega) (by omega) fun d l' _ _ h => Gd.ok h) fun w hw => ?_
    exact Gd.chkB (small_lt (by omega)) (Gd.ok ⟨hw, by simp [i2]⟩)
  · obtain ⟨t1, t2⟩ := ht
    rw [len_rangeI] at t2
    have lr : (rise t.2).length ≤ 20 := Nat.le_trans (len_rise _) (by omega)
    refine Gd.bind (P := fun r => r = rise t.2) (Gd.bind (P := fun r => r = rise t.2) (Gd.chk (by omega) rfl) fun r e => Gd.ok e) fun r e => ?_
    subst e
    exact takeB t1 (by decide) (by decide) fun d l' _ _ h => Gd.ok ⟨⟨up_rise _, lr⟩, h⟩
/-! ### words -/
theorem so_of (s : String) : PyData.strOk ((s : String) : Str) = true := by
  show PyData.strOk (Str.ofString s) = true
  rw [Str.ofString_eq_toList]
  unfold PyData.strOk
  simp only [List.all_toArray, List.all_map, List.all_eq_true]
  intro c _
  have h := c.valid
  have h2 : c.toNat < 0x110000 := by
    rcases h with h | h
    · exact Nat.lt_trans h (by decide)
    · exact h.2
  exact decide_eq_true h2
abbrev tS (i : Int) : Str := ((toString i : String) : Str)
abbrev tW (t : Int × Int) : List Str := [tS t.1, tS t.2]
def W : Pl → List Str
  | .keep => [("keep" : Str)]
  | .nothing => [("none" : Str)]
  | .everything => [("all" : Str)]
  | .move t p => [("move" : Str)] ++ tW t ++ W p
  | .eat q p => [("eat" : Str), tS (q.length : Int)] ++ q.flatMap tW ++ W p
  | .grow q p => [("grow" : Str), tS (q.length : Int)] ++ q.flatMap tW ++ W p
  | .both a b => [("both" : Str)] ++ W a ++ W b
  | .either a b => [("either" : Str)] ++ W a ++ W b
theorem tW_len (q : List (Int × Int)) : (q.flatMap tW).length = 2 * q.length := by
  induction q with
  | nil => rfl
  | cons x q ih =>
    rw [List.flatMap_cons, List.length_append, ih]
    show 2 + 2 * q.length = 2 * (q.length + 1)
    omega
theorem W_len : ∀ p : Pl, Pcs 12 p → (W p).length + 1 ≤ 27 * 2 ^ dp p
  | .keep, _ => by decide
  | .nothing, _ => by decide
  | .everything, _ => by decide
  | .move t p, h => by
    have ih := W_len p h.2
    show (([("move" : Str)] ++ tW t) ++ W p).length + 1 ≤ 27 * 2 ^ (dp p + 1)
    rw [List.length_append, Nat.pow_succ]
    show 3 + _ + 1 ≤ _
    omega
  | .eat q p, h => by
    have ih := W_len p h.2
    have lq := h.1.len
    show (([("eat" : Str), tS (q.length : Int)] ++ q.flatMap tW) ++ W p).length + 1 ≤ 27 * 2 ^ (dp p + 1)
    rw [List.length_append, List.length_append, tW_len, Nat.pow_succ]
    show 2 + _ + _ + 1 ≤ _
    have := Nat.one_le_two_pow (n := dp p)
    omega
  | .grow q p, h => by
    have ih := W_len p h.2
    have lq := h.1.len
    show (([("grow" : Str), tS (q.length : Int)] ++ q.flatMap tW) ++ W p).length + 1 ≤ 27 * 2 ^ (dp p + 1)
    rw [List.length_append, List.length_append, tW_len, Nat.pow_succ]
    show 2 + _ + _ + 1 ≤ _
    have := Nat.one_le_two_pow (n := dp p)
    omega
  | .both a b, h => W_two (W_len a h.1) (W_len b h.2)
  | .either a b, h => W_two (W_len a h.1) (W_len b h.2)
where
  W_two {x y : List Str} {w : Str} {d e : Nat} (hx : x.length + 1 ≤ 27 * 2 ^ d) (hy : y.length + 1 ≤ 27 * 2 ^ e) : ([w] ++ x ++ y).length + 1 ≤ 27 * 2 ^ (max d e + 1) := by
    have h1 : 2 ^ d ≤ 2 ^ max d e := Nat.pow_le_pow_right (by decide) (Nat.le_max_left _ _)
    have h2 : 2 ^ e ≤ 2 ^ max d e := Nat.pow_le_pow_right (by decide) (Nat.le_max_right _ _)
    rw [List.length_append, List.length_append, Nat.pow_succ]
    show 1 + _ + _ + 1 ≤ _
    omega
theorem W_ok : ∀ (p : Pl) (w : Str), w ∈ W p → PyData.strOk w = true
  | .keep, w, h => by rw [List.mem_singleton.mp h]; exact so_keep
  | .nothing, w, h => by rw [List.mem_singleton.mp h]; exact so_none
  | .everything, w, h => by rw [List.mem_singleton.mp h]; exact so_all
  | .move t p, w, h => by
    rcases List.mem_append.mp h with h | h
    · have h' : w ∈ [("move" : Str), tS t.1, tS t.2] := h
      simp only [List.mem_cons, List.not_mem_nil, or_false] at h'
      rcases h' with rfl | rfl | rfl
      · exact so_move
      · exact so_of _
      · exact so_of _
    · exact W_ok p w h
  | .eat q p, w, h => W_q so_eat (W_ok p) h
  | .grow q p, w, h => W_q so_grow (W_ok p) h
  | .both a b, w, h => W_b so_both (W_ok a) (W_ok b) h
  | .either a b, w, h => W_b so_either (W_ok a) (W_ok b) h
where
  W_q {v w : Str} {n : Int} {q : List (Int × Int)} {x : List Str} (hv : PyData.strOk v = true) (hx : ∀ w ∈ x, PyData.strOk w = true) (h : w ∈ [v, tS n] ++ q.flatMap tW ++ x) : PyData.strOk w = true := by
    rcases List.mem_append.mp h with h | h
    · rcases List.mem_append.mp h with h | h
      · simp only [List.mem_cons, List.not_mem_nil, or_false] at h
        rcases h with rfl | rfl
        · exact hv
        · exact so_of _
      · obtain ⟨t, _, ht⟩ := List.mem_flatMap.mp h
        simp only [List.mem_cons, List.not_mem_nil, or_false] at ht
        rcases ht with rfl | rfl
        · exact so_of _
        · exact so_of _
    · exact hx w h
  W_b {v w : Str} {x y : List Str} (hv : PyData.strOk v = true) (hx : ∀ w ∈ x, PyData.strOk w = true) (hy : ∀ w ∈ y, PyData.strOk w = true) (h : w ∈ [v] ++ x ++ y) : PyData.strOk w = true := by
    rcases List.mem_append.mp h with h | h
    · rcases List.mem_append.mp h with h | h
      · rw [List.mem_singleton.mp h]
        exact hv
      · exact hx w h
    · exact hy w h
theorem small_log {i : Int} (h : i.natAbs < 2 ^ 40) : i.natAbs.log2 < 1920 := Nat.lt_trans (log2_lt h (by decide)) (by decide)
/-- the loop over steps -/
theorem words_loop {q : List (Int × Int)} {s0 : List Str} (hs : s0.length + 2 * q.length ≤ 90000) (hq : ∀ t ∈ q, Smt t) :
    forR (τ := List Str) (fun s x => ((chk ((x.1).natAbs.log2 < 1920) ((toString (x.1 : Int) : String) : Str)).bind fun a => ((chk ((x.2).natAbs.log2 < 1920) ((toString (x.2 : Int) : String) : Str)).bind fun b => R.ok (b :: [])).bind fun c => R.ok (a :: c)).bind fun y => (chk (s.length + y.length ≤ sizeLine) ()).bind fun _ => R.ok (s ++ y)) q s0 = .ok (s0 ++ q.flatMap tW) := by
  refine Gd.eq ?_
  refine Gd.mono (Gd.forRl (I := fun p (s : List Str) => s = s0 ++ p.flatMap tW) (fun p x r s e hi => ?_) (by simp)) fun s h => h
  subst hi
  have z := congrArg List.length e
  simp only [List.length_append, List.length_cons] at z
  obtain ⟨h1, h2⟩ := hq x (by rw [e]; simp)
  refine Gd.bind (P := fun y => y = tW x) (Gd.chkB (small_log h1) (Gd.bind (P := fun y => y = [tS x.2]) (Gd.chkB (small_log h2) (Gd.ok rfl)) fun y e => Gd.ok (by rw [e]))) fun y e => ?_
  subst e
  refine Gd.chkB (small_size (by rw [List.length_append, tW_len]; show _ + 2 ≤ _; omega)) (Gd.ok ?_)
  rw [List.flatMap_append, List.append_assoc]
  simp
theorem step_words_ok {q : List (Int × Int)} (hs : 2 * q.length ≤ 90000) (hq : ∀ t ∈ q, Smt t) : m_step_words q = .ok (q.flatMap tW) := by
  unfold m_step_words
  dsimp only
  rw [words_loop (by simpa using hs) hq]
  rfl
theorem step_words2_ok {q : List (Int × Int)} (hs : 2 * q.length ≤ 90000) (hq : ∀ t ∈ q, Smt t) : m_step_words_2 q = .ok (q.flatMap tW) := by
  unfold m_step_words_2
  dsimp only
  rw [words_loop (by simpa using hs) hq]
  rfl
theorem pow_dp {d : Nat} (h : d ≤ 10) : 27 * 2 ^ d ≤ 30000 := by
  have := Nat.pow_le_pow_right (n := 2) (by decide) h
  omega
theorem words_ok : ∀ (n : Nat) (p : Pl), dp p < n → dp p ≤ 11 → Pcs 12 p → m_D_words n p = .ok (W p)
  | 0, _, h, _, _ => absurd h (Nat.not_lt_zero _)
  | n + 1, .keep, _, _, _ => rfl
  | n + 1, .nothing, _, _, _ => rfl
  | n + 1, .everything, _, _, _ => rfl
  | n + 1, .move t p, h, hd, hp => by
    have ih := words_ok n p (by unfold dp at h; omega) (by unfold dp at hd; omega) hp.2
    have l := W_len p hp.2
    have := pow_dp (d := dp p) (by unfold dp at hd; omega)
    show m_Move_words (m_D_words n) (.move t p) = _
    unfold m_Move_words
    refine Gd.eq ?_
    refine Gd.bind (P := fun x => x = [("move" : Str)] ++ tW t) (Gd.bind (P := fun x => x = tW t) (Gd.of (step_words_ok (q := [t]) (by simp) (fun x hx => by rw [List.mem_singleton.mp hx]; exact hp.1)) (by simp)) fun x e => by subst e; exact Gd.chk (small_size (by simp)) rfl) fun x e => ?_
    subst e
    refine Gd.eqB (a := W p) ih (Gd.chk (small_size ?_) rfl)
    show 3 + (W p).length ≤ _
    omega
  | n + 1, .eat q p, h, hd, hp => by
    have ih := words_ok n p (by unfold dp at h; omega) (by unfold dp at hd; omega) hp.2
    have l := W_len p hp.2
    have lq := hp.1.len
    have := pow_dp (d := dp p) (by unfold dp at hd; omega)
    show m_Eat_words (m_D_words n) (.eat q p) = _
    unfold m_Eat_words
    refine Gd.eq ?_
    refine Gd.bind (P := fun x => x = [("eat" : Str), tS (q.length : Int)] ++ q.flatMap tW) (Gd.bind (P := fun x => x = [("eat" : Str), tS (q.length : Int)]) (Gd.bind (P := fun x => x = [tS (q.length : Int)]) (Gd.bind (P := fun x => x = tS (q.length : Int)) (Gd.chk (small_log (by show (q.length : Int).natAbs < _; omega)) rfl) fun x e => Gd.ok (by rw [e])) fun x e => Gd.ok (by rw [e])) fun x e => ?_) fun x e => ?_
    · subst e
      refine Gd.bind (P := fun x => x = q.flatMap tW) (Gd.of (step_words2_ok (by omega) hp.1.sm) rfl) fun x e => ?_
      subst e
      exact Gd.chk (small_size (by rw [tW_len]; show 2 + _ ≤ _; omega)) rfl
    subst e
    refine Gd.eqB (a := W p) ih (Gd.chk (small_size ?_) rfl)
    rw [List.length_append, tW_len]
    show 2 + _ + _ ≤ _
    omega
  | n + 1, .grow q p, h, hd, hp => by
    have ih := words_ok n p (by unfold dp at h; omega) (by unfold dp at hd; omega) hp.2
    have l := W_len p hp.2
    have lq := hp.1.len
    have := pow_dp (d := dp p) (by unfold dp at hd; omega)
    show m_Grow_words (m_D_words n) (.grow q p) = _
    unfold m_Grow_words
    refine Gd.eq ?_
    refine Gd.bind (P := fun x => x = [("grow" : Str), tS (q.length : Int)] ++ q.flatMap tW) (Gd.bind (P := fun x => x = [("grow" : Str), tS (q.length : Int)]) (Gd.bind (P := fun x => x = [tS (q.length : Int)]) (Gd.bind (P := fun x => x = tS (q.length : Int)) (Gd.chk (small_log (by show (q.length : Int).natAbs < _; omega)) rfl) fun x e => Gd.ok (by rw [e])) fun x e => Gd.ok (by rw [e])) fun x e => ?_) fun x e => ?_
    · subst e
      refine Gd.bind (P := fun x => x = q.flatMap tW) (Gd.of (step_words2_ok (by omega) hp.1.sm) rfl) fun x e => ?_
      subst e
      exact Gd.chk (small_size (by rw [tW_len]; show 2 + _ ≤ _; omega)) rfl
    subst e
    refine Gd.eqB (a := W p) ih (Gd.chk (small_size ?_) rfl)
    rw [List.length_append, tW_len]
    show 2 + _ + _ ≤ _
    omega
  | n + 1, .both a b, h, hd, hp => by
    have ia := words_ok n a (by unfold dp at h; omega) (by unfold dp at hd; omega) hp.1
    have ib := words_ok n b (by unfold dp at h; omega) (by unfold dp at hd; omega) hp.2
    have la := W_len a hp.1
    have lb := W_len b hp.2
    have := pow_dp (d := dp a) (by unfold dp at hd; omega)
    have := pow_dp (d := dp b) (by unfold dp at hd; omega)
    show m_Both_words (m_D_words n) (.both a b) = _
    unfold m_Both_words
    refine Gd.eq ?_
    refine Gd.bind (P := fun x => x = [("both" : Str)] ++ W a) (Gd.eqB (a := W a) ia (Gd.chk (small_size (by show 1 + _ ≤ _; omega)) rfl)) fun x e => ?_
    subst e
    refine Gd.eqB (a := W b) ib (Gd.chk (small_size ?_) rfl)
    rw [List.length_append]
    show 1 + _ + _ ≤ _
    omega
  | n + 1, .either a b, h, hd, hp => by
    have ia := words_ok n a (by unfold dp at h; omega) (by unfold dp at hd; omega) hp.1
    have ib := words_ok n b (by unfold dp at h; omega) (by unfold dp at hd; omega) hp.2
    have la := W_len a hp.1
    have lb := W_len b hp.2
    have := pow_dp (d := dp a) (by unfold dp at hd; omega)
    have := pow_dp (d := dp b) (by unfold dp at hd; omega)
    show m_Either_words (m_D_words n) (.either a b) = _
    unfold m_Either_words
    refine Gd.eq ?_
    refine Gd.bind (P := fun x => x = [("either" : Str)] ++ W a) (Gd.eqB (a := W a) ia (Gd.chk (small_size (by show 1 + _ ≤ _; omega)) rfl)) fun x e => ?_
    subst e
    refine Gd.eqB (a := W b) ib (Gd.chk (small_size ?_) rfl)
    rw [List.length_append]
    show 1 + _ + _ ≤ _
    omega
/-- the law's own words -/
theorem as_S (s : Str) : ofOpt (asS (Dy.str s)) = R.ok s := rfl
theorem len1 (x : Dy) : ofOpt (Dy.len (Dy.tup [x])) = R.ok (1 : Int) := rfl
theorem len3 (x y z : Dy) : ofOpt (Dy.len (Dy.tup [x, y, z])) = R.ok (3 : Int) := rfl
theorem lenT (q : List (Int × Int)) : ofOpt (Dy.len (Dy.tup (List.map (fun x => Dy.tup [Dy.int x.1, Dy.int x.2]) q))) = R.ok (q.length : Int) := by
  show R.ok (((List.map (fun x : Int × Int => Dy.tup [Dy.int x.1, Dy.int x.2]) q).length : Nat) : Int) = _
  rw [List.length_map]
theorem out_nil : ofOpt ((asT (asTu (asc asI (as1 asI)))) (Dy.tup (List.map Dy.int []))) = R.ok ([] : List (Int × Int)) := rfl
theorem out_one (t : Int × Int) : ofOpt ((asT (asTu (asc asI (as1 asI)))) (Dy.tup [Dy.tup [Dy.int t.1, Dy.int t.2]])) = R.ok [t] := rfl
theorem d11 : decide ((1 : Int) = 1) = true := rfl
theorem d31 : decide ((3 : Int) = 1) = false := rfl
theorem parts0 (x : Dy) : m_law_parts (Dy.tup [x]) = .ok [] := by simp only [m_law_parts, len1, ok_bindP, d11, decide_true, if_true]
theorem parts_move (y z : Dy) : m_law_parts (Dy.tup [Dy.str ("move" : Str), y, z]) = .ok [z] := by simp only [m_law_parts, len3, ok_bindP, d31, at0, at1, at2', q_move_both, q_move_either, Bool.false_eq_true, if_false, if_true, Bool.false_or, Bool.or_false, Bool.true_or]
theorem parts_eat (y z : Dy) : m_law_parts (Dy.tup [Dy.str ("eat" : Str), y, z]) = .ok [z] := by simp only [m_law_parts, len3, ok_bindP, d31, at0, at1, at2', q_eat_both, q_eat_either, Bool.false_eq_true, if_false, if_true, Bool.false_or, Bool.or_false, Bool.true_or]
theorem parts_grow (y z : Dy) : m_law_parts (Dy.tup [Dy.str ("grow" : Str), y, z]) = .ok [z] := by simp only [m_law_parts, len3, ok_bindP, d31, at0, at1, at2', q_grow_both, q_grow_either, Bool.false_eq_true, if_false, if_true, Bool.false_or, Bool.or_false, Bool.true_or]
theorem parts_both (y z : Dy) : m_law_parts (Dy.tup [Dy.str ("both" : Str), y, z]) = .ok [y, z] := by simp only [m_law_parts, len3, ok_bindP, d31, at0, at1, at2', q_both_both, q_both_either, Bool.false_eq_true, if_false, if_true, Bool.false_or, Bool.or_false, Bool.true_or]
theorem parts_either (y z : Dy) : m_law_parts (Dy.tup [Dy.str ("either" : Str), y, z]) = .ok [y, z] := by simp only [m_law_parts, len3, ok_bindP, d31, at0, at1, at2', q_either_both, q_either_either, Bool.false_eq_true, if_false, if_true, Bool.false_or, Bool.or_false, Bool.true_or]
theorem cat_ok {x y : List Str} (h : x.length + y.length ≤ 90000) {α : Type} (f : List Str → R α) : ((chk (x.length + y.length ≤ sizeLine) ()).bind fun _ => f (x ++ y)) = f (x ++ y) := by
  unfold chk
  rw [if_pos (small_size (by omega))]
  rfl
theorem law_words_ok : ∀ (n : Nat) (p : Pl), dp p < n → dp p ≤ 11 → Pcs 12 p → m_law_words n (fD p) = .ok (W p)
  | 0, _, h, _, _ => absurd h (Nat.not_lt_zero _)
  | n + 1, .keep, _, _, _ => by
    simp only [m_law_words, fD, at0, ok_bindP, as_S, q_keep_move, q_keep_eat, q_keep_grow, out_nil, parts0, Bool.false_eq_true, if_false, if_true, Bool.false_or, Bool.or_false, Bool.true_or]
    rfl
  | n + 1, .nothing, _, _, _ => by
    simp only [m_law_words, fD, at0, ok_bindP, as_S, q_none_move, q_none_eat, q_none_grow, out_nil, parts0, Bool.false_eq_true, if_false, if_true, Bool.false_or, Bool.or_false, Bool.true_or]
    rfl
  | n + 1, .everything, _, _, _ => by
    simp only [m_law_words, fD, at0, ok_bindP, as_S, q_all_move, q_all_eat, q_all_grow, out_nil, parts0, Bool.false_eq_true, if_false, if_true, Bool.false_or, Bool.or_false, Bool.true_or]
    rfl
  | n + 1, .move t p, h, hd, hp => by
    have ih := law_words_ok n p (by unfold dp at h; omega) (by unfold dp at hd; omega) hp.2
    have l := W_len p hp.2
    have := pow_dp (d := dp p) (by unfold dp at hd; omega)
    simp only [m_law_words, fD, fC, at0, at1, ok_bindP, as_S, q_move_move, q_move_eat, q_move_grow, out_one, parts_move, Bool.false_eq_true, if_false, if_true, Bool.false_or, Bool.or_false, Bool.true_or]
    rw [words_loop (q := [t]) (s0 := [("move" : Str)]) (by simp) (fun x hx => by rw [List.mem_singleton.mp hx]; exact hp.1)]
    simp only [ok_bindP, forR, ih]
    rw [cat_ok (by show 3 + (W p).length ≤ _; omega)]
    simp only [ok_bindP, List.flatMap_cons, List.flatMap_nil, List.append_nil]
    rfl
  | n + 1, .eat q p, h, hd, hp => by
    have ih := law_words_ok n p (by unfold dp at h; omega) (by unfold dp at hd; omega) hp.2
    have l := W_len p hp.2
    have lq := hp.1.len
    have := pow_dp (d := dp p) (by unfold dp at hd; omega)
    have e1 : chk (((q.length : Int)).natAbs.log2 < 1920) (tS (q.length : Int)) = R.ok (tS (q.length : Int)) := if_pos (small_log (by show (q.length : Int).natAbs < _; omega))
    have e2 : chk ([("eat" : Str)].length < sizeLine) () = R.ok () := if_pos (small_lt (by simp))
    simp only [m_law_words, fD, fT, at0, at1, ok_bindP, as_S, q_eat_move, q_eat_eat, q_eat_grow, lenT, out_T, parts_eat, e1, e2, Bool.false_eq_true, if_false, if_true, Bool.false_or, Bool.or_false, Bool.true_or]
    rw [words_loop (q := q) (s0 := [("eat" : Str)] ++ [tS (q.length : Int)]) (by show 2 + _ ≤ _; omega) hp.1.sm]
    simp only [ok_bindP, forR, ih]
    rw [cat_ok (by rw [List.length_append, tW_len]; show 2 + _ + _ ≤ _; omega)]
    rfl
  | n + 1, .grow q p, h, hd, hp => by
    have ih := law_words_ok n p (by unfold dp at h; omega) (by unfold dp at hd; omega) hp.2
    have l := W_len p hp.2
    have lq := hp.1.len
    have := pow_dp (d := dp p) (by unfold dp at hd; omega)
    have e1 : chk (((q.length : Int)).natAbs.log2 < 1920) (tS (q.length : Int)) = R.ok (tS (q.length : Int)) := if_pos (small_log (by show (q.length : Int).natAbs < _; omega))
    have e2 : chk ([("grow" : Str)].length < sizeLine) () = R.ok () := if_pos (small_lt (by simp))
    simp only [m_law_words, fD, fT, at0, at1, ok_bindP, as_S, q_grow_move, q_grow_eat, q_grow_grow, lenT, out_T, parts_grow, e1, e2, Bool.false_eq_true, if_false, if_true, Bool.false_or, Bool.or_false, Bool.true_or]
    rw [words_loop (q := q) (s0 := [("grow" : Str)] ++ [tS (q.length : Int)]) (by show 2 + _ ≤ _; omega) hp.1.sm]
    simp only [ok_bindP, forR, ih]
    rw [cat_ok (by rw [List.length_append, tW_len]; show 2 + _ + _ ≤ _; omega)]
    rfl
  | n + 1, .both a b, h, hd, hp => by
    have ia := law_words_ok n a (by unfold dp at h; omega) (by unfold dp at hd; omega) hp.1
    have ib := law_words_ok n b (by unfold dp at h; omega) (by unfold dp at hd; omega) hp.2
    have la := W_len a hp.1
    have lb := W_len b hp.2
    have := pow_dp (d := dp a) (by unfold dp at hd; omega)
    have := pow_dp (d := dp b) (by unfold dp at hd; omega)
    simp only [m_law_words, fD, at0, at1, ok_bindP, as_S, q_both_move, q_both_eat, q_both_grow, out_nil, parts_both, Bool.false_eq_true, if_false, if_true, Bool.false_or, Bool.or_false, Bool.true_or]
    simp only [ok_bindP, forR, ia, ib]
    rw [cat_ok (by show 1 + (W a).length ≤ _; omega)]
    simp only [ok_bindP]
    rw [cat_ok (by rw [List.length_append]; show 1 + _ + _ ≤ _; omega)]
    rfl
  | n + 1, .either a b, h, hd, hp => by
    have ia := law_words_ok n a (by unfold dp at h; omega) (by unfold dp at hd; omega) hp.1
    have ib := law_words_ok n b (by unfold dp at h; omega) (by unfold dp at hd; omega) hp.2
    have la := W_len a hp.1
    have lb := W_len b hp.2
    have := pow_dp (d := dp a) (by unfold dp at hd; omega)
    have := pow_dp (d := dp b) (by unfold dp at hd; omega)
    simp only [m_law_words, fD, at0, at1, ok_bindP, as_S, q_either_move, q_either_eat, q_either_grow, out_nil, parts_either, Bool.false_eq_true, if_false, if_true, Bool.false_or, Bool.or_false, Bool.true_or]
    simp only [ok_bindP, forR, ia, ib]
    rw [cat_ok (by show 1 + (W a).length ≤ _; omega)]
    simp only [ok_bindP]
    rw [cat_ok (by rw [List.length_append]; show 1 + _ + _ ≤ _; omega)]
    rfl
/-! ### two values told alike -/
def OkD : Nat → Dy → Prop
  | 0, _ => False
  | n + 1, .tup l => l.length ≤ 1000 ∧ ∀ x ∈ l, OkD n x
  | n + 1, .lst l => l.length ≤ 1000 ∧ ∀ x ∈ l, OkD n x
  | _ + 1, .str s => PyData.strOk s = true
  | _ + 1, _ => True
mutual
theorem eqv_refl : ∀ d : Dy, PyData.eqv d.dat d.dat = true
  | .non => by simp [Dy.dat, PyData.eqv]
  | .int i => by simp [Dy.dat, PyData.eqv]
  | .bl i => by simp [Dy.dat, PyData.eqv]
  | .str i => by simp [Dy.dat, PyData.eqv]
  | .tup l => by
    rw [Dy.dat]
    simp only [PyData.eqv]
    exact eqvs_refl l
  | .lst l => by
    rw [Dy.dat]
    simp only [PyData.eqv]
    exact eqvs_refl l
theorem eqvs_refl : ∀ l : List Dy, PyData.eqvAll (Dy.dats l) (Dy.dats l) = true
  | [] => by simp [Dy.dats, PyData.eqvAll]
  | d :: l => by
    rw [Dy.dats]
    simp only [PyData.eqvAll]
    rw [eqv_refl d, eqvs_refl l]
    rfl
end
theorem lay_rows {n : Nat} : ∀ {l : List Dy}, (∀ x ∈ l, x.dat.canLay0 = true ∧ x.dat.depth ≤ n) → PyData.canLayAll0 (Dy.dats l) = true ∧ PyData.depthAll (Dy.dats l) ≤ n
  | [], _ => by
    rw [Dy.dats]
    exact ⟨by simp [PyData.canLayAll0], by simp [PyData.depthAll]⟩
  | d :: l, h => by
    obtain ⟨a, b⟩ := h d List.mem_cons_self
    obtain ⟨c, e⟩ := lay_rows (l := l) fun x hx => h x (List.mem_cons_of_mem _ hx)
    rw [Dy.dats]
    refine ⟨by simp [PyData.canLayAll0, a, c], ?_⟩
    simp only [PyData.depthAll]
    omega
theorem lay_of : ∀ (n : Nat) (d : Dy), OkD n d → d.dat.canLay0 = true ∧ d.dat.depth ≤ n
  | 0, _, h => h.elim
  | n + 1, d, h => by
    cases d with
    | non => exact ⟨by simp [Dy.dat, PyData.canLay0], by simp [Dy.dat, PyData.depth]⟩
    | int i => exact ⟨by simp [Dy.dat, PyData.canLay0], by simp [Dy.dat, PyData.depth]⟩
    | bl i => exact ⟨by simp [Dy.dat, PyData.canLay0], by simp [Dy.dat, PyData.depth]⟩
    | str i =>
      have h' : PyData.strOk i = true := h
      exact ⟨by simp [Dy.dat, PyData.canLay0, h'], by simp [Dy.dat, PyData.depth]⟩
    | tup l =>
      rw [Dy.dat]
      obtain ⟨a, b⟩ := lay_rows (n := n) (l := l) fun x hx => lay_of n x (h.2 x hx)
      exact ⟨by simp [PyData.canLay0, a], by simp only [PyData.depth]; omega⟩
    | lst l =>
      rw [Dy.dat]
      obtain ⟨a, b⟩ := lay_rows (n := n) (l := l) fun x hx => lay_of n x (h.2 x hx)
      exact ⟨by simp [PyData.canLay0, a], by simp only [PyData.depth]; omega⟩
theorem shp_of {n : Nat} {d : Dy} (h : OkD n d) (hn : n ≤ 60) : d.shp = true := by
  obtain ⟨a, b⟩ := lay_of n d h
  unfold Dy.shp SeqAt.shaped
  simp [a]
  omega
/-! ### a plan behind a plan -/
def ph (o : Pl) : Pl → Pl
  | .keep => o
  | .nothing => .nothing
  | .everything => .everything
  | .move t p => .move t (ph o p)
  | .eat q p => .eat q (ph o p)
  | .grow q p => .grow q (ph o p)
  | .both a b => .both (ph o a) (ph o b)
  | .either a b => .either (ph o a) (ph o b)
def ms : Pl → Nat
  | .keep => 1
  | .nothing => 1
  | .everything => 1
  | .move _ p => ms p + 1
  | .eat _ p => ms p + 1
  | .grow _ p => ms p + 1
  | .both a b => ms a + ms b + 1
  | .either a b => ms a + ms b + 1
theorem ms_le : ∀ p : Pl, ms p + 1 ≤ 2 ^ (dp p + 1)
  | .keep => by decide
  | .nothing => by decide
  | .everything => by decide
  | .move _ p => by
    have := ms_le p
    show ms p + 1 + 1 ≤ 2 ^ (dp p + 1 + 1)
    rw [Nat.pow_succ]
    omega
  | .eat _ p => by
    have := ms_le p
    show ms p + 1 + 1 ≤ 2 ^ (dp p + 1 + 1)
    rw [Nat.pow_succ]
    omega
  | .grow _ p => by
    have := ms_le p
    show ms p + 1 + 1 ≤ 2 ^ (dp p + 1 + 1)
    rw [Nat.pow_succ]
    omega
  | .both a b => two (ms_le a) (ms_le b)
  | .either a b => two (ms_le a) (ms_le b)
where
  two {x y d e : Nat} (hx : x + 1 ≤ 2 ^ (d + 1)) (hy : y + 1 ≤ 2 ^ (e + 1)) : x + y + 1 + 1 ≤ 2 ^ (max d e + 1 + 1) := by
    have h1 : 2 ^ (d + 1) ≤ 2 ^ (max d e + 1) := Nat.pow_le_pow_right (by decide) (by omega)
    have h2 : 2 ^ (e + 1) ≤ 2 ^ (max d e + 1) := Nat.pow_le_pow_right (by decide) (by omega)
    rw [Nat.pow_succ]
    omega
theorem ph_ok (o : Pl) : ∀ (n : Nat) (p : Pl), dp p < n → m_D_put_behind n p o = .ok (ph o p)
  | 0, _, h => absurd h (Nat.not_lt_zero _)
  | n + 1, .keep, _ => rfl
  | n + 1, .nothing, _ => rfl
  | n + 1, .everything, _ => rfl
  | n + 1, .move t p, h => by
    have ih := ph_ok o n p (by unfold dp at h; omega)
    show m_Move_put_behind (m_D_put_behind n) (.move t p) o = _
    simp only [m_Move_put_behind, Pl.fStep, Pl.fPlan, ofOpt, ok_bindP, ih, ph]
  | n + 1, .eat t p, h => by
    have ih := ph_ok o n p (by unfold dp at h; omega)
    show m_Eat_put_behind (m_D_put_behind n) (.eat t p) o = _
    simp only [m_Eat_put_behind, Pl.fPiece, Pl.fPlan, ofOpt, ok_bindP, ih, ph]
  | n + 1, .grow t p, h => by
    have ih := ph_ok o n p (by unfold dp at h; omega)
    show m_Grow_put_behind (m_D_put_behind n) (.grow t p) o = _
    simp only [m_Grow_put_behind, Pl.fPiece, Pl.fPlan, ofOpt, ok_bindP, ih, ph]
  | n + 1, .both a b, h => by
    have ia := ph_ok o n a (by unfold dp at h; omega)
    have ib := ph_ok o n b (by unfold dp at h; omega)
    show m_Both_put_behind (m_D_put_behind n) (.both a b) o = _
    simp only [m_Both_put_behind, Pl.fOne, Pl.fOther, ofOpt, ok_bindP, ia, ib, ph]
  | n + 1, .either a b, h => by
    have ia := ph_ok o n a (by unfold dp at h; omega)
    have ib := ph_ok o n b (by unfold dp at h; omega)
    show m_Either_put_behind (m_D_put_behind n) (.either a b) o = _
    simp only [m_Either_put_behind, Pl.fOne, Pl.fOther, ofOpt, ok_bindP, ia, ib, ph]
theorem law_put_ok (o : Pl) : ∀ (n : Nat) (p : Pl), dp p < n → m_law_put n (fD p) (fD o) = .ok (fD (ph o p))
  | 0, _, h => absurd h (Nat.not_lt_zero _)
  | n + 1, .keep, _ => by simp only [m_law_put, fD, ph, at0, ok_bindP, q_keep_keep, if_true]
  | n + 1, .nothing, _ => by simp only [m_law_put, fD, ph, at0, ok_bindP, q_none_keep, len1, d11, decide_true, Bool.false_eq_true, if_false, if_true]
  | n + 1, .everything, _ => by simp only [m_law_put, fD, ph, at0, ok_bindP, q_all_keep, len1, d11, decide_true, Bool.false_eq_true, if_false, if_true]
  | n + 1, .move t p, h => by
    have ih := law_put_ok o n p (by unfold dp at h; omega)
    simp only [m_law_put, fD, ph, at0, at1, at2', ok_bindP, q_move_keep, q_move_both, q_move_either, len3, d31, ih, Bool.false_eq_true, if_false, if_true]
  | n + 1, .eat t p, h => by
    have ih := law_put_ok o n p (by unfold dp at h; omega)
    simp only [m_law_put, fD, ph, at0, at1, at2', ok_bindP, q_eat_keep, q_eat_both, q_eat_either, len3, d31, ih, Bool.false_eq_true, if_false, if_true]
  | n + 1, .grow t p, h => by
    have ih := law_put_ok o n p (by unfold dp at h; omega)
    simp only [m_law_put, fD, ph, at0, at1, at2', ok_bindP, q_grow_keep, q_grow_both, q_grow_either, len3, d31, ih, Bool.false_eq_true, if_false, if_true]
  | n + 1, .both a b, h => by
    have ia := law_put_ok o n a (by unfold dp at h; omega)
    have ib := law_put_ok o n b (by unfold dp at h; omega)
    simp only [m_law_put, fD, ph, at0, at1, at2', ok_bindP, q_both_keep, q_both_both, len3, d31, ia, ib, Bool.false_eq_true, if_false, if_true]
  | n + 1, .either a b, h => by
    have ia := law_put_ok o n a (by unfold dp at h; omega)
    have ib := law_put_ok o n b (by unfold dp at h; omega)
    simp only [m_law_put, fD, ph, at0, at1, at2', ok_bindP, q_either_keep, q_either_both, q_either_either, len3, d31, ia, ib, Bool.false_eq_true, if_false, if_true]
theorem chk0 : chk (([] : List Int).length ≤ sizeLine) ([] : List Int) = .ok [] := if_pos (Nat.zero_le _)
theorem chk1 (a : Int) : chk ([a].length ≤ sizeLine) [a] = .ok [a] := if_pos (small_size (by simp))
theorem chk2 (a b : Int) : chk ([a, b].length ≤ sizeLine) [a, b] = .ok [a, b] := if_pos (small_size (by simp))
theorem okc_ok {α : Type} (a : α) : (R.ok a).calm = R.ok a := rfl
theorem many_ok : ∀ (n : Nat) (p : Pl), dp p < n → m_many_in n p = .ok (ms p : Int)
  | 0, _, h => absurd h (Nat.not_lt_zero _)
  | n + 1, .keep, _ => by simp only [m_many_in, m_D_parts_in, Pl.kd, m_Plan_parts_in, mapR, ok_bindP, chk0, ms]; rfl
  | n + 1, .nothing, _ => by simp only [m_many_in, m_D_parts_in, Pl.kd, m_Plan_parts_in, mapR, ok_bindP, chk0, ms]; rfl
  | n + 1, .everything, _ => by simp only [m_many_in, m_D_parts_in, Pl.kd, m_Plan_parts_in, mapR, ok_bindP, chk0, ms]; rfl
  | n + 1, .move t p, h => by
    have ih := many_ok n p (by unfold dp at h; omega)
    simp only [m_many_in, m_D_parts_in, Pl.kd, m_Move_parts_in, Pl.fPlan, ofOpt, mapR, ok_bindP, ih, okc_ok, chk1, ms]
    exact congrArg R.ok (by simp; omega)
  | n + 1, .eat t p, h => by
    have ih := many_ok n p (by unfold dp at h; omega)
    simp only [m_many_in, m_D_parts_in, Pl.kd, m_Eat_parts_in, Pl.fPlan, ofOpt, mapR, ok_bindP, ih, okc_ok, chk1, ms]
    exact congrArg R.ok (by simp; omega)
  | n + 1, .grow t p, h => by
    have ih := many_ok n p (by unfold dp at h; omega)
    simp only [m_many_in, m_D_parts_in, Pl.kd, m_Grow_parts_in, Pl.fPlan, ofOpt, mapR, ok_bindP, ih, okc_ok, chk1, ms]
    exact congrArg R.ok (by simp; omega)
  | n + 1, .both a b, h => by
    have ia := many_ok n a (by unfold dp at h; omega)
    have ib := many_ok n b (by unfold dp at h; omega)
    simp only [m_many_in, m_D_parts_in, Pl.kd, m_Both_parts_in, Pl.fOne, Pl.fOther, ofOpt, mapR, ok_bindP, ia, ib, okc_ok, chk2, ms]
    exact congrArg R.ok (by simp; omega)
  | n + 1, .either a b, h => by
    have ia := many_ok n a (by unfold dp at h; omega)
    have ib := many_ok n b (by unfold dp at h; omega)
    simp only [m_many_in, m_D_parts_in, Pl.kd, m_Either_parts_in, Pl.fOne, Pl.fOther, ofOpt, mapR, ok_bindP, ia, ib, okc_ok, chk2, ms]
    exact congrArg R.ok (by simp; omega)
theorem law_many_ok : ∀ (n : Nat) (p : Pl), dp p < n → m_law_many n (fD p) = .ok (ms p : Int)
  | 0, _, h => absurd h (Nat.not_lt_zero _)
  | n + 1, .keep, _ => by simp only [m_law_many, fD, parts0, mapR, ok_bindP, chk0, ms]; rfl
  | n + 1, .nothing, _ => by simp only [m_law_many, fD, parts0, mapR, ok_bindP, chk0, ms]; rfl
  | n + 1, .everything, _ => by simp only [m_law_many, fD, parts0, mapR, ok_bindP, chk0, ms]; rfl
  | n + 1, .move t p, h => by
    have ih := law_many_ok n p (by unfold dp at h; omega)
    simp only [m_law_many, fD, parts_move, mapR, ok_bindP, ih, okc_ok, chk1, ms]
    exact congrArg R.ok (by simp; omega)
  | n + 1, .eat t p, h => by
    have ih := law_many_ok n p (by unfold dp at h; omega)
    simp only [m_law_many, fD, parts_eat, mapR, ok_bindP, ih, okc_ok, chk1, ms]
    exact congrArg R.ok (by simp; omega)
  | n + 1, .grow t p, h => by
    have ih := law_many_ok n p (by unfold dp at h; omega)
    simp only [m_law_many, fD, parts_grow, mapR, ok_bindP, ih, okc_ok, chk1, ms]
    exact congrArg R.ok (by simp; omega)
  | n + 1, .both a b, h => by
    have ia := law_many_ok n a (by unfold dp at h; omega)
    have ib := law_many_ok n b (by unfold dp at h; omega)
    simp only [m_law_many, fD, parts_both, mapR, ok_bindP, ia, ib, okc_ok, chk2, ms]
    exact congrArg R.ok (by simp; omega)
  | n + 1, .either a b, h => by
    have ia := law_many_ok n a (by unfold dp at h; omega)
    have ib := law_many_ok n b (by unfold dp at h; omega)
    simp only [m_law_many, fD, parts_either, mapR, ok_bindP, ia, ib, okc_ok, chk2, ms]
    exact congrArg R.ok (by simp; omega)
theorem mx1 (a : Int) : maxDf 0 [a] = a := rfl
theorem mx2 (a b : Nat) : maxDf 0 [((a : Nat) : Int), ((b : Nat) : Int)] = ((max a b : Nat) : Int) := by
  show (if (a : Int) < b then (b : Int) else a) = _
  split <;> omega
theorem deep_ok : ∀ (n : Nat) (p : Pl), dp p < n → m_deep n p = .ok ((dp p + 1 : Nat) : Int)
  | 0, _, h => absurd h (Nat.not_lt_zero _)
  | n + 1, .keep, _ => by simp only [m_deep, m_D_parts_in, Pl.kd, m_Plan_parts_in, mapR, ok_bindP, chk0, dp]; rfl
  | n + 1, .nothing, _ => by simp only [m_deep, m_D_parts_in, Pl.kd, m_Plan_parts_in, mapR, ok_bindP, chk0, dp]; rfl
  | n + 1, .everything, _ => by simp only [m_deep, m_D_parts_in, Pl.kd, m_Plan_parts_in, mapR, ok_bindP, chk0, dp]; rfl
  | n + 1, .move t p, h => by
    have ih := deep_ok n p (by unfold dp at h; omega)
    simp only [m_deep, m_D_parts_in, Pl.kd, m_Move_parts_in, Pl.fPlan, ofOpt, mapR, ok_bindP, ih, okc_ok, chk1, dp, mx1]
    exact congrArg R.ok (by omega)
  | n + 1, .eat t p, h => by
    have ih := deep_ok n p (by unfold dp at h; omega)
    simp only [m_deep, m_D_parts_in, Pl.kd, m_Eat_parts_in, Pl.fPlan, ofOpt, mapR, ok_bindP, ih, okc_ok, chk1, dp, mx1]
    exact congrArg R.ok (by omega)
  | n + 1, .grow t p, h => by
    have ih := deep_ok n p (by unfold dp at h; omega)
    simp only [m_deep, m_D_parts_in, Pl.kd, m_Grow_parts_in, Pl.fPlan, ofOpt, mapR, ok_bindP, ih, okc_ok, chk1, dp, mx1]
    exact congrArg R.ok (by omega)
  | n + 1, .both a b, h => by
    have ia := deep_ok n a (by unfold dp at h; omega)
    have ib := deep_ok n b (by unfold dp at h; omega)
    simp only [m_deep, m_D_parts_in, Pl.kd, m_Both_parts_in, Pl.fOne, Pl.fOther, ofOpt, mapR, ok_bindP, ia, ib, okc_ok, chk2, dp, mx2]
    exact congrArg R.ok (by omega)
  | n + 1, .either a b, h => by
    have ia := deep_ok n a (by unfold dp at h; omega)
    have ib := deep_ok n b (by unfold dp at h; omega)
    simp only [m_deep, m_D_parts_in, Pl.kd, m_Either_parts_in, Pl.fOne, Pl.fOther, ofOpt, mapR, ok_bindP, ia, ib, okc_ok, chk2, dp, mx2]
    exact congrArg R.ok (by omega)
theorem cat0 (xs : List Int) (h : xs.length ≤ 2) : chk (([(0 : Int)]).length + xs.length ≤ sizeLine) ([(0 : Int)] ++ xs) = .ok (0 :: xs) := if_pos (small_size (by simp; omega))
theorem my0 : ofOpt (maxI [(0 : Int)]) = .ok 0 := rfl
theorem my1 (a : Nat) : ofOpt (maxI [(0 : Int), ((a : Nat) : Int)]) = .ok (a : Int) := by
  show R.ok (if (0 : Int) < a then (a : Int) else 0) = _
  exact congrArg R.ok (by split <;> omega)
theorem my2 (a b : Nat) : ofOpt (maxI [(0 : Int), ((a : Nat) : Int), ((b : Nat) : Int)]) = .ok ((max a b : Nat) : Int) := by
  show R.ok (if (if (0 : Int) < a then (a : Int) else 0) < b then (b : Int) else (if (0 : Int) < a then (a : Int) else 0)) = _
  exact congrArg R.ok (by split <;> split at * <;> omega)
theorem law_deep_ok : ∀ (n : Nat) (p : Pl), dp p < n → m_law_deep n (fD p) = .ok ((dp p + 1 : Nat) : Int)
  | 0, _, h => absurd h (Nat.not_lt_zero _)
  | n + 1, .keep, _ => by simp only [m_law_deep, fD, parts0, mapR, ok_bindP, chk0, cat0 [] (by decide), my0, dp]; rfl
  | n + 1, .nothing, _ => by simp only [m_law_deep, fD, parts0, mapR, ok_bindP, chk0, cat0 [] (by decide), my0, dp]; rfl
  | n + 1, .everything, _ => by simp only [m_law_deep, fD, parts0, mapR, ok_bindP, chk0, cat0 [] (by decide), my0, dp]; rfl
  | n + 1, .move t p, h => by
    have ih := law_deep_ok n p (by unfold dp at h; omega)
    simp only [m_law_deep, fD, parts_move, mapR, ok_bindP, ih, okc_ok, chk1, cat0 [_] (by simp), my1, dp]
    exact congrArg R.ok (by omega)
  | n + 1, .eat t p, h => by
    have ih := law_deep_ok n p (by unfold dp at h; omega)
    simp only [m_law_deep, fD, parts_eat, mapR, ok_bindP, ih, okc_ok, chk1, cat0 [_] (by simp), my1, dp]
    exact congrArg R.ok (by omega)
  | n + 1, .grow t p, h => by
    have ih := law_deep_ok n p (by unfold dp at h; omega)
    simp only [m_law_deep, fD, parts_grow, mapR, ok_bindP, ih, okc_ok, chk1, cat0 [_] (by simp), my1, dp]
    exact congrArg R.ok (by omega)
  | n + 1, .both a b, h => by
    have ia := law_deep_ok n a (by unfold dp at h; omega)
    have ib := law_deep_ok n b (by unfold dp at h; omega)
    simp only [m_law_deep, fD, parts_both, mapR, ok_bindP, ia, ib, okc_ok, chk2, cat0 [_, _] (by simp), my2, dp]
    exact congrArg R.ok (by omega)
  | n + 1, .either a b, h => by
    have ia := law_deep_ok n a (by unfold dp at h; omega)
    have ib := law_deep_ok n b (by unfold dp at h; omega)
    simp only [m_law_deep, fD, parts_either, mapR, ok_bindP, ia, ib, okc_ok, chk2, cat0 [_, _] (by simp), my2, dp]
    exact congrArg R.ok (by omega)
/-- too great a plan -/
def tb (p : Pl) : Bool := decide (40 < ms p) || decide (11 < dp p)
theorem cond_ok {p : Pl} {m1 m2 : R Int} (h1 : m1 = .ok (ms p : Int)) (h2 : m2 = .ok ((dp p + 1 : Nat) : Int)) :
    ((m1.bind fun x => R.ok (decide ((40 : Int) < x))).bind fun x => if x = true then R.ok true else m2.bind fun x => R.ok (decide ((12 : Int) < x))) = .ok (tb p) := by
  subst h1 h2
  unfold tb
  by_cases a : 40 < ms p
  · have e : decide ((40 : Int) < (ms p : Int)) = true := decide_eq_true (by omega)
    simp only [ok_bindP, e, if_true, decide_eq_true a, Bool.true_or]
  · have e : decide ((40 : Int) < (ms p : Int)) = false := decide_eq_false (by omega)
    have e2 : decide ((12 : Int) < ((dp p + 1 : Nat) : Int)) = decide (11 < dp p) := decide_eq_decide.mpr (by omega)
    simp only [ok_bindP, e, decide_eq_false a, Bool.false_or, Bool.false_eq_true, if_false, e2]
theorem let_ok {p : Pl} (h : dp p < 60) : m_let_by p = if tb p = true then .er ⟨"TooMany", none⟩ else .ok p := by
  unfold m_let_by
  rw [cond_ok (p := p) (many_ok 60 p h) (deep_ok 60 p h)]
  rfl
def fnd (p : Pl) : Sum Str Pl := if tb p = true then .inl ("many" : Str) else .inr p
theorem catch_ok {p : Pl} {b : R (Option (Sum Str Pl))} (h : b = if tb p = true then .er ⟨"TooMany", none⟩ else .ok (some (.inr p))) :
    ((catchR (fun s => if s = ("TooMany" : Str) then some true else none) (fun r => (((m_law_kind r).calm).bind fun x => R.ok ((fun x => some (Sum.inl x)) x)).bind fun f => R.ok f) b).bind fun s => ofOpt s) = .ok (fnd p) := by
  subst h
  unfold fnd
  by_cases t : tb p = true
  · rw [if_pos t, if_pos t]
    rfl
  · rw [if_neg t, if_neg t]
    rfl
theorem asked_ok {o p : Pl} (h : dp p < 20) (h2 : dp (ph o p) < 60) : m_law_asked 0 o p = .ok (fnd (ph o p)) := by
  unfold m_law_asked
  dsimp only
  refine catch_ok ?_
  have e : m_after o p = if tb (ph o p) = true then .er ⟨"TooMany", none⟩ else .ok (ph o p) := by
    unfold m_after
    rw [ph_ok o 20 p h]
    exact let_ok h2
  rw [if_pos (decide_eq_true rfl), e]
  by_cases t : tb (ph o p) = true
  · rw [if_pos t, if_pos t]
    rfl
  · rw [if_neg t, if_neg t]
    rfl
theorem asked1_ok {p : Pl} {q : List (Int × Int)} (h : dp p < 50) : m_law_asked_2 1 p q = .ok (fnd (.grow q (.eat q p))) := by
  unfold m_law_asked_2
  dsimp only
  refine catch_ok ?_
  have e : m_opening q p = if tb (.grow q (.eat q p)) = true then .er ⟨"TooMany", none⟩ else .ok (.grow q (.eat q p)) := let_ok (by show dp p + 1 + 1 < 60; omega)
  rw [if_neg (by decide), if_pos (by decide), e]
  by_cases t : tb (.grow q (.eat q p)) = true
  · rw [if_pos t, if_pos t]
    rfl
  · rw [if_neg t, if_neg t]
    rfl
theorem asked2_ok {p : Pl} {q : List (Int × Int)} (h : dp p < 50) : m_law_asked_2 2 p q = .ok (fnd (.eat q (.grow q p))) := by
  unfold m_law_asked_2
  dsimp only
  refine catch_ok ?_
  have e : m_closing q p = if tb (.eat q (.grow q p)) = true then .er ⟨"TooMany", none⟩ else .ok (.eat q (.grow q p)) := let_ok (by show dp p + 1 + 1 < 60; omega)
  rw [if_neg (by decide), if_neg (by decide), e]
  by_cases t : tb (.eat q (.grow q p)) = true
  · rw [if_pos t, if_pos t]
    rfl
  · rw [if_neg t, if_neg t]
    rfl
theorem W_len2 : ∀ p : Pl, Pcs 12 p → (W p).length ≤ 26 * ms p
  | .keep, _ => by decide
  | .nothing, _ => by decide
  | .everything, _ => by decide
  | .move t p, h => by
    have ih := W_len2 p h.2
    show (([("move" : Str)] ++ tW t) ++ W p).length ≤ 26 * (ms p + 1)
    rw [List.length_append]
    show 3 + _ ≤ _
    omega
  | .eat q p, h => by
    have ih := W_len2 p h.2
    have lq := h.1.len
    show (([("eat" : Str), tS (q.length : Int)] ++ q.flatMap tW) ++ W p).length ≤ 26 * (ms p + 1)
    rw [List.length_append, List.length_append, tW_len]
    show 2 + _ + _ ≤ _
    omega
  | .grow q p, h => by
    have ih := W_len2 p h.2
    have lq := h.1.len
    show (([("grow" : Str), tS (q.length : Int)] ++ q.flatMap tW) ++ W p).length ≤ 26 * (ms p + 1)
    rw [List.length_append, List.length_append, tW_len]
    show 2 + _ + _ ≤ _
    omega
  | .both a b, h => by
    have ia := W_len2 a h.1
    have ib := W_len2 b h.2
    show (([("both" : Str)] ++ W a) ++ W b).length ≤ 26 * (ms a + ms b + 1)
    rw [List.length_append, List.length_append]
    show 1 + _ + _ ≤ _
    omega
  | .either a b, h => by
    have ia := W_len2 a h.1
    have ib := W_len2 b h.2
    show (([("either" : Str)] ++ W a) ++ W b).length ≤ 26 * (ms a + ms b + 1)
    rw [List.length_append, List.length_append]
    show 1 + _ + _ ≤ _
    omega
theorem same_W {p : Pl} (hp : Pcs 12 p) (hm : ms p ≤ 60) : m_law_same 60 (Dy.lst (List.map Dy.str (W p))) (Dy.lst (List.map Dy.str (W p))) = .ok true := by
  refine same_ok 60 _ ⟨?_, fun x hx => ?_⟩
  · rw [List.length_map]
    have := W_len2 p hp
    omega
  · obtain ⟨w, hw, rfl⟩ := List.mem_map.mp hx
    exact W_ok p w hw
theorem good_ok {p : Pl} (h : dp p < 60) (hp : Pcs 12 p) : m_law_good (fnd p) (fD p) = .ok true := by
  unfold m_law_good
  rw [cond_ok (p := p) (law_many_ok 60 p h) (law_deep_ok 60 p h)]
  unfold fnd
  by_cases t : tb p = true
  · simp only [t, ok_bindP, if_true]
    rfl
  · have t' : tb p = false := by simpa using t
    unfold tb at t'
    rw [Bool.or_eq_false_iff, decide_eq_false_iff_not, decide_eq_false_iff_not] at t'
    have e1 := words_ok 60 p h (by omega) hp
    have e2 := law_words_ok 60 p h (by omega) hp
    have e3 := same_W hp (by omega)
    rw [if_neg t]
    show R.bind (R.ok (tb p)) _ = _
    simp only [ok_bindP, t, Bool.false_eq_true, if_false]
    show (if (!(Sum.inr p : Sum Str Pl).isLeft) = true then _ else _) = _
    rw [if_pos (by rfl)]
    show R.bind (R.bind (R.bind (R.bind (R.ok p) _) _) _) _ = _
    simp only [ok_bindP, e1, e2, e3]
/-! ### what is made -/
theorem done_gr {S : Shp} (u : Up S.1) (hs : S.1.length ≤ 9000) : ∀ (n : Nat) (p : Pl), dp p < n → Pcs 3 p → Gr (m_D_done n p S) fun r => Up r.1 ∧ r.1.length ≤ 2000
  | 0, _, h, _ => absurd h (Nat.not_lt_zero _)
  | n + 1, .keep, _, _ => by
    rw [done_keep]
    exact Gr.big fun h => ⟨u, h⟩
  | n + 1, .nothing, _, _ => by
    rw [done_nothing]
    exact .inl ⟨_, rfl, .nil, Nat.zero_le _⟩
  | n + 1, .everything, _, _ => by
    rw [done_everything]
    exact .inl ⟨_, rfl, .nil, Nat.zero_le _⟩
  | n + 1, .move t p, h, hp => by
    rw [done_move]
    refine Gr.bind ((done_gr u hs n p (by unfold dp at h; omega) hp.2).bind (Q := fun z => Up z.1) fun r hr => ?_) fun z hz => Gr.big fun hl => ⟨hz, hl⟩
    have := hr.2
    rw [moved_ok r t (by omega)]
    refine .inl ⟨_, rfl, List.pairwise_map.mpr (List.Pairwise.imp (fun {a b} (z : ltC a b = true) => ?_) hr.1)⟩
    have z' := of_decide_eq_true z
    exact decide_eq_true (by dsimp only; omega)
  | n + 1, .eat q p, h, hp => by
    rw [done_eat]
    refine Gr.bind ((done_gr u hs n p (by unfold dp at h; omega) hp.2).bind (Q := fun z => Up z.1) fun r hr => ?_) fun z hz => Gr.big fun hl => ⟨hz, hl⟩
    obtain ⟨r1, r5⟩ := hr
    have lq := hp.1.len
    have hl := Nat.mul_le_mul r5 lq
    exact .of ((eaten_has r q r1 (fun _ => by omega) (by omega) (by omega) hp.1.ne).mono fun z hz => hz.1.1)
  | n + 1, .grow q p, h, hp => by
    rw [done_grow]
    refine Gr.bind ((done_gr u hs n p (by unfold dp at h; omega) hp.2).bind (Q := fun z => Up z.1) fun r hr => ?_) fun z hz => Gr.big fun hl => ⟨hz, hl⟩
    obtain ⟨r1, r5⟩ := hr
    have lq := hp.1.len
    have hl := Nat.mul_le_mul r5 lq
    exact .of ((grown_has r q r1 (fun _ => by omega) (by omega) (by omega) hp.1.ne).mono fun z hz => hz.1.1)
  | n + 1, .both a b, h, hp => by
    rw [done_both]
    refine Gr.bind ((done_gr u hs n a (by unfold dp at h; omega) hp.1).bind (Q := fun z => Up z.1) fun x hx => (done_gr u hs n b (by unfold dp at h; omega) hp.2).bind fun y hy => ?_) fun z hz => Gr.big fun hl => ⟨hz, hl⟩
    exact .of ((both_sharp x y hx.1 hy.1 hx.2 hy.2).mono fun z hz => hz.1)
  | n + 1, .either a b, h, hp => by
    rw [done_either]
    refine Gr.bind ((done_gr u hs n a (by unfold dp at h; omega) hp.1).bind (Q := fun z => Up z.1) fun x hx => (done_gr u hs n b (by unfold dp at h; omega) hp.2).bind fun y hy => ?_) fun z hz => Gr.big fun hl => ⟨hz, hl⟩
    show Gr ((m_both (x.1, !x.2) (y.1, !y.2)).bind fun z => m_outside z) _
    exact .of ((both_sharp (x.1, !x.2) (y.1, !y.2) hx.1 hy.1 hx.2 hy.2).bind fun z hz => Gd.of (outside_ok z) hz.1)
theorem done_fu (S : Shp) : ∀ (p : Pl) (n m : Nat), dp p < n → dp p < m → m_D_done n p S = m_D_done m p S
  | _, 0, _, h, _ => absurd h (Nat.not_lt_zero _)
  | _, _ + 1, 0, _, h => absurd h (Nat.not_lt_zero _)
  | .keep, n + 1, m + 1, _, _ => rfl
  | .nothing, n + 1, m + 1, _, _ => rfl
  | .everything, n + 1, m + 1, _, _ => rfl
  | .move t p, n + 1, m + 1, h, k => by rw [done_move, done_move, done_fu S p n m (by unfold dp at h; omega) (by unfold dp at k; omega)]
  | .eat t p, n + 1, m + 1, h, k => by rw [done_eat, done_eat, done_fu S p n m (by unfold dp at h; omega) (by unfold dp at k; omega)]
  | .grow t p, n + 1, m + 1, h, k => by rw [done_grow, done_grow, done_fu S p n m (by unfold dp at h; omega) (by unfold dp at k; omega)]
  | .both a b, n + 1, m + 1, h, k => by rw [done_both, done_both, done_fu S a n m (by unfold dp at h; omega) (by unfold dp at k; omega), done_fu S b n m (by unfold dp at h; omega) (by unfold dp at k; omega)]
  | .either a b, n + 1, m + 1, h, k => by rw [done_either, done_either, done_fu S a n m (by unfold dp at h; omega) (by unfold dp at k; omega), done_fu S b n m (by unfold dp at h; omega) (by unfold dp at k; omega)]
theorem done_ph {o : Pl} {S F : Shp} {k : Nat} (hk : dp o < k) (ho : m_D_done k o S = .ok F) (hF : F.1.length ≤ 2000) : ∀ (p : Pl) (n m : Nat), dp p < n → dp p + dp o < m → m_D_done m (ph o p) S = m_D_done n p F
  | _, 0, _, h, _ => absurd h (Nat.not_lt_zero _)
  | _, _ + 1, 0, _, h => absurd h (Nat.not_lt_zero _)
  | .keep, n + 1, m + 1, _, h => by
    show m_D_done (m + 1) o S = m_D_done (n + 1) .keep F
    rw [done_keep, big_ok hF, ← ho]
    exact done_fu S o _ _ (by have e0 : dp Pl.keep = 0 := rfl; omega) hk
  | .nothing, n + 1, m + 1, _, _ => rfl
  | .everything, n + 1, m + 1, _, _ => rfl
  | .move t p, n + 1, m + 1, h, k => by
    show m_D_done (m + 1) (.move t (ph o p)) S = _
    rw [done_move, done_move, done_ph hk ho hF p n m (by unfold dp at h; omega) (by rw [dp] at k; omega)]
  | .eat t p, n + 1, m + 1, h, k => by
    show m_D_done (m + 1) (.eat t (ph o p)) S = _
    rw [done_eat, done_eat, done_ph hk ho hF p n m (by unfold dp at h; omega) (by rw [dp] at k; omega)]
  | .grow t p, n + 1, m + 1, h, k => by
    show m_D_done (m + 1) (.grow t (ph o p)) S = _
    rw [done_grow, done_grow, done_ph hk ho hF p n m (by unfold dp at h; omega) (by rw [dp] at k; omega)]
  | .both a b, n + 1, m + 1, h, k => by
    show m_D_done (m + 1) (.both (ph o a) (ph o b)) S = _
    rw [done_both, done_both, done_ph hk ho hF a n m (by unfold dp at h; omega) (by rw [dp] at k; omega), done_ph hk ho hF b n m (by unfold dp at h; omega) (by rw [dp] at k; omega)]
  | .either a b, n + 1, m + 1, h, k => by
    show m_D_done (m + 1) (.either (ph o a) (ph o b)) S = _
    rw [done_either, done_either, done_ph hk ho hF a n m (by unfold dp at h; omega) (by rw [dp] at k; omega), done_ph hk ho hF b n m (by unfold dp at h; omega) (by rw [dp] at k; omega)]
def tol (m : R Shp) : Option Shp := match m with
  | .ok r => some r
  | _ => none
theorem law_done_ok {p : Pl} {S : Shp} {P : Shp → Prop} (h : Gr (m_D_done 60 p S) P) : m_law_done p S = .ok (tol (m_D_done 60 p S)) := by
  unfold m_law_done
  dsimp only
  rcases h with ⟨r, e, _⟩ | e
  · rw [e]
    rfl
  · rw [e]
    rfl
/-- a plan of the law's -/
structure Pw (p : Pl) : Prop where
  dp : dp p ≤ 11
  pcs : Pcs 3 p
  ms : ms p ≤ 45
theorem behind_ok {o p : Pl} (ho : Pw o) (hp : Pw p) {S : Shp} (hS : Sh1 S) : m_law_behind o p (ph o p) S = .ok true := by
  have d1 := ho.dp
  have d2 := hp.dp
  have lS := hS.len
  have g1 := done_gr hS.up (by omega) 60 o (by omega) ho.pcs
  refine Gd.eq ?_
  unfold m_law_behind
  refine Gd.eqB (law_done_ok g1) ?_
  rcases g1 with ⟨F, e, uF, lF⟩ | e
  · rw [e]
    by_cases h4 : (400 : Int) < (F.1.length : Int)
    · refine Gd.eqB (a := true) ?_ (Gd.ite (fun _ => Gd.ok rfl) fun h => absurd rfl h)
      show R.ok (decide ((400 : Int) < (F.1.length : Int))) = _
      rw [decide_eq_true h4]
    refine Gd.eqB (a := false) ?_ (Gd.ite (fun h => by cases h) fun _ => ?_)
    · show R.ok (decide ((400 : Int) < (F.1.length : Int))) = _
      rw [decide_eq_false h4]
    have g2 := done_gr uF (by omega) 60 p (by omega) hp.pcs
    refine Gd.eqB (a := tol (m_D_done 60 p F)) (law_done_ok g2) ?_
    have ep := done_ph (k := 60) (by omega) e lF p 60 60 (by omega) (by omega)
    rcases g2 with ⟨r, e2, ur, lr⟩ | e2
    · rw [e2]
      refine Gd.ite (fun h => by cases h) fun _ => ?_
      have g3 : Gr (m_D_done 60 (ph o p) S) fun _ => True := .inl ⟨r, ep.trans e2, trivial⟩
      have e3 := law_done_ok g3
      rw [ep, e2] at e3
      have es : m_law_same 60 (dyS r) (dyS r) = .ok true := same_ok 60 _ (okS 56 r (by omega))
      rw [e3]
      exact Gd.of es rfl
    · rw [e2]
      exact Gd.ite (fun _ => Gd.ok rfl) fun h => absurd rfl h
  · rw [e]
    exact Gd.eqB (a := true) rfl (Gd.ite (fun _ => Gd.ok rfl) fun h => absurd rfl h)
/-! ### the law's plans -/
theorem dp_ph (o : Pl) : ∀ p : Pl, dp (ph o p) ≤ dp p + dp o
  | .keep => by show dp o ≤ 0 + dp o; omega
  | .nothing => Nat.zero_le _
  | .everything => Nat.zero_le _
  | .move _ p => by have := dp_ph o p; show dp (ph o p) + 1 ≤ dp p + 1 + dp o; omega
  | .eat _ p => by have := dp_ph o p; show dp (ph o p) + 1 ≤ dp p + 1 + dp o; omega
  | .grow _ p => by have := dp_ph o p; show dp (ph o p) + 1 ≤ dp p + 1 + dp o; omega
  | .both a b => by have := dp_ph o a; have := dp_ph o b; show max (dp (ph o a)) (dp (ph o b)) + 1 ≤ max (dp a) (dp b) + 1 + dp o; omega
  | .either a b => by have := dp_ph o a; have := dp_ph o b; show max (dp (ph o a)) (dp (ph o b)) + 1 ≤ max (dp a) (dp b) + 1 + dp o; omega
theorem pcs_ph {m : Nat} {o : Pl} (ho : Pcs m o) : ∀ p : Pl, Pcs m p → Pcs m (ph o p)
  | .keep, _ => ho
  | .nothing, _ => trivial
  | .everything, _ => trivial
  | .move _ p, h => ⟨h.1, pcs_ph ho p h.2⟩
  | .eat _ p, h => ⟨h.1, pcs_ph ho p h.2⟩
  | .grow _ p, h => ⟨h.1, pcs_ph ho p h.2⟩
  | .both a b, h => ⟨pcs_ph ho a h.1, pcs_ph ho b h.2⟩
  | .either a b, h => ⟨pcs_ph ho a h.1, pcs_ph ho b h.2⟩
theorem tree_ok : ∀ (n k : Nat) (l : List Int), 1 ≤ k → k < 2 ^ n → Sgl l → Gd (m_law_tree n l (k : Int)) fun r => (∃ p, r.1 = fD p ∧ dp p < n ∧ Pcs 3 p ∧ ms p = k) ∧ Sgl r.2
  | 0, k, _, h, h2, _ => by simp at h2; omega
  | n + 1, k, l, h1, h2, hl => by
    unfold m_law_tree
    rw [Nat.pow_succ] at h2
    refine Gd.ite (fun c => ?_) fun c => Gd.ite (fun c2 => ?_) fun c2 => ?_
    · have c' := of_decide_eq_true c
      refine takeB hl (by decide) (by decide) fun d l' d0 d1 h => ?_
      obtain ⟨x, ex, hx⟩ := atN (xs := [("keep" : Str), ("keep" : Str), ("none" : Str), ("all" : Str)]) d d0 d1
      refine Gd.optB ex (Gd.ok ⟨?_, h⟩)
      have k1 : k = 1 := by omega
      subst k1
      simp only [List.mem_cons, List.not_mem_nil, or_false] at hx
      rcases hx with rfl | rfl | rfl | rfl
      · exact ⟨.keep, rfl, Nat.succ_pos _, trivial, rfl⟩
      · exact ⟨.keep, rfl, Nat.succ_pos _, trivial, rfl⟩
      · exact ⟨.nothing, rfl, Nat.succ_pos _, trivial, rfl⟩
      · exact ⟨.everything, rfl, Nat.succ_pos _, trivial, rfl⟩
    · have c' := of_decide_eq_true c2
      have k2 : k = 2 := by omega
      subst k2
      refine gd_calm (step_ok hl) fun st ⟨s1, s2⟩ => gd_calm (tree_ok n 1 _ (by omega) (by omega) s2) fun f ⟨⟨p, e, g1, g2, g3⟩, f2⟩ => Gd.ok ⟨⟨.move st.1 p, ?_, ?_, ⟨s1, g2⟩, ?_⟩, f2⟩
      · show Dy.tup [Dy.str ("move" : Str), fC st.1, f.1] = _
        rw [e]
        rfl
      · show dp p + 1 < n + 1
        omega
      · show ms p + 1 = 2
        omega
    · have c1' : ¬ (k : Int) = 1 := fun z => c (decide_eq_true z)
      have c2' : ¬ (k : Int) = 2 := fun z => c2 (decide_eq_true z)
      refine Gd.bind (P := fun w : Str × List Int => (w.1 = ("both" : Str) ∨ w.1 = ("either" : Str)) ∧ Sgl w.2) (takeB hl (by decide) (by decide) fun d l' d0 d1 h => ?_) fun w hw => ?_
      · obtain ⟨x, ex, hx⟩ := atN (xs := [("both" : Str), ("either" : Str)]) d d0 d1
        refine Gd.optB ex (Gd.ok ⟨?_, h⟩)
        simp only [List.mem_cons, List.not_mem_nil, or_false] at hx
        exact hx
      have ea : ((k : Int) - 1) / 2 = (((k - 1) / 2 : Nat) : Int) := by omega
      have eb : (k : Int) - 1 - ((k : Int) - 1) / 2 = ((k - 1 - (k - 1) / 2 : Nat) : Int) := by omega
      rw [eb, ea]
      refine gd_calm (tree_ok n ((k - 1) / 2) _ (by omega) (by omega) hw.2) fun g ⟨⟨a, ga, a1, a2, a3⟩, g2⟩ => gd_calm (tree_ok n (k - 1 - (k - 1) / 2) _ (by omega) (by omega) g2) fun f ⟨⟨b, gb, b1, b2, b3⟩, f2⟩ => ?_
      rcases hw.1 with ew | ew
      · refine Gd.ok ⟨⟨.both a b, ?_, ?_, ⟨a2, b2⟩, ?_⟩, f2⟩
        · show Dy.tup [Dy.str w.1, g.1, f.1] = _
          rw [ew, ga, gb]
          rfl
        · show max (dp a) (dp b) + 1 < n + 1
          omega
        · show ms a + ms b + 1 = k
          omega
      · refine Gd.ok ⟨⟨.either a b, ?_, ?_, ⟨a2, b2⟩, ?_⟩, f2⟩
        · show Dy.tup [Dy.str w.1, g.1, f.1] = _
          rw [ew, ga, gb]
          rfl
        · show max (dp a) (dp b) + 1 < n + 1
          omega
        · show ms a + ms b + 1 = k
          omega
theorem chain_ok {l : List Int} (hl : Sgl l) {k : Int} (h0 : 0 ≤ k) (h1 : k ≤ 11) : Gd (m_law_chain l k) fun r => (∃ p, r.1 = fD p ∧ Pw p) ∧ Sgl r.2 := by
  unfold m_law_chain
  dsimp only
  refine Gd.chkB (by omega) ?_
  refine (Gd.forRl (I := fun q (t : List Int × Dy) => (∃ p, t.2 = fD p ∧ dp p ≤ q.length ∧ Pcs 2 p ∧ ms p ≤ q.length + 1) ∧ Sgl t.1) (fun q x r t e hi => ?_) ⟨⟨.keep, rfl, Nat.zero_le _, trivial, Nat.le_refl _⟩, hl⟩).bind fun t ht => ?_
  · obtain ⟨⟨p, ep, p1, p2, p3⟩, hs⟩ := hi
    refine takeB hs (by decide) (by decide) fun d l' d0 d1 h => ?_
    refine Gd.ite (fun _ => ?_) fun c => ?_
    · refine Gd.bind (P := fun w : Dy × List Int => (∃ p, w.1 = fD p ∧ dp p ≤ q.length + 1 ∧ Pcs 2 p ∧ ms p ≤ q.length + 1 + 1) ∧ Sgl w.2) (gd_calm (step_ok h) fun st ⟨s1, s2⟩ => Gd.ok ⟨⟨.move st.1 p, ?_, ?_, ⟨s1, p2⟩, ?_⟩, s2⟩) fun w hw => Gd.ok ⟨?_, hw.2⟩
      · show Dy.tup [Dy.str ("move" : Str), fC st.1, t.2] = _
        rw [ep]
        rfl
      · show dp p + 1 ≤ _
        omega
      · show ms p + 1 ≤ _
        omega
      · rw [List.length_append]
        exact hw.1
    · have c' : ¬ d = 0 := fun z => c (decide_eq_true z)
      refine Gd.bind (P := fun w : Dy × List Int => (∃ p, w.1 = fD p ∧ dp p ≤ q.length + 1 ∧ Pcs 2 p ∧ ms p ≤ q.length + 1 + 1) ∧ Sgl w.2) ?_ fun w hw => Gd.ok ⟨?_, hw.2⟩
      · obtain ⟨x, ex, hx⟩ := atN (xs := [("eat" : Str), ("grow" : Str)]) (d - 1) (by omega) (by show d - 1 < 2; omega)
        refine Gd.optB ex (gd_calm (piece_ok h (m := 2) (by decide) (by decide)) fun pc ⟨c1, c2⟩ => ?_)
        simp only [List.mem_cons, List.not_mem_nil, or_false] at hx
        rcases hx with rfl | rfl
        · refine Gd.ok ⟨⟨.eat pc.1 p, ?_, ?_, ⟨c1, p2⟩, ?_⟩, c2⟩
          · show Dy.tup [Dy.str ("eat" : Str), fT pc.1, t.2] = _
            rw [ep]
            rfl
          · show dp p + 1 ≤ _
            omega
          · show ms p + 1 ≤ _
            omega
        · refine Gd.ok ⟨⟨.grow pc.1 p, ?_, ?_, ⟨c1, p2⟩, ?_⟩, c2⟩
          · show Dy.tup [Dy.str ("grow" : Str), fT pc.1, t.2] = _
            rw [ep]
            rfl
          · show dp p + 1 ≤ _
            omega
          · show ms p + 1 ≤ _
            omega
      · rw [List.length_append]
        exact hw.1
  · obtain ⟨⟨p, ep, p1, p2, p3⟩, hs⟩ := ht
    rw [len_rangeI] at p1 p3
    exact Gd.ok ⟨⟨p, ep, by omega, pcs_mono (by decide) p2, by omega⟩, hs⟩
theorem form2_ok {l : List Int} (hl : Sgl l) : Gd (m_law_form 6 l 2 3) fun r => (∃ p, r.1 = fD p ∧ Pw p) ∧ Sgl r.2 :=
  (form_ok (m := 3) (by decide) (by decide) 6 2 l (by decide) hl).mono fun r ⟨⟨p, e, h1, h2⟩, h3⟩ => ⟨⟨p, e, by omega, h2, by
    have := ms_le p
    have := Nat.pow_le_pow_right (n := 2) (by decide) (show dp p + 1 ≤ 3 by omega)
    omega⟩, h3⟩
theorem tree2_ok {l : List Int} (hl : Sgl l) {k : Int} (h0 : 1 ≤ k) (h1 : k ≤ 41) : Gd (m_law_tree 12 l k) fun r => (∃ p, r.1 = fD p ∧ Pw p) ∧ Sgl r.2 := by
  obtain ⟨j, rfl⟩ : ∃ j : Nat, k = (j : Int) := ⟨k.toNat, by omega⟩
  exact (tree_ok 12 j l (by omega) (by omega) hl).mono fun r ⟨⟨p, e, h1, h2, h3⟩, h4⟩ => ⟨⟨p, e, by omega, h2, by omega⟩, h4⟩
theorem two_ok {l : List Int} (hl : Sgl l) : Gd (m_law_two l) fun r => (∃ p q, r.1 = [fD p, fD q] ∧ Pw p ∧ Pw q) ∧ Sgl r.2 := by
  unfold m_law_two
  refine takeB hl (by decide) (by decide) fun way l1 w0 w1 h1 => ?_
  refine Gd.ite (fun _ => ?_) fun _ => Gd.ite (fun _ => ?_) fun _ => Gd.ite (fun _ => ?_) fun _ => Gd.ite (fun _ => ?_) fun _ => ?_
  · dsimp only
    refine (Gd.forRl (I := fun q (t : List Int × Dy) => (∃ p, t.2 = fD p ∧ dp p ≤ q.length ∧ Pcs 2 p ∧ ms p ≤ q.length + 1) ∧ Sgl t.1) (fun q x r t e hi => ?_) ⟨⟨.everything, rfl, Nat.zero_le _, trivial, Nat.le_refl _⟩, h1⟩).bind fun t ht => ?_
    · obtain ⟨⟨p, ep, p1, p2, p3⟩, hs⟩ := hi
      refine Gd.bind (P := fun w : Dy × List Int => (∃ p, w.1 = fD p ∧ dp p ≤ q.length + 1 ∧ Pcs 2 p ∧ ms p ≤ q.length + 1 + 1) ∧ Sgl w.2) (gd_calm (step_ok hs) fun st ⟨s1, s2⟩ => Gd.ok ⟨⟨.move st.1 p, ?_, ?_, ⟨s1, p2⟩, ?_⟩, s2⟩) fun w hw => Gd.ok ⟨?_, hw.2⟩
      · show Dy.tup [Dy.str ("move" : Str), fC st.1, t.2] = _
        rw [ep]
        rfl
      · show dp p + 1 ≤ _
        omega
      · show ms p + 1 ≤ _
        omega
      · rw [List.length_append]
        exact hw.1
    · obtain ⟨⟨p, ep, p1, p2, p3⟩, hs⟩ := ht
      have l9 : (rangeI 0 9).length = 9 := by decide +kernel
      rw [l9] at p1 p3
      refine takeB hs (by decide) (by decide) fun d l' d0 d1 h => ?_
      refine gd_calm (chain_ok h d0 (by omega)) fun c ⟨⟨q, ec, hq⟩, h2⟩ => Gd.ok ⟨⟨q, .both .keep p, ?_, hq, ⟨?_, ⟨trivial, pcs_mono (by decide) p2⟩, ?_⟩⟩, h2⟩
      · show [c.1, Dy.tup [Dy.str ("both" : Str), Dy.tup [Dy.str ("keep" : Str)], t.2]] = _
        rw [ec, ep]
        rfl
      · show max 0 (dp p) + 1 ≤ 11
        omega
      · show 1 + ms p + 1 ≤ 45
        omega
  · refine takeB h1 (by decide) (by decide) fun d l' d0 d1 h => ?_
    refine gd_calm (chain_ok h d0 (by dsimp only; omega)) fun c ⟨⟨p, ec, hp⟩, h2⟩ => ?_
    refine takeB h2 (by decide) (by decide) fun e l' e0 e1 h => ?_
    refine gd_calm (chain_ok h (by dsimp only; split <;> omega) (by dsimp only; split <;> omega)) fun c2 ⟨⟨q, ec2, hq⟩, h3⟩ => Gd.ok ⟨⟨p, q, ?_, hp, hq⟩, h3⟩
    show [c.1, c2.1] = _
    rw [ec, ec2]
  · refine Gd.bind (P := fun w : Dy × List Int => (∃ p, w.1 = fD p ∧ dp p = 0 ∧ Pcs 3 p ∧ ms p = 1) ∧ Sgl w.2) (takeB h1 (by decide) (by decide) fun d l' d0 d1 h => ?_) fun w hw => ?_
    · obtain ⟨x, ex, hx⟩ := atN (xs := [("keep" : Str), ("keep" : Str), ("none" : Str)]) d d0 d1
      refine Gd.optB ex (Gd.ok ⟨?_, h⟩)
      simp only [List.mem_cons, List.not_mem_nil, or_false] at hx
      rcases hx with rfl | rfl | rfl
      · exact ⟨.keep, rfl, rfl, trivial, rfl⟩
      · exact ⟨.keep, rfl, rfl, trivial, rfl⟩
      · exact ⟨.nothing, rfl, rfl, trivial, rfl⟩
    · obtain ⟨⟨p, ep, p1, p2, p3⟩, hs⟩ := hw
      refine takeB hs (by decide) (by decide) fun d l' d0 d1 h => ?_
      refine gd_calm (tree2_ok h (by omega) (by omega)) fun c ⟨⟨q, ec, hq⟩, h2⟩ => gd_calm (step_ok h2) fun st ⟨s1, s2⟩ => Gd.ok ⟨⟨q, .move st.1 p, ?_, hq, ⟨?_, ⟨s1, p2⟩, ?_⟩⟩, s2⟩
      · show [c.1, Dy.tup [Dy.str ("move" : Str), fC st.1, w.1]] = _
        rw [ec, ep]
        rfl
      · show dp p + 1 ≤ 11
        omega
      · show ms p + 1 ≤ 45
        omega
  · refine takeB h1 (by decide) (by decide) fun d l' d0 d1 h => ?_
    refine gd_calm (tree2_ok h (by omega) (by omega)) fun c ⟨⟨p, ec, hp⟩, h2⟩ => ?_
    refine takeB h2 (by decide) (by decide) fun e l' e0 e1 h => ?_
    refine gd_calm (tree2_ok h (by omega) (by omega)) fun c2 ⟨⟨q, ec2, hq⟩, h3⟩ => Gd.ok ⟨⟨p, q, ?_, hp, hq⟩, h3⟩
    show [c.1, c2.1] = _
    rw [ec, ec2]
  · refine gd_calm (form2_ok h1) fun c ⟨⟨p, ec, hp⟩, h2⟩ => gd_calm (form2_ok h2) fun c2 ⟨⟨q, ec2, hq⟩, h3⟩ => Gd.ok ⟨⟨p, q, ?_, hp, hq⟩, h3⟩
    show [c.1, c2.1] = _
    rw [ec, ec2]
theorem W_len3 : ∀ p : Pl, Pcs 3 p → (W p).length ≤ 8 * ms p
  | .keep, _ => by decide
  | .nothing, _ => by decide
  | .everything, _ => by decide
  | .move t p, h => by
    have ih := W_len3 p h.2
    show (([("move" : Str)] ++ tW t) ++ W p).length ≤ 8 * (ms p + 1)
    rw [List.length_append]
    show 3 + _ ≤ _
    omega
  | .eat q p, h => by
    have ih := W_len3 p h.2
    have lq := h.1.len
    show (([("eat" : Str), tS (q.length : Int)] ++ q.flatMap tW) ++ W p).length ≤ 8 * (ms p + 1)
    rw [List.length_append, List.length_append, tW_len]
    show 2 + _ + _ ≤ _
    omega
  | .grow q p, h => by
    have ih := W_len3 p h.2
    have lq := h.1.len
    show (([("grow" : Str), tS (q.length : Int)] ++ q.flatMap tW) ++ W p).length ≤ 8 * (ms p + 1)
    rw [List.length_append, List.length_append, tW_len]
    show 2 + _ + _ ≤ _
    omega
  | .both a b, h => by
    have ia := W_len3 a h.1
    have ib := W_len3 b h.2
    show (([("both" : Str)] ++ W a) ++ W b).length ≤ 8 * (ms a + ms b + 1)
    rw [List.length_append, List.length_append]
    show 1 + _ + _ ≤ _
    omega
  | .either a b, h => by
    have ia := W_len3 a h.1
    have ib := W_len3 b h.2
    show (([("either" : Str)] ++ W a) ++ W b).length ≤ 8 * (ms a + ms b + 1)
    rw [List.length_append, List.length_append]
    show 1 + _ + _ ≤ _
    omega
theorem w_shp {p : Pl} (hp : Pw p) : Dy.shp (Dy.lst (List.map Dy.str (W p))) = true := by
  refine shp_of (n := 2) (d := Dy.lst (List.map Dy.str (W p))) ⟨?_, fun x hx => ?_⟩ (by decide)
  · rw [List.length_map]
    have := W_len3 p hp.pcs
    have := hp.ms
    omega
  · obtain ⟨w, hw, rfl⟩ := List.mem_map.mp hx
    exact W_ok p w hw
theorem w_ne {p : Pl} (hp : Pw p) : chk (Dy.shp (Dy.lst (List.map Dy.str (W p))) = true ∧ Dy.shp (Dy.lst (List.map Dy.str (W p))) = true) (!Dy.eqv (Dy.lst (List.map Dy.str (W p))) (Dy.lst (List.map Dy.str (W p)))) = .ok false := by
  unfold chk
  rw [if_pos ⟨w_shp hp, w_shp hp⟩]
  show R.ok (!PyData.eqv (Dy.dat _) (Dy.dat _)) = _
  rw [eqv_refl]
  rfl
theorem law_ok (ns : List Int) (hl : ns.length ≤ 63) (_ : ∀ z ∈ ns, Builtin.Int.intBits z ≤ 1048576) : m_law ns = .ok true := by
  refine Gd.eq ?_
  unfold m_law
  have cl := cut_len (xs := ns) (lo := none) (hi := some 30)
  refine Gd.chkB (small_size (by simp; omega)) ?_
  refine Gd.forSB (I := fun _ => True) (fun s x hx _ => ?_) trivial fun s _ => Gd.ok rfl
  refine Gd.bind (P := fun r => Sgl r) ((deal3_ok _ (by decide) (by decide)).bind fun a _ => Gd.ok ⟨a, rfl⟩) fun pot hp => ?_
  refine gd_calm (two_ok hp) fun fs ⟨⟨p, q, ef, hp, hq⟩, h1⟩ => ?_
  refine gd_calm (piece_ok h1 (m := 3) (by decide) (by decide)) fun pc ⟨hc, h2⟩ => gd_calm (shape_ok h2) fun sh ⟨hS, h3⟩ => ?_
  rw [ef]
  have d1 := hp.dp
  have d2 := hq.dp
  have p12 : Pcs 12 p := pcs_mono (by decide) hp.pcs
  have q12 : Pcs 12 q := pcs_mono (by decide) hq.pcs
  have c12 : Pce 12 pc.1 := ⟨hc.up, hc.ne, by have := hc.len; omega, hc.sm⟩
  have dph := dp_ph p q
  have e0 : ofOpt (atI [fD p, fD q] (0 : Int)) = .ok (fD p) := rfl
  have e1 : ofOpt (atI [fD p, fD q] (1 : Int)) = .ok (fD q) := rfl
  have e2 := plan_ok 16 p (by omega)
  have e3 := plan_ok 16 q (by omega)
  have e4 := asked_ok (o := p) (p := q) (by omega) (by omega)
  have e5 := law_put_ok p 20 q (by omega)
  have e6 := good_ok (p := ph p q) (by omega) (pcs_ph p12 q q12)
  have e7 := asked1_ok (p := p) (q := pc.1) (by omega)
  have e8 : m_law_good (fnd (.grow pc.1 (.eat pc.1 p))) (Dy.tup [Dy.str ("grow" : Str), fT pc.1, Dy.tup [Dy.str ("eat" : Str), fT pc.1, fD p]]) = .ok true := good_ok (p := .grow pc.1 (.eat pc.1 p)) (by show dp p + 1 + 1 < 60; omega) ⟨c12, c12, p12⟩
  have e9 := asked2_ok (p := p) (q := pc.1) (by omega)
  have e10 : m_law_good (fnd (.eat pc.1 (.grow pc.1 p))) (Dy.tup [Dy.str ("eat" : Str), fT pc.1, Dy.tup [Dy.str ("grow" : Str), fT pc.1, fD p]]) = .ok true := good_ok (p := .eat pc.1 (.grow pc.1 p)) (by show dp p + 1 + 1 < 60; omega) ⟨c12, c12, p12⟩
  have e11 := words_ok 60 p (by omega) (by omega) p12
  have e12 := law_words_ok 60 p (by omega) (by omega) p12
  have e13 := words_ok 60 q (by omega) (by omega) q12
  have e14 := law_words_ok 60 q (by omega) (by omega) q12
  have e15 := w_ne hp
  have e16 := w_ne hq
  refine Gd.eqB (a := p) (by simp only [e0, ok_bindP, e2]) (Gd.eqB (a := q) (by simp only [e1, ok_bindP, e3]) (Gd.eqB e4 ?_))
  refine Gd.eqB (a := false) (by simp only [e0, e1, ok_bindP, e5, e6, Bool.not_true]) (Gd.ite (fun h => by cases h) fun _ => ?_)
  refine Gd.eqB (a := false) ?_ (Gd.ite (fun h => by cases h) fun _ => ?_)
  · by_cases t : tb (ph p q) = true
    · have : fnd (ph p q) = .inl ("many" : Str) := if_pos t
      rw [this]
      rfl
    · have : fnd (ph p q) = .inr (ph p q) := if_neg t
      rw [this]
      show R.bind (m_law_behind p q (ph p q) sh.1) _ = _
      rw [behind_ok hp hq hS]
      rfl
  refine Gd.eqB (a := false) (by simp only [e7, e0, ok_bindP, e8, Bool.not_true]) (Gd.ite (fun h => by cases h) fun _ => ?_)
  refine Gd.eqB (a := false) (by simp only [e9, e0, ok_bindP, e10, Bool.not_true]) (Gd.ite (fun h => by cases h) fun _ => ?_)
  refine Gd.eqB (a := false) ?_ (Gd.ite (fun h => by cases h) fun _ => Gd.nx trivial)
  simp only [e0, e1, e11, e12, e13, e14, e15, e16, ok_bindP, Bool.false_eq_true, if_false]
end G

namespace G
open PySem PySem.Spec PyProof.Rows L2 Py
def dd_law_deal : He.DefD := ⟨("_law_deal", none), "_law_deal", "_law_deal", defArgs s_law_deal, defBody s_law_deal, defScope s_law_deal, [], []⟩
def dd_law_take : He.DefD := ⟨("_law_take", none), "_law_take", "_law_take", defArgs s_law_take, defBody s_law_take, defScope s_law_take, [], []⟩
def dd_law_step : He.DefD := ⟨("_law_step", none), "_law_step", "_law_step", defArgs s_law_step, defBody s_law_step, defScope s_law_step, [], []⟩
def dd_law_piece : He.DefD := ⟨("_law_piece", none), "_law_piece", "_law_piece", defArgs s_law_piece, defBody s_law_piece, defScope s_law_piece, [], []⟩
def dd_law_chain : He.DefD := ⟨("_law_chain", none), "_law_chain", "_law_chain", defArgs s_law_chain, defBody s_law_chain, defScope s_law_chain, [], []⟩
def dd_law_tree : He.DefD := ⟨("_law_tree", none), "_law_tree", "_law_tree", defArgs s_law_tree, defBody s_law_tree, defScope s_law_tree, [], []⟩
def dd_law_form : He.DefD := ⟨("_law_form", none), "_law_form", "_law_form", defArgs s_law_form, defBody s_law_form, defScope s_law_form, [], []⟩
def dd_law_two : He.DefD := ⟨("_law_two", none), "_law_two", "_law_two", defArgs s_law_two, defBody s_law_two, defScope s_law_two, [], []⟩
def dd_law_shape : He.DefD := ⟨("_law_shape", none), "_law_shape", "_law_shape", defArgs s_law_shape, defBody s_law_shape, defScope s_law_shape, [], []⟩
def dd_law_plan : He.DefD := ⟨("_law_plan", none), "_law_plan", "_law_plan", defArgs s_law_plan, defBody s_law_plan, defScope s_law_plan, [], []⟩
def ddKeep_put_behind : He.DefD := ⟨("Keep", some "put_behind"), "put_behind", "Keep.put_behind", defArgs sKeep_put_behind, defBody sKeep_put_behind, defScope sKeep_put_behind, [], []⟩
def ddPlan_put_behind : He.DefD := ⟨("Nothing", some "put_behind"), "put_behind", "Plan.put_behind", defArgs sPlan_put_behind, defBody sPlan_put_behind, defScope sPlan_put_behind, [], []⟩
def ddMove_put_behind : He.DefD := ⟨("Move", some "put_behind"), "put_behind", "Move.put_behind", defArgs sMove_put_behind, defBody sMove_put_behind, defScope sMove_put_behind, [], []⟩
def ddEat_put_behind : He.DefD := ⟨("Eat", some "put_behind"), "put_behind", "Eat.put_behind", defArgs sEat_put_behind, defBody sEat_put_behind, defScope sEat_put_behind, [], []⟩
def ddGrow_put_behind : He.DefD := ⟨("Grow", some "put_behind"), "put_behind", "Grow.put_behind", defArgs sGrow_put_behind, defBody sGrow_put_behind, defScope sGrow_put_behind, [], []⟩
def ddBoth_put_behind : He.DefD := ⟨("Both", some "put_behind"), "put_behind", "Both.put_behind", defArgs sBoth_put_behind, defBody sBoth_put_behind, defScope sBoth_put_behind, [], []⟩
def ddEither_put_behind : He.DefD := ⟨("Either", some "put_behind"), "put_behind", "Either.put_behind", defArgs sEither_put_behind, defBody sEither_put_behind, defScope sEither_put_behind, [], []⟩
def ddPlan_parts_in : He.DefD := ⟨("Keep", some "parts_in"), "parts_in", "Plan.parts_in", defArgs sPlan_parts_in, defBody sPlan_parts_in, defScope sPlan_parts_in, [], []⟩
def ddMove_parts_in : He.DefD := ⟨("Move", some "parts_in"), "parts_in", "Move.parts_in", defArgs sMove_parts_in, defBody sMove_parts_in, defScope sMove_parts_in, [], []⟩
def ddEat_parts_in : He.DefD := ⟨("Eat", some "parts_in"), "parts_in", "Eat.parts_in", defArgs sEat_parts_in, defBody sEat_parts_in, defScope sEat_parts_in, [], []⟩
def ddGrow_parts_in : He.DefD := ⟨("Grow", some "parts_in"), "parts_in", "Grow.parts_in", defArgs sGrow_parts_in, defBody sGrow_parts_in, defScope sGrow_parts_in, [], []⟩
def ddBoth_parts_in : He.DefD := ⟨("Both", some "parts_in"), "parts_in", "Both.parts_in", defArgs sBoth_parts_in, defBody sBoth_parts_in, defScope sBoth_parts_in, [], []⟩
def ddEither_parts_in : He.DefD := ⟨("Either", some "parts_in"), "parts_in", "Either.parts_in", defArgs sEither_parts_in, defBody sEither_parts_in, defScope sEither_parts_in, [], []⟩
def ddmany_in : He.DefD := ⟨("many_in", none), "many_in", "many_in", defArgs smany_in, defBody smany_in, defScope smany_in, [], []⟩
def dddeep : He.DefD := ⟨("deep", none), "deep", "deep", defArgs sdeep, defBody sdeep, defScope sdeep, [], []⟩
def ddlet_by : He.DefD := ⟨("let_by", none), "let_by", "let_by", defArgs slet_by, defBody slet_by, defScope slet_by, [], []⟩
def ddafter : He.DefD := ⟨("after", none), "after", "after", defArgs safter, defBody safter, defScope safter, [], []⟩
def dd_law_kind : He.DefD := ⟨("_law_kind", none), "_law_kind", "_law_kind", defArgs s_law_kind, defBody s_law_kind, defScope s_law_kind, [], []⟩
def dd_law_asked : He.DefD := ⟨("_law_asked", none), "_law_asked", "_law_asked", defArgs s_law_asked, defBody s_law_asked, defScope s_law_asked, [], []⟩
def dd_law_put : He.DefD := ⟨("_law_put", none), "_law_put", "_law_put", defArgs s_law_put, defBody s_law_put, defScope s_law_put, [], []⟩
def dd_law_parts : He.DefD := ⟨("_law_parts", none), "_law_parts", "_law_parts", defArgs s_law_parts, defBody s_law_parts, defScope s_law_parts, [], []⟩
def dd_law_many : He.DefD := ⟨("_law_many", none), "_law_many", "_law_many", defArgs s_law_many, defBody s_law_many, defScope s_law_many, [], []⟩
def dd_law_deep : He.DefD := ⟨("_law_deep", none), "_law_deep", "_law_deep", defArgs s_law_deep, defBody s_law_deep, defScope s_law_deep, [], []⟩
def ddKeep_words : He.DefD := ⟨("Keep", some "words"), "words", "Keep.words", defArgs sKeep_words, defBody sKeep_words, defScope sKeep_words, [], []⟩
def ddNothing_words : He.DefD := ⟨("Nothing", some "words"), "words", "Nothing.words", defArgs sNothing_words, defBody sNothing_words, defScope sNothing_words, [], []⟩
def ddEverything_words : He.DefD := ⟨("Everything", some "words"), "words", "Everything.words", defArgs sEverything_words, defBody sEverything_words, defScope sEverything_words, [], []⟩
def ddstep_words : He.DefD := ⟨("step_words", none), "step_words", "step_words", defArgs sstep_words, defBody sstep_words, defScope sstep_words, [], []⟩
def ddMove_words : He.DefD := ⟨("Move", some "words"), "words", "Move.words", defArgs sMove_words, defBody sMove_words, defScope sMove_words, [], []⟩
def ddEat_words : He.DefD := ⟨("Eat", some "words"), "words", "Eat.words", defArgs sEat_words, defBody sEat_words, defScope sEat_words, [], []⟩
def ddGrow_words : He.DefD := ⟨("Grow", some "words"), "words", "Grow.words", defArgs sGrow_words, defBody sGrow_words, defScope sGrow_words, [], []⟩
def ddBoth_words : He.DefD := ⟨("Both", some "words"), "words", "Both.words", defArgs sBoth_words, defBody sBoth_words, defScope sBoth_words, [], []⟩
def ddEither_words : He.DefD := ⟨("Either", some "words"), "words", "Either.words", defArgs sEither_words, defBody sEither_words, defScope sEither_words, [], []⟩
def dd_law_words : He.DefD := ⟨("_law_words", none), "_law_words", "_law_words", defArgs s_law_words, defBody s_law_words, defScope s_law_words, [], []⟩
def dd_law_same : He.DefD := ⟨("_law_same", none), "_law_same", "_law_same", defArgs s_law_same, defBody s_law_same, defScope s_law_same, [], []⟩
def dd_law_good : He.DefD := ⟨("_law_good", none), "_law_good", "_law_good", defArgs s_law_good, defBody s_law_good, defScope s_law_good, [], []⟩
def ddPlan_made : He.DefD := ⟨("Keep", some "made"), "made", "Plan.made", defArgs sPlan_made, defBody sPlan_made, defScope sPlan_made, [], []⟩
def ddNothing_made : He.DefD := ⟨("Nothing", some "made"), "made", "Nothing.made", defArgs sNothing_made, defBody sNothing_made, defScope sNothing_made, [], []⟩
def ddEverything_made : He.DefD := ⟨("Everything", some "made"), "made", "Everything.made", defArgs sEverything_made, defBody sEverything_made, defScope sEverything_made, [], []⟩
def ddmoved_cell : He.DefD := ⟨("moved_cell", none), "moved_cell", "moved_cell", defArgs smoved_cell, defBody smoved_cell, defScope smoved_cell, [], []⟩
def ddmoved : He.DefD := ⟨("moved", none), "moved", "moved", defArgs smoved, defBody smoved, defScope smoved, [], []⟩
def ddMove_made : He.DefD := ⟨("Move", some "made"), "made", "Move.made", defArgs sMove_made, defBody sMove_made, defScope sMove_made, [], []⟩
def ddrising : He.DefD := ⟨("rising", none), "rising", "rising", defArgs srising, defBody srising, defScope srising, [], []⟩
def ddmirrored : He.DefD := ⟨("mirrored", none), "mirrored", "mirrored", defArgs smirrored, defBody smirrored, defScope smirrored, [], []⟩
def ddlies_on : He.DefD := ⟨("lies_on", none), "lies_on", "lies_on", defArgs slies_on, defBody slies_on, defScope slies_on, [], []⟩
def ddreached : He.DefD := ⟨("reached", none), "reached", "reached", defArgs sreached, defBody sreached, defScope sreached, [], []⟩
def ddless_cell : He.DefD := ⟨("less_cell", none), "less_cell", "less_cell", defArgs sless_cell, defBody sless_cell, defScope sless_cell, [], []⟩
def ddkept_at : He.DefD := ⟨("kept_at", none), "kept_at", "kept_at", defArgs skept_at, defBody skept_at, defScope skept_at, [], []⟩
def ddeaten : He.DefD := ⟨("eaten", none), "eaten", "eaten", defArgs seaten, defBody seaten, defScope seaten, [], []⟩
def ddEat_made : He.DefD := ⟨("Eat", some "made"), "made", "Eat.made", defArgs sEat_made, defBody sEat_made, defScope sEat_made, [], []⟩
def ddgrown : He.DefD := ⟨("grown", none), "grown", "grown", defArgs sgrown, defBody sgrown, defScope sgrown, [], []⟩
def ddGrow_made : He.DefD := ⟨("Grow", some "made"), "made", "Grow.made", defArgs sGrow_made, defBody sGrow_made, defScope sGrow_made, [], []⟩
def ddonly_in : He.DefD := ⟨("only_in", none), "only_in", "only_in", defArgs sonly_in, defBody sonly_in, defScope sonly_in, [], []⟩
def ddboth : He.DefD := ⟨("both", none), "both", "both", defArgs sboth, defBody sboth, defScope sboth, [], []⟩
def ddBoth_made : He.DefD := ⟨("Both", some "made"), "made", "Both.made", defArgs sBoth_made, defBody sBoth_made, defScope sBoth_made, [], []⟩
def ddoutside : He.DefD := ⟨("outside", none), "outside", "outside", defArgs soutside, defBody soutside, defScope soutside, [], []⟩
def ddeither : He.DefD := ⟨("either", none), "either", "either", defArgs seither, defBody seither, defScope seither, [], []⟩
def ddEither_made : He.DefD := ⟨("Either", some "made"), "made", "Either.made", defArgs sEither_made, defBody sEither_made, defScope sEither_made, [], []⟩
def ddPlan_done : He.DefD := ⟨("Keep", some "done"), "done", "Plan.done", defArgs sPlan_done, defBody sPlan_done, defScope sPlan_done, [], []⟩
def dd_law_done : He.DefD := ⟨("_law_done", none), "_law_done", "_law_done", defArgs s_law_done, defBody s_law_done, defScope s_law_done, [], []⟩
def dd_law_behind : He.DefD := ⟨("_law_behind", none), "_law_behind", "_law_behind", defArgs s_law_behind, defBody s_law_behind, defScope s_law_behind, [], []⟩
def ddopening : He.DefD := ⟨("opening", none), "opening", "opening", defArgs sopening, defBody sopening, defScope sopening, [], []⟩
def ddclosing : He.DefD := ⟨("closing", none), "closing", "closing", defArgs sclosing, defBody sclosing, defScope sclosing, [], []⟩
def ddlaw : He.DefD := ⟨("law", none), "law", "law", defArgs slaw, defBody slaw, defScope slaw, [], []⟩
def ddMove___init__ : He.DefD := ⟨("Move", some "__init__"), "__init__", "Move.__init__", defArgs sMove___init__, defBody sMove___init__, defScope sMove___init__, [], []⟩
def ddEat___init__ : He.DefD := ⟨("Eat", some "__init__"), "__init__", "Eat.__init__", defArgs sEat___init__, defBody sEat___init__, defScope sEat___init__, [], []⟩
def ddGrow___init__ : He.DefD := ⟨("Grow", some "__init__"), "__init__", "Grow.__init__", defArgs sGrow___init__, defBody sGrow___init__, defScope sGrow___init__, [], []⟩
def ddBoth___init__ : He.DefD := ⟨("Both", some "__init__"), "__init__", "Both.__init__", defArgs sBoth___init__, defBody sBoth___init__, defScope sBoth___init__, [], []⟩
def ddEither___init__ : He.DefD := ⟨("Either", some "__init__"), "__init__", "Either.__init__", defArgs sEither___init__, defBody sEither___init__, defScope sEither___init__, [], []⟩
def fnl0 : List He.DefD := [dd_law_deal, dd_law_take, dd_law_step, dd_law_piece, dd_law_chain, dd_law_tree, dd_law_form, dd_law_two, dd_law_shape, dd_law_plan, ddKeep_put_behind, ddPlan_put_behind, ddMove_put_behind, ddEat_put_behind, ddGrow_put_behind, ddBoth_put_behind]
def fnl1 : List He.DefD := [ddEither_put_behind, ddPlan_parts_in, ddMove_parts_in, ddEat_parts_in, ddGrow_parts_in, ddBoth_parts_in, ddEither_parts_in, ddmany_in, dddeep, ddlet_by, ddafter, dd_law_kind, dd_law_asked, dd_law_put, dd_law_parts, dd_law_many]
def fnl2 : List He.DefD := [dd_law_deep, ddKeep_words, ddNothing_words, ddEverything_words, ddstep_words, ddMove_words, ddEat_words, ddGrow_words, ddBoth_words, ddEither_words, dd_law_words, dd_law_same, dd_law_good, ddPlan_made, ddNothing_made, ddEverything_made]
def fnl3 : List He.DefD := [ddmoved_cell, ddmoved, ddMove_made, ddrising, ddmirrored, ddlies_on, ddreached, ddless_cell, ddkept_at, ddeaten, ddEat_made, ddgrown, ddGrow_made, ddonly_in, ddboth, ddBoth_made]
def fnl4 : List He.DefD := [ddoutside, ddeither, ddEither_made, ddPlan_done, dd_law_done, dd_law_behind, ddopening, ddclosing, ddlaw, ddMove___init__, ddEat___init__, ddGrow___init__, ddBoth___init__, ddEither___init__]
def fnl : List He.DefD := fnl0 ++ fnl1 ++ fnl2 ++ fnl3 ++ fnl4
def fal0 : List He.Fa := [.glo "BadCell", .glo "BadPiece", .glo "Both", .glo "Eat", .glo "Either", .glo "Everything", .glo "Grow", .glo "Keep", .glo "MossError", .glo "Move", .glo "Nothing", .glo "TooMany", .glo "_law_deal", .glo "_law_take", .glo "_law_step", .glo "_law_piece"]
def fal1 : List He.Fa := [.glo "_law_chain", .glo "_law_tree", .glo "_law_form", .glo "_law_two", .glo "_law_shape", .glo "_law_plan", .glo "many_in", .glo "deep", .glo "let_by", .glo "after", .glo "_law_kind", .glo "_law_asked", .glo "_law_put", .glo "_law_parts", .glo "_law_many", .glo "_law_deep"]
def fal2 : List He.Fa := [.glo "step_words", .glo "_law_words", .glo "_law_same", .glo "_law_good", .glo "moved_cell", .glo "moved", .glo "rising", .glo "mirrored", .glo "lies_on", .glo "reached", .glo "less_cell", .glo "kept_at", .glo "eaten", .glo "grown", .glo "only_in", .glo "both"]
def fal3 : List He.Fa := [.glo "outside", .glo "either", .glo "_law_done", .glo "_law_behind", .glo "opening", .glo "closing", .glo "law", .free "ValueError", .free "all", .free "bool", .free "int", .free "isinstance", .free "len", .free "list", .free "max", .free "min"]
def fal4 : List He.Fa := [.free "range", .free "set", .free "sorted", .free "str", .free "sum", .free "tuple", .free "zip", .int "DEEPEST" 12, .int "MOST_MADE" 2000, .int "MOST_PLANS" 40]
def fal : List He.Fa := fal0 ++ fal1 ++ fal2 ++ fal3 ++ fal4
def exl0 (K : PySem.W.Frag) : Bool := decide (PySem.W.isFn K (.ref (He.ma K (He.ga K "Keep") "put_behind")) = true) &&
  (decide (PySem.W.isFn K (.ref (He.ma K (He.ga K "Nothing") "put_behind")) = true) &&
  (decide (PySem.W.isFn K (.ref (He.ma K (He.ga K "Move") "put_behind")) = true) &&
  (decide (PySem.W.isFn K (.ref (He.ma K (He.ga K "Eat") "put_behind")) = true) &&
  (decide (PySem.W.isFn K (.ref (He.ma K (He.ga K "Grow") "put_behind")) = true) &&
  (decide (PySem.W.isFn K (.ref (He.ma K (He.ga K "Both") "put_behind")) = true) &&
  (decide (PySem.W.isFn K (.ref (He.ma K (He.ga K "Either") "put_behind")) = true) &&
  (decide (PySem.W.isFn K (.ref (He.ma K (He.ga K "Keep") "parts_in")) = true) &&
  (decide (PySem.W.isFn K (.ref (He.ma K (He.ga K "Move") "parts_in")) = true) &&
  (decide (PySem.W.isFn K (.ref (He.ma K (He.ga K "Eat") "parts_in")) = true) &&
  (decide (PySem.W.isFn K (.ref (He.ma K (He.ga K "Grow") "parts_in")) = true) &&
  (decide (PySem.W.isFn K (.ref (He.ma K (He.ga K "Both") "parts_in")) = true) &&
  (decide (PySem.W.isFn K (.ref (He.ma K (He.ga K "Either") "parts_in")) = true) &&
  (decide (PySem.W.isFn K (.ref (He.ma K (He.ga K "Keep") "words")) = true) &&
  (decide (PySem.W.isFn K (.ref (He.ma K (He.ga K "Nothing") "words")) = true) &&
  (decide (PySem.W.isFn K (.ref (He.ma K (He.ga K "Everything") "words")) = true) &&
  (true))))))))))))))))
def exl1 (K : PySem.W.Frag) : Bool := decide (PySem.W.isFn K (.ref (He.ma K (He.ga K "Move") "words")) = true) &&
  (decide (PySem.W.isFn K (.ref (He.ma K (He.ga K "Eat") "words")) = true) &&
  (decide (PySem.W.isFn K (.ref (He.ma K (He.ga K "Grow") "words")) = true) &&
  (decide (PySem.W.isFn K (.ref (He.ma K (He.ga K "Both") "words")) = true) &&
  (decide (PySem.W.isFn K (.ref (He.ma K (He.ga K "Either") "words")) = true) &&
  (decide (PySem.W.isFn K (.ref (He.ma K (He.ga K "Keep") "made")) = true) &&
  (decide (PySem.W.isFn K (.ref (He.ma K (He.ga K "Nothing") "made")) = true) &&
  (decide (PySem.W.isFn K (.ref (He.ma K (He.ga K "Everything") "made")) = true) &&
  (decide (PySem.W.isFn K (.ref (He.ma K (He.ga K "Move") "made")) = true) &&
  (decide (PySem.W.isFn K (.ref (He.ma K (He.ga K "Eat") "made")) = true) &&
  (decide (PySem.W.isFn K (.ref (He.ma K (He.ga K "Grow") "made")) = true) &&
  (decide (PySem.W.isFn K (.ref (He.ma K (He.ga K "Both") "made")) = true) &&
  (decide (PySem.W.isFn K (.ref (He.ma K (He.ga K "Either") "made")) = true) &&
  (decide (PySem.W.isFn K (.ref (He.ma K (He.ga K "Keep") "done")) = true) &&
  (decide (PySem.W.isFn K (.ref (He.ma K (He.ga K "Move") "__init__")) = true) &&
  (decide (PySem.W.isFn K (.ref (He.ma K (He.ga K "Eat") "__init__")) = true) &&
  (true))))))))))))))))
def exl2 (K : PySem.W.Frag) : Bool := decide (PySem.W.isFn K (.ref (He.ma K (He.ga K "Grow") "__init__")) = true) &&
  (decide (PySem.W.isFn K (.ref (He.ma K (He.ga K "Both") "__init__")) = true) &&
  (decide (PySem.W.isFn K (.ref (He.ma K (He.ga K "Either") "__init__")) = true) &&
  (decide (PySem.W.plainGet K (He.ga K "Keep") Str.empty = true) &&
  (decide (PySem.W.hasDictIn K (He.ga K "Keep") = true) &&
  (decide (PySem.W.plainOver K (He.ga K "Keep") = true) &&
  (decide (PySem.W.findIn K (.ref (He.ga K "Keep")) "__setattr__" = some (some (.builtin "object.__setattr__"))) &&
  (decide (PySem.W.findIn K (.ref (He.ga K "Keep")) "__class__" = some (some (.builtin "object.__class__"))) &&
  (decide (PySem.W.mroIn K (He.ga K "Keep") (.type "object") = some true) &&
  (decide (PySem.W.findIn K (.ref (He.ga K "Keep")) "step" = some none) &&
  (decide (PySem.W.findIn K (.ref (He.ga K "Keep")) "plan" = some none) &&
  (decide (PySem.W.findIn K (.ref (He.ga K "Keep")) "piece" = some none) &&
  (decide (PySem.W.findIn K (.ref (He.ga K "Keep")) "one" = some none) &&
  (decide (PySem.W.findIn K (.ref (He.ga K "Keep")) "other" = some none) &&
  (decide (PySem.W.makesIn K (He.ga K "Keep") = true) &&
  (decide (PySem.W.keepIn K (.ref (He.ga K "Keep")) = true) &&
  (true))))))))))))))))
def exl3 (K : PySem.W.Frag) : Bool := decide (PySem.W.findIn K (.ref (He.ga K "Keep")) "__init__" = some (some (.builtin "object.__init__"))) &&
  (decide (PySem.W.plainGet K (He.ga K "Nothing") Str.empty = true) &&
  (decide (PySem.W.hasDictIn K (He.ga K "Nothing") = true) &&
  (decide (PySem.W.plainOver K (He.ga K "Nothing") = true) &&
  (decide (PySem.W.findIn K (.ref (He.ga K "Nothing")) "__setattr__" = some (some (.builtin "object.__setattr__"))) &&
  (decide (PySem.W.findIn K (.ref (He.ga K "Nothing")) "__class__" = some (some (.builtin "object.__class__"))) &&
  (decide (PySem.W.mroIn K (He.ga K "Nothing") (.type "object") = some true) &&
  (decide (PySem.W.findIn K (.ref (He.ga K "Nothing")) "step" = some none) &&
  (decide (PySem.W.findIn K (.ref (He.ga K "Nothing")) "plan" = some none) &&
  (decide (PySem.W.findIn K (.ref (He.ga K "Nothing")) "piece" = some none) &&
  (decide (PySem.W.findIn K (.ref (He.ga K "Nothing")) "one" = some none) &&
  (decide (PySem.W.findIn K (.ref (He.ga K "Nothing")) "other" = some none) &&
  (decide (PySem.W.makesIn K (He.ga K "Nothing") = true) &&
  (decide (PySem.W.keepIn K (.ref (He.ga K "Nothing")) = true) &&
  (decide (PySem.W.findIn K (.ref (He.ga K "Nothing")) "__init__" = some (some (.builtin "object.__init__"))) &&
  (decide (PySem.W.plainGet K (He.ga K "Everything") Str.empty = true) &&
  (true))))))))))))))))
def exl4 (K : PySem.W.Frag) : Bool := decide (PySem.W.hasDictIn K (He.ga K "Everything") = true) &&
  (decide (PySem.W.plainOver K (He.ga K "Everything") = true) &&
  (decide (PySem.W.findIn K (.ref (He.ga K "Everything")) "__setattr__" = some (some (.builtin "object.__setattr__"))) &&
  (decide (PySem.W.findIn K (.ref (He.ga K "Everything")) "__class__" = some (some (.builtin "object.__class__"))) &&
  (decide (PySem.W.mroIn K (He.ga K "Everything") (.type "object") = some true) &&
  (decide (PySem.W.findIn K (.ref (He.ga K "Everything")) "step" = some none) &&
  (decide (PySem.W.findIn K (.ref (He.ga K "Everything")) "plan" = some none) &&
  (decide (PySem.W.findIn K (.ref (He.ga K "Everything")) "piece" = some none) &&
  (decide (PySem.W.findIn K (.ref (He.ga K "Everything")) "one" = some none) &&
  (decide (PySem.W.findIn K (.ref (He.ga K "Everything")) "other" = some none) &&
  (decide (PySem.W.makesIn K (He.ga K "Everything") = true) &&
  (decide (PySem.W.keepIn K (.ref (He.ga K "Everything")) = true) &&
  (decide (PySem.W.findIn K (.ref (He.ga K "Everything")) "__init__" = some (some (.builtin "object.__init__"))) &&
  (decide (PySem.W.plainGet K (He.ga K "Move") Str.empty = true) &&
  (decide (PySem.W.hasDictIn K (He.ga K "Move") = true) &&
  (decide (PySem.W.plainOver K (He.ga K "Move") = true) &&
  (true))))))))))))))))
def exl5 (K : PySem.W.Frag) : Bool := decide (PySem.W.findIn K (.ref (He.ga K "Move")) "__setattr__" = some (some (.builtin "object.__setattr__"))) &&
  (decide (PySem.W.findIn K (.ref (He.ga K "Move")) "__class__" = some (some (.builtin "object.__class__"))) &&
  (decide (PySem.W.mroIn K (He.ga K "Move") (.type "object") = some true) &&
  (decide (PySem.W.findIn K (.ref (He.ga K "Move")) "step" = some none) &&
  (decide (PySem.W.findIn K (.ref (He.ga K "Move")) "plan" = some none) &&
  (decide (PySem.W.findIn K (.ref (He.ga K "Move")) "piece" = some none) &&
  (decide (PySem.W.findIn K (.ref (He.ga K "Move")) "one" = some none) &&
  (decide (PySem.W.findIn K (.ref (He.ga K "Move")) "other" = some none) &&
  (decide (PySem.W.makesIn K (He.ga K "Move") = true) &&
  (decide (PySem.W.keepIn K (.ref (He.ga K "Move")) = true) &&
  (decide (PySem.W.findIn K (.ref (He.ga K "Move")) "__init__" = some (some (.ref (He.ma K (He.ga K "Move") "__init__")))) &&
  (decide (PySem.W.plainGet K (He.ga K "Eat") Str.empty = true) &&
  (decide (PySem.W.hasDictIn K (He.ga K "Eat") = true) &&
  (decide (PySem.W.plainOver K (He.ga K "Eat") = true) &&
  (decide (PySem.W.findIn K (.ref (He.ga K "Eat")) "__setattr__" = some (some (.builtin "object.__setattr__"))) &&
  (decide (PySem.W.findIn K (.ref (He.ga K "Eat")) "__class__" = some (some (.builtin "object.__class__"))) &&
  (true))))))))))))))))
def exl6 (K : PySem.W.Frag) : Bool := decide (PySem.W.mroIn K (He.ga K "Eat") (.type "object") = some true) &&
  (decide (PySem.W.findIn K (.ref (He.ga K "Eat")) "step" = some none) &&
  (decide (PySem.W.findIn K (.ref (He.ga K "Eat")) "plan" = some none) &&
  (decide (PySem.W.findIn K (.ref (He.ga K "Eat")) "piece" = some none) &&
  (decide (PySem.W.findIn K (.ref (He.ga K "Eat")) "one" = some none) &&
  (decide (PySem.W.findIn K (.ref (He.ga K "Eat")) "other" = some none) &&
  (decide (PySem.W.makesIn K (He.ga K "Eat") = true) &&
  (decide (PySem.W.keepIn K (.ref (He.ga K "Eat")) = true) &&
  (decide (PySem.W.findIn K (.ref (He.ga K "Eat")) "__init__" = some (some (.ref (He.ma K (He.ga K "Eat") "__init__")))) &&
  (decide (PySem.W.plainGet K (He.ga K "Grow") Str.empty = true) &&
  (decide (PySem.W.hasDictIn K (He.ga K "Grow") = true) &&
  (decide (PySem.W.plainOver K (He.ga K "Grow") = true) &&
  (decide (PySem.W.findIn K (.ref (He.ga K "Grow")) "__setattr__" = some (some (.builtin "object.__setattr__"))) &&
  (decide (PySem.W.findIn K (.ref (He.ga K "Grow")) "__class__" = some (some (.builtin "object.__class__"))) &&
  (decide (PySem.W.mroIn K (He.ga K "Grow") (.type "object") = some true) &&
  (decide (PySem.W.findIn K (.ref (He.ga K "Grow")) "step" = some none) &&
  (true))))))))))))))))
def exl7 (K : PySem.W.Frag) : Bool := decide (PySem.W.findIn K (.ref (He.ga K "Grow")) "plan" = some none) &&
  (decide (PySem.W.findIn K (.ref (He.ga K "Grow")) "piece" = some none) &&
  (decide (PySem.W.findIn K (.ref (He.ga K "Grow")) "one" = some none) &&
  (decide (PySem.W.findIn K (.ref (He.ga K "Grow")) "other" = some none) &&
  (decide (PySem.W.makesIn K (He.ga K "Grow") = true) &&
  (decide (PySem.W.keepIn K (.ref (He.ga K "Grow")) = true) &&
  (decide (PySem.W.findIn K (.ref (He.ga K "Grow")) "__init__" = some (some (.ref (He.ma K (He.ga K "Grow") "__init__")))) &&
  (decide (PySem.W.plainGet K (He.ga K "Both") Str.empty = true) &&
  (decide (PySem.W.hasDictIn K (He.ga K "Both") = true) &&
  (decide (PySem.W.plainOver K (He.ga K "Both") = true) &&
  (decide (PySem.W.findIn K (.ref (He.ga K "Both")) "__setattr__" = some (some (.builtin "object.__setattr__"))) &&
  (decide (PySem.W.findIn K (.ref (He.ga K "Both")) "__class__" = some (some (.builtin "object.__class__"))) &&
  (decide (PySem.W.mroIn K (He.ga K "Both") (.type "object") = some true) &&
  (decide (PySem.W.findIn K (.ref (He.ga K "Both")) "step" = some none) &&
  (decide (PySem.W.findIn K (.ref (He.ga K "Both")) "plan" = some none) &&
  (decide (PySem.W.findIn K (.ref (He.ga K "Both")) "piece" = some none) &&
  (true))))))))))))))))
def exl8 (K : PySem.W.Frag) : Bool := decide (PySem.W.findIn K (.ref (He.ga K "Both")) "one" = some none) &&
  (decide (PySem.W.findIn K (.ref (He.ga K "Both")) "other" = some none) &&
  (decide (PySem.W.makesIn K (He.ga K "Both") = true) &&
  (decide (PySem.W.keepIn K (.ref (He.ga K "Both")) = true) &&
  (decide (PySem.W.findIn K (.ref (He.ga K "Both")) "__init__" = some (some (.ref (He.ma K (He.ga K "Both") "__init__")))) &&
  (decide (PySem.W.plainGet K (He.ga K "Either") Str.empty = true) &&
  (decide (PySem.W.hasDictIn K (He.ga K "Either") = true) &&
  (decide (PySem.W.plainOver K (He.ga K "Either") = true) &&
  (decide (PySem.W.findIn K (.ref (He.ga K "Either")) "__setattr__" = some (some (.builtin "object.__setattr__"))) &&
  (decide (PySem.W.findIn K (.ref (He.ga K "Either")) "__class__" = some (some (.builtin "object.__class__"))) &&
  (decide (PySem.W.mroIn K (He.ga K "Either") (.type "object") = some true) &&
  (decide (PySem.W.findIn K (.ref (He.ga K "Either")) "step" = some none) &&
  (decide (PySem.W.findIn K (.ref (He.ga K "Either")) "plan" = some none) &&
  (decide (PySem.W.findIn K (.ref (He.ga K "Either")) "piece" = some none) &&
  (decide (PySem.W.findIn K (.ref (He.ga K "Either")) "one" = some none) &&
  (decide (PySem.W.findIn K (.ref (He.ga K "Either")) "other" = some none) &&
  (true))))))))))))))))
def exl9 (K : PySem.W.Frag) : Bool := decide (PySem.W.makesIn K (He.ga K "Either") = true) &&
  (decide (PySem.W.keepIn K (.ref (He.ga K "Either")) = true) &&
  (decide (PySem.W.findIn K (.ref (He.ga K "Either")) "__init__" = some (some (.ref (He.ma K (He.ga K "Either") "__init__")))) &&
  (decide (PySem.W.specialIn K (.builtin "object.__class__") "__get__" = some (some (.builtin "getset_descriptor.__get__"))) &&
  (decide (PySem.W.takesIn K (.builtin "object.__class__") = some true) &&
  (decide (PySem.W.findIn K (.ref (He.ga K "Both")) "done" = some (some (.ref (He.ma K (He.ga K "Keep") "done")))) &&
  (decide (PySem.W.findIn K (.ref (He.ga K "Both")) "made" = some (some (.ref (He.ma K (He.ga K "Both") "made")))) &&
  (decide (PySem.W.findIn K (.ref (He.ga K "Both")) "parts_in" = some (some (.ref (He.ma K (He.ga K "Both") "parts_in")))) &&
  (decide (PySem.W.findIn K (.ref (He.ga K "Both")) "put_behind" = some (some (.ref (He.ma K (He.ga K "Both") "put_behind")))) &&
  (decide (PySem.W.findIn K (.ref (He.ga K "Both")) "words" = some (some (.ref (He.ma K (He.ga K "Both") "words")))) &&
  (decide (PySem.W.findIn K (.ref (He.ga K "Eat")) "done" = some (some (.ref (He.ma K (He.ga K "Keep") "done")))) &&
  (decide (PySem.W.findIn K (.ref (He.ga K "Eat")) "made" = some (some (.ref (He.ma K (He.ga K "Eat") "made")))) &&
  (decide (PySem.W.findIn K (.ref (He.ga K "Eat")) "parts_in" = some (some (.ref (He.ma K (He.ga K "Eat") "parts_in")))) &&
  (decide (PySem.W.findIn K (.ref (He.ga K "Eat")) "put_behind" = some (some (.ref (He.ma K (He.ga K "Eat") "put_behind")))) &&
  (decide (PySem.W.findIn K (.ref (He.ga K "Eat")) "words" = some (some (.ref (He.ma K (He.ga K "Eat") "words")))) &&
  (decide (PySem.W.findIn K (.ref (He.ga K "Either")) "done" = some (some (.ref (He.ma K (He.ga K "Keep") "done")))) &&
  (true))))))))))))))))
def exl10 (K : PySem.W.Frag) : Bool := decide (PySem.W.findIn K (.ref (He.ga K "Either")) "made" = some (some (.ref (He.ma K (He.ga K "Either") "made")))) &&
  (decide (PySem.W.findIn K (.ref (He.ga K "Either")) "parts_in" = some (some (.ref (He.ma K (He.ga K "Either") "parts_in")))) &&
  (decide (PySem.W.findIn K (.ref (He.ga K "Either")) "put_behind" = some (some (.ref (He.ma K (He.ga K "Either") "put_behind")))) &&
  (decide (PySem.W.findIn K (.ref (He.ga K "Either")) "words" = some (some (.ref (He.ma K (He.ga K "Either") "words")))) &&
  (decide (PySem.W.findIn K (.ref (He.ga K "Everything")) "done" = some (some (.ref (He.ma K (He.ga K "Keep") "done")))) &&
  (decide (PySem.W.findIn K (.ref (He.ga K "Everything")) "made" = some (some (.ref (He.ma K (He.ga K "Everything") "made")))) &&
  (decide (PySem.W.findIn K (.ref (He.ga K "Everything")) "parts_in" = some (some (.ref (He.ma K (He.ga K "Keep") "parts_in")))) &&
  (decide (PySem.W.findIn K (.ref (He.ga K "Everything")) "put_behind" = some (some (.ref (He.ma K (He.ga K "Nothing") "put_behind")))) &&
  (decide (PySem.W.findIn K (.ref (He.ga K "Everything")) "words" = some (some (.ref (He.ma K (He.ga K "Everything") "words")))) &&
  (decide (PySem.W.findIn K (.ref (He.ga K "Grow")) "done" = some (some (.ref (He.ma K (He.ga K "Keep") "done")))) &&
  (decide (PySem.W.findIn K (.ref (He.ga K "Grow")) "made" = some (some (.ref (He.ma K (He.ga K "Grow") "made")))) &&
  (decide (PySem.W.findIn K (.ref (He.ga K "Grow")) "parts_in" = some (some (.ref (He.ma K (He.ga K "Grow") "parts_in")))) &&
  (decide (PySem.W.findIn K (.ref (He.ga K "Grow")) "put_behind" = some (some (.ref (He.ma K (He.ga K "Grow") "put_behind")))) &&
  (decide (PySem.W.findIn K (.ref (He.ga K "Grow")) "words" = some (some (.ref (He.ma K (He.ga K "Grow") "words")))) &&
  (decide (PySem.W.findIn K (.ref (He.ga K "Keep")) "done" = some (some (.ref (He.ma K (He.ga K "Keep") "done")))) &&
  (decide (PySem.W.findIn K (.ref (He.ga K "Keep")) "made" = some (some (.ref (He.ma K (He.ga K "Keep") "made")))) &&
  (true))))))))))))))))
def exl11 (K : PySem.W.Frag) : Bool := decide (PySem.W.findIn K (.ref (He.ga K "Keep")) "parts_in" = some (some (.ref (He.ma K (He.ga K "Keep") "parts_in")))) &&
  (decide (PySem.W.findIn K (.ref (He.ga K "Keep")) "put_behind" = some (some (.ref (He.ma K (He.ga K "Keep") "put_behind")))) &&
  (decide (PySem.W.findIn K (.ref (He.ga K "Keep")) "words" = some (some (.ref (He.ma K (He.ga K "Keep") "words")))) &&
  (decide (PySem.W.findIn K (.ref (He.ga K "Move")) "done" = some (some (.ref (He.ma K (He.ga K "Keep") "done")))) &&
  (decide (PySem.W.findIn K (.ref (He.ga K "Move")) "made" = some (some (.ref (He.ma K (He.ga K "Move") "made")))) &&
  (decide (PySem.W.findIn K (.ref (He.ga K "Move")) "parts_in" = some (some (.ref (He.ma K (He.ga K "Move") "parts_in")))) &&
  (decide (PySem.W.findIn K (.ref (He.ga K "Move")) "put_behind" = some (some (.ref (He.ma K (He.ga K "Move") "put_behind")))) &&
  (decide (PySem.W.findIn K (.ref (He.ga K "Move")) "words" = some (some (.ref (He.ma K (He.ga K "Move") "words")))) &&
  (decide (PySem.W.findIn K (.ref (He.ga K "Nothing")) "done" = some (some (.ref (He.ma K (He.ga K "Keep") "done")))) &&
  (decide (PySem.W.findIn K (.ref (He.ga K "Nothing")) "made" = some (some (.ref (He.ma K (He.ga K "Nothing") "made")))) &&
  (decide (PySem.W.findIn K (.ref (He.ga K "Nothing")) "parts_in" = some (some (.ref (He.ma K (He.ga K "Keep") "parts_in")))) &&
  (decide (PySem.W.findIn K (.ref (He.ga K "Nothing")) "put_behind" = some (some (.ref (He.ma K (He.ga K "Nothing") "put_behind")))) &&
  (decide (PySem.W.findIn K (.ref (He.ga K "Nothing")) "words" = some (some (.ref (He.ma K (He.ga K "Nothing") "words")))) &&
  (decide (PySem.W.subIn K (.ref (He.ga K "MossError")) (.type "BaseException") = some true) &&
  (decide (PySem.W.hasDictIn K (He.ga K "MossError") = true) &&
  (decide (PySem.W.typeIn K (.ref (He.ga K "MossError")) = some (.type "type")) &&
  (true))))))))))))))))
def exl12 (K : PySem.W.Frag) : Bool := decide (PySem.W.subIn K (.ref (He.ga K "TooMany")) (.type "BaseException") = some true) &&
  (decide (PySem.W.hasDictIn K (He.ga K "TooMany") = true) &&
  (decide (PySem.W.typeIn K (.ref (He.ga K "TooMany")) = some (.type "type")) &&
  (decide (PySem.W.keepIn K (.ref (He.ga K "TooMany")) = true) &&
  (decide (PySem.W.excIn K (He.ga K "TooMany") [.type "ValueError", .type "Exception", .type "BaseException", .type "object"] "ValueError.__new__" = true) &&
  (decide (PySem.W.findIn K (.ref (He.ga K "TooMany")) "__getattribute__" = some (some (.builtin "BaseException.__getattribute__"))) &&
  (decide (PySem.W.findIn K (.ref (He.ga K "TooMany")) "__getattr__" = some none) &&
  (decide (PySem.W.findIn K (.ref (He.ga K "TooMany")) "__class__" = some (some (.builtin "object.__class__"))) &&
  (decide (PySem.W.mroIn K (He.ga K "TooMany") (.type "object") = some true) &&
  (decide (PySem.W.specialIn K (.builtin "object.__class__") "__get__" = some (some (.builtin "getset_descriptor.__get__"))) &&
  (decide (PySem.W.takesIn K (.builtin "object.__class__") = some true) &&
  (decide (PySem.W.subIn K (.ref (He.ga K "TooMany")) (.ref (He.ga K "MossError")) = some true) &&
  (decide (PySem.W.subIn K (.ref (He.ga K "TooMany")) (.ref (He.ga K "TooMany")) = some true) &&
  (decide (PySem.W.kitOne K (.ref (He.ga K "Both")) (.type "str") = some false) &&
  (decide (PySem.W.kitOne K (.ref (He.ga K "Eat")) (.type "str") = some false) &&
  (decide (PySem.W.kitOne K (.ref (He.ga K "Either")) (.type "str") = some false) &&
  (true))))))))))))))))
def exl13 (K : PySem.W.Frag) : Bool := decide (PySem.W.kitOne K (.ref (He.ga K "Everything")) (.type "str") = some false) &&
  (decide (PySem.W.kitOne K (.ref (He.ga K "Grow")) (.type "str") = some false) &&
  (decide (PySem.W.kitOne K (.ref (He.ga K "Keep")) (.type "str") = some false) &&
  (decide (PySem.W.kitOne K (.ref (He.ga K "Move")) (.type "str") = some false) &&
  (decide (PySem.W.kitOne K (.ref (He.ga K "Nothing")) (.type "str") = some false) &&
  (decide (PySem.W.kitOne K (.ref (He.ga K "TooMany")) (.ref (He.ga K "TooMany")) = some true) &&
  (decide (PySem.W.kitOne K (.ref (He.ga K "TooMany")) (.type "ValueError") = some true) &&
  (decide (PySem.W.kitAny K (.ref (He.ga K "TooMany")) [.ref (He.ga K "BadCell"), .ref (He.ga K "BadPiece")] = some false) &&
  (true))))))))
def exl (K : PySem.W.Frag) : Bool := exl0 K && (exl1 K && (exl2 K && (exl3 K && (exl4 K && (exl5 K && (exl6 K && (exl7 K && (exl8 K && (exl9 K && (exl10 K && (exl11 K && (exl12 K && (exl13 K && (true))))))))))))))
def nml0 : List Str := ["_wall", "MossError", "BadCell", "BadPiece", "TooMany", "rising", "only_in", "outside", "both", "either", "moved_cell", "less_cell", "moved", "mirrored", "lies_on", "reached"]
def nml1 : List Str := ["kept_at", "grown", "eaten", "MIDDLE", "MOST_MADE", "MOST_PLANS", "DEEPEST", "step_words", "bounded", "Plan", "Keep", "Nothing", "Everything", "Move", "Eat", "Grow"]
def nml2 : List Str := ["Both", "Either", "many_in", "deep", "reach", "let_by", "opening", "closing", "after", "_law_deal", "_law_take", "_law_shape", "_law_step", "_law_piece", "_law_form", "_law_plan"]
def nml3 : List Str := ["_law_same", "_law_words", "_law_parts", "_law_many", "_law_deep", "_law_put", "_law_tree", "_law_chain", "_law_two", "_law_kind", "_law_asked", "_law_good", "_law_done", "_law_behind"]
def nml : List Str := nml0 ++ nml1 ++ nml2 ++ nml3
open PySem.W in
abbrev R0 : OpenRow := OpenLaw.row PySem.Challenge.rw_edgewide_k46_whole_after
abbrev hk0 : PySem.W.Hook := Py.hookP fal fnl exl
def ob0 (s : PySem.W.SharedT) : He.AlD × Bool := Py.obsPG fal fnl exl (HandSHeadRun.getT s)
theorem ob0_eq (s : PySem.W.SharedT) : ob0 s = hk0.obs s.abs := Py.obsPG_eq (HandSHeadRun.getT_eq s)
set_option maxHeartbeats 0 in
theorem run0 (w : World) : HandSHeadRun.RunEq R0 (PySem.W.view R0.prog [68]) hk0 ob0 60000 nml w := by
  intro os
  kernel_rfl
theorem all_mk {w : World} {K : PySem.W.Frag} {h : Heap} {mg : Str → Option Value} {fa : Addr} (X : K.In h) (G : h.Ns mainGlobals mg) (hfa : mg "law" = some (.ref fa)) (c : He.SaysD fal fnl K) (e : exl K = true) :
    ∃ fd : FuncData, (∀ (s : Shared) (v : Value), BindsTo s fd ⟨[v], []⟩ [("script", v)]) ∧ ∀ base : Heap, K.In base → base.Ns mainGlobals mg → FnOk (PySem.Challenge.rw_edgewide_k46_whole_after).prog w K mg base (L2.CX (PySem.Challenge.rw_edgewide_k46_whole_after).prog w) 127 fa fd ["script"] (SpL K) := by
  obtain ⟨d_law_deal, D_law_deal⟩ := c.def_ 0 (d := dd_law_deal) rfl
  obtain ⟨d_law_take, D_law_take⟩ := c.def_ 1 (d := dd_law_take) rfl
  obtain ⟨d_law_step, D_law_step⟩ := c.def_ 2 (d := dd_law_step) rfl
  obtain ⟨d_law_piece, D_law_piece⟩ := c.def_ 3 (d := dd_law_piece) rfl
  obtain ⟨d_law_chain, D_law_chain⟩ := c.def_ 4 (d := dd_law_chain) rfl
  obtain ⟨d_law_tree, D_law_tree⟩ := c.def_ 5 (d := dd_law_tree) rfl
  obtain ⟨d_law_form, D_law_form⟩ := c.def_ 6 (d := dd_law_form) rfl
  obtain ⟨d_law_two, D_law_two⟩ := c.def_ 7 (d := dd_law_two) rfl
  obtain ⟨d_law_shape, D_law_shape⟩ := c.def_ 8 (d := dd_law_shape) rfl
  obtain ⟨d_law_plan, D_law_plan⟩ := c.def_ 9 (d := dd_law_plan) rfl
  obtain ⟨dKeep_put_behind, DKeep_put_behind⟩ := c.def_ 10 (d := ddKeep_put_behind) rfl
  obtain ⟨dPlan_put_behind, DPlan_put_behind⟩ := c.def_ 11 (d := ddPlan_put_behind) rfl
  obtain ⟨dMove_put_behind, DMove_put_behind⟩ := c.def_ 12 (d := ddMove_put_behind) rfl
  obtain ⟨dEat_put_behind, DEat_put_behind⟩ := c.def_ 13 (d := ddEat_put_behind) rfl
  obtain ⟨dGrow_put_behind, DGrow_put_behind⟩ := c.def_ 14 (d := ddGrow_put_behind) rfl
  obtain ⟨dBoth_put_behind, DBoth_put_behind⟩ := c.def_ 15 (d := ddBoth_put_behind) rfl
  obtain ⟨dEither_put_behind, DEither_put_behind⟩ := c.def_ 16 (d := ddEither_put_behind) rfl
  obtain ⟨dPlan_parts_in, DPlan_parts_in⟩ := c.def_ 17 (d := ddPlan_parts_in) rfl
  obtain ⟨dMove_parts_in, DMove_parts_in⟩ := c.def_ 18 (d := ddMove_parts_in) rfl
  obtain ⟨dEat_parts_in, DEat_parts_in⟩ := c.def_ 19 (d := ddEat_parts_in) rfl
  obtain ⟨dGrow_parts_in, DGrow_parts_in⟩ := c.def_ 20 (d := ddGrow_parts_in) rfl
  obtain ⟨dBoth_parts_in, DBoth_parts_in⟩ := c.def_ 21 (d := ddBoth_parts_in) rfl
  obtain ⟨dEither_parts_in, DEither_parts_in⟩ := c.def_ 22 (d := ddEither_parts_in) rfl
  obtain ⟨dmany_in, Dmany_in⟩ := c.def_ 23 (d := ddmany_in) rfl
  obtain ⟨ddeep, Ddeep⟩ := c.def_ 24 (d := dddeep) rfl
  obtain ⟨dlet_by, Dlet_by⟩ := c.def_ 25 (d := ddlet_by) rfl
  obtain ⟨dafter, Dafter⟩ := c.def_ 26 (d := ddafter) rfl
  obtain ⟨d_law_kind, D_law_kind⟩ := c.def_ 27 (d := dd_law_kind) rfl
  obtain ⟨d_law_asked, D_law_asked⟩ := c.def_ 28 (d := dd_law_asked) rfl
  obtain ⟨d_law_put, D_law_put⟩ := c.def_ 29 (d := dd_law_put) rfl
  obtain ⟨d_law_parts, D_law_parts⟩ := c.def_ 30 (d := dd_law_parts) rfl
  obtain ⟨d_law_many, D_law_many⟩ := c.def_ 31 (d := dd_law_many) rfl
  obtain ⟨d_law_deep, D_law_deep⟩ := c.def_ 32 (d := dd_law_deep) rfl
  obtain ⟨dKeep_words, DKeep_words⟩ := c.def_ 33 (d := ddKeep_words) rfl
  obtain ⟨dNothing_words, DNothing_words⟩ := c.def_ 34 (d := ddNothing_words) rfl
  obtain ⟨dEverything_words, DEverything_words⟩ := c.def_ 35 (d := ddEverything_words) rfl
  obtain ⟨dstep_words, Dstep_words⟩ := c.def_ 36 (d := ddstep_words) rfl
  obtain ⟨dMove_words, DMove_words⟩ := c.def_ 37 (d := ddMove_words) rfl
  obtain ⟨dEat_words, DEat_words⟩ := c.def_ 38 (d := ddEat_words) rfl
  obtain ⟨dGrow_words, DGrow_words⟩ := c.def_ 39 (d := ddGrow_words) rfl
  obtain ⟨dBoth_words, DBoth_words⟩ := c.def_ 40 (d := ddBoth_words) rfl
  obtain ⟨dEither_words, DEither_words⟩ := c.def_ 41 (d := ddEither_words) rfl
  obtain ⟨d_law_words, D_law_words⟩ := c.def_ 42 (d := dd_law_words) rfl
  obtain ⟨d_law_same, D_law_same⟩ := c.def_ 43 (d := dd_law_same) rfl
  obtain ⟨d_law_good, D_law_good⟩ := c.def_ 44 (d := dd_law_good) rfl
  obtain ⟨dPlan_made, DPlan_made⟩ := c.def_ 45 (d := ddPlan_made) rfl
  obtain ⟨dNothing_made, DNothing_made⟩ := c.def_ 46 (d := ddNothing_made) rfl
  obtain ⟨dEverything_made, DEverything_made⟩ := c.def_ 47 (d := ddEverything_made) rfl
  obtain ⟨dmoved_cell, Dmoved_cell⟩ := c.def_ 48 (d := ddmoved_cell) rfl
  obtain ⟨dmoved, Dmoved⟩ := c.def_ 49 (d := ddmoved) rfl
  obtain ⟨dMove_made, DMove_made⟩ := c.def_ 50 (d := ddMove_made) rfl
  obtain ⟨drising, Drising⟩ := c.def_ 51 (d := ddrising) rfl
  obtain ⟨dmirrored, Dmirrored⟩ := c.def_ 52 (d := ddmirrored) rfl
  obtain ⟨dlies_on, Dlies_on⟩ := c.def_ 53 (d := ddlies_on) rfl
  obtain ⟨dreached, Dreached⟩ := c.def_ 54 (d := ddreached) rfl
  obtain ⟨dless_cell, Dless_cell⟩ := c.def_ 55 (d := ddless_cell) rfl
  obtain ⟨dkept_at, Dkept_at⟩ := c.def_ 56 (d := ddkept_at) rfl
  obtain ⟨deaten, Deaten⟩ := c.def_ 57 (d := ddeaten) rfl
  obtain ⟨dEat_made, DEat_made⟩ := c.def_ 58 (d := ddEat_made) rfl
  obtain ⟨dgrown, Dgrown⟩ := c.def_ 59 (d := ddgrown) rfl
  obtain ⟨dGrow_made, DGrow_made⟩ := c.def_ 60 (d := ddGrow_made) rfl
  obtain ⟨donly_in, Donly_in⟩ := c.def_ 61 (d := ddonly_in) rfl
  obtain ⟨dboth, Dboth⟩ := c.def_ 62 (d := ddboth) rfl
  obtain ⟨dBoth_made, DBoth_made⟩ := c.def_ 63 (d := ddBoth_made) rfl
  obtain ⟨doutside, Doutside⟩ := c.def_ 64 (d := ddoutside) rfl
  obtain ⟨deither, Deither⟩ := c.def_ 65 (d := ddeither) rfl
  obtain ⟨dEither_made, DEither_made⟩ := c.def_ 66 (d := ddEither_made) rfl
  obtain ⟨dPlan_done, DPlan_done⟩ := c.def_ 67 (d := ddPlan_done) rfl
  obtain ⟨d_law_done, D_law_done⟩ := c.def_ 68 (d := dd_law_done) rfl
  obtain ⟨d_law_behind, D_law_behind⟩ := c.def_ 69 (d := dd_law_behind) rfl
  obtain ⟨dopening, Dopening⟩ := c.def_ 70 (d := ddopening) rfl
  obtain ⟨dclosing, Dclosing⟩ := c.def_ 71 (d := ddclosing) rfl
  obtain ⟨dlaw, Dlaw⟩ := c.def_ 72 (d := ddlaw) rfl
  obtain ⟨dMove___init__, DMove___init__⟩ := c.def_ 73 (d := ddMove___init__) rfl
  obtain ⟨dEat___init__, DEat___init__⟩ := c.def_ 74 (d := ddEat___init__) rfl
  obtain ⟨dGrow___init__, DGrow___init__⟩ := c.def_ 75 (d := ddGrow___init__) rfl
  obtain ⟨dBoth___init__, DBoth___init__⟩ := c.def_ 76 (d := ddBoth___init__) rfl
  obtain ⟨dEither___init__, DEither___init__⟩ := c.def_ 77 (d := ddEither___init__) rfl
  have ac_BadCell := He.glo_ok X G (c.fact 0 (f := .glo "BadCell") rfl)
  have ac_BadPiece := He.glo_ok X G (c.fact 1 (f := .glo "BadPiece") rfl)
  have ac_Both := He.glo_ok X G (c.fact 2 (f := .glo "Both") rfl)
  have ac_Eat := He.glo_ok X G (c.fact 3 (f := .glo "Eat") rfl)
  have ac_Either := He.glo_ok X G (c.fact 4 (f := .glo "Either") rfl)
  have ac_Everything := He.glo_ok X G (c.fact 5 (f := .glo "Everything") rfl)
  have ac_Grow := He.glo_ok X G (c.fact 6 (f := .glo "Grow") rfl)
  have ac_Keep := He.glo_ok X G (c.fact 7 (f := .glo "Keep") rfl)
  have ac_MossError := He.glo_ok X G (c.fact 8 (f := .glo "MossError") rfl)
  have ac_Move := He.glo_ok X G (c.fact 9 (f := .glo "Move") rfl)
  have ac_Nothing := He.glo_ok X G (c.fact 10 (f := .glo "Nothing") rfl)
  have ac_TooMany := He.glo_ok X G (c.fact 11 (f := .glo "TooMany") rfl)
  have a_law_deal := He.glo_ok X G (c.fact 12 (f := .glo "_law_deal") rfl)
  have a_law_take := He.glo_ok X G (c.fact 13 (f := .glo "_law_take") rfl)
  have a_law_step := He.glo_ok X G (c.fact 14 (f := .glo "_law_step") rfl)
  have a_law_piece := He.glo_ok X G (c.fact 15 (f := .glo "_law_piece") rfl)
  have a_law_chain := He.glo_ok X G (c.fact 16 (f := .glo "_law_chain") rfl)
  have a_law_tree := He.glo_ok X G (c.fact 17 (f := .glo "_law_tree") rfl)
  have a_law_form := He.glo_ok X G (c.fact 18 (f := .glo "_law_form") rfl)
  have a_law_two := He.glo_ok X G (c.fact 19 (f := .glo "_law_two") rfl)
  have a_law_shape := He.glo_ok X G (c.fact 20 (f := .glo "_law_shape") rfl)
  have a_law_plan := He.glo_ok X G (c.fact 21 (f := .glo "_law_plan") rfl)
  have amany_in := He.glo_ok X G (c.fact 22 (f := .glo "many_in") rfl)
  have adeep := He.glo_ok X G (c.fact 23 (f := .glo "deep") rfl)
  have alet_by := He.glo_ok X G (c.fact 24 (f := .glo "let_by") rfl)
  have aafter := He.glo_ok X G (c.fact 25 (f := .glo "after") rfl)
  have a_law_kind := He.glo_ok X G (c.fact 26 (f := .glo "_law_kind") rfl)
  have a_law_asked := He.glo_ok X G (c.fact 27 (f := .glo "_law_asked") rfl)
  have a_law_put := He.glo_ok X G (c.fact 28 (f := .glo "_law_put") rfl)
  have a_law_parts := He.glo_ok X G (c.fact 29 (f := .glo "_law_parts") rfl)
  have a_law_many := He.glo_ok X G (c.fact 30 (f := .glo "_law_many") rfl)
  have a_law_deep := He.glo_ok X G (c.fact 31 (f := .glo "_law_deep") rfl)
  have astep_words := He.glo_ok X G (c.fact 32 (f := .glo "step_words") rfl)
  have a_law_words := He.glo_ok X G (c.fact 33 (f := .glo "_law_words") rfl)
  have a_law_same := He.glo_ok X G (c.fact 34 (f := .glo "_law_same") rfl)
  have a_law_good := He.glo_ok X G (c.fact 35 (f := .glo "_law_good") rfl)
  have amoved_cell := He.glo_ok X G (c.fact 36 (f := .glo "moved_cell") rfl)
  have amoved := He.glo_ok X G (c.fact 37 (f := .glo "moved") rfl)
  have arising := He.glo_ok X G (c.fact 38 (f := .glo "rising") rfl)
  have amirrored := He.glo_ok X G (c.fact 39 (f := .glo "mirrored") rfl)
  have alies_on := He.glo_ok X G (c.fact 40 (f := .glo "lies_on") rfl)
  have areached := He.glo_ok X G (c.fact 41 (f := .glo "reached") rfl)
  have aless_cell := He.glo_ok X G (c.fact 42 (f := .glo "less_cell") rfl)
  have akept_at := He.glo_ok X G (c.fact 43 (f := .glo "kept_at") rfl)
  have aeaten := He.glo_ok X G (c.fact 44 (f := .glo "eaten") rfl)
  have agrown := He.glo_ok X G (c.fact 45 (f := .glo "grown") rfl)
  have aonly_in := He.glo_ok X G (c.fact 46 (f := .glo "only_in") rfl)
  have aboth := He.glo_ok X G (c.fact 47 (f := .glo "both") rfl)
  have aoutside := He.glo_ok X G (c.fact 48 (f := .glo "outside") rfl)
  have aeither := He.glo_ok X G (c.fact 49 (f := .glo "either") rfl)
  have a_law_done := He.glo_ok X G (c.fact 50 (f := .glo "_law_done") rfl)
  have a_law_behind := He.glo_ok X G (c.fact 51 (f := .glo "_law_behind") rfl)
  have aopening := He.glo_ok X G (c.fact 52 (f := .glo "opening") rfl)
  have aclosing := He.glo_ok X G (c.fact 53 (f := .glo "closing") rfl)
  have alaw := He.glo_ok X G (c.fact 54 (f := .glo "law") rfl)
  have z_ValueError := He.free_ok X G (c.fact 55 (f := .free "ValueError") rfl)
  have z_all := He.free_ok X G (c.fact 56 (f := .free "all") rfl)
  have z_bool := He.free_ok X G (c.fact 57 (f := .free "bool") rfl)
  have z_int := He.free_ok X G (c.fact 58 (f := .free "int") rfl)
  have z_isinstance := He.free_ok X G (c.fact 59 (f := .free "isinstance") rfl)
  have z_len := He.free_ok X G (c.fact 60 (f := .free "len") rfl)
  have z_list := He.free_ok X G (c.fact 61 (f := .free "list") rfl)
  have z_max := He.free_ok X G (c.fact 62 (f := .free "max") rfl)
  have z_min := He.free_ok X G (c.fact 63 (f := .free "min") rfl)
  have z_range := He.free_ok X G (c.fact 64 (f := .free "range") rfl)
  have z_set := He.free_ok X G (c.fact 65 (f := .free "set") rfl)
  have z_sorted := He.free_ok X G (c.fact 66 (f := .free "sorted") rfl)
  have z_str := He.free_ok X G (c.fact 67 (f := .free "str") rfl)
  have z_sum := He.free_ok X G (c.fact 68 (f := .free "sum") rfl)
  have z_tuple := He.free_ok X G (c.fact 69 (f := .free "tuple") rfl)
  have z_zip := He.free_ok X G (c.fact 70 (f := .free "zip") rfl)
  have v_DEEPEST := He.int_ok X G (c.fact 71 (f := .int "DEEPEST" 12) rfl)
  have v_MOST_MADE := He.int_ok X G (c.fact 72 (f := .int "MOST_MADE" 2000) rfl)
  have v_MOST_PLANS := He.int_ok X G (c.fact 73 (f := .int "MOST_PLANS" 40) rfl)
  obtain ⟨e0, e⟩ := He.ba (show (exl0 K && _) = true from e)
  obtain ⟨im_Keep_put_behind, e0⟩ := Py.ba_d (p := PySem.W.isFn K (.ref (He.ma K (He.ga K "Keep") "put_behind")) = true) e0
  obtain ⟨im_Plan_put_behind, e0⟩ := Py.ba_d (p := PySem.W.isFn K (.ref (He.ma K (He.ga K "Nothing") "put_behind")) = true) e0
  obtain ⟨im_Move_put_behind, e0⟩ := Py.ba_d (p := PySem.W.isFn K (.ref (He.ma K (He.ga K "Move") "put_behind")) = true) e0
  obtain ⟨im_Eat_put_behind, e0⟩ := Py.ba_d (p := PySem.W.isFn K (.ref (He.ma K (He.ga K "Eat") "put_behind")) = true) e0
  obtain ⟨im_Grow_put_behind, e0⟩ := Py.ba_d (p := PySem.W.isFn K (.ref (He.ma K (He.ga K "Grow") "put_behind")) = true) e0
  obtain ⟨im_Both_put_behind, e0⟩ := Py.ba_d (p := PySem.W.isFn K (.ref (He.ma K (He.ga K "Both") "put_behind")) = true) e0
  obtain ⟨im_Either_put_behind, e0⟩ := Py.ba_d (p := PySem.W.isFn K (.ref (He.ma K (He.ga K "Either") "put_behind")) = true) e0
  obtain ⟨im_Plan_parts_in, e0⟩ := Py.ba_d (p := PySem.W.isFn K (.ref (He.ma K (He.ga K "Keep") "parts_in")) = true) e0
  obtain ⟨im_Move_parts_in, e0⟩ := Py.ba_d (p := PySem.W.isFn K (.ref (He.ma K (He.ga K "Move") "parts_in")) = true) e0
  obtain ⟨im_Eat_parts_in, e0⟩ := Py.ba_d (p := PySem.W.isFn K (.ref (He.ma K (He.ga K "Eat") "parts_in")) = true) e0
  obtain ⟨im_Grow_parts_in, e0⟩ := Py.ba_d (p := PySem.W.isFn K (.ref (He.ma K (He.ga K "Grow") "parts_in")) = true) e0
  obtain ⟨im_Both_parts_in, e0⟩ := Py.ba_d (p := PySem.W.isFn K (.ref (He.ma K (He.ga K "Both") "parts_in")) = true) e0
  obtain ⟨im_Either_parts_in, e0⟩ := Py.ba_d (p := PySem.W.isFn K (.ref (He.ma K (He.ga K "Either") "parts_in")) = true) e0
  obtain ⟨im_Keep_words, e0⟩ := Py.ba_d (p := PySem.W.isFn K (.ref (He.ma K (He.ga K "Keep") "words")) = true) e0
  obtain ⟨im_Nothing_words, e0⟩ := Py.ba_d (p := PySem.W.isFn K (.ref (He.ma K (He.ga K "Nothing") "words")) = true) e0
  obtain ⟨im_Everything_words, e0⟩ := Py.ba_d (p := PySem.W.isFn K (.ref (He.ma K (He.ga K "Everything") "words")) = true) e0
  obtain ⟨e1, e⟩ := He.ba (show (exl1 K && _) = true from e)
  obtain ⟨im_Move_words, e1⟩ := Py.ba_d (p := PySem.W.isFn K (.ref (He.ma K (He.ga K "Move") "words")) = true) e1
  obtain ⟨im_Eat_words, e1⟩ := Py.ba_d (p := PySem.W.isFn K (.ref (He.ma K (He.ga K "Eat") "words")) = true) e1
  obtain ⟨im_Grow_words, e1⟩ := Py.ba_d (p := PySem.W.isFn K (.ref (He.ma K (He.ga K "Grow") "words")) = true) e1
  obtain ⟨im_Both_words, e1⟩ := Py.ba_d (p := PySem.W.isFn K (.ref (He.ma K (He.ga K "Both") "words")) = true) e1
  obtain ⟨im_Either_words, e1⟩ := Py.ba_d (p := PySem.W.isFn K (.ref (He.ma K (He.ga K "Either") "words")) = true) e1
  obtain ⟨im_Plan_made, e1⟩ := Py.ba_d (p := PySem.W.isFn K (.ref (He.ma K (He.ga K "Keep") "made")) = true) e1
  obtain ⟨im_Nothing_made, e1⟩ := Py.ba_d (p := PySem.W.isFn K (.ref (He.ma K (He.ga K "Nothing") "made")) = true) e1
  obtain ⟨im_Everything_made, e1⟩ := Py.ba_d (p := PySem.W.isFn K (.ref (He.ma K (He.ga K "Everything") "made")) = true) e1
  obtain ⟨im_Move_made, e1⟩ := Py.ba_d (p := PySem.W.isFn K (.ref (He.ma K (He.ga K "Move") "made")) = true) e1
  obtain ⟨im_Eat_made, e1⟩ := Py.ba_d (p := PySem.W.isFn K (.ref (He.ma K (He.ga K "Eat") "made")) = true) e1
  obtain ⟨im_Grow_made, e1⟩ := Py.ba_d (p := PySem.W.isFn K (.ref (He.ma K (He.ga K "Grow") "made")) = true) e1
  obtain ⟨im_Both_made, e1⟩ := Py.ba_d (p := PySem.W.isFn K (.ref (He.ma K (He.ga K "Both") "made")) = true) e1
  obtain ⟨im_Either_made, e1⟩ := Py.ba_d (p := PySem.W.isFn K (.ref (He.ma K (He.ga K "Either") "made")) = true) e1
  obtain ⟨im_Plan_done, e1⟩ := Py.ba_d (p := PySem.W.isFn K (.ref (He.ma K (He.ga K "Keep") "done")) = true) e1
  obtain ⟨im_Move___init__, e1⟩ := Py.ba_d (p := PySem.W.isFn K (.ref (He.ma K (He.ga K "Move") "__init__")) = true) e1
  obtain ⟨im_Eat___init__, e1⟩ := Py.ba_d (p := PySem.W.isFn K (.ref (He.ma K (He.ga K "Eat") "__init__")) = true) e1
  obtain ⟨e2, e⟩ := He.ba (show (exl2 K && _) = true from e)
  obtain ⟨im_Grow___init__, e2⟩ := Py.ba_d (p := PySem.W.isFn K (.ref (He.ma K (He.ga K "Grow") "__init__")) = true) e2
  obtain ⟨im_Both___init__, e2⟩ := Py.ba_d (p := PySem.W.isFn K (.ref (He.ma K (He.ga K "Both") "__init__")) = true) e2
  obtain ⟨im_Either___init__, e2⟩ := Py.ba_d (p := PySem.W.isFn K (.ref (He.ma K (He.ga K "Either") "__init__")) = true) e2
  obtain ⟨pg_Keep, e2⟩ := Py.ba_d (p := PySem.W.plainGet K (He.ga K "Keep") Str.empty = true) e2
  obtain ⟨pd_Keep, e2⟩ := Py.ba_d (p := PySem.W.hasDictIn K (He.ga K "Keep") = true) e2
  obtain ⟨po_Keep, e2⟩ := Py.ba_d (p := PySem.W.plainOver K (He.ga K "Keep") = true) e2
  obtain ⟨ps_Keep, e2⟩ := Py.ba_d (p := PySem.W.findIn K (.ref (He.ga K "Keep")) "__setattr__" = some (some (.builtin "object.__setattr__"))) e2
  obtain ⟨pc_Keep, e2⟩ := Py.ba_d (p := PySem.W.findIn K (.ref (He.ga K "Keep")) "__class__" = some (some (.builtin "object.__class__"))) e2
  obtain ⟨pm_Keep, e2⟩ := Py.ba_d (p := PySem.W.mroIn K (He.ga K "Keep") (.type "object") = some true) e2
  obtain ⟨pnstep_Keep, e2⟩ := Py.ba_d (p := PySem.W.findIn K (.ref (He.ga K "Keep")) "step" = some none) e2
  obtain ⟨pnplan_Keep, e2⟩ := Py.ba_d (p := PySem.W.findIn K (.ref (He.ga K "Keep")) "plan" = some none) e2
  obtain ⟨pnpiece_Keep, e2⟩ := Py.ba_d (p := PySem.W.findIn K (.ref (He.ga K "Keep")) "piece" = some none) e2
  obtain ⟨pnone_Keep, e2⟩ := Py.ba_d (p := PySem.W.findIn K (.ref (He.ga K "Keep")) "one" = some none) e2
  obtain ⟨pnother_Keep, e2⟩ := Py.ba_d (p := PySem.W.findIn K (.ref (He.ga K "Keep")) "other" = some none) e2
  obtain ⟨pk_Keep, e2⟩ := Py.ba_d (p := PySem.W.makesIn K (He.ga K "Keep") = true) e2
  obtain ⟨pe_Keep, e2⟩ := Py.ba_d (p := PySem.W.keepIn K (.ref (He.ga K "Keep")) = true) e2
  obtain ⟨e3, e⟩ := He.ba (show (exl3 K && _) = true from e)
  obtain ⟨pi_Keep, e3⟩ := Py.ba_d (p := PySem.W.findIn K (.ref (He.ga K "Keep")) "__init__" = some (some (.builtin "object.__init__"))) e3
  obtain ⟨pg_Nothing, e3⟩ := Py.ba_d (p := PySem.W.plainGet K (He.ga K "Nothing") Str.empty = true) e3
  obtain ⟨pd_Nothing, e3⟩ := Py.ba_d (p := PySem.W.hasDictIn K (He.ga K "Nothing") = true) e3
  obtain ⟨po_Nothing, e3⟩ := Py.ba_d (p := PySem.W.plainOver K (He.ga K "Nothing") = true) e3
  obtain ⟨ps_Nothing, e3⟩ := Py.ba_d (p := PySem.W.findIn K (.ref (He.ga K "Nothing")) "__setattr__" = some (some (.builtin "object.__setattr__"))) e3
  obtain ⟨pc_Nothing, e3⟩ := Py.ba_d (p := PySem.W.findIn K (.ref (He.ga K "Nothing")) "__class__" = some (some (.builtin "object.__class__"))) e3
  obtain ⟨pm_Nothing, e3⟩ := Py.ba_d (p := PySem.W.mroIn K (He.ga K "Nothing") (.type "object") = some true) e3
  obtain ⟨pnstep_Nothing, e3⟩ := Py.ba_d (p := PySem.W.findIn K (.ref (He.ga K "Nothing")) "step" = some none) e3
  obtain ⟨pnplan_Nothing, e3⟩ := Py.ba_d (p := PySem.W.findIn K (.ref (He.ga K "Nothing")) "plan" = some none) e3
  obtain ⟨pnpiece_Nothing, e3⟩ := Py.ba_d (p := PySem.W.findIn K (.ref (He.ga K "Nothing")) "piece" = some none) e3
  obtain ⟨pnone_Nothing, e3⟩ := Py.ba_d (p := PySem.W.findIn K (.ref (He.ga K "Nothing")) "one" = some none) e3
  obtain ⟨pnother_Nothing, e3⟩ := Py.ba_d (p := PySem.W.findIn K (.ref (He.ga K "Nothing")) "other" = some none) e3
  obtain ⟨pk_Nothing, e3⟩ := Py.ba_d (p := PySem.W.makesIn K (He.ga K "Nothing") = true) e3
  obtain ⟨pe_Nothing, e3⟩ := Py.ba_d (p := PySem.W.keepIn K (.ref (He.ga K "Nothing")) = true) e3
  obtain ⟨pi_Nothing, e3⟩ := Py.ba_d (p := PySem.W.findIn K (.ref (He.ga K "Nothing")) "__init__" = some (some (.builtin "object.__init__"))) e3
  obtain ⟨pg_Everything, e3⟩ := Py.ba_d (p := PySem.W.plainGet K (He.ga K "Everything") Str.empty = true) e3
  obtain ⟨e4, e⟩ := He.ba (show (exl4 K && _) = true from e)
  obtain ⟨pd_Everything, e4⟩ := Py.ba_d (p := PySem.W.hasDictIn K (He.ga K "Everything") = true) e4
  obtain ⟨po_Everything, e4⟩ := Py.ba_d (p := PySem.W.plainOver K (He.ga K "Everything") = true) e4
  obtain ⟨ps_Everything, e4⟩ := Py.ba_d (p := PySem.W.findIn K (.ref (He.ga K "Everything")) "__setattr__" = some (some (.builtin "object.__setattr__"))) e4
  obtain ⟨pc_Everything, e4⟩ := Py.ba_d (p := PySem.W.findIn K (.ref (He.ga K "Everything")) "__class__" = some (some (.builtin "object.__class__"))) e4
  obtain ⟨pm_Everything, e4⟩ := Py.ba_d (p := PySem.W.mroIn K (He.ga K "Everything") (.type "object") = some true) e4
  obtain ⟨pnstep_Everything, e4⟩ := Py.ba_d (p := PySem.W.findIn K (.ref (He.ga K "Everything")) "step" = some none) e4
  obtain ⟨pnplan_Everything, e4⟩ := Py.ba_d (p := PySem.W.findIn K (.ref (He.ga K "Everything")) "plan" = some none) e4
  obtain ⟨pnpiece_Everything, e4⟩ := Py.ba_d (p := PySem.W.findIn K (.ref (He.ga K "Everything")) "piece" = some none) e4
  obtain ⟨pnone_Everything, e4⟩ := Py.ba_d (p := PySem.W.findIn K (.ref (He.ga K "Everything")) "one" = some none) e4
  obtain ⟨pnother_Everything, e4⟩ := Py.ba_d (p := PySem.W.findIn K (.ref (He.ga K "Everything")) "other" = some none) e4
  obtain ⟨pk_Everything, e4⟩ := Py.ba_d (p := PySem.W.makesIn K (He.ga K "Everything") = true) e4
  obtain ⟨pe_Everything, e4⟩ := Py.ba_d (p := PySem.W.keepIn K (.ref (He.ga K "Everything")) = true) e4
  obtain ⟨pi_Everything, e4⟩ := Py.ba_d (p := PySem.W.findIn K (.ref (He.ga K "Everything")) "__init__" = some (some (.builtin "object.__init__"))) e4
  obtain ⟨pg_Move, e4⟩ := Py.ba_d (p := PySem.W.plainGet K (He.ga K "Move") Str.empty = true) e4
  obtain ⟨pd_Move, e4⟩ := Py.ba_d (p := PySem.W.hasDictIn K (He.ga K "Move") = true) e4
  obtain ⟨po_Move, e4⟩ := Py.ba_d (p := PySem.W.plainOver K (He.ga K "Move") = true) e4
  obtain ⟨e5, e⟩ := He.ba (show (exl5 K && _) = true from e)
  obtain ⟨ps_Move, e5⟩ := Py.ba_d (p := PySem.W.findIn K (.ref (He.ga K "Move")) "__setattr__" = some (some (.builtin "object.__setattr__"))) e5
  obtain ⟨pc_Move, e5⟩ := Py.ba_d (p := PySem.W.findIn K (.ref (He.ga K "Move")) "__class__" = some (some (.builtin "object.__class__"))) e5
  obtain ⟨pm_Move, e5⟩ := Py.ba_d (p := PySem.W.mroIn K (He.ga K "Move") (.type "object") = some true) e5
  obtain ⟨pnstep_Move, e5⟩ := Py.ba_d (p := PySem.W.findIn K (.ref (He.ga K "Move")) "step" = some none) e5
  obtain ⟨pnplan_Move, e5⟩ := Py.ba_d (p := PySem.W.findIn K (.ref (He.ga K "Move")) "plan" = some none) e5
  obtain ⟨pnpiece_Move, e5⟩ := Py.ba_d (p := PySem.W.findIn K (.ref (He.ga K "Move")) "piece" = some none) e5
  obtain ⟨pnone_Move, e5⟩ := Py.ba_d (p := PySem.W.findIn K (.ref (He.ga K "Move")) "one" = some none) e5
  obtain ⟨pnother_Move, e5⟩ := Py.ba_d (p := PySem.W.findIn K (.ref (He.ga K "Move")) "other" = some none) e5
  obtain ⟨pk_Move, e5⟩ := Py.ba_d (p := PySem.W.makesIn K (He.ga K "Move") = true) e5
  obtain ⟨pe_Move, e5⟩ := Py.ba_d (p := PySem.W.keepIn K (.ref (He.ga K "Move")) = true) e5
  obtain ⟨pf_Move, e5⟩ := Py.ba_d (p := PySem.W.findIn K (.ref (He.ga K "Move")) "__init__" = some (some (.ref (He.ma K (He.ga K "Move") "__init__")))) e5
  obtain ⟨pg_Eat, e5⟩ := Py.ba_d (p := PySem.W.plainGet K (He.ga K "Eat") Str.empty = true) e5
  obtain ⟨pd_Eat, e5⟩ := Py.ba_d (p := PySem.W.hasDictIn K (He.ga K "Eat") = true) e5
  obtain ⟨po_Eat, e5⟩ := Py.ba_d (p := PySem.W.plainOver K (He.ga K "Eat") = true) e5
  obtain ⟨ps_Eat, e5⟩ := Py.ba_d (p := PySem.W.findIn K (.ref (He.ga K "Eat")) "__setattr__" = some (some (.builtin "object.__setattr__"))) e5
  obtain ⟨pc_Eat, e5⟩ := Py.ba_d (p := PySem.W.findIn K (.ref (He.ga K "Eat")) "__class__" = some (some (.builtin "object.__class__"))) e5
  obtain ⟨e6, e⟩ := He.ba (show (exl6 K && _) = true from e)
  obtain ⟨pm_Eat, e6⟩ := Py.ba_d (p := PySem.W.mroIn K (He.ga K "Eat") (.type "object") = some true) e6
  obtain ⟨pnstep_Eat, e6⟩ := Py.ba_d (p := PySem.W.findIn K (.ref (He.ga K "Eat")) "step" = some none) e6
  obtain ⟨pnplan_Eat, e6⟩ := Py.ba_d (p := PySem.W.findIn K (.ref (He.ga K "Eat")) "plan" = some none) e6
  obtain ⟨pnpiece_Eat, e6⟩ := Py.ba_d (p := PySem.W.findIn K (.ref (He.ga K "Eat")) "piece" = some none) e6
  obtain ⟨pnone_Eat, e6⟩ := Py.ba_d (p := PySem.W.findIn K (.ref (He.ga K "Eat")) "one" = some none) e6
  obtain ⟨pnother_Eat, e6⟩ := Py.ba_d (p := PySem.W.findIn K (.ref (He.ga K "Eat")) "other" = some none) e6
  obtain ⟨pk_Eat, e6⟩ := Py.ba_d (p := PySem.W.makesIn K (He.ga K "Eat") = true) e6
  obtain ⟨pe_Eat, e6⟩ := Py.ba_d (p := PySem.W.keepIn K (.ref (He.ga K "Eat")) = true) e6
  obtain ⟨pf_Eat, e6⟩ := Py.ba_d (p := PySem.W.findIn K (.ref (He.ga K "Eat")) "__init__" = some (some (.ref (He.ma K (He.ga K "Eat") "__init__")))) e6
  obtain ⟨pg_Grow, e6⟩ := Py.ba_d (p := PySem.W.plainGet K (He.ga K "Grow") Str.empty = true) e6
  obtain ⟨pd_Grow, e6⟩ := Py.ba_d (p := PySem.W.hasDictIn K (He.ga K "Grow") = true) e6
  obtain ⟨po_Grow, e6⟩ := Py.ba_d (p := PySem.W.plainOver K (He.ga K "Grow") = true) e6
  obtain ⟨ps_Grow, e6⟩ := Py.ba_d (p := PySem.W.findIn K (.ref (He.ga K "Grow")) "__setattr__" = some (some (.builtin "object.__setattr__"))) e6
  obtain ⟨pc_Grow, e6⟩ := Py.ba_d (p := PySem.W.findIn K (.ref (He.ga K "Grow")) "__class__" = some (some (.builtin "object.__class__"))) e6
  obtain ⟨pm_Grow, e6⟩ := Py.ba_d (p := PySem.W.mroIn K (He.ga K "Grow") (.type "object") = some true) e6
  obtain ⟨pnstep_Grow, e6⟩ := Py.ba_d (p := PySem.W.findIn K (.ref (He.ga K "Grow")) "step" = some none) e6
  obtain ⟨e7, e⟩ := He.ba (show (exl7 K && _) = true from e)
  obtain ⟨pnplan_Grow, e7⟩ := Py.ba_d (p := PySem.W.findIn K (.ref (He.ga K "Grow")) "plan" = some none) e7
  obtain ⟨pnpiece_Grow, e7⟩ := Py.ba_d (p := PySem.W.findIn K (.ref (He.ga K "Grow")) "piece" = some none) e7
  obtain ⟨pnone_Grow, e7⟩ := Py.ba_d (p := PySem.W.findIn K (.ref (He.ga K "Grow")) "one" = some none) e7
  obtain ⟨pnother_Grow, e7⟩ := Py.ba_d (p := PySem.W.findIn K (.ref (He.ga K "Grow")) "other" = some none) e7
  obtain ⟨pk_Grow, e7⟩ := Py.ba_d (p := PySem.W.makesIn K (He.ga K "Grow") = true) e7
  obtain ⟨pe_Grow, e7⟩ := Py.ba_d (p := PySem.W.keepIn K (.ref (He.ga K "Grow")) = true) e7
  obtain ⟨pf_Grow, e7⟩ := Py.ba_d (p := PySem.W.findIn K (.ref (He.ga K "Grow")) "__init__" = some (some (.ref (He.ma K (He.ga K "Grow") "__init__")))) e7
  obtain ⟨pg_Both, e7⟩ := Py.ba_d (p := PySem.W.plainGet K (He.ga K "Both") Str.empty = true) e7
  obtain ⟨pd_Both, e7⟩ := Py.ba_d (p := PySem.W.hasDictIn K (He.ga K "Both") = true) e7
  obtain ⟨po_Both, e7⟩ := Py.ba_d (p := PySem.W.plainOver K (He.ga K "Both") = true) e7
  obtain ⟨ps_Both, e7⟩ := Py.ba_d (p := PySem.W.findIn K (.ref (He.ga K "Both")) "__setattr__" = some (some (.builtin "object.__setattr__"))) e7
  obtain ⟨pc_Both, e7⟩ := Py.ba_d (p := PySem.W.findIn K (.ref (He.ga K "Both")) "__class__" = some (some (.builtin "object.__class__"))) e7
  obtain ⟨pm_Both, e7⟩ := Py.ba_d (p := PySem.W.mroIn K (He.ga K "Both") (.type "object") = some true) e7
  obtain ⟨pnstep_Both, e7⟩ := Py.ba_d (p := PySem.W.findIn K (.ref (He.ga K "Both")) "step" = some none) e7
  obtain ⟨pnplan_Both, e7⟩ := Py.ba_d (p := PySem.W.findIn K (.ref (He.ga K "Both")) "plan" = some none) e7
  obtain ⟨pnpiece_Both, e7⟩ := Py.ba_d (p := PySem.W.findIn K (.ref (He.ga K "Both")) "piece" = some none) e7
  obtain ⟨e8, e⟩ := He.ba (show (exl8 K && _) = true from e)
  obtain ⟨pnone_Both, e8⟩ := Py.ba_d (p := PySem.W.findIn K (.ref (He.ga K "Both")) "one" = some none) e8
  obtain ⟨pnother_Both, e8⟩ := Py.ba_d (p := PySem.W.findIn K (.ref (He.ga K "Both")) "other" = some none) e8
  obtain ⟨pk_Both, e8⟩ := Py.ba_d (p := PySem.W.makesIn K (He.ga K "Both") = true) e8
  obtain ⟨pe_Both, e8⟩ := Py.ba_d (p := PySem.W.keepIn K (.ref (He.ga K "Both")) = true) e8
  obtain ⟨pf_Both, e8⟩ := Py.ba_d (p := PySem.W.findIn K (.ref (He.ga K "Both")) "__init__" = some (some (.ref (He.ma K (He.ga K "Both") "__init__")))) e8
  obtain ⟨pg_Either, e8⟩ := Py.ba_d (p := PySem.W.plainGet K (He.ga K "Either") Str.empty = true) e8
  obtain ⟨pd_Either, e8⟩ := Py.ba_d (p := PySem.W.hasDictIn K (He.ga K "Either") = true) e8
  obtain ⟨po_Either, e8⟩ := Py.ba_d (p := PySem.W.plainOver K (He.ga K "Either") = true) e8
  obtain ⟨ps_Either, e8⟩ := Py.ba_d (p := PySem.W.findIn K (.ref (He.ga K "Either")) "__setattr__" = some (some (.builtin "object.__setattr__"))) e8
  obtain ⟨pc_Either, e8⟩ := Py.ba_d (p := PySem.W.findIn K (.ref (He.ga K "Either")) "__class__" = some (some (.builtin "object.__class__"))) e8
  obtain ⟨pm_Either, e8⟩ := Py.ba_d (p := PySem.W.mroIn K (He.ga K "Either") (.type "object") = some true) e8
  obtain ⟨pnstep_Either, e8⟩ := Py.ba_d (p := PySem.W.findIn K (.ref (He.ga K "Either")) "step" = some none) e8
  obtain ⟨pnplan_Either, e8⟩ := Py.ba_d (p := PySem.W.findIn K (.ref (He.ga K "Either")) "plan" = some none) e8
  obtain ⟨pnpiece_Either, e8⟩ := Py.ba_d (p := PySem.W.findIn K (.ref (He.ga K "Either")) "piece" = some none) e8
  obtain ⟨pnone_Either, e8⟩ := Py.ba_d (p := PySem.W.findIn K (.ref (He.ga K "Either")) "one" = some none) e8
  obtain ⟨pnother_Either, e8⟩ := Py.ba_d (p := PySem.W.findIn K (.ref (He.ga K "Either")) "other" = some none) e8
  obtain ⟨e9, e⟩ := He.ba (show (exl9 K && _) = true from e)
  obtain ⟨pk_Either, e9⟩ := Py.ba_d (p := PySem.W.makesIn K (He.ga K "Either") = true) e9
  obtain ⟨pe_Either, e9⟩ := Py.ba_d (p := PySem.W.keepIn K (.ref (He.ga K "Either")) = true) e9
  obtain ⟨pf_Either, e9⟩ := Py.ba_d (p := PySem.W.findIn K (.ref (He.ga K "Either")) "__init__" = some (some (.ref (He.ma K (He.ga K "Either") "__init__")))) e9
  obtain ⟨pgn, e9⟩ := Py.ba_d (p := PySem.W.specialIn K (.builtin "object.__class__") "__get__" = some (some (.builtin "getset_descriptor.__get__"))) e9
  obtain ⟨pgt, e9⟩ := Py.ba_d (p := PySem.W.takesIn K (.builtin "object.__class__") = some true) e9
  obtain ⟨mt_Both_done, e9⟩ := Py.ba_d (p := PySem.W.findIn K (.ref (He.ga K "Both")) "done" = some (some (.ref (He.ma K (He.ga K "Keep") "done")))) e9
  obtain ⟨mt_Both_made, e9⟩ := Py.ba_d (p := PySem.W.findIn K (.ref (He.ga K "Both")) "made" = some (some (.ref (He.ma K (He.ga K "Both") "made")))) e9
  obtain ⟨mt_Both_parts_in, e9⟩ := Py.ba_d (p := PySem.W.findIn K (.ref (He.ga K "Both")) "parts_in" = some (some (.ref (He.ma K (He.ga K "Both") "parts_in")))) e9
  obtain ⟨mt_Both_put_behind, e9⟩ := Py.ba_d (p := PySem.W.findIn K (.ref (He.ga K "Both")) "put_behind" = some (some (.ref (He.ma K (He.ga K "Both") "put_behind")))) e9
  obtain ⟨mt_Both_words, e9⟩ := Py.ba_d (p := PySem.W.findIn K (.ref (He.ga K "Both")) "words" = some (some (.ref (He.ma K (He.ga K "Both") "words")))) e9
  obtain ⟨mt_Eat_done, e9⟩ := Py.ba_d (p := PySem.W.findIn K (.ref (He.ga K "Eat")) "done" = some (some (.ref (He.ma K (He.ga K "Keep") "done")))) e9
  obtain ⟨mt_Eat_made, e9⟩ := Py.ba_d (p := PySem.W.findIn K (.ref (He.ga K "Eat")) "made" = some (some (.ref (He.ma K (He.ga K "Eat") "made")))) e9
  obtain ⟨mt_Eat_parts_in, e9⟩ := Py.ba_d (p := PySem.W.findIn K (.ref (He.ga K "Eat")) "parts_in" = some (some (.ref (He.ma K (He.ga K "Eat") "parts_in")))) e9
  obtain ⟨mt_Eat_put_behind, e9⟩ := Py.ba_d (p := PySem.W.findIn K (.ref (He.ga K "Eat")) "put_behind" = some (some (.ref (He.ma K (He.ga K "Eat") "put_behind")))) e9
  obtain ⟨mt_Eat_words, e9⟩ := Py.ba_d (p := PySem.W.findIn K (.ref (He.ga K "Eat")) "words" = some (some (.ref (He.ma K (He.ga K "Eat") "words")))) e9
  obtain ⟨mt_Either_done, e9⟩ := Py.ba_d (p := PySem.W.findIn K (.ref (He.ga K "Either")) "done" = some (some (.ref (He.ma K (He.ga K "Keep") "done")))) e9
  obtain ⟨e10, e⟩ := He.ba (show (exl10 K && _) = true from e)
  obtain ⟨mt_Either_made, e10⟩ := Py.ba_d (p := PySem.W.findIn K (.ref (He.ga K "Either")) "made" = some (some (.ref (He.ma K (He.ga K "Either") "made")))) e10
  obtain ⟨mt_Either_parts_in, e10⟩ := Py.ba_d (p := PySem.W.findIn K (.ref (He.ga K "Either")) "parts_in" = some (some (.ref (He.ma K (He.ga K "Either") "parts_in")))) e10
  obtain ⟨mt_Either_put_behind, e10⟩ := Py.ba_d (p := PySem.W.findIn K (.ref (He.ga K "Either")) "put_behind" = some (some (.ref (He.ma K (He.ga K "Either") "put_behind")))) e10
  obtain ⟨mt_Either_words, e10⟩ := Py.ba_d (p := PySem.W.findIn K (.ref (He.ga K "Either")) "words" = some (some (.ref (He.ma K (He.ga K "Either") "words")))) e10
  obtain ⟨mt_Everything_done, e10⟩ := Py.ba_d (p := PySem.W.findIn K (.ref (He.ga K "Everything")) "done" = some (some (.ref (He.ma K (He.ga K "Keep") "done")))) e10
  obtain ⟨mt_Everything_made, e10⟩ := Py.ba_d (p := PySem.W.findIn K (.ref (He.ga K "Everything")) "made" = some (some (.ref (He.ma K (He.ga K "Everything") "made")))) e10
  obtain ⟨mt_Everything_parts_in, e10⟩ := Py.ba_d (p := PySem.W.findIn K (.ref (He.ga K "Everything")) "parts_in" = some (some (.ref (He.ma K (He.ga K "Keep") "parts_in")))) e10
  obtain ⟨mt_Everything_put_behind, e10⟩ := Py.ba_d (p := PySem.W.findIn K (.ref (He.ga K "Everything")) "put_behind" = some (some (.ref (He.ma K (He.ga K "Nothing") "put_behind")))) e10
  obtain ⟨mt_Everything_words, e10⟩ := Py.ba_d (p := PySem.W.findIn K (.ref (He.ga K "Everything")) "words" = some (some (.ref (He.ma K (He.ga K "Everything") "words")))) e10
  obtain ⟨mt_Grow_done, e10⟩ := Py.ba_d (p := PySem.W.findIn K (.ref (He.ga K "Grow")) "done" = some (some (.ref (He.ma K (He.ga K "Keep") "done")))) e10
  obtain ⟨mt_Grow_made, e10⟩ := Py.ba_d (p := PySem.W.findIn K (.ref (He.ga K "Grow")) "made" = some (some (.ref (He.ma K (He.ga K "Grow") "made")))) e10
  obtain ⟨mt_Grow_parts_in, e10⟩ := Py.ba_d (p := PySem.W.findIn K (.ref (He.ga K "Grow")) "parts_in" = some (some (.ref (He.ma K (He.ga K "Grow") "parts_in")))) e10
  obtain ⟨mt_Grow_put_behind, e10⟩ := Py.ba_d (p := PySem.W.findIn K (.ref (He.ga K "Grow")) "put_behind" = some (some (.ref (He.ma K (He.ga K "Grow") "put_behind")))) e10
  obtain ⟨mt_Grow_words, e10⟩ := Py.ba_d (p := PySem.W.findIn K (.ref (He.ga K "Grow")) "words" = some (some (.ref (He.ma K (He.ga K "Grow") "words")))) e10
  obtain ⟨mt_Keep_done, e10⟩ := Py.ba_d (p := PySem.W.findIn K (.ref (He.ga K "Keep")) "done" = some (some (.ref (He.ma K (He.ga K "Keep") "done")))) e10
  obtain ⟨mt_Keep_made, e10⟩ := Py.ba_d (p := PySem.W.findIn K (.ref (He.ga K "Keep")) "made" = some (some (.ref (He.ma K (He.ga K "Keep") "made")))) e10
  obtain ⟨e11, e⟩ := He.ba (show (exl11 K && _) = true from e)
  obtain ⟨mt_Keep_parts_in, e11⟩ := Py.ba_d (p := PySem.W.findIn K (.ref (He.ga K "Keep")) "parts_in" = some (some (.ref (He.ma K (He.ga K "Keep") "parts_in")))) e11
  obtain ⟨mt_Keep_put_behind, e11⟩ := Py.ba_d (p := PySem.W.findIn K (.ref (He.ga K "Keep")) "put_behind" = some (some (.ref (He.ma K (He.ga K "Keep") "put_behind")))) e11
  obtain ⟨mt_Keep_words, e11⟩ := Py.ba_d (p := PySem.W.findIn K (.ref (He.ga K "Keep")) "words" = some (some (.ref (He.ma K (He.ga K "Keep") "words")))) e11
  obtain ⟨mt_Move_done, e11⟩ := Py.ba_d (p := PySem.W.findIn K (.ref (He.ga K "Move")) "done" = some (some (.ref (He.ma K (He.ga K "Keep") "done")))) e11
  obtain ⟨mt_Move_made, e11⟩ := Py.ba_d (p := PySem.W.findIn K (.ref (He.ga K "Move")) "made" = some (some (.ref (He.ma K (He.ga K "Move") "made")))) e11
  obtain ⟨mt_Move_parts_in, e11⟩ := Py.ba_d (p := PySem.W.findIn K (.ref (He.ga K "Move")) "parts_in" = some (some (.ref (He.ma K (He.ga K "Move") "parts_in")))) e11
  obtain ⟨mt_Move_put_behind, e11⟩ := Py.ba_d (p := PySem.W.findIn K (.ref (He.ga K "Move")) "put_behind" = some (some (.ref (He.ma K (He.ga K "Move") "put_behind")))) e11
  obtain ⟨mt_Move_words, e11⟩ := Py.ba_d (p := PySem.W.findIn K (.ref (He.ga K "Move")) "words" = some (some (.ref (He.ma K (He.ga K "Move") "words")))) e11
  obtain ⟨mt_Nothing_done, e11⟩ := Py.ba_d (p := PySem.W.findIn K (.ref (He.ga K "Nothing")) "done" = some (some (.ref (He.ma K (He.ga K "Keep") "done")))) e11
  obtain ⟨mt_Nothing_made, e11⟩ := Py.ba_d (p := PySem.W.findIn K (.ref (He.ga K "Nothing")) "made" = some (some (.ref (He.ma K (He.ga K "Nothing") "made")))) e11
  obtain ⟨mt_Nothing_parts_in, e11⟩ := Py.ba_d (p := PySem.W.findIn K (.ref (He.ga K "Nothing")) "parts_in" = some (some (.ref (He.ma K (He.ga K "Keep") "parts_in")))) e11
  obtain ⟨mt_Nothing_put_behind, e11⟩ := Py.ba_d (p := PySem.W.findIn K (.ref (He.ga K "Nothing")) "put_behind" = some (some (.ref (He.ma K (He.ga K "Nothing") "put_behind")))) e11
  obtain ⟨mt_Nothing_words, e11⟩ := Py.ba_d (p := PySem.W.findIn K (.ref (He.ga K "Nothing")) "words" = some (some (.ref (He.ma K (He.ga K "Nothing") "words")))) e11
  obtain ⟨yb_MossError, e11⟩ := Py.ba_d (p := PySem.W.subIn K (.ref (He.ga K "MossError")) (.type "BaseException") = some true) e11
  obtain ⟨yd_MossError, e11⟩ := Py.ba_d (p := PySem.W.hasDictIn K (He.ga K "MossError") = true) e11
  obtain ⟨yt_MossError, e11⟩ := Py.ba_d (p := PySem.W.typeIn K (.ref (He.ga K "MossError")) = some (.type "type")) e11
  obtain ⟨e12, e⟩ := He.ba (show (exl12 K && _) = true from e)
  obtain ⟨yb_TooMany, e12⟩ := Py.ba_d (p := PySem.W.subIn K (.ref (He.ga K "TooMany")) (.type "BaseException") = some true) e12
  obtain ⟨yd_TooMany, e12⟩ := Py.ba_d (p := PySem.W.hasDictIn K (He.ga K "TooMany") = true) e12
  obtain ⟨yt_TooMany, e12⟩ := Py.ba_d (p := PySem.W.typeIn K (.ref (He.ga K "TooMany")) = some (.type "type")) e12
  obtain ⟨yk_TooMany, e12⟩ := Py.ba_d (p := PySem.W.keepIn K (.ref (He.ga K "TooMany")) = true) e12
  obtain ⟨ye_TooMany, e12⟩ := Py.ba_d (p := PySem.W.excIn K (He.ga K "TooMany") [.type "ValueError", .type "Exception", .type "BaseException", .type "object"] "ValueError.__new__" = true) e12
  obtain ⟨yg_TooMany, e12⟩ := Py.ba_d (p := PySem.W.findIn K (.ref (He.ga K "TooMany")) "__getattribute__" = some (some (.builtin "BaseException.__getattribute__"))) e12
  obtain ⟨yh_TooMany, e12⟩ := Py.ba_d (p := PySem.W.findIn K (.ref (He.ga K "TooMany")) "__getattr__" = some none) e12
  obtain ⟨ya_TooMany, e12⟩ := Py.ba_d (p := PySem.W.findIn K (.ref (He.ga K "TooMany")) "__class__" = some (some (.builtin "object.__class__"))) e12
  obtain ⟨ym_TooMany, e12⟩ := Py.ba_d (p := PySem.W.mroIn K (He.ga K "TooMany") (.type "object") = some true) e12
  obtain ⟨yn, e12⟩ := Py.ba_d (p := PySem.W.specialIn K (.builtin "object.__class__") "__get__" = some (some (.builtin "getset_descriptor.__get__"))) e12
  obtain ⟨yx, e12⟩ := Py.ba_d (p := PySem.W.takesIn K (.builtin "object.__class__") = some true) e12
  obtain ⟨ye_TooMany_MossError, e12⟩ := Py.ba_d (p := PySem.W.subIn K (.ref (He.ga K "TooMany")) (.ref (He.ga K "MossError")) = some true) e12
  obtain ⟨ye_TooMany_TooMany, e12⟩ := Py.ba_d (p := PySem.W.subIn K (.ref (He.ga K "TooMany")) (.ref (He.ga K "TooMany")) = some true) e12
  obtain ⟨yi_Both_str, e12⟩ := Py.ba_d (p := PySem.W.kitOne K (.ref (He.ga K "Both")) (.type "str") = some false) e12
  obtain ⟨yi_Eat_str, e12⟩ := Py.ba_d (p := PySem.W.kitOne K (.ref (He.ga K "Eat")) (.type "str") = some false) e12
  obtain ⟨yi_Either_str, e12⟩ := Py.ba_d (p := PySem.W.kitOne K (.ref (He.ga K "Either")) (.type "str") = some false) e12
  obtain ⟨e13, e⟩ := He.ba (show (exl13 K && _) = true from e)
  obtain ⟨yi_Everything_str, e13⟩ := Py.ba_d (p := PySem.W.kitOne K (.ref (He.ga K "Everything")) (.type "str") = some false) e13
  obtain ⟨yi_Grow_str, e13⟩ := Py.ba_d (p := PySem.W.kitOne K (.ref (He.ga K "Grow")) (.type "str") = some false) e13
  obtain ⟨yi_Keep_str, e13⟩ := Py.ba_d (p := PySem.W.kitOne K (.ref (He.ga K "Keep")) (.type "str") = some false) e13
  obtain ⟨yi_Move_str, e13⟩ := Py.ba_d (p := PySem.W.kitOne K (.ref (He.ga K "Move")) (.type "str") = some false) e13
  obtain ⟨yi_Nothing_str, e13⟩ := Py.ba_d (p := PySem.W.kitOne K (.ref (He.ga K "Nothing")) (.type "str") = some false) e13
  obtain ⟨yi_TooMany_TooMany, e13⟩ := Py.ba_d (p := PySem.W.kitOne K (.ref (He.ga K "TooMany")) (.ref (He.ga K "TooMany")) = some true) e13
  obtain ⟨yi_TooMany_ValueError, e13⟩ := Py.ba_d (p := PySem.W.kitOne K (.ref (He.ga K "TooMany")) (.type "ValueError") = some true) e13
  obtain ⟨yt_TooMany_BadCell_BadPiece, e13⟩ := Py.ba_d (p := PySem.W.kitAny K (.ref (He.ga K "TooMany")) [.ref (He.ga K "BadCell"), .ref (He.ga K "BadPiece")] = some false) e13
  have e0 := hfa.symm.trans alaw
  cases e0
  have T : Txt K mg ⟨(He.ga K "_law_deal"), (He.ga K "_law_take"), (He.ga K "_law_step"), (He.ga K "_law_piece"), (He.ga K "_law_chain"), (He.ga K "_law_tree"), (He.ga K "_law_form"), (He.ga K "_law_two"), (He.ga K "_law_shape"), (He.ga K "_law_plan"), (He.ma K (He.ga K "Keep") "put_behind"), (He.ma K (He.ga K "Nothing") "put_behind"), (He.ma K (He.ga K "Move") "put_behind"), (He.ma K (He.ga K "Eat") "put_behind"), (He.ma K (He.ga K "Grow") "put_behind"), (He.ma K (He.ga K "Both") "put_behind"), (He.ma K (He.ga K "Either") "put_behind"), (He.ma K (He.ga K "Keep") "parts_in"), (He.ma K (He.ga K "Move") "parts_in"), (He.ma K (He.ga K "Eat") "parts_in"), (He.ma K (He.ga K "Grow") "parts_in"), (He.ma K (He.ga K "Both") "parts_in"), (He.ma K (He.ga K "Either") "parts_in"), (He.ga K "many_in"), (He.ga K "deep"), (He.ga K "let_by"), (He.ga K "after"), (He.ga K "_law_kind"), (He.ga K "_law_asked"), (He.ga K "_law_put"), (He.ga K "_law_parts"), (He.ga K "_law_many"), (He.ga K "_law_deep"), (He.ma K (He.ga K "Keep") "words"), (He.ma K (He.ga K "Nothing") "words"), (He.ma K (He.ga K "Everything") "words"), (He.ga K "step_words"), (He.ma K (He.ga K "Move") "words"), (He.ma K (He.ga K "Eat") "words"), (He.ma K (He.ga K "Grow") "words"), (He.ma K (He.ga K "Both") "words"), (He.ma K (He.ga K "Either") "words"), (He.ga K "_law_words"), (He.ga K "_law_same"), (He.ga K "_law_good"), (He.ma K (He.ga K "Keep") "made"), (He.ma K (He.ga K "Nothing") "made"), (He.ma K (He.ga K "Everything") "made"), (He.ga K "moved_cell"), (He.ga K "moved"), (He.ma K (He.ga K "Move") "made"), (He.ga K "rising"), (He.ga K "mirrored"), (He.ga K "lies_on"), (He.ga K "reached"), (He.ga K "less_cell"), (He.ga K "kept_at"), (He.ga K "eaten"), (He.ma K (He.ga K "Eat") "made"), (He.ga K "grown"), (He.ma K (He.ga K "Grow") "made"), (He.ga K "only_in"), (He.ga K "both"), (He.ma K (He.ga K "Both") "made"), (He.ga K "outside"), (He.ga K "either"), (He.ma K (He.ga K "Either") "made"), (He.ma K (He.ga K "Keep") "done"), (He.ga K "_law_done"), (He.ga K "_law_behind"), (He.ga K "opening"), (He.ga K "closing"), (He.ga K "law"), (He.ma K (He.ga K "Move") "__init__"), (He.ma K (He.ga K "Eat") "__init__"), (He.ma K (He.ga K "Grow") "__init__"), (He.ma K (He.ga K "Both") "__init__"), (He.ma K (He.ga K "Either") "__init__"), d_law_deal, d_law_take, d_law_step, d_law_piece, d_law_chain, d_law_tree, d_law_form, d_law_two, d_law_shape, d_law_plan, dKeep_put_behind, dPlan_put_behind, dMove_put_behind, dEat_put_behind, dGrow_put_behind, dBoth_put_behind, dEither_put_behind, dPlan_parts_in, dMove_parts_in, dEat_parts_in, dGrow_parts_in, dBoth_parts_in, dEither_parts_in, dmany_in, ddeep, dlet_by, dafter, d_law_kind, d_law_asked, d_law_put, d_law_parts, d_law_many, d_law_deep, dKeep_words, dNothing_words, dEverything_words, dstep_words, dMove_words, dEat_words, dGrow_words, dBoth_words, dEither_words, d_law_words, d_law_same, d_law_good, dPlan_made, dNothing_made, dEverything_made, dmoved_cell, dmoved, dMove_made, drising, dmirrored, dlies_on, dreached, dless_cell, dkept_at, deaten, dEat_made, dgrown, dGrow_made, donly_in, dboth, dBoth_made, doutside, deither, dEither_made, dPlan_done, d_law_done, d_law_behind, dopening, dclosing, dlaw, dMove___init__, dEat___init__, dGrow___init__, dBoth___init__, dEither___init__, (He.ga K "BadCell"), (He.ga K "BadPiece"), (He.ga K "Both"), (He.ga K "Eat"), (He.ga K "Either"), (He.ga K "Everything"), (He.ga K "Grow"), (He.ga K "Keep"), (He.ga K "MossError"), (He.ga K "Move"), (He.ga K "Nothing"), (He.ga K "TooMany")⟩ := {
    pl := ⟨(pl_cons (k0 := .Keep) (C0 := (He.ga K "Keep")) ⟨pg_Keep, pd_Keep, po_Keep, ps_Keep⟩ (pl_cons (k0 := .Nothing) (C0 := (He.ga K "Nothing")) ⟨pg_Nothing, pd_Nothing, po_Nothing, ps_Nothing⟩ (pl_cons (k0 := .Everything) (C0 := (He.ga K "Everything")) ⟨pg_Everything, pd_Everything, po_Everything, ps_Everything⟩ (pl_cons (k0 := .Move) (C0 := (He.ga K "Move")) ⟨pg_Move, pd_Move, po_Move, ps_Move⟩ (pl_cons (k0 := .Eat) (C0 := (He.ga K "Eat")) ⟨pg_Eat, pd_Eat, po_Eat, ps_Eat⟩ (pl_cons (k0 := .Grow) (C0 := (He.ga K "Grow")) ⟨pg_Grow, pd_Grow, po_Grow, ps_Grow⟩ (pl_cons (k0 := .Both) (C0 := (He.ga K "Both")) ⟨pg_Both, pd_Both, po_Both, ps_Both⟩ (pl_cons (k0 := .Either) (C0 := (He.ga K "Either")) ⟨pg_Either, pd_Either, po_Either, ps_Either⟩ pl_nil)))))))), (pl_cons3 (k0 := .Keep) (C0 := (He.ga K "Keep")) pnstep_Keep pnplan_Keep pnpiece_Keep pnone_Keep pnother_Keep (pl_cons3 (k0 := .Nothing) (C0 := (He.ga K "Nothing")) pnstep_Nothing pnplan_Nothing pnpiece_Nothing pnone_Nothing pnother_Nothing (pl_cons3 (k0 := .Everything) (C0 := (He.ga K "Everything")) pnstep_Everything pnplan_Everything pnpiece_Everything pnone_Everything pnother_Everything (pl_cons3 (k0 := .Move) (C0 := (He.ga K "Move")) pnstep_Move pnplan_Move pnpiece_Move pnone_Move pnother_Move (pl_cons3 (k0 := .Eat) (C0 := (He.ga K "Eat")) pnstep_Eat pnplan_Eat pnpiece_Eat pnone_Eat pnother_Eat (pl_cons3 (k0 := .Grow) (C0 := (He.ga K "Grow")) pnstep_Grow pnplan_Grow pnpiece_Grow pnone_Grow pnother_Grow (pl_cons3 (k0 := .Both) (C0 := (He.ga K "Both")) pnstep_Both pnplan_Both pnpiece_Both pnone_Both pnother_Both (pl_cons3 (k0 := .Either) (C0 := (He.ga K "Either")) pnstep_Either pnplan_Either pnpiece_Either pnone_Either pnother_Either pl_nil3)))))))), (pl_cons (k0 := .Keep) (C0 := (He.ga K "Keep")) pc_Keep (pl_cons (k0 := .Nothing) (C0 := (He.ga K "Nothing")) pc_Nothing (pl_cons (k0 := .Everything) (C0 := (He.ga K "Everything")) pc_Everything (pl_cons (k0 := .Move) (C0 := (He.ga K "Move")) pc_Move (pl_cons (k0 := .Eat) (C0 := (He.ga K "Eat")) pc_Eat (pl_cons (k0 := .Grow) (C0 := (He.ga K "Grow")) pc_Grow (pl_cons (k0 := .Both) (C0 := (He.ga K "Both")) pc_Both (pl_cons (k0 := .Either) (C0 := (He.ga K "Either")) pc_Either pl_nil)))))))), pgn, pgt, (pl_cons (k0 := .Keep) (C0 := (He.ga K "Keep")) pm_Keep (pl_cons (k0 := .Nothing) (C0 := (He.ga K "Nothing")) pm_Nothing (pl_cons (k0 := .Everything) (C0 := (He.ga K "Everything")) pm_Everything (pl_cons (k0 := .Move) (C0 := (He.ga K "Move")) pm_Move (pl_cons (k0 := .Eat) (C0 := (He.ga K "Eat")) pm_Eat (pl_cons (k0 := .Grow) (C0 := (He.ga K "Grow")) pm_Grow (pl_cons (k0 := .Both) (C0 := (He.ga K "Both")) pm_Both (pl_cons (k0 := .Either) (C0 := (He.ga K "Either")) pm_Either pl_nil))))))))⟩
    mk_Keep := ⟨pk_Keep, pi_Keep, pm_Keep, pe_Keep⟩
    mk_Nothing := ⟨pk_Nothing, pi_Nothing, pm_Nothing, pe_Nothing⟩
    mk_Everything := ⟨pk_Everything, pi_Everything, pm_Everything, pe_Everything⟩
    mk_Move := ⟨pk_Move, pf_Move, im_Move___init__, pe_Move⟩
    mk_Eat := ⟨pk_Eat, pf_Eat, im_Eat___init__, pe_Eat⟩
    mk_Grow := ⟨pk_Grow, pf_Grow, im_Grow___init__, pe_Grow⟩
    mk_Both := ⟨pk_Both, pf_Both, im_Both___init__, pe_Both⟩
    mk_Either := ⟨pk_Either, pf_Either, im_Either___init__, pe_Either⟩
    mt_Both_done := ⟨mt_Both_done, im_Plan_done, DPlan_done.kp⟩
    mt_Both_made := ⟨mt_Both_made, im_Both_made, DBoth_made.kp⟩
    mt_Both_parts_in := ⟨mt_Both_parts_in, im_Both_parts_in, DBoth_parts_in.kp⟩
    mt_Both_put_behind := ⟨mt_Both_put_behind, im_Both_put_behind, DBoth_put_behind.kp⟩
    mt_Both_words := ⟨mt_Both_words, im_Both_words, DBoth_words.kp⟩
    mt_Eat_done := ⟨mt_Eat_done, im_Plan_done, DPlan_done.kp⟩
    mt_Eat_made := ⟨mt_Eat_made, im_Eat_made, DEat_made.kp⟩
    mt_Eat_parts_in := ⟨mt_Eat_parts_in, im_Eat_parts_in, DEat_parts_in.kp⟩
    mt_Eat_put_behind := ⟨mt_Eat_put_behind, im_Eat_put_behind, DEat_put_behind.kp⟩
    mt_Eat_words := ⟨mt_Eat_words, im_Eat_words, DEat_words.kp⟩
    mt_Either_done := ⟨mt_Either_done, im_Plan_done, DPlan_done.kp⟩
    mt_Either_made := ⟨mt_Either_made, im_Either_made, DEither_made.kp⟩
    mt_Either_parts_in := ⟨mt_Either_parts_in, im_Either_parts_in, DEither_parts_in.kp⟩
    mt_Either_put_behind := ⟨mt_Either_put_behind, im_Either_put_behind, DEither_put_behind.kp⟩
    mt_Either_words := ⟨mt_Either_words, im_Either_words, DEither_words.kp⟩
    mt_Everything_done := ⟨mt_Everything_done, im_Plan_done, DPlan_done.kp⟩
    mt_Everything_made := ⟨mt_Everything_made, im_Everything_made, DEverything_made.kp⟩
    mt_Everything_parts_in := ⟨mt_Everything_parts_in, im_Plan_parts_in, DPlan_parts_in.kp⟩
    mt_Everything_put_behind := ⟨mt_Everything_put_behind, im_Plan_put_behind, DPlan_put_behind.kp⟩
    mt_Everything_words := ⟨mt_Everything_words, im_Everything_words, DEverything_words.kp⟩
    mt_Grow_done := ⟨mt_Grow_done, im_Plan_done, DPlan_done.kp⟩
    mt_Grow_made := ⟨mt_Grow_made, im_Grow_made, DGrow_made.kp⟩
    mt_Grow_parts_in := ⟨mt_Grow_parts_in, im_Grow_parts_in, DGrow_parts_in.kp⟩
    mt_Grow_put_behind := ⟨mt_Grow_put_behind, im_Grow_put_behind, DGrow_put_behind.kp⟩
    mt_Grow_words := ⟨mt_Grow_words, im_Grow_words, DGrow_words.kp⟩
    mt_Keep_done := ⟨mt_Keep_done, im_Plan_done, DPlan_done.kp⟩
    mt_Keep_made := ⟨mt_Keep_made, im_Plan_made, DPlan_made.kp⟩
    mt_Keep_parts_in := ⟨mt_Keep_parts_in, im_Plan_parts_in, DPlan_parts_in.kp⟩
    mt_Keep_put_behind := ⟨mt_Keep_put_behind, im_Keep_put_behind, DKeep_put_behind.kp⟩
    mt_Keep_words := ⟨mt_Keep_words, im_Keep_words, DKeep_words.kp⟩
    mt_Move_done := ⟨mt_Move_done, im_Plan_done, DPlan_done.kp⟩
    mt_Move_made := ⟨mt_Move_made, im_Move_made, DMove_made.kp⟩
    mt_Move_parts_in := ⟨mt_Move_parts_in, im_Move_parts_in, DMove_parts_in.kp⟩
    mt_Move_put_behind := ⟨mt_Move_put_behind, im_Move_put_behind, DMove_put_behind.kp⟩
    mt_Move_words := ⟨mt_Move_words, im_Move_words, DMove_words.kp⟩
    mt_Nothing_done := ⟨mt_Nothing_done, im_Plan_done, DPlan_done.kp⟩
    mt_Nothing_made := ⟨mt_Nothing_made, im_Nothing_made, DNothing_made.kp⟩
    mt_Nothing_parts_in := ⟨mt_Nothing_parts_in, im_Plan_parts_in, DPlan_parts_in.kp⟩
    mt_Nothing_put_behind := ⟨mt_Nothing_put_behind, im_Plan_put_behind, DPlan_put_behind.kp⟩
    mt_Nothing_words := ⟨mt_Nothing_words, im_Nothing_words, DNothing_words.kp⟩
    F__law_deal := Py.fz_d (st := s_law_deal) D_law_deal
    g__law_deal := a_law_deal
    k__law_deal := D_law_deal.kp
    b__law_deal := FunD.bindsN (ps := ["cell", "many"]) D_law_deal fun _ _ _ _ _ _ us hl => match us, hl with | [_, _], _ => rfl
    F__law_take := Py.fz_d (st := s_law_take) D_law_take
    g__law_take := a_law_take
    k__law_take := D_law_take.kp
    b__law_take := FunD.bindsN (ps := ["pot", "many"]) D_law_take fun _ _ _ _ _ _ us hl => match us, hl with | [_, _], _ => rfl
    F__law_step := Py.fz_d (st := s_law_step) D_law_step
    g__law_step := a_law_step
    k__law_step := D_law_step.kp
    b__law_step := FunD.bindsN (ps := ["pot"]) D_law_step fun _ _ _ _ _ _ us hl => match us, hl with | [_], _ => rfl
    F__law_piece := Py.fz_d (st := s_law_piece) D_law_piece
    g__law_piece := a_law_piece
    k__law_piece := D_law_piece.kp
    b__law_piece := FunD.bindsN (ps := ["pot", "most"]) D_law_piece fun _ _ _ _ _ _ us hl => match us, hl with | [_, _], _ => rfl
    F__law_chain := Py.fz_d (st := s_law_chain) D_law_chain
    g__law_chain := a_law_chain
    k__law_chain := D_law_chain.kp
    b__law_chain := FunD.bindsN (ps := ["pot", "many"]) D_law_chain fun _ _ _ _ _ _ us hl => match us, hl with | [_, _], _ => rfl
    F__law_tree := Py.fz_d (st := s_law_tree) D_law_tree
    g__law_tree := a_law_tree
    k__law_tree := D_law_tree.kp
    b__law_tree := FunD.bindsN (ps := ["pot", "many"]) D_law_tree fun _ _ _ _ _ _ us hl => match us, hl with | [_, _], _ => rfl
    F__law_form := Py.fz_d (st := s_law_form) D_law_form
    g__law_form := a_law_form
    k__law_form := D_law_form.kp
    b__law_form := FunD.bindsN (ps := ["pot", "depth", "most"]) D_law_form fun _ _ _ _ _ _ us hl => match us, hl with | [_, _, _], _ => rfl
    F__law_two := Py.fz_d (st := s_law_two) D_law_two
    g__law_two := a_law_two
    k__law_two := D_law_two.kp
    b__law_two := FunD.bindsN (ps := ["pot"]) D_law_two fun _ _ _ _ _ _ us hl => match us, hl with | [_], _ => rfl
    F__law_shape := Py.fz_d (st := s_law_shape) D_law_shape
    g__law_shape := a_law_shape
    k__law_shape := D_law_shape.kp
    b__law_shape := FunD.bindsN (ps := ["pot"]) D_law_shape fun _ _ _ _ _ _ us hl => match us, hl with | [_], _ => rfl
    F__law_plan := Py.fz_d (st := s_law_plan) D_law_plan
    g__law_plan := a_law_plan
    k__law_plan := D_law_plan.kp
    b__law_plan := FunD.bindsN (ps := ["form"]) D_law_plan fun _ _ _ _ _ _ us hl => match us, hl with | [_], _ => rfl
    F_Keep_put_behind := Py.fz_d (st := sKeep_put_behind) DKeep_put_behind
    k_Keep_put_behind := DKeep_put_behind.kp
    b_Keep_put_behind := FunD.bindsN (ps := ["self", "one"]) DKeep_put_behind fun _ _ _ _ _ _ us hl => match us, hl with | [_, _], _ => rfl
    F_Plan_put_behind := Py.fz_d (st := sPlan_put_behind) DPlan_put_behind
    k_Plan_put_behind := DPlan_put_behind.kp
    b_Plan_put_behind := FunD.bindsN (ps := ["self", "one"]) DPlan_put_behind fun _ _ _ _ _ _ us hl => match us, hl with | [_, _], _ => rfl
    F_Move_put_behind := Py.fz_d (st := sMove_put_behind) DMove_put_behind
    k_Move_put_behind := DMove_put_behind.kp
    b_Move_put_behind := FunD.bindsN (ps := ["self", "one"]) DMove_put_behind fun _ _ _ _ _ _ us hl => match us, hl with | [_, _], _ => rfl
    F_Eat_put_behind := Py.fz_d (st := sEat_put_behind) DEat_put_behind
    k_Eat_put_behind := DEat_put_behind.kp
    b_Eat_put_behind := FunD.bindsN (ps := ["self", "one"]) DEat_put_behind fun _ _ _ _ _ _ us hl => match us, hl with | [_, _], _ => rfl
    F_Grow_put_behind := Py.fz_d (st := sGrow_put_behind) DGrow_put_behind
    k_Grow_put_behind := DGrow_put_behind.kp
    b_Grow_put_behind := FunD.bindsN (ps := ["self", "one"]) DGrow_put_behind fun _ _ _ _ _ _ us hl => match us, hl with | [_, _], _ => rfl
    F_Both_put_behind := Py.fz_d (st := sBoth_put_behind) DBoth_put_behind
    k_Both_put_behind := DBoth_put_behind.kp
    b_Both_put_behind := FunD.bindsN (ps := ["self", "one"]) DBoth_put_behind fun _ _ _ _ _ _ us hl => match us, hl with | [_, _], _ => rfl
    F_Either_put_behind := Py.fz_d (st := sEither_put_behind) DEither_put_behind
    k_Either_put_behind := DEither_put_behind.kp
    b_Either_put_behind := FunD.bindsN (ps := ["self", "one"]) DEither_put_behind fun _ _ _ _ _ _ us hl => match us, hl with | [_, _], _ => rfl
    F_Plan_parts_in := Py.fz_d (st := sPlan_parts_in) DPlan_parts_in
    k_Plan_parts_in := DPlan_parts_in.kp
    b_Plan_parts_in := FunD.bindsN (ps := ["self"]) DPlan_parts_in fun _ _ _ _ _ _ us hl => match us, hl with | [_], _ => rfl
    F_Move_parts_in := Py.fz_d (st := sMove_parts_in) DMove_parts_in
    k_Move_parts_in := DMove_parts_in.kp
    b_Move_parts_in := FunD.bindsN (ps := ["self"]) DMove_parts_in fun _ _ _ _ _ _ us hl => match us, hl with | [_], _ => rfl
    F_Eat_parts_in := Py.fz_d (st := sEat_parts_in) DEat_parts_in
    k_Eat_parts_in := DEat_parts_in.kp
    b_Eat_parts_in := FunD.bindsN (ps := ["self"]) DEat_parts_in fun _ _ _ _ _ _ us hl => match us, hl with | [_], _ => rfl
    F_Grow_parts_in := Py.fz_d (st := sGrow_parts_in) DGrow_parts_in
    k_Grow_parts_in := DGrow_parts_in.kp
    b_Grow_parts_in := FunD.bindsN (ps := ["self"]) DGrow_parts_in fun _ _ _ _ _ _ us hl => match us, hl with | [_], _ => rfl
    F_Both_parts_in := Py.fz_d (st := sBoth_parts_in) DBoth_parts_in
    k_Both_parts_in := DBoth_parts_in.kp
    b_Both_parts_in := FunD.bindsN (ps := ["self"]) DBoth_parts_in fun _ _ _ _ _ _ us hl => match us, hl with | [_], _ => rfl
    F_Either_parts_in := Py.fz_d (st := sEither_parts_in) DEither_parts_in
    k_Either_parts_in := DEither_parts_in.kp
    b_Either_parts_in := FunD.bindsN (ps := ["self"]) DEither_parts_in fun _ _ _ _ _ _ us hl => match us, hl with | [_], _ => rfl
    F_many_in := Py.fz_d (st := smany_in) Dmany_in
    g_many_in := amany_in
    k_many_in := Dmany_in.kp
    b_many_in := FunD.bindsN (ps := ["plan"]) Dmany_in fun _ _ _ _ _ _ us hl => match us, hl with | [_], _ => rfl
    F_deep := Py.fz_d (st := sdeep) Ddeep
    g_deep := adeep
    k_deep := Ddeep.kp
    b_deep := FunD.bindsN (ps := ["plan"]) Ddeep fun _ _ _ _ _ _ us hl => match us, hl with | [_], _ => rfl
    F_let_by := Py.fz_d (st := slet_by) Dlet_by
    g_let_by := alet_by
    k_let_by := Dlet_by.kp
    b_let_by := FunD.bindsN (ps := ["plan"]) Dlet_by fun _ _ _ _ _ _ us hl => match us, hl with | [_], _ => rfl
    F_after := Py.fz_d (st := safter) Dafter
    g_after := aafter
    k_after := Dafter.kp
    b_after := FunD.bindsN (ps := ["one", "other"]) Dafter fun _ _ _ _ _ _ us hl => match us, hl with | [_, _], _ => rfl
    F__law_kind := Py.fz_d (st := s_law_kind) D_law_kind
    g__law_kind := a_law_kind
    k__law_kind := D_law_kind.kp
    b__law_kind := FunD.bindsN (ps := ["error"]) D_law_kind fun _ _ _ _ _ _ us hl => match us, hl with | [_], _ => rfl
    F__law_asked := Py.fz_d (st := s_law_asked) D_law_asked
    g__law_asked := a_law_asked
    k__law_asked := D_law_asked.kp
    b__law_asked := FunD.bindsN (ps := ["way", "one", "other"]) D_law_asked fun _ _ _ _ _ _ us hl => match us, hl with | [_, _, _], _ => rfl
    F__law_put := Py.fz_d (st := s_law_put) D_law_put
    g__law_put := a_law_put
    k__law_put := D_law_put.kp
    b__law_put := FunD.bindsN (ps := ["form", "one"]) D_law_put fun _ _ _ _ _ _ us hl => match us, hl with | [_, _], _ => rfl
    F__law_parts := Py.fz_d (st := s_law_parts) D_law_parts
    g__law_parts := a_law_parts
    k__law_parts := D_law_parts.kp
    b__law_parts := FunD.bindsN (ps := ["form"]) D_law_parts fun _ _ _ _ _ _ us hl => match us, hl with | [_], _ => rfl
    F__law_many := Py.fz_d (st := s_law_many) D_law_many
    g__law_many := a_law_many
    k__law_many := D_law_many.kp
    b__law_many := FunD.bindsN (ps := ["form"]) D_law_many fun _ _ _ _ _ _ us hl => match us, hl with | [_], _ => rfl
    F__law_deep := Py.fz_d (st := s_law_deep) D_law_deep
    g__law_deep := a_law_deep
    k__law_deep := D_law_deep.kp
    b__law_deep := FunD.bindsN (ps := ["form"]) D_law_deep fun _ _ _ _ _ _ us hl => match us, hl with | [_], _ => rfl
    F_Keep_words := Py.fz_d (st := sKeep_words) DKeep_words
    k_Keep_words := DKeep_words.kp
    b_Keep_words := FunD.bindsN (ps := ["self"]) DKeep_words fun _ _ _ _ _ _ us hl => match us, hl with | [_], _ => rfl
    F_Nothing_words := Py.fz_d (st := sNothing_words) DNothing_words
    k_Nothing_words := DNothing_words.kp
    b_Nothing_words := FunD.bindsN (ps := ["self"]) DNothing_words fun _ _ _ _ _ _ us hl => match us, hl with | [_], _ => rfl
    F_Everything_words := Py.fz_d (st := sEverything_words) DEverything_words
    k_Everything_words := DEverything_words.kp
    b_Everything_words := FunD.bindsN (ps := ["self"]) DEverything_words fun _ _ _ _ _ _ us hl => match us, hl with | [_], _ => rfl
    F_step_words := Py.fz_d (st := sstep_words) Dstep_words
    g_step_words := astep_words
    k_step_words := Dstep_words.kp
    b_step_words := FunD.bindsN (ps := ["steps"]) Dstep_words fun _ _ _ _ _ _ us hl => match us, hl with | [_], _ => rfl
    F_Move_words := Py.fz_d (st := sMove_words) DMove_words
    k_Move_words := DMove_words.kp
    b_Move_words := FunD.bindsN (ps := ["self"]) DMove_words fun _ _ _ _ _ _ us hl => match us, hl with | [_], _ => rfl
    F_Eat_words := Py.fz_d (st := sEat_words) DEat_words
    k_Eat_words := DEat_words.kp
    b_Eat_words := FunD.bindsN (ps := ["self"]) DEat_words fun _ _ _ _ _ _ us hl => match us, hl with | [_], _ => rfl
    F_Grow_words := Py.fz_d (st := sGrow_words) DGrow_words
    k_Grow_words := DGrow_words.kp
    b_Grow_words := FunD.bindsN (ps := ["self"]) DGrow_words fun _ _ _ _ _ _ us hl => match us, hl with | [_], _ => rfl
    F_Both_words := Py.fz_d (st := sBoth_words) DBoth_words
    k_Both_words := DBoth_words.kp
    b_Both_words := FunD.bindsN (ps := ["self"]) DBoth_words fun _ _ _ _ _ _ us hl => match us, hl with | [_], _ => rfl
    F_Either_words := Py.fz_d (st := sEither_words) DEither_words
    k_Either_words := DEither_words.kp
    b_Either_words := FunD.bindsN (ps := ["self"]) DEither_words fun _ _ _ _ _ _ us hl => match us, hl with | [_], _ => rfl
    F__law_words := Py.fz_d (st := s_law_words) D_law_words
    g__law_words := a_law_words
    k__law_words := D_law_words.kp
    b__law_words := FunD.bindsN (ps := ["form"]) D_law_words fun _ _ _ _ _ _ us hl => match us, hl with | [_], _ => rfl
    F__law_same := Py.fz_d (st := s_law_same) D_law_same
    g__law_same := a_law_same
    k__law_same := D_law_same.kp
    b__law_same := FunD.bindsN (ps := ["found", "due"]) D_law_same fun _ _ _ _ _ _ us hl => match us, hl with | [_, _], _ => rfl
    F__law_good := Py.fz_d (st := s_law_good) D_law_good
    g__law_good := a_law_good
    k__law_good := D_law_good.kp
    b__law_good := FunD.bindsN (ps := ["found", "form"]) D_law_good fun _ _ _ _ _ _ us hl => match us, hl with | [_, _], _ => rfl
    F_Plan_made := Py.fz_d (st := sPlan_made) DPlan_made
    k_Plan_made := DPlan_made.kp
    b_Plan_made := FunD.bindsN (ps := ["self", "shape"]) DPlan_made fun _ _ _ _ _ _ us hl => match us, hl with | [_, _], _ => rfl
    F_Nothing_made := Py.fz_d (st := sNothing_made) DNothing_made
    k_Nothing_made := DNothing_made.kp
    b_Nothing_made := FunD.bindsN (ps := ["self", "shape"]) DNothing_made fun _ _ _ _ _ _ us hl => match us, hl with | [_, _], _ => rfl
    F_Everything_made := Py.fz_d (st := sEverything_made) DEverything_made
    k_Everything_made := DEverything_made.kp
    b_Everything_made := FunD.bindsN (ps := ["self", "shape"]) DEverything_made fun _ _ _ _ _ _ us hl => match us, hl with | [_, _], _ => rfl
    F_moved_cell := Py.fz_d (st := smoved_cell) Dmoved_cell
    g_moved_cell := amoved_cell
    k_moved_cell := Dmoved_cell.kp
    b_moved_cell := FunD.bindsN (ps := ["cell", "step"]) Dmoved_cell fun _ _ _ _ _ _ us hl => match us, hl with | [_, _], _ => rfl
    F_moved := Py.fz_d (st := smoved) Dmoved
    g_moved := amoved
    k_moved := Dmoved.kp
    b_moved := FunD.bindsN (ps := ["shape", "step"]) Dmoved fun _ _ _ _ _ _ us hl => match us, hl with | [_, _], _ => rfl
    F_Move_made := Py.fz_d (st := sMove_made) DMove_made
    k_Move_made := DMove_made.kp
    b_Move_made := FunD.bindsN (ps := ["self", "shape"]) DMove_made fun _ _ _ _ _ _ us hl => match us, hl with | [_, _], _ => rfl
    F_rising := Py.fz_d (st := srising) Drising
    g_rising := arising
    k_rising := Drising.kp
    b_rising := FunD.bindsN (ps := ["cells"]) Drising fun _ _ _ _ _ _ us hl => match us, hl with | [_], _ => rfl
    F_mirrored := Py.fz_d (st := smirrored) Dmirrored
    g_mirrored := amirrored
    k_mirrored := Dmirrored.kp
    b_mirrored := FunD.bindsN (ps := ["piece"]) Dmirrored fun _ _ _ _ _ _ us hl => match us, hl with | [_], _ => rfl
    F_lies_on := Py.fz_d (st := slies_on) Dlies_on
    g_lies_on := alies_on
    k_lies_on := Dlies_on.kp
    b_lies_on := FunD.bindsN (ps := ["piece", "cell"]) Dlies_on fun _ _ _ _ _ _ us hl => match us, hl with | [_, _], _ => rfl
    F_reached := Py.fz_d (st := sreached) Dreached
    g_reached := areached
    k_reached := Dreached.kp
    b_reached := FunD.bindsN (ps := ["cells", "piece"]) Dreached fun _ _ _ _ _ _ us hl => match us, hl with | [_, _], _ => rfl
    F_less_cell := Py.fz_d (st := sless_cell) Dless_cell
    g_less_cell := aless_cell
    k_less_cell := Dless_cell.kp
    b_less_cell := FunD.bindsN (ps := ["cell", "step"]) Dless_cell fun _ _ _ _ _ _ us hl => match us, hl with | [_, _], _ => rfl
    F_kept_at := Py.fz_d (st := skept_at) Dkept_at
    g_kept_at := akept_at
    k_kept_at := Dkept_at.kp
    b_kept_at := FunD.bindsN (ps := ["cells", "piece"]) Dkept_at fun _ _ _ _ _ _ us hl => match us, hl with | [_, _], _ => rfl
    F_eaten := Py.fz_d (st := seaten) Deaten
    g_eaten := aeaten
    k_eaten := Deaten.kp
    b_eaten := FunD.bindsN (ps := ["shape", "piece"]) Deaten fun _ _ _ _ _ _ us hl => match us, hl with | [_, _], _ => rfl
    F_Eat_made := Py.fz_d (st := sEat_made) DEat_made
    k_Eat_made := DEat_made.kp
    b_Eat_made := FunD.bindsN (ps := ["self", "shape"]) DEat_made fun _ _ _ _ _ _ us hl => match us, hl with | [_, _], _ => rfl
    F_grown := Py.fz_d (st := sgrown) Dgrown
    g_grown := agrown
    k_grown := Dgrown.kp
    b_grown := FunD.bindsN (ps := ["shape", "piece"]) Dgrown fun _ _ _ _ _ _ us hl => match us, hl with | [_, _], _ => rfl
    F_Grow_made := Py.fz_d (st := sGrow_made) DGrow_made
    k_Grow_made := DGrow_made.kp
    b_Grow_made := FunD.bindsN (ps := ["self", "shape"]) DGrow_made fun _ _ _ _ _ _ us hl => match us, hl with | [_, _], _ => rfl
    F_only_in := Py.fz_d (st := sonly_in) Donly_in
    g_only_in := aonly_in
    k_only_in := Donly_in.kp
    b_only_in := FunD.bindsN (ps := ["one", "other"]) Donly_in fun _ _ _ _ _ _ us hl => match us, hl with | [_, _], _ => rfl
    F_both := Py.fz_d (st := sboth) Dboth
    g_both := aboth
    k_both := Dboth.kp
    b_both := FunD.bindsN (ps := ["one", "other"]) Dboth fun _ _ _ _ _ _ us hl => match us, hl with | [_, _], _ => rfl
    F_Both_made := Py.fz_d (st := sBoth_made) DBoth_made
    k_Both_made := DBoth_made.kp
    b_Both_made := FunD.bindsN (ps := ["self", "shape"]) DBoth_made fun _ _ _ _ _ _ us hl => match us, hl with | [_, _], _ => rfl
    F_outside := Py.fz_d (st := soutside) Doutside
    g_outside := aoutside
    k_outside := Doutside.kp
    b_outside := FunD.bindsN (ps := ["shape"]) Doutside fun _ _ _ _ _ _ us hl => match us, hl with | [_], _ => rfl
    F_either := Py.fz_d (st := seither) Deither
    g_either := aeither
    k_either := Deither.kp
    b_either := FunD.bindsN (ps := ["one", "other"]) Deither fun _ _ _ _ _ _ us hl => match us, hl with | [_, _], _ => rfl
    F_Either_made := Py.fz_d (st := sEither_made) DEither_made
    k_Either_made := DEither_made.kp
    b_Either_made := FunD.bindsN (ps := ["self", "shape"]) DEither_made fun _ _ _ _ _ _ us hl => match us, hl with | [_, _], _ => rfl
    F_Plan_done := Py.fz_d (st := sPlan_done) DPlan_done
    k_Plan_done := DPlan_done.kp
    b_Plan_done := FunD.bindsN (ps := ["self", "shape"]) DPlan_done fun _ _ _ _ _ _ us hl => match us, hl with | [_, _], _ => rfl
    F__law_done := Py.fz_d (st := s_law_done) D_law_done
    g__law_done := a_law_done
    k__law_done := D_law_done.kp
    b__law_done := FunD.bindsN (ps := ["plan", "shape"]) D_law_done fun _ _ _ _ _ _ us hl => match us, hl with | [_, _], _ => rfl
    F__law_behind := Py.fz_d (st := s_law_behind) D_law_behind
    g__law_behind := a_law_behind
    k__law_behind := D_law_behind.kp
    b__law_behind := FunD.bindsN (ps := ["one", "other", "chained", "shape"]) D_law_behind fun _ _ _ _ _ _ us hl => match us, hl with | [_, _, _, _], _ => rfl
    F_opening := Py.fz_d (st := sopening) Dopening
    g_opening := aopening
    k_opening := Dopening.kp
    b_opening := FunD.bindsN (ps := ["piece", "plan"]) Dopening fun _ _ _ _ _ _ us hl => match us, hl with | [_, _], _ => rfl
    F_closing := Py.fz_d (st := sclosing) Dclosing
    g_closing := aclosing
    k_closing := Dclosing.kp
    b_closing := FunD.bindsN (ps := ["piece", "plan"]) Dclosing fun _ _ _ _ _ _ us hl => match us, hl with | [_, _], _ => rfl
    F_law := Py.fz_d (st := slaw) Dlaw
    g_law := alaw
    k_law := Dlaw.kp
    b_law := FunD.bindsN (ps := ["script"]) Dlaw fun _ _ _ _ _ _ us hl => match us, hl with | [_], _ => rfl
    F_Move___init__ := Py.fun_d (st := sMove___init__) DMove___init__
    k_Move___init__ := DMove___init__.kp
    b_Move___init__ := FunD.bindsN (ps := ["self", "step", "plan"]) DMove___init__ fun _ _ _ _ _ _ us hl => match us, hl with | [_, _, _], _ => rfl
    F_Eat___init__ := Py.fun_d (st := sEat___init__) DEat___init__
    k_Eat___init__ := DEat___init__.kp
    b_Eat___init__ := FunD.bindsN (ps := ["self", "piece", "plan"]) DEat___init__ fun _ _ _ _ _ _ us hl => match us, hl with | [_, _, _], _ => rfl
    F_Grow___init__ := Py.fun_d (st := sGrow___init__) DGrow___init__
    k_Grow___init__ := DGrow___init__.kp
    b_Grow___init__ := FunD.bindsN (ps := ["self", "piece", "plan"]) DGrow___init__ fun _ _ _ _ _ _ us hl => match us, hl with | [_, _, _], _ => rfl
    F_Both___init__ := Py.fun_d (st := sBoth___init__) DBoth___init__
    k_Both___init__ := DBoth___init__.kp
    b_Both___init__ := FunD.bindsN (ps := ["self", "one", "other"]) DBoth___init__ fun _ _ _ _ _ _ us hl => match us, hl with | [_, _, _], _ => rfl
    F_Either___init__ := Py.fun_d (st := sEither___init__) DEither___init__
    k_Either___init__ := DEither___init__.kp
    b_Either___init__ := FunD.bindsN (ps := ["self", "one", "other"]) DEither___init__ fun _ _ _ _ _ _ us hl => match us, hl with | [_, _, _], _ => rfl
    gc_BadCell := ac_BadCell
    gc_BadPiece := ac_BadPiece
    gc_Both := ac_Both
    gc_Eat := ac_Eat
    gc_Either := ac_Either
    gc_Everything := ac_Everything
    gc_Grow := ac_Grow
    gc_Keep := ac_Keep
    gc_MossError := ac_MossError
    gc_Move := ac_Move
    gc_Nothing := ac_Nothing
    gc_TooMany := ac_TooMany
    x_TooMany := ⟨ac_TooMany, yk_TooMany, ye_TooMany, yt_TooMany, ⟨yg_TooMany, yh_TooMany, yb_TooMany, yd_TooMany, ya_TooMany, yn, yx, ym_TooMany⟩⟩
    e_TooMany_MossError := PySem.W.exm_ref yb_MossError yd_MossError yt_MossError ye_TooMany_MossError
    e_TooMany_TooMany := PySem.W.exm_ref yb_TooMany yd_TooMany yt_TooMany ye_TooMany_TooMany
    i_Both_str := yi_Both_str
    i_Eat_str := yi_Eat_str
    i_Either_str := yi_Either_str
    i_Everything_str := yi_Everything_str
    i_Grow_str := yi_Grow_str
    i_Keep_str := yi_Keep_str
    i_Move_str := yi_Move_str
    i_Nothing_str := yi_Nothing_str
    i_TooMany_TooMany := yi_TooMany_TooMany
    i_TooMany_ValueError := yi_TooMany_ValueError
    t_TooMany_BadCell_BadPiece := yt_TooMany_BadCell_BadPiece
    n_ValueError := z_ValueError
    n_all := z_all
    n_bool := z_bool
    n_int := z_int
    n_isinstance := z_isinstance
    n_len := z_len
    n_list := z_list
    n_max := z_max
    n_min := z_min
    n_range := z_range
    n_set := z_set
    n_sorted := z_sorted
    n_str := z_str
    n_sum := z_sum
    n_tuple := z_tuple
    n_zip := z_zip
    c_DEEPEST := v_DEEPEST
    c_MOST_MADE := v_MOST_MADE
    c_MOST_PLANS := v_MOST_PLANS
  }
  have b := FunD.bindsA (ps := ["script"]) Dlaw fun _ _ _ _ _ _ us hl => match us, hl with | [_], _ => rfl
  exact ⟨dlaw, fun s v => b s [v] rfl, fun base _ _ => law_fn (w_law T) law_ok⟩
end G
open PySem PySem.W PyProof.Rows
set_option maxHeartbeats 0 in
theorem PySem.Challenge.cw_edgewide_k46_whole_after_holds : PySem.Challenge.rw_edgewide_k46_whole_after.Holds := by
  w_on; o_law
  refine HandSHeadRun.head_any (r := OpenLaw.row PySem.Challenge.rw_edgewide_k46_whole_after) (q := view (OpenLaw.row PySem.Challenge.rw_edgewide_k46_whole_after).prog [68]) (H := G.hk0) (ob := G.ob0) (M := 60000) (loose := G.nml) (d := HandSHeadRun.topDef (OpenLaw.row PySem.Challenge.rw_edgewide_k46_whole_after).prog 68) (kwd := []) G.ob0_eq
    (by kernel_rfl) (fun s => by kernel_rfl) G.run0 (by kernel_rfl) (by kernel_rfl) (by kernel_rfl) (by rfl) (by first | assumption | decide +kernel) (by decide +kernel) ⟨rfl, rfl, rfl, rfl, rfl, by decide +kernel⟩ ?hw ?hc
  case hw => w_witness2
  case hc =>
    refine Py.walk_ofP (l := PySem.Challenge.rw_edgewide_k46_whole_after) (n := 63) (k := 127) (x := "script") (CX := fun w => L2.CX (PySem.Challenge.rw_edgewide_k46_whole_after).prog w) rfl (by decide) (by kernel_rfl) ⟨rfl, by decide, by decide⟩ ?F (fun _ _ _ _ _ h => Py.cx_end h)
    intro w mg fa h Y gns hmg0
    obtain ⟨K, KX, c, e⟩ := Y
    have hmg : mg ("law" : PySem.Str) = some (.ref fa) := by
      have e : (HandSHeadRun.topDef (OpenLaw.row PySem.Challenge.rw_edgewide_k46_whole_after).prog 68).name = ("law" : PySem.Str) := by kernel_rfl
      rw [← e]
      exact hmg0
    obtain ⟨fd, hb, hF⟩ := G.all_mk (w := w) KX gns hmg c e
    exact ⟨K, fd, Py.SpL K, KX, hb, fun H a ns hl hbits _ hS => ⟨a, ns, rfl, hS, hl, hbits, fun _ => rfl⟩, hF⟩
