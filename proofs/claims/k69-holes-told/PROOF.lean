import PyProof.Rows.All
import Wide.All
import OpenK.AllK
import Wide.FinOn
import HandS.ForMost
import HandS.TupSets
import HandS.SortRule
import HandS.IsInst
import HandS.Wide
import HandS.WideBits
import HandS.Flow
import HandS.Deep
import HandS.TupAny
import HandS.Exc
import HandS.TryOnly
import HandS.ExcOwn
import HandS.CallSlots
import HandS.WordsExc
import HandS.ExcIs
import HandS.EndBits
import HandS.Defaults
import HandS.SortInts
import HandS.Style
import HandS.Conv
import PyProof.TupleOfSeq
import HandS.TupLen
import KE.KExcIs
import HandS.Rev
import PyProof.ListRange
import HandS.Zip
import KE.DatumOrd
import HandS.DictTup
import PyProof.EnumIter
import HandS.ExcValue
import PyProof.DictMoreH
import HandS.List
import HandS.New0
import HandS.SortKw
import HandS.HotCalls
import KE.GoesEnum
import HandS.HeadHook2
import KE.KStateDown
import HandS.Head0
import HandS.Head1
import HandS.Head2
import HandS.HeadEnd
import HandS.HeadHook1
import PySem.Challenge.RW_edgewide_k69_holes_told
set_option Elab.async false
set_option linter.all false
set_option maxRecDepth 100000
set_option maxHeartbeats 40000000
/-! Own layer, part A: what a program text makes, as plain Lean data (R), what stands for data on the heap (Rp), what the slots hold (Sl, SA). -/
namespace Py
open PySem PySem.Spec PyProof.Rows L2

structure Er where
  cls : Str
  fld : Option Int := none

/-- a result: a value, a raised error, or «not covered» -/
inductive R (α : Type) where
  | ok (a : α)
  | er (e : Er)
  | bad
def R.bind {α β : Type} : R α → (α → R β) → R β
  | .ok a, k => k a
  | .er e, _ => .er e
  | .bad, _ => .bad
theorem R.bind_pure {α : Type} (m : R α) : (m.bind fun x => .ok x) = m := by cases m <;> rfl
theorem R.bind_assoc {α β γ : Type} (m : R α) (f : α → R β) (g : β → R γ) : (m.bind f).bind g = m.bind fun x => (f x).bind g := by cases m <;> rfl
theorem R.ok_bind {α β : Type} (a : α) (f : α → R β) : (R.ok a).bind f = f a := rfl
/-- errors are not covered here -/
def R.calm {α : Type} : R α → R α
  | .ok a => .ok a
  | .er _ => .bad
  | .bad => .bad
theorem R.ok_calm {α : Type} (a : α) : (R.ok a).calm = R.ok a := rfl
/-- under a condition -/
def chk (c : Prop) [Decidable c] {α : Type} (a : α) : R α := if c then .ok a else .bad
def ofOpt {α : Type} : Option α → R α
  | some a => .ok a
  | none => .bad

def wpR {α : Type} (m : R α) (K : α → Prop) (Z : Er → Prop) : Prop := match m with
  | .ok a => K a
  | .er e => Z e
  | .bad => False
theorem wpR_bind {α β : Type} {m : R α} {k : α → R β} {K : β → Prop} {Z : Er → Prop} (h : wpR (m.bind k) K Z) : wpR m (fun a => wpR (k a) K Z) Z := by
  cases m with
  | ok a => exact h
  | er e => exact h
  | bad => exact h
theorem wpR_mono {α : Type} {m : R α} {K K' : α → Prop} {Z Z' : Er → Prop} (h : wpR m K Z) (hk : ∀ a, K a → K' a) (hz : ∀ e, Z e → Z' e) : wpR m K' Z' := by
  cases m with
  | ok a => exact hk a h
  | er e => exact hz e h
  | bad => exact h
theorem wpR_calm {α : Type} {m : R α} {K : α → Prop} {Z : Er → Prop} (h : wpR m.calm K Z) : wpR m K fun _ => False := by
  cases m with
  | ok a => exact h
  | er e => exact False.elim h
  | bad => exact h
theorem wpR_chk {c : Prop} [Decidable c] {α : Type} {a : α} {K : α → Prop} {Z : Er → Prop} (h : wpR (chk c a) K Z) : c ∧ K a := by
  unfold chk at h
  by_cases e : c
  · rw [if_pos e] at h
    exact ⟨e, h⟩
  · rw [if_neg e] at h
    exact False.elim h
theorem wpR_opt {α : Type} {o : Option α} {K : α → Prop} {Z : Er → Prop} (h : wpR (ofOpt o) K Z) : ∃ a, o = some a ∧ K a := by
  cases o with
  | none => exact False.elim h
  | some a => exact ⟨a, rfl, h⟩

/-! ### data on the heap -/
theorem Same.upd {H : Hp} {p : Addr} {o : HO} (h : H p = none) : Same H (upd H p o) := fun b x e => by
  rw [upd_ne (ne_of_none e h)]
  exact e
structure Rp (α : Type) where
  rep : α → Hp → V → Prop
  mono : ∀ {a : α} {H H' : Hp} {v : V}, Same H H' → rep a H v → rep a H' v
/-- several values in a row -/
structure Tr (τ : Type) where
  rep : τ → Hp → List V → Prop
  mono : ∀ {a : τ} {H H' : Hp} {vs : List V}, Same H H' → rep a H vs → rep a H' vs
def rI : Rp Int := ⟨fun i _ v => v = .int i, fun _ h => h⟩
def rB : Rp Bool := ⟨fun b _ v => v = .bl b, fun _ h => h⟩
def rN : Rp Unit := ⟨fun _ _ v => v = .non, fun _ h => h⟩
def rO {α : Type} (ρ : Rp α) : Rp (Option α) :=
  ⟨fun a H v => match a with | none => v = .non | some x => ρ.rep x H v, fun {a H H' v} e h => by
    cases a with
    | none => exact h
    | some x => exact ρ.mono e h⟩
def t0 : Tr Unit := ⟨fun _ _ vs => vs = [], fun _ h => h⟩
def t1 {α : Type} (ρ : Rp α) : Tr α := ⟨fun a H vs => ∃ v, vs = [v] ∧ ρ.rep a H v, fun e ⟨v, h, r⟩ => ⟨v, h, ρ.mono e r⟩⟩
def tc {α τ : Type} (ρ : Rp α) (t : Tr τ) : Tr (α × τ) := ⟨fun a H vs => ∃ v ws, vs = v :: ws ∧ ρ.rep a.1 H v ∧ t.rep a.2 H ws, fun e ⟨v, ws, h, r, q⟩ => ⟨v, ws, h, ρ.mono e r, t.mono e q⟩⟩
inductive RepL {α : Type} (ρ : Rp α) (H : Hp) : List α → List V → Prop
  | nil : RepL ρ H [] []
  | cons {a : α} {as : List α} {v : V} {vs : List V} : ρ.rep a H v → RepL ρ H as vs → RepL ρ H (a :: as) (v :: vs)
theorem RepL.mono {α : Type} {ρ : Rp α} {H H' : Hp} (e : Same H H') : ∀ {as : List α} {vs : List V}, RepL ρ H as vs → RepL ρ H' as vs
  | _, _, .nil => .nil
  | _, _, .cons r t => .cons (ρ.mono e r) (RepL.mono e t)
theorem RepL.length {α : Type} {ρ : Rp α} {H : Hp} : ∀ {as : List α} {vs : List V}, RepL ρ H as vs → as.length = vs.length
  | _, _, .nil => rfl
  | _, _, .cons r t => congrArg (· + 1) (RepL.length t)
theorem RepL.append {α : Type} {ρ : Rp α} {H : Hp} : ∀ {as bs : List α} {vs ws : List V}, RepL ρ H as vs → RepL ρ H bs ws → RepL ρ H (as ++ bs) (vs ++ ws)
  | _, _, _, _, .nil, q => q
  | _, _, _, _, .cons r t, q => .cons r (RepL.append t q)
theorem RepL.get {α : Type} {ρ : Rp α} {H : Hp} : ∀ {as : List α} {vs : List V} {i : Nat} {v : V}, RepL ρ H as vs → vs[i]? = some v → ∃ a, as[i]? = some a ∧ ρ.rep a H v
  | _, _, _, _, .nil, e => by simp at e
  | _, _, 0, _, .cons r _, e => by
    simp at e
    subst e
    exact ⟨_, rfl, r⟩
  | _, _, i + 1, v, .cons _ t, e => by
    obtain ⟨a, h1, h2⟩ := RepL.get (i := i) t (by simpa using e)
    exact ⟨a, by simpa using h1, h2⟩
theorem RepL.got {α : Type} {ρ : Rp α} {H : Hp} : ∀ {as : List α} {vs : List V} {i : Nat} {a : α}, RepL ρ H as vs → as[i]? = some a → ∃ v, vs[i]? = some v ∧ ρ.rep a H v
  | _, _, _, _, .nil, e => by simp at e
  | _, _, 0, _, .cons r _, e => by
    simp at e
    subst e
    exact ⟨_, rfl, r⟩
  | _, _, i + 1, v, .cons _ t, e => by
    obtain ⟨a, h1, h2⟩ := RepL.got (i := i) t (by simpa using e)
    exact ⟨a, by simpa using h1, h2⟩
theorem RepL.take {α : Type} {ρ : Rp α} {H : Hp} : ∀ {as : List α} {vs : List V} (n : Nat), RepL ρ H as vs → RepL ρ H (as.take n) (vs.take n)
  | _, _, 0, _ => .nil
  | _, _, _ + 1, .nil => .nil
  | _, _, n + 1, .cons r t => .cons r (RepL.take n t)
theorem RepL.drop {α : Type} {ρ : Rp α} {H : Hp} : ∀ {as : List α} {vs : List V} (n : Nat), RepL ρ H as vs → RepL ρ H (as.drop n) (vs.drop n)
  | _, _, 0, r => r
  | _, _, _ + 1, .nil => .nil
  | _, _, n + 1, .cons _ t => RepL.drop n t
theorem RepL.set {α : Type} {ρ : Rp α} {H : Hp} {a : α} {v : V} (r : ρ.rep a H v) : ∀ {as : List α} {vs : List V} (i : Nat), RepL ρ H as vs → RepL ρ H (as.set i a) (vs.set i v)
  | _, _, _, .nil => .nil
  | _, _, 0, .cons _ t => .cons r t
  | _, _, i + 1, .cons q t => .cons q (RepL.set r i t)
def tl {α : Type} (ρ : Rp α) : Tr (List α) := ⟨fun a H vs => RepL ρ H a vs, fun e h => h.mono e⟩
/-- a tuple -/
def rTu {τ : Type} (t : Tr τ) : Rp τ := ⟨fun a H v => ∃ p vs, v = .ref p ∧ H p = some (.tup vs) ∧ t.rep a H vs, fun e ⟨p, vs, h, q, r⟩ => ⟨p, vs, h, e p _ q, t.mono e r⟩⟩
/-- a list that stays as it is -/
def rLi {τ : Type} (t : Tr τ) : Rp τ := ⟨fun a H v => ∃ p vs, v = .ref p ∧ H p = some (.lst vs) ∧ t.rep a H vs, fun e ⟨p, vs, h, q, r⟩ => ⟨p, vs, h, e p _ q, t.mono e r⟩⟩
abbrev rT {α : Type} (ρ : Rp α) : Rp (List α) := rTu (tl ρ)
abbrev rL {α : Type} (ρ : Rp α) : Rp (List α) := rLi (tl ρ)
abbrev rP {α β : Type} (ρ : Rp α) (π : Rp β) : Rp (α × β) := rTu (tc ρ (t1 π))
abbrev rC : Rp (Int × Int) := rP rI rI
/-- the script: a list of ints that is read alone -/
def rScr (K : PySem.W.Frag) : Rp (List Int) := ⟨fun ns H v => ∃ p, v = .ref p ∧ SqL K H p (ns.map V.int), fun e ⟨p, h, q⟩ => ⟨p, h, Same.seq e q⟩⟩

/-! ### slots -/
structure PRp where
  p : Hp → V → Prop
  m : ∀ {H H' : Hp} {v : V}, Same H H' → p H v → p H' v
structure ORp where
  p : Hp → HO → Prop
  m : ∀ {H H' : Hp} {o : HO}, Same H H' → p H o → p H' o
  nt : ∀ {H : Hp} {o : HO}, p H o → ∀ vs, o ≠ .tup vs
inductive Sl where
  | any
  | imm (p : PRp)
  | own (a : Option Addr) (o : ORp)
abbrev im {α : Type} (ρ : Rp α) (a : α) : Sl := .imm ⟨fun H v => ρ.rep a H v, fun e h => ρ.mono e h⟩
/-- an entry: what was known, the heap, the objects that may be changed -/
structure En where
  F : Hp
  H : Hp
  ps : Addr → Prop

structure SA (en : En) (Γ : List Sl) (F : Hp) (σ : L2.St) (H : Hp) : Prop where
  len : Γ.length ≤ σ.length
  sub : Same F H
  grow : Same en.F F
  old : ∀ p o, en.H p = some o → ¬ en.ps p → H p = some o
  there : ∀ p, en.H p ≠ none → H p ≠ none
  frz : ∀ p, en.H p ≠ none → en.F p = none → ¬ en.ps p → F p = none ∨ ∃ vs, F p = some (.tup vs)
  val : ∀ (i : Nat) (P : PRp), Γ[i]? = some (.imm P) → ∃ v, σ[i]? = some (some v) ∧ P.p F v
  own : ∀ (i : Nat) (a : Option Addr) (P : ORp), Γ[i]? = some (.own a P) → ∃ p o, σ[i]? = some (some (.ref p)) ∧ F p = none ∧ H p = some o ∧ P.p F o ∧ (en.H p = none ∨ en.ps p) ∧ (∀ q, a = some q → p = q)
  dis : ∀ (i j : Nat) (a b : Option Addr) (P Q : ORp) (p : Addr), i ≠ j → Γ[i]? = some (.own a P) → Γ[j]? = some (.own b Q) → σ[i]? = some (some (.ref p)) → σ[j]? ≠ some (some (.ref p))

/-- the heap grows, what is known grows by what is new -/
structure Ext (F H F' H' : Hp) : Prop where
  f : Same F F'
  h : Same H H'
  s : Same F' H'
  n : ∀ p, H p ≠ none → F p = none → F' p = none ∨ ∃ vs, F' p = some (.tup vs)
theorem Ext.refl {F H : Hp} (e : Same F H) : Ext F H F H := ⟨Same.refl F, Same.refl H, e, fun _ _ h => .inl h⟩
theorem same_ne {H H' : Hp} (e : Same H H') {p : Addr} (h : H p ≠ none) : H' p ≠ none := by
  cases q : H p with
  | none => exact absurd q h
  | some o =>
    rw [e p o q]
    exact fun z => nomatch z
theorem Ext.trans {F H F1 H1 F2 H2 : Hp} (a : Ext F H F1 H1) (b : Ext F1 H1 F2 H2) : Ext F H F2 H2 :=
  ⟨a.f.trans b.f, a.h.trans b.h, b.s, fun p hp hf => (a.n p hp hf).elim (fun z => b.n p (same_ne a.h hp) z) fun ⟨vs, z⟩ => .inr ⟨vs, b.f p _ z⟩⟩
/-- a new object that is known at once -/
theorem Ext.new {F H : Hp} (e : Same F H) {p : Addr} {o : HO} (h : H p = none) : Ext F H (upd F p o) (upd H p o) := by
  have hf : F p = none := by
    cases q : F p with
    | none => rfl
    | some x =>
      rw [e p x q] at h
      cases h
  refine ⟨Same.upd hf, Same.upd h, fun b x q => ?_, fun q hq hn => ?_⟩
  · by_cases hb : b = p
    · subst hb
      rw [upd_same] at q ⊢
      exact q
    · rw [upd_ne hb] at q ⊢
      exact e b x q
  · have : q ≠ p := fun z => by
      subst z
      exact hq h
    exact .inl (by rw [upd_ne this]; exact hn)
/-- a new object that is not known -/
theorem Ext.lay {F H : Hp} (e : Same F H) {p : Addr} {o : HO} (h : H p = none) : Ext F H F (upd H p o) :=
  ⟨Same.refl F, Same.upd h, e.trans (Same.upd h), fun _ _ z => .inl z⟩

section
variable {en : En} {Γ Γ' : List Sl} {F F' H H' : Hp} {σ σ' : L2.St}
theorem SA.ext (s : SA en Γ F σ H) (x : Ext F H F' H') : SA en Γ F' σ H' where
  len := s.len
  sub := x.s
  grow := s.grow.trans x.f
  old := fun p o h hp => x.h p o (s.old p o h hp)
  there := fun p h => same_ne x.h (s.there p h)
  frz := fun p h hf hp => (s.frz p h hf hp).elim (fun z => x.n p (s.there p h) z) fun ⟨vs, z⟩ => .inr ⟨vs, x.f p _ z⟩
  val := fun i P h => by
    obtain ⟨v, h1, h2⟩ := s.val i P h
    exact ⟨v, h1, P.m x.f h2⟩
  own := fun i a P h => by
    obtain ⟨p, o, h1, h2, h3, h4, h5, h6⟩ := s.own i a P h
    refine ⟨p, o, h1, ?_, x.h p o h3, P.m x.f h4, h5, h6⟩
    rcases x.n p (fun z => by rw [h3] at z; cases z) h2 with z | ⟨vs, z⟩
    · exact z
    · have y := x.s p _ z
      rw [x.h p o h3] at y
      exact absurd (Option.some.inj y) (P.nt h4 vs)
  dis := s.dis
/-- a slot is set to a known value -/
theorem SA.put (s : SA en Γ F σ H) {i : Nat} {P : PRp} {v : V} (h : P.p F v) : SA en (Γ.set i (.imm P)) F (σ.set i (some v)) H where
  len := by
    rw [List.length_set, List.length_set]
    exact s.len
  sub := s.sub
  grow := s.grow
  old := s.old
  there := s.there
  frz := s.frz
  val := fun j Q hj => by
    by_cases e : i = j
    · subst e
      by_cases hi : i < Γ.length
      · rw [List.getElem?_set_self hi] at hj
        injection hj with hj
        injection hj with hj
        subst hj
        exact ⟨v, List.getElem?_set_self (Nat.lt_of_lt_of_le hi s.len), h⟩
      · rw [List.getElem?_eq_none (by rw [List.length_set]; omega)] at hj
        cases hj
    · rw [List.getElem?_set_ne e] at hj ⊢
      exact s.val j Q hj
  own := fun j a Q hj => by
    by_cases e : i = j
    · subst e
      by_cases hi : i < Γ.length
      · rw [List.getElem?_set_self hi] at hj
        cases hj
      · rw [List.getElem?_eq_none (by rw [List.length_set]; omega)] at hj
        cases hj
    · rw [List.getElem?_set_ne e] at hj ⊢
      exact s.own j a Q hj
  dis := fun j k a b P' Q p hjk hj hk hp => by
    have ne : ∀ {l : Nat} {a : Option Addr} {P' : ORp}, (Γ.set i (.imm P))[l]? = some (.own a P') → i ≠ l := fun {l a P'} hl e => by
      subst e
      by_cases hi : i < Γ.length
      · rw [List.getElem?_set_self hi] at hl
        cases hl
      · rw [List.getElem?_eq_none (by rw [List.length_set]; omega)] at hl
        cases hl
    have nj := ne hj
    have nk := ne hk
    rw [List.getElem?_set_ne nj] at hj hp
    rw [List.getElem?_set_ne nk] at hk ⊢
    exact s.dis j k a b P' Q p hjk hj hk hp
/-- an object that no slot has, that is not known -/
structure Fresh (en : En) (Γ : List Sl) (F : Hp) (σ : L2.St) (H : Hp) (p : Addr) (o : HO) : Prop where
  f : F p = none
  e : en.H p = none
  n : ∀ (i : Nat) (a : Option Addr) (P : ORp), Γ[i]? = some (.own a P) → σ[i]? ≠ some (some (.ref p))
  h : H p = some o
theorem none_back {H H' : Hp} (e : Same H H') {p : Addr} (h : H' p = none) : H p = none := by
  cases q : H p with
  | none => rfl
  | some x =>
    rw [e p x q] at h
    cases h
theorem SA.gone (s : SA en Γ F σ H) {p : Addr} (hp : H p = none) : en.H p = none := by
  cases q : en.H p with
  | none => rfl
  | some x => exact absurd hp (s.there p (by rw [q]; exact fun z => nomatch z))
theorem SA.ref_ne (s : SA en Γ F σ H) {p : Addr} (hp : H p = none) (i : Nat) (a : Option Addr) (P : ORp) (hi : Γ[i]? = some (.own a P)) : σ[i]? ≠ some (some (.ref p)) := fun z => by
  obtain ⟨q, x, h1, h2, h3, _⟩ := s.own i a P hi
  rw [h1] at z
  injection z with z
  injection z with z
  injection z with z
  subst z
  rw [h3] at hp
  cases hp
/-- a new object is laid -/
theorem SA.lay (s : SA en Γ F σ H) {p : Addr} {o : HO} (hp : H p = none) : SA en Γ F σ (upd H p o) ∧ Fresh en Γ F σ (upd H p o) p o :=
  ⟨s.ext (Ext.lay s.sub hp), none_back s.sub hp, s.gone hp, s.ref_ne hp, upd_same⟩
/-- it becomes known -/
theorem SA.know (s : SA en Γ F σ H) {p : Addr} {o : HO} (h : Fresh en Γ F σ H p o) : SA en Γ (upd F p o) σ H ∧ Same F (upd F p o) := by
  have sf : Same F (upd F p o) := Same.upd h.f
  refine ⟨⟨s.len, fun b x e => ?_, s.grow.trans sf, s.old, s.there, fun b hb hf hps => ?_, fun j Q hj => ?_, fun j b Q hj => ?_, s.dis⟩, sf⟩
  · by_cases z : b = p
    · subst z
      rw [upd_same] at e
      cases e
      exact h.h
    · rw [upd_ne z] at e
      exact s.sub b x e
  · have : b ≠ p := fun z => by
      subst z
      exact hb h.e
    rcases s.frz b hb hf hps with z | ⟨vs, z⟩
    · exact .inl (by rw [upd_ne this]; exact z)
    · exact .inr ⟨vs, by rw [upd_ne this]; exact z⟩
  · obtain ⟨v, g1, g2⟩ := s.val j Q hj
    exact ⟨v, g1, Q.m sf g2⟩
  · obtain ⟨q, x, g1, g2, g3, g4, g5, g6⟩ := s.own j b Q hj
    have : q ≠ p := fun z => by
      subst z
      exact h.n j b Q hj g1
    exact ⟨q, x, g1, by rw [upd_ne this]; exact g2, g3, Q.m sf g4, g5, g6⟩
theorem no_tup {F H : Hp} (sub : Same F H) {p : Addr} {o : HO} (h : F p = none ∨ ∃ vs, F p = some (.tup vs)) (ho : H p = some o) (hm : ∀ vs, o ≠ .tup vs) : F p = none := by
  rcases h with z | ⟨vs, z⟩
  · exact z
  · have y := sub p _ z
    rw [ho] at y
    exact absurd (Option.some.inj y) (hm vs)
/-- a tuple may become known at any time -/
theorem SA.learn (s : SA en Γ F σ H) {p : Addr} {vs : List V} (hp : H p = some (.tup vs)) (hf : F p = none) : SA en Γ (upd F p (.tup vs)) σ H ∧ Same F (upd F p (.tup vs)) := by
  have sf : Same F (upd F p (.tup vs)) := Same.upd hf
  refine ⟨⟨s.len, fun b x e => ?_, s.grow.trans sf, s.old, s.there, fun b hb hf hps => ?_, fun j Q hj => ?_, fun j b Q hj => ?_, s.dis⟩, sf⟩
  · by_cases z : b = p
    · subst z
      rw [upd_same] at e
      cases e
      exact hp
    · rw [upd_ne z] at e
      exact s.sub b x e
  · by_cases z : b = p
    · subst z
      exact .inr ⟨vs, upd_same⟩
    · rcases s.frz b hb hf hps with y | ⟨ws, y⟩
      · exact .inl (by rw [upd_ne z]; exact y)
      · exact .inr ⟨ws, by rw [upd_ne z]; exact y⟩
  · obtain ⟨v, g1, g2⟩ := s.val j Q hj
    exact ⟨v, g1, Q.m sf g2⟩
  · obtain ⟨q, x, g1, g2, g3, g4, g5, g6⟩ := s.own j b Q hj
    have : q ≠ p := fun z => by
      subst z
      rw [hp] at g3
      exact Q.nt g4 vs (Option.some.inj g3).symm
    exact ⟨q, x, g1, by rw [upd_ne this]; exact g2, g3, Q.m sf g4, g5, g6⟩
/-- a slot is set to it -/
theorem SA.putOwn (s : SA en Γ F σ H) {i : Nat} {P : ORp} {p : Addr} {o : HO} (fr : Fresh en Γ F σ H p o) (h : P.p F o) : SA en (Γ.set i (.own none P)) F (σ.set i (some (.ref p))) H := by
  refine ⟨?_, s.sub, s.grow, s.old, s.there, s.frz, fun j Q hj => ?_, fun j a Q hj => ?_, fun j k a b P' Q q hjk hj hk hq => ?_⟩
  · rw [List.length_set, List.length_set]
    exact s.len
  · by_cases e : i = j
    · subst e
      by_cases hi : i < Γ.length
      · rw [List.getElem?_set_self hi] at hj
        cases hj
      · rw [List.getElem?_eq_none (by rw [List.length_set]; omega)] at hj
        cases hj
    · rw [List.getElem?_set_ne e] at hj ⊢
      exact s.val j Q hj
  · by_cases e : i = j
    · subst e
      by_cases hi : i < Γ.length
      · rw [List.getElem?_set_self hi] at hj
        injection hj with hj
        injection hj with h1 h2
        subst h1 h2
        exact ⟨p, o, List.getElem?_set_self (Nat.lt_of_lt_of_le hi s.len), fr.f, fr.h, h, .inl fr.e, fun q z => nomatch z⟩
      · rw [List.getElem?_eq_none (by rw [List.length_set]; omega)] at hj
        cases hj
    · rw [List.getElem?_set_ne e] at hj ⊢
      exact s.own j a Q hj
  · by_cases ej : i = j
    · subst ej
      have ek : i ≠ k := hjk
      rw [List.getElem?_set_ne ek] at hk ⊢
      have hi : i < Γ.length := by
        by_cases hi : i < Γ.length
        · exact hi
        · rw [List.getElem?_eq_none (by rw [List.length_set]; omega)] at hj
          cases hj
      rw [List.getElem?_set_self (Nat.lt_of_lt_of_le hi s.len)] at hq
      injection hq with hq
      injection hq with hq
      injection hq with hq
      subst hq
      exact fr.n _ _ _ hk
    · rw [List.getElem?_set_ne ej] at hj hq
      by_cases ek : i = k
      · subst ek
        intro z
        have hi : i < Γ.length := by
          by_cases hi : i < Γ.length
          · exact hi
          · rw [List.getElem?_eq_none (by rw [List.length_set]; omega)] at hk
            cases hk
        rw [List.getElem?_set_self (Nat.lt_of_lt_of_le hi s.len)] at z
        injection z with z
        injection z with z
        injection z with z
        subst z
        exact fr.n _ _ _ hj hq
      · rw [List.getElem?_set_ne ek] at hk ⊢
        exact s.dis j k a b P' Q q hjk hj hk hq
/-- an object that is not known, that no slot has, that is new since the entry, is changed -/
theorem SA.other (s : SA en Γ F σ H) {p : Addr} {o o' : HO} (fr : Fresh en Γ F σ H p o) : SA en Γ F σ (upd H p o') ∧ Fresh en Γ F σ (upd H p o') p o' := by
  refine ⟨⟨s.len, fun b x e => ?_, s.grow, fun b x e hb => ?_, fun b hb => ?_, s.frz, s.val, fun j b Q hj => ?_, s.dis⟩, fr.f, fr.e, fr.n, upd_same⟩
  · have : b ≠ p := fun z => by
      subst z
      rw [fr.f] at e
      cases e
    rw [upd_ne this]
    exact s.sub b x e
  · have : b ≠ p := fun z => by
      subst z
      rw [fr.e] at e
      cases e
    rw [upd_ne this]
    exact s.old b x e hb
  · have : b ≠ p := fun z => by
      subst z
      exact hb fr.e
    rw [upd_ne this]
    exact s.there b hb
  · obtain ⟨q, x, g1, g2, g3, g4, g5, g6⟩ := s.own j b Q hj
    have : q ≠ p := fun z => by
      subst z
      exact fr.n j b Q hj g1
    exact ⟨q, x, g1, g2, by rw [upd_ne this]; exact g3, g4, g5, g6⟩
/-- what the slots own -/
def Ows (Γ : List Sl) (σ : L2.St) (p : Addr) : Prop := ∃ (i : Nat) (a : Option Addr) (P : ORp), Γ[i]? = some (.own a P) ∧ σ[i]? = some (some (.ref p))
/-- a new entry here -/
theorem SA.re (s : SA en Γ F σ H) : SA ⟨F, H, Ows Γ σ⟩ Γ F σ H where
  len := s.len
  sub := s.sub
  grow := Same.refl F
  old := fun _ _ h _ => h
  there := fun _ h => h
  frz := fun _ _ h _ => .inl h
  val := s.val
  own := fun i a P hi => by
    obtain ⟨p, o, h1, h2, h3, h4, h5, h6⟩ := s.own i a P hi
    exact ⟨p, o, h1, h2, h3, h4, .inr ⟨i, a, P, hi, h1⟩, h6⟩
  dis := s.dis
theorem SA.ows (s : SA en Γ F σ H) {p : Addr} (h : Ows Γ σ p) : en.H p = none ∨ en.ps p := by
  obtain ⟨i, a, P, hi, hs⟩ := h
  obtain ⟨q, x, h1, _, _, _, h5, _⟩ := s.own i a P hi
  rw [hs] at h1
  injection h1 with h1
  injection h1 with h1
  injection h1 with h1
  subst h1
  exact h5
/-- back at the old entry -/
theorem SA.back (s : SA en Γ F σ H) (s' : SA ⟨F, H, Ows Γ σ⟩ Γ' F' σ' H') : SA en Γ' F' σ' H' where
  len := s'.len
  sub := s'.sub
  grow := s.grow.trans s'.grow
  old := fun p o h hp => s'.old p o (s.old p o h hp) fun ⟨i, a, P, hi, hs⟩ => by
    obtain ⟨q, x, h1, _, _, _, h5, _⟩ := s.own i a P hi
    rw [hs] at h1
    injection h1 with h1
    injection h1 with h1
    injection h1 with h1
    subst h1
    rcases h5 with z | z
    · rw [z] at h
      cases h
    · exact hp z
  there := fun p h => s'.there p (s.there p h)
  frz := fun p h hf hp => (s.frz p h hf hp).elim (fun q => s'.frz p (s.there p h) q fun z => (s.ows z).elim (fun y => h y) hp) fun ⟨vs, z⟩ => .inr ⟨vs, s'.grow p _ z⟩
  val := s'.val
  own := fun i a P hi => by
    obtain ⟨p, o, h1, h2, h3, h4, h5, h6⟩ := s'.own i a P hi
    refine ⟨p, o, h1, h2, h3, h4, ?_, h6⟩
    rcases h5 with z | ⟨j, b, Q, hj, hs⟩
    · exact .inl (s.gone z)
    · obtain ⟨q, x, g1, _, _, _, g5, _⟩ := s.own j b Q hj
      rw [hs] at g1
      injection g1 with g1
      injection g1 with g1
      injection g1 with g1
      subst g1
      exact g5
  dis := s'.dis
/-- an untouched object stays fresh -/
theorem Fresh.on {o : HO} {p : Addr} (hm : ∀ vs, o ≠ .tup vs) (fr : Fresh en Γ F σ H p o) (s' : SA ⟨F, H, Ows Γ σ⟩ Γ F' σ H') : Fresh en Γ F' σ H' p o where
  f := by
    rcases s'.frz p (by show H p ≠ none; rw [fr.h]; exact fun z => nomatch z) fr.f fun ⟨i, a, P, hi, hs⟩ => fr.n i a P hi hs with z | ⟨vs, z⟩
    · exact z
    · have y := s'.sub p _ z
      rw [s'.old p o fr.h fun ⟨i, a, P, hi, hs⟩ => fr.n i a P hi hs] at y
      exact absurd (Option.some.inj y) (hm vs)
  e := fr.e
  n := fr.n
  h := s'.old p o fr.h fun ⟨i, a, P, hi, hs⟩ => fr.n i a P hi hs
/-- an own object is changed -/
theorem SA.mut (s : SA en Γ F σ H) {i : Nat} {a : Option Addr} {P P' : ORp} {p : Addr} {o' : HO} (hi : Γ[i]? = some (.own a P)) (hp : σ[i]? = some (some (.ref p))) (h : P'.p F o') : SA en (Γ.set i (.own a P')) F σ (upd H p o') := by
  obtain ⟨p', o, h1, h2, h3, h4, h5, h6⟩ := s.own i a P hi
  rw [hp] at h1
  injection h1 with h1
  injection h1 with h1
  injection h1 with h1
  subst h1
  have hil : i < Γ.length := by
    by_cases z : i < Γ.length
    · exact z
    · rw [List.getElem?_eq_none (by omega)] at hi
      cases hi
  have fne : ∀ b x, F b = some x → b ≠ p := fun b x e z => by
    subst z
    rw [h2] at e
    cases e
  refine ⟨?_, fun b x e => ?_, s.grow, fun b x e hb => ?_, fun b hb => ?_, s.frz, fun j Q hj => ?_, fun j b Q hj => ?_, fun j k b c Q Q' q hjk hj hk hq => ?_⟩
  · rw [List.length_set]
    exact s.len
  · rw [upd_ne (fne b x e)]
    exact s.sub b x e
  · have : b ≠ p := fun z => by
      subst z
      rcases h5 with z | z
      · rw [z] at e
        cases e
      · exact hb z
    rw [upd_ne this]
    exact s.old b x e hb
  · by_cases e : b = p
    · subst e
      rw [upd_same]
      exact fun z => nomatch z
    · rw [upd_ne e]
      exact s.there b hb
  · by_cases e : i = j
    · subst e
      rw [List.getElem?_set_self hil] at hj
      cases hj
    · rw [List.getElem?_set_ne e] at hj
      exact s.val j Q hj
  · by_cases e : i = j
    · subst e
      rw [List.getElem?_set_self hil] at hj
      injection hj with hj
      injection hj with e1 e2
      subst e1 e2
      exact ⟨p, o', hp, h2, upd_same, h, h5, h6⟩
    · rw [List.getElem?_set_ne e] at hj
      obtain ⟨q, x, g1, g2, g3, g4, g5, g6⟩ := s.own j b Q hj
      have : q ≠ p := fun z => by
        subst z
        exact s.dis i j a b P Q _ e hi hj hp g1
      exact ⟨q, x, g1, g2, by rw [upd_ne this]; exact g3, g4, g5, g6⟩
  · have back : ∀ {l : Nat} {b : Option Addr} {Q : ORp}, (Γ.set i (.own a P'))[l]? = some (.own b Q) → ∃ b' Q', Γ[l]? = some (.own b' Q') := fun {l b Q} hl => by
      by_cases e : i = l
      · subst e
        exact ⟨a, P, hi⟩
      · rw [List.getElem?_set_ne e] at hl
        exact ⟨b, Q, hl⟩
    obtain ⟨b', P1, gj⟩ := back hj
    obtain ⟨c', P2, gk⟩ := back hk
    exact s.dis j k b' c' P1 P2 q hjk gj gk hq
/-- an own object that no one else has becomes known -/
theorem SA.give (s : SA en Γ F σ H) {i : Nat} {a0 : Option Addr} {P : ORp} {p : Addr} {o : HO} (hi : Γ[i]? = some (.own a0 P)) (hp : σ[i]? = some (some (.ref p))) (ho : H p = some o) : SA en (Γ.set i .any) (upd F p o) σ H := by
  obtain ⟨p', o', h1, h2, h3, h4, h5, h6⟩ := s.own i _ P hi
  rw [hp] at h1
  injection h1 with h1
  injection h1 with h1
  injection h1 with h1
  subst h1
  rw [ho] at h3
  cases h3
  have sf : Same F (upd F p o) := Same.upd h2
  have ne : ∀ {l : Nat} {x : Sl}, (Γ.set i .any)[l]? = some x → x ≠ .any → i ≠ l := fun {l x} hl hx e => by
    subst e
    by_cases hi : i < Γ.length
    · rw [List.getElem?_set_self hi] at hl
      exact hx (Option.some.inj hl).symm
    · rw [List.getElem?_eq_none (by rw [List.length_set]; omega)] at hl
      cases hl
  refine ⟨?_, fun b x e => ?_, s.grow.trans sf, s.old, s.there, fun b hb hf hps => ?_, fun j Q hj => ?_, fun j b Q hj => ?_, fun j k b c Q Q' q hjk hj hk hq => ?_⟩
  · rw [List.length_set]
    exact s.len
  · by_cases z : b = p
    · subst z
      rw [upd_same] at e
      cases e
      exact ho
    · rw [upd_ne z] at e
      exact s.sub b x e
  · have : b ≠ p := fun z => by
      subst z
      rcases h5 with y | y
      · exact hb y
      · exact hps y
    rcases s.frz b hb hf hps with z | ⟨vs, z⟩
    · exact .inl (by rw [upd_ne this]; exact z)
    · exact .inr ⟨vs, by rw [upd_ne this]; exact z⟩
  · have e := ne hj (fun z => nomatch z)
    rw [List.getElem?_set_ne e] at hj
    obtain ⟨v, g1, g2⟩ := s.val j Q hj
    exact ⟨v, g1, Q.m sf g2⟩
  · have e := ne hj (fun z => nomatch z)
    rw [List.getElem?_set_ne e] at hj
    obtain ⟨q, x, g1, g2, g3, g4, g5, g6⟩ := s.own j b Q hj
    have : q ≠ p := fun z => by
      subst z
      exact s.dis i j a0 b P Q _ e hi hj hp g1
    exact ⟨q, x, g1, by rw [upd_ne this]; exact g2, g3, Q.m sf g4, g5, g6⟩
  · rw [List.getElem?_set_ne (ne hj (fun z => nomatch z))] at hj
    rw [List.getElem?_set_ne (ne hk (fun z => nomatch z))] at hk
    exact s.dis j k b c Q Q' q hjk hj hk hq
/-- less is known -/
inductive SlLe : Sl → Sl → Prop
  | any {s : Sl} : SlLe .any s
  | rfl {s : Sl} : SlLe s s
inductive Le : List Sl → List Sl → Prop
  | nil {l : List Sl} : Le [] l
  | cons {a b : Sl} {l m : List Sl} : SlLe a b → Le l m → Le (a :: l) (b :: m)
theorem Le.len : ∀ {l m : List Sl}, Le l m → l.length ≤ m.length
  | _, _, .nil => Nat.zero_le _
  | _, _, .cons _ t => Nat.succ_le_succ (Le.len t)
theorem Le.get : ∀ {l m : List Sl} {i : Nat} {x : Sl}, Le l m → l[i]? = some x → x = .any ∨ m[i]? = some x
  | _, _, _, _, .nil, e => by simp at e
  | _, _, 0, _, .cons h _, e => by
    simp at e
    subst e
    cases h with
    | any => exact .inl rfl
    | rfl => exact .inr rfl
  | _, _, i + 1, x, .cons _ t, e => by
    rcases Le.get (i := i) t (by simpa using e) with h | h
    · exact .inl h
    · exact .inr (by simpa using h)
theorem Le.refl : ∀ {l : List Sl}, Le l l
  | [] => .nil
  | _ :: _ => .cons .rfl Le.refl
theorem SA.le (s : SA en Γ F σ H) (h : Le Γ' Γ) : SA en Γ' F σ H where
  len := Nat.le_trans h.len s.len
  sub := s.sub
  grow := s.grow
  old := s.old
  there := s.there
  frz := s.frz
  val := fun i P hi => by
    rcases h.get hi with z | z
    · cases z
    · exact s.val i P z
  own := fun i a P hi => by
    rcases h.get hi with z | z
    · cases z
    · exact s.own i a P z
  dis := fun i j a b P Q p hij hi hj hp => by
    rcases h.get hi with z | z
    · cases z
    · rcases h.get hj with y | y
      · cases y
      · exact s.dis i j a b P Q p hij z y hp
end
end Py

/-! Own layer, part B: the judgements (EG, BG, AG, FG, SX) and the rules of expressions. -/
namespace Py
open PySem PySem.Spec PyProof.Rows L2

/-! ### the weakest readings -/
def wE (X : Cx) (e : Expr) : TE := fun σ H Q => ∀ pins s, Inv X pins σ H s → wpAny (model X.prog X.w) X.A (eval e X.env) (EP X pins σ Q) X.xe s
def wT (X : Cx) (e : Expr) : TT := fun σ H Q => ∀ (whole : Sem Value) pins s, (whole = eval e X.env) → Inv X pins σ H s → wpAny (model X.prog X.w) X.A (isTrue e X.env whole) (TP X pins σ Q) X.xe s
def wA (X : Cx) (es : List Expr) : TA := fun σ H Q => ∀ (pos : Pos) pins s, Inv X pins σ H s → wpAny (model X.prog X.w) X.A (spliced (backTo pos (starEach es X.env))) (AP X pins σ Q) X.xe s
def wS (X : Cx) (st : Stmt) : TS := fun D σ H => ∀ pins s, Inv X pins σ H s → wpAny (model X.prog X.w) X.A (exec st X.env) (SP X pins D) X.xe s
def wSs (X : Cx) (sts : List Stmt) : TS := fun D σ H => ∀ pins s, Inv X pins σ H s → wpAny (model X.prog X.w) X.A (execs sts X.env) (SP X pins D) X.xe s
section
variable {X : Cx} {e : Expr} {es : List Expr} {st : Stmt} {sts : List Stmt} {σ : L2.St} {H : Hp}
theorem wE_pe : PE X e (wE X e) := ⟨fun pins s _ _ _ I h => h pins s I⟩
theorem wT_pt : PT X e (wT X e) := ⟨fun pins s _ _ _ I h => h _ pins s rfl I⟩
theorem wA_pa : PA X es (wA X es) := ⟨fun pos pins s _ _ _ I h => h pos pins s I⟩
theorem wS_ps : PS X st (wS X st) := ⟨fun pins s _ _ _ I h => h pins s I⟩
theorem wSs_pss : PSs X sts (wSs X sts) := ⟨fun pins s _ _ _ I h => h pins s I⟩
theorem wE_of {t : TE} {Q : VK} (h : PE X e t) (q : t σ H Q) : wE X e σ H Q := fun pins s I => h.run pins s σ H Q I q
theorem wT_of {t : TT} {Q : Bool → Hp → Prop} (h : PT X e t) (q : t σ H Q) : wT X e σ H Q := fun whole pins s hw I => by
  subst hw
  exact h.run pins s σ H Q I q
theorem wA_of {t : TA} {Q : List V → Hp → Prop} (h : PA X es t) (q : t σ H Q) : wA X es σ H Q := fun pos pins s I => h.run pos pins s σ H Q I q
theorem wS_of {t : TS} {D : Ends} (h : PS X st t) (q : t D σ H) : wS X st D σ H := fun pins s I => h.run pins s σ H D I q
theorem wSs_of {t : TS} {D : Ends} (h : PSs X sts t) (q : t D σ H) : wSs X sts D σ H := fun pins s I => h.run pins s σ H D I q
theorem wSs_lock {D : Ends} {d : Addr} {u : HO} (hd : H d = some u) (mu : Mut (some u)) (k : ∀ od, wSs X sts D σ (upd H d (.frz od u))) : wSs X sts D σ H := fun pins s I => by
  obtain ⟨od, I1⟩ := I.lock hd mu
  exact k od pins s I1
end

/-! ### errors -/
def ErOk (mg : Str → Option Value) (e : Er) (cls : Value) (d : Option Addr) (F : Hp) : Prop :=
  ∃ C, mg e.cls = some (.ref C) ∧ cls = .ref C ∧ match e.fld with
    | none => d = none
    | some n => ∃ a f, d = some a ∧ F a = some (.xd [(f, .int n)])
/-- what is wished of an error, and what the slots hold then -/
structure Wi where
  W : WX
  Γ : List Sl
def Wi.ok (U : Wi) (mg : Str → Option Value) (en : En) (F : Hp) (r : Er) : Prop :=
  ∀ cls d F' σ' H', Same F F' → SA en U.Γ F' σ' H' → ErOk mg r cls d F' → U.W cls d σ' H'
theorem Wi.ok.up {U : Wi} {mg : Str → Option Value} {en : En} {F F1 : Hp} {r : Er} (h : U.ok mg en F r) (e : Same F F1) : U.ok mg en F1 r :=
  fun cls d F' σ' H' s a o => h cls d F' σ' H' (e.trans s) a o

/-! ### the judgements -/
section
variable (X : Cx) (U : Wi) (Γ : List Sl)
/-- an expression: m tells what comes, val the value, Γ' what the slots hold then -/
structure EG (e : Expr) {α ω : Type} (ρ : Rp α) (m : R ω) (val : ω → α) (Γ' : ω → List Sl) : Prop where
  out : ∀ en F σ H Q, SA en Γ F σ H → wpR m (fun w => ∀ v F' H', Same F F' → SA en (Γ' w) F' σ H' → ρ.rep (val w) F' v → Q v H') (U.ok X.mg en F) → wE X e σ H Q
structure BG (e : Expr) {ω : Type} (m : R ω) (val : ω → Bool) (Γ' : ω → List Sl) : Prop where
  out : ∀ en F σ H (Q : Bool → Hp → Prop), SA en Γ F σ H → wpR m (fun w => ∀ F' H', Same F F' → SA en (Γ' w) F' σ H' → Q (val w) H') (U.ok X.mg en F) → wT X e σ H Q
structure AG (es : List Expr) {τ ω : Type} (t : Tr τ) (m : R ω) (val : ω → τ) (Γ' : ω → List Sl) : Prop where
  out : ∀ en F σ H (Q : List V → Hp → Prop), SA en Γ F σ H → wpR m (fun w => ∀ vs F' H', Same F F' → SA en (Γ' w) F' σ H' → t.rep (val w) F' vs → Q vs H') (U.ok X.mg en F) → wA X es σ H Q
/-- an expression that makes a new object -/
structure FG (e : Expr) {ω : Type} (P : ω → ORp) (m : R ω) (Γ' : ω → List Sl) : Prop where
  out : ∀ en F σ H Q, SA en Γ F σ H → wpR m (fun w => ∀ p o F' H', Same F F' → SA en (Γ' w) F' σ H' → Fresh en (Γ' w) F' σ H' p o → (P w).p F' o → Q (.ref p) H') (U.ok X.mg en F) → wE X e σ H Q
abbrev EX (e : Expr) {α : Type} (ρ : Rp α) (m : R α) : Prop := EG X U Γ e ρ m (fun a => a) fun _ => Γ
abbrev BX (e : Expr) (m : R Bool) : Prop := BG X U Γ e m (fun a => a) fun _ => Γ
abbrev AX (es : List Expr) {τ : Type} (t : Tr τ) (m : R τ) : Prop := AG X U Γ es t m (fun a => a) fun _ => Γ
abbrev FX (e : Expr) {α : Type} (P : α → ORp) (m : R α) : Prop := FG X U Γ e P m fun _ => Γ
end

/-- an object that no slot has, that is not known, that was not there or may be changed -/
structure Frs (en : En) (Γ : List Sl) (F : Hp) (σ : L2.St) (H : Hp) (p : Addr) (o : HO) : Prop where
  f : F p = none
  e : en.H p = none ∨ en.ps p
  n : ∀ (i : Nat) (a : Option Addr) (P : ORp), Γ[i]? = some (.own a P) → σ[i]? ≠ some (some (.ref p))
  h : H p = some o
/-- where a block ends -/
inductive Kd where
  | nx (Γ : List Sl)
  | go (Γ : List Sl)
  | bk (Γ : List Sl)
  | ct (Γ : List Sl)
  | rt (p : PRp) (Γ : List Sl)
  | fn (p : PRp) (Γ : List Sl)
  | rf (P : ORp) (Γ : List Sl)
def Kd.sat (k : Kd) (en : En) (F : Hp) (D : Ends) : Prop := match k with
  | .nx Γ => ∀ F' σ' H', Same F F' → SA en Γ F' σ' H' → D.nx σ' H'
  | .go Γ => ∀ F' σ' H', Same F F' → SA en Γ F' σ' H' → D.nx σ' H' ∧ D.ct σ' H'
  | .bk Γ => ∀ F' σ' H', Same F F' → SA en Γ F' σ' H' → D.bk σ' H'
  | .ct Γ => ∀ F' σ' H', Same F F' → SA en Γ F' σ' H' → D.ct σ' H'
  | .rt p Γ => ∀ v F' σ' H', Same F F' → SA en Γ F' σ' H' → p.p F' v → D.rt v H'
  | .fn p Γ => (∀ v F' σ' H', Same F F' → SA en Γ F' σ' H' → p.p F' v → D.rt v H') ∧ ∀ F' σ' H', Same F F' → SA en Γ F' σ' H' → p.p F' .non → D.nx σ' H'
  | .rf P Γ => ∀ p o F' σ' H', Same F F' → SA en Γ F' σ' H' → Frs en Γ F' σ' H' p o → P.p F' o → D.rt (.ref p) H'
theorem Kd.sat.up {k : Kd} {en : En} {F F1 : Hp} {D : Ends} (h : k.sat en F D) (e : Same F F1) : k.sat en F1 D := by
  cases k with
  | nx Γ => exact fun F' σ' H' s a => h F' σ' H' (e.trans s) a
  | go Γ => exact fun F' σ' H' s a => h F' σ' H' (e.trans s) a
  | bk Γ => exact fun F' σ' H' s a => h F' σ' H' (e.trans s) a
  | ct Γ => exact fun F' σ' H' s a => h F' σ' H' (e.trans s) a
  | rt p Γ => exact fun v F' σ' H' s a => h v F' σ' H' (e.trans s) a
  | fn p Γ => exact ⟨fun v F' σ' H' s a => h.1 v F' σ' H' (e.trans s) a, fun F' σ' H' s a => h.2 F' σ' H' (e.trans s) a⟩
  | rf P Γ => exact fun p o F' σ' H' s a => h p o F' σ' H' (e.trans s) a
structure SX (X : Cx) (U : Wi) (Γ : List Sl) (sts : List Stmt) {ω : Type} (I : ω → Kd) (m : R ω) : Prop where
  out : ∀ en F σ H D, SA en Γ F σ H → wpR m (fun o => (I o).sat en F D) (U.ok X.mg en F) → wSs X sts D σ H

/-! ### operations on data -/
/-- what a data operation may answer -/
abbrev QE {γ : Type} (ρ : Rp γ) (F H : Hp) (Q : VK) (z : γ) : Prop := ∀ u F' H', Ext F H F' H' → ρ.rep z F' u → Q u H'
def D2 {α β γ : Type} (r : R2) (ρ1 : Rp α) (ρ2 : Rp β) (ρ : Rp γ) (mr : α → β → R γ) : Prop :=
  ∀ x y v w F H Q, Same F H → ρ1.rep x F v → ρ2.rep y F w → wpR (mr x y) (QE ρ F H Q) (fun _ => False) → r v w H Q
def D1 {α γ : Type} (r : V → Hp → VK → Prop) (ρ1 : Rp α) (ρ : Rp γ) (mr : α → R γ) : Prop :=
  ∀ x v F H Q, Same F H → ρ1.rep x F v → wpR (mr x) (QE ρ F H Q) (fun _ => False) → r v H Q
def DC {τ γ : Type} (r : List V → Hp → VK → Prop) (t : Tr τ) (ρ : Rp γ) (mr : τ → R γ) : Prop :=
  ∀ x vs F H Q, Same F H → t.rep x F vs → wpR (mr x) (QE ρ F H Q) (fun _ => False) → r vs H Q
/-- .. a new object -/
def DF {τ γ : Type} (r : List V → Hp → VK → Prop) (t : Tr τ) (P : γ → ORp) (mr : τ → R γ) : Prop :=
  ∀ x vs F H Q, Same F H → t.rep x F vs → wpR (mr x) (fun z => ∀ p o, H p = none → (P z).p F o → Q (.ref p) (upd H p o)) (fun _ => False) → r vs H Q

section
variable {X : Cx} {U : Wi} {Γ : List Sl} {a b e : Expr} {es : List Expr} {pos : Pos}
variable {α β γ ω ω1 ω2 τ : Type} {ρ1 : Rp α} {ρ2 : Rp β} {ρ : Rp γ} {t : Tr τ}

/-! ### names, constants -/
theorem x_var {ρ : Rp α} {x : α} {n : Str} (i : Nat) (hΓ : Γ[i]? = some (im ρ x) := by rfl) (hN : X.N[i]? = some n := by rfl) (hv : Vis X.env.scope n := by first | exact Or.inl rfl | exact Or.inr (Or.inl rfl) | exact Or.inr (Or.inr rfl))
    (hd : (n == ("__debug__" : Str)) = false := by decide) (hcd : (n == ("__classdict__" : Str)) = false := by decide) : EX X U Γ (.Name n pos) ρ (.ok x) :=
  ⟨fun en F σ H Q s h => wE_of (pe_var hN hv hd hcd) (by
    obtain ⟨v, e1, r⟩ := s.val i _ hΓ
    exact ⟨v, e1, h v F H (Same.refl F) s r⟩)⟩
theorem x_cst {ρ : Rp α} {x : α} {v : V} (hp : PE X e (tC v)) (hr : ∀ F, ρ.rep x F v) : EX X U Γ e ρ (.ok x) :=
  ⟨fun en F σ H Q s h => wE_of hp (h v F H (Same.refl F) s (hr F))⟩
theorem x_int {i j} : EX X U Γ (.Constant (.int i) j pos) rI (.ok i) := x_cst pe_int fun _ => rfl
theorem x_bl {i j} : EX X U Γ (.Constant (.bool i) j pos) rB (.ok i) := x_cst pe_bl fun _ => rfl
theorem x_nonO {j} {ρ : Rp α} : EX X U Γ (.Constant .none j pos) (rO ρ) (.ok none) := x_cst pe_non fun _ => rfl
/-- a module's constant -/
theorem x_glob {ρ : Rp α} {x : α} {v : V} {n : Str} {u : Value} (hm : X.mg n = some u) (rv : RelV v u) (hr : ∀ F, ρ.rep x F v) (hg : Gl X n := by rfl) (hd : (n == ("__debug__" : Str)) = false := by decide) : EX X U Γ (.Name n pos) ρ (.ok x) :=
  x_cst (pe_glob hg hm rv hd) hr
/-- .. an expression of its own -/
theorem x_map {ρ' : Rp β} {m : R α} (f : α → β) (hf : ∀ x F v, ρ1.rep x F v → ρ'.rep (f x) F v) (h : EX X U Γ e ρ1 m) : EX X U Γ e ρ' (m.bind fun a => .ok (f a)) :=
  ⟨fun en F σ H Q s q => h.out en F σ H Q s (wpR_mono (wpR_bind q) (fun w k v F' H' e1 s1 r => k v F' H' e1 s1 (hf _ _ _ r)) fun _ z => z)⟩

/-! ### two expressions in a row -/
theorem g_two {m1 : R ω1} {v1 : ω1 → α} {Γ1 : ω1 → List Sl} {m2 : ω1 → R ω2} {v2 : ω1 → ω2 → β} {Γ2 : ω1 → ω2 → List Sl} {mr : ω1 → ω2 → R ω} {K : ω → Hp → Prop}
    (ha : EG X U Γ a ρ1 m1 v1 Γ1) (hb : ∀ w1, EG X U (Γ1 w1) b ρ2 (m2 w1) (v2 w1) (Γ2 w1)) {en : En} {F : Hp} {σ : L2.St} {H : Hp} {Z : V → V → Hp → Prop} (s : SA en Γ F σ H)
    (h : wpR (m1.bind fun w1 => (m2 w1).bind fun w2 => mr w1 w2) (fun w => K w F) (U.ok X.mg en F))
    (hK : ∀ w F1, Same F F1 → K w F → K w F1)
    (hz : ∀ w1 w2 v u F2 H2, Same F F2 → SA en (Γ2 w1 w2) F2 σ H2 → ρ1.rep (v1 w1) F2 v → ρ2.rep (v2 w1 w2) F2 u → wpR (mr w1 w2) (fun w => K w F2) (U.ok X.mg en F2) → Z v u H2) :
    wE X a σ H fun v H1 => wE X b σ H1 fun u H2 => Z v u H2 := by
  refine ha.out en F σ H _ s (wpR_mono (wpR_bind h) (fun w1 k v F1 H1 e1 s1 r1 => ?_) fun _ z => z)
  refine (hb w1).out en F1 σ H1 _ s1 (wpR_mono (wpR_bind k) (fun w2 k2 u F2 H2 e2 s2 r2 => ?_) fun _ z => z.up e1)
  exact hz w1 w2 v u F2 H2 (e1.trans e2) s2 (ρ1.mono e2 r1) r2 (wpR_mono k2 (fun w => hK w F2 (e1.trans e2)) fun _ z => z.up (e1.trans e2))

/-- the shape of a two-place data operation -/
theorem g_data2 {r : R2} {mr : α → β → R γ} (hd : D2 r ρ1 ρ2 ρ mr) {m1 : R ω1} {v1 : ω1 → α} {Γ1 : ω1 → List Sl} {m2 : ω1 → R ω2} {v2 : ω1 → ω2 → β} {Γ2 : ω1 → ω2 → List Sl}
    {val : ω → γ} {Γ' : ω → List Sl} (pk : ω1 → ω2 → γ → ω) (hv : ∀ w1 w2 z, val (pk w1 w2 z) = z) (hΓ : ∀ w1 w2 z, Γ' (pk w1 w2 z) = Γ2 w1 w2)
    (ha : EG X U Γ a ρ1 m1 v1 Γ1) (hb : ∀ w1, EG X U (Γ1 w1) b ρ2 (m2 w1) (v2 w1) (Γ2 w1)) {en : En} {F : Hp} {σ : L2.St} {H : Hp} {Q : VK} (s : SA en Γ F σ H)
    (h : wpR (m1.bind fun w1 => (m2 w1).bind fun w2 => (mr (v1 w1) (v2 w1 w2)).calm.bind fun z => .ok (pk w1 w2 z)) (fun w => ∀ v F' H', Same F F' → SA en (Γ' w) F' σ H' → ρ.rep (val w) F' v → Q v H') (U.ok X.mg en F)) :
    wE X a σ H fun v H1 => wE X b σ H1 fun u H2 => r v u H2 Q := by
  refine g_two (K := fun w F => ∀ v F' H', Same F F' → SA en (Γ' w) F' σ H' → ρ.rep (val w) F' v → Q v H') ha hb s h (fun w F1 e k v F' H' e' => k v F' H' (e.trans e')) fun w1 w2 v u F2 H2 e2 s2 r1 r2 k => ?_
  refine hd _ _ v u F2 H2 Q s2.sub r1 r2 (wpR_mono (wpR_calm (wpR_bind k)) (fun z k u F' H' x ru => ?_) fun _ z => z)
  refine k u F' H' x.f ?_ ?_
  · rw [hΓ]
    exact s2.ext x
  · rw [hv]
    exact ru
theorem g_bin {op : Operator} {r : R2} {mr : α → β → R γ} (ho : OpR X (binaryOp op) r) (hd : D2 r ρ1 ρ2 ρ mr) {m1 : R ω1} {v1 : ω1 → α} {Γ1 : ω1 → List Sl} {m2 : ω1 → R ω2} {v2 : ω1 → ω2 → β} {Γ2 : ω1 → ω2 → List Sl}
    {val : ω → γ} {Γ' : ω → List Sl} (pk : ω1 → ω2 → γ → ω) (hv : ∀ w1 w2 z, val (pk w1 w2 z) = z) (hΓ : ∀ w1 w2 z, Γ' (pk w1 w2 z) = Γ2 w1 w2)
    (ha : EG X U Γ a ρ1 m1 v1 Γ1) (hb : ∀ w1, EG X U (Γ1 w1) b ρ2 (m2 w1) (v2 w1) (Γ2 w1)) :
    EG X U Γ (.BinOp a op b pos) ρ (m1.bind fun w1 => (m2 w1).bind fun w2 => (mr (v1 w1) (v2 w1 w2)).calm.bind fun z => .ok (pk w1 w2 z)) val Γ' :=
  ⟨fun en F σ H Q s h => wE_of (pe_op ho wE_pe wE_pe) (g_data2 hd pk hv hΓ ha hb s h)⟩
theorem g_cmp {op : CmpOp} {r : R2} {mr : α → β → R γ} (ho : OpR X (compareOp op) r) (hd : D2 r ρ1 ρ2 ρ mr) (hm : behindInMarks op b = false) {m1 : R ω1} {v1 : ω1 → α} {Γ1 : ω1 → List Sl} {m2 : ω1 → R ω2} {v2 : ω1 → ω2 → β} {Γ2 : ω1 → ω2 → List Sl}
    {val : ω → γ} {Γ' : ω → List Sl} (pk : ω1 → ω2 → γ → ω) (hv : ∀ w1 w2 z, val (pk w1 w2 z) = z) (hΓ : ∀ w1 w2 z, Γ' (pk w1 w2 z) = Γ2 w1 w2)
    (ha : EG X U Γ a ρ1 m1 v1 Γ1) (hb : ∀ w1, EG X U (Γ1 w1) b ρ2 (m2 w1) (v2 w1) (Γ2 w1)) :
    EG X U Γ (.Compare a [op] [b] pos) ρ (m1.bind fun w1 => (m2 w1).bind fun w2 => (mr (v1 w1) (v2 w1 w2)).calm.bind fun z => .ok (pk w1 w2 z)) val Γ' :=
  ⟨fun en F σ H Q s h => wE_of (pe_cmpR ho wE_pe wE_pe hm) (g_data2 hd pk hv hΓ ha hb s h)⟩
theorem g_ix {r : R2} {mr : α → β → R γ} (hr : IxR X r) (hd : D2 r ρ1 ρ2 ρ mr) (hs : PlainIx b) {m1 : R ω1} {v1 : ω1 → α} {Γ1 : ω1 → List Sl} {m2 : ω1 → R ω2} {v2 : ω1 → ω2 → β} {Γ2 : ω1 → ω2 → List Sl}
    {val : ω → γ} {Γ' : ω → List Sl} (pk : ω1 → ω2 → γ → ω) (hv : ∀ w1 w2 z, val (pk w1 w2 z) = z) (hΓ : ∀ w1 w2 z, Γ' (pk w1 w2 z) = Γ2 w1 w2)
    (ha : EG X U Γ a ρ1 m1 v1 Γ1) (hb : ∀ w1, EG X U (Γ1 w1) b ρ2 (m2 w1) (v2 w1) (Γ2 w1)) :
    EG X U Γ (.Subscript a b pos) ρ (m1.bind fun w1 => (m2 w1).bind fun w2 => (mr (v1 w1) (v2 w1 w2)).calm.bind fun z => .ok (pk w1 w2 z)) val Γ' :=
  ⟨fun en F σ H Q s h => wE_of (pe_ix hr wE_pe wE_pe hs) (g_data2 hd pk hv hΓ ha hb s h)⟩
/-- .. where nothing is changed on the way -/
theorem x_bin {op : Operator} {r : R2} {mr : α → β → R γ} {m1 : R α} {m2 : R β} (ho : OpR X (binaryOp op) r) (hd : D2 r ρ1 ρ2 ρ mr) (ha : EX X U Γ a ρ1 m1) (hb : EX X U Γ b ρ2 m2) :
    EX X U Γ (.BinOp a op b pos) ρ (m1.bind fun x => m2.bind fun y => (mr x y).calm.bind fun z => .ok z) := g_bin ho hd (fun _ _ z => z) (fun _ _ _ => rfl) (fun _ _ _ => rfl) ha fun _ => hb
theorem x_cmp {op : CmpOp} {r : R2} {mr : α → β → R γ} {m1 : R α} {m2 : R β} (ho : OpR X (compareOp op) r) (hd : D2 r ρ1 ρ2 ρ mr) (ha : EX X U Γ a ρ1 m1) (hb : EX X U Γ b ρ2 m2)
    (hm : behindInMarks op b = false := by first | exact nomark _ | rfl) : EX X U Γ (.Compare a [op] [b] pos) ρ (m1.bind fun x => m2.bind fun y => (mr x y).calm.bind fun z => .ok z) :=
  g_cmp ho hd hm (fun _ _ z => z) (fun _ _ _ => rfl) (fun _ _ _ => rfl) ha fun _ => hb
theorem x_ix {r : R2} {mr : α → β → R γ} {m1 : R α} {m2 : R β} (hr : IxR X r) (hd : D2 r ρ1 ρ2 ρ mr) (ha : EX X U Γ a ρ1 m1) (hb : EX X U Γ b ρ2 m2) (hs : PlainIx b := by exact fun _ _ => rfl) :
    EX X U Γ (.Subscript a b pos) ρ (m1.bind fun x => m2.bind fun y => (mr x y).calm.bind fun z => .ok z) := g_ix hr hd hs (fun _ _ z => z) (fun _ _ _ => rfl) (fun _ _ _ => rfl) ha fun _ => hb
theorem x_un {op : UnaryOp} {r : V → Hp → VK → Prop} {mr : α → R γ} {m : R α} (ho : UnR X (unaryOp op) r) (hd : D1 r ρ1 ρ mr) (ha : EX X U Γ a ρ1 m) : EX X U Γ (.UnaryOp op a pos) ρ (m.bind fun x => (mr x).calm.bind fun z => .ok z) :=
  ⟨fun en F σ H Q s h => wE_of (pe_un ho wE_pe) (ha.out en F σ H _ s (wpR_mono (wpR_bind h) (fun x k v F1 H1 e1 s1 r1 =>
    hd x v F1 H1 Q s1.sub r1 (wpR_mono (wpR_calm (wpR_bind k)) (fun z k u F' H' xx ru => k u F' H' (e1.trans xx.f) (s1.ext xx) ru) fun _ z => z)) fun _ z => z))⟩

/-! ### and, or, not, if .. else as values -/
theorem x_not {m : R Bool} (ha : EX X U Γ a rB m) : EX X U Γ (.UnaryOp .Not a pos) rB (m.bind fun x => .ok !x) :=
  ⟨fun en F σ H Q s h => wE_of (pe_not wE_pe) (ha.out en F σ H _ s (wpR_mono (wpR_bind h) (fun x k v F1 H1 e1 s1 r1 => ⟨x, r1, k _ F1 H1 e1 s1 rfl⟩) fun _ z => z))⟩
theorem x_one {op} {m : R Bool} (ha : EX X U Γ a rB m) : EX X U Γ (.BoolOp op [a] pos) rB m := ⟨fun en F σ H Q s h => wE_of (pe_one wE_pe) (ha.out en F σ H Q s h)⟩
theorem x_and {m1 m2 : R Bool} {rest : List Expr} (ha : EX X U Γ a rB m1) (hb : EX X U Γ (.BoolOp .And (b :: rest) pos) rB m2) : EX X U Γ (.BoolOp .And (a :: b :: rest) pos) rB (m1.bind fun x => if x = true then m2 else .ok false) :=
  ⟨fun en F σ H Q s h => wE_of (pe_and wE_pe wE_pe) (ha.out en F σ H _ s (wpR_mono (wpR_bind h) (fun x k v F1 H1 e1 s1 r1 => ⟨x, r1, by
    cases x with
    | true => exact hb.out en F1 σ H1 Q s1 (wpR_mono k (fun w k v F' H' e' => k v F' H' (e1.trans e')) fun _ z => z.up e1)
    | false => exact k _ F1 H1 e1 s1 rfl⟩) fun _ z => z))⟩
/-! ### tests -/
theorem g_test {m : R ω} {val : ω → Bool} {Γ' : ω → List Sl} (h : EG X U Γ e rB m val Γ') (he : ∀ whole, isTrue e X.env whole = (do let v ← whole; standAt e.pos; holding [v] (truthy v)) := by intro _; rfl) : BG X U Γ e m val Γ' :=
  ⟨fun en F σ H Q s q => wT_of (pt_val wE_pe he) (h.out en F σ H _ s (wpR_mono q (fun w k v F1 H1 e1 s1 r1 => ⟨val w, r1, k F1 H1 e1 s1⟩) fun _ z => z))⟩
theorem g_tcmp {op : CmpOp} {r : R2} {mr : α → β → R Bool} (ho : OpR X (compareOp op) r) (hd : D2 r ρ1 ρ2 rB mr) (hm : behindInMarks op b = false) {m1 : R ω1} {v1 : ω1 → α} {Γ1 : ω1 → List Sl} {m2 : ω1 → R ω2} {v2 : ω1 → ω2 → β} {Γ2 : ω1 → ω2 → List Sl}
    {val : ω → Bool} {Γ' : ω → List Sl} (pk : ω1 → ω2 → Bool → ω) (hv : ∀ w1 w2 z, val (pk w1 w2 z) = z) (hΓ : ∀ w1 w2 z, Γ' (pk w1 w2 z) = Γ2 w1 w2)
    (ha : EG X U Γ a ρ1 m1 v1 Γ1) (hb : ∀ w1, EG X U (Γ1 w1) b ρ2 (m2 w1) (v2 w1) (Γ2 w1)) :
    BG X U Γ (.Compare a [op] [b] pos) (m1.bind fun w1 => (m2 w1).bind fun w2 => (mr (v1 w1) (v2 w1 w2)).calm.bind fun z => .ok (pk w1 w2 z)) val Γ' :=
  ⟨fun en F σ H Q s h => wT_of (pt_cmpR ho wE_pe wE_pe hm) (g_data2 (ρ := rB) (Q := fun v H' => ∃ k, v = .bl k ∧ Q k H') hd pk hv hΓ ha hb s (wpR_mono h (fun w k v F' H' e1 s1 r1 => ⟨val w, r1, k F' H' e1 s1⟩) fun _ z => z))⟩
theorem x_tcmp {op : CmpOp} {r : R2} {mr : α → β → R Bool} {m1 : R α} {m2 : R β} (ho : OpR X (compareOp op) r) (hd : D2 r ρ1 ρ2 rB mr) (ha : EX X U Γ a ρ1 m1) (hb : EX X U Γ b ρ2 m2)
    (hm : behindInMarks op b = false := by first | exact nomark _ | rfl) : BX X U Γ (.Compare a [op] [b] pos) (m1.bind fun x => m2.bind fun y => (mr x y).calm.bind fun z => .ok z) :=
  g_tcmp ho hd hm (fun _ _ z => z) (fun _ _ _ => rfl) (fun _ _ _ => rfl) ha fun _ => hb
theorem x_tnot {m : R Bool} (ha : BX X U Γ a m) : BX X U Γ (.UnaryOp .Not a pos) (m.bind fun x => .ok !x) :=
  ⟨fun en F σ H Q s h => wT_of (pt_not wT_pt) (ha.out en F σ H _ s (wpR_mono (wpR_bind h) (fun x k F1 H1 e1 s1 => k F1 H1 e1 s1) fun _ z => z))⟩
/-- chains -/
structure WG (X : Cx) (U : Wi) (Γ : List Sl) (e : Expr) (m : R Bool) : Prop where
  out : ∀ en F σ H (Q : Bool → Hp → Prop), SA en Γ F σ H → wpR m (fun w => ∀ F' H', Same F F' → SA en Γ F' σ H' → Q w H') (U.ok X.mg en F) →
    ∀ (whole : Sem Value) pins s, Inv X pins σ H s → wpAny (model X.prog X.w) X.A (isTrue e X.env whole) (TP X pins σ Q) X.xe s
def wW (X : Cx) (e : Expr) : TT := fun σ H Q => ∀ (whole : Sem Value) pins s, Inv X pins σ H s → wpAny (model X.prog X.w) X.A (isTrue e X.env whole) (TP X pins σ Q) X.xe s
theorem wW_pw : PW X e (wW X e) := ⟨fun wh pins s _ _ _ I h => h wh pins s I⟩
theorem x_w {m : R Bool} (h : WG X U Γ e m) : BX X U Γ e m := ⟨fun en F σ H Q s q whole pins s' hw I => by
  subst hw
  exact h.out en F σ H Q s q _ pins s' I⟩
theorem w_and1 {m : R Bool} (ha : BX X U Γ a m) : WG X U Γ (.BoolOp .And [a] pos) m :=
  ⟨fun en F σ H Q s h wh pins s' I => (pw_and1 (pos := pos) wT_pt).run wh pins s' σ H Q I (ha.out en F σ H Q s h)⟩
theorem w_or1 {m : R Bool} (ha : BX X U Γ a m) : WG X U Γ (.BoolOp .Or [a] pos) m :=
  ⟨fun en F σ H Q s h wh pins s' I => (pw_or1 (pos := pos) wT_pt).run wh pins s' σ H Q I (ha.out en F σ H Q s h)⟩
theorem w_and {m1 m2 : R Bool} {rest : List Expr} (ha : BX X U Γ a m1) (hb : WG X U Γ (.BoolOp .And (b :: rest) pos) m2) : WG X U Γ (.BoolOp .And (a :: b :: rest) pos) (m1.bind fun x => if x = true then m2 else .ok false) :=
  ⟨fun en F σ H Q s h wh pins s' I => (pw_and (pos := pos) wT_pt wW_pw).run wh pins s' σ H Q I (ha.out en F σ H _ s (wpR_mono (wpR_bind h) (fun x k F1 H1 e1 s1 => by
    cases x with
    | true => exact hb.out en F1 σ H1 Q s1 (wpR_mono k (fun w k F' H' e' => k F' H' (e1.trans e')) fun _ z => z.up e1)
    | false => exact k F1 H1 e1 s1) fun _ z => z))⟩
theorem w_or {m1 m2 : R Bool} {rest : List Expr} (ha : BX X U Γ a m1) (hb : WG X U Γ (.BoolOp .Or (b :: rest) pos) m2) : WG X U Γ (.BoolOp .Or (a :: b :: rest) pos) (m1.bind fun x => if x = true then .ok true else m2) :=
  ⟨fun en F σ H Q s h wh pins s' I => (pw_or (pos := pos) wT_pt wW_pw).run wh pins s' σ H Q I (ha.out en F σ H _ s (wpR_mono (wpR_bind h) (fun x k F1 H1 e1 s1 => by
    cases x with
    | false => exact hb.out en F1 σ H1 Q s1 (wpR_mono k (fun w k F' H' e' => k F' H' (e1.trans e')) fun _ z => z.up e1)
    | true => exact k F1 H1 e1 s1) fun _ z => z))⟩

/-! ### arguments -/
theorem a_nil {τ : Type} {t : Tr τ} {x : τ} (hx : ∀ F, t.rep x F []) : AX X U Γ [] t (.ok x) := ⟨fun en F σ H Q s h => wA_of pa_nil (h [] F H (Same.refl F) s (hx F))⟩
/-- one more ahead, put together by pk -/
theorem g_acons {τ' : Type} {t' : Tr τ'} {m1 : R ω1} {v1 : ω1 → α} {Γ1 : ω1 → List Sl} {m2 : ω1 → R ω2} {v2 : ω1 → ω2 → τ} {Γ2 : ω1 → ω2 → List Sl} {val : ω → τ'} {Γ' : ω → List Sl} (pk : ω1 → ω2 → ω)
    (hv : ∀ w1 w2 F v vs, ρ1.rep (v1 w1) F v → t.rep (v2 w1 w2) F vs → t'.rep (val (pk w1 w2)) F (v :: vs)) (hΓ : ∀ w1 w2, Γ' (pk w1 w2) = Γ2 w1 w2)
    (ha : EG X U Γ a ρ1 m1 v1 Γ1) (hb : ∀ w1, AG X U (Γ1 w1) es t (m2 w1) (v2 w1) (Γ2 w1)) (hs : starEach (a :: es) X.env = (false, eval a X.env) :: starEach es X.env) :
    AG X U Γ (a :: es) t' (m1.bind fun w1 => (m2 w1).bind fun w2 => .ok (pk w1 w2)) val Γ' :=
  ⟨fun en F σ H Q s h => wA_of (pa_cons wE_pe wA_pa hs) (ha.out en F σ H _ s (wpR_mono (wpR_bind h) (fun w1 k v F1 H1 e1 s1 r1 =>
    (hb w1).out en F1 σ H1 _ s1 (wpR_mono (wpR_bind k) (fun w2 k2 vs F2 H2 e2 s2 r2 => k2 (v :: vs) F2 H2 (e1.trans e2) (by rw [hΓ]; exact s2) (hv w1 w2 F2 v vs (ρ1.mono e2 r1) r2)) fun _ z => z.up e1)) fun _ z => z))⟩
theorem a_one {m : R α} (ha : EX X U Γ a ρ1 m) (hs : starEach [a] X.env = (false, eval a X.env) :: starEach [] X.env := by rfl) : AX X U Γ [a] (t1 ρ1) m := by
  have h : AX X U Γ [a] (t1 ρ1) (m.bind fun x => (R.ok ()).bind fun _ => .ok x) := g_acons (t := t0) (fun x _ => x) (fun x _ F v vs r e => ⟨v, by rw [show vs = [] from e], r⟩) (fun _ _ => rfl) ha (fun _ => a_nil fun _ => rfl) hs
  have e : (m.bind fun x => (R.ok ()).bind fun _ => R.ok x) = m := R.bind_pure m
  rw [e] at h
  exact h
theorem a_cons {m1 : R α} {m2 : R τ} (ha : EX X U Γ a ρ1 m1) (hb : AX X U Γ es t m2) (hs : starEach (a :: es) X.env = (false, eval a X.env) :: starEach es X.env := by rfl) : AX X U Γ (a :: es) (tc ρ1 t) (m1.bind fun x => m2.bind fun y => .ok (x, y)) :=
  g_acons (fun x y => (x, y)) (fun x y F v vs r q => ⟨v, vs, rfl, r, q⟩) (fun _ _ => rfl) ha (fun _ => hb) hs
/-! ### displays, calls of built-ins -/
abbrev oLi {τ : Type} (t : Tr τ) (a : τ) : ORp := ⟨fun F o => ∃ vs, o = .lst vs ∧ t.rep a F vs, fun e ⟨vs, h, r⟩ => ⟨vs, h, t.mono e r⟩, fun ⟨vs, h, _⟩ ws z => by rw [h] at z; cases z⟩
theorem g_tup {m : R ω} {val : ω → τ} {Γ' : ω → List Sl} {k : Nat} (h : AG X U Γ es t m val Γ') (hn : ∀ w F vs, t.rep (val w) F vs → vs.length ≤ sizeLine) : EG X U Γ (.Tuple es k pos) (rTu t) m val Γ' :=
  ⟨fun en F σ H Q s q => wE_of (pe_tup wA_pa) (h.out en F σ H _ s (wpR_mono q (fun w kk vs F1 H1 e1 s1 r => ⟨hn w F1 vs r, fun p hp => by
    have x := Ext.new (o := .tup vs) s1.sub hp
    exact kk (.ref p) _ _ (e1.trans x.f) (s1.ext x) ⟨p, vs, rfl, upd_same, t.mono x.f r⟩⟩) fun _ z => z))⟩
theorem f_lst {m : R ω} {val : ω → τ} {Γ' : ω → List Sl} (h : AG X U Γ es t m val Γ') (hn : ∀ w F vs, t.rep (val w) F vs → vs.length ≤ sizeLine) : FG X U Γ (.List es pos) (fun w => oLi t (val w)) m Γ' :=
  ⟨fun en F σ H Q s q => wE_of (pe_lst wA_pa) (h.out en F σ H _ s (wpR_mono q (fun w kk vs F1 H1 e1 s1 r => ⟨hn w F1 vs r, fun p hp => kk p (.lst vs) F1 _ e1 (s1.lay hp).1 (s1.lay hp).2 ⟨vs, rfl, r⟩⟩) fun _ z => z))⟩
/-- a new list that is known at once -/
theorem x_frz {m : R ω} {val : ω → τ} {Γ' : ω → List Sl} (h : FG X U Γ e (fun w => oLi t (val w)) m Γ') : EG X U Γ e (rLi t) m val Γ' :=
  ⟨fun en F σ H Q s q => h.out en F σ H Q s (wpR_mono q (fun w k p o F1 H1 e1 s1 fr ho => by
    obtain ⟨vs, rfl, r⟩ := ho
    obtain ⟨s2, x⟩ := s1.know fr
    exact k (.ref p) _ _ (e1.trans x) s2 ⟨p, vs, rfl, upd_same, t.mono x r⟩) fun _ z => z)⟩
theorem g_dataC {r : List V → Hp → VK → Prop} {mr : τ → R γ} (hd : DC r t ρ mr) {m : R ω1} {v1 : ω1 → τ} {Γ1 : ω1 → List Sl} {val : ω → γ} {Γ' : ω → List Sl} (pk : ω1 → γ → ω) (hv : ∀ w z, val (pk w z) = z) (hΓ : ∀ w z, Γ' (pk w z) = Γ1 w)
    (ha : AG X U Γ es t m v1 Γ1) {en : En} {F : Hp} {σ : L2.St} {H : Hp} {Q : VK} (s : SA en Γ F σ H)
    (h : wpR (m.bind fun w => (mr (v1 w)).calm.bind fun z => .ok (pk w z)) (fun w => ∀ v F' H', Same F F' → SA en (Γ' w) F' σ H' → ρ.rep (val w) F' v → Q v H') (U.ok X.mg en F)) : tCB r (wA X es) σ H Q :=
  ha.out en F σ H _ s (wpR_mono (wpR_bind h) (fun w k vs F1 H1 e1 s1 r1 =>
    hd (v1 w) vs F1 H1 Q s1.sub r1 (wpR_mono (wpR_calm (wpR_bind k)) (fun z k u F' H' x ru => k u F' H' (e1.trans x.f) (by rw [hΓ]; exact s1.ext x) (by rw [hv]; exact ru)) fun _ z => z)) fun _ z => z)
theorem g_dataF {r : List V → Hp → VK → Prop} {P : γ → ORp} {mr : τ → R γ} (hd : DF r t P mr) {m : R ω1} {v1 : ω1 → τ} {Γ1 : ω1 → List Sl} {val : ω → γ} {Γ' : ω → List Sl} (pk : ω1 → γ → ω) (hv : ∀ w z, val (pk w z) = z) (hΓ : ∀ w z, Γ' (pk w z) = Γ1 w)
    (ha : AG X U Γ es t m v1 Γ1) {en : En} {F : Hp} {σ : L2.St} {H : Hp} {Q : VK} (s : SA en Γ F σ H)
    (h : wpR (m.bind fun w => (mr (v1 w)).calm.bind fun z => .ok (pk w z)) (fun w => ∀ p o F' H', Same F F' → SA en (Γ' w) F' σ H' → Fresh en (Γ' w) F' σ H' p o → (P (val w)).p F' o → Q (.ref p) H') (U.ok X.mg en F)) : tCB r (wA X es) σ H Q :=
  ha.out en F σ H _ s (wpR_mono (wpR_bind h) (fun w k vs F1 H1 e1 s1 r1 =>
    hd (v1 w) vs F1 H1 Q s1.sub r1 (wpR_mono (wpR_calm (wpR_bind k)) (fun z k p o hp ho => k p o F1 _ e1 (by rw [hΓ]; exact (s1.lay hp).1) (by rw [hΓ]; exact (s1.lay hp).2) (by rw [hv]; exact ho)) fun _ z => z)) fun _ z => z)
variable {n : Str} {p : Pos} {id T : String} {r : List V → Hp → VK → Prop}
theorem x_callB {mr : τ → R γ} {m : R τ} (hc : CallR X (.builtin id) r) (hd : DC r t ρ mr) (hm : X.mg n = none) (hv : bootBuiltins n = some (.builtin id)) (ha : AX X U Γ (a :: es) t m) (hg : Gl X n := by rfl)
    (hn : n ≠ "__name__" := by decide) (hdb : (n == ("__debug__" : Str)) = false := by decide) (he : starEach (a :: es) X.env = (false, eval a X.env) :: starEach es X.env := by rfl) (hpl : (backTo pos (starEach es X.env)).any (·.1) = false := by rfl) :
    EX X U Γ (.Call (.Name n p) (a :: es) [] pos) ρ (m.bind fun x => (mr x).calm.bind fun z => .ok z) :=
  ⟨fun en F σ H Q s h => wE_of (pe_callB hc hg hm hv wA_pa hn hdb he hpl) (g_dataC hd (fun _ z => z) (fun _ _ => rfl) (fun _ _ => rfl) ha s h)⟩
theorem x_callTy {mr : τ → R γ} {m : R τ} (hc : CallR X (.type T) r) (hd : DC r t ρ mr) (hm : X.mg n = none) (hv : bootBuiltins n = some (.type T)) (ha : AX X U Γ (a :: es) t m) (hg : Gl X n := by rfl)
    (hn : n ≠ "__name__" := by decide) (hdb : (n == ("__debug__" : Str)) = false := by decide) (he : starEach (a :: es) X.env = (false, eval a X.env) :: starEach es X.env := by rfl) (hpl : (backTo pos (starEach es X.env)).any (·.1) = false := by rfl) :
    EX X U Γ (.Call (.Name n p) (a :: es) [] pos) ρ (m.bind fun x => (mr x).calm.bind fun z => .ok z) :=
  ⟨fun en F σ H Q s h => wE_of (pe_callTy hc hg hm hv wA_pa hn hdb he hpl) (g_dataC hd (fun _ z => z) (fun _ _ => rfl) (fun _ _ => rfl) ha s h)⟩
theorem f_callB {P : γ → ORp} {mr : τ → R γ} {m : R τ} (hc : CallR X (.builtin id) r) (hd : DF r t P mr) (hm : X.mg n = none) (hv : bootBuiltins n = some (.builtin id)) (ha : AX X U Γ (a :: es) t m) (hg : Gl X n := by rfl)
    (hn : n ≠ "__name__" := by decide) (hdb : (n == ("__debug__" : Str)) = false := by decide) (he : starEach (a :: es) X.env = (false, eval a X.env) :: starEach es X.env := by rfl) (hpl : (backTo pos (starEach es X.env)).any (·.1) = false := by rfl) :
    FX X U Γ (.Call (.Name n p) (a :: es) [] pos) P (m.bind fun x => (mr x).calm.bind fun z => .ok z) :=
  ⟨fun en F σ H Q s h => wE_of (pe_callB hc hg hm hv wA_pa hn hdb he hpl) (g_dataF hd (fun _ z => z) (fun _ _ => rfl) (fun _ _ => rfl) ha s h)⟩
/-! ### calls of own defs -/
def SpP (mg : Str → Option Value) {τ γ : Type} (t : Tr τ) (ρ : Rp γ) (f : τ → R γ) : Sp := fun vs H Q E => ∃ F x, Same F H ∧ t.rep x F vs ∧
  wpR (f x) (fun z => ∀ v F' H', Ext F H F' H' → ρ.rep z F' v → Q v H') (fun r => ∀ cls d F' H', Ext F H F' H' → ErOk mg r cls d F' → E cls d H')
variable {W : WX} {k : Nat} {f : Addr} {fd : FuncData} {ps : List Str} {ds : List Value} {dvs : List V}
/-- f(e, ..), the defaults dvs behind -/
theorem g_call {τ' : Type} {t' : Tr τ'} {fm : τ' → R γ} {m : R ω1} {v1 : ω1 → τ} {Γ1 : ω1 → List Sl} {val : ω → γ} {Γ' : ω → List Sl} (app : τ → τ') (pk : ω1 → γ → ω) (hv : ∀ w z, val (pk w z) = z) (hΓ : ∀ w z, Γ' (pk w z) = Γ1 w)
    (hap : ∀ x F vs, t.rep x F vs → t'.rep (app x) F (vs ++ dvs)) (hle : ∀ w, Le U.Γ (Γ1 w))
    (G : FnOk X.prog X.w X.K X.mg X.base (L2.CX X.prog X.w) k f fd ps (SpP X.mg t' ρ fm)) (hr : Room k X.A) (hm : X.mg n = some (.ref f)) (hk : PySem.W.keepIn X.K (.ref f) = true) (hb : Binds X.K fd ps ds) (hd : Vals dvs ds) (tk : Takes X U.W)
    (ha : AG X U Γ (a :: es) t m v1 Γ1) (hg : Gl X n) (hdb : (n == ("__debug__" : Str)) = false) (he : starEach (a :: es) X.env = (false, eval a X.env) :: starEach es X.env) (hpl : (backTo pos (starEach es X.env)).any (·.1) = false) :
    EG X U Γ (.Call (.Name n p) (a :: es) [] pos) ρ (m.bind fun w => (fm (app (v1 w))).bind fun z => .ok (pk w z)) val Γ' :=
  ⟨fun en F σ H Q s h => wE_of (pe_callSD G hr hg hm hk hb hd (fun σ => passAt tk σ) wA_pa hdb he hpl) (ha.out en F σ H _ s (wpR_mono (wpR_bind h) (fun w k vs F1 H1 e1 s1 r1 =>
    ⟨F1, app (v1 w), s1.sub, hap _ F1 vs r1, wpR_mono (wpR_bind k) (fun z k v F' H' x ru => k v F' H' (e1.trans x.f) (by rw [hΓ]; exact s1.ext x) (by rw [hv]; exact ru)) fun r z cls d F' H' x o => z cls d F' σ H' (e1.trans x.f) ((s1.ext x).le (hle w)) o⟩) fun _ z => z))⟩
theorem x_call {fm : τ → R γ} {m : R τ} (G : FnOk X.prog X.w X.K X.mg X.base (L2.CX X.prog X.w) k f fd ps (SpP X.mg t ρ fm)) (hr : Room k X.A) (hm : X.mg n = some (.ref f)) (hk : PySem.W.keepIn X.K (.ref f) = true) (hb : Binds X.K fd ps []) (tk : Takes X U.W) (hle : Le U.Γ Γ)
    (ha : AX X U Γ (a :: es) t m) (hg : Gl X n := by rfl) (hdb : (n == ("__debug__" : Str)) = false := by decide) (he : starEach (a :: es) X.env = (false, eval a X.env) :: starEach es X.env := by rfl) (hpl : (backTo pos (starEach es X.env)).any (·.1) = false := by rfl) :
    EX X U Γ (.Call (.Name n p) (a :: es) [] pos) ρ (m.bind fun x => fm x) := by
  have h : EX X U Γ (.Call (.Name n p) (a :: es) [] pos) ρ (m.bind fun x => (fm x).bind fun z => .ok z) := g_call (fun x => x) (fun _ z => z) (fun _ _ => rfl) (fun _ _ => rfl) (fun x F vs r => by rw [List.append_nil]; exact r) (fun _ => hle) G hr hm hk hb .nil tk ha hg hdb he hpl
  simp only [R.bind_pure] at h
  exact h
end
end Py

/-! Own layer, part C: targets, statements, loops, comprehensions, defs. -/
namespace Py
open PySem PySem.Spec PyProof.Rows L2

/-! ### targets -/
/-- slots outside vs are as they were -/
def Chg (σ σ' : L2.St) (vs : List Nat) : Prop := σ'.length = σ.length ∧ ∀ j, j ∉ vs → σ'[j]? = σ[j]?
theorem Chg.refl {σ : L2.St} {vs : List Nat} : Chg σ σ vs := ⟨rfl, fun _ _ => rfl⟩
theorem Chg.trans {σ σ1 σ2 : L2.St} {vs : List Nat} (a : Chg σ σ1 vs) (b : Chg σ1 σ2 vs) : Chg σ σ2 vs := ⟨b.1.trans a.1, fun j h => (b.2 j h).trans (a.2 j h)⟩
theorem Chg.set {σ : L2.St} {vs : List Nat} {i : Nat} {x : Option V} (h : i ∈ vs) : Chg σ (σ.set i x) vs :=
  ⟨List.length_set, fun j hj => List.getElem?_set_ne fun e => hj (by rw [← e]; exact h)⟩
theorem wipe_in {σ : L2.St} : ∀ {vs : List Nat} {j : Nat}, j ∈ vs → j < σ.length → (wipe σ vs)[j]? = some none
  | [], _, h, _ => by cases h
  | v :: vs, j, h, hl => by
    unfold wipe
    by_cases e : v = j
    · subst e
      exact List.getElem?_set_self (by rw [wipe_length]; exact hl)
    · rw [List.getElem?_set_ne e]
      exact wipe_in ((List.mem_cons.mp h).resolve_left fun z => e z.symm) hl
theorem Chg.wipe {σ σ' : L2.St} {vs : List Nat} (h : Chg σ σ' vs) : wipe σ' vs = wipe σ vs := by
  apply List.ext_getElem?
  intro j
  by_cases hj : j ∈ vs
  · by_cases hl : j < σ.length
    · rw [wipe_in hj hl, wipe_in hj (by rw [h.1]; exact hl)]
    · rw [List.getElem?_eq_none (by rw [wipe_length, h.1]; omega), List.getElem?_eq_none (by rw [wipe_length]; omega)]
  · rw [wipe_out hj, wipe_out hj]
    exact h.2 j hj
def wG (X : Cx) (tg : Expr) : L2.TG := fun v σ H Q => ∀ pins s u, Inv X pins σ H s → RelV v u → wpAny (model X.prog X.w) X.A (assign tg X.env u) (fun _ s' => ∃ σ' H', Inv X pins σ' H' s' ∧ Q σ' H') X.xe s
def wGs (X : Cx) (ts : List Expr) : L2.TGs := fun vs σ H Q => ∀ pins s us, Inv X pins σ H s → Vals vs us → wpAny (model X.prog X.w) X.A (assignInOrder ((assignEach ts X.env).map (·.2)) us) (fun _ s' => ∃ σ' H', Inv X pins σ' H' s' ∧ Q σ' H') X.xe s
section
variable {X : Cx} {tg : Expr} {ts : List Expr} {pos : Pos} {α β τ : Type}
theorem wG_pg : PG X tg (wG X tg) := ⟨fun pins s _ _ _ u _ I r h => h pins s u I r⟩
theorem wGs_pgs : PGs X ts (wGs X ts) := ⟨fun pins s _ _ _ us _ I r h => h pins s us I r⟩
theorem wG_of {t : L2.TG} {v : V} {σ : L2.St} {H : Hp} {Q : L2.St → Hp → Prop} (h : PG X tg t) (q : t v σ H Q) : wG X tg v σ H Q := fun pins s u I r => h.run pins s σ H v u Q I r q
theorem wGs_of {t : L2.TGs} {vs : List V} {σ : L2.St} {H : Hp} {Q : L2.St → Hp → Prop} (h : PGs X ts t) (q : t vs σ H Q) : wGs X ts vs σ H Q := fun pins s us I r => h.run pins s σ H vs us Q I r q
/-- a target for a value of ρ: g tells the slots behind; vs are the slots that change -/
structure GT (X : Cx) (tg : Expr) {α : Type} (ρ : Rp α) (vs : List Nat) (g : α → List Sl → List Sl) : Prop where
  keep : ∀ x Γ (j : Nat), j ∉ vs → (g x Γ)[j]? = Γ[j]?
  out : ∀ en Γ F σ H v x (Q : L2.St → Hp → Prop), SA en Γ F σ H → ρ.rep x F v → (∀ σ', SA en (g x Γ) F σ' H → Chg σ σ' vs → Q σ' H) → wG X tg v σ H Q
structure GTs (X : Cx) (ts : List Expr) {τ : Type} (t : Tr τ) (n : Nat) (vs : List Nat) (g : τ → List Sl → List Sl) : Prop where
  len : ∀ x F ws, t.rep x F ws → ws.length = n
  keep : ∀ x Γ (j : Nat), j ∉ vs → (g x Γ)[j]? = Γ[j]?
  out : ∀ en Γ F σ H ws x (Q : L2.St → Hp → Prop), SA en Γ F σ H → t.rep x F ws → (∀ σ', SA en (g x Γ) F σ' H → Chg σ σ' vs → Q σ' H) → wGs X ts ws σ H Q
theorem gt_name {ρ : Rp α} {vs : List Nat} {n : Str} (i : Nat) (hi : i ∈ vs := by decide) (hN : X.N.Nodup) (hn : X.N[i]? = some n := by rfl) (hx : Loc X.env.scope n := by first | exact Or.inl rfl | exact Or.inr rfl)
    (hf : X.fn n = true ∨ X.env.scope.names.lookup n = some .local := by first | exact .inl rfl | exact .inr rfl) : GT X (.Name n pos) ρ vs fun x Γ => Γ.set i (im ρ x) :=
  ⟨fun x Γ j hj => List.getElem?_set_ne fun e => hj (by rw [← e]; exact hi), fun en Γ F σ H v x Q s r h => wG_of (pg_name hN hn hx hf) (h _ (s.put r) (Chg.set hi))⟩
theorem gts_one {ρ : Rp α} {vs : List Nat} {g : α → List Sl → List Sl} (h1 : GT X tg ρ vs g) (hs : (assignEach [tg] X.env).map (·.2) = assign tg X.env :: (assignEach [] X.env).map (·.2) := by rfl) : GTs X [tg] (t1 ρ) 1 vs g where
  len := fun x F ws ⟨v, e, _⟩ => by rw [e]; rfl
  keep := fun x Γ j hj => h1.keep x Γ j hj
  out := fun en Γ F σ H ws x Q s ⟨v, e, r⟩ h => by
    subst e
    exact wGs_of (pgs_cons wG_pg pgs_nil hs) ⟨v, [], rfl, h1.out en Γ F σ H v x _ s r fun σ' s' c => ⟨rfl, h σ' s' c⟩⟩
theorem gts_cons {ρ : Rp α} {t : Tr τ} {vs : List Nat} {n : Nat} {g : α → List Sl → List Sl} {g' : τ → List Sl → List Sl} (h1 : GT X tg ρ vs g) (h2 : GTs X ts t n vs g')
    (hs : (assignEach (tg :: ts) X.env).map (·.2) = assign tg X.env :: (assignEach ts X.env).map (·.2) := by rfl) : GTs X (tg :: ts) (tc ρ t) (n + 1) vs fun x Γ => g' x.2 (g x.1 Γ) where
  len := fun x F ws ⟨v, r, e, _, q⟩ => by
    rw [e, List.length_cons, h2.len _ _ _ q]
  keep := fun x Γ j hj => (h2.keep x.2 _ j hj).trans (h1.keep x.1 Γ j hj)
  out := fun en Γ F σ H ws x Q s ⟨v, r, e, q1, q2⟩ h => by
    subst e
    exact wGs_of (pgs_cons wG_pg wGs_pgs hs) ⟨v, r, rfl, h1.out en Γ F σ H v x.1 _ s q1 fun σ' s' c => h2.out en _ F σ' H r x.2 _ s' q2 fun σ2 s2 c2 => h σ2 s2 (c.trans c2)⟩
theorem gt_tup {t : Tr τ} {vs : List Nat} {n k : Nat} {g : τ → List Sl → List Sl} (hc : X.calm = true) (h : GTs X ts t n vs g) (hn : (assignEach ts X.env).length = n := by rfl) (hst : (assignEach ts X.env).findIdx? (·.1) = none := by rfl) :
    GT X (.Tuple ts k pos) (rTu t) vs g :=
  ⟨fun x Γ j hj => h.keep x Γ j hj, fun en Γ F σ H v x Q s ⟨p, ws, e, hp, r⟩ q => wG_of (pg_tup hc wGs_pgs hn hst) ⟨p, ws, e, .inl (.inl (s.sub p _ hp)), h.len _ _ _ r, h.out en Γ F σ H ws x Q s r q⟩⟩
end

/-! ### blocks -/
def Kd.cut : Kd → Kd
  | .nx _ => .rt ⟨fun _ _ => False, fun _ h => h⟩ []
  | .go Γ => .ct Γ
  | .fn p Γ => .rt p Γ
  | k => k
theorem Kd.sat.cut {k : Kd} {en : En} {F : Hp} {D : Ends} {nx : L2.St → Hp → Prop} (h : k.sat en F D) : k.cut.sat en F { D with nx := nx } := by
  cases k with
  | nx Γ => exact fun v F' σ' H' _ _ z => z.elim
  | go Γ => exact fun F' σ' H' e s => (h F' σ' H' e s).2
  | fn p Γ => exact h.1
  | bk Γ => exact h
  | ct Γ => exact h
  | rt p Γ => exact h
  | rf P Γ => exact h
section
variable {X : Cx} {U : Wi} {Γ : List Sl} {st : Stmt} {sts rest : List Stmt} {e : Expr} {pos : Pos} {α β γ ω ω' : Type} {I : ω → Kd} {I' : ω' → Kd}
/-- one statement -/
structure SG (X : Cx) (U : Wi) (Γ : List Sl) (st : Stmt) {ω : Type} (I : ω → Kd) (m : R ω) : Prop where
  out : ∀ en F σ H D, SA en Γ F σ H → wpR m (fun o => (I o).sat en F D) (U.ok X.mg en F) → wS X st D σ H
/-- what follows -/
inductive Cont (X : Cx) (U : Wi) (rest : List Stmt) {ω : Type} (I : ω → Kd) : Kd → R ω → Prop
  | nx {Γ : List Sl} {m : R ω} : SX X U Γ rest I m → Cont X U rest I (.nx Γ) m
  | rt {p : PRp} {Γ : List Sl} {o : ω} : I o = .rt p Γ → Cont X U rest I (.rt p Γ) (.ok o)
  | rtf {p : PRp} {Γ : List Sl} {o : ω} : I o = .fn p Γ → Cont X U rest I (.rt p Γ) (.ok o)
  | bk {Γ Γ' : List Sl} {o : ω} : I o = .bk Γ' → Le Γ' Γ → Cont X U rest I (.bk Γ) (.ok o)
  | ct {Γ Γ' : List Sl} {o : ω} : I o = .ct Γ' → Le Γ' Γ → Cont X U rest I (.ct Γ) (.ok o)
  | go {Γ Γ' : List Sl} {o : ω} : I o = .go Γ' → Le Γ' Γ → Cont X U rest I (.ct Γ) (.ok o)
  | rf {P : ORp} {Γ : List Sl} {o : ω} : I o = .rf P Γ → Cont X U rest I (.rf P Γ) (.ok o)
  | no {p : PRp} {Γ : List Sl} {m : R ω} : (∀ F v, ¬ p.p F v) → Cont X U rest I (.rt p Γ) m
theorem Cont.sat {k : Kd} {m : R ω} {en : En} {F : Hp} {D : Ends} (c : Cont X U rest I k m) (h : wpR m (fun o => (I o).sat en F D) (U.ok X.mg en F)) : k.sat en F { D with nx := wSs X rest D } := by
  cases c with
  | nx s => exact fun F' σ' H' e a => s.out en F' σ' H' D a (wpR_mono h (fun o z => z.up e) fun _ z => z.up e)
  | rt e =>
    have h' : Kd.sat (I _) en F D := h
    rw [e] at h'
    exact h'
  | rtf e =>
    have h' : Kd.sat (I _) en F D := h
    rw [e] at h'
    exact h'.1
  | bk e l =>
    have h' : Kd.sat (I _) en F D := h
    rw [e] at h'
    exact fun F' σ' H' x a => h' F' σ' H' x (a.le l)
  | ct e l =>
    have h' : Kd.sat (I _) en F D := h
    rw [e] at h'
    exact fun F' σ' H' x a => h' F' σ' H' x (a.le l)
  | go e l =>
    have h' : Kd.sat (I _) en F D := h
    rw [e] at h'
    exact fun F' σ' H' x a => (h' F' σ' H' x (a.le l)).2
  | rf e =>
    have h' : Kd.sat (I _) en F D := h
    rw [e] at h'
    exact h'
  | no hn => exact fun v F' σ' H' _ _ z => (hn _ _ z).elim
theorem s_cons {m : R ω'} {k : ω' → R ω} (h1 : SG X U Γ st I' m) (h2 : ∀ o, Cont X U rest I (I' o) (k o)) : SX X U Γ (st :: rest) I (m.bind k) :=
  ⟨fun en F σ H D s h => wSs_of (pss_cons wS_ps wSs_pss) (h1.out en F σ H { D with nx := wSs X rest D } s (wpR_mono (wpR_bind h) (fun o q => (h2 o).sat q) fun _ z => z))⟩
theorem s_one {m : R ω} (h1 : SG X U Γ st I m) : SX X U Γ [st] I m := ⟨fun en F σ H D s h => wSs_of (pss_one wS_ps) (h1.out en F σ H D s h)⟩
theorem s_nx {o : ω} {Γ' : List Sl} (e : I o = .nx Γ') (l : Le Γ' Γ) : SX X U Γ [] I (.ok o) :=
  ⟨fun en F σ H D s h => wSs_of pss_nil (by
    have h' : Kd.sat (I o) en F D := h
    rw [e] at h'
    exact h' F σ H (Same.refl F) (s.le l))⟩
theorem s_go {o : ω} {Γ' : List Sl} (e : I o = .go Γ') (l : Le Γ' Γ) : SX X U Γ [] I (.ok o) :=
  ⟨fun en F σ H D s h => wSs_of pss_nil (by
    have h' : Kd.sat (I o) en F D := h
    rw [e] at h'
    exact (h' F σ H (Same.refl F) (s.le l)).1)⟩
theorem s_endN {o : ω} {Γ' : List Sl} {p : PRp} (e : I o = .fn p Γ') (l : Le Γ' Γ) (hp : ∀ F, p.p F .non) : SX X U Γ [] I (.ok o) :=
  ⟨fun en F σ H D s h => wSs_of pss_nil (by
    have h' : Kd.sat (I o) en F D := h
    rw [e] at h'
    exact h'.2 F σ H (Same.refl F) (s.le l) (hp F))⟩
theorem g_ct {o : ω} {Γ' : List Sl} (e : I o = .ct Γ') (l : Le Γ' Γ) : SG X U Γ (.Continue pos) I (.ok o) :=
  ⟨fun en F σ H D s h => wS_of ps_continue (by
    have h' : Kd.sat (I o) en F D := h
    rw [e] at h'
    exact h' F σ H (Same.refl F) (s.le l))⟩
/-- return e -/
theorem g_ret {ρ : Rp α} {m : R ω'} {val : ω' → α} {Γ1 : ω' → List Sl} (mk : ω' → ω) (P : ω' → List Sl) (e1 : ∀ w, I (mk w) = .rt ⟨fun H v => ρ.rep (val w) H v, fun e h => ρ.mono e h⟩ (P w)) (l : ∀ w, Le (P w) (Γ1 w)) (he : EG X U Γ e ρ m val Γ1) :
    SG X U Γ (.Return (some e) pos) I (m.bind fun w => .ok (mk w)) :=
  ⟨fun en F σ H D s h => wS_of (ps_ret wE_pe) (he.out en F σ H _ s (wpR_mono (wpR_bind h) (fun w k v F' H' e' s' r => by
    have k' : Kd.sat (I (mk w)) en F D := k
    rw [e1] at k'
    exact k' v F' σ H' e' (s'.le (l w)) r) fun _ z => z))⟩
/-- what stands behind a return, a break is not looked at -/
theorem s_last {m : R ω} (h1 : SG X U Γ st (fun o => (I o).cut) m) : SX X U Γ (st :: rest) I m :=
  ⟨fun en F σ H D s h => wSs_of (pss_cons wS_ps wSs_pss) (h1.out en F σ H { D with nx := wSs X rest D } s (wpR_mono h (fun o q => q.cut) fun _ z => z))⟩

/-! ### if -/
theorem g_if {c : Expr} {A B : List Stmt} {mc : R ω'} {val : ω' → Bool} {Γ1 : ω' → List Sl} {mA mB : ω' → R ω} (hc : BG X U Γ c mc val Γ1) (hA : ∀ w, SX X U (Γ1 w) A I (mA w)) (hB : ∀ w, SX X U (Γ1 w) B I (mB w)) :
    SG X U Γ (.If c A B pos) I (mc.bind fun w => if val w = true then mA w else mB w) :=
  ⟨fun en F σ H D s h => wS_of (ps_if wT_pt wSs_pss wSs_pss) (hc.out en F σ H _ s (wpR_mono (wpR_bind h) (fun w k F1 H1 e1 s1 => by
    cases hv : val w with
    | true =>
      rw [hv, if_pos rfl] at k
      rw [if_pos rfl]
      exact (hA w).out en F1 σ H1 D s1 (wpR_mono k (fun o z => z.up e1) fun _ z => z.up e1)
    | false =>
      rw [hv, if_neg Bool.false_ne_true] at k
      rw [if_neg Bool.false_ne_true]
      exact (hB w).out en F1 σ H1 D s1 (wpR_mono k (fun o z => z.up e1) fun _ z => z.up e1)) fun _ z => z))⟩
/-- if c: A (it never falls through), then the rest -/
theorem s_ifT {c : Expr} {A : List Stmt} {mc : R ω'} {val : ω' → Bool} {Γ1 : ω' → List Sl} {mA mR : ω' → R ω} (hc : BG X U Γ c mc val Γ1) (hA : ∀ w, SX X U (Γ1 w) A (fun o => (I o).cut) (mA w)) (hR : ∀ w, SX X U (Γ1 w) rest I (mR w)) :
    SX X U Γ (.If c A [] pos :: rest) I (mc.bind fun w => if val w = true then mA w else mR w) :=
  ⟨fun en F σ H D s h => wSs_of (pss_cons (ps_if wT_pt wSs_pss pss_nil) wSs_pss) (hc.out en F σ H _ s (wpR_mono (wpR_bind h) (fun w k F1 H1 e1 s1 => by
    cases hv : val w with
    | true =>
      rw [hv, if_pos rfl] at k
      rw [if_pos rfl]
      exact (hA w).out en F1 σ H1 _ s1 (wpR_mono k (fun o z => (z.up e1).cut) fun _ z => z.up e1)
    | false =>
      rw [hv, if_neg Bool.false_ne_true] at k
      rw [if_neg Bool.false_ne_true]
      exact (hR w).out en F1 σ H1 D s1 (wpR_mono k (fun o z => z.up e1) fun _ z => z.up e1)) fun _ z => z))⟩
/-! ### assignments -/
/-- name = e -/
theorem s_set {ρ : Rp α} {n : Str} {p' : Pos} {m : R ω'} {val : ω' → α} {Γ1 : ω' → List Sl} {k : ω' → R ω} (i : Nat) (hN : X.N.Nodup) (he : EG X U Γ e ρ m val Γ1) (hr : ∀ w, SX X U ((Γ1 w).set i (im ρ (val w))) rest I (k w)) (hn : X.N[i]? = some n := by rfl)
    (hx : Loc X.env.scope n := by first | exact Or.inl rfl | exact Or.inr rfl) (hs : swapsWith e (some (.Name n p')) pos.line X.env = pure false := by rfl) (hf : X.fn n = true ∨ X.env.scope.names.lookup n = some .local := by first | exact .inl rfl | exact .inr rfl) :
    SX X U Γ (.Assign [.Name n p'] e pos :: rest) I (m.bind k) :=
  ⟨fun en F σ H D s h => wSs_of (pss_cons (ps_set hN hn hx wE_pe hs hf) wSs_pss) (he.out en F σ H _ s (wpR_mono (wpR_bind h) (fun w q v F' H' e' s' r =>
    (hr w).out en F' _ H' D (s'.put r) (wpR_mono q (fun o z => z.up e') fun _ z => z.up e')) fun _ z => z))⟩
/-- name = a new object -/
theorem s_own {P : ω' → ORp} {n : Str} {p' : Pos} {m : R ω'} {Γ1 : ω' → List Sl} {k : ω' → R ω} (i : Nat) (hN : X.N.Nodup) (he : FG X U Γ e P m Γ1) (hr : ∀ w, SX X U ((Γ1 w).set i (.own none (P w))) rest I (k w)) (hn : X.N[i]? = some n := by rfl)
    (hx : Loc X.env.scope n := by first | exact Or.inl rfl | exact Or.inr rfl) (hs : swapsWith e (some (.Name n p')) pos.line X.env = pure false := by rfl) (hf : X.fn n = true ∨ X.env.scope.names.lookup n = some .local := by first | exact .inl rfl | exact .inr rfl) :
    SX X U Γ (.Assign [.Name n p'] e pos :: rest) I (m.bind k) :=
  ⟨fun en F σ H D s h => wSs_of (pss_cons (ps_set hN hn hx wE_pe hs hf) wSs_pss) (he.out en F σ H _ s (wpR_mono (wpR_bind h) (fun w q p o F' H' e' s' fr r =>
    (hr w).out en F' _ H' D (s'.putOwn fr r) (wpR_mono q (fun o z => z.up e') fun _ z => z.up e')) fun _ z => z))⟩
/-- a target of any form = e -/
theorem s_asg {ρ : Rp α} {tg : Expr} {vs : List Nat} {g : α → List Sl → List Sl} {m : R ω'} {val : ω' → α} {Γ1 : ω' → List Sl} {k : ω' → R ω} (hg : GT X tg ρ vs g) (he : EG X U Γ e ρ m val Γ1) (hr : ∀ w, SX X U (g (val w) (Γ1 w)) rest I (k w))
    (hs : swapsWithSole [tg] e pos.line X.env = pure false := by rfl) (hw : swappedStores [tg] e X.env = pure none := by rfl) (h1 : (assignEach [tg] X.env).map (·.2) = [assign tg X.env] := by rfl) :
    SX X U Γ (.Assign [tg] e pos :: rest) I (m.bind k) :=
  ⟨fun en F σ H D s h => wSs_of (pss_cons (ps_asg wE_pe wG_pg hs hw h1) wSs_pss) (he.out en F σ H _ s (wpR_mono (wpR_bind h) (fun w q v F' H' e' s' r =>
    hg.out en _ F' σ H' v _ _ s' r fun σ' s2 _ => (hr w).out en F' σ' H' D s2 (wpR_mono q (fun o z => z.up e') fun _ z => z.up e')) fun _ z => z))⟩
/-- an expression alone -/
theorem s_expr {ρ : Rp α} {m : R ω'} {val : ω' → α} {Γ1 : ω' → List Sl} {k : ω' → R ω} (he : EG X U Γ e ρ m val Γ1) (hr : ∀ w, SX X U (Γ1 w) rest I (k w)) (hs : swapsWith e none pos.line X.env = pure false := by rfl) :
    SX X U Γ (.Expr e pos :: rest) I (m.bind k) :=
  ⟨fun en F σ H D s h => wSs_of (pss_cons (ps_expr wE_pe hs) wSs_pss) (he.out en F σ H _ s (wpR_mono (wpR_bind h) (fun w q v F' H' e' s' r =>
    (hr w).out en F' _ H' D s' (wpR_mono q (fun o z => z.up e') fun _ z => z.up e')) fun _ z => z))⟩
/-- what a slot owns is known from now on -/
theorem s_give {τ : Type} {t : Tr τ} {x : τ} {m : R ω} {a0 : Option Addr} (i : Nat) (hΓ : Γ[i]? = some (.own a0 (oLi t x))) (hr : SX X U (Γ.set i (im (rLi t) x)) sts I m) : SX X U Γ sts I m :=
  ⟨fun en F σ H D s h => by
    obtain ⟨p, o, h1, h2, h3, h4, h5, h6⟩ := s.own i _ _ hΓ
    obtain ⟨vs, e, r⟩ := h4
    subst e
    have g := s.give hΓ h1 h3
    have sf : Same F (upd F p (.lst vs)) := Same.upd h2
    have hl : i < σ.length := by
      by_cases z : i < σ.length
      · exact z
      · rw [List.getElem?_eq_none (by omega)] at h1
        cases h1
    have g2 := SA.put (i := i) (P := ⟨fun H v => (rLi t).rep x H v, fun e h => (rLi t).mono e h⟩) (v := .ref p) g ⟨p, vs, rfl, upd_same, t.mono sf r⟩
    rw [List.set_set] at g2
    have e2 : σ.set i (some (.ref p)) = σ := by
      apply List.ext_getElem?
      intro j
      by_cases ej : i = j
      · subst ej
        rw [List.getElem?_set_self hl, h1]
      · rw [List.getElem?_set_ne ej]
    rw [e2] at g2
    exact hr.out en _ σ H D g2 (wpR_mono h (fun o z => z.up sf) fun _ z => z.up sf)⟩
end

/-! ### what is walked -/
structure Wk (J : It) (F : Hp) {α : Type} (ρ : Rp α) (xs : List α) : Prop where
  go : ∀ F1 H i x, Same F F1 → Same F1 H → xs[i]? = some x → J.go i H ∧ ∀ v H', J.yld i H v H' → ∃ F', Ext F1 H F' H' ∧ ρ.rep x F' v
  stop : ∀ H i, Same F H → xs.length ≤ i → J.stop i H
theorem Wk.up {J : It} {F F1 : Hp} {α : Type} {ρ : Rp α} {xs : List α} (w : Wk J F ρ xs) (e : Same F F1) : Wk J F1 ρ xs :=
  ⟨fun F2 H i x h1 h2 h3 => w.go F2 H i x (e.trans h1) h2 h3, fun H i h => w.stop H i (e.trans h)⟩
def wI (X : Cx) (tg iter : Expr) : TI := fun σ H R => ∀ pins s, Inv X pins σ H s → wpAny (model X.prog X.w) X.A (eval iter X.env) (fun v s1 => wpAny (model X.prog X.w) X.A (pyIter v) (PIE X pins σ tg R) X.xe s1) X.xe s
theorem wI_pi {X : Cx} {tg iter : Expr} : PI X tg iter (wI X tg iter) := ⟨fun pins s _ _ _ I h => h pins s I⟩
theorem wI_of {X : Cx} {tg iter : Expr} {t : TI} {σ : L2.St} {H : Hp} {R : It → Hp → Prop} (h : PI X tg iter t) (q : t σ H R) : wI X tg iter σ H R := fun pins s I => h.run pins s σ H R I q
structure IG (X : Cx) (U : Wi) (Γ : List Sl) (tg iter : Expr) {α ω : Type} (ρ : Rp α) (m : R ω) (val : ω → List α) (Γ' : ω → List Sl) : Prop where
  out : ∀ en F σ H (R : It → Hp → Prop), SA en Γ F σ H → wpR m (fun w => ∀ J F' H', Same F F' → SA en (Γ' w) F' σ H' → Wk J F' ρ (val w) → R J H') (U.ok X.mg en F) → wI X tg iter σ H R
abbrev IX (X : Cx) (U : Wi) (Γ : List Sl) (tg iter : Expr) {α : Type} (ρ : Rp α) (m : R (List α)) : Prop := IG X U Γ tg iter ρ m (fun a => a) fun _ => Γ
/-- lo, lo + 1, .. below hi -/
def rangeI (lo hi : Int) : List Int := (List.range (hi - lo).toNat).map fun i => lo + (i : Nat)
theorem wk_list {K : PySem.W.Frag} {F : Hp} {α : Type} {ρ : Rp α} {xs : List α} {p : Addr} {vs : List V} (h : F p = some (.lst vs)) (r : RepL ρ F xs vs) : Wk (Itl K p) F ρ xs where
  go := fun F1 H i x e1 e2 hx => by
    have hp : H p = some (.lst vs) := e2 p _ (e1 p _ h)
    obtain ⟨v, hv, rv⟩ := r.got hx
    exact ⟨⟨vs, v, .inl (.inl hp), hv⟩, fun w H' ⟨eH, y⟩ => by
      subst eH
      have ew : w = v := Option.some.inj ((y vs (.inl (.inl hp))).symm.trans hv)
      subst ew
      exact ⟨F1, Ext.refl e2, ρ.mono e1 rv⟩⟩
  stop := fun H i e hi => ⟨vs, .inl (.inl (e p _ h)), by rw [← r.length]; exact hi⟩
theorem wk_tup {K : PySem.W.Frag} {F : Hp} {α : Type} {ρ : Rp α} {xs : List α} {p : Addr} {vs : List V} (h : F p = some (.tup vs)) (r : RepL ρ F xs vs) : Wk (Itt K p) F ρ xs where
  go := fun F1 H i x e1 e2 hx => by
    have hp : H p = some (.tup vs) := e2 p _ (e1 p _ h)
    obtain ⟨v, hv, rv⟩ := r.got hx
    exact ⟨⟨vs, v, .inl (.inl hp), hv⟩, fun w H' ⟨eH, y⟩ => by
      subst eH
      have ew : w = v := Option.some.inj ((y vs (.inl (.inl hp))).symm.trans hv)
      subst ew
      exact ⟨F1, Ext.refl e2, ρ.mono e1 rv⟩⟩
  stop := fun H i e hi => ⟨vs, .inl (.inl (e p _ h)), by rw [← r.length]; exact hi⟩
theorem wk_range {F : Hp} {lo hi : Int} : Wk (Itr lo (hi - lo).toNat) F rI (rangeI lo hi) where
  go := fun F1 H i x e1 e2 hx => by
    unfold rangeI at hx
    rw [List.getElem?_map] at hx
    have hi' : i < (hi - lo).toNat := by
      by_cases z : i < (hi - lo).toNat
      · exact z
      · rw [List.getElem?_eq_none (by rw [List.length_range]; omega)] at hx
        cases hx
    rw [List.getElem?_range hi'] at hx
    have hx' : lo + (i : Nat) = x := Option.some.inj hx
    exact ⟨hi', fun w H' ⟨eH, y⟩ => by
      subst eH
      exact ⟨F1, Ext.refl e2, by rw [y, hx'] <;> rfl⟩⟩
  stop := fun H i e hi' => by
    unfold rangeI at hi'
    rw [List.length_map, List.length_range] at hi'
    exact hi'
section
variable {X : Cx} {U : Wi} {Γ : List Sl} {tg a b e : Expr} {pos p : Pos} {α β ω : Type} {ρ : Rp α}
theorem i_list {m : R ω} {val : ω → List α} {Γ' : ω → List Sl} (h : EG X U Γ e (rL ρ) m val Γ') : IG X U Γ tg e ρ m val Γ' :=
  ⟨fun en F σ H R s q => wI_of (pi_list wE_pe) (h.out en F σ H _ s (wpR_mono q (fun w k v F' H' e1 s1 ⟨p, vs, ev, hp, r⟩ => ⟨p, ev, ⟨vs, .inl (.inl (s1.sub p _ hp))⟩, k _ F' H' e1 s1 (wk_list hp r)⟩) fun _ z => z))⟩
theorem i_tup {m : R ω} {val : ω → List α} {Γ' : ω → List Sl} (h : EG X U Γ e (rT ρ) m val Γ') : IG X U Γ tg e ρ m val Γ' :=
  ⟨fun en F σ H R s q => wI_of (pi_tup wE_pe) (h.out en F σ H _ s (wpR_mono q (fun w k v F' H' e1 s1 ⟨p, vs, ev, hp, r⟩ => ⟨p, ev, ⟨vs, .inl (.inl (s1.sub p _ hp))⟩, k _ F' H' e1 s1 (wk_tup hp r)⟩) fun _ z => z))⟩
theorem i_range1 {m : R Int} (hm : X.mg "range" = none) (h : AX X U Γ [a] (t1 rI) m) (hg : Gl X "range" := by rfl) (hs : starEach [a] X.env = [(false, eval a X.env)] := by rfl) :
    IX X U Γ tg (.Call (.Name "range" p) [a] [] pos) rI (m.bind fun n => chk (-(2 ^ 62) ≤ n ∧ n < 2 ^ 62) (rangeI 0 n)) :=
  ⟨fun en F σ H R s q => wI_of (pi_range1 hg hm wA_pa hs) (h.out en F σ H _ s (wpR_mono (wpR_bind q) (fun n k vs F' H' e1 s1 ⟨v, ev, r⟩ => by
    obtain ⟨⟨b1, b2⟩, k⟩ := wpR_chk k
    refine ⟨n, by rw [ev, show v = V.int n from r], b1, b2, k _ F' H' e1 s1 ?_⟩
    have w := wk_range (F := F') (lo := 0) (hi := n)
    rw [Int.sub_zero] at w
    exact w) fun _ z => z))⟩
theorem i_rangeC {i : Int} {j} {p2 : Pos} (hm : X.mg "range" = none) (hi : -(2 ^ 62) ≤ i ∧ i < 2 ^ 62 := by decide) (hg : Gl X "range" := by rfl) (hs : starEach [.Constant (.int i) j p2] X.env = [(false, eval (.Constant (.int i) j p2) X.env)] := by rfl) :
    IX X U Γ tg (.Call (.Name "range" p) [.Constant (.int i) j p2] [] pos) rI (.ok (rangeI 0 i)) :=
  ⟨fun en F σ H R s q => wI_of (pi_range1 hg hm (pa_cons pe_int pa_nil hs) hs) ⟨i, rfl, hi.1, hi.2, q _ F H (Same.refl F) s (by
    have w := wk_range (F := F) (lo := 0) (hi := i)
    rw [Int.sub_zero] at w
    exact w)⟩⟩
theorem i_range2 {m : R (Int × Int)} (hm : X.mg "range" = none) (h : AX X U Γ [a, b] (tc rI (t1 rI)) m) (hg : Gl X "range" := by rfl) (hs : starEach [a, b] X.env = [(false, eval a X.env), (false, eval b X.env)] := by rfl) (hs2 : starEach [b] X.env = [(false, eval b X.env)] := by rfl) :
    IX X U Γ tg (.Call (.Name "range" p) [a, b] [] pos) rI (m.bind fun n => chk (-(2 ^ 62) ≤ n.1 ∧ n.1 < 2 ^ 62 ∧ -(2 ^ 62) ≤ n.2 ∧ n.2 < 2 ^ 62) (rangeI n.1 n.2)) :=
  ⟨fun en F σ H R s q => wI_of (pi_range2 hg hm wA_pa hs hs2) (h.out en F σ H _ s (wpR_mono (wpR_bind q) (fun n k vs F' H' e1 s1 ⟨v, ws, ev, r, v2, ew, r2⟩ => by
    obtain ⟨hb, k⟩ := wpR_chk k
    exact ⟨n.1, n.2, by rw [ev, ew, show v = V.int n.1 from r, show v2 = V.int n.2 from r2], hb, k _ F' H' e1 s1 wk_range⟩) fun _ z => z))⟩
end

/-! ### for -/
inductive Stp (τ γ : Type) where
  | nx (s : τ)
  | bk (s : τ)
  | rt (a : γ)
inductive Out (τ γ : Type) where
  | nx (s : τ)
  | rt (a : γ)
def Stp.kd {τ γ : Type} (Γs : τ → List Sl) (P : γ → PRp × List Sl) : Stp τ γ → Kd
  | .nx s => .go (Γs s)
  | .bk s => .bk (Γs s)
  | .rt a => .rt (P a).1 (P a).2
def Out.kd {τ γ : Type} (Γs : τ → List Sl) (P : γ → PRp × List Sl) : Out τ γ → Kd
  | .nx s => .nx (Γs s)
  | .rt a => .rt (P a).1 (P a).2
def outK {τ γ ω : Type} (k : τ → R ω) (mk : γ → ω) : Out τ γ → R ω
  | .nx s => k s
  | .rt a => .ok (mk a)
/-- a loop that may be left -/
def forS {α τ γ : Type} (f : τ → α → R (Stp τ γ)) : List α → τ → R (Out τ γ)
  | [], s => .ok (.nx s)
  | x :: xs, s => (f s x).bind fun o => match o with
    | .nx s' => forS f xs s'
    | .bk s' => .ok (.nx s')
    | .rt a => .ok (.rt a)
/-- one that runs through -/
def forR {α τ : Type} (f : τ → α → R τ) : List α → τ → R τ
  | [], s => .ok s
  | x :: xs, s => (f s x).bind fun s' => forR f xs s'
section
variable {X : Cx} {U : Wi} {Γ : List Sl} {tg iter : Expr} {body : List Stmt} {pos : Pos} {α τ γ ω : Type} {ρ : Rp α}
theorem g_forS {m : R ω} {val : ω → List α} {Γ1 : ω → List Sl} {vs : List Nat} {g : α → List Sl → List Sl} (Γs : τ → List Sl) (P : γ → PRp × List Sl) (f : ω → τ → α → R (Stp τ γ)) (s0 : ω → τ) (hi : IG X U Γ tg iter ρ m val Γ1) (hg : GT X tg ρ vs g)
    (hb : ∀ w s x, SX X U (g x (Γs s)) body (Stp.kd Γs P) (f w s x))
    (h0 : ∀ w, Le (Γs (s0 w)) (Γ1 w)) (hp : PassesOwn (model X.prog X.w) X.A X.env X.xe) (hc : X.calm = true := by rfl) (hs : ∀ x, foldedSetIterable iter X.env x = pure x := by intro _; rfl) :
    SG X U Γ (.For tg iter body [] pos) (Out.kd Γs P) (m.bind fun w => forS (f w) (val w) (s0 w)) :=
  ⟨fun en F σ H D s h => wS_of (ps_for hp hc wI_pi wG_pg wSs_pss hs) (hi.out en F σ H _ s (wpR_mono (wpR_bind h) (fun w k J F1 H1 e1 s1 wk => by
    refine ⟨fun i m σ H => m = (val w).length - i ∧ i ≤ (val w).length ∧ ∃ st F', Same F1 F' ∧ SA en (Γs st) F' σ H ∧ wpR (forS (f w) ((val w).drop i) st) (fun o => Kd.sat (Out.kd Γs P o) en F' D) (U.ok X.mg en F'),
      ⟨_, rfl, Nat.zero_le _, s0 w, F1, Same.refl F1, s1.le (h0 w), wpR_mono k (fun o z => z.up e1) fun _ z => z.up e1⟩, ?_⟩
    rintro i m σ H ⟨rfl, hi, st, F', eF, sa, q⟩
    by_cases hlt : i < (val w).length
    · have hd : (val w).drop i = (val w)[i] :: (val w).drop (i + 1) := List.drop_eq_getElem_cons hlt
      have hx : (val w)[i]? = some (val w)[i] := List.getElem?_eq_getElem hlt
      obtain ⟨go, yl⟩ := wk.go F' H i _ eF sa.sub hx
      rw [hd] at q
      refine .inr ⟨go, fun σ' H' => i + 1 ≤ (val w).length ∧ ∃ st F', Same F1 F' ∧ SA en (Γs st) F' σ' H' ∧ wpR (forS (f w) ((val w).drop (i + 1)) st) (fun o => Kd.sat (Out.kd Γs P o) en F' D) (U.ok X.mg en F'), fun σ' H' ⟨a1, a2⟩ => ⟨_, by omega, rfl, a1, a2⟩, fun v H' y => ?_⟩
      obtain ⟨F2, xx, rv⟩ := yl v H' y
      refine hg.out en _ F2 σ H' v _ _ (sa.ext xx) rv fun σ2 s2 _ => ?_
      refine (hb w st _).out en F2 σ2 H' _ s2 (wpR_mono (wpR_bind q) (fun o z => ?_) fun _ z => z.up xx.f)
      cases o with
      | nx st' => exact fun F3 σ3 H3 e3 s3 => ⟨⟨hlt, st', F3, eF.trans (xx.f.trans e3), s3, wpR_mono z (fun o z => z.up (xx.f.trans e3)) fun _ z => z.up (xx.f.trans e3)⟩, ⟨hlt, st', F3, eF.trans (xx.f.trans e3), s3, wpR_mono z (fun o z => z.up (xx.f.trans e3)) fun _ z => z.up (xx.f.trans e3)⟩⟩
      | bk st' => exact fun F3 σ3 H3 e3 s3 => z F3 σ3 H3 (xx.f.trans e3) s3
      | rt a => exact fun v F3 σ3 H3 e3 s3 r3 => z v F3 σ3 H3 (xx.f.trans e3) s3 r3
    · have e : i = (val w).length := by omega
      subst e
      rw [List.drop_length] at q
      exact .inl ⟨wk.stop H _ (eF.trans sa.sub) (Nat.le_refl _), q F' σ H (Same.refl F') sa⟩) fun _ z => z))⟩
theorem g_forR {m : R ω} {val : ω → List α} {Γ1 : ω → List Sl} {vs : List Nat} {g : α → List Sl → List Sl} (Γs : τ → List Sl) (f : ω → τ → α → R τ) (s0 : ω → τ) (hi : IG X U Γ tg iter ρ m val Γ1) (hg : GT X tg ρ vs g)
    (hb : ∀ w s x, SX X U (g x (Γs s)) body (fun s' => .go (Γs s')) (f w s x)) (h0 : ∀ w, Le (Γs (s0 w)) (Γ1 w)) (hp : PassesOwn (model X.prog X.w) X.A X.env X.xe) (hc : X.calm = true := by rfl) (hs : ∀ x, foldedSetIterable iter X.env x = pure x := by intro _; rfl) :
    SG X U Γ (.For tg iter body [] pos) (fun s => .nx (Γs s)) (m.bind fun w => forR (f w) (val w) (s0 w)) :=
  ⟨fun en F σ H D s h => wS_of (ps_for hp hc wI_pi wG_pg wSs_pss hs) (hi.out en F σ H _ s (wpR_mono (wpR_bind h) (fun w k J F1 H1 e1 s1 wk => by
    refine ⟨fun i m σ H => m = (val w).length - i ∧ i ≤ (val w).length ∧ ∃ st F', Same F1 F' ∧ SA en (Γs st) F' σ H ∧ wpR (forR (f w) ((val w).drop i) st) (fun o => Kd.sat (.nx (Γs o)) en F' D) (U.ok X.mg en F'),
      ⟨_, rfl, Nat.zero_le _, s0 w, F1, Same.refl F1, s1.le (h0 w), wpR_mono k (fun o z => Kd.sat.up (k := .nx (Γs o)) z e1) fun _ z => z.up e1⟩, ?_⟩
    rintro i m σ H ⟨rfl, hi, st, F', eF, sa, q⟩
    by_cases hlt : i < (val w).length
    · have hd : (val w).drop i = (val w)[i] :: (val w).drop (i + 1) := List.drop_eq_getElem_cons hlt
      have hx : (val w)[i]? = some (val w)[i] := List.getElem?_eq_getElem hlt
      obtain ⟨go, yl⟩ := wk.go F' H i _ eF sa.sub hx
      rw [hd] at q
      refine .inr ⟨go, fun σ' H' => i + 1 ≤ (val w).length ∧ ∃ st F', Same F1 F' ∧ SA en (Γs st) F' σ' H' ∧ wpR (forR (f w) ((val w).drop (i + 1)) st) (fun o => Kd.sat (.nx (Γs o)) en F' D) (U.ok X.mg en F'), fun σ' H' ⟨a1, a2⟩ => ⟨_, by omega, rfl, a1, a2⟩, fun v H' y => ?_⟩
      obtain ⟨F2, xx, rv⟩ := yl v H' y
      refine hg.out en _ F2 σ H' v _ _ (sa.ext xx) rv fun σ2 s2 _ => ?_
      refine (hb w st _).out en F2 σ2 H' _ s2 (wpR_mono (wpR_bind q) (fun st' z => ?_) fun _ z => z.up xx.f)
      exact fun F3 σ3 H3 e3 s3 => ⟨⟨hlt, st', F3, eF.trans (xx.f.trans e3), s3, wpR_mono z (fun o z => Kd.sat.up (k := .nx (Γs o)) z (xx.f.trans e3)) fun _ z => z.up (xx.f.trans e3)⟩, ⟨hlt, st', F3, eF.trans (xx.f.trans e3), s3, wpR_mono z (fun o z => Kd.sat.up (k := .nx (Γs o)) z (xx.f.trans e3)) fun _ z => z.up (xx.f.trans e3)⟩⟩
    · have e : i = (val w).length := by omega
      subst e
      rw [List.drop_length] at q
      exact .inl ⟨wk.stop H _ (eF.trans sa.sub) (Nat.le_refl _), q F' σ H (Same.refl F') sa⟩) fun _ z => z))⟩
end

/-! ### comprehensions -/
/-- the slots at vs are forgotten -/
def wipeΓ (Γ : List Sl) : List Nat → List Sl
  | [] => Γ
  | v :: vs => (wipeΓ Γ vs).set v .any
theorem wipeΓ_get {Γ : List Sl} {i : Nat} {x : Sl} : ∀ {vs : List Nat}, (wipeΓ Γ vs)[i]? = some x → x = .any ∨ (Γ[i]? = some x ∧ i ∉ vs)
  | [], h => .inr ⟨h, by simp⟩
  | v :: vs, h => by
    unfold wipeΓ at h
    by_cases e : v = i
    · subst e
      by_cases hl : v < (wipeΓ Γ vs).length
      · rw [List.getElem?_set_self hl] at h
        exact .inl (Option.some.inj h).symm
      · rw [List.getElem?_eq_none (by rw [List.length_set]; omega)] at h
        cases h
    · rw [List.getElem?_set_ne e] at h
      rcases wipeΓ_get h with z | ⟨z, hn⟩
      · exact .inl z
      · exact .inr ⟨z, by simp only [List.mem_cons, not_or]; exact ⟨fun q => e q.symm, hn⟩⟩
theorem wipeΓ_len {Γ : List Sl} : ∀ {vs : List Nat}, (wipeΓ Γ vs).length = Γ.length
  | [] => rfl
  | v :: vs => by
    unfold wipeΓ
    rw [List.length_set]
    exact wipeΓ_len
theorem wipeΓ_out {Γ : List Sl} {i : Nat} : ∀ {vs : List Nat}, i ∉ vs → (wipeΓ Γ vs)[i]? = Γ[i]?
  | [], _ => rfl
  | v :: vs, h => by
    obtain ⟨h1, h2⟩ := not_or.mp (fun z => h (List.mem_cons.mpr z))
    unfold wipeΓ
    rw [List.getElem?_set_ne fun e => h1 e.symm]
    exact wipeΓ_out h2
theorem SA.wipe {en : En} {Γ : List Sl} {F H : Hp} {σ : L2.St} {vs : List Nat} (s : SA en Γ F σ H) : SA en (wipeΓ Γ vs) F (wipe σ vs) H where
  len := by
    rw [wipeΓ_len, wipe_length]
    exact s.len
  sub := s.sub
  grow := s.grow
  old := s.old
  there := s.there
  frz := s.frz
  val := fun i P h => by
    rcases wipeΓ_get h with z | ⟨z, hn⟩
    · cases z
    · rw [wipe_out hn]
      exact s.val i P z
  own := fun i a P h => by
    rcases wipeΓ_get h with z | ⟨z, hn⟩
    · cases z
    · rw [wipe_out hn]
      exact s.own i a P z
  dis := fun i j a b P Q p hij hi hj hp => by
    rcases wipeΓ_get hi with z | ⟨z, hn⟩
    · cases z
    · rcases wipeΓ_get hj with y | ⟨y, hm⟩
      · cases y
      · rw [wipe_out hn] at hp
        rw [wipe_out hm]
        exact s.dis i j a b P Q p hij z y hp
/-- behind a pure evaluation within a block: what was goes on -/
theorem SA.blk {en : En} {Γ Γ3 : List Sl} {F2 F3 H2 H3 : Hp} {σ σ2 : L2.St} {vs : List Nat} (s : SA en Γ F2 σ H2) (s3 : SA ⟨F2, H2, Ows Γ σ⟩ Γ3 F3 σ2 H3) (e3 : Same F2 F3) (ch : Chg (L2.wipe σ vs) σ2 vs)
    (hk : ∀ j : Nat, j ∉ vs → Γ3[j]? = Γ[j]?) (hn : ∀ (j : Nat) a P, Γ[j]? = some (.own a P) → j ∉ vs) : SA en Γ F3 σ H3 where
  len := s.len
  sub := s3.sub
  grow := s.grow.trans e3
  old := fun p o e hp => s3.old p o (s.old p o e hp) fun ⟨i, a, P, hi, hs⟩ => by
    obtain ⟨q, x, h1, _, _, _, h5, _⟩ := s.own i a P hi
    rw [hs] at h1
    injection h1 with h1
    injection h1 with h1
    injection h1 with h1
    subst h1
    rcases h5 with z | z
    · rw [z] at e
      cases e
    · exact hp z
  there := fun p hp => s3.there p (s.there p hp)
  frz := fun p hp hf hps => (s.frz p hp hf hps).elim (fun q => s3.frz p (s.there p hp) q fun z => (s.ows z).elim (fun y => hp y) hps) fun ⟨vs, z⟩ => .inr ⟨vs, e3 p _ z⟩
  val := fun i P hi => by
    obtain ⟨v, h1, h2⟩ := s.val i P hi
    exact ⟨v, h1, P.m e3 h2⟩
  own := fun i a P hi => by
    obtain ⟨p, o, h1, h2, h3, h4, h5, h6⟩ := s.own i a P hi
    have hv := hn i a P hi
    obtain ⟨q, x, g1, g2, g3, g4, _, _⟩ := s3.own i a P (by rw [hk i hv]; exact hi)
    rw [ch.2 i hv, wipe_out hv, h1] at g1
    injection g1 with g1
    injection g1 with g1
    injection g1 with g1
    subst g1
    exact ⟨p, x, h1, g2, g3, g4, h5, h6⟩
  dis := s.dis
def noOwn (Γ : List Sl) (vs : List Nat) : Bool := vs.all fun j => match Γ[j]? with
  | some (.own _ _) => false
  | _ => true
theorem noOwn_of {Γ : List Sl} {vs : List Nat} (h : noOwn Γ vs = true) (j : Nat) (a : Option Addr) (P : ORp) (hj : Γ[j]? = some (.own a P)) : j ∉ vs := fun hm => by
  have q := List.all_eq_true.mp h j hm
  rw [hj] at q
  cases q
def mapR {α β : Type} (f : α → R β) : List α → R (List β)
  | [] => .ok []
  | x :: xs => (f x).calm.bind fun y => (mapR f xs).bind fun ys => .ok (y :: ys)
/-- with a test -/
def fmR {α β : Type} (c : α → R Bool) (f : α → R β) : List α → R (List β)
  | [] => .ok []
  | x :: xs => (c x).calm.bind fun b => if b = true then (f x).calm.bind fun y => (fmR c f xs).bind fun ys => .ok (y :: ys) else fmR c f xs
/-- no error leaves a comprehension -/
abbrev U0 : Wi := ⟨fun _ _ _ _ => False, []⟩
def wTs (X : Cx) (ifs : List Expr) : TT := fun σ H Q => ∀ pins s, Inv X pins σ H s →
    wpAny (model X.prog X.w) X.A (forIn ifs true fun c r => if r = true then do let ok ← isTrue c X.env (eval c X.env); pure (ForInStep.yield ok) else pure (ForInStep.yield r)) (TP X pins σ Q) X.xe s
theorem wTs_of {X : Cx} {ifs : List Expr} {t : TT} {σ : L2.St} {H : Hp} {Q : Bool → Hp → Prop} (h : PTs X ifs t) (q : t σ H Q) : wTs X ifs σ H Q := fun pins s I => h.run pins s σ H Q I q
structure TsG (X : Cx) (U : Wi) (Γ : List Sl) (ifs : List Expr) (m : R Bool) : Prop where
  out : ∀ en F σ H (Q : Bool → Hp → Prop), SA en Γ F σ H → wpR m (fun w => ∀ F' H', Same F F' → SA en Γ F' σ H' → Q w H') (U.ok X.mg en F) → wTs X ifs σ H Q
section
variable {X : Cx} {U : Wi} {Γ : List Sl} {tg iter elt : Expr} {ifs : List Expr} {scope : Scope} {own : List (Str × Nat)} {pos : Pos} {α β : Type} {ρ : Rp α} {π : Rp β}
theorem ts_nil : TsG X U Γ [] (.ok true) := ⟨fun en F σ H Q s h => wTs_of pts_nil (h F H (Same.refl F) s)⟩
/-- the readings of a comprehension's block -/
def lG (X : Cx) (scope : Scope) (tg : Expr) : L2.TG := fun v σ H Q => ∀ s H0 C cl fp, wG (X.blk s H0 scope (compEnvC scope cl C X.env) fp) tg v σ H Q
def lT (X : Cx) (scope : Scope) (ifs : List Expr) : TT := fun σ H Q => ∀ s H0 C cl fp, wTs (X.blk s H0 scope (compEnvC scope cl C X.env) fp) ifs σ H Q
def lE (X : Cx) (scope : Scope) (elt : Expr) : TE := fun σ H Q => ∀ s H0 C cl fp, wE (X.blk s H0 scope (compEnvC scope cl C X.env) fp) elt σ H Q
theorem lc_red {m : R (List α)} {g : α → List Sl → List Sl} {c : α → R Bool} {f : α → R β} (hi : IX X U Γ tg iter ρ m)
    (hg : ∀ (s : Shared) (H : Hp) (C : Addr) (cl : List (Str × Addr)) (fp : List Addr), GT (X.blk s H scope (compEnvC scope cl C X.env) fp) tg ρ (own.map (·.2)) g)
    (ht : ∀ (s : Shared) (H : Hp) (C : Addr) (cl : List (Str × Addr)) (fp : List Addr) (x : α), TsG (X.blk s H scope (compEnvC scope cl C X.env) fp) U0 (g x (wipeΓ Γ (own.map (·.2)))) ifs (c x))
    (he : ∀ (s : Shared) (H : Hp) (C : Addr) (cl : List (Str × Addr)) (fp : List Addr) (x : α), EX (X.blk s H scope (compEnvC scope cl C X.env) fp) U0 (g x (wipeΓ Γ (own.map (·.2)))) elt π (f x))
    (hno : noOwn Γ (own.map (·.2)) = true := by rfl)
    {en : En} {F : Hp} {σ : L2.St} {H : Hp} {Q : VK} (s : SA en Γ F σ H)
    (h : wpR (m.bind fun xs => (fmR c f xs).bind fun ys => chk (ys.length ≤ sizeLine) ys) (fun ys => ∀ p o F' H', Same F F' → SA en Γ F' σ H' → Fresh en Γ F' σ H' p o → (oLi (tl π) ys).p F' o → Q (.ref p) H') (U.ok X.mg en F)) :
    tLc (wI X tg iter) (lG X scope tg) (lT X scope ifs) (lE X scope elt) (own.map (·.2)) σ H Q := by
  refine hi.out en F σ H _ s (wpR_mono (wpR_bind h) (fun xs k J F1 H1 e1 s1 wk => fun D hD => ?_) fun _ z => z)
  -- the list, turn by turn
  generalize hvs : own.map (·.2) = vs at *
  have l0 := s1.lay (o := .lst []) hD
  have k2 := wpR_bind k
  cases hall : fmR c f xs with
  | er z =>
    rw [hall] at k2
    exact absurd hall (by
      have : ∀ (xs : List α) (z : Er), fmR c f xs ≠ .er z := by
        intro xs
        induction xs with
        | nil => intro z q; cases q
        | cons x r ih =>
          intro z q
          unfold fmR at q
          cases hc : c x with
          | ok b =>
            rw [hc] at q
            cases b with
            | true =>
              cases hf : f x with
              | ok y =>
                rw [hf] at q
                cases hr : fmR c f r with
                | ok ys => rw [hr] at q; cases q
                | er w => exact ih w hr
                | bad => rw [hr] at q; cases q
              | er w => rw [hf] at q; cases q
              | bad => rw [hf] at q; cases q
            | false => exact ih z q
          | er w => rw [hc] at q; cases q
          | bad => rw [hc] at q; cases q
      exact this xs z)
  | bad =>
    rw [hall] at k2
    exact k2.elim
  | ok zs =>
    rw [hall] at k2
    obtain ⟨hz, k2⟩ := wpR_chk k2
    refine ⟨fun i m H => m = xs.length - i ∧ i ≤ xs.length ∧ ∃ (ys : List β) (ws : List V) (F' : Hp), Same F1 F' ∧ SA en Γ F' σ H ∧ Fresh en Γ F' σ H D (.lst ws) ∧ RepL π F' ys ws ∧ ((fmR c f (xs.drop i)).bind fun r => .ok (ys ++ r)) = .ok zs,
      ⟨_, rfl, Nat.zero_le _, [], [], F1, Same.refl F1, l0.1, l0.2, .nil, by rw [List.drop_zero, hall] <;> rfl⟩, ?_⟩
    rintro i m H ⟨rfl, hil, ys, ws, F', eF, sa, fr, rl, heq⟩
    by_cases hlt : i < xs.length
    · have hd : xs.drop i = xs[i] :: xs.drop (i + 1) := List.drop_eq_getElem_cons hlt
      have hx : xs[i]? = some xs[i] := List.getElem?_eq_getElem hlt
      obtain ⟨go, yl⟩ := wk.go F' H i _ eF sa.sub hx
      rw [hd] at heq
      unfold fmR at heq
      refine .inr ⟨go, fun H => i + 1 ≤ xs.length ∧ ∃ (ys : List β) (ws : List V) (F' : Hp), Same F1 F' ∧ SA en Γ F' σ H ∧ Fresh en Γ F' σ H D (.lst ws) ∧ RepL π F' ys ws ∧ ((fmR c f (xs.drop (i + 1))).bind fun r => .ok (ys ++ r)) = .ok zs, fun H' ⟨a1, a2⟩ => ⟨_, by omega, rfl, a1, a2⟩, fun v H' y => ?_⟩
      obtain ⟨F2, xx, rv⟩ := yl v H' y
      have sa2 := sa.ext xx
      have fr2 : Fresh en Γ F2 σ H' D (.lst ws) := ⟨no_tup xx.s (xx.n D (by rw [fr.h]; exact fun z => nomatch z) fr.f) (xx.h D _ fr.h) (fun _ z => nomatch z), fr.e, fr.n, xx.h D _ fr.h⟩
      -- the block's own entry
      let en2 : En := ⟨F2, H', Ows Γ σ⟩
      have sw : SA en2 (wipeΓ Γ vs) F2 (wipe σ vs) H' := (sa2.re).wipe
      intro s' H0 C cl fp
      refine (hg s' H0 C cl fp).out en2 _ F2 _ H' v _ _ sw rv fun σ2 s2 ch => ⟨?_, ?_⟩
      · have hw := ch.wipe
        have hi2 : wipe (wipe σ vs) vs = wipe σ vs := by
          apply List.ext_getElem?
          intro j
          by_cases hj : j ∈ vs
          · by_cases hl : j < σ.length
            · rw [wipe_in hj (by rw [wipe_length]; exact hl), wipe_in hj hl]
            · rw [List.getElem?_eq_none (by rw [wipe_length, wipe_length]; omega), List.getElem?_eq_none (by rw [wipe_length]; omega)]
          · rw [wipe_out hj]
        exact hw.trans hi2
      · -- behind a pure evaluation of the block
        have bk : ∀ {F3 H3 : Hp}, SA en2 (g xs[i] (wipeΓ Γ vs)) F3 σ2 H3 → Same F2 F3 → SA en Γ F3 σ H3 ∧ Fresh en Γ F3 σ H3 D (.lst ws) := fun {F3 H3} s3 e3 =>
          ⟨sa2.blk s3 e3 ch (fun j hj => by
            rw [(hg s' H0 C cl fp).keep _ _ j hj]
            exact wipeΓ_out hj) (noOwn_of hno),
          ⟨no_tup s3.sub (s3.frz D (by show H' D ≠ none; rw [fr2.h]; exact fun z => nomatch z) fr2.f (fun ⟨j, a, P, hj, hs⟩ => fr2.n j a P hj hs)) (s3.old D _ fr2.h fun ⟨j, a, P, hj, hs⟩ => fr2.n j a P hj hs) (fun _ z => nomatch z), fr2.e, fr2.n, s3.old D _ fr2.h fun ⟨j, a, P, hj, hs⟩ => fr2.n j a P hj hs⟩⟩
        have hq := heq
        intro s'' H0' C' cl' fp'
        cases hcv : c xs[i] with
        | er z => rw [hcv] at hq; cases hq
        | bad => rw [hcv] at hq; cases hq
        | ok b =>
          rw [hcv] at hq
          refine (ht s'' H0' C' cl' fp' xs[i]).out en2 F2 σ2 H' _ s2 ?_
          rw [hcv]
          intro F3 H3 e3 s3
          obtain ⟨sa3, fr3⟩ := bk s3 e3
          cases b with
          | false =>
            rw [if_neg Bool.false_ne_true]
            exact ⟨hlt, ys, ws, F3, eF.trans (xx.f.trans e3), sa3, fr3, (rl.mono (xx.f.trans e3)), hq⟩
          | true =>
            rw [if_pos rfl]
            have hq' : (((f xs[i]).calm.bind fun y => (fmR c f (xs.drop (i + 1))).bind fun ys => R.ok (y :: ys)).bind fun r => R.ok (ys ++ r)) = .ok zs := hq
            intro s4 H04 C4 cl4 fp4
            cases hfv : f xs[i] with
            | er z => rw [hfv] at hq'; cases hq'
            | bad => rw [hfv] at hq'; cases hq'
            | ok y =>
              rw [hfv] at hq'
              have hq2 : (((fmR c f (xs.drop (i + 1))).bind fun ys => R.ok (y :: ys)).bind fun r => R.ok (ys ++ r)) = .ok zs := hq'
              refine (he s4 H04 C4 cl4 fp4 xs[i]).out en2 F3 σ2 H3 _ s3 ?_
              rw [hfv]
              intro u F4 H4 e4 s4' ru
              obtain ⟨sa4, fr4⟩ := bk s4' (e3.trans e4)
              have hq3 : ((fmR c f (xs.drop (i + 1))).bind fun r => R.ok ((ys ++ [y]) ++ r)) = .ok zs := by
                cases hr : fmR c f (xs.drop (i + 1)) with
                | ok r =>
                  rw [hr] at hq2
                  have q3 : R.ok (ys ++ (y :: r)) = .ok zs := hq2
                  show R.ok ((ys ++ [y]) ++ r) = .ok zs
                  rw [List.append_assoc]
                  exact q3
                | er z => rw [hr] at hq2; cases hq2
                | bad => rw [hr] at hq2; cases hq2
              have hlen : ys.length < sizeLine := by
                cases hr : fmR c f (xs.drop (i + 1)) with
                | ok r =>
                  rw [hr] at hq3
                  have q3 : R.ok ((ys ++ [y]) ++ r) = .ok zs := hq3
                  injection q3 with q3
                  rw [← q3, List.length_append, List.length_append, List.length_cons] at hz
                  omega
                | er z => rw [hr] at hq3; cases hq3
                | bad => rw [hr] at hq3; cases hq3
              have ot := sa4.other (o' := .lst (ws ++ [u])) fr4
              have rl4 : RepL π F4 ys ws := rl.mono ((xx.f.trans e3).trans e4)
              exact ⟨ws, fr4.h, by rw [← rl4.length]; exact hlen, hlt, ys ++ [y], ws ++ [u], F4, eF.trans ((xx.f.trans e3).trans e4), ot.1, ot.2, rl4.append (.cons ru .nil), hq3⟩
    · have e : i = xs.length := by omega
      subst e
      rw [List.drop_length] at heq
      have heq' : R.ok (ys ++ []) = .ok zs := heq
      injection heq' with heq'
      rw [List.append_nil] at heq'
      subst heq'
      exact .inl ⟨wk.stop H _ (eF.trans sa.sub) (Nat.le_refl _), k2 D _ F' H (e1.trans eF) sa fr ⟨ws, rfl, rl⟩⟩
/-- [elt for tg in iter if ..] -/
theorem f_lcF {m : R (List α)} {g : α → List Sl → List Sl} {c : α → R Bool} {f : α → R β} (hN : X.N.Nodup) (hi : IX X U Γ tg iter ρ m) (ok : BlkOk X.N X.env.scope scope own)
    (hg : ∀ (s : Shared) (H : Hp) (C : Addr) (cl : List (Str × Addr)) (fp : List Addr), GT (X.blk s H scope (compEnvC scope cl C X.env) fp) tg ρ (own.map (·.2)) g)
    (ht : ∀ (s : Shared) (H : Hp) (C : Addr) (cl : List (Str × Addr)) (fp : List Addr) (x : α), TsG (X.blk s H scope (compEnvC scope cl C X.env) fp) U0 (g x (wipeΓ Γ (own.map (·.2)))) ifs (c x))
    (he : ∀ (s : Shared) (H : Hp) (C : Addr) (cl : List (Str × Addr)) (fp : List Addr) (x : α), EX (X.blk s H scope (compEnvC scope cl C X.env) fp) U0 (g x (wipeΓ Γ (own.map (·.2)))) elt π (f x))
    (hno : noOwn Γ (own.map (·.2)) = true := by rfl)
    (hc : X.calm = true := by rfl) (hs : ∀ x, foldedSetIterable iter X.env x = pure x := by intro _; rfl) :
    FX X U Γ (.ListComp elt [⟨tg, iter, ifs, 0⟩] scope pos) (fun ys => oLi (tl π) ys) (m.bind fun xs => (fmR c f xs).bind fun ys => chk (ys.length ≤ sizeLine) ys) :=
  ⟨fun en F σ H Q s h => wE_of (pe_lc (wi := wI X tg iter) (g := lG X scope tg) (tt := lT X scope ifs) (te := lE X scope elt) hc hN wI_pi ok
    (fun s H C cl fp => ⟨fun pins s' σ H' v u Q I r h => (h s H C cl fp) pins s' u I r⟩) (fun s H C cl fp => ⟨fun pins s' σ H' Q I h => (h s H C cl fp) pins s' I⟩) (fun s H C cl fp => ⟨fun pins s' σ H' Q I h => (h s H C cl fp) pins s' I⟩) hs) (lc_red hi hg ht he hno s h)⟩
/-- name = [..] on one line -/
theorem p_setLc {rest : List Stmt} {ω : Type} {I : ω → Kd} {py spos : Pos} {y : Str} {k : List β → R ω} (i : Nat) {m : R (List α)} {g : α → List Sl → List Sl} {c : α → R Bool} {f : α → R β} (hN : X.N.Nodup) (hi : IX X U Γ tg iter ρ m) (ok : BlkOk X.N X.env.scope scope own)
    (hg : ∀ (s : Shared) (H : Hp) (C : Addr) (cl : List (Str × Addr)) (fp : List Addr), GT (X.blk s H scope (compEnvC scope cl C X.env) fp) tg ρ (own.map (·.2)) g)
    (ht : ∀ (s : Shared) (H : Hp) (C : Addr) (cl : List (Str × Addr)) (fp : List Addr) (x : α), TsG (X.blk s H scope (compEnvC scope cl C X.env) fp) U0 (g x (wipeΓ Γ (own.map (·.2)))) ifs (c x))
    (he : ∀ (s : Shared) (H : Hp) (C : Addr) (cl : List (Str × Addr)) (fp : List Addr) (x : α), EX (X.blk s H scope (compEnvC scope cl C X.env) fp) U0 (g x (wipeΓ Γ (own.map (·.2)))) elt π (f x))
    (hno : noOwn Γ (own.map (·.2)) = true := by rfl)
    (hr : ∀ ys, SX X U (Γ.set i (.own none (oLi (tl π) ys))) rest I (k ys)) (hy : X.N[i]? = some y := by rfl) (hyl : X.env.scope.names.lookup y = some .local := by rfl)
    (hsw : swapsWith (.ListComp elt [⟨tg, iter, ifs, 0⟩] scope pos) (some (.Name y py)) spos.line X.env = pure true := by exact sw_true rfl rfl rfl (by decide +kernel))
    (hc : X.calm = true := by rfl) (hs : ∀ x, foldedSetIterable iter X.env x = pure x := by intro _; rfl) :
    SX X U Γ (.Assign [.Name y py] (.ListComp elt [⟨tg, iter, ifs, 0⟩] scope pos) spos :: rest) I ((m.bind fun xs => (fmR c f xs).bind fun ys => chk (ys.length ≤ sizeLine) ys).bind k) :=
  ⟨fun en F σ H D s h => wSs_of (pss_cons (ps_setLc (i := i) (wi := wI X tg iter) (g := lG X scope tg) (tt := lT X scope ifs) (te := lE X scope elt) hc hN hy hyl hsw wI_pi ok
    (fun s H C cl fp => ⟨fun pins s' σ H' v u Q I r h => (h s H C cl fp) pins s' u I r⟩) (fun s H C cl fp => ⟨fun pins s' σ H' Q I h => (h s H C cl fp) pins s' I⟩) (fun s H C cl fp => ⟨fun pins s' σ H' Q I h => (h s H C cl fp) pins s' I⟩) hs) wSs_pss)
    (lc_red (Q := fun x H1 => gName i x σ H1 (wSs X rest D)) hi hg ht he hno s (wpR_mono (wpR_bind h) (fun ys q p o F' H' e1 s1 fr ho => (hr ys).out en F' _ H' D (s1.putOwn fr ho) (wpR_mono q (fun o z => z.up e1) fun _ z => z.up e1)) fun _ z => z))⟩
/-- without a test -/
theorem fm_map {f : α → R β} : ∀ xs : List α, fmR (fun _ => .ok true) f xs = mapR f xs
  | [] => rfl
  | x :: xs => by
    unfold fmR mapR
    show (f x).calm.bind (fun y => (fmR (fun _ => R.ok true) f xs).bind fun ys => .ok (y :: ys)) = _
    rw [fm_map xs]
end
end Py

/-! Own layer, part D: defs, operations on data. -/
namespace Py
open PySem PySem.Spec PyProof.Rows L2

/-! ### a def -/
/-- the parameters' slots -/
structure Ar {τ : Type} (t : Tr τ) (n : Nat) (sl : τ → List Sl) : Prop where
  out : ∀ a F vs, t.rep a F vs → vs.length = n ∧ (sl a).length = n ∧ ∀ (i : Nat) x, (sl a)[i]? = some x → ∃ P v, x = .imm P ∧ vs[i]? = some v ∧ P.p F v
theorem ar1 {α : Type} {ρ : Rp α} : Ar (t1 ρ) 1 fun a => [im ρ a] := ⟨fun a F vs ⟨v, e, r⟩ => ⟨by rw [e] <;> rfl, rfl, fun i x h => by
  cases i with
  | zero =>
    have h' : im ρ a = x := Option.some.inj h
    exact ⟨_, v, h'.symm, by rw [e] <;> rfl, r⟩
  | succ i => simp at h⟩⟩
theorem arc {α τ : Type} {ρ : Rp α} {t : Tr τ} {n : Nat} {sl : τ → List Sl} (h : Ar t n sl) : Ar (tc ρ t) (n + 1) fun a => im ρ a.1 :: sl a.2 := ⟨fun a F vs ⟨v, ws, e, r, q⟩ => by
  obtain ⟨h1, h2, h3⟩ := h.out a.2 F ws q
  refine ⟨by rw [e, List.length_cons, h1], by rw [List.length_cons, h2], fun i x hx => ?_⟩
  cases i with
  | zero =>
    have h' : im ρ a.1 = x := Option.some.inj hx
    exact ⟨_, v, h'.symm, by rw [e] <;> rfl, r⟩
  | succ i =>
    obtain ⟨P, u, g1, g2, g3⟩ := h3 i x (by simpa using hx)
    exact ⟨P, u, g1, by rw [e]; simpa using g2, g3⟩⟩
section
variable {P : Program} {w : World} {K : PySem.W.Frag} {mg : Str → Option Value} {base : Heap}
/-- where a def's body stands -/
abbrev CxF (P : Program) (w : World) (K : PySem.W.Frag) (mg : Str → Option Value) (base : Heap) (N : List Str) (qual : Str) (st : Stmt) (f : Addr) (cdv : Value) (A : Around) (outer : List Env) (s : Shared) (H : Hp) (E : XK) : Cx :=
  cxOf (L2.CX P w) P w K mg base N qual (defScope st) f cdv A outer s H E
abbrev UF (E : XK) : Wi := ⟨fun cls d _ H => E cls d H, []⟩
/-- a def as it stands behind the top, with defaults or without -/
structure FunZ (K : PySem.W.Frag) (x qual : Str) (st : Stmt) (f : Addr) (fd : FuncData) : Prop where
  ex : ∃ (oc : Value) (od : Option Addr) (dV kV doc pm : Value) (an : Option Addr) (cdv ct : Value) (osl : Array (Option Value)),
    fd = PySem.W.fnOf x qual (defArgs st) (defBody st) (defScope st) dV kV doc pm an cdv ct ∧ K.lookup f = some ⟨oc, od, .func fd, osl⟩ ∧ PySem.W.codeIn K cdv qual = true
  kp : PySem.W.keepIn K (.ref f) = true
theorem FunZ.okX {P : Program} {w : World} {K : PySem.W.Frag} {mg : Str → Option Value} {base : Heap} {x qual : Str} {st : Stmt} {f : Addr} {fd : FuncData} {N ps : List Str} {k : Nat} {sp : Sp} (F : FunZ K x qual st f fd) (S : FnScope N ps (defScope st)) (len : ∀ vs H Q E, sp vs H Q E → vs.length = ps.length)
    (hbody : ∀ (cdv : Value) (A : Around) (outer : List Env) (s : Shared) (H : Hp) (vs : List V) (Q : VK) (E : XK), Room k (A.deeper (envOfC qual (defScope st) s.heap.objs.size f cdv)) → sp vs H Q E →
      ∃ t, PSs (cxOf (L2.CX P w) P w K mg base N qual (defScope st) f cdv A outer s H E) (defBody st) t ∧ t { nx := fun _ H' => Q .non H', rt := Q } (start N vs) H) : FnOk P w K mg base (L2.CX P w) (k + 1) f fd ps sp := by
  obtain ⟨oc, od, dV, kV, doc, pm, an, cdv, ct, osl, rfl, lk, hcd⟩ := F.ex
  exact fn_of lk hcd S len fun A outer s H vs Q E hr hsp => hbody cdv A outer s H vs Q E hr hsp
theorem f_ok {x qual : Str} {st : Stmt} {f : Addr} {fd : FuncData} {N ps : List Str} {k n : Nat} {τ γ : Type} {t : Tr τ} {ρ : Rp γ} {fm : τ → R γ} {sl : τ → List Sl} (Γ0 : τ → List Sl) (Fn : FunZ K x qual st f fd) (S : FnScope N ps (defScope st)) (ar : Ar t n sl) (hn : n = ps.length) (hN : n ≤ N.length)
    (hΓ : ∀ a, Γ0 a = sl a ++ List.replicate (N.length - n) .any)
    (body : ∀ cdv A outer s H E (hr : Room k (A.deeper (envOfC qual (defScope st) s.heap.objs.size f cdv))) (tk : Takes (CxF P w K mg base N qual st f cdv A outer s H E) (UF E).W) (hp : PassesOwn (model P w) (A.deeper (envOfC qual (defScope st) s.heap.objs.size f cdv)) (envOfC qual (defScope st) s.heap.objs.size f cdv) (CxF P w K mg base N qual st f cdv A outer s H E).xe) (a : τ),
      SX (CxF P w K mg base N qual st f cdv A outer s H E) (UF E) (Γ0 a) (defBody st) (fun z : γ => .fn ⟨fun H v => ρ.rep z H v, fun e h => ρ.mono e h⟩ []) (fm a)) :
    FnOk P w K mg base (L2.CX P w) (k + 1) f fd ps (SpP mg t ρ fm) := by
  refine Fn.okX S (fun vs H Q E ⟨F, a, _, r, _⟩ => ?_) (fun cdv A outer s H vs Q E hr ⟨F, a, sF, r, hw⟩ => ?_)
  · rw [← hn]
    exact (ar.out a F vs r).1
  · obtain ⟨h1, h2, h3⟩ := ar.out a F vs r
    refine ⟨_, wSs_pss, ?_⟩
    have hst : ∀ (i : Nat) v, vs[i]? = some v → (L2.start N vs)[i]? = some (some v) := fun i v e => by
      unfold L2.start
      have hl : i < vs.length := (List.getElem?_eq_some_iff.mp e).1
      rw [List.getElem?_append_left (by rw [List.length_map]; exact hl), List.getElem?_map, e] <;> rfl
    have im0 : ∀ (i : Nat) x, (Γ0 a)[i]? = some x → x = .any ∨ ∃ P v, x = .imm P ∧ vs[i]? = some v ∧ P.p F v := fun i x hx => by
      rw [hΓ] at hx
      by_cases hl : i < (sl a).length
      · rw [List.getElem?_append_left hl] at hx
        exact .inr (h3 i x hx)
      · rw [List.getElem?_append_right (by omega), List.getElem?_replicate] at hx
        split at hx
        · exact .inl (Option.some.inj hx).symm
        · cases hx
    have sa : SA ⟨F, H, fun _ => False⟩ (Γ0 a) F (L2.start N vs) H := by
      refine ⟨?_, sF, Same.refl F, fun _ _ h _ => h, fun _ h => h, fun _ _ h _ => .inl h, fun i Q hi => ?_, fun i b Q hi => ?_, fun i j b c Q Q' p _ hi => ?_⟩
      · rw [hΓ, List.length_append, List.length_replicate, h2]
        unfold L2.start
        rw [List.length_append, List.length_map, List.length_replicate, h1]
        exact Nat.le_refl _
      · rcases im0 i _ hi with z | ⟨Q', v, z, hv, hq⟩
        · cases z
        · injection z with z
          subst z
          exact ⟨v, hst i v hv, hq⟩
      · rcases im0 i _ hi with z | ⟨Q', v, z, hv, hq⟩
        · cases z
        · cases z
      · rcases im0 i _ hi with z | ⟨Q', v, z, hv, hq⟩
        · cases z
        · cases z
    have fin : ∀ {F' : Hp} {σ' : L2.St} {H' : Hp}, Same F F' → SA ⟨F, H, fun _ => False⟩ [] F' σ' H' → Ext F H F' H' := fun {F' σ' H'} e s' => ⟨e, fun p o h => s'.old p o h (fun z => z), s'.sub, fun p h hf => s'.frz p h hf fun z => z⟩
    refine (body cdv A outer s H E hr (takes_of rfl rfl rfl rfl) (passes_of rfl) a).out ⟨F, H, fun _ => False⟩ F _ H _ sa (wpR_mono hw (fun z k => ⟨fun v F' σ' H' e s' rv => k v F' H' (fin e s') rv, fun F' σ' H' e s' rv => k .non F' H' (fin e s') rv⟩) fun r z cls d F' σ' H' e s' o => z cls d F' H' (fin e s') o)
/-- a def without parameters is called -/
theorem SpP.nil {τ γ : Type} {t : Tr τ} {ρ : Rp γ} {f : τ → R γ} {vs : List V} {H : Hp} {Q : VK} {E : XK} {F : Hp} {a : τ} (e : Same F H) (r : t.rep a F vs)
    (h : wpR (f a) (fun z => ∀ v F' H', Ext F H F' H' → ρ.rep z F' v → Q v H') (fun r => ∀ cls d F' H', Ext F H F' H' → ErOk mg r cls d F' → E cls d H')) : SpP mg t ρ f vs H Q E := ⟨F, a, e, r, h⟩
end

/-! ### ints -/
theorem dI0 {f : Int → Int → Int} : D2 (rI0 fun i j => .int (f i j)) rI rI rI fun x y => .ok (f x y) := fun x y v w F H Q e rv rw h => ⟨x, y, rv, rw, h _ F H (Ext.refl e) rfl⟩
theorem dIb {f : Int → Int → Bool} : D2 (rI0 fun i j => .bl (f i j)) rI rI rB fun x y => .ok (f x y) := fun x y v w F H Q e rv rw h => ⟨x, y, rv, rw, h _ F H (Ext.refl e) rfl⟩
theorem dIc {C : Int → Int → Prop} [∀ i j, Decidable (C i j)] {f : Int → Int → Int} : D2 (L2.rI C fun i j => .int (f i j)) Py.rI Py.rI Py.rI fun x y => chk (C x y) (f x y) := fun x y v w F H Q e rv rw h => by
  obtain ⟨hc, k⟩ := wpR_chk h
  exact ⟨x, y, rv, rw, hc, k _ F H (Ext.refl e) rfl⟩
instance (i j : Int) : Decidable (CMulW i j) := inferInstanceAs (Decidable (_ < _))
instance (i j : Int) : Decidable (CDivW i j) := inferInstanceAs (Decidable (_ ∧ _))
instance (i j : Int) : Decidable (CPow i j) := inferInstanceAs (Decidable (_ ∧ _ ∧ _))
section
variable {X : Cx} {U : Wi} {Γ : List Sl} {a b e : Expr} {es : List Expr} {pos : Pos} {m1 m2 : R Int}
theorem x_add (ha : EX X U Γ a rI m1) (hb : EX X U Γ b rI m2) : EX X U Γ (.BinOp a .Add b pos) rI (m1.bind fun x => m2.bind fun y => .ok (x + y)) := x_bin op_add dI0 ha hb
theorem x_sub (ha : EX X U Γ a rI m1) (hb : EX X U Γ b rI m2) : EX X U Γ (.BinOp a .Sub b pos) rI (m1.bind fun x => m2.bind fun y => .ok (x - y)) := x_bin op_sub dI0 ha hb
theorem chk_calm {c : Prop} [Decidable c] {α : Type} {a : α} : ((chk c a).calm.bind fun z => .ok z) = chk c a := by
  unfold chk
  by_cases h : c
  · rw [if_pos h] <;> rfl
  · rw [if_neg h] <;> rfl
theorem opt_calm {α : Type} {o : Option α} : ((ofOpt o).calm.bind fun z => .ok z) = ofOpt o := by cases o <;> rfl
theorem x_mul (ha : EX X U Γ a rI m1) (hb : EX X U Γ b rI m2) : EX X U Γ (.BinOp a .Mult b pos) rI (m1.bind fun x => m2.bind fun y => chk (CMulW x y) (x * y)) := by
  have h := x_bin (pos := pos) op_mulW (dIc (C := CMulW) (f := fun i j => i * j)) ha hb
  simp only [chk_calm] at h
  exact h
/-- by written numbers -/
theorem x_mulC {i : Int} {j} {p : Pos} (ha : EX X U Γ a rI m1) (hi : -(2 ^ 64) < i ∧ i < 2 ^ 64 := by decide) : EX X U Γ (.BinOp a .Mult (.Constant (.int i) j p) pos) rI (m1.bind fun x => .ok (x * i)) :=
  ⟨fun en F σ H Q s h => wE_of (pe_op op_mul wE_pe pe_int) (ha.out en F σ H _ s (wpR_mono (wpR_bind h) (fun x k v F1 H1 e1 s1 r1 => ⟨x, i, r1, rfl, .inr hi, k _ F1 H1 e1 s1 rfl⟩) fun _ z => z))⟩
theorem x_mulCl {i : Int} {j} {p : Pos} (ha : EX X U Γ a rI m1) (hi : -(2 ^ 64) < i ∧ i < 2 ^ 64 := by decide) : EX X U Γ (.BinOp (.Constant (.int i) j p) .Mult a pos) rI (m1.bind fun x => .ok (i * x)) :=
  ⟨fun en F σ H Q s h => wE_of (pe_op op_mul pe_int wE_pe) (ha.out en F σ H _ s (wpR_mono (wpR_bind h) (fun x k v F1 H1 e1 s1 r1 => ⟨i, x, rfl, r1, .inl hi, k _ F1 H1 e1 s1 rfl⟩) fun _ z => z))⟩
theorem x_modC {i : Int} {j} {p : Pos} (ha : EX X U Γ a rI m1) (hi : 0 < i := by decide) : EX X U Γ (.BinOp a .Mod (.Constant (.int i) j p) pos) rI (m1.bind fun x => .ok (x % i)) :=
  ⟨fun en F σ H Q s h => wE_of (pe_op op_mod wE_pe pe_int) (ha.out en F σ H _ s (wpR_mono (wpR_bind h) (fun x k v F1 H1 e1 s1 r1 => ⟨x, i, r1, rfl, hi, k _ F1 H1 e1 s1 rfl⟩) fun _ z => z))⟩
theorem x_fdivC {i : Int} {j} {p : Pos} (ha : EX X U Γ a rI m1) (hi : CDivW 0 i := by decide) : EX X U Γ (.BinOp a .FloorDiv (.Constant (.int i) j p) pos) rI (m1.bind fun x => .ok (x / i)) :=
  ⟨fun en F σ H Q s h => wE_of (pe_op op_fdivW wE_pe pe_int) (ha.out en F σ H _ s (wpR_mono (wpR_bind h) (fun x k v F1 H1 e1 s1 r1 => ⟨x, i, r1, rfl, hi, k _ F1 H1 e1 s1 rfl⟩) fun _ z => z))⟩
theorem x_powC {i j : Int} {k1 k2} {p1 p2 : Pos} (v : Int) (hi : CPow i j := by decide) (hv : i ^ j.toNat = v := by decide) : EX X U Γ (.BinOp (.Constant (.int i) k1 p1) .Pow (.Constant (.int j) k2 p2) pos) rI (.ok v) :=
  ⟨fun en F σ H Q s h => wE_of (pe_op op_pow pe_int pe_int) ⟨i, j, rfl, rfl, hi, by show Q (V.int (i ^ j.toNat)) H; rw [hv]; exact h _ F H (Same.refl F) s rfl⟩⟩
theorem x_neg (ha : EX X U Γ a rI m1) : EX X U Γ (.UnaryOp .USub a pos) rI (m1.bind fun x => .ok (-x)) := x_un un_neg (fun x v F H Q e rv h => ⟨x, rv, h _ F H (Ext.refl e) rfl⟩ : D1 (rU fun i => .int (-i)) rI rI fun x => .ok (-x)) ha
theorem dEqI : D2 rEq rI rI rB fun x y => .ok (decide (x = y)) := fun x y v w F H Q e rv rw h => by
  subst rv rw
  refine ⟨rfl, ?_⟩
  rw [dec_int, Bool.beq_eq_decide_eq]
  exact h _ F H (Ext.refl e) rfl
theorem dNeI : D2 rNe rI rI rB fun x y => .ok (!decide (x = y)) := fun x y v w F H Q e rv rw h => by
  subst rv rw
  refine ⟨rfl, ?_⟩
  rw [dec_int, Bool.beq_eq_decide_eq]
  exact h _ F H (Ext.refl e) rfl
end

/-! ### data at any depth: equality -/
structure Dt {α : Type} [DecidableEq α] (ρ : Rp α) where
  dat : α → PyData
  dep : Nat
  dp : ∀ K H a v, ρ.rep a H v → Dp K H v (dat a)
  lay : ∀ a, (dat a).canLay0 = true
  dle : ∀ a, (dat a).depth ≤ dep
  eqv : ∀ a b, PyData.eqv (dat a) (dat b) = decide (a = b)
structure Dts {τ : Type} [DecidableEq τ] (t : Tr τ) where
  dat : τ → List PyData
  dep : Nat
  dp : ∀ K H a vs, t.rep a H vs → DpAll K H vs (dat a)
  lay : ∀ a, PyData.canLayAll0 (dat a) = true
  dle : ∀ a, PyData.depthAll (dat a) ≤ dep
  eqv : ∀ a b, PyData.eqvAll (dat a) (dat b) = decide (a = b)
def kI : Dt rI := ⟨fun i => .int i, 0, fun K H a v r => by rw [show v = V.int a from r]; exact .int a, fun _ => by simp [PyData.canLay0], fun _ => by simp [PyData.depth], fun a b => by simp [PyData.eqv, Bool.beq_eq_decide_eq]⟩
def k1 {α : Type} [DecidableEq α] {ρ : Rp α} (d : Dt ρ) : Dts (t1 ρ) where
  dat := fun a => [d.dat a]
  dep := d.dep
  dp := fun K H a vs ⟨v, e, r⟩ => by
    rw [e]
    exact .cons (d.dp K H a v r) .nil
  lay := fun a => by simp [PyData.canLayAll0, d.lay]
  dle := fun a => by
    have := d.dle a
    simp [PyData.depthAll]
    exact this
  eqv := fun a b => by simp [PyData.eqvAll, d.eqv]
def kc {α τ : Type} [DecidableEq α] [DecidableEq τ] {ρ : Rp α} {t : Tr τ} (d : Dt ρ) (ds : Dts t) : Dts (tc ρ t) where
  dat := fun a => d.dat a.1 :: ds.dat a.2
  dep := max d.dep ds.dep
  dp := fun K H a vs ⟨v, ws, e, r, q⟩ => by
    rw [e]
    exact .cons (d.dp K H a.1 v r) (ds.dp K H a.2 ws q)
  lay := fun a => by simp [PyData.canLayAll0, d.lay, ds.lay]
  dle := fun a => by
    have h1 := d.dle a.1
    have h2 := ds.dle a.2
    simp only [PyData.depthAll]
    omega
  eqv := fun a b => by
    obtain ⟨a1, a2⟩ := a
    obtain ⟨b1, b2⟩ := b
    simp only [PyData.eqvAll, d.eqv, ds.eqv, Prod.mk.injEq]
    rw [Bool.eq_iff_iff]
    simp
def kl {α : Type} [DecidableEq α] {ρ : Rp α} (d : Dt ρ) : Dts (tl ρ) where
  dat := fun as => as.map d.dat
  dep := d.dep
  dp := fun K H as vs r => by
    have r' : RepL ρ H as vs := r
    induction r' with
    | nil => exact .nil
    | cons h t ih => exact .cons (d.dp K H _ _ h) (ih t)
  lay := fun as => by
    induction as with
    | nil => simp [PyData.canLayAll0]
    | cons a r ih => simp [PyData.canLayAll0, d.lay, ih]
  dle := fun as => by
    induction as with
    | nil => simp [PyData.depthAll]
    | cons a r ih =>
      have h1 := d.dle a
      simp only [List.map_cons, PyData.depthAll]
      omega
  eqv := fun as => by
    induction as with
    | nil =>
      intro bs
      cases bs <;> simp [PyData.eqvAll]
    | cons a r ih =>
      intro bs
      cases bs with
      | nil => simp [PyData.eqvAll]
      | cons b s =>
        simp only [List.map_cons, PyData.eqvAll, d.eqv, ih, List.cons.injEq]
        rw [Bool.eq_iff_iff]
        simp
def kTu {τ : Type} [DecidableEq τ] {t : Tr τ} (d : Dts t) : Dt (rTu t) where
  dat := fun a => .tuple (d.dat a)
  dep := d.dep + 1
  dp := fun K H a v ⟨p, vs, e, h, r⟩ => by
    rw [e]
    exact .tup (.inl (.inl h)) (d.dp K H a vs r)
  lay := fun a => by simp [PyData.canLay0, d.lay]
  dle := fun a => by
    have := d.dle a
    simp only [PyData.depth]
    omega
  eqv := fun a b => by simp [PyData.eqv, d.eqv]
abbrev kT {α : Type} [DecidableEq α] {ρ : Rp α} (d : Dt ρ) : Dt (rT ρ) := kTu (kl d)
abbrev kP {α β : Type} [DecidableEq α] [DecidableEq β] {ρ : Rp α} {π : Rp β} (d : Dt ρ) (e : Dt π) : Dt (rP ρ π) := kTu (kc d (k1 e))
abbrev kC : Dt rC := kP kI kI
theorem Dt.shp {α : Type} [DecidableEq α] {ρ : Rp α} (d : Dt ρ) (h : d.dep ≤ 64) (a : α) : SeqAt.shaped (d.dat a) = true := by
  unfold SeqAt.shaped
  rw [Bool.and_eq_true, decide_eq_true_eq]
  exact ⟨d.lay a, Nat.le_trans (d.dle a) h⟩
theorem dEqD {K : PySem.W.Frag} {α : Type} [DecidableEq α] {ρ : Rp α} (d : Dt ρ) (h : d.dep ≤ 64 := by decide) : D2 (rEqD K) ρ ρ rB fun x y => .ok (decide (x = y)) := fun x y v w F H Q e rv rw q => by
  refine ⟨_, _, d.dp K H x v (ρ.mono e rv), d.dp K H y w (ρ.mono e rw), d.shp h x, d.shp h y, ?_⟩
  rw [d.eqv]
  exact q _ F H (Ext.refl e) rfl
theorem dNeD {K : PySem.W.Frag} {α : Type} [DecidableEq α] {ρ : Rp α} (d : Dt ρ) (h : d.dep ≤ 64 := by decide) : D2 (rNeD K) ρ ρ rB fun x y => .ok (!decide (x = y)) := fun x y v w F H Q e rv rw q => by
  refine ⟨_, _, d.dp K H x v (ρ.mono e rv), d.dp K H y w (ρ.mono e rw), d.shp h x, d.shp h y, ?_⟩
  rw [d.eqv]
  exact q _ F H (Ext.refl e) rfl
theorem any_dat {α : Type} [DecidableEq α] {ρ : Rp α} (d : Dt ρ) (x : α) : ∀ xs : List α, ((xs.map d.dat).any fun z => PyData.eqv z (d.dat x)) = decide (x ∈ xs)
  | [] => by simp
  | y :: r => by
    rw [List.map_cons, List.any_cons, any_dat d x r, d.eqv]
    by_cases h : y = x
    · subst h
      simp
    · have h' : ¬ x = y := fun z => h z.symm
      simp [h, h']
theorem kl_lay {α : Type} [DecidableEq α] {ρ : Rp α} (d : Dt ρ) (xs : List α) : PyData.canLayAll0 (xs.map d.dat) = true := (kl d).lay xs
/-- x in t, t a tuple -/
def rInU (K : PySem.W.Frag) (neg : Bool) : R2 := fun x y H Q => ∃ d ds, Dp K H x d ∧ Dp K H y (.tuple ds) ∧ SeqAt.shaped d = true ∧ PyData.canLayAll0 ds = true ∧ Q (.bl (if neg = true then !(ds.any fun z => PyData.eqv z d) else ds.any fun z => PyData.eqv z d)) H
theorem op_inU {X : Cx} (hu : X.A.units + 65 < cLine) : OpR X (compareOp .In) (rInU X.K false) := by
  intro pins s σ H x y v u Q I rx ry ⟨d, ds, hd, he, sd, se, q⟩
  obtain ⟨as, r1⟩ := Dp.reads I d x v hd rx
  obtain ⟨bs, r2⟩ := Dp.reads I (.tuple ds) y u he ry
  exact SeqAt.in_tuple_reads r2 r1 se (SeqAt.canLay_of_shaped sd) (room_in_shaped sd hu) ⟨.bl _, H, I, rfl, q⟩
/-- x in xs, answered -/
def hasB {α : Type} [DecidableEq α] (x : α) (xs : List α) : Bool := decide (x ∈ xs)
theorem hasB_iff {α : Type} [DecidableEq α] {x : α} {xs : List α} : hasB x xs = true ↔ x ∈ xs := decide_eq_true_iff
theorem dInU {K : PySem.W.Frag} {α : Type} [DecidableEq α] {ρ : Rp α} (d : Dt ρ) (h : d.dep ≤ 64 := by decide) : D2 (rInU K false) ρ (rT ρ) rB fun x xs => .ok (hasB x xs) := fun x xs v w F H Q e rv rw q => by
  obtain ⟨p, vs, ew, hp, r⟩ := (rT ρ).mono e rw
  refine ⟨_, xs.map d.dat, d.dp K H x v (ρ.mono e rv), by rw [ew]; exact .tup (.inl (.inl hp)) ((kl d).dp K H xs vs r), d.shp h x, kl_lay d xs, ?_⟩
  rw [any_dat]
  exact q _ F H (Ext.refl e) rfl
/-! ### items -/
/-- the j-th of a row of unlike types -/
structure Pj {τ β : Type} (t : Tr τ) (j : Nat) (ρ : Rp β) (f : τ → β) : Prop where
  out : ∀ a F vs, t.rep a F vs → ∃ v, vs[j]? = some v ∧ ρ.rep (f a) F v
theorem pj1 {α : Type} {ρ : Rp α} : Pj (t1 ρ) 0 ρ fun a => a := ⟨fun a F vs ⟨v, e, r⟩ => ⟨v, by rw [e] <;> rfl, r⟩⟩
theorem pj0 {α τ : Type} {ρ : Rp α} {t : Tr τ} : Pj (tc ρ t) 0 ρ fun a => a.1 := ⟨fun a F vs ⟨v, ws, e, r, _⟩ => ⟨v, by rw [e] <;> rfl, r⟩⟩
theorem pjs {α β τ : Type} {ρ : Rp α} {π : Rp β} {t : Tr τ} {j : Nat} {f : τ → β} (h : Pj t j π f) : Pj (tc ρ t) (j + 1) π fun a => f a.2 := ⟨fun a F vs ⟨v, ws, e, r, q⟩ => by
  obtain ⟨u, h1, h2⟩ := h.out a.2 F ws q
  exact ⟨u, by rw [e]; simpa using h1, h2⟩⟩
section
variable {X : Cx} {U : Wi} {Γ : List Sl} {a b e : Expr} {es : List Expr} {pos : Pos} {α β γ τ ω : Type} {ρ : Rp α}
theorem g_pj {t : Tr τ} {π : Rp β} {f : τ → β} {m : R ω} {val : ω → τ} {Γ' : ω → List Sl} {j : Nat} {p2 : Pos} {jj} (hj : Pj t j π f) (ha : EG X U Γ a (rTu t) m val Γ') : EG X U Γ (.Subscript a (.Constant (.int (j : Nat)) jj p2) pos) π m (fun w => f (val w)) Γ' :=
  ⟨fun en F σ H Q s h => wE_of (pe_ix (hs := fun _ _ => rfl) ix_tup wE_pe pe_int) (ha.out en F σ H _ s (wpR_mono h (fun w k v F1 H1 e1 s1 ⟨p, vs, ev, hp, r⟩ => by
    obtain ⟨u, h1, h2⟩ := hj.out _ F1 vs r
    exact ⟨p, vs, (j : Nat), u, ev, rfl, .inl (.inl (s1.sub p _ hp)), atI_nat h1, k u F1 H1 e1 s1 h2⟩) fun _ z => z))⟩
/-- t[0], t[1] .. -/
theorem x_pj {t : Tr τ} {π : Rp β} {f : τ → β} {m : R τ} {p2 : Pos} {jj} (j : Nat) (hj : Pj t j π f) (ha : EX X U Γ a (rTu t) m) : EX X U Γ (.Subscript a (.Constant (.int (j : Nat)) jj p2) pos) π (m.bind fun x => .ok (f x)) :=
  ⟨fun en F σ H Q s h => (g_pj (pos := pos) (p2 := p2) (jj := jj) hj ha).out en F σ H Q s (wpR_mono (wpR_bind h) (fun w k => k) fun _ z => z)⟩
theorem atI_rep {F : Hp} {xs : List α} {vs : List V} {i : Int} {x : α} (r : RepL ρ F xs vs) (h : atI xs i = some x) : ∃ v, atI vs i = some v ∧ ρ.rep x F v := by
  unfold atI at h ⊢
  rw [← r.length]
  cases hi : ixN xs.length i with
  | none => rw [hi] at h; cases h
  | some j =>
    rw [hi] at h
    exact r.got h
theorem dIxL {K : PySem.W.Frag} : D2 (rIxL K) (rL ρ) rI ρ fun xs i => ofOpt (atI xs i) := fun xs i v w F H Q e ⟨p, vs, ev, hp, r⟩ rw h => by
  obtain ⟨x, hx, k⟩ := wpR_opt h
  obtain ⟨u, hu, ru⟩ := atI_rep r hx
  exact ⟨p, vs, i, u, ev, rw, .inl (.inl (e p _ hp)), hu, k u F H (Ext.refl e) ru⟩
theorem dIxS {K : PySem.W.Frag} : D2 (rIxL K) (rScr K) rI rI fun xs i => ofOpt (atI xs i) := fun xs i v w F H Q e ⟨p, ev, hp⟩ rw h => by
  obtain ⟨x, hx, k⟩ := wpR_opt h
  have hu : atI (xs.map V.int) i = some (.int x) := by
    unfold atI at hx ⊢
    rw [List.length_map]
    cases hi : ixN xs.length i with
    | none => rw [hi] at hx; cases hx
    | some j =>
      rw [hi] at hx
      show (xs.map V.int)[j]? = _
      rw [List.getElem?_map, show xs[j]? = some x from hx] <;> rfl
  exact ⟨p, _, i, .int x, ev, rw, Same.seq e hp, hu, k _ F H (Ext.refl e) rfl⟩
theorem x_ixL {m1 : R (List α)} {m2 : R Int} (ha : EX X U Γ a (rL ρ) m1) (hb : EX X U Γ b rI m2) (hs : PlainIx b := by exact fun _ _ => rfl) : EX X U Γ (.Subscript a b pos) ρ (m1.bind fun x => m2.bind fun y => ofOpt (atI x y)) := by
  have h := x_ix (pos := pos) ix_list dIxL ha hb hs
  simp only [opt_calm] at h
  exact h
theorem x_ixS {m1 : R (List Int)} {m2 : R Int} (ha : EX X U Γ a (rScr X.K) m1) (hb : EX X U Γ b rI m2) (hs : PlainIx b := by exact fun _ _ => rfl) : EX X U Γ (.Subscript a b pos) rI (m1.bind fun x => m2.bind fun y => ofOpt (atI x y)) := by
  have h := x_ix (pos := pos) ix_list dIxS ha hb hs
  simp only [opt_calm] at h
  exact h

/-! ### built-ins -/
def rLen (K : PySem.W.Frag) : List V → Hp → VK → Prop := fun xs H Q => ∃ x n, xs = [x] ∧ LenV K x H n ∧ Q (.int n) H
theorem dLenS {K : PySem.W.Frag} : DC (rLen K) (t1 (rScr K)) rI fun xs => .ok (xs.length : Nat) := fun xs vs F H Q e ⟨v, ev, p, e2, hp⟩ h =>
  ⟨v, xs.length, ev, by rw [e2]; exact .inl ⟨_, Same.seq e hp, by rw [List.length_map]⟩, h _ F H (Ext.refl e) rfl⟩
theorem x_len {t : Tr τ} {mr : τ → R Int} {m : R τ} {p : Pos} (hd : DC (rLen X.K) t rI mr) (hm : X.mg "len" = none) (ha : AX X U Γ (a :: es) t m) (hg : Gl X "len" := by rfl)
    (he : starEach (a :: es) X.env = (false, eval a X.env) :: starEach es X.env := by rfl) (hpl : (backTo pos (starEach es X.env)).any (·.1) = false := by rfl) :
    EX X U Γ (.Call (.Name "len" p) (a :: es) [] pos) rI (m.bind fun x => (mr x).calm.bind fun z => .ok z) := x_callB call_len hd hm boot_len ha hg (by decide) (by decide) he hpl
theorem bl_rep : ∀ {bs : List Bool} {F : Hp} {vs : List V}, RepL rB F bs vs → vs = bs.map V.bl
  | _, _, _, .nil => rfl
  | _, _, _, .cons r t => by rw [bl_rep t, show _ = V.bl _ from r, List.map_cons]
theorem dAll {K : PySem.W.Frag} : DC (rAll K) (t1 (rL rB)) rB fun bs => .ok (bs.all id) := fun bs vs F H Q e ⟨v, ev, p, ws, e2, hp, r⟩ h =>
  ⟨p, bs, by rw [ev, e2], by rw [← bl_rep r]; exact .inl (.inl (e p _ hp)), h _ F H (Ext.refl e) rfl⟩
def CDv (j : Int) : Prop := 0 < j ∧ j.natAbs.log2 < 8900
instance (j : Int) : Decidable (CDv j) := inferInstanceAs (Decidable (_ ∧ _))
theorem CDv.ok {i j : Int} (h : CDv j) : CDivP i j := by
  refine ⟨h.1, ?_⟩
  unfold Builtin.divisionGoesByPylong
  have h2 := h.2
  simp only [Bool.and_eq_false_iff, decide_eq_false_iff_not]
  left
  split
  · omega
  · omega
def rDvm : List V → Hp → VK → Prop := fun xs H Q => ∃ i j, xs = [.int i, .int j] ∧ CDivP i j ∧ ∀ p, H p = none → Q (.ref p) (upd H p (.tup [.int (i / j), .int (i % j)]))
theorem dDvm : DC rDvm (tc rI (t1 rI)) rC fun x => chk (CDv x.2) (x.1 / x.2, x.1 % x.2) := fun x vs F H Q e ⟨v, ws, ev, r1, w, ew, r2⟩ h => by
  obtain ⟨hc, k⟩ := wpR_chk h
  refine ⟨x.1, x.2, by rw [ev, ew, show v = V.int x.1 from r1, show w = V.int x.2 from r2], hc.ok, fun p hp => ?_⟩
  exact k _ _ _ (Ext.new e hp) ⟨p, _, rfl, upd_same, _, _, rfl, rfl, _, rfl, rfl⟩
theorem x_dvm {m : R (Int × Int)} {p : Pos} (hm : X.mg "divmod" = none) (ha : AX X U Γ (a :: es) (tc rI (t1 rI)) m) (hg : Gl X "divmod" := by rfl)
    (he : starEach (a :: es) X.env = (false, eval a X.env) :: starEach es X.env := by rfl) (hpl : (backTo pos (starEach es X.env)).any (·.1) = false := by rfl) :
    EX X U Γ (.Call (.Name "divmod" p) (a :: es) [] pos) rC (m.bind fun x => chk (CDv x.2) (x.1 / x.2, x.1 % x.2)) := by
  have h := x_callB (pos := pos) (p := p) call_divmodW dDvm hm (by decide +kernel) ha hg (by decide) (by decide) he hpl
  simp only [chk_calm] at h
  exact h
/-- by a known number -/
theorem x_dvmC {m : R Int} {i : Int} {p : Pos} (hm : X.mg "divmod" = none) (ha : EX X U Γ a rI m) (hb : EX X U Γ b rI (.ok i)) (hi : CDv i := by decide) (hg : Gl X "divmod" := by rfl)
    (he : starEach [a, b] X.env = (false, eval a X.env) :: starEach [b] X.env := by rfl) (he2 : starEach [b] X.env = (false, eval b X.env) :: starEach [] X.env := by rfl) (hpl : (backTo pos (starEach [b] X.env)).any (·.1) = false := by rfl) :
    EX X U Γ (.Call (.Name "divmod" p) [a, b] [] pos) rC (m.bind fun x => .ok (x / i, x % i)) := by
  have h := x_dvm (pos := pos) (p := p) hm (a_cons ha (a_one hb he2) he) hg he hpl
  have e : ((m.bind fun x => (R.ok i).bind fun y => R.ok (x, y)).bind fun x => chk (CDv x.2) (x.1 / x.2, x.1 % x.2)) = m.bind fun x => .ok (x / i, x % i) := by
    cases m with
    | ok x =>
      show chk (CDv i) (x / i, x % i) = .ok (x / i, x % i)
      unfold chk
      rw [if_pos hi]
    | er _ => rfl
    | bad => rfl
  rw [e] at h
  exact h
theorem dMin : DC (fun xs H Q => ∃ i j, xs = [.int i, .int j] ∧ Q (.int (if j < i then j else i)) H) (tc rI (t1 rI)) rI fun x => .ok (if x.2 < x.1 then x.2 else x.1) := fun x vs F H Q e ⟨v, ws, ev, r1, w, ew, r2⟩ h =>
  ⟨x.1, x.2, by rw [ev, ew, show v = V.int x.1 from r1, show w = V.int x.2 from r2], h _ F H (Ext.refl e) rfl⟩
theorem dMax : DC (fun xs H Q => ∃ i j, xs = [.int i, .int j] ∧ Q (.int (if j > i then j else i)) H) (tc rI (t1 rI)) rI fun x => .ok (if x.2 > x.1 then x.2 else x.1) := fun x vs F H Q e ⟨v, ws, ev, r1, w, ew, r2⟩ h =>
  ⟨x.1, x.2, by rw [ev, ew, show v = V.int x.1 from r1, show w = V.int x.2 from r2], h _ F H (Ext.refl e) rfl⟩
theorem rep_int (F : Hp) : ∀ ns : List Int, RepL rI F ns (ns.map V.int)
  | [] => .nil
  | n :: r => .cons rfl (rep_int F r)
def rTup1 (K : PySem.W.Frag) : List V → Hp → VK → Prop := fun xs H Q => ∃ p ys, xs = [.ref p] ∧ ((SqL K H p ys ∧ ∀ l, H l = none → Q (.ref l) (upd H l (.tup ys))) ∨ (SqT K H p ys ∧ Q (.ref p) H))
theorem dTupL {K : PySem.W.Frag} : DC (rTup1 K) (t1 (rL ρ)) (rT ρ) fun xs => .ok xs := fun xs vs F H Q e ⟨v, ev, p, ws, e2, hp, r⟩ h =>
  ⟨p, ws, by rw [ev, e2], .inl ⟨.inl (.inl (e p _ hp)), fun l hl => by
    have x := Ext.new (o := .tup ws) e hl
    exact h _ _ _ x ⟨l, ws, rfl, upd_same, r.mono x.f⟩⟩⟩
/-- xs + ys, a new list -/
theorem f_catL {m1 m2 : R (List α)} (ha : EX X U Γ a (rL ρ) m1) (hb : EX X U Γ b (rL ρ) m2) : FX X U Γ (.BinOp a .Add b pos) (fun ys => oLi (tl ρ) ys) (m1.bind fun x => m2.bind fun y => chk (x.length + y.length ≤ sizeLine) (x ++ y)) :=
  ⟨fun en F σ H Q s h => wE_of (pe_op op_cat wE_pe wE_pe) (ha.out en F σ H _ s (wpR_mono (wpR_bind h) (fun x k v F1 H1 e1 s1 ⟨p, vs, ev, hp, r⟩ =>
    hb.out en F1 σ H1 _ s1 (wpR_mono (wpR_bind k) (fun y k2 u F2 H2 e2 s2 ⟨q, ws, eu, hq, r2⟩ => by
      obtain ⟨hl, k2⟩ := wpR_chk k2
      refine ⟨p, q, vs, ws, ev, eu, s2.sub p _ (e2 p _ hp), s2.sub q _ hq, by rw [← r.length, ← r2.length]; exact hl, fun l hl => ?_⟩
      exact k2 l _ F2 _ (e1.trans e2) (s2.lay hl).1 (s2.lay hl).2 ⟨_, rfl, (r.mono e2).append r2⟩) fun _ z => z.up e1)) fun _ z => z))⟩
/-- xs[lo:hi] -/
def cutL (xs : List α) (lo hi : Option Int) : List α := (xs.drop (HT.sIx xs.length 0 lo)).take (HT.sIx xs.length xs.length hi - HT.sIx xs.length 0 lo)
theorem rep_cut {F : Hp} {xs : List α} {vs : List V} {lo hi : Option Int} (r : RepL ρ F xs vs) : RepL ρ F (cutL xs lo hi) (cutV vs lo hi) := by
  unfold cutL cutV
  rw [← r.length]
  exact (r.drop _).take _
/-- a part of a slice -/
structure OG (X : Cx) (U : Wi) (Γ : List Sl) (e : Option Expr) (m : R (Option Int)) : Prop where
  out : ∀ en F σ H (Q : Option Int → Hp → Prop), SA en Γ F σ H → wpR m (fun w => ∀ F' H', Same F F' → SA en Γ F' σ H' → Q w H') (U.ok X.mg en F) → ∃ t, PO X e t ∧ t σ H Q
def wO (X : Cx) (e : Option Expr) : TO := fun σ H Q => ∃ t, PO X e t ∧ t σ H Q
theorem wO_po {e : Option Expr} : PO X e (wO X e) := ⟨fun pins s σ H Q I ⟨t, h, q⟩ => h.run pins s σ H Q I q⟩
theorem o_none : OG X U Γ none (.ok none) := ⟨fun en F σ H Q s h => ⟨_, po_none, h F H (Same.refl F) s⟩⟩
theorem o_some {m : R Int} (h : EX X U Γ e rI m) : OG X U Γ (some e) (m.bind fun x => .ok (some x)) :=
  ⟨fun en F σ H Q s q => ⟨_, po_some wE_pe, h.out en F σ H _ s (wpR_mono (wpR_bind q) (fun x k v F1 H1 e1 s1 r1 => ⟨x, r1, k F1 H1 e1 s1⟩) fun _ z => z)⟩⟩
theorem f_slL {lo hi : Option Expr} {p2 : Pos} {m : R (List α)} {ml mh : R (Option Int)} (ha : EX X U Γ a (rL ρ) m) (hl : OG X U Γ lo ml) (hh : OG X U Γ hi mh) :
    FX X U Γ (.Subscript a (.Slice lo hi none p2) pos) (fun ys => oLi (tl ρ) ys) (m.bind fun xs => ml.bind fun l => mh.bind fun h => .ok (cutL xs l h)) :=
  ⟨fun en F σ H Q s h => wE_of (pe_slice sl_list wE_pe wO_po wO_po) (ha.out en F σ H _ s (wpR_mono (wpR_bind h) (fun x k v F1 H1 e1 s1 ⟨p, vs, ev, hp, r⟩ =>
    hl.out en F1 σ H1 _ s1 (wpR_mono (wpR_bind k) (fun l k2 F2 H2 e2 s2 => hh.out en F2 σ H2 _ s2 (wpR_mono (wpR_bind k2) (fun hi k3 F3 H3 e3 s3 =>
      ⟨p, vs, ev, .inl (.inl (s3.sub p _ (e3 p _ (e2 p _ hp)))), fun q hq => k3 q _ F3 _ (e1.trans (e2.trans e3)) (s3.lay hq).1 (s3.lay hq).2 ⟨_, rfl, rep_cut (r.mono (e2.trans e3))⟩⟩) fun _ z => z.up (e1.trans e2))) fun _ z => z.up e1)) fun _ z => z))⟩
theorem cut_int (xs : List Int) (lo hi : Option Int) : cutV (xs.map V.int) lo hi = (cutL xs lo hi).map V.int := by
  unfold cutV cutL
  rw [List.length_map, List.map_take, List.map_drop]
theorem f_slS {lo hi : Option Expr} {p2 : Pos} {m : R (List Int)} {ml mh : R (Option Int)} (ha : EX X U Γ a (rScr X.K) m) (hl : OG X U Γ lo ml) (hh : OG X U Γ hi mh) :
    FX X U Γ (.Subscript a (.Slice lo hi none p2) pos) (fun ys => oLi (tl rI) ys) (m.bind fun xs => ml.bind fun l => mh.bind fun h => .ok (cutL xs l h)) :=
  ⟨fun en F σ H Q s h => wE_of (pe_slice sl_list wE_pe wO_po wO_po) (ha.out en F σ H _ s (wpR_mono (wpR_bind h) (fun x k v F1 H1 e1 s1 ⟨p, ev, hp⟩ =>
    hl.out en F1 σ H1 _ s1 (wpR_mono (wpR_bind k) (fun l k2 F2 H2 e2 s2 => hh.out en F2 σ H2 _ s2 (wpR_mono (wpR_bind k2) (fun hi k3 F3 H3 e3 s3 =>
      ⟨p, _, ev, Same.seq (e2.trans (e3.trans s3.sub)) hp, fun q hq => k3 q _ F3 _ (e1.trans (e2.trans e3)) (s3.lay hq).1 (s3.lay hq).2 ⟨_, rfl, by rw [cut_int]; exact rep_int F3 _⟩⟩) fun _ z => z.up (e1.trans e2))) fun _ z => z.up e1)) fun _ z => z))⟩

/-! ### isinstance with a built-in class -/
/-- the class of what stands for a value of ρ -/
structure Ty {α : Type} (ρ : Rp α) (c : α → String) : Prop where
  out : ∀ K H x v, ρ.rep x H v → TyX K H v (.type (c x))
theorem x_isi {m : R α} {c : α → String} {T : String} {n : Str} {p p2 : Pos} (f : α → Bool) (ht : Ty ρ c) (hf : ∀ x, kitB (c x) T = some (f x)) (hm : X.mg "isinstance" = none) (hn : X.mg n = none) (hv : bootBuiltins n = some (.type T)) (ha : EX X U Γ a ρ m)
    (hg : Gl X "isinstance" := by rfl) (hg2 : Gl X n := by rfl) (hnn : n ≠ "__name__" := by decide) (hnd : (n == ("__debug__" : Str)) = false := by decide)
    (he : starEach [a, .Name n p2] X.env = (false, eval a X.env) :: starEach [.Name n p2] X.env := by rfl) (he2 : starEach [.Name n p2] X.env = (false, eval (.Name n p2) X.env) :: starEach [] X.env := by rfl) (hpl : (backTo pos (starEach [.Name n p2] X.env)).any (·.1) = false := by rfl) :
    EX X U Γ (.Call (.Name "isinstance" p) [a, .Name n p2] [] pos) rB (m.bind fun x => .ok (f x)) :=
  ⟨fun en F σ H Q s h => wE_of (pe_callB call_isi hg hm boot_isinstance (pa_cons wE_pe (pa_cons (pe_bltn (v := .ty T) hg2 hn hv rfl hnn hnd) pa_nil he2) he) (by decide) (by decide) he hpl) (ha.out en F σ H _ s (wpR_mono (wpR_bind h) (fun x k v F1 H1 e1 s1 r1 =>
    ⟨v, .ty T, _, _, f x, rfl, .ty T, ht.out X.K H1 x v (ρ.mono s1.sub r1), kit_ty (hf x), k _ F1 H1 e1 s1 rfl⟩) fun _ z => z))⟩

/-! ### own lists -/
variable {ω' : Type} {I : ω → Kd} {rest : List Stmt} {n : Str}
/-- xs.append(e), xs in slot i -/
theorem s_append {a0 : Option Addr} {p ap cp : Pos} {xs : List α} {m : R α} {k : α → R ω} (i : Nat) (he : EX X U Γ e ρ m) (hr : ∀ y, SX X U (Γ.set i (.own a0 (oLi (tl ρ) (xs ++ [y])))) rest I (k y)) (hΓ : Γ[i]? = some (.own a0 (oLi (tl ρ) xs)) := by rfl) (hN : X.N[i]? = some n := by rfl)
    (hv : Vis X.env.scope n := by first | exact Or.inl rfl | exact Or.inr (Or.inl rfl) | exact Or.inr (Or.inr rfl)) (hd : (n == ("__debug__" : Str)) = false := by decide) (hcd : (n == ("__classdict__" : Str)) = false := by decide)
    (h1 : starEach [e] X.env = (false, eval e X.env) :: starEach [] X.env := by rfl)
    (hpe : ∀ to t, PE X (.Name n p) to → PA X [e] t → PE X (.Call (.Attribute (.Name n p) "append" ap) [e] [] cp) (tBM X.K "list" rAppend to t) := by exact fun _ _ ho ha => pe_bm PySem.F.plainAttrs_list PySem.F.slot_list_append PySem.F.type_list_append mt_append ho ha)
    (hs : swapsWith (.Call (.Attribute (.Name n p) "append" ap) [e] [] cp) none pos.line X.env = pure false := by rfl) :
    SX X U Γ (.Expr (.Call (.Attribute (.Name n p) "append" ap) [e] [] cp) pos :: rest) I (m.bind fun y => (chk (xs.length < sizeLine) ()).bind fun _ => k y) :=
  ⟨fun en F σ H D s h => wSs_of (pss_cons (ps_expr (hpe _ _ (pe_var hN hv hd hcd) (pa_cons wE_pe pa_nil h1)) hs) wSs_pss) (by
    obtain ⟨p, o, g1, g2, g3, ⟨vs, eo, rl⟩, g5, g6⟩ := s.own i _ _ hΓ
    subst eo
    refine ⟨.ref p, g1, .inl ⟨rfl, _, .inl (.inl g3)⟩, ?_⟩
    refine he.out en F σ H _ s (wpR_mono (wpR_bind h) (fun y q u F1 H1 e1 s1 ry => ?_) fun _ z => z)
    obtain ⟨p1, o1, f1, f2, f3, ⟨ws, eo, rl1⟩, f5, f6⟩ := s1.own i _ _ hΓ
    subst eo
    have ep : p1 = p := by
      rw [g1] at f1
      injection f1 with f1
      injection f1 with f1
      injection f1 with f1
      exact f1.symm
    subst ep
    obtain ⟨hl, q⟩ := wpR_chk (wpR_bind q)
    refine ⟨p1, ws, u, rfl, rfl, f3, by rw [← rl1.length]; exact hl, ?_⟩
    exact (hr y).out en F1 σ _ D (s1.mut hΓ f1 ⟨ws ++ [u], rfl, rl1.append (.cons ry .nil)⟩) (wpR_mono q (fun o z => z.up e1) fun _ z => z.up e1))⟩
end
end Py

/-! Own layer, part E: the rules where nothing but slots changes; raise; dicts keyed by tuples. -/
namespace Py
open PySem PySem.Spec PyProof.Rows L2
section
variable {X : Cx} {U : Wi} {Γ : List Sl} {a b c e : Expr} {es : List Expr} {A B sts rest : List Stmt} {pos : Pos} {α β γ τ ω ω' : Type} {ρ : Rp α} {π : Rp β} {I : ω → Kd} {I' : ω' → Kd} {n : Str}

theorem SX.cv {m m' : R ω} (h : SX X U Γ sts I m) (e : m = m') : SX X U Γ sts I m' := by
  rw [← e]
  exact h
theorem FG.cv {P : α → ORp} {m m' : R α} (h : FX X U Γ e P m) (q : m = m') : FX X U Γ e P m' := by
  subst q
  exact h
theorem EG.cv {ρ : Rp α} {m m' : R α} (h : EX X U Γ e ρ m) (q : m = m') : EX X U Γ e ρ m' := by
  rw [← q]
  exact h
/-! ### and, or where the right side can't fail -/
theorem w_and2 {m1 : R Bool} {y : Bool} {r : List Expr} (ha : BX X U Γ a m1) (hb : WG X U Γ (.BoolOp .And (b :: r) pos) (.ok y)) : WG X U Γ (.BoolOp .And (a :: b :: r) pos) (m1.bind fun x => .ok (x && y)) := by
  have h := w_and ha hb
  have e : (fun x : Bool => if x = true then R.ok y else .ok false) = fun x => .ok (x && y) := by
    funext x
    cases x <;> rfl
  rw [e] at h
  exact h
theorem w_or2 {m1 : R Bool} {y : Bool} {r : List Expr} (ha : BX X U Γ a m1) (hb : WG X U Γ (.BoolOp .Or (b :: r) pos) (.ok y)) : WG X U Γ (.BoolOp .Or (a :: b :: r) pos) (m1.bind fun x => .ok (x || y)) := by
  have h := w_or ha hb
  have e : (fun x : Bool => if x = true then R.ok true else .ok y) = fun x => .ok (x || y) := by
    funext x
    cases x <;> rfl
  rw [e] at h
  exact h
theorem x_test {m : R Bool} (h : EX X U Γ e rB m) (he : ∀ whole, isTrue e X.env whole = (do let v ← whole; standAt e.pos; holding [v] (truthy v)) := by intro _; rfl) : BX X U Γ e m := g_test h he
theorem x_tup {t : Tr τ} {m : R τ} {k : Nat} (h : AX X U Γ es t m) (hn : ∀ w F vs, t.rep w F vs → vs.length ≤ sizeLine) : EX X U Γ (.Tuple es k pos) (rTu t) m := g_tup h hn
theorem f_list {t : Tr τ} {m : R τ} (h : AX X U Γ es t m) (hn : ∀ w F vs, t.rep w F vs → vs.length ≤ sizeLine) : FX X U Γ (.List es pos) (fun w => oLi t w) m := f_lst h hn
theorem x_frzE {t : Tr τ} {m : R τ} (h : FX X U Γ e (fun w => oLi t w) m) : EX X U Γ e (rLi t) m := x_frz (val := fun w => w) h
theorem n1 {ρ : Rp α} {w : α} {F : Hp} {vs : List V} (h : (t1 ρ).rep w F vs) : vs.length = 1 := by
  obtain ⟨v, e, _⟩ := h
  rw [e] <;> rfl
theorem nc {ρ : Rp α} {t : Tr τ} {w : α × τ} {F : Hp} {vs : List V} {k : Nat} (hk : ∀ w F vs, t.rep w F vs → vs.length = k) (h : (tc ρ t).rep w F vs) : vs.length = k + 1 := by
  obtain ⟨v, ws, e, _, q⟩ := h
  rw [e, List.length_cons, hk _ _ _ q]
theorem sz {k m : Nat} (h : k = m) (hm : m ≤ 1000) : k ≤ sizeLine := by
  subst h
  exact Nat.le_of_lt (small1000 hm)

/-! ### statements -/
theorem p_set {p' : Pos} {m : R α} {k : α → R ω} (i : Nat) (hN : X.N.Nodup) (he : EX X U Γ e ρ m) (hr : ∀ w, SX X U (Γ.set i (im ρ w)) rest I (k w)) (hn : X.N[i]? = some n := by rfl)
    (hx : Loc X.env.scope n := by first | exact Or.inl rfl | exact Or.inr rfl) (hs : swapsWith e (some (.Name n p')) pos.line X.env = pure false := by rfl) (hf : X.fn n = true ∨ X.env.scope.names.lookup n = some .local := by first | exact .inl rfl | exact .inr rfl) :
    SX X U Γ (.Assign [.Name n p'] e pos :: rest) I (m.bind k) := s_set i hN he hr hn hx hs hf
theorem p_own {P : ω' → ORp} {p' : Pos} {m : R ω'} {k : ω' → R ω} (i : Nat) (hN : X.N.Nodup) (he : FX X U Γ e P m) (hr : ∀ w, SX X U (Γ.set i (.own none (P w))) rest I (k w)) (hn : X.N[i]? = some n := by rfl)
    (hx : Loc X.env.scope n := by first | exact Or.inl rfl | exact Or.inr rfl) (hs : swapsWith e (some (.Name n p')) pos.line X.env = pure false := by rfl) (hf : X.fn n = true ∨ X.env.scope.names.lookup n = some .local := by first | exact .inl rfl | exact .inr rfl) :
    SX X U Γ (.Assign [.Name n p'] e pos :: rest) I (m.bind k) := s_own i hN he hr hn hx hs hf
theorem p_asg {tg : Expr} {vs : List Nat} {g : α → List Sl → List Sl} {m : R α} {k : α → R ω} (hg : GT X tg ρ vs g) (he : EX X U Γ e ρ m) (hr : ∀ w, SX X U (g w Γ) rest I (k w))
    (hs : swapsWithSole [tg] e pos.line X.env = pure false := by rfl) (hw : swappedStores [tg] e X.env = pure none := by rfl) (h1 : (assignEach [tg] X.env).map (·.2) = [assign tg X.env] := by rfl) :
    SX X U Γ (.Assign [tg] e pos :: rest) I (m.bind k) := s_asg hg he hr hs hw h1
theorem p_expr {m : R α} {k : α → R ω} (he : EX X U Γ e ρ m) (hr : ∀ w, SX X U Γ rest I (k w)) (hs : swapsWith e none pos.line X.env = pure false := by rfl) : SX X U Γ (.Expr e pos :: rest) I (m.bind k) := s_expr he hr hs
theorem p_ret {m : R α} (mk : α → ω) (Γr : List Sl) (e1 : ∀ w, (I (mk w)).cut = .rt ⟨fun H v => ρ.rep w H v, fun e h => ρ.mono e h⟩ Γr) (l : Le Γr Γ) (he : EX X U Γ e ρ m) : SX X U Γ (.Return (some e) pos :: rest) I (m.bind fun w => .ok (mk w)) :=
  s_last (g_ret mk (fun _ => Γr) e1 (fun _ => l) he)
theorem p_retf {I : α → Kd} {m : R α} (Γr : List Sl) (e1 : ∀ w, (I w).cut = .rt ⟨fun H v => ρ.rep w H v, fun e h => ρ.mono e h⟩ Γr) (l : Le Γr Γ) (he : EX X U Γ e ρ m) : SX X U Γ (.Return (some e) pos :: rest) I m := by
  have h := p_ret (rest := rest) (pos := pos) (fun w => w) Γr e1 l he
  rw [R.bind_pure] at h
  exact h
theorem p_ct {o : ω} {Γ' : List Sl} (e : (I o).cut = .ct Γ') (l : Le Γ' Γ) : SX X U Γ (.Continue pos :: rest) I (.ok o) := s_last (g_ct e l)
theorem p_ifT {mc : R Bool} {mA mR : R ω} (hc : BX X U Γ c mc) (hA : SX X U Γ A (fun o => (I o).cut) mA) (hR : SX X U Γ rest I mR) : SX X U Γ (.If c A [] pos :: rest) I (mc.bind fun t => if t = true then mA else mR) :=
  s_ifT hc (fun _ => hA) fun _ => hR
theorem p_if2 {mc : R Bool} {mA mB : R ω} (hc : BX X U Γ c mc) (hA : SX X U Γ A I mA) (hB : SX X U Γ B I mB) : SX X U Γ [.If c A B pos] I (mc.bind fun t => if t = true then mA else mB) :=
  s_one (g_if hc (fun _ => hA) fun _ => hB)
/-- if c: A else: B, then the rest: s is what both leave -/
theorem p_ifJ {mc : R Bool} {mA mB : R τ} {k : τ → R ω} (Γs : τ → List Sl) (hc : BX X U Γ c mc) (hA : SX X U Γ A (fun s => .nx (Γs s)) mA) (hB : SX X U Γ B (fun s => .nx (Γs s)) mB) (hr : ∀ s, SX X U (Γs s) rest I (k s)) :
    SX X U Γ (.If c A B pos :: rest) I (mc.bind fun t => (if t = true then mA else mB).bind k) := by
  have h := s_cons (g_if (pos := pos) (I := fun s : τ => Kd.nx (Γs s)) hc (fun _ => hA) fun _ => hB) (fun s => Cont.nx (hr s))
  exact h.cv (by cases mc <;> rfl)
theorem p_for {tg iter : Expr} {body : List Stmt} {m : R (List α)} {vs : List Nat} {g : α → List Sl → List Sl} {k : τ → R ω} (Γs : τ → List Sl) (f : τ → α → R τ) (s0 : τ) (hp : PassesOwn (model X.prog X.w) X.A X.env X.xe) (hi : IX X U Γ tg iter ρ m) (hg : GT X tg ρ vs g)
    (hb : ∀ s x, SX X U (g x (Γs s)) body (fun s' => .go (Γs s')) (f s x)) (h0 : Le (Γs s0) Γ) (hr : ∀ s, SX X U (Γs s) rest I (k s)) (hc : X.calm = true := by rfl) (hs : ∀ x, foldedSetIterable iter X.env x = pure x := by intro _; rfl) :
    SX X U Γ (.For tg iter body [] pos :: rest) I (m.bind fun xs => (forR f xs s0).bind k) := by
  have h := s_cons (g_forR (pos := pos) Γs (fun _ => f) (fun _ => s0) hi hg (fun _ => hb) (fun _ => h0) hp hc hs) (fun s => Cont.nx (hr s))
  exact h.cv (by cases m <;> rfl)
theorem p_forO {tg iter : Expr} {body : List Stmt} {m : R (List α)} {vs : List Nat} {g : α → List Sl → List Sl} {k : τ → R ω} (Γs : τ → List Sl) (P : γ → PRp × List Sl) (mk : γ → ω) (f : τ → α → R (Stp τ γ)) (s0 : τ) (hp : PassesOwn (model X.prog X.w) X.A X.env X.xe) (hi : IX X U Γ tg iter ρ m) (hg : GT X tg ρ vs g)
    (hb : ∀ s x, SX X U (g x (Γs s)) body (Stp.kd Γs P) (f s x)) (h0 : Le (Γs s0) Γ) (hk : ∀ a, Cont X U rest I (.rt (P a).1 (P a).2) (.ok (mk a))) (hr : ∀ s, SX X U (Γs s) rest I (k s)) (hc : X.calm = true := by rfl) (hs : ∀ x, foldedSetIterable iter X.env x = pure x := by intro _; rfl) :
    SX X U Γ (.For tg iter body [] pos :: rest) I (m.bind fun xs => (forS f xs s0).bind (outK k mk)) := by
  have h := s_cons (rest := rest) (I := I) (k := outK k mk) (g_forS (pos := pos) Γs P (fun _ => f) (fun _ => s0) hi hg (fun _ => hb) (fun _ => h0) hp hc hs) (fun o => by
    cases o with
    | nx s => exact Cont.nx (hr s)
    | rt a => exact hk a)
  exact h.cv (by cases m <;> rfl)
/-- raise C('..') -/
theorem p_raise {C : Addr} {cls : Str} {x : Expr} (tk : Takes X U.W) (hk : PMk X x (fun _ H Q => Q (.ref C) none H)) (hm : X.mg cls = some (.ref C)) (l : Le U.Γ Γ) (hc : X.calm = true := by rfl) : SX X U Γ (.Raise (some x) none pos :: rest) I (.er ⟨cls, none⟩) :=
  ⟨fun en F σ H D s h => wSs_of (pss_cons (ps_raise hc tk hk) wSs_pss) (h (.ref C) none F σ H (Same.refl F) (s.le l) ⟨C, hm, rfl, rfl⟩)⟩

end
end Py

/-! Own layer, part F: what the printed proofs name besides: constants, displays, dicts keyed by tuples, own lists read, mixed ifs. -/
namespace Py
open PySem PySem.Spec PyProof.Rows L2

theorem u1 {k : Nat} {A : Around} (hr : Room k A) : A.units + 1 < cLine := hu_of hr
theorem u64 {k : Nat} {A : Around} (hr : Room k A) : A.units + 64 < cLine := hr.units
theorem u65 {k : Nat} {A : Around} (hr : Room k A) : A.units + 65 < cLine := by
  have := hr.un
  unfold cLine at *
  omega
abbrev rtP {γ : Type} (ρ : Rp γ) : γ → PRp × List Sl := fun z => (⟨fun H v => ρ.rep z H v, fun e h => ρ.mono e h⟩, [])
/-- so many of one type -/
def tn {α : Type} (ρ : Rp α) (k : Nat) : Tr (List α) := ⟨fun a H vs => RepL ρ H a vs ∧ vs.length = k, fun e h => ⟨h.1.mono e, h.2⟩⟩

/-! ### dicts keyed by tuples -/
structure Ky {κ : Type} (ρ : Rp κ) where
  enc : κ → List Key
  inj : ∀ a b, enc a = enc b → a = b
  rep : ∀ a H v, ρ.rep a H v → ∃ p, v = .ref p ∧ H p = some (.tup ((enc a).map kV))
def kyC : Ky rC where
  enc := fun a => [.inl a.1, .inl a.2]
  inj := fun a b h => by
    injection h with h1 h2
    injection h2 with h2 _
    injection h1 with h1
    injection h2 with h2
    exact Prod.ext h1 h2
  rep := fun a H v ⟨p, vs, e, h, v1, ws, e1, r1, v2, e2, r2⟩ => ⟨p, e, by
    rw [h, e1, e2, show v1 = V.int a.1 from r1, show v2 = V.int a.2 from r2]
    rfl⟩
section
variable {κ ν : Type} [DecidableEq κ]
def dGet (xs : List (κ × ν)) (k : κ) : Option ν := (xs.find? fun q => decide (q.1 = k)).map (·.2)
def dPut (xs : List (κ × ν)) (k : κ) (v : ν) : List (κ × ν) :=
  if (xs.any fun q => decide (q.1 = k)) = true then xs.map (fun q => if q.1 = k then (q.1, v) else q) else xs ++ [(k, v)]
end
inductive RepD {κ ν : Type} {ρ : Rp κ} (ky : Ky ρ) (π : Rp ν) (H : Hp) : List (κ × ν) → List (List Key × V) → Prop
  | nil : RepD ky π H [] []
  | cons {k : κ} {x : ν} {xs : List (κ × ν)} {v : V} {kvs : List (List Key × V)} : π.rep x H v → RepD ky π H xs kvs → RepD ky π H ((k, x) :: xs) ((ky.enc k, v) :: kvs)
section
variable {κ ν : Type} {ρ : Rp κ} {ky : Ky ρ} {π : Rp ν} {H H' : Hp}
theorem RepD.mono (e : Same H H') : ∀ {xs : List (κ × ν)} {kvs : List (List Key × V)}, RepD ky π H xs kvs → RepD ky π H' xs kvs
  | _, _, .nil => .nil
  | _, _, .cons r t => .cons (π.mono e r) (RepD.mono e t)
theorem RepD.length : ∀ {xs : List (κ × ν)} {kvs : List (List Key × V)}, RepD ky π H xs kvs → xs.length = kvs.length
  | _, _, .nil => rfl
  | _, _, .cons r t => congrArg (· + 1) (RepD.length t)
variable [DecidableEq κ]
theorem Ky.dec (ky : Ky ρ) (a b : κ) : decide (ky.enc a = ky.enc b) = decide (a = b) := by
  by_cases h : a = b
  · subst h
    simp
  · have h' : ¬ ky.enc a = ky.enc b := fun z => h (ky.inj a b z)
    simp [h, h']
theorem RepD.get : ∀ {xs : List (κ × ν)} {kvs : List (List Key × V)} (k : κ), RepD ky π H xs kvs → match dGet xs k with | none => valV kvs (ky.enc k) = none | some x => ∃ v, valV kvs (ky.enc k) = some v ∧ π.rep x H v
  | _, _, k, .nil => rfl
  | _, _, k, .cons (k := k') (x := x) (v := v) r t => by
    by_cases h : k' = k
    · subst h
      have e : ∀ ys : List (κ × ν), dGet ((k', x) :: ys) k' = some x := fun ys => by simp [dGet]
      rw [e]
      exact ⟨v, valV_pos rfl, r⟩
    · have h' : ¬ ky.enc k' = ky.enc k := fun z => h (ky.inj _ _ z)
      have ih := RepD.get k t
      have e : ∀ ys : List (κ × ν), dGet ((k', x) :: ys) k = dGet ys k := fun ys => by simp [dGet, h]
      rw [e, valV_neg (p := (ky.enc k', v)) h']
      exact ih
theorem RepD.any : ∀ {xs : List (κ × ν)} {kvs : List (List Key × V)} (k : κ), RepD ky π H xs kvs → (kvs.any fun q => decide (q.1 = ky.enc k)) = xs.any fun q => decide (q.1 = k)
  | _, _, k, .nil => rfl
  | _, _, k, .cons (k := k') r t => by
    rw [List.any_cons, List.any_cons, RepD.any k t]
    show (decide (ky.enc k' = ky.enc k) || _) = _
    rw [ky.dec]
theorem RepD.map {x : ν} {v : V} (r : π.rep x H v) : ∀ {xs : List (κ × ν)} {kvs : List (List Key × V)} (k : κ), RepD ky π H xs kvs →
    RepD ky π H (xs.map fun q => if q.1 = k then (q.1, x) else q) (kvs.map fun q => if q.1 = ky.enc k then (q.1, v) else q)
  | _, _, k, .nil => .nil
  | _, _, k, .cons (k := k') (x := x') (v := v') r' t => by
    rw [List.map_cons, List.map_cons]
    by_cases h : k' = k
    · subst h
      simp only [if_pos]
      exact .cons r (RepD.map r k' t)
    · have h' : ¬ ky.enc k' = ky.enc k := fun z => h (ky.inj _ _ z)
      simp only [if_neg h, if_neg h']
      exact .cons r' (RepD.map r k t)
theorem RepD.snoc {k : κ} {x : ν} {v : V} (r : π.rep x H v) : ∀ {xs : List (κ × ν)} {kvs : List (List Key × V)}, RepD ky π H xs kvs → RepD ky π H (xs ++ [(k, x)]) (kvs ++ [(ky.enc k, v)])
  | _, _, .nil => .cons r .nil
  | _, _, .cons r' t => .cons r' (RepD.snoc r t)
theorem RepD.put {xs : List (κ × ν)} {kvs : List (List Key × V)} {k : κ} {x : ν} {v : V} (h : RepD ky π H xs kvs) (r : π.rep x H v) : RepD ky π H (dPut xs k x) (putK kvs (ky.enc k) v) := by
  unfold dPut putK
  rw [h.any k]
  by_cases z : (xs.any fun q => decide (q.1 = k)) = true
  · rw [if_pos z, if_pos z]
    exact h.map r k
  · rw [if_neg z, if_neg z]
    exact h.snoc r
end
abbrev oD {κ ν : Type} {ρ : Rp κ} (ky : Ky ρ) (π : Rp ν) (xs : List (κ × ν)) : ORp := ⟨fun F o => ∃ kvs, o = .dT kvs ∧ RepD ky π F xs kvs, fun e ⟨kvs, h, r⟩ => ⟨kvs, h, RepD.mono e r⟩, fun ⟨vs, h, _⟩ ws z => by rw [h] at z; cases z⟩
/-- a dict that is known: it is locked -/
def rD {κ ν : Type} {ρ : Rp κ} (ky : Ky ρ) (π : Rp ν) : Rp (List (κ × ν)) := ⟨fun xs F v => ∃ p kvs, v = .ref p ∧ (∃ od, F p = some (.frz od (.dT kvs))) ∧ RepD ky π F xs kvs, fun e ⟨p, kvs, h, ⟨od, q⟩, r⟩ => ⟨p, kvs, h, ⟨od, e p _ q⟩, RepD.mono e r⟩⟩

section
variable {X : Cx} {U : Wi} {Γ : List Sl} {a b c e : Expr} {es : List Expr} {A B sts rest : List Stmt} {pos : Pos} {α β γ κ ν τ ω ω' : Type} {ρ : Rp α} {π : Rp β} {I : ω → Kd} {I' : ω' → Kd} {n : Str}

theorem Cont.cut {o : ω} : ∀ {k : Kd}, (I o).cut = k → Cont X U rest I k (.ok o) := by
  intro k h
  cases hI : I o with
  | nx Γ =>
    rw [hI] at h
    subst h
    exact .no fun _ _ z => z
  | go Γ =>
    rw [hI] at h
    subst h
    exact .go hI Le.refl
  | bk Γ =>
    rw [hI] at h
    subst h
    exact .bk hI Le.refl
  | ct Γ =>
    rw [hI] at h
    subst h
    exact .ct hI Le.refl
  | rt p Γ =>
    rw [hI] at h
    subst h
    exact .rt hI
  | fn p Γ =>
    rw [hI] at h
    subst h
    exact .rtf hI
  | rf P Γ =>
    rw [hI] at h
    subst h
    exact .rf hI
/-! ### constants, displays -/
theorem x_globI {i : Int} (h : ∃ t, X.mg n = some (.int i t)) (hg : Gl X n := by rfl) (hd : (n == ("__debug__" : Str)) = false := by decide) : EX X U Γ (.Name n pos) rI (.ok i) := by
  obtain ⟨t, h⟩ := h
  exact x_glob (v := .int i) h ⟨t, rfl⟩ (fun _ => rfl) hg hd
theorem ln_nil : AX X U Γ [] (tn ρ 0) (.ok []) := a_nil fun _ => ⟨.nil, rfl⟩
theorem ln_cons {k : Nat} {m1 : R α} {m2 : R (List α)} (ha : EX X U Γ a ρ m1) (hb : AX X U Γ es (tn ρ k) m2) (hs : starEach (a :: es) X.env = (false, eval a X.env) :: starEach es X.env := by rfl) : AX X U Γ (a :: es) (tn ρ (k + 1)) (m1.bind fun x => m2.bind fun y => .ok (x :: y)) :=
  g_acons (t' := tn ρ (k + 1)) (val := fun z => z) (fun x y => x :: y) (fun x y F v vs (r : ρ.rep x F v) (q : (tn ρ k).rep y F vs) => ⟨.cons r q.1, congrArg (· + 1) q.2⟩) (fun _ _ => rfl) ha (fun _ => hb) hs
theorem f_listN {k : Nat} {m : R (List α)} (h : AX X U Γ es (tn ρ k) m) (hk : k ≤ 1000 := by decide) : FX X U Γ (.List es pos) (fun w => oLi (tl ρ) w) m :=
  ⟨fun en F σ H Q s q => (f_list (t := tn ρ k) h (fun w F vs r => sz r.2 hk)).out en F σ H Q s (wpR_mono q (fun w kk p o F' H' e1 s1 fr ⟨vs, e, r⟩ => kk p o F' H' e1 s1 fr ⟨vs, e, r.1⟩) fun _ z => z)⟩
theorem x_tupN {j k : Nat} {m : R (List α)} (h : AX X U Γ es (tn ρ k) m) (hk : k ≤ 1000 := by decide) : EX X U Γ (.Tuple es j pos) (rT ρ) m :=
  ⟨fun en F σ H Q s q => (x_tup (t := tn ρ k) h (fun w F vs r => sz r.2 hk)).out en F σ H Q s (wpR_mono q (fun w kk v F' H' e1 s1 ⟨p, vs, ev, hp, r⟩ => kk v F' H' e1 s1 ⟨p, vs, ev, hp, r.1⟩) fun _ z => z)⟩
theorem f_nil {ρ : Rp α} : FX X U Γ (.List [] pos) (fun w => oLi (tl ρ) w) (.ok []) := f_listN ln_nil
theorem x_tup0 {j : Nat} {ρ : Rp α} : EX X U Γ (.Tuple [] j pos) (rT ρ) (.ok []) := x_tupN ln_nil
/-- a comprehension without a test -/
theorem f_lcM {tg iter elt : Expr} {scope : Scope} {own : List (Str × Nat)} {m : R (List α)} {g : α → List Sl → List Sl} {f : α → R β} (hN : X.N.Nodup) (hi : IX X U Γ tg iter ρ m) (ok : BlkOk X.N X.env.scope scope own)
    (hg : ∀ (s : Shared) (H : Hp) (C : Addr) (cl : List (Str × Addr)) (fp : List Addr), GT (X.blk s H scope (compEnvC scope cl C X.env) fp) tg ρ (own.map (·.2)) g)
    (he : ∀ (s : Shared) (H : Hp) (C : Addr) (cl : List (Str × Addr)) (fp : List Addr) (x : α), EX (X.blk s H scope (compEnvC scope cl C X.env) fp) U0 (g x (wipeΓ Γ (own.map (·.2)))) elt π (f x))
    (hno : noOwn Γ (own.map (·.2)) = true := by rfl) (hc : X.calm = true := by rfl) (hs : ∀ x, foldedSetIterable iter X.env x = pure x := by intro _; rfl) :
    FX X U Γ (.ListComp elt [⟨tg, iter, [], 0⟩] scope pos) (fun ys => oLi (tl π) ys) (m.bind fun xs => (mapR f xs).bind fun ys => chk (ys.length ≤ sizeLine) ys) := by
  have h := f_lcF (pos := pos) (c := fun _ => .ok true) hN hi ok hg (fun _ _ _ _ _ _ => ts_nil) he hno hc hs
  simp only [fm_map] at h
  exact h
theorem p_setLcM {tg iter elt : Expr} {scope : Scope} {own : List (Str × Nat)} {py spos : Pos} {y : Str} {m : R (List α)} {g : α → List Sl → List Sl} {f : α → R β} {k : List β → R ω} (i : Nat) (hN : X.N.Nodup) (hi : IX X U Γ tg iter ρ m) (ok : BlkOk X.N X.env.scope scope own)
    (hg : ∀ (s : Shared) (H : Hp) (C : Addr) (cl : List (Str × Addr)) (fp : List Addr), GT (X.blk s H scope (compEnvC scope cl C X.env) fp) tg ρ (own.map (·.2)) g)
    (he : ∀ (s : Shared) (H : Hp) (C : Addr) (cl : List (Str × Addr)) (fp : List Addr) (x : α), EX (X.blk s H scope (compEnvC scope cl C X.env) fp) U0 (g x (wipeΓ Γ (own.map (·.2)))) elt π (f x))
    (hr : ∀ ys, SX X U (Γ.set i (.own none (oLi (tl π) ys))) rest I (k ys)) (hno : noOwn Γ (own.map (·.2)) = true := by rfl) (hy : X.N[i]? = some y := by rfl) (hyl : X.env.scope.names.lookup y = some .local := by rfl)
    (hsw : swapsWith (.ListComp elt [⟨tg, iter, [], 0⟩] scope pos) (some (.Name y py)) spos.line X.env = pure true := by exact sw_true rfl rfl rfl (by decide +kernel))
    (hc : X.calm = true := by rfl) (hs : ∀ x, foldedSetIterable iter X.env x = pure x := by intro _; rfl) :
    SX X U Γ (.Assign [.Name y py] (.ListComp elt [⟨tg, iter, [], 0⟩] scope pos) spos :: rest) I ((m.bind fun xs => (mapR f xs).bind fun ys => chk (ys.length ≤ sizeLine) ys).bind k) := by
  have h := p_setLc (pos := pos) (py := py) (spos := spos) (c := fun _ => .ok true) i hN hi ok hg (fun _ _ _ _ _ _ => ts_nil) he hno hr hy hyl hsw hc hs
  simp only [fm_map] at h
  exact h
/-! ### calls with defaults -/
/-! ### own lists read -/
theorem x_ixO {a0 : Option Addr} {xs : List α} {m : R Int} {p2 : Pos} (i : Nat) (hΓ : Γ[i]? = some (.own a0 (oLi (tl ρ) xs))) (hb : EX X U Γ b rI m) (hN : X.N[i]? = some n := by rfl) (hv : Vis X.env.scope n := by first | exact Or.inl rfl | exact Or.inr (Or.inl rfl) | exact Or.inr (Or.inr rfl))
    (hd : (n == ("__debug__" : Str)) = false := by decide) (hcd : (n == ("__classdict__" : Str)) = false := by decide) (hs : PlainIx b := by exact fun _ _ => rfl) : EX X U Γ (.Subscript (.Name n p2) b pos) ρ (m.bind fun y => ofOpt (atI xs y)) :=
  ⟨fun en F σ H Q s h => wE_of (pe_ix ix_list (pe_var hN hv hd hcd) wE_pe hs) (by
    obtain ⟨p, o, g1, g2, g3, ⟨vs, eo, rl⟩, g5, g6⟩ := s.own i _ _ hΓ
    refine ⟨.ref p, g1, hb.out en F σ H _ s (wpR_mono (wpR_bind h) (fun y q u F1 H1 e1 s1 ry => ?_) fun _ z => z)⟩
    obtain ⟨p1, o1, f1, f2, f3, ⟨ws, eo1, rl1⟩, f5, f6⟩ := s1.own i _ _ hΓ
    subst eo1
    rw [g1] at f1
    injection f1 with f1
    injection f1 with f1
    injection f1 with f1
    subst f1
    obtain ⟨x, hx, q⟩ := wpR_opt q
    obtain ⟨v, hv1, rv⟩ := atI_rep rl1 hx
    exact ⟨p, ws, y, v, rfl, ry, .inl (.inl f3), hv1, q v F1 H1 e1 s1 rv⟩)⟩
theorem x_lenO {a0 : Option Addr} {xs : List α} {p p2 : Pos} (i : Nat) (hΓ : Γ[i]? = some (.own a0 (oLi (tl ρ) xs))) (hm : X.mg "len" = none) (hN : X.N[i]? = some n := by rfl) (hv : Vis X.env.scope n := by first | exact Or.inl rfl | exact Or.inr (Or.inl rfl) | exact Or.inr (Or.inr rfl))
    (hd : (n == ("__debug__" : Str)) = false := by decide) (hcd : (n == ("__classdict__" : Str)) = false := by decide) (hg : Gl X "len" := by rfl)
    (he : starEach [.Name n p2] X.env = (false, eval (.Name n p2) X.env) :: starEach [] X.env := by rfl) (hpl : (backTo pos (starEach [] X.env)).any (·.1) = false := by rfl) :
    EX X U Γ (.Call (.Name "len" p) [.Name n p2] [] pos) rI (.ok (xs.length : Nat)) :=
  ⟨fun en F σ H Q s h => wE_of (pe_callB call_len hg hm boot_len (pa_cons (pe_var hN hv hd hcd) pa_nil he) (by decide) (by decide) he hpl) (by
    obtain ⟨p, o, g1, g2, g3, ⟨vs, eo, rl⟩, g5, g6⟩ := s.own i _ _ hΓ
    subst eo
    exact ⟨.ref p, g1, .ref p, xs.length, rfl, .inl ⟨vs, .inl (.inl g3), rl.length⟩, h _ F H (Same.refl F) s rfl⟩)⟩
/-- .. gives up a dict -/
theorem s_giveD {ρ : Rp κ} {ky : Ky ρ} {π : Rp ν} {x : List (κ × ν)} {m : R ω} {a0 : Option Addr} (i : Nat) (hΓ : Γ[i]? = some (.own a0 (oD ky π x))) (hr : SX X U (Γ.set i (im (rD ky π) x)) sts I m) : SX X U Γ sts I m :=
  ⟨fun en F σ H D s h => by
    obtain ⟨p, o, h1, h2, h3, h4, h5, h6⟩ := s.own i _ _ hΓ
    obtain ⟨vs, e, r⟩ := h4
    subst e
    refine wSs_lock h3 trivial fun od => ?_
    have hi : i < Γ.length := (List.getElem?_eq_some_iff.mp hΓ).1
    have s1 := s.mut (o' := .frz od (.dT vs)) (P' := ⟨fun _ o => o = .frz od (.dT vs), fun _ h => h, fun h ws z => by rw [h] at z; cases z⟩) hΓ h1 rfl
    have g := s1.give (List.getElem?_set_self hi) h1 upd_same
    rw [List.set_set] at g
    have sf : Same F (upd F p (.frz od (.dT vs))) := Same.upd h2
    have hl : i < σ.length := by
      by_cases z : i < σ.length
      · exact z
      · rw [List.getElem?_eq_none (by omega)] at h1
        cases h1
    have rr : (rD ky π).rep x (upd F p (.frz od (.dT vs))) (.ref p) := ⟨p, vs, rfl, ⟨od, upd_same⟩, RepD.mono sf r⟩
    have g2 := SA.put (i := i) (P := ⟨fun H v => (rD ky π).rep x H v, fun e h => (rD ky π).mono e h⟩) (v := .ref p) g rr
    rw [List.set_set] at g2
    have e2 : σ.set i (some (.ref p)) = σ := by
      apply List.ext_getElem?
      intro j
      by_cases ej : i = j
      · subst ej
        rw [List.getElem?_set_self hl, h1]
      · rw [List.getElem?_set_ne ej]
    rw [e2] at g2
    exact hr.out en _ σ _ D g2 (wpR_mono h (fun o z => z.up sf) fun _ z => z.up sf)⟩

/-! ### dicts -/
theorem f_dict {ρ : Rp κ} {ky : Ky ρ} {π : Rp ν} : FX X U Γ (.Dict [] [] pos) (fun _ : Unit => oD ky π []) (.ok ()) :=
  ⟨fun en F σ H Q s h => wE_of pe_dnewT fun p hp => h p (.dT []) F _ (Same.refl F) (s.lay hp).1 (s.lay hp).2 ⟨[], rfl, .nil⟩⟩
/-- where a dict is read: in a slot of one's own, or known -/
structure DG (X : Cx) (U : Wi) (Γ : List Sl) (e : Expr) {κ ν : Type} {ρ : Rp κ} (ky : Ky ρ) (π : Rp ν) (m : R (List (κ × ν))) : Prop where
  out : ∀ en F σ H Q, SA en Γ F σ H → wpR m (fun w => ∀ p kvs F' H', Same F F' → SA en Γ F' σ H' → Rd H' p (.dT kvs) → RepD ky π F' w kvs → (∀ F2 H2, Same F' F2 → SA en Γ F2 σ H2 → ∃ kvs, Rd H2 p (.dT kvs) ∧ RepD ky π F2 w kvs) → Q (.ref p) H') (U.ok X.mg en F) → wE X e σ H Q
theorem d_imm {ρ : Rp κ} {ky : Ky ρ} {π : Rp ν} {m : R (List (κ × ν))} (h : EX X U Γ e (rD ky π) m) : DG X U Γ e ky π m :=
  ⟨fun en F σ H Q s q => h.out en F σ H Q s (wpR_mono q (fun w k v F' H' e1 s1 ⟨p, kvs, ev, ⟨od, hp⟩, r⟩ => by
    subst ev
    exact k p kvs F' H' e1 s1 (.inr ⟨od, s1.sub p _ hp⟩) r fun F2 H2 e2 s2 => ⟨kvs, .inr ⟨od, s2.sub p _ (e2 p _ hp)⟩, RepD.mono e2 r⟩) fun _ z => z)⟩
theorem d_own {a0 : Option Addr} {ρ : Rp κ} {ky : Ky ρ} {π : Rp ν} {x : List (κ × ν)} (i : Nat) (hΓ : Γ[i]? = some (.own a0 (oD ky π x))) (hN : X.N[i]? = some n := by rfl) (hv : Vis X.env.scope n := by first | exact Or.inl rfl | exact Or.inr (Or.inl rfl) | exact Or.inr (Or.inr rfl))
    (hd : (n == ("__debug__" : Str)) = false := by decide) (hcd : (n == ("__classdict__" : Str)) = false := by decide) : DG X U Γ (.Name n pos) ky π (.ok x) :=
  ⟨fun en F σ H Q s q => wE_of (pe_var hN hv hd hcd) (by
    obtain ⟨p, o, g1, g2, g3, ⟨kvs, eo, r⟩, g5, g6⟩ := s.own i _ _ hΓ
    subst eo
    exact ⟨.ref p, g1, q p kvs F H (Same.refl F) s (.inl g3) r fun F2 H2 e2 s2 => by
      obtain ⟨p2, o2, f1, f2, f3, ⟨kvs2, eo2, r2⟩, f5, f6⟩ := s2.own i _ _ hΓ
      subst eo2
      rw [g1] at f1
      injection f1 with f1
      injection f1 with f1
      injection f1 with f1
      subst f1
      exact ⟨kvs2, .inl f3, r2⟩⟩)⟩
/-- a comparison by a rule of its own -/
structure CG (X : Cx) (U : Wi) (Γ : List Sl) (op : CmpOp) (a b : Expr) (m : R Bool) : Prop where
  out : ∃ t, PC X op a b t ∧ ∀ en F σ H Q, SA en Γ F σ H → wpR m (fun w => ∀ F' H', Same F F' → SA en Γ F' σ H' → Q (.bl w) H') (U.ok X.mg en F) → t σ H Q
theorem c_val {op : CmpOp} {m : R Bool} (h : CG X U Γ op a b m) (hm : behindInMarks op b = false := by first | exact nomark _ | rfl) : EX X U Γ (.Compare a [op] [b] pos) rB m := by
  obtain ⟨t, h1, h2⟩ := h.out
  exact ⟨fun en F σ H Q s q => wE_of (pe_cmp h1 hm) (h2 en F σ H Q s (wpR_mono q (fun w k F' H' e1 s1 => k _ F' H' e1 s1 rfl) fun _ z => z))⟩
theorem c_tst {op : CmpOp} {m : R Bool} (h : CG X U Γ op a b m) (hm : behindInMarks op b = false := by first | exact nomark _ | rfl) : BX X U Γ (.Compare a [op] [b] pos) m := by
  obtain ⟨t, h1, h2⟩ := h.out
  exact ⟨fun en F σ H Q s q => wT_of (pt_cmp h1 hm) (h2 en F σ H _ s (wpR_mono q (fun w k F' H' e1 s1 => ⟨w, rfl, k F' H' e1 s1⟩) fun _ z => z))⟩
theorem dget_ok [DecidableEq κ] {ρ : Rp κ} {ky : Ky ρ} {π : Rp ν} {x : List (κ × ν)} {kvs : List (List Key × V)} {k : κ} {v : V} {p : Addr} {F H : Hp} (hp : Rd H p (.dT kvs)) (r : RepD ky π F x kvs) (rk : ρ.rep k H v) :
    ∃ o, DGet H p v o ∧ o.isSome = (dGet x k).isSome ∧ ∀ y, dGet x k = some y → ∃ w, o = some w ∧ π.rep y F w := by
  obtain ⟨b, ev, hb⟩ := ky.rep k H v rk
  subst ev
  refine ⟨_, .inr ⟨kvs, _, b, hp, rfl, hb, rfl⟩, ?_, ?_⟩
  · have g := r.get k
    cases h : dGet x k with
    | none =>
      rw [h] at g
      rw [g] <;> rfl
    | some y =>
      rw [h] at g
      obtain ⟨w, hw, _⟩ := g
      rw [hw] <;> rfl
  · intro y h
    have g := r.get k
    rw [h] at g
    exact g
theorem c_in [DecidableEq κ] {ρ : Rp κ} {ky : Ky ρ} {π : Rp ν} {mk : R κ} {md : R (List (κ × ν))} (hu : X.A.units + 1 < cLine) (ha : EX X U Γ a ρ mk) (hd : DG X U Γ b ky π md) : CG X U Γ .In a b (mk.bind fun k => md.bind fun d => .ok (dGet d k).isSome) :=
  ⟨_, pc_din hu wE_pe wE_pe, fun en F σ H Q s h => ha.out en F σ H _ s (wpR_mono (wpR_bind h) (fun k q v F1 H1 e1 s1 r1 => hd.out en F1 σ H1 _ s1 (wpR_mono (wpR_bind q) (fun d q p kvs F2 H2 e2 s2 hp r2 _ => by
    obtain ⟨o, g1, g2, _⟩ := dget_ok hp r2 (ρ.mono (e2.trans s2.sub) r1)
    exact ⟨p, o, rfl, g1, by rw [g2]; exact q F2 H2 (e1.trans e2) s2⟩) fun _ z => z.up e1)) fun _ z => z)⟩
theorem c_nin [DecidableEq κ] {ρ : Rp κ} {ky : Ky ρ} {π : Rp ν} {mk : R κ} {md : R (List (κ × ν))} (hu : X.A.units + 1 < cLine) (ha : EX X U Γ a ρ mk) (hd : DG X U Γ b ky π md) : CG X U Γ .NotIn a b (mk.bind fun k => md.bind fun d => .ok !(dGet d k).isSome) :=
  ⟨_, pc_dnotin hu wE_pe wE_pe, fun en F σ H Q s h => ha.out en F σ H _ s (wpR_mono (wpR_bind h) (fun k q v F1 H1 e1 s1 r1 => hd.out en F1 σ H1 _ s1 (wpR_mono (wpR_bind q) (fun d q p kvs F2 H2 e2 s2 hp r2 _ => by
    obtain ⟨o, g1, g2, _⟩ := dget_ok hp r2 (ρ.mono (e2.trans s2.sub) r1)
    exact ⟨p, o, rfl, g1, by rw [g2]; exact q F2 H2 (e1.trans e2) s2⟩) fun _ z => z.up e1)) fun _ z => z)⟩
/-- d[k] = v, d in slot i -/
theorem s_dput [DecidableEq κ] {ρ : Rp κ} {ky : Ky ρ} {π : Rp ν} {x : List (κ × ν)} {mk : R κ} {mv : R ν} {k : ν → κ → R ω} {p p' : Pos} (i : Nat) (hu : X.A.units + 1 < cLine) (hv : EX X U Γ e π mv) (hk : EX X U Γ a ρ mk)
    (hr : ∀ v y, SX X U (Γ.set i (.own a0 (oD ky π (dPut x y v)))) rest I (k v y)) (hΓ : Γ[i]? = some (.own a0 (oD ky π x)) := by rfl) (hN : X.N[i]? = some n := by rfl) (hvi : Vis X.env.scope n := by first | exact Or.inl rfl | exact Or.inr (Or.inl rfl) | exact Or.inr (Or.inr rfl))
    (hd : (n == ("__debug__" : Str)) = false := by decide) (hcd : (n == ("__classdict__" : Str)) = false := by decide) (hs : swapsWith e (some (.Subscript (.Name n p) a p')) pos.line X.env = pure false := by rfl) :
    SX X U Γ (.Assign [.Subscript (.Name n p) a p'] e pos :: rest) I (mv.bind fun v => mk.bind fun y => (chk (x.length < sizeLine) ()).bind fun _ => k v y) :=
  ⟨fun en F σ H D s h => wSs_of (pss_cons (ps_dput hu (pe_var hN hvi hd hcd) wE_pe wE_pe hs) wSs_pss) (hv.out en F σ H _ s (wpR_mono (wpR_bind h) (fun v q w F1 H1 e1 s1 r1 => by
    obtain ⟨p, o, g1, g2, g3, ⟨kvs, eo, r⟩, g5, g6⟩ := s1.own i _ _ hΓ
    refine ⟨.ref p, g1, hk.out en F1 σ H1 _ s1 (wpR_mono (wpR_bind q) (fun y q u F2 H2 e2 s2 r2 => ?_) fun _ z => z.up e1)⟩
    obtain ⟨p2, o2, f1, f2, f3, ⟨kvs2, eo2, r3⟩, f5, f6⟩ := s2.own i _ _ hΓ
    subst eo2
    rw [g1] at f1
    injection f1 with f1
    injection f1 with f1
    injection f1 with f1
    subst f1
    obtain ⟨hl, q⟩ := wpR_chk (wpR_bind q)
    obtain ⟨b, eu, hb⟩ := ky.rep y H2 u (ρ.mono s2.sub r2)
    subst eu
    refine ⟨p, _, rfl, DPut.t f3 hb (by rw [← r3.length]; exact hl), ?_⟩
    exact (hr v y).out en F2 σ _ D (s2.mut hΓ g1 ⟨_, rfl, r3.put (π.mono e2 r1)⟩) (wpR_mono q (fun o z => z.up (e1.trans e2)) fun _ z => z.up (e1.trans e2))) fun _ z => z))⟩
end

/-! ### sorted(set(..)) of cells: see the part on sets -/
/-- the order of cells -/
def ltC (a b : Int × Int) : Bool := decide (a.1 < b.1 ∨ (a.1 = b.1 ∧ a.2 < b.2))
/-- put in its place, once -/
def insC (x : Int × Int) : List (Int × Int) → List (Int × Int)
  | [] => [x]
  | y :: r => if ltC x y = true then x :: y :: r else if x = y then y :: r else y :: insC x r
/-- the rising list of these cells -/
def rise (xs : List (Int × Int)) : List (Int × Int) := xs.foldr insC []
end Py

/-! Own layer, part S: sets of tuples of ints of any size below 9800, of a list or a tuple. The library's own rule ends at 64; here the table may have any power of two of slots. -/
namespace Py
open PySem PySem.Spec PyProof.Rows L2

/-! ### i -> 5 i + 1 meets every slot of a table of 2^k -/
def sN : Nat → Nat
  | 0 => 0
  | b + 1 => 5 * sN b + 1
theorem sN_add (a : Nat) : ∀ b, sN (a + b) = 5 ^ b * sN a + sN b
  | 0 => by simp [sN]
  | b + 1 => by
    show 5 * sN (a + b) + 1 = 5 ^ (b + 1) * sN a + (5 * sN b + 1)
    rw [sN_add a b, Nat.pow_succ, Nat.mul_add, Nat.mul_comm (5 ^ b) 5, Nat.mul_assoc, Nat.add_assoc]
theorem sN_four : ∀ a, 5 ^ a = 4 * sN a + 1
  | 0 => rfl
  | a + 1 => by
    rw [Nat.pow_succ, sN_four a]
    show (4 * sN a + 1) * 5 = 4 * (5 * sN a + 1) + 1
    omega
theorem sN_pow : ∀ k, ∃ q, sN (2 ^ k) = 2 ^ k * (2 * q + 1)
  | 0 => ⟨0, rfl⟩
  | k + 1 => by
    obtain ⟨q, e⟩ := sN_pow k
    have h : sN (2 ^ (k + 1)) = (2 * sN (2 ^ k)) * (2 * sN (2 ^ k) + 1) := by
      rw [Nat.pow_succ, Nat.mul_two, sN_add, sN_four]
      generalize sN (2 ^ k) = x
      rw [Nat.mul_add, Nat.add_mul, Nat.mul_one, Nat.one_mul, show 2 * x * (2 * x) = 4 * x * x by rw [← Nat.mul_assoc, Nat.mul_comm (2 * x) 2, ← Nat.mul_assoc]]
      omega
    refine ⟨2 * (2 ^ k * (2 * q + 1)) * q + 2 ^ k * (2 * q + 1) + q, ?_⟩
    rw [h, e]
    generalize hr : 2 ^ k * (2 * q + 1) = r
    have e1 : 2 * r = 2 ^ (k + 1) * (2 * q + 1) := by rw [← hr, Nat.pow_succ, Nat.mul_comm (2 ^ k) 2, Nat.mul_assoc]
    rw [e1, Nat.mul_assoc]
    congr 1
    rw [← e1, Nat.mul_add, Nat.mul_one, Nat.add_mul, Nat.one_mul]
    have e2 : 2 * q * (2 * r) = 2 * (2 * r * q) := by rw [Nat.mul_comm (2 * q), Nat.mul_left_comm]
    omega
theorem mod_two {M y j : Nat} (h : j < M) : (M * y + j) % (2 * M) = M * (y % 2) + j := by
  have e : M * y + j = (2 * M) * (y / 2) + (M * (y % 2) + j) := by
    have d := Nat.div_add_mod y 2
    have e1 : M * y = M * (2 * (y / 2)) + M * (y % 2) := by rw [← Nat.mul_add, d]
    rw [e1, show M * (2 * (y / 2)) = 2 * M * (y / 2) by rw [Nat.mul_comm 2 M, Nat.mul_assoc], Nat.add_assoc]
  rw [e, Nat.mul_add_mod]
  refine Nat.mod_eq_of_lt ?_
  have z : y % 2 < 2 := Nat.mod_lt _ (by decide)
  rcases (show y % 2 = 0 ∨ y % 2 = 1 by omega) with q | q <;> rw [q] <;> omega
theorem sN_hit : ∀ k j, j < 2 ^ k → ∃ b, b < 2 ^ k ∧ sN b % 2 ^ k = j
  | 0, j, h => ⟨0, Nat.one_pos, by
    have : j = 0 := Nat.lt_one_iff.mp h
    rw [this] <;> rfl⟩
  | k + 1, j, h => by
    have M0 : 0 < 2 ^ k := Nat.pow_pos (by decide)
    obtain ⟨b, hb, e⟩ := sN_hit k (j % 2 ^ k) (Nat.mod_lt _ M0)
    obtain ⟨q, eq⟩ := sN_pow k
    have hp : 2 ^ (k + 1) = 2 * 2 ^ k := by rw [Nat.pow_succ, Nat.mul_comm]
    rw [hp] at h ⊢
    generalize hM : 2 ^ k = M at *
    have jlt : j % M < M := Nat.mod_lt _ M0
    have ej : j = M * (j / M) + j % M := (Nat.div_add_mod j M).symm
    have jd : j / M < 2 := Nat.div_lt_of_lt_mul (by rw [Nat.mul_comm]; exact h)
    have ex : sN b = M * (sN b / M) + j % M := by
      have z := Nat.div_add_mod (sN b) M
      rw [e] at z
      exact z.symm
    by_cases c : (sN b / M) % 2 = j / M
    · refine ⟨b, by omega, ?_⟩
      rw [ex, mod_two jlt, c, ← ej]
    · refine ⟨M + b, by omega, ?_⟩
      have odd : sN (M + b) = M * ((4 * sN b + 1) * (2 * q + 1) + sN b / M) + j % M := by
        rw [sN_add, sN_four, eq, Nat.mul_left_comm, Nat.mul_add M, Nat.add_assoc, ← ex]
      rw [odd, mod_two jlt]
      have o2 : ((4 * sN b + 1) * (2 * q + 1) + sN b / M) % 2 = j / M := by
        have o1 : ((4 * sN b + 1) * (2 * q + 1)) % 2 = 1 := by
          rw [Nat.mul_mod]
          have a1 : (4 * sN b + 1) % 2 = 1 := by omega
          have a2 : (2 * q + 1) % 2 = 1 := by omega
          rw [a1, a2]
        generalize (4 * sN b + 1) * (2 * q + 1) = u at o1 ⊢
        generalize sN b / M = v at c ⊢
        generalize j / M = y at c jd ⊢
        omega
      rw [o2, ← ej]
theorem lcg_sN (m : Nat) : ∀ b, lcgN m b = sN b % (m + 1)
  | 0 => rfl
  | b + 1 => by
    show (lcgN m b * 5 + 1) % (m + 1) = (5 * sN b + 1) % (m + 1)
    rw [lcg_sN m b, Nat.mul_comm, Nat.add_mod, Nat.mul_mod, Nat.mod_mod, ← Nat.mul_mod, ← Nat.add_mod]
/-- the masks of tables of up to 32768 slots -/
def MB (m : Nat) : Prop := ∃ k, (k = 3 ∨ k = 5 ∨ k = 7 ∨ k = 9 ∨ k = 11 ∨ k = 13 ∨ k = 15) ∧ m + 1 = 2 ^ k
theorem MB.le {m : Nat} (h : MB m) : 7 ≤ m ∧ m ≤ 32767 ∧ m % 2 = 1 := by
  obtain ⟨k, c, e⟩ := h
  rcases c with c | c | c | c | c | c | c <;> subst c <;> simp at e <;> omega
theorem MB.cases {m : Nat} (h : MB m) : m = 7 ∨ m = 31 ∨ m = 127 ∨ m = 511 ∨ m = 2047 ∨ m = 8191 ∨ m = 32767 := by
  obtain ⟨k, c, e⟩ := h
  rcases c with c | c | c | c | c | c | c <;> subst c <;> simp at e <;> omega
theorem mb31 : MB 31 := ⟨5, by decide, rfl⟩
theorem mb127 : MB 127 := ⟨7, by decide, rfl⟩
theorem mb511 : MB 511 := ⟨9, by decide, rfl⟩
theorem mb2047 : MB 2047 := ⟨11, by decide, rfl⟩
theorem mb8191 : MB 8191 := ⟨13, by decide, rfl⟩
theorem mb32767 : MB 32767 := ⟨15, by decide, rfl⟩
/-- a table that becomes too full is made four times as large -/
theorem grows {m n : Nat} (h : MB m) (h1 : m * 3 ≤ (n + 1) * 5) (h2 : n * 5 < m * 3) (h3 : n < 9800) : ∃ M, SetTable.sizeAbove (SetTable.grown (n + 1)) = M + 1 ∧ MB M ∧ (n + 1) * 5 < M * 3 := by
  rcases h.cases with e | e | e | e | e | e | e <;> subst e
  · obtain rfl : n = 4 := by omega
    exact ⟨31, by decide +kernel, mb31, by decide⟩
  · obtain rfl : n = 18 := by omega
    exact ⟨127, by decide +kernel, mb127, by decide⟩
  · obtain rfl : n = 76 := by omega
    exact ⟨511, by decide +kernel, mb511, by decide⟩
  · obtain rfl : n = 306 := by omega
    exact ⟨2047, by decide +kernel, mb2047, by decide⟩
  · obtain rfl : n = 1228 := by omega
    exact ⟨8191, by decide +kernel, mb8191, by decide⟩
  · obtain rfl : n = 4914 := by omega
    exact ⟨32767, by decide +kernel, mb32767, by decide⟩
  · omega
theorem lcg_turn {m : Nat} (hm : MB m) (b : Nat) : lcgN m (m + 1 + b) = lcgN m b := by
  obtain ⟨k, _, e⟩ := hm
  obtain ⟨q, eq⟩ := sN_pow k
  rw [lcg_sN, lcg_sN, sN_add, e, eq, Nat.mul_left_comm, Nat.mul_add_mod]
theorem lcg_meets {m i j : Nat} (hm : MB m) (hi : i ≤ m) (hj : j ≤ m) : ∃ n, n ≤ m ∧ lcgI m i n = j := by
  have hm' := hm
  obtain ⟨k, _, e⟩ := hm
  obtain ⟨a, ha, ea⟩ := sN_hit k i (by omega)
  obtain ⟨b, hb, eb⟩ := sN_hit k j (by omega)
  rw [← e] at ha ea hb eb
  rw [← lcg_sN] at ea eb
  subst ea
  by_cases c : a ≤ b
  · exact ⟨b - a, by omega, by rw [lcgN_add, Nat.add_sub_cancel' c, eb]⟩
  · exact ⟨b + (m + 1) - a, by omega, by rw [lcgN_add, show a + (b + (m + 1) - a) = m + 1 + b by omega, lcg_turn hm', eb]⟩
theorem slot_run {m j : Nat} (hm : MB m) (h : Int) (hj : j ≤ m) : ∃ n, n ≤ m + 12 ∧ runI m (SetTable.bits h) n = j := by
  obtain ⟨n, hn, e⟩ := lcg_meets hm (runI_le m (SetTable.bits h) 12) hj
  exact ⟨12 + n, Nat.add_comm m 12 ▸ Nat.add_le_add_left hn 12, (runI_tail (bits_lt h) n).trans e⟩
theorem way_in (m : Nat) (h : Int) (k : Nat) : way m h k ≤ m := by
  have i0 : SetTable.bits h % (m + 1) ≤ m := Nat.le_of_lt_succ (Nat.mod_lt _ (Nat.succ_pos _))
  have z : (runAt m (SetTable.bits h % (m + 1)) (SetTable.bits h)).j + (runAt m (SetTable.bits h % (m + 1)) (SetTable.bits h)).more ≤ m := by
    have r := runEnd_bd i0
    simp only [runAt]
    omega
  have q := nth_in k _ z
  exact Nat.le_trans (Nat.le_add_right _ _) q
theorem way_meets {m j : Nat} (hm : MB m) (h : Int) (hj : j ≤ m) : ∃ k, k < 10 * SetTable.turns m ∧ way m h k = j := by
  obtain ⟨n, hn, e⟩ := slot_run hm h hj
  obtain ⟨k, hk, e2⟩ := run_nth m (SetTable.bits h) n
  exact ⟨k, by simp only [SetTable.turns]; omega, (congrArg SetTable.Probe.j e2).trans e⟩
theorem lcg_inj {m a b : Nat} (hm : MB m) (ha : a ≤ m) (hb : b ≤ m) (e : lcgN m a = lcgN m b) : a = b := by
  obtain ⟨k, _, em⟩ := hm
  have pl : ((List.range (m + 1)).map (lcgN m)).Perm (List.range (m + 1)) := perm_range (m + 1) _ (by simp) fun j hj => by
    obtain ⟨x, hx, ex⟩ := sN_hit k j (by omega)
    exact List.mem_map.mpr ⟨x, List.mem_range.mpr (by omega), by rw [lcg_sN, em, ex]⟩
  have nd : ((List.range (m + 1)).map (lcgN m)).Nodup := pl.nodup_iff.mpr List.nodup_range
  have pw : ∀ x y, x < y → y ≤ m → lcgN m x ≠ lcgN m y := fun x y h1 h2 => by
    have z := List.pairwise_iff_getElem.mp nd x y (by simp; omega) (by simp; omega) h1
    simpa using z
  rcases Nat.lt_trichotomy a b with c | c | c
  · exact absurd e (pw a b c hb)
  · exact c
  · exact absurd e.symm (pw b a c ha)
theorem lcg_off {m i x y : Nat} (hm : MB m) (hi : i ≤ m) (hx : x ≤ m) (hy : y ≤ m) (e : lcgI m i x = lcgI m i y) : x = y := by
  have hm' := hm
  obtain ⟨k, _, em⟩ := hm
  obtain ⟨a, ha, ea⟩ := sN_hit k i (by omega)
  rw [← em] at ha ea
  rw [← lcg_sN] at ea
  subst ea
  rw [lcgN_add, lcgN_add] at e
  have r : ∀ z, z ≤ m → ∃ w, w ≤ m ∧ lcgN m (a + z) = lcgN m w ∧ (w = a + z ∨ w + (m + 1) = a + z) := fun z hz => by
    by_cases c : a + z ≤ m
    · exact ⟨a + z, c, rfl, .inl rfl⟩
    · refine ⟨a + z - (m + 1), by omega, ?_, .inr (by omega)⟩
      have t := lcg_turn hm' (a + z - (m + 1))
      rw [show m + 1 + (a + z - (m + 1)) = a + z by omega] at t
      exact t
  obtain ⟨u, u1, u2, u3⟩ := r x hx
  obtain ⟨v, v1, v2, v3⟩ := r y hy
  have := lcg_inj hm' u1 v1 (by rw [← u2, ← v2, e])
  omega
/-- few slots taken: few steps -/
theorem few_steps {m K : Nat} (hm : MB m) (h : Int) {ps : List Nat} (hl : ps.length ≤ m) (full : ∀ k, k < K → way m h k ∈ ps) : K ≤ 10 * (12 + ps.length) := by
  refine Classical.byContradiction fun no => ?_
  have i12 := runI_le m (SetTable.bits h) 12
  have nd : ((List.range (ps.length + 1)).map fun n => runI m (SetTable.bits h) (12 + n)).Nodup := by
    rw [List.Nodup, List.pairwise_map, List.pairwise_iff_getElem]
    intro x y hx hy lt z
    simp only [List.length_range] at hx hy
    rw [List.getElem_range, List.getElem_range, runI_tail (bits_lt h), runI_tail (bits_lt h)] at z
    have := lcg_off hm i12 (by omega) (by omega) z
    omega
  have z := nat_nodup_len _ ps nd fun x hx => by
    obtain ⟨n, hn, rfl⟩ := List.mem_map.mp hx
    have hn := List.mem_range.mp hn
    obtain ⟨k, hk, e2⟩ := run_nth m (SetTable.bits h) (12 + n)
    have w : way m h k = runI m (SetTable.bits h) (12 + n) := congrArg SetTable.Probe.j e2
    rw [← w]
    exact full k (by omega)
  rw [List.length_map, List.length_range] at z
  omega

/-! ### a table in which each hash finds its slot again -/
structure TB (t : SetTable) (hs : List Int) : Prop where
  up : Ris t.place.toList
  nod : t.dummies = #[]
  len : t.place.size = hs.length
  msk : MB t.mask
  low : ∀ x ∈ t.place.toList, x ≤ t.mask
  met : ∀ (i : Nat) (h : Int) (j : Nat), hs[i]? = some h → t.place.toList[i]? = some j → ∃ k, way t.mask h k = j ∧ ∀ n, n < k → way t.mask h n ∈ t.place.toList
/-- the way of h ends at step K, the first that is free -/
structure Ends (t : SetTable) (h : Int) (K : Nat) : Prop where
  free : way t.mask h K ∉ t.place.toList
  full : ∀ k, k < K → way t.mask h k ∈ t.place.toList
theorem TB.ends {t : SetTable} {hs : List Int} (T : TB t hs) (hl : hs.length ≤ t.mask) (h : Int) : ∃ K, K < 10 * SetTable.turns t.mask ∧ Ends t h K := by
  obtain ⟨j, j1, j2⟩ := st_missing t.place.toList (t.mask + 1) (by rw [Array.length_toList, T.len]; omega)
  obtain ⟨k, k1, rfl⟩ := way_meets T.msk h (Nat.le_of_lt_succ j1)
  obtain ⟨K, a, b, c⟩ := st_least (p := fun k => way t.mask h k ∉ t.place.toList) k j2
  exact ⟨K, Nat.lt_of_le_of_lt a k1, b, fun n hn => Classical.byContradiction fun z => c n hn z⟩
theorem TB.ahead {t : SetTable} {hs : List Int} (T : TB t hs) {h : Int} {K i j : Nat} (e : Ends t h K) (hi : hs[i]? = some h) (hj : t.place.toList[i]? = some j) : ∃ k, k < K ∧ way t.mask h k = j := by
  obtain ⟨k, rfl, q⟩ := T.met i h j hi hj
  refine ⟨k, Classical.byContradiction fun z => ?_, rfl⟩
  rcases Nat.lt_or_eq_of_le (Nat.not_lt.mp z) with c | c
  · exact e.free (q K c)
  · exact e.free (c ▸ List.mem_of_getElem? hj)
/-- where in a row of slots j would stand -/
abbrev bel (t : SetTable) (j : Nat) : Nat := SetTable.below t.place j
structure PutOk (t : SetTable) (hs : List Int) (h : Int) (j : Nat) : Prop where
  at_ : (t.put j).2 = bel t j
  le : bel t j ≤ hs.length
  tab : TB (t.put j).1 (hs.take (bel t j) ++ h :: hs.drop (bel t j))
  msk : (t.put j).1.mask = t.mask
  led : (t.put j).1.led = t.led
  pla : (t.put j).1.plain = t.plain
  fil : (t.put j).1.fill = hs.length + 1
theorem TB.put {t : SetTable} {hs : List Int} (T : TB t hs) {h : Int} {K : Nat} (e : Ends t h K) : PutOk t hs h (way t.mask h K) := by
  have jm := way_in t.mask h K
  generalize ej : way t.mask h K = j at jm
  have free : j ∉ t.place.toList := ej ▸ e.free
  have cut := (below_cut T.up j).1
  have l1 : bel t j ≤ t.place.toList.length := by rw [Array.length_toList]; exact cut
  have l2 : bel t j ≤ hs.length := T.len ▸ cut
  have len : t.place.toList.length = hs.length := (Array.length_toList).trans T.len
  have pl := put_place t j
  have size : (t.put j).1.place.size = hs.length + 1 := by
    have z := congrArg List.length pl
    rw [len_ins _ l1, len, Array.length_toList] at z
    exact z
  have keep : ∀ x, x ∈ t.place.toList → x ∈ (t.put j).1.place.toList := fun x hx => pl ▸ mem_ins.2 (.inr hx)
  refine ⟨rfl, l2, ⟨ris_insert T.up fun z => free (List.mem_of_getElem? ((Array.getElem?_toList ..).trans z)), put_dm T.nod j, size.trans (len_ins _ l2 h).symm, T.msk, ?_, ?_⟩, rfl, rfl, rfl, ?_⟩
  · intro x hx
    rw [pl] at hx
    exact (mem_ins.1 hx).elim (fun z => z ▸ jm) (T.low x)
  · intro i g y g1 g2
    rw [tins_get hs l2] at g1
    rw [pl, tins_get _ l1] at g2
    have old : ∀ i', hs[i']? = some g → t.place.toList[i']? = some y → ∃ k, way t.mask g k = y ∧ ∀ n, n < k → way t.mask g n ∈ (t.put j).1.place.toList := fun i' a b => by
      obtain ⟨k, c, d⟩ := T.met i' g y a b
      exact ⟨k, c, fun n hn => keep _ (d n hn)⟩
    split at g1 <;> rename_i c
    · rw [if_pos c] at g2
      exact old i g1 g2
    · rw [if_neg c] at g2
      split at g1 <;> rename_i d
      · rw [if_pos d] at g2
        cases g1
        cases g2
        exact ⟨K, ej, fun n hn => keep _ (e.full n hn)⟩
      · rw [if_neg d] at g2
        exact old (i - 1) g1 g2
  · show (t.put j).1.place.size + (t.put j).1.dummies.size = _
    rw [put_dm T.nod j, size]
    rfl

/-! ### the table laid anew -/
theorem free_way {m j : Nat} (hm : MB m) (owner : Array (Option Nat)) (h : Int) (hj : j ≤ m) (hf : oAt owner j = none) :
    ∃ K, SetTable.layClean.free m owner (SetTable.turns m) (SetTable.bits h % (m + 1)) (SetTable.bits h) = some (way m h K) ∧ oAt owner (way m h K) = none ∧ ∀ k, k < K → oAt owner (way m h k) ≠ none := by
  obtain ⟨n, n1, rfl⟩ := slot_run hm h hj
  have e : way m h (off m (SetTable.bits h % (m + 1)) (SetTable.bits h) n) = runI m (SetTable.bits h) n := by
    show (nth m _ _).j = _
    rw [nth_off, itL_run]
    rfl
  obtain ⟨K, a, b, c⟩ := st_least (p := fun k => oAt owner (way m h k) = none) _ (e ▸ hf : oAt owner (way m h (off m (SetTable.bits h % (m + 1)) (SetTable.bits h) n)) = none)
  refine ⟨K, free_spec m owner (SetTable.turns m) n _ _ K (by simp only [SetTable.turns]; omega) a (fun k hk => ?_) ?_, b, c⟩
  · have z := c k hk
    cases y : oAt owner (way m h k) with
    | none => exact absurd y z
    | some v => rfl
  · exact (congrArg Option.isNone b : _)
theorem own_step {m : Nat} (hm : MB m) {done : List Int} {owner : Array (Option Nat)} (W : Own m done owner) (hl : done.length ≤ m) (h : Int) :
    ∃ j, SetTable.layClean.free m owner (SetTable.turns m) (SetTable.bits h % (m + 1)) (SetTable.bits h) = some j ∧ Own m (done ++ [h]) (owner.setIfInBounds j (some done.length)) := by
  obtain ⟨ps, p1, p2⟩ := W.ps
  obtain ⟨i, i1, i2⟩ := st_missing ps (m + 1) (p1 ▸ Nat.lt_succ_of_le hl)
  have hi : oAt owner i = none := Classical.byContradiction fun z => i2 (p2 i (Nat.le_of_lt_succ i1) z)
  obtain ⟨K, a, b, c⟩ := free_way hm owner h (Nat.le_of_lt_succ i1) hi
  have jm := way_in m h K
  refine ⟨_, a, ?_⟩
  generalize ej : way m h K = j at b jm
  have new : oAt (owner.setIfInBounds j (some done.length)) j = some done.length := oAt_set_self _ (by rw [W.sz]; omega)
  have old : ∀ x, x ≠ j → oAt (owner.setIfInBounds j (some done.length)) x = oAt owner x := fun x hx => oAt_set_ne _ hx
  have still : ∀ x, oAt owner x ≠ none → oAt (owner.setIfInBounds j (some done.length)) x ≠ none := fun x hx => by
    rw [old x fun z => hx (z ▸ b)]
    exact hx
  constructor
  · simpa using W.sz
  · intro x k hx e
    by_cases q : x = j
    · subst q
      rw [new] at e
      cases e
      exact ⟨h, K, by simp, ej, fun n hn => still _ (c n hn)⟩
    · rw [old x q] at e
      obtain ⟨g, G, g1, g2, g3⟩ := W.at_ x k hx e
      exact ⟨g, G, by rw [List.getElem?_append_left (List.getElem?_eq_some_iff.mp g1).1, g1], g2, fun n hn => still _ (g3 n hn)⟩
  · intro k hk
    rcases Nat.lt_or_ge k done.length with q | q
    · obtain ⟨x, x1, x2⟩ := W.all k q
      exact ⟨x, x1, by rw [old x fun z => (by rw [z, b] at x2; cases x2)]; exact x2⟩
    · simp at hk
      exact ⟨j, jm, by rw [new, show k = done.length by omega]⟩
  · refine ⟨j :: ps, by simp [p1], fun x hx e => ?_⟩
    by_cases q : x = j
    · exact q ▸ List.mem_cons_self
    · rw [old x q] at e
      exact List.mem_cons_of_mem _ (p2 x hx e)
theorem own_fold {m : Nat} (hm : MB m) : ∀ (rest done : List Int) (owner : Array (Option Nat)), Own m done owner → done.length + rest.length ≤ m →
    ∃ o2, rest.foldl (stepF m) (some (owner, done.length)) = some (o2, done.length + rest.length) ∧ Own m (done ++ rest) o2
  | [], done, owner, W, _ => ⟨owner, rfl, (List.append_nil done).symm ▸ W⟩
  | h :: rest, done, owner, W, hl => by
    simp only [List.length_cons] at hl ⊢
    obtain ⟨j, a, W2⟩ := own_step hm W (by omega) h
    have z := own_fold hm rest _ _ W2 (by simp; omega)
    obtain ⟨o2, b, c⟩ := z
    simp only [List.length_append, List.length_cons, List.length_nil, Nat.zero_add, List.append_assoc, List.cons_append, List.nil_append] at b c
    refine ⟨o2, ?_, c⟩
    rw [List.foldl_cons, stepF_some a, b, show done.length + 1 + rest.length = done.length + (rest.length + 1) by omega]
theorem own_clean {m : Nat} (hm : MB m) {hs : Array Int} (hn : hs.size ≤ m) : ∃ owner, SetTable.layClean m hs = some owner ∧ Own m hs.toList owner := by
  obtain ⟨o, a, b⟩ := own_fold hm hs.toList [] _ (Own.init m) (by simpa using hn)
  refine ⟨o, ?_, b⟩
  rw [layClean_eq]
  exact congrArg (Option.map Prod.fst) a
structure Relaid (t : SetTable) (hs : Array Int) (wanted M : Nat) (t2 : SetTable) (ord : Array Nat) : Prop where
  eq : t.relaid hs wanted = some (t2, ord)
  perm : ord.toList.Perm (List.range hs.size)
  tab : TB t2 (ord.toList.map fun i => hs.getD i 0)
  msk : t2.mask = M
  led : t2.led = t.led
  pla : t2.plain = t.plain
theorem relaid_tb (t : SetTable) {hs : Array Int} {wanted M : Nat} (hw : SetTable.sizeAbove wanted - 1 = M) (hM : MB M) (hn : hs.size ≤ M) : ∃ t2 ord, Relaid t hs wanted M t2 ord := by
  obtain ⟨owner, a, W⟩ := own_clean hM hn
  have ris := ris_live (fun j => owner.getD j none) (List.range (M + 1)) (show List.Pairwise _ _ from List.pairwise_lt_range)
  have r1 : Ris ((liveOf M owner).map Prod.fst) := ris.1
  have nd : ((liveOf M owner).map Prod.fst).Nodup := r1.imp Nat.ne_of_lt
  have inl : ∀ j k, (j, k) ∈ liveOf M owner ↔ j ≤ M ∧ oAt owner j = some k := fun j k => mem_live W.sz
  have all2 : ∀ k, k < hs.size → k ∈ (liveOf M owner).map Prod.snd := fun k hk => by
    obtain ⟨j, j1, j2⟩ := W.all k (by simpa using hk)
    exact List.mem_map.mpr ⟨_, (inl j k).2 ⟨j1, j2⟩, rfl⟩
  have len : (liveOf M owner).length = hs.size := by
    obtain ⟨ps, p1, p2⟩ := W.ps
    have u := nat_nodup_len _ ps nd fun x hx => by
      obtain ⟨⟨y, k⟩, q, rfl⟩ := List.mem_map.mp hx
      have z := (inl y k).1 q
      exact p2 y z.1 (by rw [z.2]; exact fun h => nomatch h)
    have v := nat_nodup_len (List.range hs.size) _ List.nodup_range fun k hk => all2 k (List.mem_range.mp hk)
    simp only [List.length_map, List.length_range] at u v
    have e : hs.toList.length = hs.size := Array.length_toList
    omega
  refine ⟨tabOf t M owner, ((liveOf M owner).map Prod.snd).toArray, ?_, ?_, ⟨r1, rfl, ?_, hM, ?_, ?_⟩, rfl, rfl, rfl⟩
  · rw [relaid_eq, hw, a]
    rfl
  · exact perm_range hs.size _ (by rw [List.length_map, len]) all2
  · simp [tabOf]
  · intro x hx
    exact Nat.le_of_lt_succ (List.mem_range.mp (ris.2 x hx))
  · intro i h j g1 g2
    change (((liveOf M owner).map Prod.snd).map fun i => hs.getD i 0)[i]? = some h at g1
    change ((liveOf M owner).map Prod.fst)[i]? = some j at g2
    rw [List.getElem?_map, List.getElem?_map] at g1
    rw [List.getElem?_map] at g2
    cases q : (liveOf M owner)[i]? with
    | none => rw [q] at g2; cases g2
    | some y =>
      obtain ⟨y, k⟩ := y
      rw [q] at g1 g2
      cases g2
      have z := (inl y k).1 (List.mem_of_getElem? q)
      obtain ⟨g, G, w1, w2, w3⟩ := W.at_ y k z.1 z.2
      have eg : hs.getD k 0 = g := by
        have : hs[k]? = some g := by rw [← Array.getElem?_toList]; exact w1
        simp [Array.getD_eq_getD_getElem?, this]
      have eh : g = h := eg.symm.trans (Option.some.inj g1)
      subst eh
      refine ⟨G, w2, fun n hn => ?_⟩
      cases v : oAt owner (way M g n) with
      | none => exact absurd v (w3 n hn)
      | some k2 => exact List.mem_map.mpr ⟨(_, k2), (inl _ _).2 ⟨way_in M g n, v⟩, rfl⟩

/-! ### the set -/
section
variable {P : Program} {w : World} {A : Around} {E : Value → Shared → Prop} {s : Shared}
/-- at a stands the set of the rows L -/
structure SB (P : Program) (w : World) (h : Heap) (a : Addr) (L : List (Addr × List Int)) (es : Array (Int × Value)) (ep : Nat) (t : SetTable) : Prop where
  obj : ∃ o, h.get? a = some o ∧ o.ExactSet ∧ o.data = .set es ep t
  row : es.toList = rowsOf P w L
  tab : TB t (L.map fun p => thash P w p.2)
  dif : (L.map Prod.snd).Nodup
  tup : ∀ p ∈ L, L2.IsT P w h p.2 p.1
  pla : t.plain = true
  led : w.params.followText "set-order" = true ∨ t.led = true
  gap : L.length * 5 < t.mask * 3
  few : L.length ≤ 9800
variable {a : Addr} {L : List (Addr × List Int)} {es : Array (Int × Value)} {ep : Nat} {t : SetTable}
theorem SB.size (R : SB P w s.heap a L es ep t) : es.size = L.length := by
  rw [← Array.length_toList, R.row]
  simp [rowsOf]
theorem SB.fits (R : SB P w s.heap a L es ep t) : t.fits es.size = true := by
  have q1 := R.tab.len
  have q2 := R.gap
  have q3 := R.size
  simp only [List.length_map] at q1
  simp only [SetTable.fits, SetTable.fill, R.tab.nod, Bool.and_eq_true, beq_iff_eq, decide_eq_true_eq]
  constructor
  · exact q1.trans q3.symm
  · show t.place.size + 0 ≤ t.mask
    omega
theorem SB.at_ (R : SB P w s.heap a L es ep t) {i : Nat} {p : Addr × List Int} (h : L[i]? = some p) : es[i]? = some (thash P w p.2, Value.ref p.1) := by
  have z : es.toList[i]? = some (thash P w p.2, Value.ref p.1) := by rw [R.row, rowsOf, List.getElem?_map, h]; rfl
  exact (Array.getElem?_toList ..).symm.trans z
theorem SB.goes (R : SB P w s.heap a L es ep t) : t.gaveWay = true → False := by
  simp only [SetTable.gaveWay, R.tab.msk.le.2.2]
  decide
abbrev prb (m : Nat) (h : Int) (c : Nat) : SetTable.Probe := nth m (runAt m (SetTable.bits h % (m + 1)) (SetTable.bits h)) c
theorem prb_add (m : Nat) (h : Int) (c n : Nat) : nth m (prb m h c) n = prb m h (c + n) := (nth_add m c _ n).symm
theorem nth_dummy (m : Nat) : ∀ (n : Nat) (p : SetTable.Probe), p.dummy = none → (nth m p n).dummy = none
  | 0, _, h => h
  | n + 1, p, h => nth_dummy m n (adv m p) (by unfold adv; split <;> exact h)
/-- looking for k from step c of its way on -/
theorem look (R : SB P w s.heap a L es ep t) {x : Addr} {k : List Int} {h : Int} (eh : h = thash P w k) (hx : L2.IsT P w s.heap k x) (hu : A.units < cLine) {K : Nat} (hK : K < 10 * SetTable.turns t.mask) (en : Ends t h K) {Q : SetFound → Shared → Prop}
    (yes : k ∈ L.map Prod.snd → Q (.there none) s) (no : k ∉ L.map Prod.snd → Q (.free (way t.mask h K) false) s) :
    ∀ (f c : Nat) (from_ : Option SetTable.Probe), from_.getD (t.probeStart h) = prb t.mask h c → c ≤ K → K - c < f →
      (∀ (i : Nat) (p : Addr × List Int), L[i]? = some p → p.2 = k → ∃ n, c ≤ n ∧ n < K ∧ t.place.toList[i]? = some (way t.mask h n)) →
      wpAny (model P w) A (setSearchFrom a (.ref x) h true f from_) Q E s := by
  intro f
  induction f with
  | zero => intro c _ _ _ z _; exact absurd z (Nat.not_lt_zero _)
  | succ f ih =>
    intro c from_ hs hc hf hn
    obtain ⟨o, o1, _, o3⟩ := R.obj
    have hash : ∀ (i : Nat) (p : Addr × List Int), L[i]? = some p → (fun i => (es[i]?.map Prod.fst).getD 0) i = thash P w p.2 := fun i p hp => by
      show (es[i]?.map Prod.fst).getD 0 = _
      rw [R.at_ hp]
      rfl
    rw [setSearchFrom_succ]
    refine wpAny_bind (wpAny_setState_of o1 o3 R.fits (wp_if_neg R.goes ?_))
    have spec := go_spec t R.tab.up R.tab.nod (fun i => (es[i]?.map Prod.fst).getD 0) h (10 * SetTable.turns t.mask) (K - c) (prb t.mask h c) (nth_dummy _ c _ rfl) (by omega)
      (fun q hq => by rw [prb_add]; exact en.full (c + q) (by omega)) (by rw [prb_add, Nat.add_sub_cancel' hc]; exact en.free)
    rw [hs]
    rcases spec with ⟨q, i, q1, q2, q3, q4, q5⟩ | ⟨q4, q5⟩
    · have q5' : t.probe (fun i => (es[i]?.map Prod.fst).getD 0) h (prb t.mask h c) = some (.candidate (way t.mask h (c + q)) i (prb t.mask h (c + (q + 1)))) := by
        refine q5.trans ?_
        rw [prb_add, prb_add]
      rw [prb_add] at q2
      rw [q5']
      have il : i < L.length := by
        have z := (List.getElem?_eq_some_iff.mp q2).1
        have z2 := R.tab.len
        simp only [List.length_map] at z2
        rw [Array.length_toList] at z
        omega
      obtain ⟨p, hp⟩ : ∃ p, L[i]? = some p := ⟨_, List.getElem?_eq_getElem il⟩
      have pm := List.mem_of_getElem? hp
      have goal : wpAny (model P w) A (searchRest a (.ref x) h true f es t (way t.mask h (c + q)) i (prb t.mask h (c + (q + 1)))) Q E s := by
        have live := slot_live R.tab.up q2
        unfold searchRest
        rw [R.at_ hp]
        refine wpAny_bind (wpAny_holding (wpAny_eqBool_tuple hu (R.tup p pm) hx (wpAny_bind (wpAny_setState_of o1 o3 R.fits ?_))))
        by_cases e : p.2 = k
        · exact wp_if_pos (by simp [e]) (wpAny_pure (yes (List.mem_map.mpr ⟨p, pm, e⟩)))
        · refine wp_if_neg (by simp [e]) ?_
          try refine wpAny_bind (wpAny_pure ?_)
          rw [sameMem]
          dsimp only
          simp only [if_true, live, R.at_ hp]
          refine wpAny_bind (wpAny_isSame_ref_self (wpAny_bind (wpAny_pure ?_)))
          simp only [if_true]
          refine wp_if_neg (by simp [e]) (ih (c + (q + 1)) _ rfl (by omega) (by omega) fun i2 p2 g1 g2 => ?_)
          obtain ⟨n, n1, n2, n3⟩ := hn i2 p2 g1 g2
          refine ⟨n, ?_, n2, n3⟩
          refine Classical.byContradiction fun z => ?_
          rcases Nat.lt_or_eq_of_le (show n ≤ c + q by omega) with y | y
          · refine q4 (n - c) i2 (by omega) (by rw [prb_add, Nat.add_sub_cancel' n1]; exact n3) ?_
            exact (hash i2 p2 g1).trans (by rw [g2, eh])
          · rw [y] at n3
            have l2 := slot_live R.tab.up n3
            rw [live] at l2
            cases l2
            rw [hp] at g1
            cases g1
            exact e g2
      by_cases l : t.led = true
      · refine wp_if_neg (by simp [l]) ?_
        try refine wpAny_bind (wpAny_pure ?_)
        exact goal
      · refine wp_if_pos (by simp [l]) (wpAny_bind (seen_tup hx (fun y hy => ?_) ?_))
        · obtain ⟨e, he, rfl⟩ := List.mem_map.mp hy
          have e1 : e ∈ es.toList := by simp at he; simpa using he.1
          rw [R.row] at e1
          obtain ⟨p2, g1, rfl⟩ := List.mem_map.mp e1
          exact ⟨p2.2, p2.1, rfl, R.tup p2 g1⟩
        · refine wp_if_neg (by decide) ?_
          try refine wpAny_bind (wpAny_pure ?_)
          exact goal
    · have q5' : t.probe (fun i => (es[i]?.map Prod.fst).getD 0) h (prb t.mask h c) = some (.empty (way t.mask h K) none) := by
        refine q5.trans ?_
        rw [prb_add, Nat.add_sub_cancel' hc]
      rw [q5']
      refine wpAny_pure (no fun hm => ?_)
      obtain ⟨p, pm, e⟩ := List.mem_map.mp hm
      obtain ⟨i, il, ei⟩ := List.getElem_of_mem pm
      have hp : L[i]? = some p := by rw [List.getElem?_eq_getElem il, ei]
      obtain ⟨n, n1, n2, n3⟩ := hn i p hp e
      refine q4 (n - c) i (by omega) (by rw [prb_add, Nat.add_sub_cancel' n1]; exact n3) ?_
      exact (hash i p hp).trans (by rw [e, eh])
theorem look_all (R : SB P w s.heap a L es ep t) {x : Addr} {k : List Int} (hx : L2.IsT P w s.heap k x) (hu : A.units < cLine) {Q : SetFound → Shared → Prop}
    (yes : k ∈ L.map Prod.snd → Q (.there none) s) (no : ∀ K, k ∉ L.map Prod.snd → Ends t (thash P w k) K → Q (.free (way t.mask (thash P w k) K) false) s) :
    wpAny (model P w) A (setSearch a (.ref x) (thash P w k) true) Q E s := by
  have g := R.gap
  have m := R.tab.msk.le
  obtain ⟨K, hK, en⟩ := R.tab.ends (by rw [List.length_map]; omega) (thash P w k)
  have fw := R.few
  have ln := R.tab.len
  simp only [List.length_map] at ln
  have big : K < 100000 := by
    have z := few_steps (ps := t.place.toList) R.tab.msk (thash P w k) (by rw [Array.length_toList, ln]; omega) en.full
    rw [Array.length_toList, ln] at z
    omega
  unfold setSearch
  refine look R rfl hx hu hK en yes (fun z => no K z en) 100000 0 none rfl (Nat.zero_le _) (by omega) fun i p hp e => ?_
  have il : i < t.place.toList.length := by
    have z1 := (List.getElem?_eq_some_iff.mp hp).1
    have z2 := R.tab.len
    simp only [List.length_map] at z2
    rw [Array.length_toList]
    omega
  have g1 : (L.map fun p => thash P w p.2)[i]? = some (thash P w k) := by
    rw [List.getElem?_map, hp, ← e]
    rfl
  obtain ⟨n, n1, n2⟩ := R.tab.ahead en g1 (List.getElem?_eq_getElem il)
  exact ⟨n, Nat.zero_le _, n1, by rw [List.getElem?_eq_getElem il, n2]⟩

theorem rows_size {L : List (Addr × List Int)} {es : Array (Int × Value)} (h : es.toList = rowsOf P w L) : es.size = L.length := by
  rw [← Array.length_toList, h]
  simp [rowsOf]
/-- the set as it is between the putting and the making larger -/
structure Loose (P : Program) (w : World) (h : Heap) (a : Addr) (L : List (Addr × List Int)) (es : Array (Int × Value)) (ep : Nat) (t : SetTable) : Prop where
  obj : ∃ o, h.get? a = some o ∧ o.ExactSet ∧ o.data = .set es ep t
  row : es.toList = rowsOf P w L
  tab : TB t (L.map fun p => thash P w p.2)
  dif : (L.map Prod.snd).Nodup
  tup : ∀ p ∈ L, L2.IsT P w h p.2 p.1
  pla : t.plain = true
  led : w.params.followText "set-order" = true ∨ t.led = true
  fit : L.length ≤ t.mask
  few : L.length ≤ 9800
theorem grow (R : Loose P w s.heap a L es ep t) {wanted M : Nat} (hw : SetTable.sizeAbove wanted = M + 1) (hM : MB M) (hn : L.length * 5 < M * 3) {Q : Unit → Shared → Prop}
    (hQ : ∀ h2 L2 es2 ep2 t2, Heap.SameBut a s.heap h2 → SB P w h2 a L2 es2 ep2 t2 → L2.Perm L → Q () { s with heap := h2 }) : wpAny (model P w) A (setRelay a wanted) Q E s := by
  obtain ⟨o, o1, o2, o3⟩ := R.obj
  have sz := rows_size R.row
  have z := R.tab.len
  simp only [List.length_map] at z
  have fit := R.fit
  have few := R.few
  have fits : t.fits es.size = true := by
    simp only [SetTable.fits, SetTable.fill, R.tab.nod, Bool.and_eq_true, beq_iff_eq, decide_eq_true_eq]
    exact ⟨z.trans sz.symm, show t.place.size + 0 ≤ t.mask by omega⟩
  have hM2 := hM.le
  obtain ⟨t2, ord, rl⟩ := relaid_tb t (hs := es.map Prod.fst) (wanted := wanted) (M := M) (by rw [hw]; rfl) hM (by rw [Array.size_map]; omega)
  have pm := rl.perm
  rw [Array.size_map, sz] at pm
  obtain ⟨L2, r1, r2, r3⟩ := order_rows L es ord R.row pm
  have T := rl.tab
  rw [← r3] at T
  have sz2 : (ord.filterMap fun i => es[i]?).size = es.size := by rw [rows_size r1, r2.length_eq, sz]
  rw [setRelay_eq]
  refine wpAny_bind (wpAny_setState_of o1 o3 fits (wp_if_neg (by rw [sizeLine_eq, hw]; omega) ?_))
  try refine wpAny_bind (wpAny_pure ?_)
  rw [rl.eq]
  refine wpAny_bind (wp_if_neg (by rw [sz2]; simp) ?_)
  try refine wpAny_bind (wpAny_pure ?_)
  refine wpAny_pure (wpAny_storeSet_of o1 o3 ?_ (by rw [sz2, sz, sizeLine_eq]; omega))
  have same := Heap.SameBut.update s.heap a (Obj.putSet (ord.filterMap fun i => es[i]?) t2)
  exact hQ _ L2 _ (ep + 1) t2 same ⟨⟨_, store_at o1 o3, o2, rfl⟩, r1, T, (r2.map _).nodup_iff.mpr R.dif, fun p hp => isT_same (R.tup p (r2.mem_iff.mp hp)) o1 o3 same, rl.pla.trans R.pla,
    R.led.imp id fun z => rl.led.trans z, by rw [r2.length_eq, rl.msk]; exact hn, by rw [r2.length_eq]; exact few⟩ r2
/-- one more is put in -/
theorem add_cell (R : SB P w s.heap a L es ep t) {x : Addr} {k : List Int} (hx : L2.IsT P w s.heap k x) (hu : A.units < cLine) (few : k ∉ L.map Prod.snd → L.length < 9800) {Q : Bool → Shared → Prop}
    (hQ : ∀ b h2 L2 es2 ep2 t2, Heap.SameBut a s.heap h2 → SB P w h2 a L2 es2 ep2 t2 → (k ∈ L.map Prod.snd → L2 = L) → (k ∉ L.map Prod.snd → L2.Perm ((x, k) :: L)) → Q b { s with heap := h2 }) :
    wpAny (model P w) A (setAddHashed a (.ref x) (thash P w k)) Q E s := by
  obtain ⟨o, o1, o2, o3⟩ := R.obj
  unfold setAddHashed
  rw [show (100000 : Nat) = 99999 + 1 from rfl, setAddHashedIn_succ]
  refine wpAny_holding (wpAny_bind (wpAny_setState_of o1 o3 R.fits (wp_if_neg (by simp [byScan, Value.scannable]) ?_)))
  try refine wpAny_bind (wpAny_pure ?_)
  refine wpAny_bind (look_all R hx hu (fun z => wpAny_pure (hQ false s.heap L es ep t (Heap.SameBut.refl a s.heap) R (fun _ => rfl) fun y => absurd z y)) fun K new en => ?_)
  have few := few new
  refine wpAny_bind (wpAny_setState_of o1 o3 R.fits ?_)
  dsimp only
  have pt := R.tab.put en
  generalize way t.mask (thash P w k) K = j at pt
  have e1 : t.put j = ((t.put j).1, bel t j) := Prod.ext rfl pt.at_
  rw [e1]
  have pla : (t.put j).1.plain = true := pt.pla.trans R.pla
  have tab := pt.tab
  have msk := pt.msk
  have led := pt.led
  have fil := pt.fil
  have row2 : (SetTable.insertAt es (bel t j) (thash P w k, Value.ref x)).toList = rowsOf P w (L.take (bel t j) ++ (x, k) :: L.drop (bel t j)) := (SetTable.toList_insertAt ..).trans (by rw [rows_put, R.row])
  have hash2 : (L.take (bel t j) ++ (x, k) :: L.drop (bel t j)).map (fun p => thash P w p.2) = (L.map fun p => thash P w p.2).take (bel t j) ++ thash P w k :: (L.map fun p => thash P w p.2).drop (bel t j) := by
    simp [List.map_take, List.map_drop]
  rw [← hash2] at tab
  have pm := put_perm L (bel t j) (x, k)
  simp only [List.length_map] at fil
  generalize (t.put j).1 = t1 at tab pla msk led fil ⊢
  generalize hpos : bel t j = pos at row2 tab pm ⊢
  generalize SetTable.insertAt es pos (thash P w k, Value.ref x) = es1 at row2 ⊢
  generalize L.take pos ++ (x, k) :: L.drop pos = L1 at row2 tab pm
  have len1 : L1.length = L.length + 1 := pm.length_eq
  have sz1 : es1.size = L.length + 1 := (rows_size row2).trans len1
  have gap := R.gap
  have tail : ∀ t1', t1' = t1 → wpAny (model P w) A (storeSet a es1 t1') (fun _ s2 => wpAny (model P w) A (if (!false && t1'.tooFull) = true then (do setRelay a (SetTable.grown (es.size + 1)); pure true) else pure true) Q E s2) E s := by
    intro t1' et
    subst et
    refine wpAny_storeSet_of o1 o3 ?_ (by rw [sz1, sizeLine_eq]; omega)
    have same := Heap.SameBut.update s.heap a (Obj.putSet es1 t1')
    have at1 := store_at (es' := es1) (t' := t1') o1 o3
    generalize s.heap.update a (Obj.putSet es1 t1') = h1 at same at1 ⊢
    have loose : Loose P w h1 a L1 es1 (ep + 1) t1' := ⟨⟨_, at1, o2, rfl⟩, row2, tab, (pm.map Prod.snd).nodup_iff.mpr (List.nodup_cons.mpr ⟨new, R.dif⟩), fun p hp => by
      rcases List.mem_cons.mp (pm.mem_iff.mp hp) with e | hp
      · exact e ▸ isT_same hx o1 o3 same
      · exact isT_same (R.tup p hp) o1 o3 same, pla, R.led.imp id fun z => led.trans z, by rw [len1, msk]; omega, by omega⟩
    by_cases full : t1'.tooFull = true
    · rw [if_pos (by simp [full])]
      have f2 : t.mask * 3 ≤ (L.length + 1) * 5 := by
        have z := full
        simp only [SetTable.tooFull, decide_eq_true_eq, fil, msk] at z
        exact z
      obtain ⟨M, m1, m2, m3⟩ := grows R.tab.msk f2 gap few
      rw [R.size]
      refine wpAny_bind (grow (s := { s with heap := h1 }) loose m1 m2 (by rw [len1]; exact m3) fun h2 L2 es2 ep2 t2 same2 R2 pm2 => ?_)
      exact wpAny_pure (hQ true h2 L2 es2 ep2 t2 (same.trans same2) R2 (fun z => absurd z new) fun _ => pm2.trans pm)
    · rw [if_neg (by simp [full])]
      refine wpAny_pure (hQ true h1 L1 es1 (ep + 1) t1' same ⟨loose.obj, row2, tab, loose.dif, loose.tup, pla, loose.led, ?_, loose.few⟩ (fun z => absurd z new) fun _ => pm)
      have z : ¬ t1'.fill * 5 ≥ t1'.mask * 3 := by simpa [SetTable.tooFull] using full
      rw [fil] at z
      omega
  first
    | (refine wpAny_bind ?_; refine wp_if_pos pla ?_; refine hashBy_tup hx ?_)
    | refine wp_if_pos pla (wpAny_bind (hashBy_tup hx ?_))
  simp only [if_true]
  refine wpAny_bind ?_
  refine wpAny_mono (tail t1 rfl) (fun u s2 z => ?_) fun _ _ z => z
  first
    | exact z
    | (simp only [Bool.not_false, Bool.true_and] at z ⊢
       by_cases full : t1.tooFull = true
       · rw [if_pos full] at z ⊢
         exact z
       · rw [if_neg full] at z ⊢
         exact z)

theorem SB.move {h h2 : Heap} {a : Addr} {L : List (Addr × List Int)} {es : Array (Int × Value)} {ep : Nat} {t : SetTable} (R : SB P w h a L es ep t) (ha : ∀ o, h.get? a = some o → h2.get? a = some o) (ht : ∀ p ∈ L, L2.IsT P w h2 p.2 p.1) : SB P w h2 a L es ep t := by
  obtain ⟨o, o1, o2⟩ := R.obj
  exact { R with obj := ⟨o, ha o o1, o2⟩, tup := ht }
/-- at most so many unlike rows -/
def Few (ks : List (Addr × List Int)) : Prop := ∀ L : List (Addr × List Int), (∀ p ∈ L, p ∈ ks) → (L.map Prod.snd).Nodup → L.length ≤ 9800
/-- the rows taken so far: each is in the set by its ints, and nothing else -/
structure Taken (ks : List (Addr × List Int)) (h : Heap) (S : Addr) (P : Program) (w : World) (i : Nat) : Prop where
  ex : ∃ L es ep t, SB P w h S L es ep t ∧ Got ks i L
/-- set.update's loop over rows -/
theorem fill {I : Addr} {fp wr : List Addr} {G : Array GenState → Array GenState → Prop} {n : Nat} {Pv : Nat → Value → Prop} {St : Nat → Shared → Prop} {R : Result → Shared → Prop}
    (W : WalksS P w A.in1 I fp wr G n Pv St) {S : Addr} (hS : S ∉ fp) {ks : List (Addr × List Int)} (hn : n = ks.length) (few : Few ks) (val : ∀ i v, Pv i v → ∃ p, ks[i]? = some p ∧ v = .ref p.1)
    {h0 : Heap} (tup : ∀ p ∈ ks, L2.IsT P w h0 p.2 p.1) (S0 : h0.get? S = none) (w0 : ∀ b ∈ wr, h0.get? b = none) (hu : A.in1.units < cLine) :
    ∀ (m i : Nat) (s : Shared), i + m = n → St i s → (∀ b o, h0.get? b = some o → s.heap.get? b = some o) → Taken ks s.heap S P w i →
      (∀ s2, Moved (S :: wr) G s s2 → Taken ks s2.heap S P w n → (∀ b o, h0.get? b = some o → s2.heap.get? b = some o) → R (.ok (.ret .none)) s2) →
      codeAny (model P w) A (.builtin "set.update.loop" ⟨[.ref S, .ref I], []⟩) R s := by
  have Sw : S ∉ wr := fun z => hS (W.sub _ z)
  have up : ∀ {s s2 : Shared}, Moved wr G s s2 → Moved (S :: wr) G s s2 := fun hm => hm.mono fun b hb => List.mem_cons_of_mem _ hb
  have old : ∀ {s s2 : Shared}, Moved wr G s s2 → (∀ b o, h0.get? b = some o → s.heap.get? b = some o) → ∀ b o, h0.get? b = some o → s2.heap.get? b = some o := fun hm k b o e =>
    hm.heap b o (fun hb => by rw [w0 b hb] at e; cases e) (k b o e)
  have stays : ∀ {s s2 : Shared} {i : Nat}, Moved wr G s s2 → (∀ b o, h0.get? b = some o → s2.heap.get? b = some o) → Taken ks s.heap S P w i → Taken ks s2.heap S P w i := fun hm k ⟨L, es, ep, t, R, g⟩ =>
    ⟨L, es, ep, t, R.move (fun o e => hm.heap S o Sw e) fun p hp => isT_keep (tup p (List.mem_of_mem_take (g.sub p hp))) k, g⟩
  intro m
  induction m with
  | zero =>
    intro i s e st k T hR
    obtain rfl : i = n := e
    refine codeAny_builtin F.entry_set_update_loop (?_ : _)
    rw [Around.under_plainId F.plain_set_update_loop]
    refine wpAny_bind (m := pyNext (.ref I)) (W.done s _ _ st fun s2 hm => ?_)
    have k2 := old hm k
    exact wpAny_pure (hR s2 (up hm) (stays hm k2 T) k2)
  | succ m ih =>
    intro i s e st k T hR
    refine codeAny_builtin F.entry_set_update_loop (?_ : _)
    rw [Around.under_plainId F.plain_set_update_loop]
    refine wpAny_bind (m := pyNext (.ref I)) (W.item i s _ _ (by omega) st fun v s2 hv st2 hm => ?_)
    obtain ⟨p, hp, rfl⟩ := val i v hv
    have k2 := old hm k
    obtain ⟨L, es, ep, t, SR, g⟩ := stays hm k2 T
    have hx : L2.IsT P w s2.heap p.2 p.1 := isT_keep (tup p (List.mem_of_getElem? hp)) k2
    have il : i < ks.length := (List.getElem?_eq_some_iff.mp hp).1
    refine wpAny_bind (m := holding [Value.ref p.1] (setAdd S (.ref p.1))) (wpAny_holding ?_)
    unfold setAdd
    refine wpAny_holding (wpAny_bind (wpAny_pyHash_tuple hu hx ?_))
    refine add_cell (s := { s2 with toks := s2.toks + (p.2.length + 1) }) SR hx hu (fun new => Nat.lt_of_succ_le (few (p :: L) (fun q hq => (List.mem_cons.mp hq).elim (fun z => z ▸ List.mem_of_getElem? hp) fun z => List.mem_of_mem_take (g.sub q z)) (List.nodup_cons.mpr ⟨new, SR.dif⟩))) fun b h3 L3 es3 ep3 t3 same SR3 c1 c2 => ?_
    have g3 : Got ks (i + 1) L3 := by
      by_cases c : p.2 ∈ L.map Prod.snd
      · exact c1 c ▸ g.same hp c
      · exact g.more hp (c2 c)
    have k3 : ∀ b o, h0.get? b = some o → h3.get? b = some o := fun b o q => (same.2 b fun z => by rw [z, S0] at q; cases q).trans (k2 b o q)
    refine wpAny_pure ⟨plainId_quiet F.plain_set_update_loop _, ih (i + 1) _ (by omega) (W.frame _ s2 _ _ st2 (Nat.le_add_right _ _) fun b hb o q => (same.2 b fun z => hS (z ▸ hb)).trans q) k3 ⟨L3, es3, ep3, t3, SR3, g3⟩ fun s4 hm4 T4 k4 => ?_⟩
    exact hR s4 (Moved.trans W.gtrans ((up hm).then_heap (Nat.le_add_right _ _) fun b o hb q => (same.2 b fun z => hb (z ▸ List.mem_cons_self)).trans q) hm4) T4 k4

end

section
variable {P : Program} {w : World} {A : Around} {E : Value → Shared → Prop} {s : Shared}
end
end Py

/-! Own layer, part G: sets of cells, and sorted lists of cells, of any ints. -/
namespace Py
open PySem PySem.Spec PyProof.Rows L2 SrtO

/-- two ints as a cell -/
def cel (l : List Int) : Int × Int := (l.getD 0 0, l.getD 1 0)
/-- the row of a set at an address -/
def rowAt (L : List (Addr × List Int)) : Value → Addr × List Int
  | .ref a => (L.find? fun p => decide (p.1 = a)).getD (0, [])
  | _ => (0, [])
theorem rowAt_mem {L : List (Addr × List Int)} (one : ∀ p ∈ L, ∀ r ∈ L, p.1 = r.1 → p = r) {p : Addr × List Int} (hp : p ∈ L) : rowAt L (.ref p.1) = p := by
  show (L.find? fun q => decide (q.1 = p.1)).getD (0, []) = p
  cases e : L.find? fun q => decide (q.1 = p.1) with
  | none => exact absurd (List.find?_eq_none.mp e p hp) (by simp)
  | some q =>
    have e1 : q.1 = p.1 := of_decide_eq_true (List.find?_some (p := fun q : Addr × List Int => decide (q.1 = p.1)) e)
    exact one q (List.mem_of_find?_eq_some e) p hp e1
theorem pair_of_row {P : Program} {w : World} {h : Heap} {p : Addr × List Int} (t : L2.IsT P w h p.2 p.1) (hl : p.2.length = 2) : Srt.IsPair h (.ref p.1) (cel p.2).1 (cel p.2).2 := by
  obtain ⟨a, k⟩ := p
  match k, hl with
  | [x, y], _ =>
    obtain ⟨o, items, n, ho, hc, hd, hi⟩ := t
    generalize e : items.toList = vs at hi
    cases hi with
    | cons h1 hi =>
      cases hi with
      | cons h2 hi =>
        cases hi with
        | nil =>
          obtain ⟨t1, e1⟩ := Value.isInt_shape h1
          obtain ⟨t2, e2⟩ := Value.isInt_shape h2
          subst e1 e2
          refine ⟨a, o, t1, t2, n, rfl, ho, hc, ?_⟩
          have e3 : items = #[.int x t1, .int y t2] := by
            rw [← Array.toList_inj, e]
          rw [hd, e3]
          rfl
section
variable {P : Program} {w : World} {A : Around} {E : Value → Shared → Prop} {s : Shared} {a : Addr} {es : Array (Int × Value)} {ep : Nat} {t : SetTable}
/-! a set of any size walked (as the library's walk of a set of fewer than 4096) -/
end
section
variable {P : Program} {w : World} {A : Around} {E : Value → Shared → Prop} {s : Shared}
end
/-- the set at a, without the tuples themselves -/
structure SB0 (P : Program) (w : World) (h : Heap) (a : Addr) (L : List (Addr × List Int)) : Prop where
  ex : ∃ (es : Array (Int × Value)) (ep : Nat) (t : SetTable), ∀ h2 : Heap, (∀ o, h.get? a = some o → h2.get? a = some o) → (∀ p ∈ L, L2.IsT P w h2 p.2 p.1) → SB P w h2 a L es ep t
  th : ∃ o, h.get? a = some o
  few : L.length ≤ 9800
  dif : (L.map Prod.snd).Nodup
theorem SB.low {P : Program} {w : World} {h : Heap} {a : Addr} {L : List (Addr × List Int)} {es : Array (Int × Value)} {ep : Nat} {t : SetTable} (R : SB P w h a L es ep t) : SB0 P w h a L :=
  ⟨⟨es, ep, t, fun _ ha ht => R.move ha ht⟩, (by
    obtain ⟨o, o1, _⟩ := R.obj
    exact ⟨o, o1⟩), R.few, R.dif⟩
/-! ### rising lists -/
theorem ltC_iff {a b : Int × Int} : ltC a b = true ↔ (a.1 < b.1 ∨ (a.1 = b.1 ∧ a.2 < b.2)) := decide_eq_true_iff
theorem ltC_tri (a b : Int × Int) : ltC a b = true ∨ a = b ∨ ltC b a = true := by
  rw [ltC_iff, ltC_iff, Prod.ext_iff]
  omega
theorem ltC_trans {a b c : Int × Int} (h1 : ltC a b = true) (h2 : ltC b c = true) : ltC a c = true := by
  rw [ltC_iff] at *
  omega
theorem ltC_irrefl (a : Int × Int) : ¬ ltC a a = true := by
  rw [ltC_iff]
  omega
/-- strictly rising -/
abbrev Up (xs : List (Int × Int)) : Prop := xs.Pairwise fun a b => ltC a b = true
theorem mem_insC (x c : Int × Int) : ∀ xs, c ∈ insC x xs ↔ c = x ∨ c ∈ xs
  | [] => by simp [insC]
  | y :: r => by
    unfold insC
    split
    · simp
    · split
      · next e => subst e; simp
      · rw [List.mem_cons, mem_insC x c r, List.mem_cons]
        constructor
        · rintro (h | h | h)
          · exact .inr (.inl h)
          · exact .inl h
          · exact .inr (.inr h)
        · rintro (h | h | h)
          · exact .inr (.inl h)
          · exact .inl h
          · exact .inr (.inr h)
theorem up_insC (x : Int × Int) : ∀ xs, Up xs → Up (insC x xs)
  | [], _ => List.pairwise_singleton _ _
  | y :: r, h => by
    obtain ⟨h1, h2⟩ := List.pairwise_cons.mp h
    unfold insC
    split
    · next lt =>
      refine List.pairwise_cons.mpr ⟨fun z hz => ?_, h⟩
      rcases List.mem_cons.mp hz with e | e
      · rw [e]; exact lt
      · exact ltC_trans lt (h1 z e)
    · next lt =>
      split
      · exact h
      · next ne =>
        refine List.pairwise_cons.mpr ⟨fun z hz => ?_, up_insC x r h2⟩
        rcases (mem_insC x z r).mp hz with e | e
        · rw [e]
          rcases ltC_tri y x with q | q | q
          · exact q
          · exact absurd q.symm ne
          · exact absurd q lt
        · exact h1 z e
theorem mem_rise (c : Int × Int) : ∀ xs, c ∈ rise xs ↔ c ∈ xs
  | [] => Iff.rfl
  | x :: xs => by
    show c ∈ insC x (rise xs) ↔ _
    rw [mem_insC, mem_rise c xs, List.mem_cons]
theorem up_rise : ∀ xs, Up (rise xs)
  | [] => .nil
  | x :: xs => up_insC x _ (up_rise xs)
theorem up_eq : ∀ {a b : List (Int × Int)}, Up a → Up b → (∀ c, c ∈ a ↔ c ∈ b) → a = b
  | [], [], _, _, _ => rfl
  | [], y :: b, _, _, h => absurd ((h y).mpr List.mem_cons_self) (by simp)
  | x :: a, [], _, _, h => absurd ((h x).mp List.mem_cons_self) (by simp)
  | x :: a, y :: b, ha, hb, h => by
    obtain ⟨a1, a2⟩ := List.pairwise_cons.mp ha
    obtain ⟨b1, b2⟩ := List.pairwise_cons.mp hb
    have e : x = y := by
      rcases List.mem_cons.mp ((h x).mp List.mem_cons_self) with z | z
      · exact z
      · rcases List.mem_cons.mp ((h y).mpr List.mem_cons_self) with q | q
        · exact q.symm
        · exact absurd (ltC_trans (a1 y q) (b1 x z)) (ltC_irrefl x)
    subst e
    refine congrArg _ (up_eq a2 b2 fun c => ⟨fun hc => ?_, fun hc => ?_⟩)
    · rcases List.mem_cons.mp ((h c).mp (List.mem_cons_of_mem _ hc)) with z | z
      · rw [z] at hc
        exact absurd (a1 x hc) (ltC_irrefl x)
      · exact z
    · rcases List.mem_cons.mp ((h c).mpr (List.mem_cons_of_mem _ hc)) with z | z
      · rw [z] at hc
        exact absurd (b1 x hc) (ltC_irrefl x)
      · exact z
theorem rise_up {xs : List (Int × Int)} (h : Up xs) : rise xs = xs := up_eq (up_rise xs) h fun c => mem_rise c xs
theorem len_insC (x : Int × Int) : ∀ xs, (insC x xs).length ≤ xs.length + 1
  | [] => Nat.le_refl _
  | y :: r => by
    unfold insC
    split
    · exact Nat.le_refl _
    · split
      · exact Nat.le_succ _
      · exact Nat.succ_le_succ (len_insC x r)
theorem len_rise : ∀ xs, (rise xs).length ≤ xs.length
  | [] => Nat.le_refl _
  | x :: xs => Nat.le_trans (len_insC x _) (Nat.succ_le_succ (len_rise xs))

/-! ### the set as a value: its cells, rising -/
def RowOk (H : Hp) (p : Addr × List Int) : Prop := H p.1 = some (.tup (p.2.map V.int)) ∧ p.2.length = 2
theorem rows_of {F : Hp} : ∀ {xs : List (Int × Int)} {vs : List V}, RepL rC F xs vs → ∃ ks : List (Addr × List Int), vs = ks.map (fun p => V.ref p.1) ∧ xs = ks.map (fun p => cel p.2) ∧ ∀ p ∈ ks, RowOk F p
  | _, _, .nil => ⟨[], rfl, rfl, fun _ h => absurd h (by simp)⟩
  | _, _, .cons (a := a) (v := v) ⟨p, ws, e, h, v1, ws2, e1, r1, v2, e2, r2⟩ t => by
    obtain ⟨ks, f1, f2, f3⟩ := rows_of t
    refine ⟨(p, [a.1, a.2]) :: ks, by rw [e, f1] <;> rfl, by rw [f2] <;> rfl, fun q hq => ?_⟩
    rcases List.mem_cons.mp hq with z | z
    · subst z
      refine ⟨?_, rfl⟩
      show F p = _
      rw [h, e1, e2, show v1 = V.int a.1 from r1, show v2 = V.int a.2 from r2] <;> rfl
    · exact f3 q z
theorem rows_rep {F : Hp} : ∀ (ks : List (Addr × List Int)), (∀ p ∈ ks, RowOk F p) → RepL rC F (ks.map fun p => cel p.2) (ks.map fun p => V.ref p.1)
  | [], _ => .nil
  | (a, l) :: ks, h => .cons (by
    obtain ⟨h1, h2⟩ := h _ List.mem_cons_self
    match l, h1, h2 with
    | [x, y], h1, _ => exact ⟨a, _, rfl, h1, .int x, _, rfl, rfl, .int y, rfl, rfl⟩) (rows_rep ks fun p hp => h p (List.mem_cons_of_mem _ hp))
section
variable {X : Cx} {U : Wi} {Γ : List Sl} {e : Expr} {pos p2 p3 p4 : Pos}
end

/-! ### sorted lists of cells and of ints -/
def inO {α : Type} (lt : α → α → Bool) (x : α) : List α → List α
  | [] => [x]
  | y :: r => if lt y x = true then y :: inO lt x r else x :: y :: r
def srt {α : Type} (lt : α → α → Bool) (xs : List α) : List α := xs.foldr (inO lt) []
/-- the order is one of values: what neither is below the other is the same -/
structure Tot {α : Type} (lt : α → α → Bool) : Prop where
  asym : ∀ a b, lt a b = true → lt b a = false
  tran : ∀ a b c, lt b a = false → lt c b = false → lt c a = false
  same : ∀ a b, lt a b = false → lt b a = false → a = b
section
variable {α : Type} {lt : α → α → Bool}
abbrev Asc (lt : α → α → Bool) (xs : List α) : Prop := xs.Pairwise fun a b => lt b a = false
theorem perm_inO (x : α) : ∀ xs, (inO lt x xs).Perm (x :: xs)
  | [] => .refl _
  | y :: r => by
    unfold inO
    split
    · exact ((perm_inO x r).cons y).trans (.swap x y r)
    · exact .refl _
theorem perm_srt : ∀ xs : List α, (srt lt xs).Perm xs
  | [] => .refl _
  | x :: xs => (perm_inO x _).trans ((perm_srt xs).cons x)
theorem asc_inO (T : Tot lt) (x : α) : ∀ xs, Asc lt xs → Asc lt (inO lt x xs)
  | [], _ => List.pairwise_singleton _ _
  | y :: r, h => by
    obtain ⟨h1, h2⟩ := List.pairwise_cons.mp h
    unfold inO
    split
    · next c =>
      refine List.pairwise_cons.mpr ⟨fun z hz => ?_, asc_inO T x r h2⟩
      rcases List.mem_cons.mp ((perm_inO x r).mem_iff.mp hz) with e | e
      · rw [e]; exact T.asym y x c
      · exact h1 z e
    · next c =>
      have c' : lt y x = false := by simpa using c
      refine List.pairwise_cons.mpr ⟨fun z hz => ?_, h⟩
      rcases List.mem_cons.mp hz with e | e
      · rw [e]; exact c'
      · exact T.tran x y z c' (h1 z e)
theorem asc_srt (T : Tot lt) : ∀ xs : List α, Asc lt (srt lt xs)
  | [] => .nil
  | x :: xs => asc_inO T x _ (asc_srt T xs)
theorem asc_eq (T : Tot lt) : ∀ {xs ys : List α}, Asc lt xs → Asc lt ys → xs.Perm ys → xs = ys
  | [], ys, _, _, p => p.nil_eq
  | x :: xs, [], _, _, p => absurd p.length_eq (by simp)
  | x :: xs, y :: ys, hx, hy, p => by
    obtain ⟨x1, x2⟩ := List.pairwise_cons.mp hx
    obtain ⟨y1, y2⟩ := List.pairwise_cons.mp hy
    have irr : ∀ a : α, lt a a = false := fun a => by
      cases e : lt a a with
      | false => rfl
      | true => exact (T.asym a a e).symm.trans e |>.symm ▸ rfl
    have a1 : lt y x = false := by
      rcases List.mem_cons.mp (p.mem_iff.mpr (List.mem_cons_self (a := y) (l := ys))) with e | e
      · rw [e]; exact irr x
      · exact x1 y e
    have a2 : lt x y = false := by
      rcases List.mem_cons.mp (p.mem_iff.mp (List.mem_cons_self (a := x) (l := xs))) with e | e
      · rw [e]; exact irr y
      · exact y1 x e
    have e := T.same x y a2 a1
    subst e
    rw [asc_eq T x2 y2 p.cons_inv]
end
theorem ltC_no {a b : Int × Int} : ltC a b = false ↔ ¬ (a.1 < b.1 ∨ (a.1 = b.1 ∧ a.2 < b.2)) := decide_eq_false_iff_not
theorem totC : Tot ltC := ⟨fun a b h => by rw [ltC_iff] at h; rw [ltC_no]; omega, fun a b c h1 h2 => by rw [ltC_no] at *; omega, fun a b h1 h2 => by rw [ltC_no] at *; rw [Prod.ext_iff]; omega⟩
/-- sorted(xs) of cells -/
abbrev sortC (xs : List (Int × Int)) : List (Int × Int) := srt ltC xs
theorem up_asc {xs : List (Int × Int)} (h : Up xs) : Asc ltC xs := h.imp fun {a b} z => totC.asym a b z
/-- the cell of a value, by the rows that were told -/
def celOf (ks : List (Addr × List Int)) : V → Int × Int
  | .ref a => cel ((ks.find? fun p => decide (p.1 = a)).getD (0, [])).2
  | _ => (0, 0)
theorem celOf_mem {H : Hp} {ks : List (Addr × List Int)} (hk : ∀ p ∈ ks, RowOk H p) {p : Addr × List Int} (hp : p ∈ ks) : celOf ks (.ref p.1) = cel p.2 := by
  show cel ((ks.find? fun q => decide (q.1 = p.1)).getD (0, [])).2 = _
  cases e : ks.find? fun q => decide (q.1 = p.1) with
  | none => exact absurd (List.find?_eq_none.mp e p hp) (by simp)
  | some q =>
    have e1 : q.1 = p.1 := of_decide_eq_true (List.find?_some (p := fun q : Addr × List Int => decide (q.1 = p.1)) e)
    have a1 := (hk q (List.mem_of_find?_eq_some e)).1
    have a2 := (hk p hp).1
    rw [e1, a2] at a1
    have a3 : p.2.map V.int = q.2.map V.int := by injection a1 with z; injection z
    have a4 : p.2 = q.2 := by
      have inj : ∀ l m : List Int, l.map V.int = m.map V.int → l = m := by
        intro l
        induction l with
        | nil => intro m hm; cases m with
          | nil => rfl
          | cons => cases hm
        | cons x l ih => intro m hm; cases m with
          | nil => cases hm
          | cons y m =>
            injection hm with h1 h2
            injection h1 with h1
            rw [h1, ih m h2]
      exact inj _ _ a3
    show cel q.2 = _
    rw [a4]
theorem dSortC {K : PySem.W.Frag} : DF (rSortedPO K) (t1 (rL rC)) (fun ys => oLi (tl rC) ys) fun xs => .ok (sortC xs) := fun xs vs F H Q e ⟨v, ev, p, ws, e2, hp, r⟩ h => by
  obtain ⟨ks, f1, f2, f3⟩ := rows_of r
  have f4 : ∀ p ∈ ks, RowOk H p := fun p hp => ⟨e _ _ (f3 p hp).1, (f3 p hp).2⟩
  refine ⟨p, ws, celOf ks, by rw [ev, e2], .inl (.inl (e p _ hp)), fun x hx => ?_, fun ys q st sb hn => ?_⟩
  · rw [f1] at hx
    obtain ⟨r0, r1, rfl⟩ := List.mem_map.mp hx
    refine ⟨r0.1, rfl, ?_⟩
    rw [celOf_mem f4 r1, (f4 r0 r1).1]
    obtain ⟨a, l⟩ := r0
    have z := (f3 _ r1).2
    match l, z with
    | [x, y], _ => rfl
  · refine h q _ hn ⟨_, rfl, ?_⟩
    have mem : ∀ y ∈ ys, ∃ p ∈ ks, y = V.ref p.1 := fun y hy => by
      have z := sb.perm.mem_iff.mp hy
      rw [f1] at z
      obtain ⟨p, hp, e⟩ := List.mem_map.mp z
      exact ⟨p, hp, e.symm⟩
    have rep : ∀ zs : List V, (∀ y ∈ zs, ∃ p ∈ ks, y = V.ref p.1) → RepL rC F (zs.map (celOf ks)) zs := by
      intro zs
      induction zs with
      | nil => intro _; exact .nil
      | cons y zs ih =>
        intro hz
        obtain ⟨p, hp, rfl⟩ := hz y List.mem_cons_self
        refine .cons ?_ (ih fun u hu => hz u (List.mem_cons_of_mem _ hu))
        rw [celOf_mem f4 hp]
        have one := rows_rep (F := F) [p] fun q hq => by rw [List.mem_singleton.mp hq]; exact f3 p hp
        cases one with
        | cons r _ => exact r
    have e3 : sortC xs = ys.map (celOf ks) := by
      refine asc_eq totC (asc_srt totC xs) ?_ ((perm_srt xs).trans ?_)
      · rw [Asc, List.pairwise_map]
        refine st.imp fun {a b} z => ?_
        have z' := lexB_no.mp (show lexB (celOf ks b) (celOf ks a) = false from z)
        exact ltC_no.mpr z'
      · have z := (sb.perm.map (celOf ks)).symm
        refine List.Perm.trans (List.Perm.of_eq ?_) z
        rw [f2, f1, List.map_map]
        exact List.map_congr_left fun p hp => (celOf_mem f4 hp).symm
    rw [e3]
    exact rep ys mem
section
variable {X : Cx} {U : Wi} {Γ : List Sl} {e : Expr} {pos p2 p3 p4 : Pos}
theorem f_sortC {m : R (List (Int × Int))} (hm : X.mg "sorted" = none) (he : EX X U Γ e (rL rC) m) (hg : Gl X "sorted" := by rfl)
    (h1 : starEach [e] X.env = (false, eval e X.env) :: starEach [] X.env := by rfl) (h2 : (backTo pos (starEach [] X.env)).any (·.1) = false := by rfl) :
    FX X U Γ (.Call (.Name "sorted" p2) [e] [] pos) (fun ys => oLi (tl rC) ys) (m.bind fun xs => .ok (sortC xs)) :=
  (f_callB cr_sortedPO dSortC hm (by decide +kernel) (a_one he h1) hg (by decide) (by decide) h1 h2).cv (by cases m <;> rfl)
end
end Py

/-! Own layer, part H: how a law ends; plain words about mirrors. -/
namespace Py
open PySem PySem.Spec PyProof.Rows L2
section
variable {X : Cx} {U : Wi} {Γ : List Sl} {e : Expr} {α ω : Type} {ρ : Rp α} {sts : List Stmt} {I : ω → Kd}
/-- where the law never comes -/
theorem s_bad : SX X U Γ sts I .bad := ⟨fun en F σ H D s h => h.elim⟩
end
/-- what a law is asked -/
def SpL (K : PySem.W.Frag) : Sp := fun vs H Q _ => ∃ (a : Addr) (ns : List Int), vs = [.ref a] ∧ SqL K H a (ns.map V.int) ∧ ns.length ≤ 63 ∧ (∀ z ∈ ns, Builtin.Int.intBits z ≤ 1048576) ∧ ∀ H', Q (.bl true) H'
theorem law_fn {P : Program} {w : World} {K : PySem.W.Frag} {mg : Str → Option Value} {base : Heap} {CX : CXT} {k : Nat} {f : Addr} {fd : FuncData} {ps : List Str} {g : List Int → R Bool} (F : FnOk P w K mg base CX k f fd ps (SpP mg (t1 (rScr K)) rB g))
    (h : ∀ ns : List Int, ns.length ≤ 63 → (∀ z ∈ ns, Builtin.Int.intBits z ≤ 1048576) → g ns = .ok true) : FnOk P w K mg base CX k f fd ps (SpL K) :=
  F.imp fun vs H Q E ⟨a, ns, e, hS, hl, hb, q⟩ => by
    subst e
    refine ⟨H, ns, Same.refl H, ⟨.ref a, rfl, a, rfl, hS⟩, ?_⟩
    rw [h ns hl hb]
    exact fun v F' H' _ r => by
      rw [show v = .bl true from r]
      exact q H'
theorem cx_end {P : Program} {w : World} {H : Hp} {s : Shared} {e : Value} {s' : Shared} (h : L2.CX P w [] H s (fun _ _ _ => False) e s') : False := by
  obtain ⟨_, _, _, _, _, _, _, _, _, _, _, _, f⟩ := h
  exact f

/-! ### a mirror that ends well -/
/-- it gives something of which P is true -/
def Gd {α : Type} (m : R α) (P : α → Prop) : Prop := ∃ a, m = .ok a ∧ P a
section
variable {α β γ τ : Type} {P : α → Prop} {Q : β → Prop}
theorem Gd.eq {m : R α} {a : α} (h : Gd m (· = a)) : m = .ok a := by
  obtain ⟨b, e, rfl⟩ := h
  exact e
theorem Gd.of {m : R α} {a : α} (h : m = .ok a) (p : P a) : Gd m P := ⟨a, h, p⟩
theorem Gd.ok {a : α} (p : P a) : Gd (.ok a) P := ⟨a, rfl, p⟩
theorem Gd.mono {m : R α} {P' : α → Prop} (h : Gd m P) (k : ∀ a, P a → P' a) : Gd m P' := by
  obtain ⟨a, e, p⟩ := h
  exact ⟨a, e, k a p⟩
theorem Gd.bind {m : R α} {f : α → R β} (h : Gd m P) (k : ∀ a, P a → Gd (f a) Q) : Gd (m.bind f) Q := by
  obtain ⟨a, e, p⟩ := h
  subst e
  exact k a p
theorem Gd.eqB {m : R α} {a : α} {f : α → R β} (h : m = .ok a) (k : Gd (f a) Q) : Gd (m.bind f) Q := by
  subst h
  exact k
theorem Gd.chk {c : Prop} [Decidable c] {a : α} (hc : c) (p : P a) : Gd (Py.chk c a) P := ⟨a, by unfold Py.chk; rw [if_pos hc], p⟩
theorem Gd.chkB {c : Prop} [Decidable c] {a : α} {f : α → R β} (hc : c) (k : Gd (f a) Q) : Gd ((Py.chk c a).bind f) Q := (Gd.chk (P := fun b => b = a) hc rfl).bind fun b e => by rw [e]; exact k
theorem Gd.optB {o : Option α} {a : α} {f : α → R β} (h : o = some a) (k : Gd (f a) Q) : Gd ((ofOpt o).bind f) Q := by
  subst h
  exact k
theorem Gd.ite {c : Prop} [Decidable c] {m1 m2 : R α} (h1 : c → Gd m1 P) (h2 : ¬ c → Gd m2 P) : Gd (if c then m1 else m2) P := by
  split
  · exact h1 ‹_›
  · exact h2 ‹_›
theorem Gd.forR {I : τ → Prop} {f : τ → α → R τ} : ∀ {xs : List α} {s : τ}, (∀ s x, x ∈ xs → I s → Gd (f s x) I) → I s → Gd (Py.forR f xs s) I
  | [], _, _, h0 => ⟨_, rfl, h0⟩
  | x :: xs, s, h, h0 => (h s x List.mem_cons_self h0).bind fun s' h1 => Gd.forR (fun s y hy => h s y (List.mem_cons_of_mem _ hy)) h1
/-- what is known of what was passed -/
theorem Gd.forRp {I : List α → τ → Prop} {f : τ → α → R τ} : ∀ {pre xs : List α} {s : τ}, (∀ p x q s, xs = p ++ x :: q → I (pre ++ p) s → Gd (f s x) (I (pre ++ p ++ [x]))) → I pre s → Gd (Py.forR f xs s) (I (pre ++ xs))
  | pre, [], s, _, h0 => ⟨_, rfl, by rw [List.append_nil]; exact h0⟩
  | pre, x :: xs, s, h, h0 => by
    refine Gd.bind (P := I (pre ++ [x])) ?_ fun s' h1 => ?_
    · have z := h [] x xs s rfl (by rw [List.append_nil]; exact h0)
      rw [List.append_nil] at z
      exact z
    · have z := Gd.forRp (I := I) (f := f) (pre := pre ++ [x]) (xs := xs) (s := s') (fun p y q s e hi => ?_) h1
      · rw [List.append_assoc] at z
        exact z
      · have k := h (x :: p) y q s (by rw [e] <;> rfl) (by
          have e2 : pre ++ x :: p = pre ++ [x] ++ p := by rw [List.append_assoc] <;> rfl
          rw [e2]
          exact hi)
        have e2 : pre ++ x :: p ++ [y] = pre ++ [x] ++ p ++ [y] := by simp
        rw [e2] at k
        exact k
theorem Gd.forRl {I : List α → τ → Prop} {f : τ → α → R τ} {xs : List α} {s : τ} (h : ∀ p x q s, xs = p ++ x :: q → I p s → Gd (f s x) (I (p ++ [x]))) (h0 : I [] s) : Gd (Py.forR f xs s) (I xs) :=
  Gd.forRp (pre := []) h h0
/-- it goes on -/
abbrev On (I : τ → Prop) : Stp τ γ → Prop := fun o => ∃ s, o = .nx s ∧ I s
abbrev Done (I : τ → Prop) : Out τ γ → Prop := fun o => ∃ s, o = .nx s ∧ I s
theorem Gd.forS {I : τ → Prop} {f : τ → α → R (Stp τ γ)} : ∀ {xs : List α} {s : τ}, (∀ s x, x ∈ xs → I s → Gd (f s x) (On I)) → I s → Gd (Py.forS f xs s) (Done I)
  | [], _, _, h0 => ⟨_, rfl, _, rfl, h0⟩
  | x :: xs, s, h, h0 => (h s x List.mem_cons_self h0).bind fun o h1 => by
    obtain ⟨s', e, h2⟩ := h1
    subst e
    exact Gd.forS (fun s y hy => h s y (List.mem_cons_of_mem _ hy)) h2
theorem Gd.forSB {δ : Type} {I : τ → Prop} {f : τ → α → R (Stp τ γ)} {xs : List α} {s : τ} {k : τ → R δ} {mk : γ → δ} {Q : δ → Prop} (h : ∀ s x, x ∈ xs → I s → Gd (f s x) (On I)) (h0 : I s) (hk : ∀ s, I s → Gd (k s) Q) : Gd ((Py.forS f xs s).bind (outK k mk)) Q :=
  (Gd.forS h h0).bind fun o ⟨s', e, h2⟩ => by
    subst e
    exact hk s' h2
theorem Gd.nx {I : τ → Prop} {s : τ} (h : I s) : Gd (R.ok (Stp.nx s : Stp τ γ)) (On I) := ⟨_, rfl, s, rfl, h⟩
theorem mapR_ok {f : α → R β} {g : α → β} : ∀ {xs : List α}, (∀ x ∈ xs, f x = .ok (g x)) → mapR f xs = .ok (xs.map g)
  | [], _ => rfl
  | x :: xs, h => by
    show (f x).calm.bind _ = _
    rw [h x List.mem_cons_self]
    show (mapR f xs).bind _ = _
    rw [mapR_ok fun y hy => h y (List.mem_cons_of_mem _ hy)]
    rfl
theorem Gd.mapRB {f : α → R β} {g : α → β} {xs : List α} {k : List β → R γ} {Q : γ → Prop} (h : ∀ x ∈ xs, f x = .ok (g x)) (hk : Gd (k (xs.map g)) Q) : Gd ((mapR f xs).bind k) Q := by
  rw [mapR_ok h]
  exact hk
end
/-- bits -/
theorem log2_lt {x : Int} {k : Nat} (h : x.natAbs < 2 ^ k) (hk : 0 < k) : x.natAbs.log2 < k := by
  by_cases z : x.natAbs = 0
  · rw [z]
    exact hk
  · exact (Nat.log2_lt z).mpr h
theorem mulW_ok {i j : Int} (k : Nat) (hk : 0 < k ∧ k ≤ 500000) (hi : i.natAbs < 2 ^ k) (hj : j.natAbs < 2 ^ k) : CMulW i j := by
  have a := log2_lt hi hk.1
  have b := log2_lt hj hk.1
  unfold CMulW
  omega
theorem dv_ok {j : Int} (h : 0 < j) (k : Nat) (hk : 0 < k ∧ k ≤ 8900) (hj : j.natAbs < 2 ^ k) : CDv j := ⟨h, by
  have a := log2_lt hj hk.1
  omega⟩
theorem small_size {n : Nat} (h : n ≤ 100000) : n ≤ sizeLine := by
  rw [sizeLine_eq]
  omega
theorem small_lt {n : Nat} (h : n < 100000) : n < sizeLine := by
  rw [sizeLine_eq]
  omega
theorem mem_rangeI {lo hi x : Int} : x ∈ rangeI lo hi ↔ lo ≤ x ∧ x < hi := by
  unfold rangeI
  rw [List.mem_map]
  constructor
  · rintro ⟨i, hi2, rfl⟩
    have := List.mem_range.mp hi2
    omega
  · rintro ⟨h1, h2⟩
    exact ⟨(x - lo).toNat, List.mem_range.mpr (by omega), by omega⟩
theorem len_rangeI (lo hi : Int) : (rangeI lo hi).length = (hi - lo).toNat := by
  unfold rangeI
  rw [List.length_map, List.length_range]

/-! ### dicts -/
section
variable {κ ν : Type} [DecidableEq κ]
theorem find_map_same (k y : κ) (v : ν) (h : y ≠ k) : ∀ d : List (κ × ν), ((d.map fun q => if q.1 = k then (q.1, v) else q).find? fun q => decide (q.1 = y)).map Prod.snd = (d.find? fun q => decide (q.1 = y)).map Prod.snd
  | [] => rfl
  | q :: d => by
    rw [List.map_cons, List.find?_cons, List.find?_cons]
    by_cases c : q.1 = k
    · rw [if_pos c]
      have n : decide (q.1 = y) = false := decide_eq_false fun z => h (z.symm.trans c)
      simp only [n]
      exact find_map_same k y v h d
    · rw [if_neg c]
      by_cases e : q.1 = y
      · simp [e]
      · simp only [decide_eq_false e]
        exact find_map_same k y v h d
theorem find_map_new (k : κ) (v : ν) : ∀ d : List (κ × ν), (d.any fun q => decide (q.1 = k)) = true → ((d.map fun q => if q.1 = k then (q.1, v) else q).find? fun q => decide (q.1 = k)).map Prod.snd = some v
  | [], h => by simp at h
  | q :: d, h => by
    rw [List.map_cons, List.find?_cons]
    by_cases c : q.1 = k
    · rw [if_pos c]
      simp [c]
    · rw [if_neg c]
      simp only [decide_eq_false c]
      refine find_map_new k v d ?_
      simpa [c] using h
theorem dGet_dPut (d : List (κ × ν)) (k y : κ) (v : ν) : dGet (dPut d k v) y = if y = k then some v else dGet d y := by
  unfold dGet dPut
  split
  · next h =>
    by_cases c : y = k
    · subst c
      rw [if_pos rfl]
      exact find_map_new y v d h
    · rw [if_neg c]
      exact find_map_same k y v c d
  · next h =>
    rw [List.find?_append]
    by_cases c : y = k
    · subst c
      have n : (d.find? fun q => decide (q.1 = y)) = none := by
        rw [List.find?_eq_none]
        intro q hq z
        exact h (List.any_eq_true.mpr ⟨q, hq, z⟩)
      rw [n, if_pos rfl]
      simp
    · rw [if_neg c]
      have n : ([(k, v)].find? fun q => decide (q.1 = y)) = none := by
        simp [Ne.symm c]
      rw [n, Option.or_none]
theorem len_dPut (d : List (κ × ν)) (k : κ) (v : ν) : (dPut d k v).length ≤ d.length + 1 := by
  unfold dPut
  split
  · rw [List.length_map]
    exact Nat.le_succ _
  · simp
/-- a dict of what was passed -/
def SeenBy (p : List κ) (d : List (κ × Bool)) : Prop := d.length ≤ p.length ∧ ∀ y, (dGet d y).isSome = hasB y p
theorem SeenBy.nil : SeenBy ([] : List κ) [] := ⟨Nat.le_refl _, fun y => rfl⟩
theorem SeenBy.put {p : List κ} {d : List (κ × Bool)} (h : SeenBy p d) (k : κ) (v : Bool) : SeenBy (p ++ [k]) (dPut d k v) := by
  refine ⟨?_, fun y => ?_⟩
  · have := len_dPut d k v
    have := h.1
    simp
    omega
  · rw [dGet_dPut]
    by_cases c : y = k
    · rw [if_pos c]
      show true = hasB y (p ++ [k])
      rw [eq_comm, hasB_iff, c]
      simp
    · rw [if_neg c, h.2, Bool.eq_iff_iff, hasB_iff, hasB_iff]
      simp [c]
end
section
variable {α β γ τ : Type}
end
theorem cut_len {α : Type} {xs : List α} {lo hi : Option Int} : (cutL xs lo hi).length ≤ xs.length := by
  unfold cutL
  rw [List.length_take, List.length_drop]
  omega
theorem mod_small {a b : Int} (k : Nat) (hb : 0 < b) (hk : b ≤ 2 ^ k) : (a % b).natAbs < 2 ^ k := by
  have h1 := Int.emod_nonneg a (Int.ne_of_gt hb)
  have h2 := Int.emod_lt_of_pos a hb
  have e : ((2 ^ k : Nat) : Int) = (2 : Int) ^ k := by rw [Int.natCast_pow] <;> rfl
  omega
/-! ### shapes -/
end Py

/-! Own layer, part I: more displays of ranges. -/
namespace Py
open PySem PySem.Spec PyProof.Rows L2
/-- the same words, to be rewritten by step for step -/
theorem ok_bindP {α β : Type} (a : α) (f : α → R β) : (R.ok a).bind f = f a := Eq.trans (R.ok_bind a f) rfl
theorem ok_calmP {α : Type} (a : α) : (R.ok a).calm = R.ok a := Eq.trans (R.ok_calm a) rfl
section
variable {X : Cx} {U : Wi} {Γ : List Sl} {a : Expr} {pos p p2 p3 : Pos}
end
end Py

/-! Own layer, part J: sorted of whatever gives cells: a dict keyed by cells, a tuple of cells. -/
namespace Py
open PySem PySem.Spec PyProof.Rows L2 SrtO
section
variable {P : Program} {w : World} {A : Around} {E : Value → Shared → Prop} {s : Shared}
/-- sorted(x), where going through x gives the rows L in some order -/
theorem sorted_col {a : Addr} {L : List (Addr × List Int)} {Q : Value → Shared → Prop} (uniq : ∀ p ∈ L, ∀ r ∈ L, p.1 = r.1 → p = r) (tup : ∀ p ∈ L, L2.IsT P w s.heap p.2 p.1) (h2 : ∀ p ∈ L, p.2.length = 2) (few : L.length ≤ sizeLine)
    (col : ∀ R : List Value → Shared → Prop, (∀ met s1, (∀ b o, s.heap.get? b = some o → s1.heap.get? b = some o) → s1.gens = s.gens → s1.os = s.os → s1.drawn = s.drawn → met.Perm (L.map fun p => Value.ref p.1) → R met s1) → wpAny (model P w) A.in1 (collect (.ref a)) R E s)
    (hQ : ∀ (h1 h' : Heap) (tk : Nat) (q : Addr) (out : List (Addr × List Int)), (∀ b o, s.heap.get? b = some o → h1.get? b = some o) → (∀ b o, h1.get? b = some o → h'.get? b = some o) → h1.objs.size ≤ q →
      (∃ c, h'.get? q = some (seqObj "list" (out.map fun p => Value.ref p.1).toArray c)) → out.Perm L → out.Pairwise (fun p r => lexB (cel r.2) (cel p.2) = false) → Q (.ref q) { s with heap := h', toks := tk }) :
    wpAny (model P w) A (call (.builtin "sorted") [.ref a]) Q E s := by
  refine Calls.call_function_entry kind_sorted plain_sorted entry_sorted (args_sorted1 _) (?_ : _)
  unfold Builtin.«sorted»
  refine wpAny_bind (m := checkCount "sorted" 1 1 _) (wpAny_pure (wpAny_bind (col _ ?_)))
  intro met s1 kp gens1 os1 dr1 perm2
  have len : met.length = L.length := by rw [perm2.length_eq, List.length_map]
  have isp : ∀ h', (∀ b o, s.heap.get? b = some o → h'.get? b = some o) → ∀ v ∈ met, Srt.IsPair h' v (cel (rowAt L v).2).1 (cel (rowAt L v).2).2 := by
    intro h' kh v hv
    obtain ⟨p, hp, rfl⟩ := List.mem_map.mp (perm2.mem_iff.mp hv)
    rw [rowAt_mem uniq hp]
    exact pair_of_row (isT_keep (tup p hp) kh) (h2 p hp)
  have bound : met.length ≤ sizeLine := len ▸ few
  refine wpAny_bind (wpAny_newList (?_ : _) bound)
  have new : (s1.heap.push (seqObj "list" met.toArray 0)).get? s1.heap.objs.size = some (seqObj "list" met.toArray 0) := Heap.get?_push_size _ rfl
  have kp2 : ∀ b o, s.heap.get? b = some o → (s1.heap.push (seqObj "list" met.toArray 0)).get? b = some o := fun b o e => Heap.get?_push_of_some _ (kp b o e)
  refine wpAny_bind (wpAny_holding (wpAny_call_entry slot_list_sort ⟨_, new, rfl⟩ entry_list_sort
    (list_sort_ord (s := { s1 with heap := s1.heap.push (seqObj "list" met.toArray 0) }) (swo_lex fun v => cel (rowAt L v).2) new bound (fun two => pairs_sortableO (k := fun v => cel (rowAt L v).2) (by omega) (fun v hv => isp _ kp2 v hv) fun o e c => ?_) fun out hs hb => ⟨_, rfl, ?_⟩) (args_list_sort _)))
  · have e' := e.symm.trans new
    cases e'
    exact absurd (Value.type.inj c) (by decide)
  · have perm3 : out.Perm met := hb.perm
    have e1 : (out.map (rowAt L)).map (fun p => Value.ref p.1) = out := by
      rw [List.map_map]
      refine (List.map_congr_left fun v hv => ?_).trans (List.map_id out)
      obtain ⟨p, hp, rfl⟩ := List.mem_map.mp (perm2.mem_iff.mp (perm3.mem_iff.mp hv))
      show Value.ref (rowAt L (.ref p.1)).1 = _
      rw [rowAt_mem uniq hp] <;> rfl
    have e2 : (L.map fun p => Value.ref p.1).map (rowAt L) = L := by
      rw [List.map_map]
      exact (List.map_congr_left fun p hp => rowAt_mem uniq hp).trans (List.map_id L)
    obtain ⟨c, hc⟩ := sortedHeap_at (vs := met) (out := out.toArray) new
    refine wpAny_pure ⟨_, rfl, ?_⟩
    generalize hh : sortedHeap (s1.heap.push (seqObj "list" met.toArray 0)) s1.heap.objs.size met out.toArray = hN at hc
    have eq : ({ s1 with heap := hN } : Shared) = { s with heap := hN, toks := s1.toks } := by
      cases s1
      cases s
      cases os1
      cases gens1
      cases dr1
      rfl
    rw [eq]
    refine hQ s1.heap hN s1.toks s1.heap.objs.size (out.map (rowAt L)) kp (fun b o e => ?_) (Nat.le_refl _) ⟨c, by rw [e1]; exact hc⟩ ?_ ?_
    · have lt := Heap.lt_size e
      rw [← hh, sortedHeap_old (Nat.ne_of_lt lt) (by rw [size_push']; exact Nat.lt_succ_of_lt lt)]
      exact Heap.get?_push_of_some _ e
    · have z := (perm3.trans perm2).map (rowAt L)
      rw [e2] at z
      exact z
    · rw [List.pairwise_map]
      exact hs.imp fun h => h
end

/-- the ints of a key -/
def keyInts (k : List Key) : List Int := k.filterMap fun x => match x with
  | .inl i => some i
  | .inr _ => none
def TwoInts (k : List Key) : Prop := ∃ i j : Int, k = [.inl i, .inl j]
theorem TwoInts.len {k : List Key} (h : TwoInts k) : (keyInts k).length = 2 := by
  obtain ⟨i, j, rfl⟩ := h
  rfl
theorem TwoInts.kv {k : List Key} (h : TwoInts k) : k.map kV = (keyInts k).map V.int := by
  obtain ⟨i, j, rfl⟩ := h
  rfl
theorem rows_pair {H : Hp} : ∀ {kvs : List (List Key × V)} {xs : List (List Key × Addr × Value)}, Paired (fun (p : List Key × V) (q : List Key × Addr × Value) => p.1 = q.1 ∧ H q.2.1 = some (.tup (p.1.map kV)) ∧ RelV p.2 q.2.2) kvs xs → (∀ p ∈ kvs, TwoInts p.1) →
    ∃ L : List (Addr × List Int), (L.map fun p => Value.ref p.1) = xs.map (fun x => Value.ref x.2.1) ∧ L.length = xs.length ∧ (L.map fun p => p.2) = kvs.map (fun p => keyInts p.1) ∧ (∀ p ∈ L, RowOk H p)
  | _, _, .nil, _ => ⟨[], rfl, rfl, rfl, fun _ h => absurd h (by simp)⟩
  | _, _, .cons (a := p) (b := x) h t, ht => by
    obtain ⟨L, l1, l2, l3, l4⟩ := rows_pair t fun q hq => ht q (List.mem_cons_of_mem _ hq)
    have two := ht p List.mem_cons_self
    refine ⟨(x.2.1, keyInts p.1) :: L, by rw [List.map_cons, List.map_cons, l1], by simp [l2], by rw [List.map_cons, List.map_cons, l3], fun q hq => ?_⟩
    rcases List.mem_cons.mp hq with e | e
    · rw [e]
      exact ⟨by rw [← two.kv]; exact h.2.1, two.len⟩
    · exact l4 q e
/-- sorted(d), d keyed by cells -/
def rSortDC : List V → Hp → VK → Prop := fun vs H Q => ∃ (d : Addr) (kvs : List (List Key × V)), vs = [V.ref d] ∧ Rd H d (.dT kvs) ∧ (∀ p ∈ kvs, TwoInts p.1) ∧
  ∀ (out : List (Addr × List Int)) (q : Addr), (out.map fun p => p.2).Perm (kvs.map fun p => keyInts p.1) → out.Pairwise (fun p r => lexB (cel r.2) (cel p.2) = false) → (∀ p ∈ out, RowOk H p) → H q = none → Q (.ref q) (upd H q (.lst (out.map fun p => V.ref p.1)))
theorem cr_sortDC {X : Cx} (hc : X.calm = true) : CallR X (.builtin "sorted") rSortDC := by
  intro pins s σ H vs us Q I r ⟨d, kvs, e, hd, two, q⟩
  subst e
  rw [Vals.ref1 r]
  have okd : ObjOk X.prog X.w H s.heap d (.dT kvs) := hd.elim (fun h => I.hok d _ h) fun ⟨od, h⟩ => (I.hok d _ h).2
  obtain ⟨z, hs, ks, pr, o, es, ep, ho, hx, hdt, he, hn⟩ := okd
  obtain ⟨L, l1, l2, l3, l4⟩ := rows_pair pr two
  have sz : es.size = ks.length := size_of_entries he
  have kl : kvs.length = ks.length := Paired.length pr
  have isT : ∀ p ∈ L, L2.IsT X.prog X.w s.heap p.2 p.1 := fun p hp => I.isT (.inl (.inl (l4 p hp).1))
  have hh : X.A.in1.handled = none := I.ok.hd hc
  refine sorted_col (P := X.prog) (w := X.w) (L := L) (fun p hp r hr e => Prod.ext e ?_) isT (fun p hp => (l4 p hp).2) (by rw [l2]; omega) (fun R hR => ?_) fun h1 h' tk a out kp1 kp2 hsz ⟨c, hg⟩ pm pw => ?_
  · have a1 := isT p hp
    rw [e] at a1
    exact a1.inj (isT r hr)
  · refine PySem.W.kdu_collect (A := X.A.in1) (kdl_raw hs hx hdt) hh ho (by omega) fun h' tk acc k it => ?_
    refine hR _ _ k rfl rfl rfl (List.Perm.of_eq ?_)
    rw [l1]
    have hl : acc.toList.length = ks.length := by rw [Array.length_toList, it.1]; exact sz
    refine List.ext_getElem? fun j => ?_
    rw [List.getElem?_map]
    cases hj : acc.toList[j]? with
    | none =>
      have h1 := List.getElem?_eq_none_iff.mp hj
      rw [List.getElem?_eq_none (by omega)]
      rfl
    | some v =>
      obtain ⟨en, hen, hv⟩ := it.2 j v ((Array.getElem?_toList ..).symm.trans hj)
      have qe := entry_at he j
      rw [hen] at qe
      cases hb : ks[j]? with
      | none => rw [hb] at qe; cases qe
      | some b =>
        rw [hb] at qe
        have e2 : en = entryOfKey (tupleKind (mixKind X.prog X.w)) b := Option.some.inj qe
        rw [hv, e2]
        rfl
  · have I1 : Inv X pins σ H { s with heap := h1, toks := s.toks } := I.kept kp1
    have hn1 : H a = none := I1.hok.fresh hsz
    have hz : (out.map fun p => V.ref p.1).length ≤ sizeLine := by
      rw [List.length_map, pm.length_eq, l2]
      omega
    have J := I1.laid (t' := tk) (a := a) (o := .lst (out.map fun p => V.ref p.1)) (h' := h') kp2 hsz ⟨hz, _, c, vals_of_refs out, hg⟩
    exact ⟨.ref a, _, J, rfl, q out a ((pm.map _).trans (List.Perm.of_eq l3)) pw (fun p hp => l4 p (pm.mem_iff.mp hp)) hn1⟩
theorem repD_two {F : Hp} {ν : Type} {π : Rp ν} : ∀ {xs : List ((Int × Int) × ν)} {kvs : List (List Key × V)}, RepD kyC π F xs kvs → (∀ p ∈ kvs, TwoInts p.1) ∧ (kvs.map fun p => keyInts p.1) = xs.map fun q => [q.1.1, q.1.2]
  | _, _, .nil => ⟨fun _ h => absurd h (by simp), rfl⟩
  | _, _, .cons (k := k) r t => by
    obtain ⟨a, b⟩ := repD_two t
    refine ⟨fun p hp => ?_, by rw [List.map_cons, List.map_cons, b]; rfl⟩
    rcases List.mem_cons.mp hp with e | e
    · rw [e]
      exact ⟨k.1, k.2, rfl⟩
    · exact a p e
theorem SA.learnAll {en : En} {Γ : List Sl} {σ : L2.St} {H : Hp} : ∀ (L : List (Addr × List Int)) {F : Hp}, SA en Γ F σ H → (∀ p ∈ L, RowOk H p) →
    ∃ F', Same F F' ∧ SA en Γ F' σ H ∧ (∀ p ∈ L, RowOk F' p) ∧ ∀ q, F q = none → F' q = none ∨ ∃ vs, F' q = some (.tup vs)
  | [], F, s, _ => ⟨F, Same.refl F, s, fun _ h => absurd h (by simp), fun _ h => .inl h⟩
  | p :: L, F, s, h => by
    obtain ⟨F1, e1, s1, r1, n1⟩ := SA.learnAll L s fun q hq => h q (List.mem_cons_of_mem _ hq)
    have hp := h p List.mem_cons_self
    cases q : F1 p.1 with
    | some o =>
      have y := s1.sub p.1 o q
      rw [hp.1] at y
      refine ⟨F1, e1, s1, fun r hr => ?_, n1⟩
      rcases List.mem_cons.mp hr with z | z
      · rw [z]
        exact ⟨by rw [q, ← y], hp.2⟩
      · exact r1 r z
    | none =>
      obtain ⟨s2, e2⟩ := s1.learn hp.1 q
      refine ⟨_, e1.trans e2, s2, fun r hr => ?_, fun b hb => ?_⟩
      · rcases List.mem_cons.mp hr with z | z
        · rw [z]
          exact ⟨upd_same, hp.2⟩
        · exact ⟨e2 _ _ (r1 r z).1, (r1 r z).2⟩
      · by_cases z : b = p.1
        · subst z
          exact .inr ⟨_, upd_same⟩
        · rw [upd_ne z]
          exact n1 b hb
theorem keyInts_cel {xs : List (Int × Int)} : ∀ {ks : List (List Int)}, ks.Perm (xs.map fun q => [q.1, q.2]) → (ks.map cel).Perm xs := fun {ks} p => by
  have z := p.map cel
  rw [List.map_map] at z
  exact z.trans (List.Perm.of_eq ((List.map_congr_left fun q _ => rfl).trans (List.map_id xs)))
section
variable {X : Cx} {U : Wi} {Γ : List Sl} {e : Expr} {pos p2 : Pos}
/-- sorted(d), d a dict keyed by cells -/
theorem f_sortDG {ν : Type} {π : Rp ν} {m : R (List ((Int × Int) × ν))} (hm : X.mg "sorted" = none) (he : DG X U Γ e kyC π m) (hc : X.calm = true := by rfl) (hg : Gl X "sorted" := by rfl)
    (h1 : starEach [e] X.env = (false, eval e X.env) :: starEach [] X.env := by rfl) (h2 : (backTo pos (starEach [] X.env)).any (·.1) = false := by rfl) :
    FX X U Γ (.Call (.Name "sorted" p2) [e] [] pos) (fun ys => oLi (tl rC) ys) (m.bind fun xs => .ok (sortC (xs.map Prod.fst))) :=
  ⟨fun en F σ H Q s h => wE_of (pe_callB (cr_sortDC hc) hg hm (by decide +kernel) (pa_cons wE_pe pa_nil h1) (by decide) (by decide) h1 h2) (he.out en F σ H _ s (wpR_mono (wpR_bind h) (fun xs k d kvs F1 H1 e1 s1 hd r _ => by
    obtain ⟨two, ks⟩ := repD_two r
    refine ⟨d, kvs, rfl, hd, two, fun out q pm pw ok hn => ?_⟩
    obtain ⟨s2, fr⟩ := s1.lay (o := .lst (out.map fun p => V.ref p.1)) hn
    have ok2 : ∀ p ∈ out, RowOk (upd H1 q (.lst (out.map fun p => V.ref p.1))) p := fun p hp => ⟨Same.upd hn _ _ (ok p hp).1, (ok p hp).2⟩
    obtain ⟨F2, e3, s3, r3, n3⟩ := SA.learnAll out s2 ok2
    refine k q _ F2 _ (e1.trans e3) s3 ⟨no_tup s3.sub (n3 q fr.f) fr.h (fun _ z => nomatch z), fr.e, fr.n, fr.h⟩ ⟨_, rfl, ?_⟩
    have e4 : sortC (xs.map Prod.fst) = out.map fun p => cel p.2 := by
      refine asc_eq totC (asc_srt totC _) ?_ ((perm_srt _).trans ?_)
      · rw [Asc, List.pairwise_map]
        exact pw.imp fun z => ltC_no.mpr (lexB_no.mp z)
      · have z := pm.trans (List.Perm.of_eq ks)
        have y := keyInts_cel (xs := xs.map Prod.fst) (ks := out.map fun p => p.2) (by rw [List.map_map]; exact z)
        rw [List.map_map] at y
        exact y.symm
    rw [e4]
    exact rows_rep out r3) fun _ z => z))⟩
theorem f_sortD {ν : Type} {π : Rp ν} {m : R (List ((Int × Int) × ν))} (hm : X.mg "sorted" = none) (he : EX X U Γ e (rD kyC π) m) (hc : X.calm = true := by rfl) (hg : Gl X "sorted" := by rfl)
    (h1 : starEach [e] X.env = (false, eval e X.env) :: starEach [] X.env := by rfl) (h2 : (backTo pos (starEach [] X.env)).any (·.1) = false := by rfl) :
    FX X U Γ (.Call (.Name "sorted" p2) [e] [] pos) (fun ys => oLi (tl rC) ys) (m.bind fun xs => .ok (sortC (xs.map Prod.fst))) := f_sortDG hm (d_imm he) hc hg h1 h2
end

/-! ### + of lists that are read alone -/
section
variable {X : Cx} {U : Wi} {Γ : List Sl} {a b : Expr} {pos : Pos}
end
end Py

/-! Own layer, part K: a list that is lent to a callee, which changes it. -/
namespace Py
open PySem PySem.Spec PyProof.Rows L2

/-- all is kept but the object at p -/
structure ExtM (p : Addr) (F H F' H' : Hp) : Prop where
  f : Same F F'
  h : ∀ q o, q ≠ p → H q = some o → H' q = some o
  s : Same F' H'
  n : ∀ q, q ≠ p → H q ≠ none → F q = none → F' q = none ∨ ∃ vs, F' q = some (.tup vs)
section
variable {P : Program} {w : World} {K : PySem.W.Frag} {mg : Str → Option Value} {base : Heap}
end

section
variable {en : En} {Γ : List Sl} {F F' H H' : Hp} {σ : L2.St}
/-- behind a callee that changed an own list -/
theorem SA.lent {α : Type} {ρl : Rp α} {l l' : List α} {a0 : Option Addr} {i : Nat} {p : Addr} {ws : List V} (s : SA en Γ F σ H) (hi : Γ[i]? = some (.own a0 (oLi (tl ρl) l))) (hp : σ[i]? = some (some (.ref p))) (x : ExtM p F H F' H') (hf : F' p = none) (ho : H' p = some (.lst ws)) (r : RepL ρl F' l' ws) :
    SA en (Γ.set i (.own a0 (oLi (tl ρl) l'))) F' σ H' := by
  have s1 := s.mut (o' := .lst ws) (P' := ⟨fun _ o => ∃ vs, o = .lst vs, fun _ h => h, fun ⟨vs, h⟩ ws z => by rw [h] at z; cases z⟩) hi hp ⟨ws, rfl⟩
  have e : Ext F (upd H p (.lst ws)) F' H' := by
    refine ⟨x.f, fun q o h => ?_, x.s, fun q h hq => ?_⟩
    · by_cases z : q = p
      · subst z
        rw [upd_same] at h
        rw [ho, ← h]
      · rw [upd_ne z] at h
        exact x.h q o z h
    · by_cases z : q = p
      · subst z
        exact .inl hf
      · rw [upd_ne z] at h
        exact x.n q z h hq
  have s2 := s1.ext e
  have il : i < Γ.length := (List.getElem?_eq_some_iff.mp hi).1
  have hi2 : (Γ.set i (.own a0 ⟨fun _ o => ∃ vs, o = .lst vs, fun _ h => h, fun ⟨vs, h⟩ ws z => by rw [h] at z; cases z⟩))[i]? = some (.own a0 ⟨fun _ o => ∃ vs, o = .lst vs, fun _ h => h, fun ⟨vs, h⟩ ws z => by rw [h] at z; cases z⟩) := List.getElem?_set_self il
  have s3 := s2.mut (o' := .lst ws) (P' := oLi (tl ρl) l') hi2 hp ⟨ws, rfl, r⟩
  rw [List.set_set] at s3
  have e2 : upd H' p (.lst ws) = H' := funext fun q => by
    by_cases z : q = p
    · subst z
      rw [upd_same, ho]
    · rw [upd_ne z]
  rw [e2] at s3
  exact s3
end
section
variable {X : Cx} {U : Wi} {Γ : List Sl} {es : List Expr} {pos p p2 : Pos} {α τ γ : Type} {ρl : Rp α} {ρ : Rp γ} {t : Tr τ} {k : Nat} {f : Addr} {fd : FuncData} {ps : List Str} {n nf : Str}
end

section
variable {X : Cx} {U : Wi} {Γ : List Sl} {e : Expr} {rest : List Stmt} {pos p2 p3 p4 p5 p6 : Pos} {α ω : Type} {ρ : Rp α} {I : ω → Kd} {n d : Str}
end
end Py

/-! Own layer, part L: expressions that change a state on the way (a lent list). m : R (value × state). -/
namespace Py
open PySem PySem.Spec PyProof.Rows L2
section
variable {X : Cx} {U : Wi} {S : Type} {α β γ τ : Type} {ρ1 : Rp α} {ρ2 : Rp β} {ρ : Rp γ} {t : Tr τ} {a b e : Expr} {es : List Expr} {pos p : Pos}
abbrev ES (X : Cx) (U : Wi) {S : Type} (Γs : S → List Sl) (s : S) (e : Expr) {α : Type} (ρ : Rp α) (m : R (α × S)) : Prop := EG X U (Γs s) e ρ m (fun w => w.1) fun w => Γs w.2
abbrev AS (X : Cx) (U : Wi) {S : Type} (Γs : S → List Sl) (s : S) (es : List Expr) {τ : Type} (t : Tr τ) (m : R (τ × S)) : Prop := AG X U (Γs s) es t m (fun w => w.1) fun w => Γs w.2
variable {Γs : S → List Sl} {s : S}
theorem es_of {m : R γ} (h : EX X U (Γs s) e ρ m) : ES X U Γs s e ρ (m.bind fun x => .ok (x, s)) :=
  ⟨fun en F σ H Q sa q => h.out en F σ H Q sa (wpR_mono (wpR_bind q) (fun x k => k) fun _ z => z)⟩
theorem as_one {m : R (α × S)} (ha : ES X U Γs s a ρ1 m) (hs : starEach [a] X.env = (false, eval a X.env) :: starEach [] X.env := by rfl) : AS X U Γs s [a] (t1 ρ1) m :=
  ⟨fun en F σ H Q sa h => wA_of (pa_cons wE_pe pa_nil hs) (ha.out en F σ H _ sa (wpR_mono h (fun w k v F1 H1 e1 s1 r1 => k [v] F1 H1 e1 s1 ⟨v, rfl, r1⟩) fun _ z => z))⟩
theorem as_cons {m1 : R (α × S)} {m2 : S → R (τ × S)} (ha : ES X U Γs s a ρ1 m1) (hb : ∀ s', AS X U Γs s' es t (m2 s')) (hs : starEach (a :: es) X.env = (false, eval a X.env) :: starEach es X.env := by rfl) :
    AS X U Γs s (a :: es) (tc ρ1 t) (m1.bind fun w1 => (m2 w1.2).bind fun w2 => .ok ((w1.1, w2.1), w2.2)) :=
  g_acons (t' := tc ρ1 t) (ω2 := τ × S) (val := fun w : (α × τ) × S => w.1) (v2 := fun _ w => w.1) (Γ' := fun w => Γs w.2) (pk := fun (w1 : α × S) (w2 : τ × S) => ((w1.1, w2.1), w2.2)) (fun w1 w2 F v vs r q => ⟨v, vs, rfl, r, q⟩) (fun _ _ => rfl) ha (fun w1 => hb w1.2) hs
variable {k : Nat} {f : Addr} {fd : FuncData} {ps : List Str} {n nf : Str} {p2 : Pos}
end
end Py

/-! Own layer, part M: statements whose expression changes a state on the way. -/
namespace Py
open PySem PySem.Spec PyProof.Rows L2
section
variable {X : Cx} {U : Wi} {S : Type} {α β γ τ ω κ ν : Type} {ρ : Rp α} {π : Rp β} {t : Tr τ} {a b e c : Expr} {es : List Expr} {rest A B : List Stmt} {pos : Pos} {I : ω → Kd} {n : Str} {Γs : S → List Sl} {s : S}
theorem s_appendS {ρl : Rp α} {a0 : Option Addr} {p ap cp : Pos} {xs : List α} {m : R (α × S)} {k : α × S → R ω} (i : Nat) (he : ES X U Γs s e ρl m) (hr : ∀ w, SX X U ((Γs w.2).set i (.own a0 (oLi (tl ρl) (xs ++ [w.1])))) rest I (k w)) (hΓ : ∀ s, (Γs s)[i]? = some (.own a0 (oLi (tl ρl) xs)) := by exact fun _ => rfl) (hN : X.N[i]? = some n := by rfl)
    (hv : Vis X.env.scope n := by first | exact Or.inl rfl | exact Or.inr (Or.inl rfl) | exact Or.inr (Or.inr rfl)) (hd : (n == ("__debug__" : Str)) = false := by decide) (hcd : (n == ("__classdict__" : Str)) = false := by decide)
    (h1 : starEach [e] X.env = (false, eval e X.env) :: starEach [] X.env := by rfl)
    (hpe : ∀ to t, PE X (.Name n p) to → PA X [e] t → PE X (.Call (.Attribute (.Name n p) "append" ap) [e] [] cp) (tBM X.K "list" rAppend to t) := by exact fun _ _ ho ha => pe_bm PySem.F.plainAttrs_list PySem.F.slot_list_append PySem.F.type_list_append mt_append ho ha)
    (hs : swapsWith (.Call (.Attribute (.Name n p) "append" ap) [e] [] cp) none pos.line X.env = pure false := by rfl) :
    SX X U (Γs s) (.Expr (.Call (.Attribute (.Name n p) "append" ap) [e] [] cp) pos :: rest) I (m.bind fun w => (chk (xs.length < sizeLine) ()).bind fun _ => k w) :=
  ⟨fun en F σ H D sa h => wSs_of (pss_cons (ps_expr (hpe _ _ (pe_var hN hv hd hcd) (pa_cons wE_pe pa_nil h1)) hs) wSs_pss) (by
    obtain ⟨p, o, g1, g2, g3, ⟨vs, eo, rl⟩, g5, g6⟩ := sa.own i _ _ (hΓ s)
    subst eo
    refine ⟨.ref p, g1, .inl ⟨rfl, _, .inl (.inl g3)⟩, he.out en F σ H _ sa (wpR_mono (wpR_bind h) (fun w q u F1 H1 e1 s1 ry => ?_) fun _ z => z)⟩
    obtain ⟨p1, o1, f1, f2, f3, ⟨ws, eo, rl1⟩, f5, f6⟩ := s1.own i _ _ (hΓ w.2)
    subst eo
    have ep : p1 = p := by
      rw [g1] at f1
      injection f1 with f1
      injection f1 with f1
      injection f1 with f1
      exact f1.symm
    subst ep
    obtain ⟨hl, q⟩ := wpR_chk (wpR_bind q)
    refine ⟨p1, ws, u, rfl, rfl, f3, by rw [← rl1.length]; exact hl, ?_⟩
    exact (hr w).out en F1 σ _ D (s1.mut (P' := oLi (tl ρl) (xs ++ [w.1])) (hΓ w.2) f1 ⟨ws ++ [u], rfl, rl1.append (.cons ry .nil)⟩) (wpR_mono q (fun o z => z.up e1) fun _ z => z.up e1))⟩
end
end Py

/-! Own layer, part N: defs that give a new object; more expressions and statements with a state. -/
namespace Py
open PySem PySem.Spec PyProof.Rows L2

/-! ### a def that gives a new object -/
theorem Frs.le {en : En} {Γ Γ' : List Sl} {F H : Hp} {σ : L2.St} {p : Addr} {o : HO} (h : Frs en Γ F σ H p o) (l : Le Γ' Γ) : Frs en Γ' F σ H p o :=
  ⟨h.f, h.e, fun i a P hi => (l.get hi).elim (fun z => by cases z) fun z => h.n i a P z, h.h⟩
theorem Fresh.frs {en : En} {Γ : List Sl} {F H : Hp} {σ : L2.St} {p : Addr} {o : HO} (h : Fresh en Γ F σ H p o) : Frs en Γ F σ H p o := ⟨h.f, .inl h.e, h.n, h.h⟩
theorem Le.any : ∀ {Γ : List Sl} (i : Nat), Le (Γ.set i .any) Γ
  | [], _ => .nil
  | _ :: _, 0 => .cons .any Le.refl
  | _ :: _, i + 1 => .cons .rfl (Le.any i)
section
variable {X : Cx} {U : Wi} {Γ : List Sl} {e : Expr} {rest : List Stmt} {pos p : Pos} {α ω : Type} {I : ω → Kd} {n : Str}
theorem p_retF {P : α → ORp} {m : R α} (mk : α → ω) (Γr : α → List Sl) (e1 : ∀ w, (I (mk w)).cut = .rf (P w) (Γr w)) (l : ∀ w, Le (Γr w) Γ) (he : FX X U Γ e P m) : SX X U Γ (.Return (some e) pos :: rest) I (m.bind fun w => .ok (mk w)) :=
  s_last ⟨fun en F σ H D s h => wS_of (ps_ret wE_pe) (he.out en F σ H _ s (wpR_mono (wpR_bind h) (fun w k p o F' H' e' s' fr r => by
    have k' : Kd.sat ((I (mk w)).cut) en F D := k
    rw [e1] at k'
    exact k' p o F' σ H' e' (s'.le (l w)) (fr.frs.le (l w)) r) fun _ z => z))⟩
theorem p_retOwn {P : ORp} {a0 : Option Addr} {o : ω} {Γr : List Sl} (i : Nat) (hΓ : Γ[i]? = some (.own a0 P)) (e1 : (I o).cut = .rf P Γr) (l : Le Γr (Γ.set i .any)) (hN : X.N[i]? = some n := by rfl) (hv : Vis X.env.scope n := by first | exact Or.inl rfl | exact Or.inr (Or.inl rfl) | exact Or.inr (Or.inr rfl))
    (hd : (n == ("__debug__" : Str)) = false := by decide) (hcd : (n == ("__classdict__" : Str)) = false := by decide) : SX X U Γ (.Return (some (.Name n p)) pos :: rest) I (.ok o) :=
  s_last ⟨fun en F σ H D s h => wS_of (ps_ret (pe_var hN hv hd hcd)) (by
    have k' : Kd.sat ((I o).cut) en F D := h
    rw [e1] at k'
    obtain ⟨q, x, g1, g2, g3, g4, g5, g6⟩ := s.own i _ _ hΓ
    refine ⟨.ref q, g1, k' q x F σ H (Same.refl F) ((s.le (Le.any i)).le l) (Frs.le ⟨g2, g5, fun j a Q hj => ?_, g3⟩ l) g4⟩
    have hij : i ≠ j := fun z => by
      subst z
      by_cases hl : i < Γ.length
      · rw [List.getElem?_set_self hl] at hj
        cases hj
      · rw [List.getElem?_eq_none (by rw [List.length_set]; omega)] at hj
        cases hj
    rw [List.getElem?_set_ne hij] at hj
    exact s.dis i j _ _ _ _ q hij hΓ hj g1)⟩
end
/-- the promise of a def that gives a new object -/
def SpF (mg : Str → Option Value) {τ γ : Type} (t : Tr τ) (P : γ → ORp) (f : τ → R γ) : Sp := fun vs H Q E => ∃ F x, Same F H ∧ t.rep x F vs ∧
  wpR (f x) (fun z => ∀ p o F' H', Ext F H F' H' → H p = none → F' p = none → H' p = some o → (P z).p F' o → Q (.ref p) H') (fun r => ∀ cls d F' H', Ext F H F' H' → ErOk mg r cls d F' → E cls d H')
section
variable {P : Program} {w : World} {K : PySem.W.Frag} {mg : Str → Option Value} {base : Heap}
theorem f_okF {x qual : Str} {st : Stmt} {f : Addr} {fd : FuncData} {N ps : List Str} {k n : Nat} {τ γ : Type} {t : Tr τ} {Pf : γ → ORp} {fm : τ → R γ} {sl : τ → List Sl} (Γ0 : τ → List Sl) (Fn : FunZ K x qual st f fd) (S : FnScope N ps (defScope st)) (ar : Ar t n sl) (hn : n = ps.length) (hN : n ≤ N.length)
    (hΓ : ∀ a, Γ0 a = sl a ++ List.replicate (N.length - n) .any)
    (body : ∀ cdv A outer s H E (hr : Room k (A.deeper (envOfC qual (defScope st) s.heap.objs.size f cdv))) (tk : Takes (CxF P w K mg base N qual st f cdv A outer s H E) (UF E).W) (hp : PassesOwn (model P w) (A.deeper (envOfC qual (defScope st) s.heap.objs.size f cdv)) (envOfC qual (defScope st) s.heap.objs.size f cdv) (CxF P w K mg base N qual st f cdv A outer s H E).xe) (a : τ),
      SX (CxF P w K mg base N qual st f cdv A outer s H E) (UF E) (Γ0 a) (defBody st) (fun z : γ => .rf (Pf z) []) (fm a)) :
    FnOk P w K mg base (L2.CX P w) (k + 1) f fd ps (SpF mg t Pf fm) := by
  refine Fn.okX S (fun vs H Q E ⟨F, a, _, r, _⟩ => ?_) (fun cdv A outer s H vs Q E hr ⟨F, a, sF, r, hw⟩ => ?_)
  · rw [← hn]
    exact (ar.out a F vs r).1
  · obtain ⟨h1, h2, h3⟩ := ar.out a F vs r
    refine ⟨_, wSs_pss, ?_⟩
    have hst : ∀ (i : Nat) v, vs[i]? = some v → (L2.start N vs)[i]? = some (some v) := fun i v e => by
      unfold L2.start
      have hl : i < vs.length := (List.getElem?_eq_some_iff.mp e).1
      rw [List.getElem?_append_left (by rw [List.length_map]; exact hl), List.getElem?_map, e] <;> rfl
    have im0 : ∀ (i : Nat) x, (Γ0 a)[i]? = some x → x = .any ∨ ∃ P v, x = .imm P ∧ vs[i]? = some v ∧ P.p F v := fun i x hx => by
      rw [hΓ] at hx
      by_cases hl : i < (sl a).length
      · rw [List.getElem?_append_left hl] at hx
        exact .inr (h3 i x hx)
      · rw [List.getElem?_append_right (by omega), List.getElem?_replicate] at hx
        split at hx
        · exact .inl (Option.some.inj hx).symm
        · cases hx
    have sa : SA ⟨F, H, fun _ => False⟩ (Γ0 a) F (L2.start N vs) H := by
      refine ⟨?_, sF, Same.refl F, fun _ _ h _ => h, fun _ h => h, fun _ _ h _ => .inl h, fun i Q hi => ?_, fun i b Q hi => ?_, fun i j b c Q Q' p _ hi => ?_⟩
      · rw [hΓ, List.length_append, List.length_replicate, h2]
        unfold L2.start
        rw [List.length_append, List.length_map, List.length_replicate, h1]
        exact Nat.le_refl _
      · rcases im0 i _ hi with z | ⟨Q', v, z, hv, hq⟩
        · cases z
        · injection z with z
          subst z
          exact ⟨v, hst i v hv, hq⟩
      · rcases im0 i _ hi with z | ⟨Q', v, z, hv, hq⟩
        · cases z
        · cases z
      · rcases im0 i _ hi with z | ⟨Q', v, z, hv, hq⟩
        · cases z
        · cases z
    have fin : ∀ {F' : Hp} {σ' : L2.St} {H' : Hp}, Same F F' → SA ⟨F, H, fun _ => False⟩ [] F' σ' H' → Ext F H F' H' := fun {F' σ' H'} e s' => ⟨e, fun p o h => s'.old p o h (fun z => z), s'.sub, fun p h hf => s'.frz p h hf fun z => z⟩
    refine (body cdv A outer s H E hr (takes_of rfl rfl rfl rfl) (passes_of rfl) a).out ⟨F, H, fun _ => False⟩ F _ H _ sa (wpR_mono hw (fun z k => ?_) fun r z cls d F' σ' H' e s' o => z cls d F' H' (fin e s') o)
    exact fun p o F' σ' H' e s' fr r => k p o F' H' (fin e s') (fr.e.elim (fun z => z) fun z => z.elim) fr.f fr.h r
end
section
variable {X : Cx} {U : Wi} {Γ : List Sl} {a : Expr} {es : List Expr} {pos p : Pos} {τ γ : Type} {t : Tr τ} {k : Nat} {f : Addr} {fd : FuncData} {ps : List Str} {n : Str}
theorem f_call {Pf : γ → ORp} {fm : τ → R γ} {m : R τ} (G : FnOk X.prog X.w X.K X.mg X.base (L2.CX X.prog X.w) k f fd ps (SpF X.mg t Pf fm)) (hr : Room k X.A) (hm : X.mg n = some (.ref f)) (hk : PySem.W.keepIn X.K (.ref f) = true) (hb : Binds X.K fd ps []) (tk : Takes X U.W) (hle : Le U.Γ Γ)
    (ha : AX X U Γ (a :: es) t m) (hg : Gl X n := by rfl) (hdb : (n == ("__debug__" : Str)) = false := by decide) (he : starEach (a :: es) X.env = (false, eval a X.env) :: starEach es X.env := by rfl) (hpl : (backTo pos (starEach es X.env)).any (·.1) = false := by rfl) :
    FX X U Γ (.Call (.Name n p) (a :: es) [] pos) Pf (m.bind fun x => fm x) :=
  ⟨fun en F σ H Q s h => wE_of (pe_callSD G hr hg hm hk hb .nil (fun σ => passAt tk σ) wA_pa hdb he hpl) (ha.out en F σ H _ s (wpR_mono (wpR_bind h) (fun w k vs F1 H1 e1 s1 r1 =>
    ⟨F1, w, s1.sub, by rw [List.append_nil]; exact r1, wpR_mono k (fun z k p o F' H' x hp hf ho ru => k p o F' H' (e1.trans x.f) (s1.ext x) ⟨hf, s1.gone hp, s1.ref_ne hp, ho⟩ ru) fun r z cls d F' H' x o => z cls d F' σ H' (e1.trans x.f) ((s1.ext x).le hle) o⟩) fun _ z => z))⟩
end

/-! ### more expressions with a state -/
section
variable {X : Cx} {U : Wi} {S : Type} {α β γ τ ω ω' : Type} {ρ1 : Rp α} {ρ2 : Rp β} {ρ : Rp γ} {t : Tr τ} {a b c e : Expr} {es : List Expr} {A B rest : List Stmt} {pos p : Pos} {Γs : S → List Sl} {s : S} {I : ω → Kd} {I' : ω' → Kd} {n : Str}
theorem es_frz {m : R (τ × S)} (h : FG X U (Γs s) e (fun w : τ × S => oLi t w.1) m (fun w => Γs w.2)) : ES X U Γs s e (rLi t) m := x_frz (val := fun w : τ × S => w.1) h
variable {id T : String} {r : List V → Hp → VK → Prop}
theorem es_callTy {mr : τ → R γ} {m : R (τ × S)} (hc : CallR X (.type T) r) (hd : DC r t ρ mr) (hm : X.mg n = none) (hv : bootBuiltins n = some (.type T)) (ha : AS X U Γs s (a :: es) t m) (hg : Gl X n := by rfl)
    (hn : n ≠ "__name__" := by decide) (hdb : (n == ("__debug__" : Str)) = false := by decide) (he : starEach (a :: es) X.env = (false, eval a X.env) :: starEach es X.env := by rfl) (hpl : (backTo pos (starEach es X.env)).any (·.1) = false := by rfl) :
    ES X U Γs s (.Call (.Name n p) (a :: es) [] pos) ρ (m.bind fun w => (mr w.1).calm.bind fun z => .ok (z, w.2)) :=
  ⟨fun en F σ H Q sa h => wE_of (pe_callTy hc hg hm hv wA_pa hn hdb he hpl) (g_dataC hd (v1 := fun w : τ × S => w.1) (Γ1 := fun w => Γs w.2) (val := fun w : γ × S => w.1) (Γ' := fun w => Γs w.2) (fun (w : τ × S) z => (z, w.2)) (fun _ _ => rfl) (fun _ _ => rfl) ha sa h)⟩
theorem fs_callB {Pf : γ → ORp} {mr : τ → R γ} {m : R (τ × S)} (hc : CallR X (.builtin id) r) (hd : DF r t Pf mr) (hm : X.mg n = none) (hv : bootBuiltins n = some (.builtin id)) (ha : AS X U Γs s (a :: es) t m) (hg : Gl X n := by rfl)
    (hn : n ≠ "__name__" := by decide) (hdb : (n == ("__debug__" : Str)) = false := by decide) (he : starEach (a :: es) X.env = (false, eval a X.env) :: starEach es X.env := by rfl) (hpl : (backTo pos (starEach es X.env)).any (·.1) = false := by rfl) :
    FG X U (Γs s) (.Call (.Name n p) (a :: es) [] pos) (fun w : γ × S => Pf w.1) (m.bind fun w => (mr w.1).calm.bind fun z => .ok (z, w.2)) (fun w => Γs w.2) :=
  ⟨fun en F σ H Q sa h => wE_of (pe_callB hc hg hm hv wA_pa hn hdb he hpl) (g_dataF hd (v1 := fun w : τ × S => w.1) (Γ1 := fun w => Γs w.2) (val := fun w : γ × S => w.1) (Γ' := fun w => Γs w.2) (fun (w : τ × S) z => (z, w.2)) (fun _ _ => rfl) (fun _ _ => rfl) ha sa h)⟩

/-! ### more statements with a state -/
end
end Py
namespace Py
open PySem PySem.Spec PyProof.Rows L2
theorem chk_calmP {c : Prop} [Decidable c] {α : Type} {a : α} : (chk c a).calm = chk c a := by
  unfold chk
  by_cases h : c
  · rw [if_pos h] <;> rfl
  · rw [if_neg h] <;> rfl
theorem opt_calmP {α : Type} {o : Option α} : (ofOpt o).calm = ofOpt o := by cases o <;> rfl
section
variable {X : Cx} {U : Wi} {S : Type} {α ω : Type} {ρ : Rp α} {a b : Expr} {rest : List Stmt} {pos : Pos} {Γs : S → List Sl} {s : S} {Γ : List Sl} {I : ω → Kd} {n : Str}
end
end Py
namespace Py
open PySem PySem.Spec PyProof.Rows L2
section
variable {X : Cx} {U : Wi} {Γ : List Sl} {α : Type} {ρ : Rp α} {a : Expr} {pos : Pos}
end
end Py

/-! Own layer, part O: an own list or dict is read as a whole, while it stays one's own. -/
namespace Py
open PySem PySem.Spec PyProof.Rows L2
/-- what of it looks at tuples alone -/
structure TO {α : Type} (ρ : Rp α) : Prop where
  out : ∀ a (F F' : Hp) v, (∀ q vs, F q = some (.tup vs) → F' q = some (.tup vs)) → ρ.rep a F v → ρ.rep a F' v
theorem toB : TO rB := ⟨fun _ _ _ _ _ h => h⟩
def unown : Sl → Sl
  | .own _ _ => .any
  | s => s
def peekΓ (Γ : List Sl) (i : Nat) (s : Sl) : List Sl := (Γ.map unown).set i s
theorem unown_imm {s : Sl} {P : PRp} (h : unown s = .imm P) : s = .imm P := by
  cases s with
  | any => exact h
  | imm Q => exact h
  | own a Q => cases h
theorem peek_own {Γ : List Sl} {i j : Nat} {P : PRp} {a : Option Addr} {Q : ORp} : (peekΓ Γ i (.imm P))[j]? ≠ some (.own a Q) := fun h => by
  unfold peekΓ at h
  by_cases e : i = j
  · subst e
    by_cases hl : i < (Γ.map unown).length
    · rw [List.getElem?_set_self hl] at h
      cases h
    · rw [List.getElem?_eq_none (by rw [List.length_set]; omega)] at h
      cases h
  · rw [List.getElem?_set_ne e, List.getElem?_map] at h
    cases hg : Γ[j]? with
    | none => rw [hg] at h; cases h
    | some x =>
      rw [hg] at h
      have h' : unown x = .own a Q := Option.some.inj h
      cases x with
      | any => cases h'
      | imm P => cases h'
      | own b R => cases h'
section
variable {en : En} {Γ : List Sl} {F H : Hp} {σ : L2.St} {i : Nat} {a0 : Option Addr} {P : ORp} {Q : PRp}
theorem SA.peek (s : SA en Γ F σ H) (hΓ : Γ[i]? = some (.own a0 P)) (hPQ : ∀ F p o, P.p F o → F p = none → Q.p (upd F p o) (.ref p)) :
    ∃ p o, F p = none ∧ H p = some o ∧ (∀ vs, o ≠ .tup vs) ∧ P.p F o ∧ SA ⟨upd F p o, H, fun _ => False⟩ (peekΓ Γ i (.imm Q)) (upd F p o) σ H := by
  obtain ⟨p, o, g1, g2, g3, g4, g5, g6⟩ := s.own i _ _ hΓ
  have sf : Same F (upd F p o) := Same.upd g2
  have hl : i < Γ.length := (List.getElem?_eq_some_iff.mp hΓ).1
  refine ⟨p, o, g2, g3, P.nt g4, g4, ⟨?_, fun b x e => ?_, Same.refl _, fun _ _ h _ => h, fun _ h => h, fun _ _ h _ => .inl h, fun j R hj => ?_, fun j b R hj => absurd hj peek_own, fun j k b c R S q _ hj => absurd hj peek_own⟩⟩
  · unfold peekΓ
    rw [List.length_set, List.length_map]
    exact s.len
  · by_cases z : b = p
    · subst z
      rw [upd_same] at e
      rw [g3, e]
    · rw [upd_ne z] at e
      exact s.sub b x e
  · unfold peekΓ at hj
    by_cases e : i = j
    · subst e
      rw [List.getElem?_set_self (by rw [List.length_map]; exact hl)] at hj
      injection hj with hj
      injection hj with hj
      subst hj
      exact ⟨.ref p, g1, hPQ F p o g4 g2⟩
    · rw [List.getElem?_set_ne e, List.getElem?_map] at hj
      cases hg : Γ[j]? with
      | none => rw [hg] at hj; cases hj
      | some x =>
        rw [hg] at hj
        have e' := unown_imm (Option.some.inj hj)
        subst e'
        obtain ⟨v, h1, h2⟩ := s.val j _ hg
        exact ⟨v, h1, R.m sf h2⟩
/-- p is forgotten -/
def less (F : Hp) (p : Addr) : Hp := fun q => if q = p then none else F q
theorem less_ne {F : Hp} {p q : Addr} (h : q ≠ p) : less F p q = F q := if_neg h
theorem less_same {F : Hp} {p : Addr} : less F p p = none := if_pos rfl
theorem SA.unpeek {Γ' : List Sl} {F' H' : Hp} {σ' : L2.St} {p : Addr} {o : HO} (s : SA en Γ F σ H) (hf : F p = none) (e : Same (upd F p o) F') (s' : SA ⟨upd F p o, H, fun _ => False⟩ Γ' F' σ' H') : Ext F H (less F' p) H' :=
  ⟨fun q x h => by
    have z : q ≠ p := fun z => by
      subst z
      rw [hf] at h
      cases h
    rw [less_ne z]
    exact e q x (by rw [upd_ne z]; exact h), fun q x h => s'.old q x h fun z => z, fun q x h => by
    by_cases z : q = p
    · subst z
      rw [less_same] at h
      cases h
    · rw [less_ne z] at h
      exact s'.sub q x h, fun q hq hn => by
    by_cases z : q = p
    · subst z
      exact .inl less_same
    · rw [less_ne z]
      exact s'.frz q hq (show upd F p o q = none from by rw [upd_ne z]; exact hn) fun z => z⟩
theorem less_tup {F' : Hp} {p : Addr} {o : HO} (hp : F' p = some o) (ht : ∀ vs, o ≠ .tup vs) (q : Addr) (vs : List V) (h : F' q = some (.tup vs)) : less F' p q = some (.tup vs) := by
  have z : q ≠ p := fun z => by
    subst z
    rw [hp] at h
    exact ht vs (Option.some.inj h)
  rw [less_ne z]
  exact h
end
section
variable {X : Cx} {U : Wi} {Γ : List Sl} {e : Expr} {α τ : Type} {ρ : Rp α} {t : Tr τ} {a0 : Option Addr} {P : ORp} {Q : PRp}
theorem ok_peek {en : En} {F H : Hp} {σ : L2.St} {p : Addr} {o : HO} {r : Er} (hU : U.Γ = []) (s : SA en Γ F σ H) (hf : F p = none) (ht : ∀ cls, o ≠ .xd cls) (h : U.ok X.mg en F r) : U.ok X.mg ⟨upd F p o, H, fun _ => False⟩ (upd F p o) r := by
  intro cls d F' σ' H' e1 s1 ho
  rw [hU] at s1
  have x := s.unpeek hf e1 s1
  have s2 := s.ext x
  have hF : F' p = some o := e1 p _ upd_same
  refine h cls d (less F' p) σ' H' x.f ?_ ?_
  · rw [hU]
    exact ⟨Nat.zero_le _, s2.sub, s2.grow, s2.old, s2.there, s2.frz, fun i P hi => (by cases i <;> cases hi), fun i a P hi => (by cases i <;> cases hi), fun i j a b P Q q _ hi => (by cases i <;> cases hi)⟩
  · obtain ⟨C, c1, c2, c3⟩ := ho
    refine ⟨C, c1, c2, ?_⟩
    split at c3
    · exact c3
    · obtain ⟨a, f, d1, d2⟩ := c3
      refine ⟨a, f, d1, ?_⟩
      have z : a ≠ p := fun z => by
        subst z
        rw [hF] at d2
        exact ht _ (Option.some.inj d2)
      rw [less_ne z]
      exact d2
/-- what an own object may be read as -/
structure Pk (P : ORp) (Q : PRp) : Prop where
  pq : ∀ F p o, P.p F o → F p = none → Q.p (upd F p o) (.ref p)
  nx : ∀ F o, P.p F o → ∀ cls, o ≠ .xd cls
theorem pkL {x : τ} : Pk (oLi t x) ⟨fun H v => (rLi t).rep x H v, fun e h => (rLi t).mono e h⟩ := ⟨fun F p o ⟨vs, eo, r⟩ hf => by
  subst eo
  exact ⟨p, vs, rfl, upd_same, t.mono (Same.upd hf) r⟩, fun F o ⟨vs, eo, _⟩ cls z => by rw [eo] at z; cases z⟩
theorem x_peek {m : R α} (i : Nat) (hΓ : Γ[i]? = some (.own a0 P)) (pk : Pk P Q) (hT : TO ρ) (h : EX X U (peekΓ Γ i (.imm Q)) e ρ m) (hU : U.Γ = [] := by rfl) : EX X U Γ e ρ m :=
  ⟨fun en F σ H K s q => by
    obtain ⟨p, o, f1, f2, f3, f4, s1⟩ := s.peek hΓ pk.pq
    have hx := pk.nx F o f4
    exact h.out _ _ σ H K s1 (wpR_mono q (fun w k v F' H' e1 s2 r => by
      have x := s.unpeek f1 e1 s2
      exact k v (less F' p) H' x.f (s.ext x) (hT.out w F' _ v (less_tup (e1 p _ upd_same) f3) r)) fun r z => ok_peek hU s f1 hx z)⟩
end
end Py

/-! Own layer, part P: slices of tuples. -/
namespace Py
open PySem PySem.Spec PyProof.Rows L2
section
variable {X : Cx} {U : Wi} {S : Type} {Γ : List Sl} {Γs : S → List Sl} {s : S} {α : Type} {ρ : Rp α} {a b : Expr} {pos : Pos}
end
end Py
namespace Py
open PySem PySem.Spec PyProof.Rows L2
/-! ### the keys of a new dict are walked: it is locked for good -/
theorem RepD.keys {κ ν : Type} {ρ : Rp κ} {ky : Ky ρ} {π : Rp ν} {F : Hp} : ∀ {xs : List (κ × ν)} {kvs : List (List Key × V)}, RepD ky π F xs kvs → kvs.map Prod.fst = xs.map fun q => ky.enc q.1
  | _, _, .nil => rfl
  | _, _, .cons r t => by rw [List.map_cons, List.map_cons, RepD.keys t]
section
variable {X : Cx} {U : Wi} {Γ : List Sl} {tg e : Expr} {κ ν : Type} {ρ : Rp κ} {ky : Ky ρ} {π : Rp ν}
variable {n : Str} {pos p p2 : Pos}
theorem call_lenR : CallR X (.builtin "len") (fun xs H Q => ∃ (p : Addr) (kvs : List (List Key × V)), xs = [.ref p] ∧ Rd H p (.dT kvs) ∧ Q (.int ((kvs.length : Nat) : Int)) H) := by
  intro pins s σ H xs us Q I r h
  obtain ⟨p, kvs, rfl, hp, q⟩ := h
  obtain ⟨u, rfl, rx⟩ := vals1 r
  obtain rfl : u = .ref p := rx
  obtain ⟨z, hd, ys, rel, dd⟩ := dt_rd I.hok hp
  have hl : kvs.length = ys.length := Paired.length rel
  refine call_len_dictH hd dd (by rw [← hl]; rw [sizeLine_eq] at z; omega) ?_
  rw [← hl]
  exact ⟨.int ((kvs.length : Nat) : Int), H, I.tok _, ⟨_, rfl⟩, q⟩
theorem x_lenDG {m : R (List (κ × ν))} (hm : X.mg "len" = none) (hd : DG X U Γ e ky π m) (hg : Gl X "len" := by rfl) (h1 : starEach [e] X.env = (false, eval e X.env) :: starEach [] X.env := by rfl) (h2 : (backTo pos (starEach [] X.env)).any (·.1) = false := by rfl) :
    EX X U Γ (.Call (.Name "len" p2) [e] [] pos) rI (m.bind fun x => .ok ((x.length : Nat) : Int)) :=
  ⟨fun en F σ H Q s q => wE_of (pe_callB call_lenR hg hm boot_len (pa_cons wE_pe pa_nil h1) (by decide) (by decide) h1 h2) (hd.out en F σ H _ s (wpR_mono (wpR_bind q) (fun x k d kvs F1 H1 e1 s1 hd r _ =>
    ⟨d, kvs, rfl, hd, k _ F1 H1 e1 s1 (by show V.int _ = V.int _; rw [r.length])⟩) fun _ z => z))⟩
end
end Py
namespace Py
open PySem PySem.Spec PyProof.Rows L2
section
variable {X : Cx} {U : Wi} {Γ : List Sl} {γ : Type} {ρ : Rp γ} {n : Str} {pos p : Pos} {k : Nat} {f : Addr} {fd : FuncData} {ps : List Str}
end
end Py

/-! Own layer, part Q: own exception classes: raise, try .. except C as e, isinstance(e, ..). -/
namespace Py
open PySem PySem.Spec PyProof.Rows L2
/-- what a raised class must say -/
structure ExX (K : PySem.W.Frag) (mg : Str → Option Value) (n : Str) (C : Addr) : Prop where
  g : mg n = some (.ref C)
  k : PySem.W.keepIn K (.ref C) = true
  ex : PySem.W.excIn K C [.type "ValueError", .type "Exception", .type "BaseException", .type "object"] "ValueError.__new__" = true
  ty : PySem.W.typeIn K (.ref C) = some (.type "type")
  c : ExcC K C
section
variable {X : Cx} {U : Wi} {Γ : List Sl} {rest : List Stmt} {pos pos2 p p2 : Pos} {ω : Type} {I : ω → Kd} {n m : Str} {C : Addr} {j : Nat}
/-- raise C('..') -/
theorem p_raiseX (T : ExX X.K X.mg n C) (tk : Takes X U.W) (l : Le U.Γ Γ) (hg : Gl X n := by rfl) (hdb : (n == ("__debug__" : Str)) = false := by decide) (hc : X.calm = true := by rfl) :
    SX X U Γ (.Raise (some (.Call (.Name n p) [.Constant (.str m) j p2] [] pos2)) none pos :: rest) I (.er ⟨n, none⟩) :=
  p_raise tk (pmk_own PySem.F.excBase_ValueError T.ex T.g T.k (raises_own T.c.hs T.ty) hg hdb) T.g l hc
end
def catchR {τ : Type} (ct : Str → Option Bool) (mh : Er → R τ) : R τ → R τ
  | .er r => match ct r.cls with
    | some true => if r.fld.isNone = true then (mh r).calm else .bad
    | some false => .er r
    | none => .bad
  | m => m
/-- what is known of the classes of a table -/
structure Ct (mg : Str → Option Value) (ct : Str → Option Bool) (P : Addr → Bool → Prop) : Prop where
  out : ∀ cl b C, ct cl = some b → mg cl = some (.ref C) → P C b
theorem ct_nil {mg : Str → Option Value} {P : Addr → Bool → Prop} : Ct mg (fun _ => none) P := ⟨fun _ _ _ h => nomatch h⟩
theorem ct_cons {mg : Str → Option Value} {P : Addr → Bool → Prop} {n : Str} {C0 : Addr} {b0 : Bool} {ct : Str → Option Bool} (hg : mg n = some (.ref C0)) (h : P C0 b0) (k : Ct mg ct P) : Ct mg (fun s => if s = n then some b0 else ct s) P :=
  ⟨fun cl b C e q => by
    by_cases z : cl = n
    · subst z
      rw [if_pos rfl] at e
      injection e with e
      subst e
      rw [hg] at q
      injection q with q
      injection q with q
      subst q
      exact h
    · rw [if_neg z] at e
      exact k.out cl b C e q⟩
theorem SA.forget {en : En} {Γ : List Sl} {F H : Hp} {σ : L2.St} {i : Nat} (s : SA en Γ F σ H) (hi : ∀ x, Γ[i]? = some x → x = .any) : SA en Γ F (σ.set i none) H := by
  have ne : ∀ {j : Nat} {x : Sl}, Γ[j]? = some x → x ≠ .any → i ≠ j := fun {j x} h k e => by
    subst e
    exact k (hi x h)
  refine ⟨by rw [List.length_set]; exact s.len, s.sub, s.grow, s.old, s.there, s.frz, fun j P h => ?_, fun j a P h => ?_, fun j k a b P Q q hjk hj hk => ?_⟩
  · rw [List.getElem?_set_ne (ne h (fun z => nomatch z))]
    exact s.val j P h
  · rw [List.getElem?_set_ne (ne h (fun z => nomatch z))]
    exact s.own j a P h
  · rw [List.getElem?_set_ne (ne hj (fun z => nomatch z)), List.getElem?_set_ne (ne hk (fun z => nomatch z))]
    exact s.dis j k a b P Q q hjk hj hk
section
variable {X : Cx} {U : Wi} {Γ Γ0 : List Sl} {body suite rest : List Stmt} {b0 : Stmt} {x n : Str} {c : Value} {np pos pos' : Pos} {τ ω : Type} {I : ω → Kd}
end

/-! ### isinstance(e, ..) -/
section
variable {X : Cx} {U : Wi} {Γ : List Sl} {a : Addr} {oe : Obj} {cls : Value} {d : Option Addr} {pn : List (Addr × Obj)} {r : Er} {n T : Str} {pos p p2 p3 : Pos}
/-- a class's name: a global of the program's or a built-in one -/
structure NmC (X : Cx) (e : Expr) (v : V) (u : Value) : Prop where
  pe : PE X e (tC v)
  cv : ClsV v u
theorem nm_own {C : Addr} (hm : X.mg T = some (.ref C)) (hg : Gl X T := by rfl) (hd : (T == ("__debug__" : Str)) = false := by decide) : NmC X (.Name T p) (.ref C) (.ref C) := ⟨pe_glob hg hm rfl hd, .own C⟩
theorem nm_blt {t : String} (hm : X.mg T = none) (hv : bootBuiltins T = some (.type t)) (hg : Gl X T := by rfl) (hn : T ≠ "__name__" := by decide) (hd : (T == ("__debug__" : Str)) = false := by decide) : NmC X (.Name T p) (.ty t) (.type t) := ⟨pe_bltn (v := .ty t) hg hm hv rfl hn hd, .ty t⟩
inductive NmCs (X : Cx) : List Expr → List V → List Value → Prop
  | nil : NmCs X [] [] []
  | cons {e : Expr} {es : List Expr} {v : V} {vs : List V} {u : Value} {us : List Value} (h : NmC X e v u) (t : NmCs X es vs us) (hs : starEach (e :: es) X.env = (false, eval e X.env) :: starEach es X.env) : NmCs X (e :: es) (v :: vs) (u :: us)
theorem NmCs.pa {X : Cx} : ∀ {es : List Expr} {vs : List V} {us : List Value}, NmCs X es vs us → PA X es (fun σ H Q => Q vs H)
  | _, _, _, .nil => ⟨fun pos pins s σ H Q I h => pa_nil.run pos pins s σ H Q I h⟩
  | _, _, _, .cons h t hs => ⟨fun pos pins s σ H Q I q => (pa_cons h.pe t.pa hs).run pos pins s σ H Q I q⟩
theorem NmCs.clv {X : Cx} : ∀ {es : List Expr} {vs : List V} {us : List Value}, NmCs X es vs us → Paired ClsV vs us
  | _, _, _, .nil => .nil
  | _, _, _, .cons h t _ =>   .cons h.cv t.clv
end
end Py

/-! Own layer, part R: list(reversed(t)). -/
namespace RT
open PySem PySem.Spec PyProof.Rows
section
variable {prog : Program} {w : World} {A : Around} {E : Value → Shared → Prop} {s : Shared}
end
end RT
namespace RT
open PySem PySem.Spec PyProof.Rows L2
section
variable {X : Cx}
end
end RT
namespace Py
open PySem PySem.Spec PyProof.Rows L2
section
variable {X : Cx} {U : Wi} {Γ : List Sl} {a : Expr} {pos p p2 p3 : Pos} {α : Type} {ρ : Rp α}
end
/-! ### defaults -/
end Py

/-! Own layer, part T: values of any kind (numbers, truths, texts, None, tuples and lists of such), zip, min of cells, pop of a dict. -/
namespace Py
open PySem PySem.Spec PyProof.Rows L2
inductive Dy where
  | non
  | int (i : Int)
  | bl (b : Bool)
  | str (s : Str)
  | tup (l : List Dy)
  | lst (l : List Dy)
mutual
def Dy.rp : Dy → Hp → V → Prop
  | .non, _, v => v = .non
  | .int i, _, v => v = .int i
  | .bl b, _, v => v = .bl b
  | .str s, _, v => v = .str s
  | .tup l, H, v => ∃ p ws, v = .ref p ∧ H p = some (.tup ws) ∧ Dy.rps l H ws
  | .lst l, H, v => ∃ p ws, v = .ref p ∧ H p = some (.lst ws) ∧ Dy.rps l H ws
def Dy.rps : List Dy → Hp → List V → Prop
  | [], _, ws => ws = []
  | d :: l, H, ws => ∃ v vs, ws = v :: vs ∧ Dy.rp d H v ∧ Dy.rps l H vs
end
mutual
theorem Dy.rp_mono {H H' : Hp} (e : Same H H') : ∀ {d : Dy} {v : V}, d.rp H v → d.rp H' v
  | .non, _, h => by rw [Dy.rp] at *; exact h
  | .int i, _, h => by rw [Dy.rp] at *; exact h
  | .bl b, _, h => by rw [Dy.rp] at *; exact h
  | .str s, _, h => by rw [Dy.rp] at *; exact h
  | .tup l, v, h => by
    rw [Dy.rp] at *
    obtain ⟨p, ws, e1, e2, e3⟩ := h
    exact ⟨p, ws, e1, e p _ e2, Dy.rps_mono e e3⟩
  | .lst l, v, h => by
    rw [Dy.rp] at *
    obtain ⟨p, ws, e1, e2, e3⟩ := h
    exact ⟨p, ws, e1, e p _ e2, Dy.rps_mono e e3⟩
theorem Dy.rps_mono {H H' : Hp} (e : Same H H') : ∀ {l : List Dy} {ws : List V}, Dy.rps l H ws → Dy.rps l H' ws
  | [], _, h => by rw [Dy.rps] at *; exact h
  | d :: l, ws, h => by
    rw [Dy.rps] at *
    obtain ⟨v, vs, e1, e2, e3⟩ := h
    exact ⟨v, vs, e1, Dy.rp_mono e e2, Dy.rps_mono e e3⟩
end
def rY : Rp Dy := ⟨fun d H v => d.rp H v, fun e h => Dy.rp_mono e h⟩
theorem rps_of {F : Hp} : ∀ {l : List Dy} {ws : List V}, RepL rY F l ws → Dy.rps l F ws
  | _, _, .nil => by rw [Dy.rps]
  | _, _, .cons h t => by
    rw [Dy.rps]
    exact ⟨_, _, rfl, h, rps_of t⟩
theorem of_rps {F : Hp} : ∀ {l : List Dy} {ws : List V}, Dy.rps l F ws → RepL rY F l ws
  | [], ws, h => by
    rw [Dy.rps] at h
    rw [h]
    exact .nil
  | d :: l, ws, h => by
    rw [Dy.rps] at h
    obtain ⟨v, vs, e1, e2, e3⟩ := h
    rw [e1]
    exact .cons e2 (of_rps e3)
theorem yTup_iff {l : List Dy} {F : Hp} {v : V} : rY.rep (.tup l) F v ↔ (rT rY).rep l F v := by
  show Dy.rp (.tup l) F v ↔ _
  rw [Dy.rp]
  exact ⟨fun ⟨p, ws, h1, h2, h3⟩ => ⟨p, ws, h1, h2, of_rps h3⟩, fun ⟨p, ws, h1, h2, h3⟩ => ⟨p, ws, h1, h2, rps_of h3⟩⟩
theorem yLst_iff {l : List Dy} {F : Hp} {v : V} : rY.rep (.lst l) F v ↔ (rL rY).rep l F v := by
  show Dy.rp (.lst l) F v ↔ _
  rw [Dy.rp]
  exact ⟨fun ⟨p, ws, h1, h2, h3⟩ => ⟨p, ws, h1, h2, of_rps h3⟩, fun ⟨p, ws, h1, h2, h3⟩ => ⟨p, ws, h1, h2, rps_of h3⟩⟩
/-! ### into it -/
/-- f tells what a typed thing is as one of any kind -/
structure Yn {α : Type} (ρ : Rp α) (f : α → Dy) : Prop where
  out : ∀ x F v, ρ.rep x F v → rY.rep (f x) F v
structure Yns {τ : Type} (t : Tr τ) (f : τ → List Dy) : Prop where
  out : ∀ x F vs, t.rep x F vs → RepL rY F (f x) vs
theorem yI : Yn rI Dy.int := ⟨fun x F v h => by show Dy.rp _ F v; rw [Dy.rp]; exact h⟩
theorem repL_map {α : Type} {ρ : Rp α} {f : α → Dy} (h : Yn ρ f) {F : Hp} : ∀ {xs : List α} {vs : List V}, RepL ρ F xs vs → RepL rY F (xs.map f) vs
  | _, _, .nil => .nil
  | _, _, .cons r t => .cons (h.out _ _ _ r) (repL_map h t)
theorem yT {α : Type} {ρ : Rp α} {f : α → Dy} (h : Yn ρ f) : Yn (rT ρ) fun xs => .tup (xs.map f) := ⟨fun x F v ⟨p, vs, e1, e2, e3⟩ => yTup_iff.mpr ⟨p, vs, e1, e2, repL_map h e3⟩⟩
theorem yL {α : Type} {ρ : Rp α} {f : α → Dy} (h : Yn ρ f) : Yn (rL ρ) fun xs => .lst (xs.map f) := ⟨fun x F v ⟨p, vs, e1, e2, e3⟩ => yLst_iff.mpr ⟨p, vs, e1, e2, repL_map h e3⟩⟩
theorem y1 {α : Type} {ρ : Rp α} {f : α → Dy} (h : Yn ρ f) : Yns (t1 ρ) fun x => [f x] := ⟨fun x F vs ⟨v, e, r⟩ => by rw [e]; exact .cons (h.out x F v r) .nil⟩
theorem yc {α τ : Type} {ρ : Rp α} {t : Tr τ} {f : α → Dy} {g : τ → List Dy} (h : Yn ρ f) (k : Yns t g) : Yns (tc ρ t) fun x => f x.1 :: g x.2 := ⟨fun x F vs ⟨v, ws, e, r, q⟩ => by rw [e]; exact .cons (h.out _ F v r) (k.out _ F ws q)⟩
theorem yTu {τ : Type} {t : Tr τ} {g : τ → List Dy} (k : Yns t g) : Yn (rTu t) fun x => .tup (g x) := ⟨fun x F v ⟨p, vs, e1, e2, e3⟩ => yTup_iff.mpr ⟨p, vs, e1, e2, k.out x F vs e3⟩⟩
/-! ### out of it -/
section
variable {X : Cx} {U : Wi} {Γ : List Sl} {a b e e2 : Expr} {es : List Expr} {pos p p2 : Pos} {α β : Type} {ρ : Rp α} {π : Rp β}
end
/-! ### what may be asked of it -/
def Dy.isN : Dy → Bool
  | .non => true
  | _ => false
def Dy.tag : Dy → String
  | .non => "NoneType"
  | .int _ => "int"
  | .bl _ => "bool"
  | .str _ => "str"
  | .tup _ => "tuple"
  | .lst _ => "list"
def Dy.isInt : Dy → Bool
  | .int _ => true
  | .bl _ => true
  | _ => false
def Dy.isBl : Dy → Bool
  | .bl _ => true
  | _ => false
def Dy.isStr : Dy → Bool
  | .str _ => true
  | _ => false
def Dy.isTup : Dy → Bool
  | .tup _ => true
  | _ => false
def Dy.isLst : Dy → Bool
  | .lst _ => true
  | _ => false
def Dy.len : Dy → Option Int
  | .tup l => some (l.length : Nat)
  | .lst l => some (l.length : Nat)
  | _ => none
def Dy.at : Dy → Int → Option Dy
  | .tup l, i => atI l i
  | .lst l, i => atI l i
  | _, _ => none
def Dy.row : Dy → Option (List Dy)
  | .tup l => some l
  | .lst l => some l
  | _ => none
def Dy.zip : Dy → Dy → Option (List (Dy × Dy))
  | .tup l, .tup m => some (l.zip m)
  | .lst l, .lst m => some (l.zip m)
  | _, _ => none
theorem ky_int (d : Dy) : kitB d.tag "int" = some d.isInt := by cases d <;> (dsimp only [Dy.tag, Dy.isInt]; decide +kernel)
theorem ky_bool (d : Dy) : kitB d.tag "bool" = some d.isBl := by cases d <;> (dsimp only [Dy.tag, Dy.isBl]; decide +kernel)
theorem ky_str (d : Dy) : kitB d.tag "str" = some d.isStr := by cases d <;> (dsimp only [Dy.tag, Dy.isStr]; decide +kernel)
theorem ky_tuple (d : Dy) : kitB d.tag "tuple" = some d.isTup := by cases d <;> (dsimp only [Dy.tag, Dy.isTup]; decide +kernel)
theorem ky_list (d : Dy) : kitB d.tag "list" = some d.isLst := by cases d <;> (dsimp only [Dy.tag, Dy.isLst]; decide +kernel)
theorem tyY : Ty rY Dy.tag := ⟨fun K H d v r => by
  have r' : Dy.rp d H v := r
  cases d with
  | non => rw [Dy.rp] at r'; rw [r']; exact .base .non
  | int i => rw [Dy.rp] at r'; rw [r']; exact .base (.int i)
  | bl i => rw [Dy.rp] at r'; rw [r']; exact .base (.bl i)
  | str i => rw [Dy.rp] at r'; rw [r']; exact .base (.str i)
  | tup l =>
    obtain ⟨p, ws, h1, h2, _⟩ := yTup_iff.mp r
    rw [h1]
    exact .base (.tup h2)
  | lst l =>
    obtain ⟨p, ws, h1, h2, _⟩ := yLst_iff.mp r
    rw [h1]
    exact .base (.lst h2)⟩
theorem rp_non {d : Dy} {F : Hp} {v : V} (r : rY.rep d F v) : decide (v = .non) = d.isN := by
  have r' : Dy.rp d F v := r
  cases d with
  | non => rw [Dy.rp] at r'; rw [r']; exact decide_eq_true rfl
  | int i => rw [Dy.rp] at r'; rw [r']; exact decide_eq_false (fun z => nomatch z)
  | bl i => rw [Dy.rp] at r'; rw [r']; exact decide_eq_false (fun z => nomatch z)
  | str i => rw [Dy.rp] at r'; rw [r']; exact decide_eq_false (fun z => nomatch z)
  | tup l =>
    obtain ⟨p, ws, h1, _⟩ := yTup_iff.mp r
    rw [h1]
    exact decide_eq_false (fun z => nomatch z)
  | lst l =>
    obtain ⟨p, ws, h1, _⟩ := yLst_iff.mp r
    rw [h1]
    exact decide_eq_false (fun z => nomatch z)
theorem dLenY {K : PySem.W.Frag} : DC (rLen K) (t1 rY) rI fun d => ofOpt d.len := fun d vs F H Q e ⟨v, ev, r⟩ h => by
  obtain ⟨n, en, h⟩ := wpR_opt h
  cases d with
  | tup l =>
    obtain ⟨p, ws, e2, hp, rr⟩ := yTup_iff.mp r
    have en' : ((l.length : Nat) : Int) = n := Option.some.inj en
    subst en'
    exact ⟨v, l.length, ev, by rw [e2]; exact .inr ⟨ws, .inl (.inl (e p _ hp)), rr.length⟩, h _ F H (Ext.refl e) rfl⟩
  | lst l =>
    obtain ⟨p, ws, e2, hp, rr⟩ := yLst_iff.mp r
    have en' : ((l.length : Nat) : Int) = n := Option.some.inj en
    subst en'
    exact ⟨v, l.length, ev, by rw [e2]; exact .inl ⟨ws, .inl (.inl (e p _ hp)), rr.length⟩, h _ F H (Ext.refl e) rfl⟩
  | _ => cases en
mutual
def Dy.dat : Dy → PyData
  | .non => .none
  | .int i => .int i
  | .bl b => .bool b
  | .str s => .str s
  | .tup l => .tuple (Dy.dats l)
  | .lst l => .list (Dy.dats l)
def Dy.dats : List Dy → List PyData
  | [] => []
  | d :: l => Dy.dat d :: Dy.dats l
end
mutual
theorem Dy.dp {K : PySem.W.Frag} {H : Hp} : ∀ {d : Dy} {v : V}, d.rp H v → Dp K H v d.dat
  | .non, _, h => by rw [Dy.rp] at h; rw [h, Dy.dat]; exact .non
  | .int i, _, h => by rw [Dy.rp] at h; rw [h, Dy.dat]; exact .int i
  | .bl b, _, h => by rw [Dy.rp] at h; rw [h, Dy.dat]; exact .bl b
  | .str s, _, h => by rw [Dy.rp] at h; rw [h, Dy.dat]; exact .str s
  | .tup l, v, h => by
    rw [Dy.rp] at h
    obtain ⟨p, ws, e1, e2, e3⟩ := h
    rw [e1, Dy.dat]
    exact .tup (.inl (.inl e2)) (Dy.dps e3)
  | .lst l, v, h => by
    rw [Dy.rp] at h
    obtain ⟨p, ws, e1, e2, e3⟩ := h
    rw [e1, Dy.dat]
    exact .lst (.inl (.inl e2)) (Dy.dps e3)
theorem Dy.dps {K : PySem.W.Frag} {H : Hp} : ∀ {l : List Dy} {ws : List V}, Dy.rps l H ws → DpAll K H ws (Dy.dats l)
  | [], _, h => by rw [Dy.rps] at h; rw [h, Dy.dats]; exact .nil
  | d :: l, ws, h => by
    rw [Dy.rps] at h
    obtain ⟨v, vs, e1, e2, e3⟩ := h
    rw [e1, Dy.dats]
    exact .cons (Dy.dp e2) (Dy.dps e3)
end
/-- x == y, as Python tells it -/
def Dy.eqv (x y : Dy) : Bool := PyData.eqv x.dat y.dat
def Dy.shp (x : Dy) : Bool := SeqAt.shaped x.dat
theorem dEqY {K : PySem.W.Frag} : D2 (rEqD K) rY rY rB fun x y => chk (x.shp = true ∧ y.shp = true) (x.eqv y) := fun x y v w F H Q e rv rw q => by
  obtain ⟨⟨s1, s2⟩, q⟩ := wpR_chk q
  exact ⟨_, _, Dy.dp (Dy.rp_mono e rv), Dy.dp (Dy.rp_mono e rw), s1, s2, q _ F H (Ext.refl e) rfl⟩
/-! ### zip -/
theorem zip_get {α β : Type} : ∀ {xs : List α} {ys : List β} {i : Nat} {z : α × β}, (xs.zip ys)[i]? = some z → xs[i]? = some z.1 ∧ ys[i]? = some z.2
  | [], _, _, _, h => by simp at h
  | _ :: _, [], _, _, h => by simp at h
  | x :: xs, y :: ys, 0, z, h => by
    have h' : some (x, y) = some z := by simpa using h
    injection h' with h'
    rw [← h']
    exact ⟨rfl, rfl⟩
  | x :: xs, y :: ys, i + 1, z, h => by
    have h' : (xs.zip ys)[i]? = some z := by simpa using h
    have := zip_get h'
    simpa using this
theorem wk_zip {K : PySem.W.Frag} {F : Hp} {α β : Type} {ρ : Rp α} {π : Rp β} {xs : List α} {ys : List β} {a b : Addr} {vs ws : List V} (h : F a = some (.lst vs)) (r : RepL ρ F xs vs) (h2 : F b = some (.lst ws)) (r2 : RepL π F ys ws) : Wk (Itz K a b) F (rP ρ π) (xs.zip ys) where
  go := fun F1 H i z e1 e2 hx => by
    have hp : H a = some (.lst vs) := e2 a _ (e1 a _ h)
    have hq : H b = some (.lst ws) := e2 b _ (e1 b _ h2)
    obtain ⟨hxi, hyi⟩ := zip_get hx
    obtain ⟨v, hv, rv⟩ := r.got hxi
    obtain ⟨w, hw, rw'⟩ := r2.got hyi
    exact ⟨⟨vs, ws, v, w, .inl (.inl hp), .inl (.inl hq), hv, hw⟩, fun u H' ⟨T, x, y, eu, hT, eH, zx, zy⟩ => by
      subst eu eH
      have ex : x = v := Option.some.inj ((zx vs (.inl (.inl hp))).symm.trans hv)
      have ey : y = w := Option.some.inj ((zy ws (.inl (.inl hq))).symm.trans hw)
      subst ex ey
      have xx := Ext.new (o := .tup [x, y]) e2 hT
      exact ⟨_, xx, T, _, rfl, upd_same, x, [y], rfl, ρ.mono (e1.trans xx.f) rv, y, rfl, π.mono (e1.trans xx.f) rw'⟩⟩
  stop := fun H i e hi => by
    rw [List.length_zip] at hi
    exact ⟨vs, ws, .inl (.inl (e a _ h)), .inl (.inl (e b _ h2)), by rw [← r.length, ← r2.length]; omega⟩
theorem wk_zipT {K : PySem.W.Frag} {F : Hp} {α β : Type} {ρ : Rp α} {π : Rp β} {xs : List α} {ys : List β} {a b : Addr} {vs ws : List V} (h : F a = some (.tup vs)) (r : RepL ρ F xs vs) (h2 : F b = some (.tup ws)) (r2 : RepL π F ys ws) : Wk (RZ.ItzT K a b) F (rP ρ π) (xs.zip ys) where
  go := fun F1 H i z e1 e2 hx => by
    have hp : H a = some (.tup vs) := e2 a _ (e1 a _ h)
    have hq : H b = some (.tup ws) := e2 b _ (e1 b _ h2)
    obtain ⟨hxi, hyi⟩ := zip_get hx
    obtain ⟨v, hv, rv⟩ := r.got hxi
    obtain ⟨w, hw, rw'⟩ := r2.got hyi
    exact ⟨⟨vs, ws, v, w, .inl (.inl hp), .inl (.inl hq), hv, hw⟩, fun u H' ⟨T, x, y, eu, hT, eH, zx, zy⟩ => by
      subst eu eH
      have ex : x = v := Option.some.inj ((zx vs (.inl (.inl hp))).symm.trans hv)
      have ey : y = w := Option.some.inj ((zy ws (.inl (.inl hq))).symm.trans hw)
      subst ex ey
      have xx := Ext.new (o := .tup [x, y]) e2 hT
      exact ⟨_, xx, T, _, rfl, upd_same, x, [y], rfl, ρ.mono (e1.trans xx.f) rv, y, rfl, π.mono (e1.trans xx.f) rw'⟩⟩
  stop := fun H i e hi => by
    rw [List.length_zip] at hi
    exact ⟨vs, ws, .inl (.inl (e a _ h)), .inl (.inl (e b _ h2)), by rw [← r.length, ← r2.length]; omega⟩
section
variable {X : Cx} {U : Wi} {Γ : List Sl} {a b e e2 : Expr} {es : List Expr} {pos p p2 : Pos} {α β : Type} {ρ : Rp α} {π : Rp β}
theorem c_isNY {m : R Dy} {j} {pos' : Pos} (ha : EX X U Γ a rY m) : CG X U Γ .Is a (.Constant .none j pos') (m.bind fun x => .ok x.isN) :=
  ⟨_, pc_isN wE_pe, fun en F σ H Q s h => ha.out en F σ H _ s (wpR_mono (wpR_bind h) (fun x k v F1 H1 e1 s1 r1 => by
    have k' := k F1 H1 e1 s1
    rw [← rp_non r1] at k'
    exact k') fun _ z => z)⟩
theorem i_zipY {elts : List Expr} {kk : Nat} {tpos : Pos} {m : R (Dy × Dy)} (hm : X.mg "zip" = none) (h : AX X U Γ [e, e2] (tc rY (t1 rY)) m) (hg : Gl X "zip" := by rfl) (hs : starEach [e, e2] X.env = (false, eval e X.env) :: starEach [e2] X.env := by rfl) (hpl : (backTo pos (starEach [e2] X.env)).any (·.1) = false := by rfl) :
    IX X U Γ (.Tuple elts kk tpos) (.Call (.Name "zip" p) [e, e2] [] pos) (rP rY rY) (m.bind fun q => ofOpt (q.1.zip q.2)) :=
  ⟨fun en F σ H R s q => wI_of (RZ.pi_zipA hg hm wA_pa hs hpl) (h.out en F σ H _ s (wpR_mono (wpR_bind q) (fun xs k vs F' H' e1 s1 ⟨v, ws, ev, r1, w, ew, r2⟩ => by
    subst ev ew
    obtain ⟨zs, ez, k⟩ := wpR_opt k
    obtain ⟨x, y⟩ := xs
    cases x with
    | tup l =>
      cases y with
      | tup l' =>
        obtain ⟨p1, l1, f1, f2, f3⟩ := yTup_iff.mp r1
        obtain ⟨p2, l2, g1, g2, g3⟩ := yTup_iff.mp r2
        subst f1 g1
        have ez' : l.zip l' = zs := Option.some.inj ez
        subst ez'
        exact ⟨p1, p2, l1, l2, rfl, .inr ⟨.inl (.inl (s1.sub p1 _ f2)), .inl (.inl (s1.sub p2 _ g2)), k _ F' H' e1 s1 (wk_zipT f2 f3 g2 g3)⟩⟩
      | _ => cases ez
    | lst l =>
      cases y with
      | lst l' =>
        obtain ⟨p1, l1, f1, f2, f3⟩ := yLst_iff.mp r1
        obtain ⟨p2, l2, g1, g2, g3⟩ := yLst_iff.mp r2
        subst f1 g1
        have ez' : l.zip l' = zs := Option.some.inj ez
        subst ez'
        exact ⟨p1, p2, l1, l2, rfl, .inl ⟨.inl (.inl (s1.sub p1 _ f2)), .inl (.inl (s1.sub p2 _ g2)), k _ F' H' e1 s1 (wk_zip f2 f3 g2 g3)⟩⟩
      | _ => cases ez
    | _ => cases ez) fun _ z => z))⟩
end
end Py

/-! Own layer, part U: pop of a dict by a tuple, min and max of cells. -/
namespace DT
open PySem PySem.W PySem.Calls PyProof.Rows PyProof.V PySem.Spec
section
variable {prog : Program} {w : World} {K : Type} [DecidableEq K] {knd : HeapKind prog w K}
theorem meetsPop1 {d b : Addr} {k : K} (hd : (d == sysModules) = false) :
    MeetsIn prog w (Builtin.«dict.pop» ⟨[.ref d, .ref b], []⟩) (fun A R s => ∃ xs, knd.room A.in1 ∧ knd.is s.heap k b ∧ s.heap.DictOfH knd d xs ∧ xs.length ≤ sizeLine ∧
      ∃ p, atKey xs k = some p ∧ ∀ h' tk, h'.DictOfH knd d (dropH xs k) → Heap.SameBut d s.heap h' → R (.ok (.ret p.2)) { s with heap := h', toks := tk }) :=
  .of_wp fun A R s ⟨xs, hu, hkey, hm, hsz, p0, hp0, hsome⟩ => by
    obtain ⟨o, es, ep, ho, hc, hdat, he, his, hn⟩ := id hm
    have hes : es.size = xs.length := size_of_entries he
    have hpart : (keyPart (Value.ref b)).isSome = false := rfl
    unfold Builtin.«dict.pop»
    refine wpAny_bind ?_
    unfold Builtin.Dict.keyAndDefault
    refine wpAny_bind (wpAny_notOrdered_dict hm.typeIs ?_)
    show wpAny _ _ (pure (d, Value.ref b, none)) _ _ s
    refine wpAny_pure ?_
    simp only [hpart, Bool.false_eq_true, if_false]
    refine wpAny_bind (wpAny_dictEntries ho hdat (wpAny_bind (wpAny_pure ?_)))
    cases hem : es.isEmpty with
    | true =>
      have h0 : xs = [] := by
        have z : es.size = 0 := by simpa using hem
        exact List.length_eq_zero_iff.mp (by omega)
      rw [h0] at hp0
      cases hp0
    | false =>
      simp only [Bool.false_eq_true, if_false]
      refine wpAny_bind (takeH hu hkey hm hsz (fun hno => ?_) fun p e hp hev h' hm' hs' => ?_)
      · rw [hp0] at hno
        cases hno
      · simp only [Option.isNone_some, Bool.false_eq_true, if_false]
        rw [hp0] at hp
        injection hp with hp
        subst hp
        exact wpAny_bind (wpAny_letGo (wpAny_pure ⟨e.val, rfl, by rw [hev]; exact hsome h' _ hm' hs'⟩))
end
end DT
namespace L2.DX
open PySem PySem.Spec PyProof.Rows
section
variable {X : Cx}
def rPopT1 : V → List V → Hp → VK → Prop := fun x xs H Q => ∃ (a : Addr) (kvs : List (List L2.Key × V)) (k : List L2.Key) (b : Addr) (v : V), x = .ref a ∧ xs = [.ref b] ∧ H a = some (.dT kvs) ∧ H b = some (.tup (k.map kV)) ∧
  valV kvs k = some v ∧ Q v (upd H a (.dT (dropK kvs k)))
theorem mt_popT1 (hu : X.A.units + 1 < cLine) : MtR X "dict.pop" rPopT1 := by
  intro pins s σ H x xs v us Q I rx rxs h
  obtain ⟨a, kvs, k, b, v0, rfl, rfl, ha, hb, ev, q1⟩ := h
  cases rx
  obtain ⟨u1, rfl, r1⟩ := vals1 rxs
  cases r1
  obtain ⟨z, hd, xs', rel, dd⟩ := dt_of I.hok ha
  have hz : xs'.length ≤ sizeLine := by rw [← Paired.length rel]; exact z
  have r := rel.val k
  rw [ev] at r
  cases hp : atKey xs' k with
  | none =>
    rw [hp] at r
    exact (show False from r).elim
  | some p =>
    rw [hp] at r
    refine call_meetsIn PySem.F.slot_dict_pop dd.typeIs PySem.F.entry_dict_pop (PySem.F.args_dict_pop_2 _ _) (DT.meetsPop1 (knd := tupleKind (mixKind X.prog X.w)) (k := k) hd)
      ⟨xs', tupleKind_room_in1 hu, key_of I.hok hb, dd, hz, p, hp, fun h' tk dd' hs => ?_⟩
    have rv : RelV v0 p.2 := r
    obtain ⟨o, es, ep, hq, h2, h3, h4, _, h5⟩ := dd'
    have I2 : Inv X pins σ (upd H a (.dT (dropK kvs k))) { s with heap := h', toks := tk } :=
      d_write I (by rw [ha]; exact True.intro) hs ⟨o, hq⟩ ⟨Nat.le_trans (dropK_le kvs k) z, hd, _, (KT_drop k rel).keeps (fun c ys ec => (by rw [upd_ne (ne_of ec ha (fun z => nomatch z))]; exact ec)), o, es, ep, hq, h2, h3, h4, h5⟩
    show EP X pins σ Q p.2 _
    exact ⟨v0, _, I2, rv, q1⟩
end
end L2.DX
namespace Py
open PySem PySem.Spec PyProof.Rows L2
def dDrop {κ ν : Type} [DecidableEq κ] (xs : List (κ × ν)) (k : κ) : List (κ × ν) := xs.filter fun q => decide (q.1 ≠ k)
theorem RepD.drop {κ ν : Type} [DecidableEq κ] {ρ : Rp κ} {ky : Ky ρ} {π : Rp ν} {H : Hp} : ∀ {xs : List (κ × ν)} {kvs : List (List Key × V)} (k : κ), RepD ky π H xs kvs → RepD ky π H (dDrop xs k) (dropK kvs (ky.enc k))
  | _, _, k, .nil => .nil
  | _, _, k, .cons (k := k') (x := x) (xs := xs) (v := v) (kvs := kvs) r t => by
    have ih := RepD.drop k t
    unfold dDrop dropK at *
    by_cases h : k' = k
    · subst h
      rw [List.filter_cons_of_neg (by simp), List.filter_cons_of_neg (by simp)]
      exact ih
    · have h' : ¬ ky.enc k' = ky.enc k := fun z => h (ky.inj _ _ z)
      rw [List.filter_cons_of_pos (by simp [h]), List.filter_cons_of_pos (by simp [h'])]
      exact .cons r ih
section
variable {X : Cx} {U : Wi} {Γ : List Sl} {a b c e : Expr} {es : List Expr} {rest : List Stmt} {pos p ap cp : Pos} {κ ν ω : Type} {I : ω → Kd} {n : Str}
/-- d.pop(k), d in slot i: what comes is let go -/
theorem s_popD [DecidableEq κ] {a0 : Option Addr} {ρ : Rp κ} {ky : Ky ρ} {π : Rp ν} {x : List (κ × ν)} {m : R κ} {k : κ → R ω} (i : Nat) (hu : X.A.units + 1 < cLine) (he : EX X U Γ a ρ m) (hr : ∀ y, SX X U (Γ.set i (.own a0 (oD ky π (dDrop x y)))) rest I (k y)) (hΓ : Γ[i]? = some (.own a0 (oD ky π x)) := by rfl) (hN : X.N[i]? = some n := by rfl)
    (hv : Vis X.env.scope n := by first | exact Or.inl rfl | exact Or.inr (Or.inl rfl) | exact Or.inr (Or.inr rfl)) (hd : (n == ("__debug__" : Str)) = false := by decide) (hcd : (n == ("__classdict__" : Str)) = false := by decide)
    (hpe : ∀ to t, MtR X "dict.pop" DX.rPopT1 → PE X (.Name n p) to → PA X [a] t → PE X (.Call (.Attribute (.Name n p) "pop" ap) [a] [] cp) (tBM X.K "dict" DX.rPopT1 to t) := by exact fun _ _ hm ho ha => pe_bm PySem.F.plainAttrs_dict PySem.F.slot_dict_pop PySem.F.type_dict_pop hm ho ha)
    (hs1 : starEach [a] X.env = (false, eval a X.env) :: starEach [] X.env := by rfl) (hs : swapsWith (.Call (.Attribute (.Name n p) "pop" ap) [a] [] cp) none pos.line X.env = pure false := by rfl) :
    SX X U Γ (.Expr (.Call (.Attribute (.Name n p) "pop" ap) [a] [] cp) pos :: rest) I (m.bind fun y => (chk ((dGet x y).isSome = true) ()).bind fun _ => k y) :=
  ⟨fun en F σ H D sa h => wSs_of (pss_cons (ps_expr (hpe _ _ (DX.mt_popT1 hu) (pe_var hN hv hd hcd) (pa_cons wE_pe pa_nil hs1)) hs) wSs_pss) (by
    obtain ⟨p, o, g1, g2, g3, ⟨kvs, eo, rl⟩, g5, g6⟩ := sa.own i _ _ hΓ
    refine ⟨.ref p, g1, .inr (.inr (.inl ⟨rfl, .inr ⟨kvs, by rw [← eo]; exact g3⟩⟩)), he.out en F σ H _ sa (wpR_mono (wpR_bind h) (fun y q u F1 H1 e1 s1 r1 => ?_) fun _ z => z)⟩
    obtain ⟨p2, o2, f1, f2, f3, ⟨kvs2, eo2, r3⟩, f5, f6⟩ := s1.own i _ _ hΓ
    subst eo2
    rw [g1] at f1
    injection f1 with f1
    injection f1 with f1
    injection f1 with f1
    subst f1
    obtain ⟨hl, q⟩ := wpR_chk (wpR_bind q)
    obtain ⟨b, eu, hb⟩ := ky.rep y H1 u (ρ.mono s1.sub r1)
    subst eu
    have g := r3.get y
    cases hg : dGet x y with
    | none => rw [hg] at hl; cases hl
    | some z =>
      rw [hg] at g
      obtain ⟨w, hw, _⟩ := g
      refine ⟨p, kvs2, ky.enc y, b, w, rfl, rfl, f3, hb, hw, ?_⟩
      exact (hr y).out en F1 σ _ D (s1.mut hΓ g1 ⟨_, rfl, r3.drop y⟩) (wpR_mono q (fun o z => z.up e1) fun _ z => z.up e1))⟩
end
/-! ### min and max of cells -/
end Py

/-! Own layer, part V: one type seen as another. -/
namespace Py
open PySem PySem.Spec PyProof.Rows L2
structure Cv {α β : Type} (ρ : Rp α) (π : Rp β) (f : α → β) : Prop where
  out : ∀ x F v, ρ.rep x F v → π.rep (f x) F v
structure Cvs {σ τ : Type} (s : Tr σ) (t : Tr τ) (f : σ → τ) : Prop where
  out : ∀ x F vs, s.rep x F vs → t.rep (f x) F vs
section
variable {α β σ τ : Type} {ρ : Rp α} {π : Rp β} {s : Tr σ} {t : Tr τ} {f : α → β} {g : σ → τ}
theorem cvY {f : α → Dy} (h : Yn ρ f) : Cv ρ rY f := ⟨h.out⟩
theorem cs1 (h : Cv ρ π f) : Cvs (t1 ρ) (t1 π) f := ⟨fun x F vs ⟨v, e, r⟩ => ⟨v, e, h.out x F v r⟩⟩
end
section
variable {X : Cx} {U : Wi} {Γ : List Sl} {e : Expr} {α β : Type} {ρ : Rp α} {π : Rp β}
theorem x_cv {f : α → β} {m : R α} (h : Cv ρ π f) (ha : EX X U Γ e ρ m) : EX X U Γ e π (m.bind fun x => .ok (f x)) := x_map (ρ' := π) f (fun x F v r => h.out x F v r) ha
end
end Py

/-! Own layer, part W: stores at a computed place, the greatest and the least of whole numbers. -/
namespace Py
open PySem PySem.Spec PyProof.Rows L2
section
variable {X : Cx} {U : Wi} {Γ : List Sl} {a b e : Expr} {rest : List Stmt} {pos p2 p4 : Pos} {α ω : Type} {ρ : Rp α} {I : ω → Kd} {n : Str}
end
/-- the greatest of some, the least of some -/
def maxI : List Int → Option Int
  | [] => none
  | x :: xs => some (xs.foldl (fun a y => if a < y then y else a) x)
def minI : List Int → Option Int
  | [] => none
  | x :: xs => some (xs.foldl (fun a y => if y < a then y else a) x)
theorem fold_max : ∀ (xs : List Int) (x : Int), (xs.foldl (fun a y => if a < y then y else a) x = x ∨ xs.foldl (fun a y => if a < y then y else a) x ∈ xs) ∧ x ≤ xs.foldl (fun a y => if a < y then y else a) x ∧ ∀ y ∈ xs, y ≤ xs.foldl (fun a y => if a < y then y else a) x
  | [], x => ⟨.inl rfl, Int.le_refl x, fun _ h => nomatch h⟩
  | z :: xs, x => by
    rw [List.foldl_cons]
    have hw : (x ≤ (if x < z then z else x) ∧ z ≤ (if x < z then z else x)) ∧ ((if x < z then z else x) = x ∨ (if x < z then z else x) = z) := by split <;> omega
    generalize (if x < z then z else x) = w at hw ⊢
    obtain ⟨h1, h2, h3⟩ := fold_max xs w
    refine ⟨?_, by omega, fun y hy => ?_⟩
    · rcases h1 with h1 | h1
      · rw [h1]
        rcases hw.2 with e | e
        · exact .inl e
        · exact .inr (by rw [e]; exact List.mem_cons_self)
      · exact .inr (List.mem_cons_of_mem _ h1)
    · rcases List.mem_cons.mp hy with e | hy
      · rw [e]
        omega
      · exact h3 y hy
theorem fold_min : ∀ (xs : List Int) (x : Int), (xs.foldl (fun a y => if y < a then y else a) x = x ∨ xs.foldl (fun a y => if y < a then y else a) x ∈ xs) ∧ xs.foldl (fun a y => if y < a then y else a) x ≤ x ∧ ∀ y ∈ xs, xs.foldl (fun a y => if y < a then y else a) x ≤ y
  | [], x => ⟨.inl rfl, Int.le_refl x, fun _ h => nomatch h⟩
  | z :: xs, x => by
    rw [List.foldl_cons]
    have hw : ((if z < x then z else x) ≤ x ∧ (if z < x then z else x) ≤ z) ∧ ((if z < x then z else x) = x ∨ (if z < x then z else x) = z) := by split <;> omega
    generalize (if z < x then z else x) = w at hw ⊢
    obtain ⟨h1, h2, h3⟩ := fold_min xs w
    refine ⟨?_, by omega, fun y hy => ?_⟩
    · rcases h1 with h1 | h1
      · rw [h1]
        rcases hw.2 with e | e
        · exact .inl e
        · exact .inr (by rw [e]; exact List.mem_cons_self)
      · exact .inr (List.mem_cons_of_mem _ h1)
    · rcases List.mem_cons.mp hy with e | hy
      · rw [e]
        omega
      · exact h3 y hy
theorem maxI_spec {xs : List Int} {m : Int} (h : maxI xs = some m) : m ∈ xs ∧ ∀ y ∈ xs, y ≤ m := by
  cases xs with
  | nil => cases h
  | cons x xs =>
    obtain ⟨h1, h2, h3⟩ := fold_max xs x
    have e : xs.foldl (fun a y => if a < y then y else a) x = m := Option.some.inj h
    rw [e] at h1 h2 h3
    exact ⟨List.mem_cons.mpr h1, fun y hy => (List.mem_cons.mp hy).elim (fun e => by rw [e]; exact h2) (h3 y)⟩
theorem minI_spec {xs : List Int} {m : Int} (h : minI xs = some m) : m ∈ xs ∧ ∀ y ∈ xs, m ≤ y := by
  cases xs with
  | nil => cases h
  | cons x xs =>
    obtain ⟨h1, h2, h3⟩ := fold_min xs x
    have e : xs.foldl (fun a y => if y < a then y else a) x = m := Option.some.inj h
    rw [e] at h1 h2 h3
    exact ⟨List.mem_cons.mpr h1, fun y hy => (List.mem_cons.mp hy).elim (fun e => by rw [e]; exact h2) (h3 y)⟩
theorem len_someI {α : Type} {f : List α → Option α} (h0 : f [] = none) {xs : List α} {m : α} (h : f xs = some m) : 0 < xs.length := by
  cases xs with
  | nil => rw [h0] at h; cases h
  | cons x xs => exact Nat.zero_lt_succ _
theorem vals_ints : ∀ {xs : List Int} {vs : List V} {F : Hp}, RepL rI F xs vs → vs = xs.map V.int
  | _, _, _, .nil => rfl
  | _, _, _, .cons r t => by rw [vals_ints t, show _ = V.int _ from r, List.map_cons]
theorem dMax1 {K : PySem.W.Frag} : DC (rMax K) (t1 (rL rI)) rI fun xs => ofOpt (maxI xs) := fun xs vs F H Q e ⟨v, ev, p, ws, e2, hp, r⟩ h => by
  obtain ⟨m, em, h⟩ := wpR_opt h
  obtain ⟨s1, s2⟩ := maxI_spec em
  refine ⟨p, xs, by rw [ev, e2], by rw [← vals_ints r]; exact .inl (.inl (e p _ hp)), len_someI rfl em, fun m' h1 h2 => ?_⟩
  have ee : m' = m := Int.le_antisymm (s2 m' h1) (h2 m s1)
  rw [ee]
  exact h _ F H (Ext.refl e) rfl
theorem dMin1 {K : PySem.W.Frag} : DC (rMin K) (t1 (rL rI)) rI fun xs => ofOpt (minI xs) := fun xs vs F H Q e ⟨v, ev, p, ws, e2, hp, r⟩ h => by
  obtain ⟨m, em, h⟩ := wpR_opt h
  obtain ⟨s1, s2⟩ := minI_spec em
  refine ⟨p, xs, by rw [ev, e2], by rw [← vals_ints r]; exact .inl (.inl (e p _ hp)), len_someI rfl em, fun m' h1 h2 => ?_⟩
  have ee : m' = m := Int.le_antisymm (h2 m s1) (s2 m' h1)
  rw [ee]
  exact h _ F H (Ext.refl e) rfl
end Py

/-! Own layer, part X: zip of rows of unlike kinds (a tuple and a list). -/
namespace ZG
open PySem PySem.Spec PyProof.Rows L2
/-- what the iterator at `it` over the row at `l` does: `xs` are the items, `St` tells how far it is -/
structure Nx (it l : Addr) (St : Nat → Heap → Prop) (xs : Array Value) : Prop where
  some : ∀ {prog : Program} {w : World} {A : Around} {E : Value → Shared → Prop} {s : Shared} {i : Nat} {x : Value} {Q : Value → Shared → Prop}, St i s.heap → xs[i]? = .some x → (∀ h', St (i + 1) h' → Heap.SameBut it s.heap h' → Q x { s with heap := h' }) →
    wpAny (model prog w) A (Builtin.SmallTypes.nextOf (.ref it)) Q E s
  none : ∀ {prog : Program} {w : World} {A : Around} {E : Value → Shared → Prop} {s : Shared} {i : Nat} {Q : Value → Shared → Prop}, A.handled = .none → St i s.heap → xs[i]? = .none →
    (∀ h' e, Heap.ExtBut it s.heap h' → (∃ o, h'.get? e = .some o ∧ o.cls = .type "StopIteration") → E (.ref e) { s with heap := h' }) → wpAny (model prog w) A (Builtin.SmallTypes.nextOf (.ref it)) Q E s
  keep : ∀ {i : Nat} {h h' : Heap}, St i h → (∀ o, h.get? it = .some o → h'.get? it = .some o) → (∀ o, h.get? l = .some o → h'.get? l = .some o) → St i h'
theorem up {a c : Addr} {h h' : Heap} {o : Obj} (hs : Heap.SameBut a h h') (hc : c ≠ a) (e : h.get? c = some o) : h'.get? c = some o := (hs.2 c hc).trans e
def StT (it t : Addr) (xs : Array Value) (i : Nat) (h : Heap) : Prop := h.IsTupleIter it t i ∧ h.IsTuple t xs
def StL (it t : Addr) (xs : Array Value) (i : Nat) (h : Heap) : Prop := h.IsListIter it t i ∧ h.IsList t xs
theorem nxT {it t : Addr} {xs : Array Value} (hne : t ≠ it) : Nx it t (StT it t xs) xs where
  some := fun st hx hQ => RZ.nextOf_tuple_item st.1 st.2 hx fun h' a b => hQ h' ⟨a, st.2.extBut b.extBut hne⟩ b
  none := fun hh st hx hE => RZ.nextOf_tuple_end hh st.1 st.2 hx hE
  keep := fun st k1 k2 => ⟨st.1.at fun o e => k1 o e, let ⟨o, e, r⟩ := st.2; ⟨o, k2 o e, r⟩⟩
theorem nxL {it t : Addr} {xs : Array Value} (hne : t ≠ it) : Nx it t (StL it t xs) xs where
  some := fun st hx hQ => wpAny_nextOf_list_item st.1 st.2 hx fun h' a b => hQ h' ⟨a, st.2.extBut b.extBut hne⟩ b
  none := fun hh st hx hE => wpAny_nextOf_list_end hh st.1 st.2 hx hE
  keep := fun st k1 k2 => ⟨st.1.at fun o e => k1 o e, st.2.at fun o e => k2 o e⟩
section
variable {prog : Program} {w : World} {A : Around} {E : Value → Shared → Prop} {s : Shared} {z TI TO i1 i2 l1 l2 : Addr} {k1 k2 : Nat} {xs ys : Array Value} {S1 S2 : Nat → Heap → Prop}
theorem item {x y a b : Value} {Q : Value → Shared → Prop} (D : ZipApart z TI TO i1 i2 l1 l2) (N1 : Nx i1 l1 S1 xs) (N2 : Nx i2 l2 S2 ys)
    (hz : IsZip s.heap z TI TO .none) (hTI : IsPair s.heap TI (.ref i1) (.ref i2)) (hTO : IsPair s.heap TO a b) (h1 : S1 k1 s.heap) (h2 : S2 k2 s.heap) (hx : xs[k1]? = some x) (hy : ys[k2]? = some y)
    (hQ : ∀ h', IsZip h' z TI TO (rawInt s.heap.objs.size) → IsPair h' TO x y → S1 (k1 + 1) h' → S2 (k2 + 1) h' → IsPair h' s.heap.objs.size x y → h'.objs.size = s.heap.objs.size + 1 →
      (∀ c o, c ≠ z → c ≠ TO → c ≠ i1 → c ≠ i2 → s.heap.get? c = some o → h'.get? c = some o) → Q (.ref s.heap.objs.size) { s with heap := h' }) :
    wpAny (model prog w) A (Builtin.«zip.__next__» ⟨[.ref z], []⟩) (fun fin s' => ∃ v, fin = .done (.ret v) ∧ Q v s') E s := by
  show wpAny _ _ (field (.ref z) 2 >>= _) _ _ _
  refine wpAny_bind (wpAny_field hz rfl (x := .bool false) rfl ?_)
  show wpAny _ _ (field (.ref z) 3 >>= _) _ _ _
  refine wpAny_bind (wpAny_field hz rfl (x := .ref TI) rfl (wpAny_bind (wpAny_seqItems hTI rfl ?_)))
  show wpAny _ _ (Builtin.SmallTypes.ownedTupleIsFree (.ref z) >>= _) _ _ _
  refine wpAny_bind ?_
  unfold Builtin.SmallTypes.ownedTupleIsFree
  refine wpAny_bind (wpAny_field hz rfl (x := .none) rfl (wpAny_pure ?_))
  simp only [if_true]
  refine wpAny_bind (wpAny_rule (wpAny_bind (wpAny_field hz rfl (x := .ref TO) rfl (wpAny_bind (wpAny_setField_rec hz (by simp) fun a1 z1 b1 => ?_)))))
  have z1' : IsZip a1 z TI TO .ellipsis := z1
  refine wpAny_bind ?_
  simp only [List.zipIdx_cons, List.zipIdx_nil, List.forIn_cons, List.forIn_nil]
  refine wpAny_bind (wpAny_bind (wpAny_onRaise ?_))
  show wpAny _ _ (Builtin.SmallTypes.nextOf (.ref i1) >>= _) _ _ _
  refine wpAny_bind (N1.some (N1.keep h1 (fun o e => up b1 D.i1z e) fun o e => up b1 D.l1z e) hx fun a2 t2 b2 => wpAny_pure ?_)
  have o2 : IsPair a2 TO a b := up b2 D.TOi1 (up b1 D.TOz hTO)
  refine wpAny_bind (wpAny_seqItems o2 rfl (wpAny_bind (wpAny_updateSeq_pair o2 fun a3 o3 b3 => ?_)))
  have o3' : IsPair a3 TO x b := o3
  refine wpAny_bind (wpAny_letGo (wpAny_pure (wpAny_bind (wpAny_bind (wpAny_onRaise ?_)))))
  show wpAny _ _ (Builtin.SmallTypes.nextOf (.ref i2) >>= _) _ _ _
  refine wpAny_bind (N2.some (N2.keep h2 (fun o e => up b3 D.TOi2.symm (up b2 D.i12.symm (up b1 D.i2z e))) fun o e => up b3 D.l2TO (up b2 D.l2i1 (up b1 D.l2z e))) hy fun a4 t4 b4 => wpAny_pure ?_)
  have o4 : IsPair a4 TO x b := up b4 D.TOi2 o3'
  refine wpAny_bind (wpAny_seqItems o4 rfl (wpAny_bind (wpAny_updateSeq_pair o4 fun a5 o5 b5 => ?_)))
  have o5' : IsPair a5 TO x y := o5
  refine wpAny_bind (wpAny_letGo (wpAny_pure (wpAny_pure (wpAny_bind (wpAny_seqItems o5' rfl (wpAny_bind (wpAny_newTuple ?_)))))))
  have sz : a5.objs.size = s.heap.objs.size := by rw [b5.1, b4.1, b3.1, b2.1, b1.1]
  have z5 : IsZip a5 z TI TO .ellipsis := up b5 D.TOz.symm (up b4 D.i2z.symm (up b3 D.TOz.symm (up b2 D.i1z.symm z1')))
  have zl : z < a5.objs.size := Heap.lt_size z5
  show wpAny _ _ (Builtin.SmallTypes.ownedTupleHandOut (.ref z) (.ref a5.objs.size) >>= _) _ _ _
  refine wpAny_bind ?_
  unfold Builtin.SmallTypes.ownedTupleHandOut
  have z6 : IsZip (a5.push { cls := .type "tuple", data := .seq #[x, y] }) z TI TO .ellipsis := Heap.get?_push_of_some _ z5
  refine wpAny_bind (wpAny_setField_rec z6 (by simp) fun a7 z7 b7 => ?_)
  have z7' : IsZip a7 z TI TO (rawInt a5.objs.size) := z7
  refine wpAny_setField_rec z7' (by simp) fun a8 z8 b8 => ?_
  have z8' : IsZip a8 z TI TO (rawInt a5.objs.size) := z8
  have hi : ∀ c o, c ≠ z → a5.get? c = some o → a8.get? c = some o := fun c o hc e => up b8 hc (up b7 hc (Heap.get?_push_of_some _ e))
  have p8 : IsPair a8 a5.objs.size x y := up b8 (Nat.ne_of_gt zl) (up b7 (Nat.ne_of_gt zl) (Heap.get?_push_size _ rfl))
  have s8 : a8.objs.size = a5.objs.size + 1 := by rw [b8.1, b7.1, Heap.size_push]
  rw [sz] at z8' p8 s8
  refine wpAny_pure ⟨_, rfl, ?_⟩
  show Q (.ref a5.objs.size) _
  rw [sz]
  have t2' : S1 (k1 + 1) a8 := N1.keep t2 (fun o e => hi _ o D.i1z (up b5 D.TOi1.symm (up b4 D.i12 (up b3 D.TOi1.symm e)))) fun o e => hi _ o D.l1z (up b5 D.l1TO (up b4 D.l1i2 (up b3 D.l1TO e)))
  have t4' : S2 (k2 + 1) a8 := N2.keep t4 (fun o e => hi _ o D.i2z (up b5 D.TOi2.symm e)) fun o e => hi _ o D.l2z (up b5 D.l2TO e)
  exact hQ a8 z8' (hi _ _ D.TOz o5') t2' t4' p8 s8 fun c o c1 c2 c3 c4 e => hi c o c1 (up b5 c2 (up b4 c4 (up b3 c2 (up b2 c3 (up b1 c1 e)))))
theorem stop {a b : Value} {Q : Fin → Shared → Prop} (hh : A.handled = none) (D : ZipApart z TI TO i1 i2 l1 l2) (N1 : Nx i1 l1 S1 xs) (N2 : Nx i2 l2 S2 ys)
    (hz : IsZip s.heap z TI TO .none) (hTI : IsPair s.heap TI (.ref i1) (.ref i2)) (hTO : IsPair s.heap TO a b) (h1 : S1 k1 s.heap) (h2 : S2 k2 s.heap) (hend : xs[k1]? = none ∨ ys[k2]? = none)
    (hE : ∀ h' e, (∀ c o, c ≠ z → c ≠ TO → c ≠ i1 → c ≠ i2 → s.heap.get? c = some o → h'.get? c = some o) → (∃ o, h'.get? e = some o ∧ o.cls = .type "StopIteration") → E (.ref e) { s with heap := h' }) :
    wpAny (model prog w) A (Builtin.«zip.__next__» ⟨[.ref z], []⟩) Q E s := by
  show wpAny _ _ (field (.ref z) 2 >>= _) _ _ _
  refine wpAny_bind (wpAny_field hz rfl (x := .bool false) rfl ?_)
  show wpAny _ _ (field (.ref z) 3 >>= _) _ _ _
  refine wpAny_bind (wpAny_field hz rfl (x := .ref TI) rfl (wpAny_bind (wpAny_seqItems hTI rfl ?_)))
  show wpAny _ _ (Builtin.SmallTypes.ownedTupleIsFree (.ref z) >>= _) _ _ _
  refine wpAny_bind ?_
  unfold Builtin.SmallTypes.ownedTupleIsFree
  refine wpAny_bind (wpAny_field hz rfl (x := .none) rfl (wpAny_pure ?_))
  simp only [if_true]
  refine wpAny_bind (wpAny_rule (wpAny_bind (wpAny_field hz rfl (x := .ref TO) rfl (wpAny_bind (wpAny_setField_rec hz (by simp) fun a1 z1 b1 => ?_)))))
  have z1' : IsZip a1 z TI TO .ellipsis := z1
  refine wpAny_bind ?_
  simp only [List.zipIdx_cons, List.zipIdx_nil, List.forIn_cons, List.forIn_nil]
  refine wpAny_bind (wpAny_bind (wpAny_onRaise ?_))
  show wpAny _ _ (Builtin.SmallTypes.nextOf (.ref i1) >>= _) _ _ _
  have st1 : S1 k1 a1 := N1.keep h1 (fun o e => up b1 D.i1z e) fun o e => up b1 D.l1z e
  cases hx : xs[k1]? with
  | none =>
    refine wpAny_bind (N1.none (s := { s with heap := a1 }) hh st1 hx fun a2 e b2 ⟨oe, f1, f2⟩ => ?_)
    have z2 : IsZip a2 z TI TO .ellipsis := b2 _ _ D.i1z.symm z1'
    have ne : e ≠ z := fun q => by rw [q, z2] at f1; injection f1 with f1; rw [← f1] at f2; simp at f2
    exact wpAny_setField_rec z2 (by simp) fun a3 _ b3 => hE a3 e (fun c o c1 _ c3 _ q => up b3 c1 (b2 _ _ c3 (up b1 c1 q))) ⟨oe, up b3 ne f1, f2⟩
  | some x =>
    have hy : ys[k2]? = none := hend.resolve_left fun q => by rw [hx] at q; cases q
    refine wpAny_bind (N1.some (s := { s with heap := a1 }) st1 hx fun a2 t2 b2 => wpAny_pure ?_)
    have o2 : IsPair a2 TO a b := up b2 D.TOi1 (up b1 D.TOz hTO)
    refine wpAny_bind (wpAny_seqItems o2 rfl (wpAny_bind (wpAny_updateSeq_pair o2 fun a3 o3 b3 => ?_)))
    refine wpAny_bind (wpAny_letGo (wpAny_pure (wpAny_bind (wpAny_bind (wpAny_onRaise ?_)))))
    show wpAny _ _ (Builtin.SmallTypes.nextOf (.ref i2) >>= _) _ _ _
    refine wpAny_bind (N2.none (s := { s with heap := a3 }) hh (N2.keep h2 (fun o e => up b3 D.TOi2.symm (up b2 D.i12.symm (up b1 D.i2z e))) fun o e => up b3 D.l2TO (up b2 D.l2i1 (up b1 D.l2z e))) hy fun a4 e b4 ⟨oe, f1, f2⟩ => ?_)
    have z4 : IsZip a4 z TI TO .ellipsis := b4 _ _ D.i2z.symm (up b3 D.TOz.symm (up b2 D.i1z.symm z1'))
    have ne : e ≠ z := fun q => by rw [q, z4] at f1; injection f1 with f1; rw [← f1] at f2; simp at f2
    exact wpAny_setField_rec z4 (by simp) fun a5 _ b5 => hE a5 e (fun c o c1 c2 c3 c4 q => up b5 c1 (b4 _ _ c4 (up b3 c2 (up b2 c3 (up b1 c1 q))))) ⟨oe, up b5 ne f1, f2⟩
theorem nextItem {x y a b : Value} {Q : Option Value → Shared → Prop} (D : ZipApart z TI TO i1 i2 l1 l2) (N1 : Nx i1 l1 S1 xs) (N2 : Nx i2 l2 S2 ys)
    (hz : IsZip s.heap z TI TO .none) (hTI : IsPair s.heap TI (.ref i1) (.ref i2)) (hTO : IsPair s.heap TO a b) (h1 : S1 k1 s.heap) (h2 : S2 k2 s.heap) (hx : xs[k1]? = some x) (hy : ys[k2]? = some y)
    (hQ : ∀ h', IsZip h' z TI TO (rawInt s.heap.objs.size) → IsPair h' TO x y → S1 (k1 + 1) h' → S2 (k2 + 1) h' → IsPair h' s.heap.objs.size x y → h'.objs.size = s.heap.objs.size + 1 →
      (∀ c o, c ≠ z → c ≠ TO → c ≠ i1 → c ≠ i2 → s.heap.get? c = some o → h'.get? c = some o) → Q (some (.ref s.heap.objs.size)) { s with heap := h' }) : wpAny (model prog w) A (pyNext (.ref z)) Q E s := by
  have hT : s.TypeIs (.ref z) "zip" := ⟨_, hz, rfl⟩
  unfold pyNext
  exact wpAny_bind (wpAny_attempt (wpAny_callSpecial?_slot (name := Str.ofString "__next__") hT F.slot_zip_next (wpAny_call_entry F.slot_zip_next hT F.entry_zip_next
    (item D N1 N2 hz hTI hTO h1 h2 hx hy fun h' q1 q2 q3 q4 q5 q6 q7 => wpAny_pure (hQ h' q1 q2 q3 q4 q5 q6 q7)) (F.args_zip_next_1 _))))
theorem nextStop {a b : Value} {Q : Option Value → Shared → Prop} (hh : A.handled = none) (D : ZipApart z TI TO i1 i2 l1 l2) (N1 : Nx i1 l1 S1 xs) (N2 : Nx i2 l2 S2 ys)
    (hz : IsZip s.heap z TI TO .none) (hTI : IsPair s.heap TI (.ref i1) (.ref i2)) (hTO : IsPair s.heap TO a b) (h1 : S1 k1 s.heap) (h2 : S2 k2 s.heap) (hend : xs[k1]? = none ∨ ys[k2]? = none)
    (hQ : ∀ h', (∀ c o, c ≠ z → c ≠ TO → c ≠ i1 → c ≠ i2 → s.heap.get? c = some o → h'.get? c = some o) → Q none { s with heap := h' }) : wpAny (model prog w) A (pyNext (.ref z)) Q E s := by
  have hT : s.TypeIs (.ref z) "zip" := ⟨_, hz, rfl⟩
  unfold pyNext
  refine wpAny_bind (wpAny_attempt (wpAny_callSpecial?_slot (name := Str.ofString "__next__") hT F.slot_zip_next (wpAny_call_entry F.slot_zip_next hT F.entry_zip_next
    (stop hh D N1 N2 hz hTI hTO h1 h2 hend fun h' e hk ⟨o, ho, hc⟩ => ?_) (F.args_zip_next_1 _))))
  exact wpAny_bind (wpAny_isInstance (T := "StopIteration") (b := true) ⟨o, ho, hc⟩ isSubtype_stop (wpAny_pure (hQ _ hk)))
end
end ZG
namespace ZG
open PySem PySem.Spec PyProof.Rows L2
abbrev A1 (h : Heap) (t : Addr) : Heap := h.push { cls := .type "tuple_iterator", data := .fields #[.ref t, .int 0 0] }
abbrev A2 (h : Heap) (t l : Addr) : Heap := (A1 h t).push { cls := .type "list_iterator", data := .fields #[.ref l, .int 0 0] }
abbrev A3 (h : Heap) (t l : Addr) : Heap := (A2 h t l).push { cls := .type "tuple", data := .seq #[.ref h.objs.size, .ref (A1 h t).objs.size] }
abbrev A4 (h : Heap) (t l : Addr) : Heap := (A3 h t l).push { cls := .type "tuple", data := .seq #[.none, .none] }
abbrev A5 (h : Heap) (t l : Addr) : Heap := (A4 h t l).push { cls := .type "zip", data := .fields #[.none, .bool false, .bool false, .ref (A2 h t l).objs.size, .ref (A3 h t l).objs.size] }
theorem made (t l : Addr) (xs ys : Array Value) :
    Meets (Builtin.«zip.__new__» ⟨[.type "zip", .ref t, .ref l], []⟩) (fun _ R s => s.heap.IsTuple t xs ∧ s.heap.IsList l ys ∧ R (.ok (.ret (.ref (A4 s.heap t l).objs.size))) { s with heap := A5 s.heap t l }) :=
  .of_wp fun prog w A R s h => by
    obtain ⟨hp, g, d, tk, os⟩ := s
    obtain ⟨ht, hl, h⟩ := h
    have hsub := sub_zip
    have q1 : Heap.IsTuple (Shared.heap ⟨hp, g, d, tk, os⟩) t xs := ht
    have q2 : Heap.IsList (Shared.heap ⟨hp.push { cls := .type "tuple_iterator", data := .fields #[.ref t, .int 0 0] }, g, d, tk, os⟩) l ys := Heap.IsList.push hl _
    wp_walk using wpAny_pyIter_tuple q1, wpAny_pyIter_list q2
    exact ⟨_, rfl, h⟩
section
variable {prog : Program} {w : World} {A : Around} {E : Value → Shared → Prop} {s : Shared}
theorem call {t l : Addr} {xs ys : Array Value} {Q : Value → Shared → Prop} (ht : s.heap.IsTuple t xs) (hl : s.heap.IsList l ys)
    (h : ∀ h', IsZip h' (s.heap.objs.size + 4) (s.heap.objs.size + 2) (s.heap.objs.size + 3) .none → IsPair h' (s.heap.objs.size + 2) (.ref s.heap.objs.size) (.ref (s.heap.objs.size + 1)) → IsPair h' (s.heap.objs.size + 3) .none .none →
      h'.IsTupleIter s.heap.objs.size t 0 → h'.IsListIter (s.heap.objs.size + 1) l 0 → (∀ c o, s.heap.get? c = some o → h'.get? c = some o) → Q (.ref (s.heap.objs.size + 4)) { s with heap := h' }) :
    wpAny (model prog w) A (PySem.call (.type "zip") [.ref t, .ref l]) Q E s := by
  refine callType_new F.called_zip (by decide) (F.typeCall_zip_2 _ _) (F.newCall_zip_2 _ _) (fun obj => F.args_object_init_3 obj _ _) F.entry_zip_new (made t l xs ys) ⟨ht, hl, ?_⟩
  have n1 : (A1 s.heap t).objs.size = s.heap.objs.size + 1 := Heap.size_push ..
  have n2 : (A2 s.heap t l).objs.size = s.heap.objs.size + 2 := by rw [Heap.size_push, n1]
  have n3 : (A3 s.heap t l).objs.size = s.heap.objs.size + 3 := by rw [Heap.size_push, n2]
  have n4 : (A4 s.heap t l).objs.size = s.heap.objs.size + 4 := by rw [Heap.size_push, n3]
  have e5 : (A5 s.heap t l).get? (A4 s.heap t l).objs.size = some _ := Heap.get?_push_size _ rfl
  have e4 : (A5 s.heap t l).get? (A3 s.heap t l).objs.size = some _ := Heap.get?_push_of_some _ (Heap.get?_push_size _ rfl)
  have e3 : (A5 s.heap t l).get? (A2 s.heap t l).objs.size = some _ := Heap.get?_push_of_some _ (Heap.get?_push_of_some _ (Heap.get?_push_size _ rfl))
  have e2 : (A5 s.heap t l).get? (A1 s.heap t).objs.size = some _ := Heap.get?_push_of_some _ (Heap.get?_push_of_some _ (Heap.get?_push_of_some _ (Heap.get?_push_size _ rfl)))
  have e1 : (A5 s.heap t l).get? s.heap.objs.size = some _ := Heap.get?_push_of_some _ (Heap.get?_push_of_some _ (Heap.get?_push_of_some _ (Heap.get?_push_of_some _ (Heap.get?_push_size _ rfl))))
  show _ ∧ _
  rw [n2, n3, n4] at e5
  rw [n1, n2] at e3
  rw [n3] at e4
  rw [n1] at e2
  rw [n4]
  exact ⟨⟨_, e5, rfl⟩, h _ e5 e3 e4 ⟨_, e1, rfl, rfl⟩ ⟨_, e2, rfl, rfl⟩ fun c o x => Heap.get?_push_of_some _ (Heap.get?_push_of_some _ (Heap.get?_push_of_some _ (Heap.get?_push_of_some _ (Heap.get?_push_of_some _ x))))⟩
end
/-- the tuple at a and the list at b, as they stand at each turn -/
def ItM (K : PySem.W.Frag) (a b : Addr) : It :=
  ⟨fun i H => ∃ (xs ys : List V) (x y : V), SqT K H a xs ∧ SqL K H b ys ∧ xs[i]? = some x ∧ ys[i]? = some y,
    fun i H v H' => ∃ T x y, v = .ref T ∧ H T = none ∧ H' = upd H T (.tup [x, y]) ∧ (∀ xs, SqT K H a xs → xs[i]? = some x) ∧ ∀ ys, SqL K H b ys → ys[i]? = some y,
    fun i H => ∃ xs ys : List V, SqT K H a xs ∧ SqL K H b ys ∧ (xs.length ≤ i ∨ ys.length ≤ i)⟩
theorem five {z a b c d e : Addr} (h : z ∈ [a, b, c, d, e]) : z = a ∨ z = b ∨ z = c ∨ z = d ∨ z = e := by simpa using h
theorem turn {P : Program} {w : World} {K : PySem.W.Frag} {elts : List Expr} {kk : Nat} {tpos : Pos} {a b z TI TO i1 i2 : Addr} (D : ZipApart z TI TO i1 i2 a b) :
    Turn P w K (.Tuple elts kk tpos) (ItM K a b) [z, TI, TO, i1, i2] z (fun i h => IsZip h z TI TO .none ∧ IsPair h TI (.ref i1) (.ref i2) ∧ (∃ x y, IsPair h TO x y) ∧ h.IsTupleIter i1 a i ∧ h.IsListIter i2 b i) where
  mem := by simp
  obj := fun i h ⟨g1, g2, ⟨x, y, g3⟩, ⟨o1, e1, _, d1⟩, ⟨o2, e2, _, d2⟩⟩ c hc => by
    rcases five hc with q | q | q | q | q
    · rw [q]; exact ⟨_, g1, fun v q => nomatch q⟩
    · rw [q]; exact ⟨_, g2, fun v q => nomatch q⟩
    · rw [q]; exact ⟨_, g3, fun v q => nomatch q⟩
    · rw [q]; exact ⟨o1, e1, fun v q => by rw [d1] at q; cases q⟩
    · rw [q]; exact ⟨o2, e2, fun v q => by rw [d2] at q; cases q⟩
  keep := fun i h h' ⟨g1, g2, ⟨x, y, g3⟩, g4, g5⟩ k => ⟨k z (by simp) _ g1, k TI (by simp) _ g2, ⟨x, y, k TO (by simp) _ g3⟩, g4.at fun o q => k i1 (by simp) o q, g5.at fun o q => k i2 (by simp) o q⟩
  item := by
    intro X hP hw hK hc i pins s σ H E I hf st hg
    subst hP hw hK
    obtain ⟨g1, g2, ⟨x0, y0, g3⟩, g4, g5⟩ := st
    obtain ⟨xs, ys, x, y, hqx, hqy, hx, hy⟩ := hg
    obtain ⟨its, rv, p, _⟩ := I.tuple hqx
    obtain ⟨its2, rv2, p2, _⟩ := I.list hqy
    obtain ⟨u, hu, ru⟩ := rv.get hx
    obtain ⟨u2, hu2, ru2⟩ := rv2.get hy
    have zl : z < s.heap.objs.size := Heap.lt_size g1
    refine nextItem D (nxT (xs := its.toArray) D.l1i1) (nxL (xs := its2.toArray) D.l2i2) g1 g2 g3 ⟨g4, p⟩ ⟨g5, p2.isList⟩ (x := u) (y := u2) (by simpa using hu) (by simpa using hu2) fun h' z' TO' t1 t2 hT hsz hk => ?_
    refine ⟨_, rfl, wpAny_letOwnedTupleGo_zip (s := { s with heap := h' }) z' fun h'' z'' sb => ?_⟩
    have T2 : h''.get? s.heap.objs.size = some { cls := .type "tuple", data := .seq #[u, u2] } := up sb (Nat.ne_of_gt zl) hT
    have new : ObjOk X.prog X.w (upd H s.heap.objs.size (.tup [x, y])) h'' s.heap.objs.size (.tup [x, y]) := ⟨by show 2 ≤ sizeLine; decide, [u, u2], .cons ru (.cons ru2 .nil), ⟨_, T2, rfl, _, rfl⟩⟩
    have I1 : Inv X pins σ (upd H s.heap.objs.size (.tup [x, y])) { s with heap := h'' } :=
      I.turnedNew (t' := s.toks) (ch := [z, TI, TO, i1, i2]) (fun c o hb q => up sb (fun e => hb (by simp [e])) (hk c o (fun e => hb (by simp [e])) (fun e => hb (by simp [e])) (fun e => hb (by simp [e])) (fun e => hb (by simp [e])) q)) hf (Nat.le_refl _) new
    refine ⟨.ref s.heap.objs.size, _, I1, rfl, ⟨_, x, y, rfl, I.hok.fresh (Nat.le_refl _), rfl, fun l hl => by rw [I.tuple_inj hl hqx]; exact hx, fun l hl => by rw [I.list_inj hl hqy]; exact hy⟩, ⟨z'', ?_, ⟨u, u2, ?_⟩, ?_, ?_⟩, fun c hcm => ?_⟩
    · exact up sb D.TIz (hk _ _ D.TIz D.TITO D.TIi1 D.TIi2 g2)
    · exact up sb D.TOz TO'
    · exact t1.1.at fun o q => up sb D.i1z q
    · exact t2.1.at fun o q => up sb D.i2z q
    · have lt : c < s.heap.objs.size := by
        rcases five hcm with q | q | q | q | q
        · rw [q]; exact zl
        · rw [q]; exact Heap.lt_size g2
        · rw [q]; exact Heap.lt_size g3
        · rw [q]; obtain ⟨_, e1, _⟩ := g4; exact Heap.lt_size e1
        · rw [q]; obtain ⟨_, e1, _⟩ := g5; exact Heap.lt_size e1
      rw [upd_ne (Nat.ne_of_lt lt)]
      exact (hf c hcm).1
  done := by
    intro X hP hw hK hc i pins s σ H E I hf st hg
    subst hP hw hK
    obtain ⟨g1, g2, ⟨x0, y0, g3⟩, g4, g5⟩ := st
    obtain ⟨xs, ys, hqx, hqy, hend⟩ := hg
    obtain ⟨its, rv, p, _⟩ := I.tuple hqx
    obtain ⟨its2, rv2, p2, _⟩ := I.list hqy
    have n1 := Paired.length rv
    have n2 := Paired.length rv2
    have he : its.toArray[i]? = none ∨ its2.toArray[i]? = none := hend.elim (fun q => .inl (by simp; omega)) fun q => .inr (by simp; omega)
    exact nextStop (I.ok.hd hc) D (nxT (xs := its.toArray) D.l1i1) (nxL (xs := its2.toArray) D.l2i2) g1 g2 g3 ⟨g4, p⟩ ⟨g5, p2.isList⟩ he fun h' hk => ⟨rfl, I.turnedL (t' := s.toks) (ch := [z, TI, TO, i1, i2]) (fun c o hb q =>
      hk c o (fun e => hb (by simp [e])) (fun e => hb (by simp [e])) (fun e => hb (by simp [e])) (fun e => hb (by simp [e])) q) hf⟩
  self := fun A i s Q E st h => wpAny_pyIter_zip st.1 h
end ZG
namespace Py
open PySem PySem.Spec PyProof.Rows L2
end Py

/-! Own layer, part Y: rows of any kind, list and tuple of them. -/
namespace Py
open PySem PySem.Spec PyProof.Rows L2
end Py

/-! Own layer, part Z: a dict of tuples compared with an empty one. -/
namespace Py
open PySem PySem.Spec PyProof.Rows L2
section
variable {P : Program} {w : World} {A : Around} {E : Value → Shared → Prop} {s : Shared}
end
section
variable {X : Cx} {U : Wi} {Γ : List Sl} {a : Expr} {κ ν : Type} {pos' : Pos}
end
end Py

/-! Own layer, part Aa: a caught exception that is kept: try .. except C as e: kind = e; isinstance(kind, ..) later on. -/
namespace Py
open PySem PySem.Spec PyProof.Rows L2
/-- a kept exception of the class cls -/
def exV (a : Addr) (cls : Value) : HO := .ext fun h => ∃ oe, h.get? a = some oe ∧ Zc cls none oe ∧ ∃ vs, oe.data = .fields vs
theorem exV_ok {P : Program} {w : World} {H : Hp} {h : Heap} {a : Addr} {cls : Value} {oe : Obj} (e : h.get? a = some oe) (z : Zc cls none oe) (d : ∃ vs, oe.data = .fields vs) : ObjOk P w H h a (exV a cls) :=
  ⟨⟨oe, e, z, d⟩, ⟨oe, e⟩, fun _ _ ⟨o, v, q, r⟩ k => ⟨o, k o v, q, r⟩⟩
section
variable {X : Cx} {pins : List (Addr × Obj)} {σ : L2.St} {H : Hp} {s : Shared} {a : Addr} {o : HO} {oe : Obj}
/-- an object that is newer than the entry comes under watch -/
theorem Inv.watch (I : Inv X pins σ H s) (new : X.s_0.heap.get? a = none) (hn : H a = none) (nL : a ≠ X.env.locals) (nc : ∀ x c, X.env.cells.lookup x = some c → c ≠ a) (np : ∀ p ∈ X.pn ++ pins, p.1 ≠ a) (ho : ObjOk X.prog X.w (upd H a o) s.heap a o) : Inv X pins σ (upd H a o) s := by
  have ne0 : ∀ {b u}, X.s_0.heap.get? b = some u → b ≠ a := fun e z => by
    rw [z, new] at e
    cases e
  have neH : ∀ {b u}, H b = some u → b ≠ a := fun e z => by
    rw [z, hn] at e
    cases e
  have B := I.base
  exact ⟨I.ok, I.os, I.bare, ⟨B.keep, B.slot, fun b u e n x => (upd_ne (ne0 e)).trans (B.free b u e n x), B.there, fun b xs e => (upd_ne (neH (B.tups b xs e))).trans (B.tups b xs e), fun b u v e => (upd_ne (neH (B.frzs b u v e))).trans (B.frzs b u v e), fun b ps e => by
      obtain ⟨m, q⟩ := B.tbls b ps e
      exact ⟨m, (upd_ne (neH q)).trans q⟩⟩,
    I.loc, I.cell, (upd_ne nL.symm).trans I.free, fun x c e => (upd_ne (nc x c e)).trans (I.freeC x c e), fun p hp => by
      obtain ⟨h1, h2, h3⟩ := I.pin p hp
      exact ⟨h1, (upd_ne (np p hp)).trans h2, h3⟩,
    HOk.laidN I.hok (fun _ _ z => z) hn ho, I.len⟩
end
/-- what is asked of the suite, which keeps the exception -/
def wKeep (K : PySem.W.Frag) (c : Value) (i : Nat) (ts : Addr → Value → Option Addr → TS) (Wout : WX) (D : L2.Ends) : WX := fun cls d σ H =>
  ∃ b, PySem.W.exmOne K cls c = some b ∧ (b = false → Wout cls d σ H) ∧
    (b = true → d = none ∧ ∀ a, H a = none → ts a cls d { nx := fun σ' H' => D.nx (σ'.set i none) (upd H' a (exV a cls)), rt := fun _ _ => False, bk := fun _ _ => False, ct := fun _ _ => False } (σ.set i (some (.ref a))) H)
section
variable {X : Cx} {x n : Str} {c : Value} {i : Nat} {body suite : List Stmt} {b0 : Stmt} {np pos pos' : Pos} {tb : WX → TS} {ts : Addr → Value → Option Addr → TS} {Wout : WX}
theorem ps_try_keep (hs : X.stack = X.env :: X.outer) (hf : X.env.frame = some X.env.locals) (hex : X.ex = []) (hN : X.N.Nodup) (hi : X.N[i]? = some n) (hln : X.env.kindOf n = some .local) (hc : Names X x c) (tk : Takes X Wout)
    (hb : ∀ (W : WX) (pn : List (Addr × Obj)) (xe : Value → Shared → Prop), Takes (X.tr pn xe) W → PassesOwn (model X.prog X.w) X.A X.env xe → PSs (X.tr pn xe) body (tb W))
    (hsu : ∀ (a : Addr) (oe : Obj) (cls : Value) (d : Option Addr) (pn : List (Addr × Obj)), Zc cls d oe → (∃ vs, oe.data = .fields vs) → PSs (X.suite a ((a, oe) :: pn)) (b0 :: suite) (ts a cls d)) :
    PS X (.Try body [.ExceptHandler (some (.Name x np)) (some n) (b0 :: suite) pos'] [] [] pos) (fun D σ H => tb (wKeep X.K c i ts Wout D) D σ H) := by
  refine ⟨fun pins s σ H D I h => ?_⟩
  have ok := I.ok
  have frames : X.A.frames = some (X.env :: X.outer) := by rw [ok.frames, hs]
  -- what stands behind the body, and what is to be done with an exception of it
  let hd : ExceptHandler := .ExceptHandler (some (.Name x np)) (some n) (b0 :: suite) pos'
  let after : Value → Shared → Prop := fun e s1 => wpAny (model X.prog X.w) X.A (noteFrame e X.env) (fun _ s2 => wpAny (model X.prog X.w) X.A (setFlight e none) (fun _ s3 => wpAny (model X.prog X.w) X.A (handleBy e X.env [hd]) (SP X pins D) X.xe s3) X.xe s2) X.xe s1
  have caught : Takes (X.tr (X.pn ++ pins) after) (wKeep X.K c i ts Wout D) := by
    rintro u s' ⟨a, B, sI, pins', σ', H', cls, d, rfl, J', nb, up, sky, na, os, ag, b, hb1, hno, hyes⟩
    have J : Inv X pins σ' H' sI := J'.ofTry ok
    have sky' : Sky B (X.env :: X.outer) a (Zc cls d) X.env.locals s'.heap := by rw [← hs]; exact sky
    show wpAny (model X.prog X.w) X.A (noteFrame (.ref a) X.env) _ _ _
    refine Sky.land Zc.steady frames hf sky' fun h3 fl3 up3 => ?_
    obtain ⟨oe3, vs3, he3, hz3, hd3⟩ := fl3.there
    have noFrame : a ∉ frs (X.env :: X.outer) := fun hm => by
      obtain ⟨_, o', e', hnf⟩ := fl3.2.2.1.mem hm
      rw [he3] at e'
      cases e'
      exact hnf _ hd3
    have nL : a ≠ X.env.locals := fun z => noFrame (List.mem_filterMap.mpr ⟨X.env, List.mem_cons_self, by rw [hf, z]⟩)
    have nF : a ∉ X.fs := fun hm => by
      obtain ⟨e, he, q⟩ := List.mem_filterMap.mp hm
      exact noFrame (List.mem_filterMap.mpr ⟨e, List.mem_cons_of_mem _ he, q⟩)
    -- a isn't of the elder state
    have young : ∀ b o, sI.heap.get? b = some o → b ≠ a := fun b o e z => by
      subst z
      have e2 := nb b o e (by rw [hs]; exact noFrame)
      have e3 := fl3.2.1
      rw [e2] at e3
      cases e3
    have J3 : Inv X pins σ' H' { s' with heap := h3 } := J.landed nb fl3.1 (up.trans up3) os ag
    have S3 := J3.suite he3 hd3 na nL nF
    refine wpAny_handleBy_cons (codeAny_handlers_test ?_) (by intro q; cases q)
    have look : PySem.W.Looks (model X.prog X.w) h3 (typeOf (.ref a)) cls := fun A Q E s k q => wpAny_typeOf_ref (k _ _ he3) (by rw [hz3.1]; exact q)
    have test : ∀ {Q : Value → Shared → Prop} {E : Value → Shared → Prop}, Q c { s' with heap := h3 } → wpAny (model X.prog X.w) (X.A.mark (some (.ref a))) (eval (.Name x np) X.env) Q E { s' with heap := h3 } := fun q => by
      obtain ⟨hg, hdbg, hm | ⟨hm, hv, hnn⟩⟩ := hc
      · exact ld_glob (X := X.suite a ((a, oe3) :: (X.pn ++ pins))) S3 hg hm q hdbg
      · exact ld_blt (X := X.suite a ((a, oe3) :: (X.pn ++ pins))) S3 hg hm hv q hnn hdbg
    refine test ((PySem.W.exm_one (M := model X.prog X.w) J3.kIn look hb1).here ?_)
    cases b with
    | false =>
      show wpAny _ X.A (handleBy (.ref a) X.env []) _ _ _
      refine wpAny_handleBy_nil ?_
      obtain ⟨k1, k2, k3, oe, vs, T, oT, ts', he, hz, hd', h1, hr⟩ := id fl3
      unfold PySem.passOn
      refine wpAny_bind (wpAny_field he hd' h1 ?_)
      rw [if_neg (show ¬ ((Value.ref T == Value.none) = true) from by simp)]
      have fin : wpAny (model X.prog X.w) X.A (setFlight (.ref a) X.env.frame) (fun _ s4 => wpAny (model X.prog X.w) X.A (throw (.ref a) : Sem Flow) (SP X pins D) X.xe s4) X.xe { s' with heap := h3 } := by
        rw [hf]
        refine HandSPX.setFlight_upZ fl3 fun h4 hh4 up4 => wpAny_throw (tk _ _ ⟨a, B, sI, pins', σ', H', cls, d, rfl, ?_, nb, (up.trans up3).trans up4, .inr (.inr (by rw [hs]; exact hh4)), na, os, ag, hno rfl⟩)
        exact ⟨ok, J'.os, J'.bare, J'.base, J'.loc, J'.cell, J'.free, J'.freeC, fun p hp => J'.pin p (by rcases List.mem_append.mp hp with z | z <;> simp [z]), J'.hok, J'.len⟩
      first
        | exact wpAny_bind (wpAny_pure (wpAny_bind fin))
        | exact wpAny_bind fin
    | true =>
      obtain ⟨rfl, hts⟩ := hyes rfl
      refine codeAny_handlers_suite_as (HandSPX.lands_againZ fl3 fun h4 fl4 up4 => ?_)
      obtain ⟨oe4, vs4, he4, hz4, hd4⟩ := fl4.there
      have S4 := (J.landed (s' := { s' with heap := h4 }) nb fl4.1 ((up.trans up3).trans up4) os ag).suite he4 hd4 na nL nF
      refine store_ok (X := X.suite a ((a, oe4) :: (X.pn ++ pins))) (v := .ref a) S4 hN hi (.inl hln) rfl (fun s5 S5 => ?_) (.inr hln)
      refine wpAny_mono ((hsu a oe4 cls none (X.pn ++ pins) hz4 ⟨_, hd4⟩).run [] s5 _ H' _ S5 (hts a na)) (fun f s6 hsp => ?_) (fun _ _ z => False.elim z)
      cases f with
      | next =>
        obtain ⟨σ6, H6, S6, q6⟩ := hsp
        obtain ⟨p1, p2, p3, p4, p5⟩ := S6.pin (a, oe4) (List.mem_append_left _ List.mem_cons_self)
        have W6 : Inv X pins σ6 (upd H6 a (exV a cls)) s6 := by
          refine Inv.watch (S6.unsuite ok) ?_ p2 nL (fun y cc e z => ?_) (fun p hp => ?_) (exV_ok p1 hz4 ⟨_, hd4⟩)
          · cases q : X.s_0.heap.get? a with
            | none => rfl
            | some u =>
              obtain ⟨u', e'⟩ := J.base.there a u q (by rw [hex]; exact fun z => nomatch z)
              exact absurd rfl (young a u' e')
          · obtain ⟨v, ho, hcell⟩ := (S6.unsuite ok).cell y cc e
            subst z
            exact p5 v (by
              have z2 := hcell.1
              rw [p1] at z2
              cases z2
              exact hcell.2)
          · obtain ⟨e1, _⟩ := J.pin p hp
            exact young p.1 p.2 e1
        exact gone_ok W6 hN hi hln fun s7 J7 => ⟨_, _, J7, q6⟩
      | brk =>
        obtain ⟨_, _, _, q6⟩ := hsp
        exact q6.elim
      | cont =>
        obtain ⟨_, _, _, q6⟩ := hsp
        exact q6.elim
      | ret u =>
        obtain ⟨_, _, _, _, _, q6⟩ := hsp
        exact q6.elim
  refine wpAny_Try_except (wpAny_mono ((hb _ (X.pn ++ pins) after caught PassesOwn.looking).run [] s σ H D (I.toTry _) h) (fun f s1 hsp => ?_) fun e s1 he => he)
  cases f with
  | next =>
    obtain ⟨σ', H', J', q⟩ := hsp
    exact wpAny_execs_nil ⟨σ', H', J'.ofTry ok, q⟩
  | brk =>
    obtain ⟨σ', H', J', q⟩ := hsp
    exact ⟨σ', H', J'.ofTry ok, q⟩
  | cont =>
    obtain ⟨σ', H', J', q⟩ := hsp
    exact ⟨σ', H', J'.ofTry ok, q⟩
  | ret u =>
    obtain ⟨v, σ', H', J', r, q⟩ := hsp
    exact ⟨v, σ', H', J'.ofTry ok, r, q⟩
end
/-- a kept exception, told by its class's name -/
def rXv (mg : Str → Option Value) : Rp Str := ⟨fun n F v => ∃ a C, v = .ref a ∧ mg n = some (.ref C) ∧ F a = some (exV a (.ref C)), fun e ⟨a, C, h1, h2, h3⟩ => ⟨a, C, h1, h2, e a _ h3⟩⟩
section
variable {X : Cx} {U : Wi} {Γ Γ0 : List Sl} {body rest : List Stmt} {x n y : Str} {c : Value} {np pos pos' py pn2 spos : Pos} {τ ω : Type} {I : ω → Kd}
/-- try: body except x as n: y = n -/
theorem p_tryKeep {mb : R τ} {mh : Er → R τ} {k : τ → R ω} (i j : Nat) (ct : Str → Option Bool) (Γ0 : List Sl) (Γs : τ → List Sl) (hN : X.N.Nodup) (hcx : X.mg x = some c) (tk : Takes X U.W) (hle : Le U.Γ Γ0) (hct : Ct X.mg ct fun C b => PySem.W.exmOne X.K (.ref C) c = some b)
    (hb : ∀ (W : WX) (pn : List (Addr × Obj)) (xe : Value → Shared → Prop), Takes (X.tr pn xe) W → PassesOwn (model X.prog X.w) X.A X.env xe → SX (X.tr pn xe) ⟨W, Γ0⟩ Γ body (fun s => .nx (Γs s)) mb)
    (hk : ∀ r, ∃ s, mh r = .ok s ∧ Le (Γs s) (Γ0.set j (im (rO (rXv X.mg)) (some r.cls))))
    (hij : i ≠ j) (hl0 : Nat.ble (i + 1) Γ0.length = true) (hΓ0 : ∀ x, Γ0[i]? = some x → x = .any) (hr : ∀ s, SX X U (Γs s) rest I (k s)) (hi : X.N[i]? = some n := by rfl) (hj : X.N[j]? = some y := by rfl) (hs : X.stack = X.env :: X.outer := by rfl) (hf : X.env.frame = some X.env.locals := by rfl) (hex : X.ex = [] := by rfl)
    (hln : X.env.kindOf n = some .local := by rfl) (hg : Gl X x := by rfl) (hdb : (x == ("__debug__" : Str)) = false := by decide) (hv : Vis X.env.scope n := by first | exact Or.inl rfl | exact Or.inr (Or.inl rfl) | exact Or.inr (Or.inr rfl))
    (hd1 : (n == ("__debug__" : Str)) = false := by decide) (hd2 : (n == ("__classdict__" : Str)) = false := by decide) (hy : Loc X.env.scope y := by first | exact Or.inl rfl | exact Or.inr rfl) (hsw : swapsWith (.Name n pn2) (some (.Name y py)) spos.line X.env = pure false := by rfl)
    (hfy : X.fn y = true ∨ X.env.scope.names.lookup y = some .local := by first | exact .inl rfl | exact .inr rfl) :
    SX X U Γ (.Try body [.ExceptHandler (some (.Name x np)) (some n) [.Assign [.Name y py] (.Name n pn2) spos] pos'] [] [] pos :: rest) I ((catchR ct mh mb).bind k) :=
  ⟨fun en F σ H D s h => wSs_of (pss_cons (ps_try_keep (tb := fun W => fun D σ H => ∀ pn xe, Takes (X.tr pn xe) W → PassesOwn (model X.prog X.w) X.A X.env xe → wSs (X.tr pn xe) body D σ H)
      (ts := fun _ _ _ => tAsg (tVar i) (gName j)) (Wout := U.W) hs hf hex hN hi hln ⟨hg, hdb, .inl hcx⟩ tk
      (fun W pn xe tk' hp' => ⟨fun pins s σ H D I h => h pn xe tk' hp' pins s I⟩) (fun a oe cls d pn _ _ => pss_one (ps_set (X := X.suite a ((a, oe) :: pn)) hN hj hy (pe_var (X := X.suite a ((a, oe) :: pn)) hi hv hd1 hd2) hsw hfy))) wSs_pss) (by
    intro pn xe tkW hp
    refine (hb _ pn xe tkW hp).out en F σ H { D with nx := wSs X rest D } s ?_
    cases mb with
    | bad => exact h.elim
    | ok s' => exact fun F' σ' H' e sa => (hr s').out en F' σ' H' D sa (wpR_mono h (fun o z => z.up e) fun _ z => z.up e)
    | er r =>
      refine fun cls d F' σ' H' e sa ho => ?_
      obtain ⟨C, c1, c2, c3⟩ := ho
      show wKeep X.K c i (fun _ _ _ => tAsg (tVar i) (gName j)) U.W { D with nx := wSs X rest D } cls d σ' H'
      have h' : wpR ((match ct r.cls with | some true => if r.fld.isNone = true then (mh r).calm else .bad | some false => .er r | none => .bad).bind k) (fun o => (I o).sat en F D) (U.ok X.mg en F) := h
      cases hc : ct r.cls with
      | none =>
        rw [hc] at h'
        exact h'.elim
      | some b =>
        have ex := hct.out r.cls b C hc c1
        rw [← c2] at ex
        rw [hc] at h'
        cases b with
        | false =>
          refine ⟨false, ex, fun _ => ?_, fun z => nomatch z⟩
          have h2 : U.ok X.mg en F r := h'
          exact h2 cls d F' σ' H' e (sa.le hle) ⟨C, c1, c2, c3⟩
        | true =>
          have h3 : wpR ((if r.fld.isNone = true then (mh r).calm else .bad).bind k) (fun o => (I o).sat en F D) (U.ok X.mg en F) := h'
          by_cases hn : r.fld.isNone = true
          case neg =>
            rw [if_neg hn] at h3
            exact h3.elim
          rw [if_pos hn] at h3
          have hn' : r.fld = none := by simpa using hn
          have d0 : d = none := by
            rw [hn'] at c3
            exact c3
          obtain ⟨s', es, le⟩ := hk r
          rw [es] at h3
          have h4 : wpR (k s') (fun o => (I o).sat en F D) (U.ok X.mg en F) := h3
          refine ⟨true, ex, (fun z => nomatch z), fun _ => ⟨d0, fun a ha => ?_⟩⟩
          have il : i < σ'.length := Nat.lt_of_lt_of_le (Nat.le_of_ble_eq_true hl0) sa.len
          refine ⟨.ref a, List.getElem?_set_self il, ?_⟩
          show wSs X rest D (((σ'.set i (some (.ref a))).set j (some (.ref a))).set i none) (upd H' a (exV a cls))
          rw [c2]
          have xx := Ext.new (F := F') (H := H') sa.sub (p := a) (o := exV a (.ref C)) ha
          have sb := SA.put (i := j) (P := ⟨fun H v => (rO (rXv X.mg)).rep (some r.cls) H v, fun e h => (rO (rXv X.mg)).mono e h⟩) (v := .ref a) (sa.ext xx) ⟨a, C, rfl, c1, upd_same⟩
          have sc := sb.forget (i := i) (fun x hx => hΓ0 x (by rw [← hx, List.getElem?_set_ne (Ne.symm hij)]))
          have eσ : ((σ'.set i (some (V.ref a))).set j (some (V.ref a))).set i none = (σ'.set j (some (V.ref a))).set i none := by
            rw [List.set_comm _ _ hij, List.set_set]
          rw [eσ]
          exact (hr s').out en _ _ _ D (sc.le le) (wpR_mono h4 (fun o z => z.up (e.trans xx.f)) fun _ z => z.up (e.trans xx.f)))⟩
end
/-! ### isinstance of what was kept -/
section
variable {X : Cx} {a D : Addr} {s : Shared} {H : Hp} {σ : L2.St} {pins : List (Addr × Obj)}
theorem inst_of (I : Inv X pins σ H s) (h : H a = some (exV a (.ref D))) : PySem.W.InstAt s.heap a (Classical.choose (show ∃ oe, s.heap.get? a = some oe ∧ Zc (.ref D) none oe ∧ ∃ vs, oe.data = .fields vs from (I.hok a _ h).1)) D none := by
  obtain ⟨hget, ⟨h1, h2⟩, vs, hv⟩ := Classical.choose_spec (show ∃ oe, s.heap.get? a = some oe ∧ Zc (.ref D) none oe ∧ ∃ vs, oe.data = .fields vs from (I.hok a _ h).1)
  generalize Classical.choose _ = oe at *
  obtain ⟨oc, od, oda, osl⟩ := oe
  dsimp only at h1 h2 hv
  subst h1 h2 hv
  exact ⟨hget, rfl, rfl, trivial⟩
theorem call_isV (C : ExcC X.K D) : CallR X (.builtin "isinstance") (fun xs H Q => ∃ (a : Addr) (c : V) (cv : Value) (b : Bool), xs = [.ref a, c] ∧ H a = some (exV a (.ref D)) ∧ (∀ u, RelV c u → u = cv) ∧ PySem.W.kitOne X.K (.ref D) cv = some b ∧ Q (.bl b) H) := by
  intro pins s σ H xs us Q I r h
  obtain ⟨a, c, cv, b, rfl, ha, hcv, e, q⟩ := h
  obtain ⟨u1, u2, rfl, r1, r2⟩ := vals2 r
  cases (show u1 = Value.ref a from r1)
  have ec := hcv _ r2
  subst ec
  exact PySem.W.kia_one (PySem.W.handS_kitx_exc C.hg C.hk C.hs C.hd C.ha C.hn C.ht C.hm) I.kIn (inst_of I ha) e (fun z => nomatch z) fun tk => ⟨.bl b, H, I.kept (t' := tk) fun _ _ z => z, rfl, q⟩
theorem call_isVT (C : ExcC X.K D) : CallR X (.builtin "isinstance") (fun xs H Q => ∃ (a tp : Addr) (cs : List V) (us : List Value) (b : Bool), xs = [.ref a, .ref tp] ∧ H a = some (exV a (.ref D)) ∧ H tp = some (.tup cs) ∧ Paired ClsV cs us ∧ PySem.W.kitAny X.K (.ref D) us = some b ∧ Q (.bl b) H) := by
  intro pins s σ H xs us Q I r h
  obtain ⟨a, tp, cs, ws, b, rfl, ha, hT, k, e, q⟩ := h
  obtain ⟨u1, u2, rfl, r1, r2⟩ := vals2 r
  cases (show u1 = Value.ref a from r1)
  cases (show u2 = Value.ref tp from r2)
  obtain ⟨_, its, rv, o, h1, h2, n, h3⟩ := (show ObjOk X.prog X.w H s.heap tp (.tup cs) from I.hok tp _ hT)
  have e3 := ClsV.all k rv
  subst e3
  obtain ⟨oc, od, dt, sl⟩ := o
  simp only at h2 h3
  subst h2 h3
  exact PySem.W.kia_tup (PySem.W.handS_kitx_exc C.hg C.hk C.hs C.hd C.ha C.hn C.ht C.hm) I.kIn (inst_of I ha) h1 e (fun z => nomatch z) fun tk => ⟨.bl b, H, I.kept (t' := tk) fun _ _ z => z, rfl, q⟩
end
section
variable {X : Cx} {U : Wi} {Γ : List Sl} {e0 : Expr} {pos p p2 : Pos} {m : R (Option Str)}
theorem x_isV (tb : Str → Option Bool) {v : V} {u : Value} {e : Expr} (hm : X.mg "isinstance" = none) (h0 : EX X U Γ e0 (rO (rXv X.mg)) m) (hT : NmC X e v u)
    (htb : Ct X.mg tb fun C b => ExcC X.K C ∧ PySem.W.kitOne X.K (.ref C) u = some b) (hg : Gl X "isinstance" := by rfl)
    (he : starEach [e0, e] X.env = (false, eval e0 X.env) :: starEach [e] X.env := by rfl) (he2 : starEach [e] X.env = (false, eval e X.env) :: starEach [] X.env := by rfl) (hpl : (backTo pos (starEach [e] X.env)).any (·.1) = false := by rfl) :
    EX X U Γ (.Call (.Name "isinstance" p) [e0, e] [] pos) rB (m.bind fun o => (ofOpt o).bind fun c => ofOpt (tb c)) :=
  ⟨fun en F σ H Q s h => fun pins sh I => by
    refine (pe_callB (r := fun xs H Q => ∃ (a D : Addr) (c : V) (cv : Value) (b : Bool), xs = [.ref a, c] ∧ ExcC X.K D ∧ H a = some (exV a (.ref D)) ∧ (∀ u, RelV c u → u = cv) ∧ PySem.W.kitOne X.K (.ref D) cv = some b ∧ Q (.bl b) H)
      (fun pins s σ H xs us Q I r ⟨a, D, c, cv, b, h1, hC, h2⟩ => call_isV hC pins s σ H xs us Q I r ⟨a, c, cv, b, h1, h2⟩) hg hm boot_isinstance (pa_cons wE_pe (pa_cons hT.pe pa_nil he2) he) (by decide) (by decide) he hpl).run pins sh σ H Q I ?_
    refine h0.out en F σ H _ s (wpR_mono (wpR_bind h) (fun o q v' F' H' e1 s1 r1 => ?_) fun _ z => z)
    cases o with
    | none => exact q.elim
    | some cl =>
      obtain ⟨a, C, h1, h2, h3⟩ := r1
      subst h1
      obtain ⟨b, hb, q⟩ := wpR_opt q
      obtain ⟨hC, hkit⟩ := htb.out cl b C hb h2
      exact ⟨a, C, v, u, b, rfl, hC, s1.sub a _ h3, fun u' ru => hT.cv.eq ru, hkit, q _ F' H' e1 s1 rfl⟩⟩
theorem x_isVT (tb : Str → Option Bool) {vs : List V} {us : List Value} {es : List Expr} {kk : Nat} {tp : Pos} (hm : X.mg "isinstance" = none) (h0 : EX X U Γ e0 (rO (rXv X.mg)) m) (hT : NmCs X es vs us)
    (hlen : us.length ≤ 1000) (htb : Ct X.mg tb fun C b => ExcC X.K C ∧ PySem.W.kitAny X.K (.ref C) us = some b) (hg : Gl X "isinstance" := by rfl)
    (he : starEach [e0, .Tuple es kk tp] X.env = (false, eval e0 X.env) :: starEach [.Tuple es kk tp] X.env := by rfl) (he2 : starEach [.Tuple es kk tp] X.env = (false, eval (.Tuple es kk tp) X.env) :: starEach [] X.env := by rfl) (hpl : (backTo pos (starEach [.Tuple es kk tp] X.env)).any (·.1) = false := by rfl) :
    EX X U Γ (.Call (.Name "isinstance" p) [e0, .Tuple es kk tp] [] pos) rB (m.bind fun o => (ofOpt o).bind fun c => ofOpt (tb c)) :=
  ⟨fun en F σ H Q s h => fun pins sh I => by
    refine (pe_callB (r := fun xs H Q => ∃ (a D tp : Addr) (cs : List V) (us : List Value) (b : Bool), xs = [.ref a, .ref tp] ∧ ExcC X.K D ∧ H a = some (exV a (.ref D)) ∧ H tp = some (.tup cs) ∧ Paired ClsV cs us ∧ PySem.W.kitAny X.K (.ref D) us = some b ∧ Q (.bl b) H)
      (fun pins s σ H xs us Q I r ⟨a, D, tp, cs, us', b, h1, hC, h2⟩ => call_isVT hC pins s σ H xs us Q I r ⟨a, tp, cs, us', b, h1, h2⟩) hg hm boot_isinstance (pa_cons wE_pe (pa_cons (pe_tup hT.pa) pa_nil he2) he) (by decide) (by decide) he hpl).run pins sh σ H Q I ?_
    refine h0.out en F σ H _ s (wpR_mono (wpR_bind h) (fun o q v' F' H' e1 s1 r1 => ?_) fun _ z => z)
    cases o with
    | none => exact q.elim
    | some cl =>
      obtain ⟨a, C, h1, h2, h3⟩ := r1
      subst h1
      obtain ⟨b, hb, q⟩ := wpR_opt q
      obtain ⟨hC, hkit⟩ := htb.out cl b C hb h2
      have l1 := Paired.length hT.clv
      refine ⟨by rw [l1]; exact Nat.le_of_lt (small1000 hlen), fun q' hq => ?_⟩
      have ne : a ≠ q' := fun z => by
        have w := s1.sub a _ h3
        rw [z, hq] at w
        cases w
      exact ⟨a, C, q', vs, us, b, rfl, hC, (upd_ne ne).trans (s1.sub a _ h3), upd_same, hT.clv, hkit, q _ F' _ e1 (s1.ext (Ext.lay s1.sub hq)) rfl⟩⟩
end
end Py

/-! Own layer, part Ab: d.setdefault(k, []).append(x) over a dict of one's own with tuple keys: lists that no slot holds. -/
namespace L2.DX
open PySem PySem.Spec PyProof.Rows
section
variable {X : Cx}
end
end L2.DX
namespace Py
open PySem PySem.Spec PyProof.Rows L2
/-- one more at the key k -/
def addL {κ ν : Type} [DecidableEq κ] : List (κ × List ν) → κ → ν → List (κ × List ν)
  | [], k, x => [(k, [x])]
  | (k', l) :: m, k, x => if k' = k then (k', l ++ [x]) :: m else (k', l) :: addL m k x
/-- what is there, known to no one -/
structure Hid (en : En) (F H : Hp) (q : Addr) (o : HO) : Prop where
  f : F q = none
  e : en.H q = none ∨ en.ps q
  h : H q = some o
inductive Ents {κ ν : Type} {ρ : Rp κ} (ky : Ky ρ) (π : Rp ν) (en : En) (F H : Hp) : List (List Key × V) → List (κ × List ν) → Prop
  | nil : Ents ky π en F H [] []
  | cons {k : κ} {xs : List ν} {q : Addr} {ws : List V} {kvs : List (List Key × V)} {m : List (κ × List ν)} : Hid en F H q (.lst ws) → en.H q = none → RepL π F xs ws → Ents ky π en F H kvs m → Ents ky π en F H ((ky.enc k, .ref q) :: kvs) ((k, xs) :: m)
section
variable {κ ν : Type} {ρ : Rp κ} {ky : Ky ρ} {π : Rp ν} {en : En} {F F' H H' : Hp}
theorem Ents.stay (hs : ∀ q ws, Hid en F H q (.lst ws) → Hid en F' H' q (.lst ws)) (e : Same F F') : ∀ {kvs : List (List Key × V)} {m : List (κ × List ν)}, Ents ky π en F H kvs m → Ents ky π en F' H' kvs m
  | _, _, .nil => .nil
  | _, _, .cons h z r t => .cons (hs _ _ h) z (r.mono e) (Ents.stay hs e t)
theorem Ents.ref : ∀ {kvs : List (List Key × V)} {m : List (κ × List ν)}, Ents ky π en F H kvs m → ∀ v ∈ kvs.map Prod.snd, ∃ q ws, v = .ref q ∧ Hid en F H q (.lst ws)
  | _, _, .nil, v, h => by cases h
  | _, _, .cons h z r t, v, hv => by
    rcases List.mem_cons.mp hv with z | z
    · exact ⟨_, _, z, h⟩
    · exact t.ref v z
theorem Ents.len : ∀ {kvs : List (List Key × V)} {m : List (κ × List ν)}, Ents ky π en F H kvs m → kvs.length = m.length
  | _, _, .nil => rfl
  | _, _, .cons h z r t => congrArg (· + 1) t.len
variable [DecidableEq κ]
/-- the key's list grows, or there is none -/
theorem Ents.add {k : κ} {x : ν} {v : V} (rv : π.rep x F v) : ∀ {kvs : List (List Key × V)} {m : List (κ × List ν)}, Ents ky π en F H kvs m → (kvs.map Prod.snd).Nodup →
    (valV kvs (ky.enc k) = none ∧ ∀ (H' : Hp) (q : Addr), (∀ p ws, .ref p ∈ kvs.map Prod.snd → Hid en F H p (.lst ws) → Hid en F H' p (.lst ws)) → Hid en F H' q (.lst [v]) → en.H q = none → Ents ky π en F H' (kvs ++ [(ky.enc k, .ref q)]) (addL m k x)) ∨
    ∃ q ws, valV kvs (ky.enc k) = some (.ref q) ∧ Hid en F H q (.lst ws) ∧ .ref q ∈ kvs.map Prod.snd ∧ (∃ l, (k, l) ∈ m ∧ l.length = ws.length) ∧ ∀ H' : Hp, (∀ p ws, p ≠ q → Hid en F H p (.lst ws) → Hid en F H' p (.lst ws)) → Hid en F H' q (.lst (ws ++ [v])) → Ents ky π en F H' kvs (addL m k x)
  | _, _, .nil, _ => .inl ⟨rfl, fun H' q hs hq hz => .cons hq hz (.cons rv .nil) .nil⟩
  | _, _, .cons (k := k') (xs := xs) (q := q) (ws := ws) (kvs := kvs) (m := m) h z0 r t, nd => by
    rw [List.map_cons, List.nodup_cons] at nd
    by_cases e : k' = k
    · subst e
      refine .inr ⟨q, ws, valV_pos rfl, h, by simp, ⟨xs, by simp, r.length⟩, fun H' hs hq => ?_⟩
      unfold addL
      rw [if_pos rfl]
      refine .cons hq z0 (r.append (.cons rv .nil)) ?_
      have st : ∀ {kvs : List (List Key × V)} {m : List (κ × List ν)}, Ents ky π en F H kvs m → V.ref q ∉ kvs.map Prod.snd → Ents ky π en F H' kvs m := by
        intro kvs m t
        induction t with
        | nil => intro _; exact .nil
        | cons h z1 r t ih =>
          intro nm
          rw [List.map_cons, List.mem_cons, not_or] at nm
          exact .cons (hs _ _ (fun z => nm.1 (by rw [z])) h) z1 r (ih nm.2)
      exact st t nd.1
    · have e' : ¬ ky.enc k' = ky.enc k := fun z => e (ky.inj _ _ z)
      have ev : valV ((ky.enc k', V.ref q) :: kvs) (ky.enc k) = valV kvs (ky.enc k) := valV_neg (p := (ky.enc k', V.ref q)) e'
      rcases t.add (k := k) rv nd.2 with ⟨h1, h2⟩ | ⟨q2, ws2, h1, h2, h3, ⟨l, h5, h6⟩, h4⟩
      · refine .inl ⟨ev.trans h1, fun H' q' hs hq hz => ?_⟩
        unfold addL
        rw [if_neg e]
        exact .cons (hs _ _ (by simp) h) z0 r (h2 H' q' (fun p ws hp => hs p ws (List.mem_cons_of_mem _ hp)) hq hz)
      · refine .inr ⟨q2, ws2, ev.trans h1, h2, List.mem_cons_of_mem _ h3, ⟨l, List.mem_cons_of_mem _ h5, h6⟩, fun H' hs hq => ?_⟩
        unfold addL
        rw [if_neg e]
        refine .cons (hs _ _ (fun z => nd.1 ?_) h) z0 r (h4 H' hs hq)
        rw [z]
        exact h3
end
/-- no slot owns anything -/
def NoOwn (Γ : List Sl) : Prop := ∀ (j : Nat) (a : Option Addr) (P : ORp), Γ[j]? ≠ some (.own a P)
section
variable {en : En} {Γ Γ2 : List Sl} {F F' H H' : Hp} {σ σ' : L2.St} {q : Addr} {o : HO}
theorem Hid.move (s : SA en Γ F σ H) (hno : NoOwn Γ) (s3 : SA ⟨F, H, Ows Γ σ⟩ Γ2 F' σ' H') (h : Hid en F H q o) (ho : ∀ vs, o ≠ .tup vs) : Hid en F' H' q o := by
  have no : ¬ Ows Γ σ q := fun ⟨j, a, P, hj, _⟩ => hno j a P hj
  have h' : H' q = some o := s3.old q o h.h no
  exact ⟨no_tup s3.sub (s3.frz q (by show H q ≠ none; rw [h.h]; exact fun z => nomatch z) h.f no) h' ho, h.e, h'⟩
theorem Hid.ext (x : Ext F H F' H') (h : Hid en F H q o) (ho : ∀ vs, o ≠ .tup vs) : Hid en F' H' q o := by
  have h' : H' q = some o := x.h q o h.h
  exact ⟨no_tup x.s (x.n q (by rw [h.h]; exact fun z => nomatch z) h.f) h' ho, h.e, h'⟩
end
/-- a dict of lists in slot i, that no one knows -/
structure DL {κ ν : Type} {ρ : Rp κ} (i : Nat) (ky : Ky ρ) (π : Rp ν) (en : En) (F : Hp) (σ : L2.St) (H : Hp) (m : List (κ × List ν)) : Prop where
  out : ∃ a kvs, σ[i]? = some (some (.ref a)) ∧ Hid en F H a (.dT kvs) ∧ Ents ky π en F H kvs m ∧ (kvs.map Prod.snd).Nodup
section
variable {κ ν : Type} {ρ : Rp κ} {ky : Ky ρ} {π : Rp ν} {en : En} {Γ Γ2 : List Sl} {F F' H H' : Hp} {σ σ' : L2.St} {i : Nat} {m : List (κ × List ν)}
theorem DL.move (s : SA en Γ F σ H) (hno : NoOwn Γ) (s3 : SA ⟨F, H, Ows Γ σ⟩ Γ2 F' σ' H') (e : Same F F') (d : DL i ky π en F σ H m) (hσ : σ'[i]? = σ[i]?) : DL i ky π en F' σ' H' m := by
  obtain ⟨a, kvs, h1, h2, h3, h4⟩ := d.out
  exact ⟨a, kvs, hσ.trans h1, h2.move s hno s3 (fun _ z => nomatch z), h3.stay (fun q ws h => h.move s hno s3 (fun _ z => nomatch z)) e, h4⟩
theorem DL.ext (x : Ext F H F' H') (d : DL i ky π en F σ H m) (hσ : σ'[i]? = σ[i]?) : DL i ky π en F' σ' H' m := by
  obtain ⟨a, kvs, h1, h2, h3, h4⟩ := d.out
  exact ⟨a, kvs, hσ.trans h1, h2.ext x (fun _ z => nomatch z), h3.stay (fun q ws h => h.ext x (fun _ z => nomatch z)) x.f, h4⟩
variable [DecidableEq κ] {X : Cx} {ways cell mark : Str} {p1 p2 p3 p4 a1 a2 c1 c2 spos : Pos} {jc jm : Nat} {D : L2.Ends} {x : ν} {y : κ}
end
/-! ### the two loops -/
theorem NoOwn.set {Γ : List Sl} (h : NoOwn Γ) (j : Nat) (P : PRp) : NoOwn (Γ.set j (.imm P)) := fun l a Q hl => by
  by_cases e : j = l
  · subst e
    by_cases hj : j < Γ.length
    · rw [List.getElem?_set_self hj] at hl
      cases hl
    · rw [List.getElem?_eq_none (by rw [List.length_set]; omega)] at hl
      cases hl
  · rw [List.getElem?_set_ne e] at hl
    exact h l a Q hl
section
variable {κ ν : Type} [DecidableEq κ] {ρ : Rp κ} {ky : Ky ρ} {π : Rp ν} {X : Cx} {ways cell mark : Str} {p1 p2 p3 p4 a1 a2 c1 c2 spos cp mp pos1 pos2 : Pos} {i jc jm : Nat} {itc itm : Expr}
/-- the lists become known -/
theorem Ents.know {en : En} {Γ : List Sl} {F H : Hp} {σ : L2.St} (hno : NoOwn Γ) (sa : SA en Γ F σ H) : ∀ {kvs : List (List Key × V)} {m : List (κ × List ν)}, Ents ky π en F H kvs m → (kvs.map Prod.snd).Nodup →
    ∃ F', Same F F' ∧ SA en Γ F' σ H ∧ RepD ky (rL π) F' m kvs ∧ ∀ p, F p = none → V.ref p ∉ kvs.map Prod.snd → F' p = none
  | _, _, .nil, _ => ⟨F, Same.refl F, sa, .nil, fun _ h _ => h⟩
  | _, _, .cons (k := k) (xs := xs) (q := q) (ws := ws) h z r t, nd => by
    rw [List.map_cons, List.nodup_cons] at nd
    obtain ⟨F1, e1, s1, r1, n1⟩ := t.know hno sa nd.2
    have fq : F1 q = none := n1 q h.f nd.1
    obtain ⟨s2, e2⟩ := s1.know (p := q) (o := .lst ws) ⟨fq, z, fun j a P hj => absurd hj (hno j a P), h.h⟩
    refine ⟨_, e1.trans e2, s2, .cons ⟨q, ws, rfl, upd_same, r.mono (e1.trans e2)⟩ (RepD.mono e2 r1), fun p hp hm => ?_⟩
    rw [List.map_cons, List.mem_cons, not_or] at hm
    have : p ≠ q := fun e => hm.1 (by rw [e])
    rw [upd_ne this]
    exact n1 p hp hm.2
theorem NoOwn.any {Γ : List Sl} (h : NoOwn Γ) (j : Nat) : NoOwn (Γ.set j .any) := fun l a Q hl => by
  by_cases e : j = l
  · subst e
    by_cases hj : j < Γ.length
    · rw [List.getElem?_set_self hj] at hl
      cases hl
    · rw [List.getElem?_eq_none (by rw [List.length_set]; omega)] at hl
      cases hl
  · rw [List.getElem?_set_ne e] at hl
    exact h l a Q hl
variable {U : Wi} {Γ : List Sl} {rest : List Stmt} {ω : Type} {I : ω → Kd} {a0 : Option Addr}
end
end Py

/-! Own layer, part Ac: d.setdefault(k, x) as a statement, d of one's own with tuple keys. -/
namespace Py
open PySem PySem.Spec PyProof.Rows L2
section
variable {X : Cx} {U : Wi} {Γ : List Sl} {a b : Expr} {rest : List Stmt} {pos p ap cp : Pos} {κ ν ω : Type} {I : ω → Kd} {n : Str}
end
/-! ### texts put together -/
end Py

/-! Own layer, part Ad: an exception that leaves a list comprehension. -/
namespace Py
open PySem PySem.Spec PyProof.Rows L2

section
variable {M : Model} {A : Around} {E : Value → Shared → Prop} {s : Shared} {Z : Obj → Prop} {gr : Heap} {env : Env} {outer : List Env} {L a C : Addr}
end

section
variable {X : Cx} {pins : List (Addr × Obj)} {σ : L2.St} {H : Hp} {s : Shared}
end

section
variable {X : Cx} {U : Wi} {Γ : List Sl} {tg iter elt : Expr} {ifs : List Expr} {scope : Scope} {own : List (Str × Nat)} {pos : Pos} {α β : Type} {ρ : Rp α} {π : Rp β}
end
end Py

/-! Own layer, part Ae: xs.count(x), xs.index(x) of flat things. -/
namespace Py
open PySem PySem.Spec PyProof.Rows L2
/-- a type of flat things -/
structure Flt {α : Type} [DecidableEq α] (ρ : Rp α) (enc : α → V) : Prop where
  rep : ∀ x F v, ρ.rep x F v → v = enc x
  flat : ∀ x, flatV (enc x) = true
  eq : ∀ x y, eqV (enc x) (enc y) = decide (x = y)
section
variable {X : Cx} {U : Wi} {Γ : List Sl} {l a : Expr} {p ap cp : Pos} {n : Str} {α : Type} [DecidableEq α] {ρ : Rp α} {enc : α → V}
theorem Flt.rows (f : Flt ρ enc) {F : Hp} : ∀ {xs : List α} {ws : List V}, RepL ρ F xs ws → ws = xs.map enc
  | _, _, .nil => rfl
  | _, _, .cons r t => by rw [List.map_cons, ← f.rows t, f.rep _ _ _ r]
theorem Flt.all (f : Flt ρ enc) (xs : List α) : (xs.map enc).all flatV = true := by
  rw [List.all_map, List.all_eq_true]
  exact fun x _ => f.flat x
theorem Flt.count (f : Flt ρ enc) (y : α) : ∀ xs : List α, (xs.map enc).countP (fun z => eqV z (enc y)) = xs.countP fun z => decide (z = y)
  | [] => rfl
  | x :: xs => by
    rw [List.map_cons, List.countP_cons, List.countP_cons, f.count y xs, f.eq]
theorem Flt.index (f : Flt ρ enc) {xs : List α} {y : α} {j : Nat} (h : xs.findIdx? (fun z => decide (z = y)) = some j) : ∃ z, (xs.map enc)[j]? = some z ∧ eqV z (enc y) = true ∧ ∀ (m : Nat) (z' : V), m < j → (xs.map enc)[m]? = some z' → eqV z' (enc y) = false := by
  obtain ⟨hl, h1, h2⟩ := List.findIdx?_eq_some_iff_getElem.mp h
  refine ⟨enc xs[j], by rw [List.getElem?_map, List.getElem?_eq_getElem hl]; rfl, by rw [f.eq]; exact h1, fun m z' hm e => ?_⟩
  have := h2 m hm
  rw [List.getElem?_map, List.getElem?_eq_getElem (by omega)] at e
  injection e with e
  rw [← e, f.eq]
  simpa using this
end
end Py

/-! Own layer, part Af: plans, the program's eight classes of objects that never change: data, fields, making, methods by the class, isinstance. -/
namespace Py
open PySem PySem.Spec PyProof.Rows L2
inductive Pl where
  | keep | nothing | everything
  | move (s : Int × Int) (p : Pl)
  | eat (s : List (Int × Int)) (p : Pl)
  | grow (s : List (Int × Int)) (p : Pl)
  | both (a b : Pl)
  | either (a b : Pl)
inductive PK where
  | Keep | Nothing | Everything | Move | Eat | Grow | Both | Either
  deriving DecidableEq
def Pl.kd : Pl → PK
  | .keep => .Keep
  | .nothing => .Nothing
  | .everything => .Everything
  | .move _ _ => .Move
  | .eat _ _ => .Eat
  | .grow _ _ => .Grow
  | .both _ _ => .Both
  | .either _ _ => .Either
abbrev CsL := List (PK × Addr)
def Ob (cs : CsL) (k : PK) (H : Hp) (v : V) (fs : List (Str × V)) : Prop := ∃ C a dx, (k, C) ∈ cs ∧ v = .ref a ∧ H a = some (.ins C dx fs)
theorem Ob.mono {cs : CsL} {k : PK} {H H' : Hp} {v : V} {fs : List (Str × V)} (e : Same H H') : Ob cs k H v fs → Ob cs k H' v fs := fun ⟨C, a, dx, h1, h2, h3⟩ => ⟨C, a, dx, h1, h2, e a _ h3⟩
/-! ### fields -/
section
variable {X : Cx} {U : Wi} {Γ : List Sl} {a e o : Expr} {es : List Expr} {pos p apos : Pos} {α γ τ : Type} {ρ : Rp α} {π : Rp γ} {t : Tr τ} {cs : CsL}
/-! ### making -/
theorem Ext.ins {F H : Hp} (e : Same F H) {x dx : Addr} {o : HO} (nx : H x = none) (ndx : H dx = none) (ne : dx ≠ x) : Ext F H (upd F x o) (upd (upd H dx (.own x)) x o) := by
  have e1 : Ext F H F (upd H dx (.own x)) := Ext.lay e ndx
  exact e1.trans (Ext.new e1.s (by rw [upd_ne (Ne.symm ne)]; exact nx))
end
section
open PySem.W
variable {X : Cx} {C : Addr} {pins : List (Addr × Obj)} {σ : L2.St} {H : Hp} {s : Shared} {Q : VK}
end
section
variable {X : Cx} {U : Wi} {Γ : List Sl} {a e o : Expr} {es : List Expr} {pos p apos : Pos} {α γ τ : Type} {ρ : Rp α} {π : Rp γ} {t : Tr τ} {cs : CsL}
/-! ### methods by the class -/
end
section
variable (P : Program) (w : World) (K : PySem.W.Frag) (mg : Str → Option Value) (base : Heap) (cs : CsL)
end
section
variable {X : Cx} {U : Wi} {Γ : List Sl} {a e o : Expr} {es : List Expr} {pos p apos : Pos} {α γ τ : Type} {ρ : Rp α} {π : Rp γ} {t : Tr τ} {cs : CsL}
/-! ### isinstance -/
theorem RepL.rep {F : Hp} {xs : List α} {vs : List V} (r : RepL ρ F xs vs) : ∀ n : Nat, RepL ρ F (List.replicate n xs).flatten (List.replicate n vs).flatten
  | 0 => .nil
  | n + 1 => by
    rw [List.replicate_succ, List.replicate_succ, List.flatten_cons, List.flatten_cons]
    exact r.append (RepL.rep r n)
end
section
variable {X : Cx} {U : Wi} {Γ Γ0 : List Sl} {body suite rest : List Stmt} {b0 : Stmt} {x : Str} {c : Value} {np pos pos' : Pos} {τ ω : Type} {I : ω → Kd}
end
end Py

/-! Own layer, part Ag: max(xs, default=n). -/
namespace Py
open PySem PySem.Spec PyProof.Rows L2
section
variable {X : Cx} {U : Wi} {Γ : List Sl} {a : Expr} {pos p p2 kpos : Pos} {j : Nat}
end
/-! ### a text or a plan -/
section
variable {X : Cx} {U : Wi} {Γ : List Sl} {e0 e : Expr} {cs : CsL} {p pos : Pos}
end
end Py

/-! Own layer, part Ah: a def that is handed the exception that is handled: x = f(e) in an except clause. -/
namespace Py
open PySem PySem.Spec PyProof.Rows L2
section
variable {P : Program} {w : World} {K : PySem.W.Frag} {mg : Str → Option Value} {base : Heap}
end
section
variable {X : Cx} {U : Wi} {Γ : List Sl} {a : Addr} {oe : Obj} {cls : Value} {d : Option Addr} {r : Er} {n x T y : Str} {pos p p2 p3 : Pos}
end
end Py

/-! Own layer, part Ai: a new list lent to a def, texts in a row of texts, join. -/
namespace Py
open PySem PySem.Spec PyProof.Rows L2
theorem ExtM.ext {p : Addr} {F H F' H' : Hp} {o : HO} (x : ExtM p F H F' H') (hf : F' p = none) (ho : H' p = some o) : Ext F (upd H p o) F' H' := by
  refine ⟨x.f, fun q u h => ?_, x.s, fun q h hq => ?_⟩
  · by_cases z : q = p
    · subst z
      rw [upd_same] at h
      rw [ho, ← h]
    · rw [upd_ne z] at h
      exact x.h q u z h
  · by_cases z : q = p
    · subst z
      exact .inl hf
    · rw [upd_ne z] at h
      exact x.n q z h hq
section
variable {X : Cx} {U : Wi} {Γ : List Sl} {e0 : Expr} {es : List Expr} {pos p p2 ap : Pos} {α τ γ : Type} {ρl : Rp α} {ρ : Rp γ} {t : Tr τ} {k : Nat} {f : Addr} {fd : FuncData} {ps : List Str} {nf : Str}
end
end Py

/-! Own layer, part Aj: shifts, bits; len of a set of cells. -/
namespace Py
open PySem PySem.Spec PyProof.Rows L2
instance (i j : Int) : Decidable (CShl i j) := inferInstanceAs (Decidable (_ ∧ _))
section
variable {X : Cx} {U : Wi} {Γ : List Sl} {a b e : Expr} {pos p2 : Pos} {m1 m2 : R Int}
theorem x_shr (ha : EX X U Γ a rI m1) (hb : EX X U Γ b rI m2) : EX X U Γ (.BinOp a .RShift b pos) rI (m1.bind fun x => m2.bind fun y => chk (0 ≤ y) (x / 2 ^ y.toNat)) := by
  have h := x_bin (pos := pos) op_shr (dIc (C := fun _ j => 0 ≤ j) (f := fun i j => i / 2 ^ j.toNat)) ha hb
  simp only [chk_calm] at h
  exact h
theorem x_bitand (ha : EX X U Γ a rI m1) (hb : EX X U Γ b rI m2) : EX X U Γ (.BinOp a .BitAnd b pos) rI (m1.bind fun x => m2.bind fun y => .ok (Builtin.bitAnd x y)) := x_bin op_and dI0 ha hb
end
/-! ### a tuple of cells, sorted -/
open SrtO
section
variable {X : Cx} {U : Wi} {Γ : List Sl} {e : Expr} {pos p2 : Pos}
end
end Py

/-! Own layer, part Ak: enumerate of a tuple. -/
namespace EnT
open PySem PySem.Spec PyProof.Rows L2
section
variable {prog : Program} {w : World} {A : Around} {E : Value → Shared → Prop} {s : Shared}
end
/-- the tuple at a as it stands at each turn, each thing in a new pair -/
def Itu (K : PySem.W.Frag) (a : Addr) : It :=
  ⟨fun i H => ∃ (xs : List V) (x : V), SqT K H a xs ∧ xs[i]? = some x, fun i H v H' => ∃ q x, v = .ref q ∧ H q = none ∧ H' = upd H q (.tup [.int (i : Nat), x]) ∧ ∀ xs, SqT K H a xs → xs[i]? = some x, fun i H => ∃ xs : List V, SqT K H a xs ∧ xs.length ≤ i⟩
theorem apart {h : Heap} {t it : Addr} {xs : Array Value} {i : Nat} (hT : h.IsTuple t xs) (hI : h.IsTupleIter it t i) : t ≠ it := fun z => by
  subst z
  obtain ⟨o, h1, h2, _⟩ := hT
  obtain ⟨o2, g1, g2, _⟩ := hI
  rw [h1] at g1
  cases g1
  rw [h2] at g2
  exact absurd (Value.type.inj g2) (by decide)
theorem apart2 {h : Heap} {t e it : Addr} {xs : Array Value} {i : Int} {old : Value} (hT : h.IsTuple t xs) (hE : IsEnum h e it i old) : e ≠ t := fun z => by
  subst z
  obtain ⟨o, h1, h2, _⟩ := hT
  have g1 : h.get? e = some _ := hE
  rw [h1] at g1
  cases g1
  exact absurd (Value.type.inj h2) (by decide)
theorem turn {P : Program} {w : World} {K : PySem.W.Frag} {elts : List Expr} {kk : Nat} {tpos : Pos} (a e it : Addr) :
    Turn P w K (.Tuple elts kk tpos) (Itu K a) [e, it] e (fun i h => (∃ old, IsEnum h e it ((i : Nat) : Int) old) ∧ h.IsTupleIter it a i ∧ e ≠ it) where
  mem := List.mem_cons_self
  obj := fun i h ⟨⟨old, he⟩, ⟨o, ho, hc, hd⟩, _⟩ b hb => by
    rcases List.mem_cons.mp hb with z | z
    · rw [z]
      exact ⟨_, he, fun v q => nomatch q⟩
    · rw [List.mem_singleton.mp z]
      exact ⟨o, ho, fun v q => by rw [hd] at q; cases q⟩
  keep := fun i h h' ⟨⟨old, he⟩, hi, hne⟩ k => ⟨⟨old, k e List.mem_cons_self _ he⟩, hi.at fun o q => k it (List.mem_cons_of_mem _ List.mem_cons_self) o q, hne⟩
  item := by
    intro X hP hw hK hc i pins s σ H E I hf ⟨⟨old, he⟩, hit, hne⟩ ⟨xs, x, hq, hx⟩
    subst hP hw hK
    obtain ⟨its, rv, p, hz⟩ := I.tuple hq
    obtain ⟨u, hu, ru⟩ := rv.get hx
    have hT : s.heap.IsTuple a its.toArray := p
    have le : e < s.heap.objs.size := Heap.lt_size he
    have li : it < s.heap.objs.size := by
      obtain ⟨_, q, _⟩ := hit
      exact Heap.lt_size q
    have lt : i < its.toArray.size := by
      have := (List.getElem?_eq_some_iff.mp hu).1
      simpa using this
    refine wpAny_pyNext_enum_itemD (Draws.tuple (A := X.A.in1) (show X.A.in1.handled = none from I.ok.hd hc) it a (apart hT hit) its.toArray) he (show s.heap.IsTupleIter it a i ∧ s.heap.IsTuple a its.toArray from ⟨hit, hT⟩) lt hne (fun z => ?_) fun u' h' tk hu' ho hst hTp hsz hk => ?_
    · rcases List.mem_cons.mp z with z | z
      · exact hne z
      · exact apart2 hT he (List.mem_singleton.mp z)
    have eu : u' = u := by
      have z : its.toArray[i]? = some u := by simpa using hu
      rw [hu'] at z
      exact Option.some.inj z
    subst eu
    refine ⟨_, rfl, wpAny_letOwnedTupleGo_enum (s := { s with heap := h', toks := tk + 1 }) ho fun h2 he2 sb => ?_⟩
    have q1 : h2.get? s.heap.objs.size = some { cls := .type "tuple", data := .seq #[.int i tk, u'] } := (sb.2 _ (Nat.ne_of_gt le)).trans hTp
    have ok : ObjOk X.prog X.w (upd H s.heap.objs.size (.tup [.int (i : Nat), x])) h2 s.heap.objs.size (.tup [.int (i : Nat), x]) := ⟨by show 2 ≤ sizeLine; decide, [.int i tk, u'], .cons ⟨_, rfl⟩ (.cons ru .nil), ⟨_, q1, rfl, _, rfl⟩⟩
    have I1 : Inv X pins σ (upd H s.heap.objs.size (.tup [.int (i : Nat), x])) { s with heap := h2, toks := tk + 1 } := I.turnedNew (ch := [e, it]) (fun b ob hb q => (sb.2 b (fun z => hb (by simp [z]))).trans (hk b ob (fun z => hb (by simp [z])) (fun z => hb (by simp [z])) q)) hf (Nat.le_refl _) ok
    refine ⟨.ref s.heap.objs.size, _, I1, rfl, ⟨_, x, rfl, I.hok.fresh (Nat.le_refl _), rfl, fun ys hy => by rw [I.tuple_inj hy hq]; exact hx⟩, ⟨⟨u', ?_⟩, hst.1.at fun o q => (sb.2 it (Ne.symm hne)).trans q, hne⟩, fun b hb => ?_⟩
    · have e1 : ((i + 1 : Nat) : Int) = (i : Int) + 1 := by omega
      rw [e1]
      exact he2
    · have lb : b < s.heap.objs.size := by
        rcases List.mem_cons.mp hb with z | z
        · rw [z]
          exact le
        · rw [List.mem_singleton.mp z]
          exact li
      rw [upd_ne (Nat.ne_of_lt lb)]
      exact (hf b hb).1
  done := by
    intro X hP hw hK hc i pins s σ H E I hf ⟨⟨old, he⟩, hit, hne⟩ ⟨xs, hq, hx⟩
    subst hP hw hK
    obtain ⟨its, rv, p, hz⟩ := I.tuple hq
    have hT : s.heap.IsTuple a its.toArray := p
    obtain ⟨f0, f1, f2, f3, f4, f5⟩ := hf it (List.mem_cons_of_mem _ List.mem_cons_self)
    have hl := rv.length
    unfold pyNext
    refine wpAny_bind (wpAny_attempt (wpAny_callSpecial?_slot (name := Str.ofString "__next__") ⟨_, he, rfl⟩ F.slot_enumerate_next (wpAny_call_entry F.slot_enumerate_next ⟨_, he, rfl⟩ F.entry_enumerate_next ?_ (F.args_enumerate_next_1 _))))
    show wpAny _ _ (field (.ref e) 2 >>= _) _ _ _
    refine wpAny_bind (wpAny_field he rfl (x := .ref it) rfl ?_)
    refine wpAny_bind (wpAny_nextOf_tuple_end (I.ok.hd hc) hit hT (by simp; omega) fun h' y eb ⟨o, ho, hcl⟩ => ?_)
    refine wpAny_bind (wpAny_isInstance (T := "StopIteration") (b := true) ⟨o, ho, hcl⟩ isSubtype_stop ?_)
    exact wpAny_pure ⟨rfl, I.turned (t' := s.toks) (fun b o hb q => eb b o hb q) f0 f1 f3 f4 f5⟩
  self := fun A i s Q E ⟨⟨_, he⟩, _⟩ h => wpAny_pyIter_enum he h
end EnT
namespace Py
open PySem PySem.Spec PyProof.Rows L2
section
variable {X : Cx} {U : Wi} {Γ : List Sl} {e : Expr} {pos p : Pos} {α : Type} {ρ : Rp α}
end
end Py

/-! Own layer, part Am: a list lent to a callee in the last place. -/
namespace Py
open PySem PySem.Spec PyProof.Rows L2
section
variable {P : Program} {w : World} {K : PySem.W.Frag} {mg : Str → Option Value} {base : Heap}
end
section
variable {X : Cx} {U : Wi} {S : Type} {α β γ τ : Type} {ρ1 : Rp α} {ρ : Rp γ} {t : Tr τ} {a b e : Expr} {es : List Expr} {pos p p2 : Pos} {Γs : S → List Sl} {s : S} {n nf : Str} {k : Nat} {f : Addr} {fd : FuncData} {ps : List Str}
end
end Py

/-! Own layer, part An: while; tuples of the module, read only. -/
namespace Py
open PySem PySem.Spec PyProof.Rows L2
/-- while c: body, at most n turns -/
def whileR {τ : Type} (c : τ → R Bool) (f : τ → R τ) : Nat → τ → R τ
  | 0, _ => .bad
  | n + 1, s => (c s).bind fun b => if b = true then (f s).bind (whileR c f n) else .ok s
section
variable {X : Cx} {U : Wi} {Γ : List Sl} {pos : Pos} {τ ω : Type} {I : ω → Kd} {rest : List Stmt}
theorem g_whileR {c0 : Expr} {body : List Stmt} (Γs : τ → List Sl) (n : Nat) (c : τ → R Bool) (f : τ → R τ) (s0 : τ) (hcd : ∀ s, BX X U (Γs s) c0 (c s)) (hb : ∀ s, SX X U (Γs s) body (fun s' => .go (Γs s')) (f s)) (h0 : Le (Γs s0) Γ)
    (hp : PassesOwn (model X.prog X.w) X.A X.env X.xe) : SG X U Γ (.While c0 body [] pos) (fun s => .nx (Γs s)) (whileR c f n s0) :=
  ⟨fun en F σ H D s h => wS_of (ps_while hp wT_pt wSs_pss) (by
    refine ⟨fun m σ H => ∃ st F', Same F F' ∧ SA en (Γs st) F' σ H ∧ wpR (whileR c f m st) (fun o => Kd.sat (.nx (Γs o)) en F' D) (U.ok X.mg en F'), ⟨n, s0, F, Same.refl F, s.le h0, h⟩, ?_⟩
    rintro m σ H ⟨st, F', eF, sa, q⟩
    cases m with
    | zero => exact q.elim
    | succ m =>
      refine (hcd st).out en F' σ H _ sa (wpR_mono (wpR_bind q) (fun b z => fun F2 H2 e2 s2 => ?_) fun _ z => z)
      cases b with
      | true =>
        rw [if_pos rfl] at z ⊢
        refine ⟨fun σ' H' => ∃ st F', Same F F' ∧ SA en (Γs st) F' σ' H' ∧ wpR (whileR c f m st) (fun o => Kd.sat (.nx (Γs o)) en F' D) (U.ok X.mg en F'), fun σ' H' w => ⟨m, Nat.lt_succ_self m, w⟩, ?_⟩
        refine (hb st).out en F2 σ H2 _ s2 (wpR_mono (wpR_bind z) (fun st' z' => ?_) fun _ z => z.up e2)
        exact fun F3 σ3 H3 e3 s3 => ⟨⟨st', F3, eF.trans (e2.trans e3), s3, wpR_mono z' (fun o z => Kd.sat.up (k := .nx (Γs o)) z (e2.trans e3)) fun _ z => z.up (e2.trans e3)⟩, ⟨st', F3, eF.trans (e2.trans e3), s3, wpR_mono z' (fun o z => Kd.sat.up (k := .nx (Γs o)) z (e2.trans e3)) fun _ z => z.up (e2.trans e3)⟩⟩
      | false =>
        rw [if_neg Bool.false_ne_true] at z ⊢
        exact z F2 σ H2 e2 s2)⟩
theorem p_while {c0 : Expr} {body : List Stmt} {k : τ → R ω} (Γs : τ → List Sl) (n : Nat) (c : τ → R Bool) (f : τ → R τ) (s0 : τ) (hp : PassesOwn (model X.prog X.w) X.A X.env X.xe) (hcd : ∀ s, BX X U (Γs s) c0 (c s)) (hb : ∀ s, SX X U (Γs s) body (fun s' => .go (Γs s')) (f s)) (h0 : Le (Γs s0) Γ)
    (hr : ∀ s, SX X U (Γs s) rest I (k s)) : SX X U Γ (.While c0 body [] pos :: rest) I ((whileR c f n s0).bind k) :=
  s_cons (g_whileR (pos := pos) Γs n c f s0 hcd hb h0 hp) (fun s => Cont.nx (hr s))
end
/-! ### tuples of the module -/
/-- a pair of ints that the module has -/
def rKC (K : PySem.W.Frag) : Rp (Int × Int) := ⟨fun c _ v => ∃ a, v = .ref a ∧ ∀ H, SqT K H a [.int c.1, .int c.2], fun _ h => h⟩
/-- a row of such pairs, a tuple of the module -/
def rKT (K : PySem.W.Frag) : Rp (List (Int × Int)) := ⟨fun cs _ v => ∃ a vs, v = .ref a ∧ (∀ H, SqT K H a vs) ∧ RepL (rKC K) (fun _ => none) cs vs, fun _ h => h⟩
theorem wk_kt {K : PySem.W.Frag} {F : Hp} {xs : List (Int × Int)} {p : Addr} {vs : List V} (h : ∀ H, SqT K H p vs) (r : RepL (rKC K) (fun _ => none) xs vs) : Wk (Itt K p) F (rKC K) xs where
  go := fun F1 H i x e1 e2 hx => by
    obtain ⟨v, hv, rv⟩ := r.got hx
    exact ⟨⟨vs, v, h H, hv⟩, fun w H' ⟨eH, y⟩ => by
      subst eH
      have ew : w = v := Option.some.inj ((y vs (h _)).symm.trans hv)
      subst ew
      exact ⟨F1, Ext.refl e2, rv⟩⟩
  stop := fun H i e hi => ⟨vs, h H, by rw [← r.length]; exact hi⟩
section
variable {X : Cx} {U : Wi} {Γ : List Sl} {a tg : Expr} {pos p2 : Pos} {n : Str} {ω : Type}
theorem i_kt {m : R ω} {val : ω → List (Int × Int)} {Γ' : ω → List Sl} (h : EG X U Γ a (rKT X.K) m val Γ') : IG X U Γ tg a (rKC X.K) m val Γ' :=
  ⟨fun en F σ H R s q => wI_of (pi_tup wE_pe) (h.out en F σ H _ s (wpR_mono q (fun w k v F' H' e1 s1 ⟨p, vs, ev, hp, r⟩ => ⟨p, ev, ⟨vs, hp H'⟩, k _ F' H' e1 s1 (wk_kt hp r)⟩) fun _ z => z))⟩
/-- c[0], c[1], c a pair of the module -/
theorem x_kc0 {m : R (Int × Int)} {jj} (ha : EX X U Γ a (rKC X.K) m) : EX X U Γ (.Subscript a (.Constant (.int (0 : Nat)) jj p2) pos) rI (m.bind fun x => .ok x.1) :=
  ⟨fun en F σ H Q s h => wE_of (pe_ix (hs := fun _ _ => rfl) ix_tup wE_pe pe_int) (ha.out en F σ H _ s (wpR_mono (wpR_bind h) (fun x k v F1 H1 e1 s1 ⟨p, ev, hp⟩ =>
    ⟨p, _, (0 : Nat), .int x.1, ev, rfl, hp H1, atI_nat rfl, k _ F1 H1 e1 s1 rfl⟩) fun _ z => z))⟩
theorem x_kc1 {m : R (Int × Int)} {jj} (ha : EX X U Γ a (rKC X.K) m) : EX X U Γ (.Subscript a (.Constant (.int (1 : Nat)) jj p2) pos) rI (m.bind fun x => .ok x.2) :=
  ⟨fun en F σ H Q s h => wE_of (pe_ix (hs := fun _ _ => rfl) ix_tup wE_pe pe_int) (ha.out en F σ H _ s (wpR_mono (wpR_bind h) (fun x k v F1 H1 e1 s1 ⟨p, ev, hp⟩ =>
    ⟨p, _, (1 : Nat), .int x.2, ev, rfl, hp H1, atI_nat rfl, k _ F1 H1 e1 s1 rfl⟩) fun _ z => z))⟩
theorem x_globKT {cs : List (Int × Int)} (h : ∃ a, X.mg n = some (.ref a) ∧ ∃ vs, (∀ H, SqT X.K H a vs) ∧ RepL (rKC X.K) (fun _ => none) cs vs) (hg : Gl X n := by rfl) (hd : (n == ("__debug__" : Str)) = false := by decide) : EX X U Γ (.Name n pos) (rKT X.K) (.ok cs) := by
  obtain ⟨a, hm, vs, hs, r⟩ := h
  exact x_glob (v := .ref a) hm rfl (fun F => ⟨a, vs, rfl, hs, r⟩) hg hd
end
/-! ### the head's look at them -/
def kcB (K : PySem.W.Frag) (c : Int × Int) : Value → Bool
  | .ref a => (match K.lookup a with
    | some ⟨.type t, _, .seq its _, _⟩ => decide (t = "tuple") && (decide (its.size ≤ sizeLine) && He.relAll [.int c.1, .int c.2] its.toList)
    | _ => false)
  | _ => false
def ktsB (K : PySem.W.Frag) : List (Int × Int) → List Value → Bool
  | [], [] => true
  | c :: cs, v :: vs => kcB K c v && ktsB K cs vs
  | _, _ => false
def ktB (K : PySem.W.Frag) (a : Addr) (cs : List (Int × Int)) : Bool := match K.lookup a with
  | some ⟨.type t, _, .seq its _, _⟩ => decide (t = "tuple") && (decide (its.size ≤ sizeLine) && ktsB K cs its.toList)
  | _ => false
theorem kcB_ok {K : PySem.W.Frag} {c : Int × Int} {v : Value} (h : kcB K c v = true) : ∃ a, v = .ref a ∧ ∀ H, SqT K H a [.int c.1, .int c.2] := by
  cases v with
  | ref a =>
    refine ⟨a, rfl, fun H => ?_⟩
    have h1 : (match K.lookup a with
      | some ⟨.type t, _, .seq its _, _⟩ => decide (t = "tuple") && (decide (its.size ≤ sizeLine) && He.relAll [.int c.1, .int c.2] its.toList)
      | _ => false) = true := h
    cases q : K.lookup a with
    | none =>
      rw [q] at h1
      cases h1
    | some o =>
      obtain ⟨oc, od, dt, osl⟩ := o
      rw [q] at h1
      cases oc with
      | type t =>
        cases dt with
        | seq its m =>
          obtain ⟨h2, h3⟩ := He.ba h1
          obtain ⟨h4, h5⟩ := He.ba h3
          exact .inr ⟨_, its, m, q, congrArg Value.type (of_decide_eq_true h2), rfl, of_decide_eq_true h4, He.relAll_ok h5⟩
        | _ => cases h1
      | _ => cases dt <;> cases h1
  | _ => cases h
theorem ktsB_ok {K : PySem.W.Frag} : ∀ {cs : List (Int × Int)} {us : List Value}, ktsB K cs us = true → ∃ vs, Vals vs us ∧ RepL (rKC K) (fun _ => none) cs vs
  | [], [], _ => ⟨[], .nil, .nil⟩
  | [], _ :: _, h => by cases h
  | _ :: _, [], h => by cases h
  | c :: cs, u :: us, h => by
    obtain ⟨h1, h2⟩ := He.ba (show (kcB K c u && ktsB K cs us) = true from h)
    obtain ⟨a, e, hs⟩ := kcB_ok h1
    obtain ⟨vs, r1, r2⟩ := ktsB_ok h2
    refine ⟨.ref a :: vs, .cons (by rw [e]; rfl) r1, .cons ⟨a, rfl, hs⟩ r2⟩
theorem ktB_ok {K : PySem.W.Frag} {a : Addr} {cs : List (Int × Int)} (h : ktB K a cs = true) : ∃ vs, (∀ H, SqT K H a vs) ∧ RepL (rKC K) (fun _ => none) cs vs := by
  unfold ktB at h
  cases q : K.lookup a with
  | none =>
    rw [q] at h
    cases h
  | some o =>
    obtain ⟨oc, od, dt, osl⟩ := o
    rw [q] at h
    cases oc with
    | type t =>
      cases dt with
      | seq its m =>
        obtain ⟨h2, h3⟩ := He.ba (show (decide (t = "tuple") && (decide (its.size ≤ sizeLine) && ktsB K cs its.toList)) = true from h)
        obtain ⟨h4, h5⟩ := He.ba h3
        obtain ⟨vs, r1, r2⟩ := ktsB_ok h5
        exact ⟨vs, fun H => .inr ⟨_, its, m, q, congrArg Value.type (of_decide_eq_true h2), rfl, of_decide_eq_true h4, r1⟩, r2⟩
      | _ => cases h
    | _ => cases dt <;> cases h
end Py

/-! Own layer, part Ao: an own object of any kind (a dict) lent to a callee in the first place. -/
namespace Py
open PySem PySem.Spec PyProof.Rows L2
/-- the promise of a def whose first parameter is a lent object, of kind O -/
def SpMO {δ τ γ : Type} (O : δ → ORp) (t : Tr τ) (ρ : Rp γ) (f : δ → τ → R (γ × δ)) : Sp := fun vs H Q _ => ∃ (F : Hp) (p : Addr) (l : δ) (o : HO) (x : τ) (us : List V), Same F H ∧ F p = none ∧ H p = some o ∧ (O l).p F o ∧ vs = .ref p :: us ∧ t.rep x F us ∧
  wpR (f l x) (fun z => ∀ v F' H' o', ExtM p F H F' H' → F' p = none → H' p = some o' → (O z.2).p F' o' → ρ.rep z.1 F' v → Q v H') fun _ => False
section
variable {P : Program} {w : World} {K : PySem.W.Frag} {mg : Str → Option Value} {base : Heap}
theorem f_okMO {x qual : Str} {st : Stmt} {f : Addr} {fd : FuncData} {N ps : List Str} {k n : Nat} {δ τ γ : Type} {O : δ → ORp} {t : Tr τ} {ρ : Rp γ} {fm : δ → τ → R (γ × δ)} {sl : τ → List Sl} (Γ0 : Addr → δ → τ → List Sl) (Fn : FunZ K x qual st f fd) (S : FnScope N ps (defScope st)) (ar : Ar t n sl) (hn : n + 1 = ps.length) (hN : n + 1 ≤ N.length)
    (hΓ : ∀ p l a, Γ0 p l a = .own (some p) (O l) :: (sl a ++ List.replicate (N.length - (n + 1)) .any))
    (body : ∀ cdv A outer s H E (hr : Room k (A.deeper (envOfC qual (defScope st) s.heap.objs.size f cdv))) (tk : Takes (CxF P w K mg base N qual st f cdv A outer s H E) (UF E).W) (hp : PassesOwn (model P w) (A.deeper (envOfC qual (defScope st) s.heap.objs.size f cdv)) (envOfC qual (defScope st) s.heap.objs.size f cdv) (CxF P w K mg base N qual st f cdv A outer s H E).xe) (p : Addr) (l : δ) (a : τ),
      SX (CxF P w K mg base N qual st f cdv A outer s H E) (UF E) (Γ0 p l a) (defBody st) (fun z : γ × δ => .fn ⟨fun H v => ρ.rep z.1 H v, fun e h => ρ.mono e h⟩ [.own (some p) (O z.2)]) (fm l a)) :
    FnOk P w K mg base (L2.CX P w) (k + 1) f fd ps (SpMO O t ρ fm) := by
  refine Fn.okX S (fun vs H Q E ⟨F, p, l, o, a, us, _, _, _, _, ev, r, _⟩ => ?_) (fun cdv A outer s H vs Q E hr ⟨F, p, l, o, a, us, sF, fp, hp, rl, ev, r, hw⟩ => ?_)
  · rw [ev, List.length_cons, (ar.out a F us r).1]
    exact hn
  · obtain ⟨h1, h2, h3⟩ := ar.out a F us r
    subst ev
    refine ⟨_, wSs_pss, ?_⟩
    have hst : ∀ (i : Nat) v, (V.ref p :: us)[i]? = some v → (L2.start N (.ref p :: us))[i]? = some (some v) := fun i v e => by
      unfold L2.start
      have hl : i < (V.ref p :: us).length := (List.getElem?_eq_some_iff.mp e).1
      rw [List.getElem?_append_left (by rw [List.length_map]; exact hl), List.getElem?_map, e] <;> rfl
    have im0 : ∀ (i : Nat) x, (Γ0 p l a)[i + 1]? = some x → x = .any ∨ ∃ P v, x = .imm P ∧ us[i]? = some v ∧ P.p F v := fun i x hx => by
      rw [hΓ, List.getElem?_cons_succ] at hx
      by_cases hl : i < (sl a).length
      · rw [List.getElem?_append_left hl] at hx
        exact .inr (h3 i x hx)
      · rw [List.getElem?_append_right (by omega), List.getElem?_replicate] at hx
        split at hx
        · exact .inl (Option.some.inj hx).symm
        · cases hx
    have z0 : (Γ0 p l a)[0]? = some (.own (some p) (O l)) := by rw [hΓ] <;> rfl
    have sa : SA ⟨F, H, fun q => q = p⟩ (Γ0 p l a) F (L2.start N (.ref p :: us)) H := by
      refine ⟨?_, sF, Same.refl F, fun _ _ h _ => h, fun _ h => h, fun _ _ h _ => .inl h, fun i Q hi => ?_, fun i b Q hi => ?_, fun i j b c Q Q' q hij hi hj => ?_⟩
      · rw [hΓ, List.length_cons, List.length_append, List.length_replicate, h2]
        unfold L2.start
        rw [List.length_append, List.length_map, List.length_replicate, List.length_cons, h1]
        omega
      · cases i with
        | zero => rw [z0] at hi; cases hi
        | succ i =>
          rcases im0 i _ hi with z | ⟨Q', v, z, hv, hq⟩
          · cases z
          · injection z with z
            subst z
            exact ⟨v, hst (i + 1) v (by simpa using hv), hq⟩
      · cases i with
        | zero =>
          rw [z0] at hi
          injection hi with hi
          injection hi with e1 e2
          subst e1 e2
          exact ⟨p, _, hst 0 _ rfl, fp, hp, rl, .inr rfl, fun q z => Option.some.inj z⟩
        | succ i =>
          rcases im0 i _ hi with z | ⟨Q', v, z, hv, hq⟩ <;> cases z
      · cases i with
        | zero =>
          cases j with
          | zero => exact absurd rfl hij
          | succ j => rcases im0 j _ hj with z | ⟨Q', v, z, hv, hq⟩ <;> cases z
        | succ i => rcases im0 i _ hi with z | ⟨Q', v, z, hv, hq⟩ <;> cases z
    refine (body cdv A outer s H E hr (takes_of rfl rfl rfl rfl) (passes_of rfl) p l a).out ⟨F, H, fun q => q = p⟩ F _ H _ sa (wpR_mono hw (fun z k => ?_) fun r z => z.elim)
    have fin : ∀ {F' : Hp} {σ' : L2.St} {H' : Hp} {v : V}, Same F F' → SA ⟨F, H, fun q => q = p⟩ [.own (some p) (O z.2)] F' σ' H' → ρ.rep z.1 F' v → Q v H' := fun {F' σ' H' v} e s' rv => by
      obtain ⟨q, o, g1, g2, g3, g4, _, g7⟩ := s'.own 0 _ _ rfl
      obtain rfl : q = p := g7 p rfl
      exact k v F' H' o ⟨e, fun b o hb h => s'.old b o h hb, s'.sub, fun b hb h hf => s'.frz b h hf hb⟩ g2 g3 g4 rv
    exact ⟨fun v F' σ' H' e s' rv => fin e s' rv, fun F' σ' H' e s' rv => fin e s' rv⟩
end
section
variable {en : En} {Γ : List Sl} {F F' H H' : Hp} {σ : L2.St}
def oNT : ORp := ⟨fun _ o => ∀ vs, o ≠ .tup vs, fun _ h => h, fun h => h⟩
/-- behind a callee that changed an own object -/
theorem SA.lentO {δ : Type} {O : δ → ORp} {l l' : δ} {a0 : Option Addr} {i : Nat} {p : Addr} {o : HO} (s : SA en Γ F σ H) (hi : Γ[i]? = some (.own a0 (O l))) (hp : σ[i]? = some (some (.ref p))) (x : ExtM p F H F' H') (hf : F' p = none) (ho : H' p = some o) (r : (O l').p F' o) :
    SA en (Γ.set i (.own a0 (O l'))) F' σ H' := by
  have s1 := s.mut (o' := o) (P' := oNT) hi hp ((O l').nt r)
  have e : Ext F (upd H p o) F' H' := by
    refine ⟨x.f, fun q o1 h => ?_, x.s, fun q h hq => ?_⟩
    · by_cases z : q = p
      · subst z
        rw [upd_same] at h
        rw [ho, ← h]
      · rw [upd_ne z] at h
        exact x.h q o1 z h
    · by_cases z : q = p
      · subst z
        exact .inl hf
      · rw [upd_ne z] at h
        exact x.n q z h hq
  have s2 := s1.ext e
  have il : i < Γ.length := (List.getElem?_eq_some_iff.mp hi).1
  have hi2 : (Γ.set i (.own a0 oNT))[i]? = some (.own a0 oNT) := List.getElem?_set_self il
  have s3 := s2.mut (o' := o) (P' := O l') hi2 hp r
  rw [List.set_set] at s3
  have e2 : upd H' p o = H' := funext fun q => by
    by_cases z : q = p
    · subst z
      rw [upd_same, ho]
    · rw [upd_ne z]
  rw [e2] at s3
  exact s3
end
section
variable {X : Cx} {U : Wi} {S : Type} {α β γ τ : Type} {ρ1 : Rp α} {ρ : Rp γ} {t : Tr τ} {a b e : Expr} {es : List Expr} {pos p p2 : Pos} {Γs : S → List Sl} {s : S} {n nf : Str} {k : Nat} {f : Addr} {fd : FuncData} {ps : List Str}
/-- a call that changes the own object in slot i, its first argument -/
theorem es_callMO {δ : Type} {O : δ → ORp} {fm : δ → τ → R (γ × δ)} {m : R (τ × S)} {a0 : Option Addr} (i : Nat) (get : S → δ) (put : S → δ → S) (G : FnOk X.prog X.w X.K X.mg X.base (L2.CX X.prog X.w) k f fd ps (SpMO O t ρ fm)) (hr : Room k X.A) (hm : X.mg nf = some (.ref f)) (hk : PySem.W.keepIn X.K (.ref f) = true) (hb : Binds X.K fd ps []) (tk : Takes X U.W)
    (ha : AS X U Γs s es t m) (hΓ : ∀ s, (Γs s)[i]? = some (.own a0 (O (get s)))) (hp : ∀ s l, (Γs s).set i (.own a0 (O l)) = Γs (put s l)) (hN : X.N[i]? = some n := by rfl) (hv : Vis X.env.scope n := by first | exact Or.inl rfl | exact Or.inr (Or.inl rfl) | exact Or.inr (Or.inr rfl)) (hd : (n == ("__debug__" : Str)) = false := by decide) (hcd : (n == ("__classdict__" : Str)) = false := by decide)
    (hg : Gl X nf := by rfl) (hdb : (nf == ("__debug__" : Str)) = false := by decide) (he : starEach (.Name n p2 :: es) X.env = (false, eval (.Name n p2) X.env) :: starEach es X.env := by rfl) (hpl : (backTo pos (starEach es X.env)).any (·.1) = false := by rfl) :
    ES X U Γs s (.Call (.Name nf p) (.Name n p2 :: es) [] pos) ρ (m.bind fun w => (fm (get w.2) w.1).calm.bind fun z => .ok (z.1, put w.2 z.2)) :=
  ⟨fun en F σ H Q sa h => wE_of (pe_callSD G hr hg hm hk hb .nil (fun σ => passAt tk σ) (pa_cons (pe_var hN hv hd hcd) wA_pa he) hdb he hpl) (by
    obtain ⟨q, o, g1, g2, g3, g4, g5, g6⟩ := sa.own i _ _ (hΓ s)
    refine ⟨.ref q, g1, ha.out en F σ H _ sa (wpR_mono (wpR_bind h) (fun w kk us F1 H1 e1 s1 r1 => ?_) fun _ z => z)⟩
    obtain ⟨q1, o1, f1, f2, f3, f4, f5, f6⟩ := s1.own i _ _ (hΓ w.2)
    rw [g1] at f1
    injection f1 with f1
    injection f1 with f1
    injection f1 with f1
    subst f1
    refine ⟨F1, q, get w.2, o1, w.1, us, s1.sub, f2, f3, f4, by rw [List.append_nil], r1, wpR_mono (wpR_calm (wpR_bind kk)) (fun z k v F' H' o' ex hf ho rr rv => ?_) fun _ z => z⟩
    have s2 := s1.lentO (hΓ w.2) g1 ex hf ho rr
    rw [hp] at s2
    exact k v F' H' (e1.trans ex.f) s2 rv)⟩
end
end Py

/-! Own layer, part Al: a law's end over the head by facts (one kernel run of the top; nothing of the top is written out). -/
namespace Py
open PySem PySem.Spec PyProof.Rows L2
/-! ### the part of the heap: the module's names; their codes, defaults, namespaces; methods; their codes -/
def nxtP (g : Addr → Option Obj) (f : Obj → List Addr) (as : List Addr) : List Addr := as.flatMap fun a => match g a with
  | some o => f o
  | none => []
def refsF (o : Obj) : List Addr := match o.data with
  | .func fd => He.refV fd.code ++ He.refV fd.defaults
  | .cls cd => [cd.ns]
  | .seq its _ => its.toList.flatMap He.refV
  | _ => []
def refsN (o : Obj) : List Addr := match o.data with
  | .dict es _ => es.toList.flatMap fun e => He.refV e.val
  | _ => []
def asP3 (g : Addr → Option Obj) (a1 a2 a3 : List Addr) : List Addr := mainGlobals :: (a1 ++ (a2 ++ (a3 ++ nxtP g refsF a3)))
def asP2 (g : Addr → Option Obj) (a1 a2 : List Addr) : List Addr := asP3 g a1 a2 (nxtP g refsN a2)
def asP1 (g : Addr → Option Obj) (a1 : List Addr) : List Addr := asP2 g a1 (nxtP g refsF a1)
def asP (g : Addr → Option Obj) : List Addr := asP1 g (nxtP g refsN [mainGlobals])
/-- the head's look: the defs, the names, own facts -/
def obsPG (fa : List He.Fa) (fn : List He.DefD) (ex : PySem.W.Frag → Bool) (g : Addr → Option Obj) : He.AlD × Bool := (He.obsD fa fn (He.frG g (asP g)), ex (He.frG g (asP g)))
def hookP (fa : List He.Fa) (fn : List He.DefD) (ex : PySem.W.Frag → Bool) : PySem.W.Hook where
  α := He.AlD × Bool
  obs := fun s => obsPG fa fn ex s.heap.get?
  val := fun _ => (He.valD fn, true)
  says := fun _ h => ∃ K : PySem.W.Frag, K.In h ∧ He.SaysD fa fn K ∧ ex K = true
  of := fun _ _ e => ⟨_, He.frG_in, congrArg (fun z : He.AlD × Bool => z.1) e, congrArg (fun z : He.AlD × Bool => z.2) e⟩
  keeps := fun _ _ _ ⟨K, hK, c⟩ k => ⟨K, PySem.W.Frag.In.keeps hK k, c⟩
theorem obsPG_eq {fa : List He.Fa} {fn : List He.DefD} {ex : PySem.W.Frag → Bool} {g : Addr → Option Obj} {s : Shared} (h : ∀ a, g a = s.heap.get? a) : obsPG fa fn ex g = (hookP fa fn ex).obs s := by
  have e : g = s.heap.get? := funext h
  rw [e] <;> rfl
theorem ba_d {p : Prop} [Decidable p] {b : Bool} (h : (decide p && b) = true) : p ∧ b = true := ⟨of_decide_eq_true (He.ba h).1, (He.ba h).2⟩
theorem walk_ofP {l : PySem.W.OpenLaw} {n k : Nat} {q : Program} {loose : List Str} {XP : (Str → Option Value) → Heap → Prop} {YP : World → Heap → Prop} {d : DefRec} {CX : World → CXT} {x : Str}
    (hn : l.most = some n) (hn2 : n ≤ sizeLine) (hdf : d.params.defaults = []) (hr : Room k callerA)
    (F : ∀ (w : World) (mg : Str → Option Value) (fa : Addr) (h : Heap), YP w h → h.Ns mainGlobals mg → mg d.name = some (.ref fa) →
      ∃ (K : PySem.W.Frag) (fd : FuncData) (sp : Sp), K.In h ∧ (∀ (s : Shared) (u : Value), BindsTo s fd ⟨[u], []⟩ [(x, u)]) ∧
        (∀ (H : Hp) (a : Addr) (ns : List Int), ns.length ≤ n → (∀ z ∈ ns, Builtin.Int.intBits z ≤ 1048576) → Only H → SqL K H a (ns.map V.int) → sp [.ref a] H (fun v _ => v = .bl true) fun _ _ _ => False) ∧
        ∀ base : Heap, K.In base → base.Ns mainGlobals mg → FnOk l.prog w K mg base (CX w) k fa fd [x] sp)
    (hCX : ∀ (w : World) (H : Hp) (s : Shared) (e : Value) (s' : Shared), CX w [] H s (fun _ _ _ => False) e s' → False) :
    PySem.W.WalkO q loose XP YP l.row.toRowW d [] (fun f vs => PySem.call f vs) := by
  refine Att.attach_callB hn hdf fun w s₀ s₁ mg mb fa o pm cd doc a vs ns G Y ho hd hcd hmg hobj hints hlen hbits hg => ?_
  obtain ⟨K, fd, sp, KX, hb, hsp, hF⟩ := F w mg fa _ Y G.T.g hmg
  exact law_call KX G.T.g G.T.b G.T.builtins G.T.nolimit hg hobj hints (Nat.le_trans hlen hn2) hr hF hb (fun H hO hS => hsp H a ns hlen hbits hO hS) fun H e s' => hCX w H s₁ e s'
section
variable {K : PySem.W.Frag} {x qual : Str} {st : Stmt} {dvs : List V} {kws : List (Str × V)} {f : Addr} {fd : FuncData} {ps : List Str}
theorem fz_d (F : FunD K x qual (defArgs st) (defBody st) (defScope st) dvs kws f fd) : FunZ K x qual st f fd :=
  let ⟨oc, od, dV, kV, doc, pm, an, cdv, ct, osl, e, l, c, _, _⟩ := F.ex
  ⟨⟨oc, od, dV, kV, doc, pm, an, cdv, ct, osl, e, l, c⟩, F.kp⟩
end
end Py

namespace G
open PySem PySem.Spec PyProof.Rows L2 Py
def topS (i : Nat) : Stmt := PySem.Challenge.pw_edgewide_k69_holes_told.main.body.getD i (.Pass ⟨0, 0, 0, 0⟩)
abbrev s_law_cell : Stmt := topS 22
theorem sc_law_cell : FnScope ["script", "k"] ["script", "k"] (defScope s_law_cell) := ⟨rfl, rfl, rfl, by decide +kernel, rfl, by decide +kernel, by decide +kernel⟩
abbrev s_law_deal : Stmt := topS 23
theorem sc_law_deal : FnScope ["cell", "salt", "one", "number", "j"] ["cell", "salt"] (defScope s_law_deal) := ⟨rfl, rfl, rfl, by decide +kernel, rfl, by decide +kernel, by decide +kernel⟩
abbrev s_law_base : Stmt := topS 25
theorem sc_law_base : FnScope ["number", "by", "way", "row", "column"] ["number"] (defScope s_law_base) := ⟨rfl, rfl, rfl, by decide +kernel, rfl, by decide +kernel, by decide +kernel⟩
abbrev s_law_kept : Stmt := topS 24
theorem sc_law_kept : FnScope ["row", "column"] ["row", "column"] (defScope s_law_kept) := ⟨rfl, rfl, rfl, by decide +kernel, rfl, by decide +kernel, by decide +kernel⟩
abbrev s_law_board : Stmt := topS 26
theorem sc_law_board : FnScope ["number", "cells", "k", "way", "base", "many", "row", "gone", "column", "at", "top", "tall", "wide", "bits"] ["number"] (defScope s_law_board) := ⟨rfl, rfl, rfl, by decide +kernel, rfl, by decide +kernel, by decide +kernel⟩
abbrev s_law_far : Stmt := topS 31
theorem sc_law_far : FnScope ["cells", "number", "by", "some", "way", "far", "least"] ["cells", "number"] (defScope s_law_far) := ⟨rfl, rfl, rfl, by decide +kernel, rfl, by decide +kernel, by decide +kernel⟩
abbrev s_law_ring : Stmt := topS 32
theorem sc_law_ring : FnScope ["number", "cells", "row", "tall", "wide", "column"] ["number"] (defScope s_law_ring) := ⟨rfl, rfl, rfl, by decide +kernel, rfl, by decide +kernel, by decide +kernel⟩
abbrev s_law_spans : Stmt := topS 33
abbrev N_law_spans : List Str := ["cells", "rows", "columns", "cell"]
theorem sc_law_spans : FnScope ["cells", "rows", "columns", "cell"] ["cells"] (defScope s_law_spans) := ⟨rfl, rfl, rfl, by decide +kernel, rfl, by decide +kernel, by decide +kernel⟩
abbrev slook_finite : Stmt := topS 15
theorem sclook_finite : FnScope ["shape"] ["shape"] (defScope slook_finite) := ⟨rfl, rfl, rfl, by decide +kernel, rfl, by decide +kernel, by decide +kernel⟩
abbrev slook_narrow : Stmt := topS 19
abbrev Nlook_narrow : List Str := ["shape", "numbers", "cell"]
theorem sclook_narrow : FnScope ["shape", "numbers", "cell"] ["shape"] (defScope slook_narrow) := ⟨rfl, rfl, rfl, by decide +kernel, rfl, by decide +kernel, by decide +kernel⟩
abbrev snoted : Stmt := topS 17
theorem scnoted : FnScope ["cells", "some", "cell"] ["cells"] (defScope snoted) := ⟨rfl, rfl, rfl, by decide +kernel, rfl, by decide +kernel, by decide +kernel⟩
abbrev sflooded : Stmt := topS 16
theorem scflooded : FnScope ["some", "start", "steps", "found", "at", "step", "near"] ["some", "start", "steps"] (defScope sflooded) := ⟨rfl, rfl, rfl, by decide +kernel, rfl, by decide +kernel, by decide +kernel⟩
abbrev sregions : Stmt := topS 18
theorem scregions : FnScope ["cells", "steps", "some", "found", "cell"] ["cells", "steps"] (defScope sregions) := ⟨rfl, rfl, rfl, by decide +kernel, rfl, by decide +kernel, by decide +kernel⟩
abbrev sholes : Stmt := topS 20
abbrev Nholes : List Str := ["shape", "rows", "columns", "some", "lacking", "row", "column", "cell"]
theorem scholes : FnScope ["shape", "rows", "columns", "some", "lacking", "row", "column", "cell"] ["shape"] (defScope sholes) := ⟨rfl, rfl, rfl, by decide +kernel, rfl, by decide +kernel, by decide +kernel⟩
abbrev s_law_refused : Stmt := topS 30
theorem sc_law_refused : FnScope ["shape", "kind", "e"] ["shape"] (defScope s_law_refused) := ⟨rfl, rfl, rfl, by decide +kernel, rfl, by decide +kernel, by decide +kernel⟩
abbrev s_law_lacking : Stmt := topS 28
abbrev N_law_lacking : List Str := ["cells", "held", "cell", "rows", "columns", "some", "row", "column"]
theorem sc_law_lacking : FnScope ["cells", "held", "cell", "rows", "columns", "some", "row", "column"] ["cells"] (defScope s_law_lacking) := ⟨rfl, rfl, rfl, by decide +kernel, rfl, by decide +kernel, by decide +kernel⟩
abbrev s_law_fallen : Stmt := topS 27
theorem sc_law_fallen : FnScope ["cells", "sides", "left", "cell", "found", "part", "at", "row", "column", "near"] ["cells", "sides"] (defScope s_law_fallen) := ⟨rfl, rfl, rfl, by decide +kernel, rfl, by decide +kernel, by decide +kernel⟩
abbrev s_law_same : Stmt := topS 29
abbrev N_law_same : List Str := ["found", "due", "one", "other"]
theorem sc_law_same : FnScope ["found", "due", "one", "other"] ["found", "due"] (defScope s_law_same) := ⟨rfl, rfl, rfl, by decide +kernel, rfl, by decide +kernel, by decide +kernel⟩
abbrev slaw : Stmt := topS 34
theorem sclaw : FnScope ["script", "cell", "shape", "due", "told", "cells", "number", "way"] ["script"] (defScope slaw) := ⟨rfl, rfl, rfl, by decide +kernel, rfl, by decide +kernel, by decide +kernel⟩
/-- where the defs and the classes lie -/
structure Adr where
  f_law_cell : Addr
  f_law_deal : Addr
  f_law_base : Addr
  f_law_kept : Addr
  f_law_board : Addr
  f_law_far : Addr
  f_law_ring : Addr
  f_law_spans : Addr
  flook_finite : Addr
  flook_narrow : Addr
  fnoted : Addr
  fflooded : Addr
  fregions : Addr
  fholes : Addr
  f_law_refused : Addr
  f_law_lacking : Addr
  f_law_fallen : Addr
  f_law_same : Addr
  flaw : Addr
  d_law_cell : FuncData
  d_law_deal : FuncData
  d_law_base : FuncData
  d_law_kept : FuncData
  d_law_board : FuncData
  d_law_far : FuncData
  d_law_ring : FuncData
  d_law_spans : FuncData
  dlook_finite : FuncData
  dlook_narrow : FuncData
  dnoted : FuncData
  dflooded : FuncData
  dregions : FuncData
  dholes : FuncData
  d_law_refused : FuncData
  d_law_lacking : FuncData
  d_law_fallen : FuncData
  d_law_same : FuncData
  dlaw : FuncData
  c_BadCell : Addr
  c_BadDeed : Addr
  c_BadPiece : Addr
  c_BadTurn : Addr
  c_Endless : Addr
  c_MossError : Addr
  c_NoCell : Addr
  c_NoMarks : Addr
  c_NoText : Addr
  c_TooMany : Addr
  c_TooWide : Addr
/-! ### the mirrors -/
def m_law_cell (v_script : List Int) (v_k : Int) : R Int :=
  if (decide (v_k < ((v_script).length : Int))) = true then ofOpt (atI v_script v_k) else R.ok (0 : Int)
def m_law_deal (v_cell : Int) (v_salt : Int) : R Int :=
  if (decide ((1000000000000000000 : Int) ≤ v_cell)) = true then R.ok (v_cell - (1000000000000000000 : Int)) else let one_3641 : Int := (v_cell % (2147483629 : Int)); let number_3642 : Int := (0 : Int); (forR (τ := (Int × Int)) (fun s_3643 x_3644 => ((((((chk (CMulW ((15 : Int) * x_3644) x_3644) (((15 : Int) * x_3644) * x_3644)).bind fun x_3645 => R.ok (s_3643.1 + x_3645)).bind fun x_3646 => R.ok (x_3646 + ((31 : Int) * v_salt))).bind fun x_3647 => R.ok (x_3647 + (11 : Int))).bind fun x_3648 => R.ok (x_3648 * (48271 : Int))).bind fun x_3649 => R.ok (x_3649 % (2147483647 : Int))).bind fun one_3650 => ((chk (CMulW one_3650 one_3650) (one_3650 * one_3650)).bind fun x_3651 => R.ok (x_3651 % (2147483629 : Int))).bind fun one_3652 => let number_3653 : Int := ((s_3643.2 * (998244353 : Int)) + (((one_3652 * (69621 : Int)) % (2147483587 : Int)) / (7 : Int))); R.ok (one_3652, number_3653)) (rangeI 0 (24 : Int)) (one_3641, number_3642)).bind fun s_3654 => R.ok s_3654.2
def m_law_base (v_number : Int) : R ((Int × Int) × Int) :=
  let p_3669 : (Int × Int) := (v_number / (5 : Int), v_number % (5 : Int)); if (decide ((1 : Int) < p_3669.2)) = true then R.ok (((0 : Int), (0 : Int)), p_3669.1) else (((ofOpt (atI [(((2 : Int) * (1000000000000 : Int)) + (1 : Int)), (2 : Int)] p_3669.2)).bind fun x_3670 => R.ok (p_3669.1, x_3670)).bind fun x_3671 => chk (CDv x_3671.2) (x_3671.1 / x_3671.2, x_3671.1 % x_3671.2)).bind fun p_3672 => (((ofOpt (atI [(((2 : Int) * (1000000000000 : Int)) + (1 : Int)), (2 : Int)] p_3669.2)).bind fun x_3673 => R.ok (p_3672.1, x_3673)).bind fun x_3674 => chk (CDv x_3674.2) (x_3674.1 / x_3674.2, x_3674.1 % x_3674.2)).bind fun p_3675 => (ofOpt (atI [(1 : Int), ((2 : Int) * (1000000000000 : Int))] p_3669.2)).bind fun by_3676 => (((chk (CMulW p_3672.2 by_3676) (p_3672.2 * by_3676)).bind fun x_3677 => R.ok (x_3677 - (1000000000000 : Int))).bind fun x_3679 => ((chk (CMulW p_3675.2 by_3676) (p_3675.2 * by_3676)).bind fun x_3678 => R.ok (x_3678 - (1000000000000 : Int))).bind fun x_3680 => R.ok (x_3679, x_3680)).bind fun x_3681 => R.ok (x_3681, p_3675.1)
def m_law_kept (v_row : Int) (v_column : Int) : R (Int × Int) :=
  R.ok ((if (if v_row < (1000000000000 : Int) then v_row else (1000000000000 : Int)) > (-(1000000000000 : Int)) then (if v_row < (1000000000000 : Int) then v_row else (1000000000000 : Int)) else (-(1000000000000 : Int))), (if (if v_column < (1000000000000 : Int) then v_column else (1000000000000 : Int)) > (-(1000000000000 : Int)) then (if v_column < (1000000000000 : Int) then v_column else (1000000000000 : Int)) else (-(1000000000000 : Int))))
def m_law_board (v_number : Int) : R ((List (Int × Int)) × Int) :=
  let p_3734 : (Int × Int) := (v_number / (5 : Int), v_number % (5 : Int)); (m_law_base p_3734.1).bind fun p_3735 => let p_3736 : (Int × Int) := (p_3735.2 / (6 : Int), p_3735.2 % (6 : Int)); ((if (decide (p_3734.2 = (0 : Int))) = true then (chk (-(2 ^ 62) ≤ (p_3736.2 + (1 : Int)) ∧ (p_3736.2 + (1 : Int)) < 2 ^ 62) (rangeI 0 (p_3736.2 + (1 : Int)))).bind fun x_3744 => (forR (τ := (Int × (List ((Int × Int) × Bool)))) (fun s_3737 x_3738 => let p_3739 : (Int × Int) := (s_3737.1 / (25 : Int), s_3737.1 % (25 : Int)); let v_3740 : Bool := true; (m_law_kept (p_3735.1.1 + (p_3739.2 / (5 : Int))) (p_3735.1.2 + (p_3739.2 % (5 : Int)))).bind fun k_3741 => (chk (s_3737.2.length < sizeLine) ()).bind fun _ => let cells_3742 : List ((Int × Int) × Bool) := (dPut s_3737.2 k_3741 v_3740); R.ok (p_3739.1, cells_3742)) x_3744 (p_3736.1, ([] : List ((Int × Int) × Bool)))).bind fun s_3743 => R.ok (s_3743.1, s_3743.2) else R.ok (p_3736.1, ([] : List ((Int × Int) × Bool)))) : R (Int × (List ((Int × Int) × Bool)))).bind fun s_3745 => ((if (decide (p_3734.2 = (1 : Int))) = true then (chk (-(2 ^ 62) ≤ ((1 : Int) + (p_3736.2 % (3 : Int))) ∧ ((1 : Int) + (p_3736.2 % (3 : Int))) < 2 ^ 62) (rangeI 0 ((1 : Int) + (p_3736.2 % (3 : Int))))).bind fun x_3763 => (forR (τ := (Int × (List ((Int × Int) × Bool)))) (fun s_3746 x_3747 => let p_3748 : (Int × Int) := (s_3746.1 / (4 : Int), s_3746.1 % (4 : Int)); let p_3749 : (Int × Int) := (p_3748.1 / (5 : Int), p_3748.1 % (5 : Int)); let p_3750 : (Int × Int) := (p_3749.1 / (5 : Int), p_3749.1 % (5 : Int)); (chk (-(2 ^ 62) ≤ ((1 : Int) + p_3749.2) ∧ ((1 : Int) + p_3749.2) < 2 ^ 62) (rangeI 0 ((1 : Int) + p_3749.2))).bind fun x_3761 => (forR (τ := List ((Int × Int) × Bool)) (fun s_3751 x_3752 => (chk (-(2 ^ 62) ≤ ((1 : Int) + p_3750.2) ∧ ((1 : Int) + p_3750.2) < 2 ^ 62) (rangeI 0 ((1 : Int) + p_3750.2))).bind fun x_3759 => (forR (τ := List ((Int × Int) × Bool)) (fun s_3753 x_3754 => if ((hasB x_3752 [(0 : Int), p_3749.2]) || (hasB x_3754 [(0 : Int), p_3750.2])) = true then let v_3755 : Bool := true; (m_law_kept ((p_3735.1.1 + p_3748.2) + x_3752) (((p_3735.1.2 + ((3 : Int) * x_3747)) - p_3748.2) + x_3754)).bind fun k_3756 => (chk (s_3753.length < sizeLine) ()).bind fun _ => let cells_3757 : List ((Int × Int) × Bool) := (dPut s_3753 k_3756 v_3755); R.ok cells_3757 else R.ok s_3753) x_3759 s_3751).bind fun s_3758 => R.ok s_3758) x_3761 s_3746.2).bind fun s_3760 => R.ok (p_3750.1, s_3760)) x_3763 (s_3745.1, s_3745.2)).bind fun s_3762 => R.ok (s_3762.1, s_3762.2) else R.ok (s_3745.1, s_3745.2)) : R (Int × (List ((Int × Int) × Bool)))).bind fun s_3764 => ((if (decide ((1 : Int) < p_3734.2)) = true then (chk (-(2 ^ 62) ≤ (p_3736.2 + (1 : Int)) ∧ (p_3736.2 + (1 : Int)) < 2 ^ 62) (rangeI 0 (p_3736.2 + (1 : Int)))).bind fun x_3778 => (forR (τ := (Int × (List ((Int × Int) × Bool)))) (fun s_3765 x_3766 => let p_3767 : (Int × Int) := (s_3765.1 / (64 : Int), s_3765.1 % (64 : Int)); (forR (τ := List ((Int × Int) × Bool)) (fun s_3768 x_3769 => (((chk (0 ≤ x_3769) (p_3767.2 / 2 ^ (x_3769).toNat)).bind fun x_3770 => R.ok (Builtin.bitAnd x_3770 (1 : Int))).bind fun x_3771 => R.ok (decide (x_3771 = (1 : Int)))).bind fun x_3775 => if x_3775 = true then let v_3772 : Bool := true; (m_law_kept (p_3735.1.1 + x_3766) (p_3735.1.2 + x_3769)).bind fun k_3773 => (chk (s_3768.length < sizeLine) ()).bind fun _ => let cells_3774 : List ((Int × Int) × Bool) := (dPut s_3768 k_3773 v_3772); R.ok cells_3774 else R.ok s_3768) (rangeI 0 (6 : Int)) s_3765.2).bind fun s_3776 => R.ok (p_3767.1, s_3776)) x_3778 (s_3764.1, s_3764.2)).bind fun s_3777 => R.ok (s_3777.1, s_3777.2) else R.ok (s_3764.1, s_3764.2)) : R (Int × (List ((Int × Int) × Bool)))).bind fun s_3779 => let p_3780 : (Int × Int) := (s_3779.1 / (3 : Int), s_3779.1 % (3 : Int)); (chk (-(2 ^ 62) ≤ (if ((s_3779.2).length : Int) < p_3780.2 then ((s_3779.2).length : Int) else p_3780.2) ∧ (if ((s_3779.2).length : Int) < p_3780.2 then ((s_3779.2).length : Int) else p_3780.2) < 2 ^ 62) (rangeI 0 (if ((s_3779.2).length : Int) < p_3780.2 then ((s_3779.2).length : Int) else p_3780.2))).bind fun x_3786 => (forR (τ := (Int × (List ((Int × Int) × Bool)))) (fun s_3781 x_3782 => (chk (CDv ((s_3781.2).length : Int)) (s_3781.1 / ((s_3781.2).length : Int), s_3781.1 % ((s_3781.2).length : Int))).bind fun p_3783 => (ofOpt (atI (sortC (s_3781.2.map Prod.fst)) p_3783.2)).bind fun k_3784 => (chk ((dGet s_3781.2 k_3784).isSome = true) ()).bind fun _ => R.ok (p_3783.1, (dDrop s_3781.2 k_3784))) x_3786 (p_3780.1, s_3779.2)).bind fun s_3785 => R.ok ((sortC (s_3785.2.map Prod.fst)), s_3785.1)
def m_law_far (v_cells : List (Int × Int)) (v_number : Int) : R (List (Int × Int)) :=
  let p_3800 : (Int × Int) := (v_number / (4 : Int), v_number % (4 : Int)); let p_3801 : (Int × Int) := (p_3800.1 / (4 : Int), p_3800.1 % (4 : Int)); let p_3802 : (Int × Int) := (p_3801.1 / (2 : Int), p_3801.1 % (2 : Int)); ((ofOpt (atI [(39 : Int), (40 : Int), (41 : Int), (100000000000 : Int)] p_3801.2)).bind fun x_3803 => chk (CMulW x_3803 ((1 : Int) - ((2 : Int) * p_3802.2))) (x_3803 * ((1 : Int) - ((2 : Int) * p_3802.2)))).bind fun by_3804 => (((ofOpt (atI [(by_3804, (3 : Int)), ((3 : Int), by_3804), ((3 : Int), by_3804), ((1 : Int), by_3804)] p_3800.2)).bind fun x_3805 => R.ok (x_3805 :: [])).bind fun x_3806 => R.ok (((0 : Int), (0 : Int)) :: x_3806)).bind fun some_3807 => ((if (decide ((1 : Int) < p_3800.2)) = true then (ofOpt (atI [((5 : Int), (2 : Int)), ((2 : Int), (by_3804 / (2 : Int)))] (p_3800.2 - (2 : Int)))).bind fun y_3808 => (chk (some_3807.length < sizeLine) ()).bind fun _ => R.ok (some_3807 ++ [y_3808]) else R.ok some_3807) : R (List (Int × Int))).bind fun s_3809 => R.ok (sortC s_3809)
def m_law_ring (v_number : Int) : R (List (Int × Int)) :=
  let p_3824 : (Int × Int) := (v_number / (3 : Int), v_number % (3 : Int)); let p_3825 : (Int × Int) := (p_3824.1 / (3 : Int), p_3824.1 % (3 : Int)); let cells_3826 : List (Int × Int) := ([] : List (Int × Int)); (chk (-(2 ^ 62) ≤ ((38 : Int) + p_3824.2) ∧ ((38 : Int) + p_3824.2) < 2 ^ 62) (rangeI 0 ((38 : Int) + p_3824.2))).bind fun x_3835 => (forR (τ := List (Int × Int)) (fun s_3827 x_3828 => (chk (-(2 ^ 62) ≤ ((38 : Int) + p_3825.2) ∧ ((38 : Int) + p_3825.2) < 2 ^ 62) (rangeI 0 ((38 : Int) + p_3825.2))).bind fun x_3833 => (forR (τ := List (Int × Int)) (fun s_3829 x_3830 => if ((hasB x_3828 [(0 : Int), ((37 : Int) + p_3824.2)]) || (hasB x_3830 [(0 : Int), ((37 : Int) + p_3825.2)])) = true then let y_3831 : (Int × Int) := ((x_3828 - (20 : Int)), (x_3830 + (7 : Int))); (chk (s_3829.length < sizeLine) ()).bind fun _ => R.ok (s_3829 ++ [y_3831]) else R.ok s_3829) x_3833 s_3827).bind fun s_3832 => R.ok s_3832) x_3835 cells_3826).bind fun s_3834 => R.ok s_3834
def m_law_spans (v_cells : List (Int × Int)) : R Int :=
  if (decide (v_cells = ([] : List (Int × Int)))) = true then R.ok (0 : Int) else ((mapR (fun y_3850 => R.ok y_3850.1) v_cells).bind fun ys => chk (ys.length ≤ sizeLine) ys).bind fun rows_3851 => ((mapR (fun y_3852 => R.ok y_3852.2) v_cells).bind fun ys => chk (ys.length ≤ sizeLine) ys).bind fun columns_3853 => (((ofOpt (maxI rows_3851)).bind fun x_3854 => (ofOpt (minI rows_3851)).bind fun x_3855 => R.ok (x_3854 - x_3855)).bind fun x_3858 => ((ofOpt (maxI columns_3853)).bind fun x_3856 => (ofOpt (minI columns_3853)).bind fun x_3857 => R.ok (x_3856 - x_3857)).bind fun x_3859 => R.ok (x_3858, x_3859)).bind fun x_3860 => R.ok (if x_3860.2 > x_3860.1 then x_3860.2 else x_3860.1)
def m_look_finite (v_shape : ((List (Int × Int)) × Bool)) : R Unit :=
  if v_shape.2 = true then R.er ⟨"Endless", none⟩ else R.ok ()
def m_look_narrow (v_shape : ((List (Int × Int)) × Bool)) : R Unit :=
  (((mapR (fun y_3899 => R.ok y_3899.1) v_shape.1).bind fun ys => chk (ys.length ≤ sizeLine) ys).bind fun x_3902 => (((mapR (fun y_3900 => R.ok y_3900.2) v_shape.1).bind fun ys => chk (ys.length ≤ sizeLine) ys).bind fun x_3901 => R.ok (x_3901 :: [])).bind fun x_3903 => R.ok (x_3902 :: x_3903)).bind fun x_3911 => (forR (τ := Unit) (fun s_3904 x_3905 => (((ofOpt (maxI x_3905)).bind fun x_3906 => (ofOpt (minI x_3905)).bind fun x_3907 => R.ok (x_3906 - x_3907)).bind fun x_3908 => R.ok (decide ((40 : Int) ≤ x_3908))).bind fun x_3909 => if x_3909 = true then R.er ⟨"TooWide", none⟩ else R.ok ()) x_3911 ()).bind fun s_3910 => R.ok ()
def m_noted (v_cells : List (Int × Int)) : R (List ((Int × Int) × Bool)) :=
  (forR (τ := List ((Int × Int) × Bool)) (fun s_3922 x_3923 => let v_3924 : Bool := true; let k_3925 : (Int × Int) := x_3923; (chk (s_3922.length < sizeLine) ()).bind fun _ => let some_3926 : List ((Int × Int) × Bool) := (dPut s_3922 k_3925 v_3924); R.ok some_3926) v_cells ([] : List ((Int × Int) × Bool))).bind fun s_3927 => R.ok s_3927
def m_noted_2 (v_cells : List (Int × Int)) : R (List ((Int × Int) × Bool)) :=
  (forR (τ := List ((Int × Int) × Bool)) (fun s_3954 x_3955 => let v_3956 : Bool := true; let k_3957 : (Int × Int) := x_3955; (chk (s_3954.length < sizeLine) ()).bind fun _ => let some_3958 : List ((Int × Int) × Bool) := (dPut s_3954 k_3957 v_3956); R.ok some_3958) v_cells ([] : List ((Int × Int) × Bool))).bind fun s_3959 => R.ok s_3959
def m_flooded (v_some : (List ((Int × Int) × Bool))) (v_start : (Int × Int)) (v_steps : List (Int × Int)) : R ((List (Int × Int)) × (List ((Int × Int) × Bool))) :=
  let found_3982 : List (Int × Int) := [v_start]; let k_3983 : (Int × Int) := v_start; (chk ((dGet v_some k_3983).isSome = true) ()).bind fun _ => let at_3984 : Int := (0 : Int); (whileR (τ := ((List ((Int × Int) × Bool)) × (List (Int × Int)) × Int)) (fun s_3985 => R.ok (decide (s_3985.2.2 < ((s_3985.2.1).length : Int)))) (fun s_3985 => (forR (τ := ((List ((Int × Int) × Bool)) × (List (Int × Int)))) (fun s_3986 x_3987 => ((((ofOpt (atI s_3986.2 s_3985.2.2)).bind fun x_3988 => R.ok x_3988.1).bind fun x_3989 => R.ok (x_3989 + x_3987.1)).bind fun x_3992 => (((ofOpt (atI s_3986.2 s_3985.2.2)).bind fun x_3990 => R.ok x_3990.2).bind fun x_3991 => R.ok (x_3991 + x_3987.2)).bind fun x_3993 => R.ok (x_3992, x_3993)).bind fun near_3994 => if ((dGet s_3986.1 near_3994).isSome) = true then let k_3995 : (Int × Int) := near_3994; (chk ((dGet s_3986.1 k_3995).isSome = true) ()).bind fun _ => let y_3996 : (Int × Int) := near_3994; (chk (s_3986.2.length < sizeLine) ()).bind fun _ => R.ok ((dDrop s_3986.1 k_3995), (s_3986.2 ++ [y_3996])) else R.ok (s_3986.1, s_3986.2)) v_steps (s_3985.1, s_3985.2.1)).bind fun s_3997 => let at_3998 : Int := (s_3985.2.2 + (1 : Int)); R.ok (s_3997.1, s_3997.2, at_3998)) 5000 ((dDrop v_some k_3983), found_3982, at_3984)).bind fun s_3999 => R.ok (s_3999.2.1, s_3999.1)
def m_regions (v_cells : List (Int × Int)) (v_steps : List (Int × Int)) : R (List (List (Int × Int))) :=
  (m_noted_2 v_cells).bind fun some_4004 => let found_4005 : List (List (Int × Int)) := ([] : List (List (Int × Int))); (forR (τ := ((List ((Int × Int) × Bool)) × (List (List (Int × Int))))) (fun s_4006 x_4007 => if ((dGet s_4006.1 x_4007).isSome) = true then ((m_flooded s_4006.1 x_4007 v_steps).calm.bind fun z_4009 => R.ok ((sortC z_4009.1), z_4009.2)).bind fun w_4008 => (chk (s_4006.2.length < sizeLine) ()).bind fun _ => R.ok (w_4008.2, (s_4006.2 ++ [w_4008.1])) else R.ok (s_4006.1, s_4006.2)) v_cells (some_4004, found_4005)).bind fun s_4011 => R.ok s_4011.2
def m_holes (v_shape : ((List (Int × Int)) × Bool)) : R (List (List (Int × Int))) :=
  (m_look_finite v_shape).bind fun _ => if (decide (v_shape.1 = ([] : List (Int × Int)))) = true then R.ok ([] : List (List (Int × Int))) else (m_look_narrow v_shape).bind fun _ => ((mapR (fun y_4014 => R.ok y_4014.1) v_shape.1).bind fun ys => chk (ys.length ≤ sizeLine) ys).bind fun rows_4015 => ((mapR (fun y_4016 => R.ok y_4016.2) v_shape.1).bind fun ys => chk (ys.length ≤ sizeLine) ys).bind fun columns_4017 => (m_noted v_shape.1).bind fun some_4018 => let lacking_4019 : List (Int × Int) := ([] : List (Int × Int)); ((((ofOpt (minI rows_4015)).bind fun x_4020 => R.ok (x_4020 - (1 : Int))).bind fun x_4022 => ((ofOpt (maxI rows_4015)).bind fun x_4021 => R.ok (x_4021 + (2 : Int))).bind fun x_4023 => R.ok (x_4022, x_4023)).bind fun x_4024 => chk (-(2 ^ 62) ≤ x_4024.1 ∧ x_4024.1 < 2 ^ 62 ∧ -(2 ^ 62) ≤ x_4024.2 ∧ x_4024.2 < 2 ^ 62) (rangeI x_4024.1 x_4024.2)).bind fun x_4039 => (forR (τ := List (Int × Int)) (fun s_4025 x_4026 => ((((ofOpt (minI columns_4017)).bind fun x_4027 => R.ok (x_4027 - (1 : Int))).bind fun x_4029 => ((ofOpt (maxI columns_4017)).bind fun x_4028 => R.ok (x_4028 + (2 : Int))).bind fun x_4030 => R.ok (x_4029, x_4030)).bind fun x_4031 => chk (-(2 ^ 62) ≤ x_4031.1 ∧ x_4031.1 < 2 ^ 62 ∧ -(2 ^ 62) ≤ x_4031.2 ∧ x_4031.2 < 2 ^ 62) (rangeI x_4031.1 x_4031.2)).bind fun x_4036 => (forR (τ := List (Int × Int)) (fun s_4032 x_4033 => if (!(dGet some_4018 (x_4026, x_4033)).isSome) = true then let y_4034 : (Int × Int) := (x_4026, x_4033); (chk (s_4032.length < sizeLine) ()).bind fun _ => R.ok (s_4032 ++ [y_4034]) else R.ok s_4032) x_4036 s_4025).bind fun s_4035 => R.ok s_4035) x_4039 lacking_4019).bind fun s_4037 => (m_regions s_4037 [((-1 : Int), (0 : Int)), ((0 : Int), (-1 : Int)), ((0 : Int), (1 : Int)), ((1 : Int), (0 : Int))]).bind fun x_4038 => R.ok (cutL x_4038 (some (1 : Int)) none)
def m_law_refused (v_shape : ((List (Int × Int)) × Bool)) : R Bool :=
  let kind_4046 : Option Str := (none : Option Str); (catchR (fun s => if s = ("Endless" : Str) then some true else if s = ("TooWide" : Str) then some true else none) (fun r_4057 => R.ok (some r_4057.cls)) (((m_holes v_shape).bind fun _ => R.ok kind_4046) : R (Option Str))).bind fun s_4062 => ((ofOpt s_4062).bind fun cl_4063 => ofOpt ((fun s => if s = ("Endless" : Str) then some true else if s = ("TooWide" : Str) then some false else none) cl_4063)).bind fun x_4067 => if x_4067 = true then R.ok false else ((ofOpt s_4062).bind fun cl_4064 => ofOpt ((fun s => if s = ("Endless" : Str) then some false else if s = ("TooWide" : Str) then some true else none) cl_4064)).bind fun x_4066 => if x_4066 = true then (ofOpt s_4062).bind fun cl_4065 => ofOpt ((fun s => if s = ("Endless" : Str) then some true else if s = ("TooWide" : Str) then some true else none) cl_4065) else R.ok false
def m_law_lacking (v_cells : List (Int × Int)) : R (List (Int × Int)) :=
  (forR (τ := List ((Int × Int) × Bool)) (fun s_4101 x_4102 => let v_4103 : Bool := true; let k_4104 : (Int × Int) := x_4102; (chk (s_4101.length < sizeLine) ()).bind fun _ => let held_4105 : List ((Int × Int) × Bool) := (dPut s_4101 k_4104 v_4103); R.ok held_4105) v_cells ([] : List ((Int × Int) × Bool))).bind fun s_4106 => ((mapR (fun y_4107 => R.ok y_4107.1) v_cells).bind fun ys => chk (ys.length ≤ sizeLine) ys).bind fun rows_4108 => ((mapR (fun y_4109 => R.ok y_4109.2) v_cells).bind fun ys => chk (ys.length ≤ sizeLine) ys).bind fun columns_4110 => let some_4111 : List (Int × Int) := ([] : List (Int × Int)); ((((ofOpt (minI rows_4108)).bind fun x_4112 => R.ok (x_4112 - (1 : Int))).bind fun x_4114 => ((ofOpt (maxI rows_4108)).bind fun x_4113 => R.ok (x_4113 + (2 : Int))).bind fun x_4115 => R.ok (x_4114, x_4115)).bind fun x_4116 => chk (-(2 ^ 62) ≤ x_4116.1 ∧ x_4116.1 < 2 ^ 62 ∧ -(2 ^ 62) ≤ x_4116.2 ∧ x_4116.2 < 2 ^ 62) (rangeI x_4116.1 x_4116.2)).bind fun x_4130 => (forR (τ := List (Int × Int)) (fun s_4117 x_4118 => ((((ofOpt (minI columns_4110)).bind fun x_4119 => R.ok (x_4119 - (1 : Int))).bind fun x_4121 => ((ofOpt (maxI columns_4110)).bind fun x_4120 => R.ok (x_4120 + (2 : Int))).bind fun x_4122 => R.ok (x_4121, x_4122)).bind fun x_4123 => chk (-(2 ^ 62) ≤ x_4123.1 ∧ x_4123.1 < 2 ^ 62 ∧ -(2 ^ 62) ≤ x_4123.2 ∧ x_4123.2 < 2 ^ 62) (rangeI x_4123.1 x_4123.2)).bind fun x_4128 => (forR (τ := List (Int × Int)) (fun s_4124 x_4125 => if (!(dGet s_4106 (x_4118, x_4125)).isSome) = true then let y_4126 : (Int × Int) := (x_4118, x_4125); (chk (s_4124.length < sizeLine) ()).bind fun _ => R.ok (s_4124 ++ [y_4126]) else R.ok s_4124) x_4128 s_4117).bind fun s_4127 => R.ok s_4127) x_4130 some_4111).bind fun s_4129 => R.ok s_4129
def m_law_fallen (v_cells : List (Int × Int)) (v_sides : Bool) : R (List (List (Int × Int))) :=
  (forR (τ := List ((Int × Int) × Bool)) (fun s_4166 x_4167 => let v_4168 : Bool := true; let k_4169 : (Int × Int) := x_4167; (chk (s_4166.length < sizeLine) ()).bind fun _ => let left_4170 : List ((Int × Int) × Bool) := (dPut s_4166 k_4169 v_4168); R.ok left_4170) v_cells ([] : List ((Int × Int) × Bool))).bind fun s_4171 => let found_4172 : List (List (Int × Int)) := ([] : List (List (Int × Int))); (forR (τ := ((List ((Int × Int) × Bool)) × (List (List (Int × Int))))) (fun s_4173 x_4174 => if ((dGet s_4173.1 x_4174).isSome) = true then let part_4175 : List (Int × Int) := [x_4174]; let k_4176 : (Int × Int) := x_4174; (chk ((dGet s_4173.1 k_4176).isSome = true) ()).bind fun _ => let at_4177 : Int := (0 : Int); (whileR (τ := ((List ((Int × Int) × Bool)) × (List (Int × Int)) × Int)) (fun s_4178 => R.ok (decide (s_4178.2.2 < ((s_4178.2.1).length : Int)))) (fun s_4178 => (forR (τ := ((List ((Int × Int) × Bool)) × (List (Int × Int)))) (fun s_4179 x_4180 => (forR (τ := ((List ((Int × Int) × Bool)) × (List (Int × Int)))) (fun s_4181 x_4182 => ((((ofOpt (atI s_4181.2 s_4178.2.2)).bind fun x_4183 => R.ok x_4183.1).bind fun x_4184 => R.ok (x_4184 + x_4180)).bind fun x_4187 => (((ofOpt (atI s_4181.2 s_4178.2.2)).bind fun x_4185 => R.ok x_4185.2).bind fun x_4186 => R.ok (x_4186 + x_4182)).bind fun x_4188 => R.ok (x_4187, x_4188)).bind fun near_4189 => (if ((dGet s_4181.1 near_4189).isSome) = true then (if v_sides = true then (chk (CMulW x_4180 x_4182) (x_4180 * x_4182)).bind fun x_4190 => R.ok (!decide (x_4190 = (0 : Int))) else R.ok false).bind fun x_4191 => R.ok (!x_4191) else R.ok false).bind fun x_4194 => if x_4194 = true then let k_4192 : (Int × Int) := near_4189; (chk ((dGet s_4181.1 k_4192).isSome = true) ()).bind fun _ => let y_4193 : (Int × Int) := near_4189; (chk (s_4181.2.length < sizeLine) ()).bind fun _ => R.ok ((dDrop s_4181.1 k_4192), (s_4181.2 ++ [y_4193])) else R.ok (s_4181.1, s_4181.2)) [(-(1 : Int)), (0 : Int), (1 : Int)] (s_4179.1, s_4179.2)).bind fun s_4195 => R.ok (s_4195.1, s_4195.2)) [(-(1 : Int)), (0 : Int), (1 : Int)] (s_4178.1, s_4178.2.1)).bind fun s_4196 => let at_4197 : Int := (s_4178.2.2 + (1 : Int)); R.ok (s_4196.1, s_4196.2, at_4197)) 5000 ((dDrop s_4173.1 k_4176), part_4175, at_4177)).bind fun s_4198 => let y_4199 : List (Int × Int) := (sortC s_4198.2.1); (chk (s_4173.2.length < sizeLine) ()).bind fun _ => R.ok (s_4198.1, (s_4173.2 ++ [y_4199])) else R.ok (s_4173.1, s_4173.2)) (sortC v_cells) (s_4171, found_4172)).bind fun s_4200 => R.ok s_4200.2
def m_holes_2 (v_shape : ((List (Int × Int)) × Bool)) : R (List (List (Int × Int))) :=
  (m_look_finite v_shape).bind fun _ => if (decide (v_shape.1 = ([] : List (Int × Int)))) = true then R.ok ([] : List (List (Int × Int))) else (m_look_narrow v_shape).bind fun _ => ((mapR (fun y_4232 => R.ok y_4232.1) v_shape.1).bind fun ys => chk (ys.length ≤ sizeLine) ys).bind fun rows_4233 => ((mapR (fun y_4234 => R.ok y_4234.2) v_shape.1).bind fun ys => chk (ys.length ≤ sizeLine) ys).bind fun columns_4235 => (m_noted v_shape.1).bind fun some_4236 => let lacking_4237 : List (Int × Int) := ([] : List (Int × Int)); ((((ofOpt (minI rows_4233)).bind fun x_4238 => R.ok (x_4238 - (1 : Int))).bind fun x_4240 => ((ofOpt (maxI rows_4233)).bind fun x_4239 => R.ok (x_4239 + (2 : Int))).bind fun x_4241 => R.ok (x_4240, x_4241)).bind fun x_4242 => chk (-(2 ^ 62) ≤ x_4242.1 ∧ x_4242.1 < 2 ^ 62 ∧ -(2 ^ 62) ≤ x_4242.2 ∧ x_4242.2 < 2 ^ 62) (rangeI x_4242.1 x_4242.2)).bind fun x_4258 => (forR (τ := List (Int × Int)) (fun s_4243 x_4244 => ((((ofOpt (minI columns_4235)).bind fun x_4245 => R.ok (x_4245 - (1 : Int))).bind fun x_4247 => ((ofOpt (maxI columns_4235)).bind fun x_4246 => R.ok (x_4246 + (2 : Int))).bind fun x_4248 => R.ok (x_4247, x_4248)).bind fun x_4249 => chk (-(2 ^ 62) ≤ x_4249.1 ∧ x_4249.1 < 2 ^ 62 ∧ -(2 ^ 62) ≤ x_4249.2 ∧ x_4249.2 < 2 ^ 62) (rangeI x_4249.1 x_4249.2)).bind fun x_4254 => (forR (τ := List (Int × Int)) (fun s_4250 x_4251 => if (!(dGet some_4236 (x_4244, x_4251)).isSome) = true then let y_4252 : (Int × Int) := (x_4244, x_4251); (chk (s_4250.length < sizeLine) ()).bind fun _ => R.ok (s_4250 ++ [y_4252]) else R.ok s_4250) x_4254 s_4243).bind fun s_4253 => R.ok s_4253) x_4258 lacking_4237).bind fun s_4255 => ((m_regions s_4255 [((-1 : Int), (0 : Int)), ((0 : Int), (-1 : Int)), ((0 : Int), (1 : Int)), ((1 : Int), (0 : Int))]).bind fun x_4256 => R.ok (cutL x_4256 (some (1 : Int)) none)).bind fun x_4257 => R.ok x_4257
def m_law_same : Nat → Dy → Dy → R Bool
  | 0, _, _ => R.bad
  | fu + 1, v_found, v_due => if ((v_due).isN) = true then R.ok ((v_found).isN) else if (Dy.isBl v_due) = true then if (Dy.isBl v_found) = true then chk (Dy.shp v_found = true ∧ Dy.shp v_due = true) (Dy.eqv v_found v_due) else R.ok false else if (Dy.isInt v_due) = true then if (Dy.isInt v_found) = true then if (!(Dy.isBl v_found)) = true then chk (Dy.shp v_found = true ∧ Dy.shp v_due = true) (Dy.eqv v_found v_due) else R.ok false else R.ok false else if (Dy.isStr v_due) = true then if (Dy.isStr v_found) = true then chk (Dy.shp v_found = true ∧ Dy.shp v_due = true) (Dy.eqv v_found v_due) else R.ok false else if (((Dy.isTup v_due) && (!(Dy.isTup v_found))) || ((Dy.isLst v_due) && (!(Dy.isLst v_found)))) = true then R.ok false else ((ofOpt (Dy.len v_found)).bind fun x_4266 => (ofOpt (Dy.len v_due)).bind fun x_4267 => R.ok (decide (x_4266 = x_4267))).bind fun x_4271 => if x_4271 = true then ((ofOpt (Dy.zip v_found v_due)).bind fun x_4269 => (mapR (fun y_4268 => m_law_same fu y_4268.1 y_4268.2) x_4269).bind fun ys => chk (ys.length ≤ sizeLine) ys).bind fun x_4270 => R.ok ((x_4270).all id) else R.ok false
def m_law (v_script : List Int) : R Bool :=
  (((m_law_cell v_script (0 : Int)).bind fun x_4283 => R.ok (x_4283 :: [])).bind fun x_4284 => chk ((x_4284).length + (cutL v_script (some (1 : Int)) (some (9 : Int))).length ≤ sizeLine) (x_4284 ++ cutL v_script (some (1 : Int)) (some (9 : Int)))).bind fun x_4315 => (forS (τ := Unit) (γ := Bool) (fun s_4285 x_4286 => ((m_law_deal x_4286 (1 : Int)).bind fun x_4287 => m_law_board x_4287).bind fun p_4288 => let p_4289 : (Int × Int) := (p_4288.2 / (6 : Int), p_4288.2 % (6 : Int)); ((if (decide (p_4289.2 = (1 : Int))) = true then (m_law_far p_4288.1 p_4289.1).bind fun cells_4290 => R.ok cells_4290 else R.ok p_4288.1) : R (List (Int × Int))).bind fun s_4291 => ((if (decide ((p_4289.1 % (12 : Int)) = (7 : Int))) = true then (m_law_ring (p_4289.1 / (12 : Int))).bind fun cells_4292 => R.ok cells_4292 else R.ok s_4291) : R (List (Int × Int))).bind fun s_4293 => let shape_4294 : ((List (Int × Int)) × Bool) := (s_4293, false); ((m_law_spans s_4293).bind fun x_4295 => R.ok (decide ((40 : Int) ≤ x_4295))).bind fun x_4313 => if x_4313 = true then ((m_law_refused shape_4294).bind fun x_4296 => R.ok (!x_4296)).bind fun x_4297 => if x_4297 = true then R.ok (Stp.rt false) else R.ok (Stp.nx ()) else let due_4298 : List (List (Int × Int)) := ([] : List (List (Int × Int))); ((if (!decide (s_4293 = ([] : List (Int × Int)))) = true then ((((m_law_lacking s_4293).bind fun x_4299 => R.ok (x_4299, true)).bind fun x_4300 => m_law_fallen x_4300.1 x_4300.2).bind fun x_4301 => R.ok (cutL x_4301 (some (1 : Int)) none)).bind fun due_4302 => R.ok due_4302 else R.ok due_4298) : R (List (List (Int × Int)))).bind fun s_4303 => (m_holes_2 shape_4294).bind fun told_4304 => ((m_law_same 8 ((fun xs => Dy.lst (List.map (fun xs => Dy.tup (List.map (fun x => Dy.tup [Dy.int x.1, Dy.int x.2]) xs)) xs)) told_4304) ((fun xs => Dy.lst (List.map (fun xs => Dy.tup (List.map (fun x => Dy.tup [Dy.int x.1, Dy.int x.2]) xs)) xs)) s_4303)).bind fun x_4305 => R.ok (!x_4305)).bind fun x_4312 => if x_4312 = true then R.ok (Stp.rt false) else let y_4306 : List (Int × Int) := ([] : List (Int × Int)); (chk (told_4304.length < sizeLine) ()).bind fun _ => (((((m_holes shape_4294).bind fun x_4307 => R.ok ((fun xs => Dy.lst (List.map (fun xs => Dy.tup (List.map (fun x => Dy.tup [Dy.int x.1, Dy.int x.2]) xs)) xs)) x_4307)).bind fun x_4308 => R.ok (x_4308, ((fun xs => Dy.lst (List.map (fun xs => Dy.tup (List.map (fun x => Dy.tup [Dy.int x.1, Dy.int x.2]) xs)) xs)) s_4303))).bind fun x_4309 => m_law_same 8 x_4309.1 x_4309.2).bind fun x_4310 => R.ok (!x_4310)).bind fun x_4311 => if x_4311 = true then R.ok (Stp.rt false) else R.ok (Stp.nx ())) x_4315 ()).bind (outK (fun s_4314 => R.ok true) (fun a => a))
/-- what stands behind the top -/
structure Txt (K : PySem.W.Frag) (mg : Str → Option Value) (Ad : Adr) : Prop where
  gc_BadCell : mg "BadCell" = some (.ref Ad.c_BadCell)
  gc_BadDeed : mg "BadDeed" = some (.ref Ad.c_BadDeed)
  gc_BadPiece : mg "BadPiece" = some (.ref Ad.c_BadPiece)
  gc_BadTurn : mg "BadTurn" = some (.ref Ad.c_BadTurn)
  gc_Endless : mg "Endless" = some (.ref Ad.c_Endless)
  gc_MossError : mg "MossError" = some (.ref Ad.c_MossError)
  gc_NoCell : mg "NoCell" = some (.ref Ad.c_NoCell)
  gc_NoMarks : mg "NoMarks" = some (.ref Ad.c_NoMarks)
  gc_NoText : mg "NoText" = some (.ref Ad.c_NoText)
  gc_TooMany : mg "TooMany" = some (.ref Ad.c_TooMany)
  gc_TooWide : mg "TooWide" = some (.ref Ad.c_TooWide)
  x_Endless : ExX K mg "Endless" Ad.c_Endless
  x_TooWide : ExX K mg "TooWide" Ad.c_TooWide
  e_Endless_MossError : PySem.W.exmOne K (.ref Ad.c_Endless) (.ref Ad.c_MossError) = some true
  e_TooWide_MossError : PySem.W.exmOne K (.ref Ad.c_TooWide) (.ref Ad.c_MossError) = some true
  i_Endless_TooWide : PySem.W.kitOne K (.ref Ad.c_Endless) (.ref Ad.c_TooWide) = some false
  i_Endless_ValueError : PySem.W.kitOne K (.ref Ad.c_Endless) (.type "ValueError") = some true
  i_TooWide_TooWide : PySem.W.kitOne K (.ref Ad.c_TooWide) (.ref Ad.c_TooWide) = some true
  i_TooWide_ValueError : PySem.W.kitOne K (.ref Ad.c_TooWide) (.type "ValueError") = some true
  t_Endless_BadCell_BadDeed_BadPiece_BadTurn_Endless_NoCell_NoMarks_NoText_TooMany : PySem.W.kitAny K (.ref Ad.c_Endless) [.ref Ad.c_BadCell, .ref Ad.c_BadDeed, .ref Ad.c_BadPiece, .ref Ad.c_BadTurn, .ref Ad.c_Endless, .ref Ad.c_NoCell, .ref Ad.c_NoMarks, .ref Ad.c_NoText, .ref Ad.c_TooMany] = some true
  t_TooWide_BadCell_BadDeed_BadPiece_BadTurn_Endless_NoCell_NoMarks_NoText_TooMany : PySem.W.kitAny K (.ref Ad.c_TooWide) [.ref Ad.c_BadCell, .ref Ad.c_BadDeed, .ref Ad.c_BadPiece, .ref Ad.c_BadTurn, .ref Ad.c_Endless, .ref Ad.c_NoCell, .ref Ad.c_NoMarks, .ref Ad.c_NoText, .ref Ad.c_TooMany] = some false
  F__law_cell : FunZ K "_law_cell" "_law_cell" s_law_cell Ad.f_law_cell Ad.d_law_cell
  g__law_cell : mg "_law_cell" = some (.ref Ad.f_law_cell)
  k__law_cell : PySem.W.keepIn K (.ref Ad.f_law_cell) = true
  b__law_cell : Binds K Ad.d_law_cell ["script", "k"] []
  F__law_deal : FunZ K "_law_deal" "_law_deal" s_law_deal Ad.f_law_deal Ad.d_law_deal
  g__law_deal : mg "_law_deal" = some (.ref Ad.f_law_deal)
  k__law_deal : PySem.W.keepIn K (.ref Ad.f_law_deal) = true
  b__law_deal : Binds K Ad.d_law_deal ["cell", "salt"] []
  F__law_base : FunZ K "_law_base" "_law_base" s_law_base Ad.f_law_base Ad.d_law_base
  g__law_base : mg "_law_base" = some (.ref Ad.f_law_base)
  k__law_base : PySem.W.keepIn K (.ref Ad.f_law_base) = true
  b__law_base : Binds K Ad.d_law_base ["number"] []
  F__law_kept : FunZ K "_law_kept" "_law_kept" s_law_kept Ad.f_law_kept Ad.d_law_kept
  g__law_kept : mg "_law_kept" = some (.ref Ad.f_law_kept)
  k__law_kept : PySem.W.keepIn K (.ref Ad.f_law_kept) = true
  b__law_kept : Binds K Ad.d_law_kept ["row", "column"] []
  F__law_board : FunZ K "_law_board" "_law_board" s_law_board Ad.f_law_board Ad.d_law_board
  g__law_board : mg "_law_board" = some (.ref Ad.f_law_board)
  k__law_board : PySem.W.keepIn K (.ref Ad.f_law_board) = true
  b__law_board : Binds K Ad.d_law_board ["number"] []
  F__law_far : FunZ K "_law_far" "_law_far" s_law_far Ad.f_law_far Ad.d_law_far
  g__law_far : mg "_law_far" = some (.ref Ad.f_law_far)
  k__law_far : PySem.W.keepIn K (.ref Ad.f_law_far) = true
  b__law_far : Binds K Ad.d_law_far ["cells", "number"] []
  F__law_ring : FunZ K "_law_ring" "_law_ring" s_law_ring Ad.f_law_ring Ad.d_law_ring
  g__law_ring : mg "_law_ring" = some (.ref Ad.f_law_ring)
  k__law_ring : PySem.W.keepIn K (.ref Ad.f_law_ring) = true
  b__law_ring : Binds K Ad.d_law_ring ["number"] []
  F__law_spans : FunZ K "_law_spans" "_law_spans" s_law_spans Ad.f_law_spans Ad.d_law_spans
  g__law_spans : mg "_law_spans" = some (.ref Ad.f_law_spans)
  k__law_spans : PySem.W.keepIn K (.ref Ad.f_law_spans) = true
  b__law_spans : Binds K Ad.d_law_spans ["cells"] []
  F_look_finite : FunZ K "look_finite" "look_finite" slook_finite Ad.flook_finite Ad.dlook_finite
  g_look_finite : mg "look_finite" = some (.ref Ad.flook_finite)
  k_look_finite : PySem.W.keepIn K (.ref Ad.flook_finite) = true
  b_look_finite : Binds K Ad.dlook_finite ["shape"] []
  F_look_narrow : FunZ K "look_narrow" "look_narrow" slook_narrow Ad.flook_narrow Ad.dlook_narrow
  g_look_narrow : mg "look_narrow" = some (.ref Ad.flook_narrow)
  k_look_narrow : PySem.W.keepIn K (.ref Ad.flook_narrow) = true
  b_look_narrow : Binds K Ad.dlook_narrow ["shape"] []
  F_noted : FunZ K "noted" "noted" snoted Ad.fnoted Ad.dnoted
  g_noted : mg "noted" = some (.ref Ad.fnoted)
  k_noted : PySem.W.keepIn K (.ref Ad.fnoted) = true
  b_noted : Binds K Ad.dnoted ["cells"] []
  F_flooded : FunZ K "flooded" "flooded" sflooded Ad.fflooded Ad.dflooded
  g_flooded : mg "flooded" = some (.ref Ad.fflooded)
  k_flooded : PySem.W.keepIn K (.ref Ad.fflooded) = true
  b_flooded : Binds K Ad.dflooded ["some", "start", "steps"] []
  F_regions : FunZ K "regions" "regions" sregions Ad.fregions Ad.dregions
  g_regions : mg "regions" = some (.ref Ad.fregions)
  k_regions : PySem.W.keepIn K (.ref Ad.fregions) = true
  b_regions : Binds K Ad.dregions ["cells", "steps"] []
  F_holes : FunZ K "holes" "holes" sholes Ad.fholes Ad.dholes
  g_holes : mg "holes" = some (.ref Ad.fholes)
  k_holes : PySem.W.keepIn K (.ref Ad.fholes) = true
  b_holes : Binds K Ad.dholes ["shape"] []
  F__law_refused : FunZ K "_law_refused" "_law_refused" s_law_refused Ad.f_law_refused Ad.d_law_refused
  g__law_refused : mg "_law_refused" = some (.ref Ad.f_law_refused)
  k__law_refused : PySem.W.keepIn K (.ref Ad.f_law_refused) = true
  b__law_refused : Binds K Ad.d_law_refused ["shape"] []
  F__law_lacking : FunZ K "_law_lacking" "_law_lacking" s_law_lacking Ad.f_law_lacking Ad.d_law_lacking
  g__law_lacking : mg "_law_lacking" = some (.ref Ad.f_law_lacking)
  k__law_lacking : PySem.W.keepIn K (.ref Ad.f_law_lacking) = true
  b__law_lacking : Binds K Ad.d_law_lacking ["cells"] []
  F__law_fallen : FunZ K "_law_fallen" "_law_fallen" s_law_fallen Ad.f_law_fallen Ad.d_law_fallen
  g__law_fallen : mg "_law_fallen" = some (.ref Ad.f_law_fallen)
  k__law_fallen : PySem.W.keepIn K (.ref Ad.f_law_fallen) = true
  b__law_fallen : Binds K Ad.d_law_fallen ["cells", "sides"] []
  F__law_same : FunZ K "_law_same" "_law_same" s_law_same Ad.f_law_same Ad.d_law_same
  g__law_same : mg "_law_same" = some (.ref Ad.f_law_same)
  k__law_same : PySem.W.keepIn K (.ref Ad.f_law_same) = true
  b__law_same : Binds K Ad.d_law_same ["found", "due"] []
  F_law : FunZ K "law" "law" slaw Ad.flaw Ad.dlaw
  g_law : mg "law" = some (.ref Ad.flaw)
  k_law : PySem.W.keepIn K (.ref Ad.flaw) = true
  b_law : Binds K Ad.dlaw ["script"] []
  n_ValueError : mg "ValueError" = none
  n_all : mg "all" = none
  n_bool : mg "bool" = none
  n_divmod : mg "divmod" = none
  n_int : mg "int" = none
  n_isinstance : mg "isinstance" = none
  n_len : mg "len" = none
  n_list : mg "list" = none
  n_max : mg "max" = none
  n_min : mg "min" = none
  n_range : mg "range" = none
  n_sorted : mg "sorted" = none
  n_str : mg "str" = none
  n_tuple : mg "tuple" = none
  n_zip : mg "zip" = none
  kt_SIDES : ∃ a, mg "SIDES" = some (.ref a) ∧ ∃ vs, (∀ H, SqT K H a vs) ∧ RepL (rKC K) (fun _ => none) [((-1 : Int), (0 : Int)), ((0 : Int), (-1 : Int)), ((0 : Int), (1 : Int)), ((1 : Int), (0 : Int))] vs
  c_WIDEST : ∃ t, mg "WIDEST" = some (.int 40 t)
section
variable {P : Program} {w : World} {K : PySem.W.Frag} {mg : Str → Option Value} {base : Heap} {Ad : Adr}
theorem w_law_cell (T : Txt K mg Ad) : FnOk P w K mg base (L2.CX P w) 1 Ad.f_law_cell Ad.d_law_cell ["script", "k"] (SpP mg (tc (rScr K) (t1 rI)) rI (fun a => m_law_cell a.1 a.2)) :=
  have hnd := sc_law_cell.nd
  f_ok (fun a => [im (rScr K) a.1, im rI a.2]) T.F__law_cell sc_law_cell (arc ar1) rfl (by decide) (fun _ => rfl) (fun cdv A outer s H E hr tk hp a => SX.cv (
    (p_ifT (x_tcmp op_lt dIb (x_var 1 rfl) (x_len dLenS T.n_len (a_one (x_var 0 rfl)))) (p_retf [] (fun _ => rfl) .nil (x_ixS (x_var 0 rfl) (x_var 1 rfl))) (p_retf [] (fun _ => rfl) .nil x_int))) (by unfold m_law_cell; simp only [ok_bindP, ok_calmP, chk_calmP, opt_calmP, R.bind_pure, R.bind_assoc] <;> rfl))
theorem w_law_deal (T : Txt K mg Ad) : FnOk P w K mg base (L2.CX P w) 1 Ad.f_law_deal Ad.d_law_deal ["cell", "salt"] (SpP mg (tc rI (t1 rI)) rI (fun a => m_law_deal a.1 a.2)) :=
  have hnd := sc_law_deal.nd
  f_ok (fun a => [im rI a.1, im rI a.2, .any, .any, .any]) T.F__law_deal sc_law_deal (arc ar1) rfl (by decide) (fun _ => rfl) (fun cdv A outer s H E hr tk hp a => SX.cv (
    (p_ifT (x_tcmp op_ge dIb (x_var 0 rfl) (x_powC 1000000000000000000)) (p_retf [] (fun _ => rfl) .nil (x_sub (x_var 0 rfl) (x_powC 1000000000000000000))) (p_set 2 hnd (x_modC (x_var 0 rfl)) (fun one_3641 => (p_set 3 hnd x_int (fun number_3642 => (p_for (vs := [4]) (fun (s : (Int × Int)) => [im rI a.1, im rI a.2, im rI s.1, im rI s.2, .any]) _ (one_3641, number_3642) hp (i_rangeC T.n_range) (gt_name 4 (by decide) hnd) (fun s_3643 x_3644 => (p_set 2 hnd (x_modC (x_mulC (x_add (x_add (x_add (x_var 2 rfl) (x_mul (x_mulCl (x_var 4 rfl)) (x_var 4 rfl))) (x_mulCl (x_var 1 rfl))) x_int))) (fun one_3650 => (p_set 2 hnd (x_modC (x_mul (x_var 2 rfl) (x_var 2 rfl))) (fun one_3652 => (p_set 3 hnd (x_add (x_mulC (x_var 3 rfl)) (x_fdivC (x_modC (x_mulC (x_var 2 rfl))))) (fun number_3653 => (s_go (o := (one_3652, number_3653)) rfl (.cons .rfl (.cons .rfl (.cons .rfl (.cons .rfl (.cons .any .nil))))))))))))) (.cons .rfl (.cons .rfl (.cons .rfl (.cons .rfl (.cons .any .nil))))) (fun s_3654 => (p_retf [] (fun _ => rfl) .nil (x_var 3 rfl)))))))))) (by unfold m_law_deal; simp only [ok_bindP, ok_calmP, chk_calmP, opt_calmP, R.bind_pure, R.bind_assoc] <;> rfl))
theorem w_law_base (T : Txt K mg Ad) : FnOk P w K mg base (L2.CX P w) 1 Ad.f_law_base Ad.d_law_base ["number"] (SpP mg (t1 rI) (rTu (tc rC (t1 rI))) (fun a => m_law_base a)) :=
  have hnd := sc_law_base.nd
  f_ok (fun a => [im rI a, .any, .any, .any, .any]) T.F__law_base sc_law_base ar1 rfl (by decide) (fun _ => rfl) (fun cdv A outer s H E hr tk hp a => SX.cv (
    (p_asg (vs := [0, 2]) (gt_tup rfl (gts_cons (gt_name 0 (by decide) hnd) (gts_one (gt_name 2 (by decide) hnd)))) (x_dvmC T.n_divmod (x_var 0 rfl) x_int) (fun p_3669 => (p_ifT (x_tcmp op_gt dIb (x_var 2 rfl) x_int) (p_retf [] (fun _ => rfl) .nil (x_tup (a_cons (x_tup (a_cons x_int (a_one x_int)) (fun _ _ _ h => sz ((nc (fun _ _ _ h => n1 h)) h) (by decide))) (a_one (x_var 0 rfl))) (fun _ _ _ h => sz ((nc (fun _ _ _ h => n1 h)) h) (by decide)))) (p_asg (vs := [0, 3]) (gt_tup rfl (gts_cons (gt_name 0 (by decide) hnd) (gts_one (gt_name 3 (by decide) hnd)))) (x_dvm T.n_divmod (a_cons (x_var 0 rfl) (a_one (x_ixL (x_frzE (f_listN (k := 2) (ln_cons (x_add (x_mulCl (x_powC 1000000000000)) x_int) (ln_cons x_int ln_nil)))) (x_var 2 rfl))))) (fun p_3672 => (p_asg (vs := [4, 0]) (gt_tup rfl (gts_cons (gt_name 0 (by decide) hnd) (gts_one (gt_name 4 (by decide) hnd)))) (x_dvm T.n_divmod (a_cons (x_var 0 rfl) (a_one (x_ixL (x_frzE (f_listN (k := 2) (ln_cons (x_add (x_mulCl (x_powC 1000000000000)) x_int) (ln_cons x_int ln_nil)))) (x_var 2 rfl))))) (fun p_3675 => (p_set 1 hnd (x_ixL (x_frzE (f_listN (k := 2) (ln_cons x_int (ln_cons (x_mulCl (x_powC 1000000000000)) ln_nil)))) (x_var 2 rfl)) (fun by_3676 => (p_retf [] (fun _ => rfl) .nil (x_tup (a_cons (x_tup (a_cons (x_sub (x_mul (x_var 3 rfl) (x_var 1 rfl)) (x_powC 1000000000000)) (a_one (x_sub (x_mul (x_var 4 rfl) (x_var 1 rfl)) (x_powC 1000000000000)))) (fun _ _ _ h => sz ((nc (fun _ _ _ h => n1 h)) h) (by decide))) (a_one (x_var 0 rfl))) (fun _ _ _ h => sz ((nc (fun _ _ _ h => n1 h)) h) (by decide)))))))))))))) (by unfold m_law_base; simp only [ok_bindP, ok_calmP, chk_calmP, opt_calmP, R.bind_pure, R.bind_assoc] <;> rfl))
theorem w_law_kept (T : Txt K mg Ad) : FnOk P w K mg base (L2.CX P w) 1 Ad.f_law_kept Ad.d_law_kept ["row", "column"] (SpP mg (tc rI (t1 rI)) rC (fun a => m_law_kept a.1 a.2)) :=
  have hnd := sc_law_kept.nd
  f_ok (fun a => [im rI a.1, im rI a.2]) T.F__law_kept sc_law_kept (arc ar1) rfl (by decide) (fun _ => rfl) (fun cdv A outer s H E hr tk hp a => SX.cv (
    (p_retf [] (fun _ => rfl) .nil (x_tup (a_cons (x_callB (call_max2 rfl) dMax T.n_max (by decide +kernel) (a_cons (x_neg (x_powC 1000000000000)) (a_one (x_callB (call_min2 rfl) dMin T.n_min (by decide +kernel) (a_cons (x_powC 1000000000000) (a_one (x_var 0 rfl))))))) (a_one (x_callB (call_max2 rfl) dMax T.n_max (by decide +kernel) (a_cons (x_neg (x_powC 1000000000000)) (a_one (x_callB (call_min2 rfl) dMin T.n_min (by decide +kernel) (a_cons (x_powC 1000000000000) (a_one (x_var 1 rfl))))))))) (fun _ _ _ h => sz ((nc (fun _ _ _ h => n1 h)) h) (by decide))))) (by unfold m_law_kept; simp only [ok_bindP, ok_calmP, chk_calmP, opt_calmP, R.bind_pure, R.bind_assoc] <;> rfl))
theorem w_law_board (T : Txt K mg Ad) : FnOk P w K mg base (L2.CX P w) 2 Ad.f_law_board Ad.d_law_board ["number"] (SpP mg (t1 rI) (rTu (tc (rT rC) (t1 rI))) (fun a => m_law_board a)) :=
  have hnd := sc_law_board.nd
  f_ok (fun a => [im rI a, .any, .any, .any, .any, .any, .any, .any, .any, .any, .any, .any, .any, .any]) T.F__law_board sc_law_board ar1 rfl (by decide) (fun _ => rfl) (fun cdv A outer s H E hr tk hp a => SX.cv (
    (p_asg (vs := [0, 3]) (gt_tup rfl (gts_cons (gt_name 0 (by decide) hnd) (gts_one (gt_name 3 (by decide) hnd)))) (x_dvmC T.n_divmod (x_var 0 rfl) x_int) (fun p_3734 => (p_asg (vs := [4, 0]) (gt_tup rfl (gts_cons (gt_name 4 (by decide) hnd) (gts_one (gt_name 0 (by decide) hnd)))) (x_call (w_law_base T) (hr.mono (by decide)) T.g__law_base T.k__law_base T.b__law_base tk .nil (a_one (x_var 0 rfl))) (fun p_3735 => (p_own 1 hnd (f_dict (ky := kyC) (π := rB)) (fun _ => (p_asg (vs := [5, 0]) (gt_tup rfl (gts_cons (gt_name 0 (by decide) hnd) (gts_one (gt_name 5 (by decide) hnd)))) (x_dvmC T.n_divmod (x_var 0 rfl) x_int) (fun p_3736 => (p_ifJ (fun (s : (Int × (List ((Int × Int) × Bool)))) => [im rI s.1, .own none (oD kyC rB s.2), .any, im rI p_3734.2, im rC p_3735.1, im rI p_3736.2, .any, .any, .any, .any, .any, .any, .any, .any]) (x_tcmp op_eq dEqI (x_var 3 rfl) x_int) (p_for (vs := [2]) (fun (s : (Int × (List ((Int × Int) × Bool)))) => [im rI s.1, .own none (oD kyC rB s.2), .any, im rI p_3734.2, im rC p_3735.1, im rI p_3736.2, .any, .any, .any, .any, .any, .any, .any, .any]) _ (p_3736.1, ([] : List ((Int × Int) × Bool))) hp (i_range1 T.n_range (a_one (x_add (x_var 5 rfl) x_int))) (gt_name 2 (by decide) hnd) (fun s_3737 x_3738 => (p_asg (vs := [9, 0]) (gt_tup rfl (gts_cons (gt_name 0 (by decide) hnd) (gts_one (gt_name 9 (by decide) hnd)))) (x_dvmC T.n_divmod (x_var 0 rfl) x_int) (fun p_3739 => (s_dput 1 (u1 hr) x_bl (x_call (w_law_kept T) (hr.mono (by decide)) T.g__law_kept T.k__law_kept T.b__law_kept tk .nil (a_cons (x_add (x_pj 0 pj0 (x_var 4 rfl)) (x_fdivC (x_var 9 rfl))) (a_one (x_add (x_pj 1 (pjs pj1) (x_var 4 rfl)) (x_modC (x_var 9 rfl)))))) (fun v_3740 k_3741 => (let cells_3742 : List ((Int × Int) × Bool) := (dPut s_3737.2 k_3741 v_3740); (s_go (o := (p_3739.1, cells_3742)) rfl (.cons .rfl (.cons .rfl (.cons .any (.cons .rfl (.cons .rfl (.cons .rfl (.cons .any (.cons .any (.cons .any (.cons .any (.cons .any (.cons .any (.cons .any (.cons .any .nil))))))))))))))))))))) (.cons .rfl (.cons .rfl (.cons .any (.cons .rfl (.cons .rfl (.cons .rfl (.cons .any (.cons .any (.cons .any (.cons .any (.cons .any (.cons .any (.cons .any (.cons .any .nil)))))))))))))) (fun s_3743 => (s_nx (o := (s_3743.1, s_3743.2)) rfl (.cons .rfl (.cons .rfl (.cons .any (.cons .rfl (.cons .rfl (.cons .rfl (.cons .any (.cons .any (.cons .any (.cons .any (.cons .any (.cons .any (.cons .any (.cons .any .nil))))))))))))))))) (s_nx (o := (p_3736.1, ([] : List ((Int × Int) × Bool)))) rfl (.cons .rfl (.cons .rfl (.cons .any (.cons .rfl (.cons .rfl (.cons .rfl (.cons .any (.cons .any (.cons .any (.cons .any (.cons .any (.cons .any (.cons .any (.cons .any .nil))))))))))))))) (fun s_3745 => (p_ifJ (fun (s : (Int × (List ((Int × Int) × Bool)))) => [im rI s.1, .own none (oD kyC rB s.2), .any, im rI p_3734.2, im rC p_3735.1, im rI p_3736.2, .any, .any, .any, .any, .any, .any, .any, .any]) (x_tcmp op_eq dEqI (x_var 3 rfl) x_int) (p_for (vs := [2]) (fun (s : (Int × (List ((Int × Int) × Bool)))) => [im rI s.1, .own none (oD kyC rB s.2), .any, im rI p_3734.2, im rC p_3735.1, im rI p_3736.2, .any, .any, .any, .any, .any, .any, .any, .any]) _ (s_3745.1, s_3745.2) hp (i_range1 T.n_range (a_one (x_add x_int (x_modC (x_var 5 rfl))))) (gt_name 2 (by decide) hnd) (fun s_3746 x_3747 => (p_asg (vs := [0, 10]) (gt_tup rfl (gts_cons (gt_name 0 (by decide) hnd) (gts_one (gt_name 10 (by decide) hnd)))) (x_dvmC T.n_divmod (x_var 0 rfl) x_int) (fun p_3748 => (p_asg (vs := [0, 11]) (gt_tup rfl (gts_cons (gt_name 0 (by decide) hnd) (gts_one (gt_name 11 (by decide) hnd)))) (x_dvmC T.n_divmod (x_var 0 rfl) x_int) (fun p_3749 => (p_asg (vs := [0, 12]) (gt_tup rfl (gts_cons (gt_name 0 (by decide) hnd) (gts_one (gt_name 12 (by decide) hnd)))) (x_dvmC T.n_divmod (x_var 0 rfl) x_int) (fun p_3750 => (p_for (vs := [6]) (fun (s : List ((Int × Int) × Bool)) => [im rI p_3750.1, .own none (oD kyC rB s), im rI x_3747, im rI p_3734.2, im rC p_3735.1, im rI p_3736.2, .any, .any, .any, .any, im rI p_3748.2, im rI p_3749.2, im rI p_3750.2, .any]) _ s_3746.2 hp (i_range1 T.n_range (a_one (x_add x_int (x_var 11 rfl)))) (gt_name 6 (by decide) hnd) (fun s_3751 x_3752 => (p_for (vs := [8]) (fun (s : List ((Int × Int) × Bool)) => [im rI p_3750.1, .own none (oD kyC rB s), im rI x_3747, im rI p_3734.2, im rC p_3735.1, im rI p_3736.2, im rI x_3752, .any, .any, .any, im rI p_3748.2, im rI p_3749.2, im rI p_3750.2, .any]) _ s_3751 hp (i_range1 T.n_range (a_one (x_add x_int (x_var 12 rfl)))) (gt_name 8 (by decide) hnd) (fun s_3753 x_3754 => (p_if2 (x_w (w_or2 (x_tcmp (op_inU (u65 hr)) (dInU kI) (x_var 6 rfl) (x_tupN (k := 2) (ln_cons x_int (ln_cons (x_var 11 rfl) ln_nil)))) (w_or1 (x_tcmp (op_inU (u65 hr)) (dInU kI) (x_var 8 rfl) (x_tupN (k := 2) (ln_cons x_int (ln_cons (x_var 12 rfl) ln_nil))))))) (s_dput 1 (u1 hr) x_bl (x_call (w_law_kept T) (hr.mono (by decide)) T.g__law_kept T.k__law_kept T.b__law_kept tk .nil (a_cons (x_add (x_add (x_pj 0 pj0 (x_var 4 rfl)) (x_var 10 rfl)) (x_var 6 rfl)) (a_one (x_add (x_sub (x_add (x_pj 1 (pjs pj1) (x_var 4 rfl)) (x_mulCl (x_var 2 rfl))) (x_var 10 rfl)) (x_var 8 rfl))))) (fun v_3755 k_3756 => (let cells_3757 : List ((Int × Int) × Bool) := (dPut s_3753 k_3756 v_3755); (s_go (o := cells_3757) rfl (.cons .rfl (.cons .rfl (.cons .rfl (.cons .rfl (.cons .rfl (.cons .rfl (.cons .rfl (.cons .any (.cons .any (.cons .any (.cons .rfl (.cons .rfl (.cons .rfl (.cons .any .nil)))))))))))))))))) (s_go (o := s_3753) rfl (.cons .rfl (.cons .rfl (.cons .rfl (.cons .rfl (.cons .rfl (.cons .rfl (.cons .rfl (.cons .any (.cons .any (.cons .any (.cons .rfl (.cons .rfl (.cons .rfl (.cons .any .nil))))))))))))))))) (.cons .rfl (.cons .rfl (.cons .rfl (.cons .rfl (.cons .rfl (.cons .rfl (.cons .rfl (.cons .any (.cons .any (.cons .any (.cons .rfl (.cons .rfl (.cons .rfl (.cons .any .nil)))))))))))))) (fun s_3758 => (s_go (o := s_3758) rfl (.cons .rfl (.cons .rfl (.cons .rfl (.cons .rfl (.cons .rfl (.cons .rfl (.cons .any (.cons .any (.cons .any (.cons .any (.cons .rfl (.cons .rfl (.cons .rfl (.cons .any .nil)))))))))))))))))) (.cons .rfl (.cons .rfl (.cons .rfl (.cons .rfl (.cons .rfl (.cons .rfl (.cons .any (.cons .any (.cons .any (.cons .any (.cons .rfl (.cons .rfl (.cons .rfl (.cons .any .nil)))))))))))))) (fun s_3760 => (s_go (o := (p_3750.1, s_3760)) rfl (.cons .rfl (.cons .rfl (.cons .any (.cons .rfl (.cons .rfl (.cons .rfl (.cons .any (.cons .any (.cons .any (.cons .any (.cons .any (.cons .any (.cons .any (.cons .any .nil)))))))))))))))))))))))) (.cons .rfl (.cons .rfl (.cons .any (.cons .rfl (.cons .rfl (.cons .rfl (.cons .any (.cons .any (.cons .any (.cons .any (.cons .any (.cons .any (.cons .any (.cons .any .nil)))))))))))))) (fun s_3762 => (s_nx (o := (s_3762.1, s_3762.2)) rfl (.cons .rfl (.cons .rfl (.cons .any (.cons .rfl (.cons .rfl (.cons .rfl (.cons .any (.cons .any (.cons .any (.cons .any (.cons .any (.cons .any (.cons .any (.cons .any .nil))))))))))))))))) (s_nx (o := (s_3745.1, s_3745.2)) rfl (.cons .rfl (.cons .rfl (.cons .any (.cons .rfl (.cons .rfl (.cons .rfl (.cons .any (.cons .any (.cons .any (.cons .any (.cons .any (.cons .any (.cons .any (.cons .any .nil))))))))))))))) (fun s_3764 => (p_ifJ (fun (s : (Int × (List ((Int × Int) × Bool)))) => [im rI s.1, .own none (oD kyC rB s.2), .any, im rI p_3734.2, im rC p_3735.1, im rI p_3736.2, .any, .any, .any, .any, .any, .any, .any, .any]) (x_tcmp op_gt dIb (x_var 3 rfl) x_int) (p_for (vs := [6]) (fun (s : (Int × (List ((Int × Int) × Bool)))) => [im rI s.1, .own none (oD kyC rB s.2), .any, im rI p_3734.2, im rC p_3735.1, im rI p_3736.2, .any, .any, .any, .any, .any, .any, .any, .any]) _ (s_3764.1, s_3764.2) hp (i_range1 T.n_range (a_one (x_add (x_var 5 rfl) x_int))) (gt_name 6 (by decide) hnd) (fun s_3765 x_3766 => (p_asg (vs := [13, 0]) (gt_tup rfl (gts_cons (gt_name 0 (by decide) hnd) (gts_one (gt_name 13 (by decide) hnd)))) (x_dvmC T.n_divmod (x_var 0 rfl) x_int) (fun p_3767 => (p_for (vs := [8]) (fun (s : List ((Int × Int) × Bool)) => [im rI p_3767.1, .own none (oD kyC rB s), .any, im rI p_3734.2, im rC p_3735.1, im rI p_3736.2, im rI x_3766, .any, .any, .any, .any, .any, .any, im rI p_3767.2]) _ s_3765.2 hp (i_rangeC T.n_range) (gt_name 8 (by decide) hnd) (fun s_3768 x_3769 => (p_if2 (x_tcmp op_eq dEqI (x_bitand (x_shr (x_var 13 rfl) (x_var 8 rfl)) x_int) x_int) (s_dput 1 (u1 hr) x_bl (x_call (w_law_kept T) (hr.mono (by decide)) T.g__law_kept T.k__law_kept T.b__law_kept tk .nil (a_cons (x_add (x_pj 0 pj0 (x_var 4 rfl)) (x_var 6 rfl)) (a_one (x_add (x_pj 1 (pjs pj1) (x_var 4 rfl)) (x_var 8 rfl))))) (fun v_3772 k_3773 => (let cells_3774 : List ((Int × Int) × Bool) := (dPut s_3768 k_3773 v_3772); (s_go (o := cells_3774) rfl (.cons .rfl (.cons .rfl (.cons .any (.cons .rfl (.cons .rfl (.cons .rfl (.cons .rfl (.cons .any (.cons .any (.cons .any (.cons .any (.cons .any (.cons .any (.cons .rfl .nil)))))))))))))))))) (s_go (o := s_3768) rfl (.cons .rfl (.cons .rfl (.cons .any (.cons .rfl (.cons .rfl (.cons .rfl (.cons .rfl (.cons .any (.cons .any (.cons .any (.cons .any (.cons .any (.cons .any (.cons .rfl .nil))))))))))))))))) (.cons .rfl (.cons .rfl (.cons .any (.cons .rfl (.cons .rfl (.cons .rfl (.cons .rfl (.cons .any (.cons .any (.cons .any (.cons .any (.cons .any (.cons .any (.cons .rfl .nil)))))))))))))) (fun s_3776 => (s_go (o := (p_3767.1, s_3776)) rfl (.cons .rfl (.cons .rfl (.cons .any (.cons .rfl (.cons .rfl (.cons .rfl (.cons .any (.cons .any (.cons .any (.cons .any (.cons .any (.cons .any (.cons .any (.cons .any .nil)))))))))))))))))))) (.cons .rfl (.cons .rfl (.cons .any (.cons .rfl (.cons .rfl (.cons .rfl (.cons .any (.cons .any (.cons .any (.cons .any (.cons .any (.cons .any (.cons .any (.cons .any .nil)))))))))))))) (fun s_3777 => (s_nx (o := (s_3777.1, s_3777.2)) rfl (.cons .rfl (.cons .rfl (.cons .any (.cons .rfl (.cons .rfl (.cons .rfl (.cons .any (.cons .any (.cons .any (.cons .any (.cons .any (.cons .any (.cons .any (.cons .any .nil))))))))))))))))) (s_nx (o := (s_3764.1, s_3764.2)) rfl (.cons .rfl (.cons .rfl (.cons .any (.cons .rfl (.cons .rfl (.cons .rfl (.cons .any (.cons .any (.cons .any (.cons .any (.cons .any (.cons .any (.cons .any (.cons .any .nil))))))))))))))) (fun s_3779 => (p_asg (vs := [7, 0]) (gt_tup rfl (gts_cons (gt_name 0 (by decide) hnd) (gts_one (gt_name 7 (by decide) hnd)))) (x_dvmC T.n_divmod (x_var 0 rfl) x_int) (fun p_3780 => (p_for (vs := [2]) (fun (s : (Int × (List ((Int × Int) × Bool)))) => [im rI s.1, .own none (oD kyC rB s.2), .any, im rI p_3734.2, im rC p_3735.1, im rI p_3736.2, .any, im rI p_3780.2, .any, .any, .any, .any, .any, .any]) _ (p_3780.1, s_3779.2) hp (i_range1 T.n_range (a_one (x_callB (call_min2 rfl) dMin T.n_min (by decide +kernel) (a_cons (x_var 7 rfl) (a_one (x_lenDG T.n_len (d_own 1 rfl))))))) (gt_name 2 (by decide) hnd) (fun s_3781 x_3782 => (p_asg (vs := [9, 0]) (gt_tup rfl (gts_cons (gt_name 0 (by decide) hnd) (gts_one (gt_name 9 (by decide) hnd)))) (x_dvm T.n_divmod (a_cons (x_var 0 rfl) (a_one (x_lenDG T.n_len (d_own 1 rfl))))) (fun p_3783 => (s_popD 1 (u1 hr) (x_ixL (x_frzE (f_sortDG T.n_sorted (d_own 1 rfl))) (x_var 9 rfl)) (fun k_3784 => (s_go (o := (p_3783.1, (dDrop s_3781.2 k_3784))) rfl (.cons .rfl (.cons .rfl (.cons .any (.cons .rfl (.cons .rfl (.cons .rfl (.cons .any (.cons .rfl (.cons .any (.cons .any (.cons .any (.cons .any (.cons .any (.cons .any .nil)))))))))))))))))))) (.cons .rfl (.cons .rfl (.cons .any (.cons .rfl (.cons .rfl (.cons .rfl (.cons .any (.cons .rfl (.cons .any (.cons .any (.cons .any (.cons .any (.cons .any (.cons .any .nil)))))))))))))) (fun s_3785 => (s_giveD 1 rfl (p_retf [] (fun _ => rfl) .nil (x_tup (a_cons (x_callTy call_tuple_of dTupL T.n_tuple (by decide +kernel) (a_one (x_frzE (f_sortD T.n_sorted (x_var 1 rfl))))) (a_one (x_var 0 rfl))) (fun _ _ _ h => sz ((nc (fun _ _ _ h => n1 h)) h) (by decide)))))))))))))))))))))))) (by unfold m_law_board; simp only [ok_bindP, ok_calmP, chk_calmP, opt_calmP, R.bind_pure, R.bind_assoc] <;> rfl))
theorem w_law_far (T : Txt K mg Ad) : FnOk P w K mg base (L2.CX P w) 1 Ad.f_law_far Ad.d_law_far ["cells", "number"] (SpP mg (tc (rT rC) (t1 rI)) (rT rC) (fun a => m_law_far a.1 a.2)) :=
  have hnd := sc_law_far.nd
  f_ok (fun a => [im (rT rC) a.1, im rI a.2, .any, .any, .any, .any, .any]) T.F__law_far sc_law_far (arc ar1) rfl (by decide) (fun _ => rfl) (fun cdv A outer s H E hr tk hp a => SX.cv (
    (p_asg (vs := [1, 4]) (gt_tup rfl (gts_cons (gt_name 1 (by decide) hnd) (gts_one (gt_name 4 (by decide) hnd)))) (x_dvmC T.n_divmod (x_var 1 rfl) x_int) (fun p_3800 => (p_asg (vs := [5, 1]) (gt_tup rfl (gts_cons (gt_name 1 (by decide) hnd) (gts_one (gt_name 5 (by decide) hnd)))) (x_dvmC T.n_divmod (x_var 1 rfl) x_int) (fun p_3801 => (p_asg (vs := [6, 1]) (gt_tup rfl (gts_cons (gt_name 1 (by decide) hnd) (gts_one (gt_name 6 (by decide) hnd)))) (x_dvmC T.n_divmod (x_var 1 rfl) x_int) (fun p_3802 => (p_set 2 hnd (x_mul (x_ixL (x_frzE (f_listN (k := 4) (ln_cons x_int (ln_cons x_int (ln_cons x_int (ln_cons (x_powC 100000000000) ln_nil)))))) (x_var 5 rfl)) (x_sub x_int (x_mulCl (x_var 6 rfl)))) (fun by_3804 => (p_own 3 hnd (f_listN (k := 2) (ln_cons (x_tup (a_cons x_int (a_one x_int)) (fun _ _ _ h => sz ((nc (fun _ _ _ h => n1 h)) h) (by decide))) (ln_cons (x_ixL (x_frzE (f_listN (k := 4) (ln_cons (x_tup (a_cons (x_var 2 rfl) (a_one x_int)) (fun _ _ _ h => sz ((nc (fun _ _ _ h => n1 h)) h) (by decide))) (ln_cons (x_tup (a_cons x_int (a_one (x_var 2 rfl))) (fun _ _ _ h => sz ((nc (fun _ _ _ h => n1 h)) h) (by decide))) (ln_cons (x_tup (a_cons x_int (a_one (x_var 2 rfl))) (fun _ _ _ h => sz ((nc (fun _ _ _ h => n1 h)) h) (by decide))) (ln_cons (x_tup (a_cons x_int (a_one (x_var 2 rfl))) (fun _ _ _ h => sz ((nc (fun _ _ _ h => n1 h)) h) (by decide))) ln_nil)))))) (x_var 4 rfl)) ln_nil))) (fun some_3807 => (p_ifJ (fun (s : List (Int × Int)) => [im (rT rC) a.1, im rI p_3802.1, im rI by_3804, .own none (oLi (tl rC) s), im rI p_3800.2, im rI p_3801.2, im rI p_3802.2]) (x_tcmp op_gt dIb (x_var 4 rfl) x_int) (s_append 3 (x_ixL (x_frzE (f_listN (k := 2) (ln_cons (x_tup (a_cons x_int (a_one x_int)) (fun _ _ _ h => sz ((nc (fun _ _ _ h => n1 h)) h) (by decide))) (ln_cons (x_tup (a_cons x_int (a_one (x_fdivC (x_var 2 rfl)))) (fun _ _ _ h => sz ((nc (fun _ _ _ h => n1 h)) h) (by decide))) ln_nil)))) (x_sub (x_var 4 rfl) x_int)) (fun y_3808 => (s_nx (o := (some_3807 ++ [y_3808])) rfl (.cons .rfl (.cons .rfl (.cons .rfl (.cons .rfl (.cons .rfl (.cons .rfl (.cons .rfl .nil)))))))))) (s_nx (o := some_3807) rfl (.cons .rfl (.cons .rfl (.cons .rfl (.cons .rfl (.cons .rfl (.cons .rfl (.cons .rfl .nil)))))))) (fun s_3809 => (s_give 3 rfl (p_retf [] (fun _ => rfl) .nil (x_callTy call_tuple_of dTupL T.n_tuple (by decide +kernel) (a_one (x_frzE (f_sortC T.n_sorted (x_var 3 rfl)))))))))))))))))))) (by unfold m_law_far; simp only [ok_bindP, ok_calmP, chk_calmP, opt_calmP, R.bind_pure, R.bind_assoc] <;> rfl))
theorem w_law_ring (T : Txt K mg Ad) : FnOk P w K mg base (L2.CX P w) 1 Ad.f_law_ring Ad.d_law_ring ["number"] (SpP mg (t1 rI) (rT rC) (fun a => m_law_ring a)) :=
  have hnd := sc_law_ring.nd
  f_ok (fun a => [im rI a, .any, .any, .any, .any, .any]) T.F__law_ring sc_law_ring ar1 rfl (by decide) (fun _ => rfl) (fun cdv A outer s H E hr tk hp a => SX.cv (
    (p_asg (vs := [0, 3]) (gt_tup rfl (gts_cons (gt_name 0 (by decide) hnd) (gts_one (gt_name 3 (by decide) hnd)))) (x_dvmC T.n_divmod (x_var 0 rfl) x_int) (fun p_3824 => (p_asg (vs := [0, 4]) (gt_tup rfl (gts_cons (gt_name 0 (by decide) hnd) (gts_one (gt_name 4 (by decide) hnd)))) (x_dvmC T.n_divmod (x_var 0 rfl) x_int) (fun p_3825 => (p_own 1 hnd (f_nil (ρ := rC)) (fun cells_3826 => (p_for (vs := [2]) (fun (s : List (Int × Int)) => [im rI p_3825.1, .own none (oLi (tl rC) s), .any, im rI p_3824.2, im rI p_3825.2, .any]) _ cells_3826 hp (i_range1 T.n_range (a_one (x_add x_int (x_var 3 rfl)))) (gt_name 2 (by decide) hnd) (fun s_3827 x_3828 => (p_for (vs := [5]) (fun (s : List (Int × Int)) => [im rI p_3825.1, .own none (oLi (tl rC) s), im rI x_3828, im rI p_3824.2, im rI p_3825.2, .any]) _ s_3827 hp (i_range1 T.n_range (a_one (x_add x_int (x_var 4 rfl)))) (gt_name 5 (by decide) hnd) (fun s_3829 x_3830 => (p_if2 (x_w (w_or2 (x_tcmp (op_inU (u65 hr)) (dInU kI) (x_var 2 rfl) (x_tupN (k := 2) (ln_cons x_int (ln_cons (x_add x_int (x_var 3 rfl)) ln_nil)))) (w_or1 (x_tcmp (op_inU (u65 hr)) (dInU kI) (x_var 5 rfl) (x_tupN (k := 2) (ln_cons x_int (ln_cons (x_add x_int (x_var 4 rfl)) ln_nil))))))) (s_append 1 (x_tup (a_cons (x_sub (x_var 2 rfl) x_int) (a_one (x_add (x_var 5 rfl) x_int))) (fun _ _ _ h => sz ((nc (fun _ _ _ h => n1 h)) h) (by decide))) (fun y_3831 => (s_go (o := (s_3829 ++ [y_3831])) rfl (.cons .rfl (.cons .rfl (.cons .rfl (.cons .rfl (.cons .rfl (.cons .any .nil))))))))) (s_go (o := s_3829) rfl (.cons .rfl (.cons .rfl (.cons .rfl (.cons .rfl (.cons .rfl (.cons .any .nil))))))))) (.cons .rfl (.cons .rfl (.cons .rfl (.cons .rfl (.cons .rfl (.cons .any .nil)))))) (fun s_3832 => (s_go (o := s_3832) rfl (.cons .rfl (.cons .rfl (.cons .any (.cons .rfl (.cons .rfl (.cons .any .nil)))))))))) (.cons .rfl (.cons .rfl (.cons .any (.cons .rfl (.cons .rfl (.cons .any .nil)))))) (fun s_3834 => (s_give 1 rfl (p_retf [] (fun _ => rfl) .nil (x_callTy call_tuple_of dTupL T.n_tuple (by decide +kernel) (a_one (x_var 1 rfl)))))))))))))) (by unfold m_law_ring; simp only [ok_bindP, ok_calmP, chk_calmP, opt_calmP, R.bind_pure, R.bind_assoc] <;> rfl))
theorem w_law_spans (T : Txt K mg Ad) : FnOk P w K mg base (L2.CX P w) 1 Ad.f_law_spans Ad.d_law_spans ["cells"] (SpP mg (t1 (rT rC)) rI (fun a => m_law_spans a)) :=
  have hnd := sc_law_spans.nd
  f_ok (fun a => [im (rT rC) a, .any, .any, .any]) T.F__law_spans sc_law_spans ar1 rfl (by decide) (fun _ => rfl) (fun cdv A outer s H E hr tk hp a => SX.cv (
    (p_ifT (x_tcmp (op_eqD (u64 hr)) (dEqD (kT kC)) (x_var 0 rfl) (x_tup0 (ρ := rC))) (p_retf [] (fun _ => rfl) .nil x_int) (p_setLcM 1 (own := [("cell", 3)]) hnd (i_tup (x_var 0 rfl)) (blkOk_by (N := N_law_spans) (sc := defScope s_law_spans) (by decide +kernel)) (fun _ _ _ _ _ => (gt_name 3 (by decide) hnd)) (fun _ _ _ _ _ y_3850 => (x_pj 0 pj0 (x_var 3 rfl))) (hr := fun rows_3851 => (s_give 1 rfl (p_setLcM 2 (own := [("cell", 3)]) hnd (i_tup (x_var 0 rfl)) (blkOk_by (N := N_law_spans) (sc := defScope s_law_spans) (by decide +kernel)) (fun _ _ _ _ _ => (gt_name 3 (by decide) hnd)) (fun _ _ _ _ _ y_3852 => (x_pj 1 (pjs pj1) (x_var 3 rfl))) (hr := fun columns_3853 => (s_give 2 rfl (p_retf [] (fun _ => rfl) .nil (x_callB (call_max2 rfl) dMax T.n_max (by decide +kernel) (a_cons (x_sub (x_callB (cr_max rfl) dMax1 T.n_max (by decide +kernel) (a_one (x_var 1 rfl))) (x_callB (cr_min rfl) dMin1 T.n_min (by decide +kernel) (a_one (x_var 1 rfl)))) (a_one (x_sub (x_callB (cr_max rfl) dMax1 T.n_max (by decide +kernel) (a_one (x_var 2 rfl))) (x_callB (cr_min rfl) dMin1 T.n_min (by decide +kernel) (a_one (x_var 2 rfl)))))))))))))))) (by unfold m_law_spans; simp only [ok_bindP, ok_calmP, chk_calmP, opt_calmP, R.bind_pure, R.bind_assoc] <;> rfl))
theorem w_look_finite (T : Txt K mg Ad) : FnOk P w K mg base (L2.CX P w) 1 Ad.flook_finite Ad.dlook_finite ["shape"] (SpP mg (t1 (rTu (tc (rT rC) (t1 rB)))) rN (fun a => m_look_finite a)) :=
  have hnd := sclook_finite.nd
  f_ok (fun a => [im (rTu (tc (rT rC) (t1 rB))) a]) T.F_look_finite sclook_finite ar1 rfl (by decide) (fun _ => rfl) (fun cdv A outer s H E hr tk hp a => SX.cv (
    (p_ifT (x_test (x_pj 1 (pjs pj1) (x_var 0 rfl))) (p_raiseX T.x_Endless tk .nil) (s_endN rfl .nil (fun _ => rfl)))) (by unfold m_look_finite; simp only [ok_bindP, ok_calmP, chk_calmP, opt_calmP, R.bind_pure, R.bind_assoc] <;> rfl))
theorem w_look_narrow (T : Txt K mg Ad) : FnOk P w K mg base (L2.CX P w) 1 Ad.flook_narrow Ad.dlook_narrow ["shape"] (SpP mg (t1 (rTu (tc (rT rC) (t1 rB)))) rN (fun a => m_look_narrow a)) :=
  have hnd := sclook_narrow.nd
  f_ok (fun a => [im (rTu (tc (rT rC) (t1 rB))) a, .any, .any]) T.F_look_narrow sclook_narrow ar1 rfl (by decide) (fun _ => rfl) (fun cdv A outer s H E hr tk hp a => SX.cv (
    (p_for (vs := [1]) (fun (s : Unit) => [im (rTu (tc (rT rC) (t1 rB))) a, .any, .any]) _ () hp (i_tup (x_tupN (k := 2) (ln_cons (x_frzE (f_lcM (own := [("cell", 2)]) hnd (i_tup (x_pj 0 pj0 (x_var 0 rfl))) (blkOk_by (N := Nlook_narrow) (sc := defScope slook_narrow) (by decide +kernel)) (fun _ _ _ _ _ => (gt_name 2 (by decide) hnd)) (fun _ _ _ _ _ y_3899 => (x_pj 0 pj0 (x_var 2 rfl))))) (ln_cons (x_frzE (f_lcM (own := [("cell", 2)]) hnd (i_tup (x_pj 0 pj0 (x_var 0 rfl))) (blkOk_by (N := Nlook_narrow) (sc := defScope slook_narrow) (by decide +kernel)) (fun _ _ _ _ _ => (gt_name 2 (by decide) hnd)) (fun _ _ _ _ _ y_3900 => (x_pj 1 (pjs pj1) (x_var 2 rfl))))) ln_nil)))) (gt_name 1 (by decide) hnd) (fun s_3904 x_3905 => (p_ifT (x_tcmp op_ge dIb (x_sub (x_callB (cr_max rfl) dMax1 T.n_max (by decide +kernel) (a_one (x_var 1 rfl))) (x_callB (cr_min rfl) dMin1 T.n_min (by decide +kernel) (a_one (x_var 1 rfl)))) (x_globI T.c_WIDEST)) (p_raiseX T.x_TooWide tk .nil) (s_go (o := ()) rfl (.cons .rfl (.cons .any (.cons .any .nil)))))) (.cons .rfl (.cons .any (.cons .any .nil))) (fun s_3910 => (s_endN rfl .nil (fun _ => rfl))))) (by unfold m_look_narrow; simp only [ok_bindP, ok_calmP, chk_calmP, opt_calmP, R.bind_pure, R.bind_assoc] <;> rfl))
theorem w_noted (T : Txt K mg Ad) : FnOk P w K mg base (L2.CX P w) 1 Ad.fnoted Ad.dnoted ["cells"] (SpP mg (t1 (rT rC)) (rD kyC rB) (fun a => m_noted a)) :=
  have hnd := scnoted.nd
  f_ok (fun a => [im (rT rC) a, .any, .any]) T.F_noted scnoted ar1 rfl (by decide) (fun _ => rfl) (fun cdv A outer s H E hr tk hp a => SX.cv (
    (p_own 1 hnd (f_dict (ky := kyC) (π := rB)) (fun _ => (p_for (vs := [2]) (fun (s : List ((Int × Int) × Bool)) => [im (rT rC) a, .own none (oD kyC rB s), .any]) _ ([] : List ((Int × Int) × Bool)) hp (i_tup (x_var 0 rfl)) (gt_name 2 (by decide) hnd) (fun s_3922 x_3923 => (s_dput 1 (u1 hr) x_bl (x_var 2 rfl) (fun v_3924 k_3925 => (let some_3926 : List ((Int × Int) × Bool) := (dPut s_3922 k_3925 v_3924); (s_go (o := some_3926) rfl (.cons .rfl (.cons .rfl (.cons .any .nil)))))))) (.cons .rfl (.cons .rfl (.cons .any .nil))) (fun s_3927 => (s_giveD 1 rfl (p_retf [] (fun _ => rfl) .nil (x_var 1 rfl)))))))) (by unfold m_noted; simp only [ok_bindP, ok_calmP, chk_calmP, opt_calmP, R.bind_pure, R.bind_assoc] <;> rfl))
theorem w_noted_2 (T : Txt K mg Ad) : FnOk P w K mg base (L2.CX P w) 1 Ad.fnoted Ad.dnoted ["cells"] (SpF mg (t1 (rL rC)) (fun z => oD kyC rB z) (fun a => m_noted_2 a)) :=
  have hnd := scnoted.nd
  f_okF (fun a => [im (rL rC) a, .any, .any]) T.F_noted scnoted ar1 rfl (by decide) (fun _ => rfl) (fun cdv A outer s H E hr tk hp a => SX.cv (
    (p_own 1 hnd (f_dict (ky := kyC) (π := rB)) (fun _ => (p_for (vs := [2]) (fun (s : List ((Int × Int) × Bool)) => [im (rL rC) a, .own none (oD kyC rB s), .any]) _ ([] : List ((Int × Int) × Bool)) hp (i_list (x_var 0 rfl)) (gt_name 2 (by decide) hnd) (fun s_3954 x_3955 => (s_dput 1 (u1 hr) x_bl (x_var 2 rfl) (fun v_3956 k_3957 => (let some_3958 : List ((Int × Int) × Bool) := (dPut s_3954 k_3957 v_3956); (s_go (o := some_3958) rfl (.cons .rfl (.cons .rfl (.cons .any .nil)))))))) (.cons .rfl (.cons .rfl (.cons .any .nil))) (fun s_3959 => (p_retOwn (o := s_3959) 1 rfl rfl .nil)))))) (by unfold m_noted_2; simp only [ok_bindP, ok_calmP, chk_calmP, opt_calmP, R.bind_pure, R.bind_assoc] <;> rfl))
theorem w_flooded (T : Txt K mg Ad) : FnOk P w K mg base (L2.CX P w) 1 Ad.fflooded Ad.dflooded ["some", "start", "steps"] (SpMO (oD kyC rB) (tc rC (t1 (rKT K))) (rL rC) (fun l a => m_flooded l a.1 a.2)) :=
  have hnd := scflooded.nd
  f_okMO (fun p l a => [.own (some p) (oD kyC rB l), im rC a.1, im (rKT K) a.2, .any, .any, .any, .any]) T.F_flooded scflooded (arc ar1) rfl (by decide) (fun _ _ _ => rfl) (fun cdv A outer s H E hr tk hp p l a => SX.cv (
    (p_own 3 hnd (f_listN (k := 1) (ln_cons (x_var 1 rfl) ln_nil)) (fun found_3982 => (s_popD 0 (u1 hr) (x_var 1 rfl) (fun k_3983 => (p_set 4 hnd x_int (fun at_3984 => (p_while (fun (s : ((List ((Int × Int) × Bool)) × (List (Int × Int)) × Int)) => [.own (some p) (oD kyC rB s.1), im rC a.1, im (rKT K) a.2, .own none (oLi (tl rC) s.2.1), im rI s.2.2, .any, .any]) 5000 _ _ ((dDrop l k_3983), found_3982, at_3984) hp (fun s_3985 => (x_tcmp op_lt dIb (x_var 4 rfl) (x_lenO 3 rfl T.n_len))) (fun s_3985 => (p_for (vs := [5]) (fun (s : ((List ((Int × Int) × Bool)) × (List (Int × Int)))) => [.own (some p) (oD kyC rB s.1), im rC a.1, im (rKT K) a.2, .own none (oLi (tl rC) s.2), im rI s_3985.2.2, .any, .any]) _ (s_3985.1, s_3985.2.1) hp (i_kt (x_var 2 rfl)) (gt_name 5 (by decide) hnd) (fun s_3986 x_3987 => (p_set 6 hnd (x_tup (a_cons (x_add (x_pj 0 pj0 (x_ixO 3 rfl (x_var 4 rfl))) (x_kc0 (x_var 5 rfl))) (a_one (x_add (x_pj 1 (pjs pj1) (x_ixO 3 rfl (x_var 4 rfl))) (x_kc1 (x_var 5 rfl))))) (fun _ _ _ h => sz ((nc (fun _ _ _ h => n1 h)) h) (by decide))) (fun near_3994 => (p_if2 (c_tst (c_in (u1 hr) (x_var 6 rfl) (d_own 0 rfl))) (s_popD 0 (u1 hr) (x_var 6 rfl) (fun k_3995 => (s_append 3 (x_var 6 rfl) (fun y_3996 => (s_go (o := ((dDrop s_3986.1 k_3995), (s_3986.2 ++ [y_3996]))) rfl (.cons .rfl (.cons .rfl (.cons .rfl (.cons .rfl (.cons .rfl (.cons .any (.cons .any .nil)))))))))))) (s_go (o := (s_3986.1, s_3986.2)) rfl (.cons .rfl (.cons .rfl (.cons .rfl (.cons .rfl (.cons .rfl (.cons .any (.cons .any .nil)))))))))))) (.cons .rfl (.cons .rfl (.cons .rfl (.cons .rfl (.cons .rfl (.cons .any (.cons .any .nil))))))) (fun s_3997 => (p_set 4 hnd (x_add (x_var 4 rfl) x_int) (fun at_3998 => (s_go (o := (s_3997.1, s_3997.2, at_3998)) rfl (.cons .rfl (.cons .rfl (.cons .rfl (.cons .rfl (.cons .rfl (.cons .any (.cons .any .nil))))))))))))) (.cons .rfl (.cons .rfl (.cons .rfl (.cons .rfl (.cons .rfl (.cons .any (.cons .any .nil))))))) (fun s_3999 => (s_give 3 rfl (p_ret (fun w => (w, s_3999.1)) [.own (some p) (oD kyC rB s_3999.1)] (fun _ => rfl) (.cons .rfl .nil) (x_var 3 rfl)))))))))))) (by unfold m_flooded; simp only [ok_bindP, ok_calmP, chk_calmP, opt_calmP, R.bind_pure, R.bind_assoc] <;> rfl))
theorem w_regions (T : Txt K mg Ad) : FnOk P w K mg base (L2.CX P w) 2 Ad.fregions Ad.dregions ["cells", "steps"] (SpP mg (tc (rL rC) (t1 (rKT K))) (rL (rT rC)) (fun a => m_regions a.1 a.2)) :=
  have hnd := scregions.nd
  f_ok (fun a => [im (rL rC) a.1, im (rKT K) a.2, .any, .any, .any]) T.F_regions scregions (arc ar1) rfl (by decide) (fun _ => rfl) (fun cdv A outer s H E hr tk hp a => SX.cv (
    (p_own 2 hnd (f_call (w_noted_2 T) (hr.mono (by decide)) T.g_noted T.k_noted T.b_noted tk .nil (a_one (x_var 0 rfl))) (fun some_4004 => (p_own 3 hnd (f_nil (ρ := (rT rC))) (fun found_4005 => (p_for (vs := [4]) (fun (s : ((List ((Int × Int) × Bool)) × (List (List (Int × Int))))) => [im (rL rC) a.1, im (rKT K) a.2, .own none (oD kyC rB s.1), .own none (oLi (tl (rT rC)) s.2), .any]) _ (some_4004, found_4005) hp (i_list (x_var 0 rfl)) (gt_name 4 (by decide) hnd) (fun s_4006 x_4007 => (p_if2 (c_tst (c_in (u1 hr) (x_var 4 rfl) (d_own 2 rfl))) (s_appendS (Γs := fun s => [im (rL rC) a.1, im (rKT K) a.2, .own none (oD kyC rB s), .own none (oLi (tl (rT rC)) s_4006.2), im rC x_4007]) (s := s_4006.1) 3 (es_callTy (Γs := fun s => [im (rL rC) a.1, im (rKT K) a.2, .own none (oD kyC rB s), .own none (oLi (tl (rT rC)) s_4006.2), im rC x_4007]) (s := s_4006.1) call_tuple_of dTupL T.n_tuple (by decide +kernel) (as_one (Γs := fun s => [im (rL rC) a.1, im (rKT K) a.2, .own none (oD kyC rB s), .own none (oLi (tl (rT rC)) s_4006.2), im rC x_4007]) (s := s_4006.1) (es_frz (Γs := fun s => [im (rL rC) a.1, im (rKT K) a.2, .own none (oD kyC rB s), .own none (oLi (tl (rT rC)) s_4006.2), im rC x_4007]) (s := s_4006.1) (fs_callB (Γs := fun s => [im (rL rC) a.1, im (rKT K) a.2, .own none (oD kyC rB s), .own none (oLi (tl (rT rC)) s_4006.2), im rC x_4007]) (s := s_4006.1) cr_sortedPO dSortC T.n_sorted (by decide +kernel) (as_one (Γs := fun s => [im (rL rC) a.1, im (rKT K) a.2, .own none (oD kyC rB s), .own none (oLi (tl (rT rC)) s_4006.2), im rC x_4007]) (s := s_4006.1) (es_callMO (Γs := fun s => [im (rL rC) a.1, im (rKT K) a.2, .own none (oD kyC rB s), .own none (oLi (tl (rT rC)) s_4006.2), im rC x_4007]) (s := s_4006.1) 2 (fun s => s) (fun _ l => l) (w_flooded T) (hr.mono (by decide)) T.g_flooded T.k_flooded T.b_flooded tk (as_cons (Γs := fun s => [im (rL rC) a.1, im (rKT K) a.2, .own none (oD kyC rB s), .own none (oLi (tl (rT rC)) s_4006.2), im rC x_4007]) (s := s_4006.1) (es_of (Γs := fun s => [im (rL rC) a.1, im (rKT K) a.2, .own none (oD kyC rB s), .own none (oLi (tl (rT rC)) s_4006.2), im rC x_4007]) (s := s_4006.1) (x_var 4 rfl)) (fun s_4010 => (as_one (Γs := fun s => [im (rL rC) a.1, im (rKT K) a.2, .own none (oD kyC rB s), .own none (oLi (tl (rT rC)) s_4006.2), im rC x_4007]) (s := s_4010) (es_of (Γs := fun s => [im (rL rC) a.1, im (rKT K) a.2, .own none (oD kyC rB s), .own none (oLi (tl (rT rC)) s_4006.2), im rC x_4007]) (s := s_4010) (x_var 1 rfl))))) (fun _ => rfl) (fun _ _ => rfl))))))) (fun w_4008 => (s_go (o := (w_4008.2, (s_4006.2 ++ [w_4008.1]))) rfl (.cons .rfl (.cons .rfl (.cons .rfl (.cons .rfl (.cons .any .nil)))))))) (s_go (o := (s_4006.1, s_4006.2)) rfl (.cons .rfl (.cons .rfl (.cons .rfl (.cons .rfl (.cons .any .nil)))))))) (.cons .rfl (.cons .rfl (.cons .rfl (.cons .rfl (.cons .any .nil))))) (fun s_4011 => (s_give 3 rfl (p_retf [] (fun _ => rfl) .nil (x_var 3 rfl)))))))))) (by unfold m_regions; simp only [ok_bindP, ok_calmP, chk_calmP, opt_calmP, R.bind_pure, R.bind_assoc] <;> rfl))
theorem w_holes (T : Txt K mg Ad) : FnOk P w K mg base (L2.CX P w) 3 Ad.fholes Ad.dholes ["shape"] (SpP mg (t1 (rTu (tc (rT rC) (t1 rB)))) (rL (rT rC)) (fun a => m_holes a)) :=
  have hnd := scholes.nd
  f_ok (fun a => [im (rTu (tc (rT rC) (t1 rB))) a, .any, .any, .any, .any, .any, .any, .any]) T.F_holes scholes ar1 rfl (by decide) (fun _ => rfl) (fun cdv A outer s H E hr tk hp a => SX.cv (
    (p_expr (x_call (w_look_finite T) (hr.mono (by decide)) T.g_look_finite T.k_look_finite T.b_look_finite tk .nil (a_one (x_var 0 rfl))) (fun _ => (p_ifT (x_tcmp (op_eqD (u64 hr)) (dEqD (kT kC)) (x_pj 0 pj0 (x_var 0 rfl)) (x_tup0 (ρ := rC))) (p_retf [] (fun _ => rfl) .nil (x_frzE (f_nil (ρ := (rT rC))))) (p_expr (x_call (w_look_narrow T) (hr.mono (by decide)) T.g_look_narrow T.k_look_narrow T.b_look_narrow tk .nil (a_one (x_var 0 rfl))) (fun _ => (p_setLcM 1 (own := [("cell", 7)]) hnd (i_tup (x_pj 0 pj0 (x_var 0 rfl))) (blkOk_by (N := Nholes) (sc := defScope sholes) (by decide +kernel)) (fun _ _ _ _ _ => (gt_name 7 (by decide) hnd)) (fun _ _ _ _ _ y_4014 => (x_pj 0 pj0 (x_var 7 rfl))) (hr := fun rows_4015 => (s_give 1 rfl (p_setLcM 2 (own := [("cell", 7)]) hnd (i_tup (x_pj 0 pj0 (x_var 0 rfl))) (blkOk_by (N := Nholes) (sc := defScope sholes) (by decide +kernel)) (fun _ _ _ _ _ => (gt_name 7 (by decide) hnd)) (fun _ _ _ _ _ y_4016 => (x_pj 1 (pjs pj1) (x_var 7 rfl))) (hr := fun columns_4017 => (s_give 2 rfl (p_set 3 hnd (x_call (w_noted T) (hr.mono (by decide)) T.g_noted T.k_noted T.b_noted tk .nil (a_one (x_pj 0 pj0 (x_var 0 rfl)))) (fun some_4018 => (p_own 4 hnd (f_nil (ρ := rC)) (fun lacking_4019 => (p_for (vs := [5]) (fun (s : List (Int × Int)) => [im (rTu (tc (rT rC) (t1 rB))) a, im (rL rI) rows_4015, im (rL rI) columns_4017, im (rD kyC rB) some_4018, .own none (oLi (tl rC) s), .any, .any, .any]) _ lacking_4019 hp (i_range2 T.n_range (a_cons (x_sub (x_callB (cr_min rfl) dMin1 T.n_min (by decide +kernel) (a_one (x_var 1 rfl))) x_int) (a_one (x_add (x_callB (cr_max rfl) dMax1 T.n_max (by decide +kernel) (a_one (x_var 1 rfl))) x_int)))) (gt_name 5 (by decide) hnd) (fun s_4025 x_4026 => (p_for (vs := [6]) (fun (s : List (Int × Int)) => [im (rTu (tc (rT rC) (t1 rB))) a, im (rL rI) rows_4015, im (rL rI) columns_4017, im (rD kyC rB) some_4018, .own none (oLi (tl rC) s), im rI x_4026, .any, .any]) _ s_4025 hp (i_range2 T.n_range (a_cons (x_sub (x_callB (cr_min rfl) dMin1 T.n_min (by decide +kernel) (a_one (x_var 2 rfl))) x_int) (a_one (x_add (x_callB (cr_max rfl) dMax1 T.n_max (by decide +kernel) (a_one (x_var 2 rfl))) x_int)))) (gt_name 6 (by decide) hnd) (fun s_4032 x_4033 => (p_if2 (c_tst (c_nin (u1 hr) (x_tup (a_cons (x_var 5 rfl) (a_one (x_var 6 rfl))) (fun _ _ _ h => sz ((nc (fun _ _ _ h => n1 h)) h) (by decide))) (d_imm (x_var 3 rfl)))) (s_append 4 (x_tup (a_cons (x_var 5 rfl) (a_one (x_var 6 rfl))) (fun _ _ _ h => sz ((nc (fun _ _ _ h => n1 h)) h) (by decide))) (fun y_4034 => (s_go (o := (s_4032 ++ [y_4034])) rfl (.cons .rfl (.cons .rfl (.cons .rfl (.cons .rfl (.cons .rfl (.cons .rfl (.cons .any (.cons .any .nil))))))))))) (s_go (o := s_4032) rfl (.cons .rfl (.cons .rfl (.cons .rfl (.cons .rfl (.cons .rfl (.cons .rfl (.cons .any (.cons .any .nil))))))))))) (.cons .rfl (.cons .rfl (.cons .rfl (.cons .rfl (.cons .rfl (.cons .rfl (.cons .any (.cons .any .nil)))))))) (fun s_4035 => (s_go (o := s_4035) rfl (.cons .rfl (.cons .rfl (.cons .rfl (.cons .rfl (.cons .rfl (.cons .any (.cons .any (.cons .any .nil)))))))))))) (.cons .rfl (.cons .rfl (.cons .rfl (.cons .rfl (.cons .rfl (.cons .any (.cons .any (.cons .any .nil)))))))) (fun s_4037 => (s_give 4 rfl (p_retf [] (fun _ => rfl) .nil (x_frzE (f_slL (x_call (w_regions T) (hr.mono (by decide)) T.g_regions T.k_regions T.b_regions tk .nil (a_cons (x_var 4 rfl) (a_one (x_globKT (cs := [((-1 : Int), (0 : Int)), ((0 : Int), (-1 : Int)), ((0 : Int), (1 : Int)), ((1 : Int), (0 : Int))]) T.kt_SIDES)))) (o_some x_int) o_none)))))))))))))))))))))) (by unfold m_holes; simp only [ok_bindP, ok_calmP, chk_calmP, opt_calmP, R.bind_pure, R.bind_assoc] <;> rfl))
theorem w_law_refused (T : Txt K mg Ad) : FnOk P w K mg base (L2.CX P w) 4 Ad.f_law_refused Ad.d_law_refused ["shape"] (SpP mg (t1 (rTu (tc (rT rC) (t1 rB)))) rB (fun a => m_law_refused a)) :=
  have hnd := sc_law_refused.nd
  f_ok (fun a => [im (rTu (tc (rT rC) (t1 rB))) a, .any, .any]) T.F__law_refused sc_law_refused ar1 rfl (by decide) (fun _ => rfl) (fun cdv A outer s H E hr tk hp a => SX.cv (
    (p_set 1 hnd (x_nonO (ρ := (rXv mg))) (fun kind_4046 => (p_tryKeep (mh := fun r_4057 => R.ok (some r_4057.cls)) 2 1 (fun s => if s = ("Endless" : Str) then some true else if s = ("TooWide" : Str) then some true else none) [im (rTu (tc (rT rC) (t1 rB))) a, im (rO (rXv mg)) kind_4046, .any] (fun (s : Option Str) => [im (rTu (tc (rT rC) (t1 rB))) a, im (rO (rXv mg)) s, .any]) hnd T.gc_MossError tk .nil (ct_cons T.x_Endless.g T.e_Endless_MossError (ct_cons T.x_TooWide.g T.e_TooWide_MossError ct_nil)) (fun W_4047 pn_4048 xe_4049 tk_4050 hp_4051 => (p_expr (x_call (w_holes T) (hr.mono (by decide)) T.g_holes T.k_holes T.b_holes tk_4050 (.cons .rfl (.cons .rfl (.cons .any .nil))) (a_one (x_var 0 rfl))) (fun _ => (s_nx (o := kind_4046) rfl (.cons .rfl (.cons .rfl (.cons .any .nil))))))) (fun r_4057 => ⟨_, rfl, (.cons .rfl (.cons .rfl (.cons .any .nil)))⟩) (by decide) rfl (fun x h => by injection h with h; exact h.symm) (fun s_4062 => (p_ifT (x_test (x_isVT (fun s => if s = ("Endless" : Str) then some true else if s = ("TooWide" : Str) then some false else none) T.n_isinstance (x_var 1 rfl) (.cons (nm_own T.gc_BadCell) (.cons (nm_own T.gc_BadDeed) (.cons (nm_own T.gc_BadPiece) (.cons (nm_own T.gc_BadTurn) (.cons (nm_own T.gc_Endless) (.cons (nm_own T.gc_NoCell) (.cons (nm_own T.gc_NoMarks) (.cons (nm_own T.gc_NoText) (.cons (nm_own T.gc_TooMany) .nil rfl) rfl) rfl) rfl) rfl) rfl) rfl) rfl) rfl) (Nat.le_of_ble_eq_true rfl) (ct_cons T.x_Endless.g ⟨T.x_Endless.c, T.t_Endless_BadCell_BadDeed_BadPiece_BadTurn_Endless_NoCell_NoMarks_NoText_TooMany⟩ (ct_cons T.x_TooWide.g ⟨T.x_TooWide.c, T.t_TooWide_BadCell_BadDeed_BadPiece_BadTurn_Endless_NoCell_NoMarks_NoText_TooMany⟩ ct_nil)))) (p_retf [] (fun _ => rfl) .nil x_bl) (p_retf [] (fun _ => rfl) .nil (x_and (x_isV (fun s => if s = ("Endless" : Str) then some false else if s = ("TooWide" : Str) then some true else none) T.n_isinstance (x_var 1 rfl) (nm_own T.gc_TooWide) (ct_cons T.x_Endless.g ⟨T.x_Endless.c, T.i_Endless_TooWide⟩ (ct_cons T.x_TooWide.g ⟨T.x_TooWide.c, T.i_TooWide_TooWide⟩ ct_nil))) (x_one (x_isV (fun s => if s = ("Endless" : Str) then some true else if s = ("TooWide" : Str) then some true else none) T.n_isinstance (x_var 1 rfl) (nm_blt T.n_ValueError (by decide +kernel)) (ct_cons T.x_Endless.g ⟨T.x_Endless.c, T.i_Endless_ValueError⟩ (ct_cons T.x_TooWide.g ⟨T.x_TooWide.c, T.i_TooWide_ValueError⟩ ct_nil)))))))))))) (by unfold m_law_refused; simp only [ok_bindP, ok_calmP, chk_calmP, opt_calmP, R.bind_pure, R.bind_assoc] <;> rfl))
theorem w_law_lacking (T : Txt K mg Ad) : FnOk P w K mg base (L2.CX P w) 1 Ad.f_law_lacking Ad.d_law_lacking ["cells"] (SpP mg (t1 (rT rC)) (rL rC) (fun a => m_law_lacking a)) :=
  have hnd := sc_law_lacking.nd
  f_ok (fun a => [im (rT rC) a, .any, .any, .any, .any, .any, .any, .any]) T.F__law_lacking sc_law_lacking ar1 rfl (by decide) (fun _ => rfl) (fun cdv A outer s H E hr tk hp a => SX.cv (
    (p_own 1 hnd (f_dict (ky := kyC) (π := rB)) (fun _ => (p_for (vs := [2]) (fun (s : List ((Int × Int) × Bool)) => [im (rT rC) a, .own none (oD kyC rB s), .any, .any, .any, .any, .any, .any]) _ ([] : List ((Int × Int) × Bool)) hp (i_tup (x_var 0 rfl)) (gt_name 2 (by decide) hnd) (fun s_4101 x_4102 => (s_dput 1 (u1 hr) x_bl (x_var 2 rfl) (fun v_4103 k_4104 => (let held_4105 : List ((Int × Int) × Bool) := (dPut s_4101 k_4104 v_4103); (s_go (o := held_4105) rfl (.cons .rfl (.cons .rfl (.cons .any (.cons .any (.cons .any (.cons .any (.cons .any (.cons .any .nil))))))))))))) (.cons .rfl (.cons .rfl (.cons .any (.cons .any (.cons .any (.cons .any (.cons .any (.cons .any .nil)))))))) (fun s_4106 => (p_setLcM 3 (own := [("cell", 2)]) hnd (i_tup (x_var 0 rfl)) (blkOk_by (N := N_law_lacking) (sc := defScope s_law_lacking) (by decide +kernel)) (fun _ _ _ _ _ => (gt_name 2 (by decide) hnd)) (fun _ _ _ _ _ y_4107 => (x_pj 0 pj0 (x_var 2 rfl))) (hr := fun rows_4108 => (s_give 3 rfl (p_setLcM 4 (own := [("cell", 2)]) hnd (i_tup (x_var 0 rfl)) (blkOk_by (N := N_law_lacking) (sc := defScope s_law_lacking) (by decide +kernel)) (fun _ _ _ _ _ => (gt_name 2 (by decide) hnd)) (fun _ _ _ _ _ y_4109 => (x_pj 1 (pjs pj1) (x_var 2 rfl))) (hr := fun columns_4110 => (s_give 4 rfl (p_own 5 hnd (f_nil (ρ := rC)) (fun some_4111 => (s_giveD 1 rfl (p_for (vs := [6]) (fun (s : List (Int × Int)) => [im (rT rC) a, im (rD kyC rB) s_4106, .any, im (rL rI) rows_4108, im (rL rI) columns_4110, .own none (oLi (tl rC) s), .any, .any]) _ some_4111 hp (i_range2 T.n_range (a_cons (x_sub (x_callB (cr_min rfl) dMin1 T.n_min (by decide +kernel) (a_one (x_var 3 rfl))) x_int) (a_one (x_add (x_callB (cr_max rfl) dMax1 T.n_max (by decide +kernel) (a_one (x_var 3 rfl))) x_int)))) (gt_name 6 (by decide) hnd) (fun s_4117 x_4118 => (p_for (vs := [7]) (fun (s : List (Int × Int)) => [im (rT rC) a, im (rD kyC rB) s_4106, .any, im (rL rI) rows_4108, im (rL rI) columns_4110, .own none (oLi (tl rC) s), im rI x_4118, .any]) _ s_4117 hp (i_range2 T.n_range (a_cons (x_sub (x_callB (cr_min rfl) dMin1 T.n_min (by decide +kernel) (a_one (x_var 4 rfl))) x_int) (a_one (x_add (x_callB (cr_max rfl) dMax1 T.n_max (by decide +kernel) (a_one (x_var 4 rfl))) x_int)))) (gt_name 7 (by decide) hnd) (fun s_4124 x_4125 => (p_if2 (c_tst (c_nin (u1 hr) (x_tup (a_cons (x_var 6 rfl) (a_one (x_var 7 rfl))) (fun _ _ _ h => sz ((nc (fun _ _ _ h => n1 h)) h) (by decide))) (d_imm (x_var 1 rfl)))) (s_append 5 (x_tup (a_cons (x_var 6 rfl) (a_one (x_var 7 rfl))) (fun _ _ _ h => sz ((nc (fun _ _ _ h => n1 h)) h) (by decide))) (fun y_4126 => (s_go (o := (s_4124 ++ [y_4126])) rfl (.cons .rfl (.cons .rfl (.cons .any (.cons .rfl (.cons .rfl (.cons .rfl (.cons .rfl (.cons .any .nil))))))))))) (s_go (o := s_4124) rfl (.cons .rfl (.cons .rfl (.cons .any (.cons .rfl (.cons .rfl (.cons .rfl (.cons .rfl (.cons .any .nil))))))))))) (.cons .rfl (.cons .rfl (.cons .any (.cons .rfl (.cons .rfl (.cons .rfl (.cons .rfl (.cons .any .nil)))))))) (fun s_4127 => (s_go (o := s_4127) rfl (.cons .rfl (.cons .rfl (.cons .any (.cons .rfl (.cons .rfl (.cons .rfl (.cons .any (.cons .any .nil)))))))))))) (.cons .rfl (.cons .rfl (.cons .any (.cons .rfl (.cons .rfl (.cons .rfl (.cons .any (.cons .any .nil)))))))) (fun s_4129 => (s_give 5 rfl (p_retf [] (fun _ => rfl) .nil (x_var 5 rfl))))))))))))))))))) (by unfold m_law_lacking; simp only [ok_bindP, ok_calmP, chk_calmP, opt_calmP, R.bind_pure, R.bind_assoc] <;> rfl))
theorem w_law_fallen (T : Txt K mg Ad) : FnOk P w K mg base (L2.CX P w) 1 Ad.f_law_fallen Ad.d_law_fallen ["cells", "sides"] (SpP mg (tc (rL rC) (t1 rB)) (rL (rT rC)) (fun a => m_law_fallen a.1 a.2)) :=
  have hnd := sc_law_fallen.nd
  f_ok (fun a => [im (rL rC) a.1, im rB a.2, .any, .any, .any, .any, .any, .any, .any, .any]) T.F__law_fallen sc_law_fallen (arc ar1) rfl (by decide) (fun _ => rfl) (fun cdv A outer s H E hr tk hp a => SX.cv (
    (p_own 2 hnd (f_dict (ky := kyC) (π := rB)) (fun _ => (p_for (vs := [3]) (fun (s : List ((Int × Int) × Bool)) => [im (rL rC) a.1, im rB a.2, .own none (oD kyC rB s), .any, .any, .any, .any, .any, .any, .any]) _ ([] : List ((Int × Int) × Bool)) hp (i_list (x_var 0 rfl)) (gt_name 3 (by decide) hnd) (fun s_4166 x_4167 => (s_dput 2 (u1 hr) x_bl (x_var 3 rfl) (fun v_4168 k_4169 => (let left_4170 : List ((Int × Int) × Bool) := (dPut s_4166 k_4169 v_4168); (s_go (o := left_4170) rfl (.cons .rfl (.cons .rfl (.cons .rfl (.cons .any (.cons .any (.cons .any (.cons .any (.cons .any (.cons .any (.cons .any .nil))))))))))))))) (.cons .rfl (.cons .rfl (.cons .rfl (.cons .any (.cons .any (.cons .any (.cons .any (.cons .any (.cons .any (.cons .any .nil)))))))))) (fun s_4171 => (p_own 4 hnd (f_nil (ρ := (rT rC))) (fun found_4172 => (p_for (vs := [3]) (fun (s : ((List ((Int × Int) × Bool)) × (List (List (Int × Int))))) => [im (rL rC) a.1, im rB a.2, .own none (oD kyC rB s.1), .any, .own none (oLi (tl (rT rC)) s.2), .any, .any, .any, .any, .any]) _ (s_4171, found_4172) hp (i_list (x_frzE (f_sortC T.n_sorted (x_var 0 rfl)))) (gt_name 3 (by decide) hnd) (fun s_4173 x_4174 => (p_if2 (c_tst (c_in (u1 hr) (x_var 3 rfl) (d_own 2 rfl))) (p_own 5 hnd (f_listN (k := 1) (ln_cons (x_var 3 rfl) ln_nil)) (fun part_4175 => (s_popD 2 (u1 hr) (x_var 3 rfl) (fun k_4176 => (p_set 6 hnd x_int (fun at_4177 => (p_while (fun (s : ((List ((Int × Int) × Bool)) × (List (Int × Int)) × Int)) => [im (rL rC) a.1, im rB a.2, .own none (oD kyC rB s.1), im rC x_4174, .own none (oLi (tl (rT rC)) s_4173.2), .own none (oLi (tl rC) s.2.1), im rI s.2.2, .any, .any, .any]) 5000 _ _ ((dDrop s_4173.1 k_4176), part_4175, at_4177) hp (fun s_4178 => (x_tcmp op_lt dIb (x_var 6 rfl) (x_lenO 5 rfl T.n_len))) (fun s_4178 => (p_for (vs := [7]) (fun (s : ((List ((Int × Int) × Bool)) × (List (Int × Int)))) => [im (rL rC) a.1, im rB a.2, .own none (oD kyC rB s.1), im rC x_4174, .own none (oLi (tl (rT rC)) s_4173.2), .own none (oLi (tl rC) s.2), im rI s_4178.2.2, .any, .any, .any]) _ (s_4178.1, s_4178.2.1) hp (i_tup (x_tupN (k := 3) (ln_cons (x_neg x_int) (ln_cons x_int (ln_cons x_int ln_nil))))) (gt_name 7 (by decide) hnd) (fun s_4179 x_4180 => (p_for (vs := [8]) (fun (s : ((List ((Int × Int) × Bool)) × (List (Int × Int)))) => [im (rL rC) a.1, im rB a.2, .own none (oD kyC rB s.1), im rC x_4174, .own none (oLi (tl (rT rC)) s_4173.2), .own none (oLi (tl rC) s.2), im rI s_4178.2.2, im rI x_4180, .any, .any]) _ (s_4179.1, s_4179.2) hp (i_tup (x_tupN (k := 3) (ln_cons (x_neg x_int) (ln_cons x_int (ln_cons x_int ln_nil))))) (gt_name 8 (by decide) hnd) (fun s_4181 x_4182 => (p_set 9 hnd (x_tup (a_cons (x_add (x_pj 0 pj0 (x_ixO 5 rfl (x_var 6 rfl))) (x_var 7 rfl)) (a_one (x_add (x_pj 1 (pjs pj1) (x_ixO 5 rfl (x_var 6 rfl))) (x_var 8 rfl)))) (fun _ _ _ h => sz ((nc (fun _ _ _ h => n1 h)) h) (by decide))) (fun near_4189 => (p_if2 (x_w (w_and (c_tst (c_in (u1 hr) (x_var 9 rfl) (d_own 2 rfl))) (w_and1 (x_tnot (x_w (w_and (x_test (x_var 1 rfl)) (w_and1 (x_tcmp op_ne dNeI (x_mul (x_var 7 rfl) (x_var 8 rfl)) x_int)))))))) (s_popD 2 (u1 hr) (x_var 9 rfl) (fun k_4192 => (s_append 5 (x_var 9 rfl) (fun y_4193 => (s_go (o := ((dDrop s_4181.1 k_4192), (s_4181.2 ++ [y_4193]))) rfl (.cons .rfl (.cons .rfl (.cons .rfl (.cons .rfl (.cons .rfl (.cons .rfl (.cons .rfl (.cons .rfl (.cons .any (.cons .any .nil))))))))))))))) (s_go (o := (s_4181.1, s_4181.2)) rfl (.cons .rfl (.cons .rfl (.cons .rfl (.cons .rfl (.cons .rfl (.cons .rfl (.cons .rfl (.cons .rfl (.cons .any (.cons .any .nil))))))))))))))) (.cons .rfl (.cons .rfl (.cons .rfl (.cons .rfl (.cons .rfl (.cons .rfl (.cons .rfl (.cons .rfl (.cons .any (.cons .any .nil)))))))))) (fun s_4195 => (s_go (o := (s_4195.1, s_4195.2)) rfl (.cons .rfl (.cons .rfl (.cons .rfl (.cons .rfl (.cons .rfl (.cons .rfl (.cons .rfl (.cons .any (.cons .any (.cons .any .nil)))))))))))))) (.cons .rfl (.cons .rfl (.cons .rfl (.cons .rfl (.cons .rfl (.cons .rfl (.cons .rfl (.cons .any (.cons .any (.cons .any .nil)))))))))) (fun s_4196 => (p_set 6 hnd (x_add (x_var 6 rfl) x_int) (fun at_4197 => (s_go (o := (s_4196.1, s_4196.2, at_4197)) rfl (.cons .rfl (.cons .rfl (.cons .rfl (.cons .rfl (.cons .rfl (.cons .rfl (.cons .rfl (.cons .any (.cons .any (.cons .any .nil)))))))))))))))) (.cons .rfl (.cons .rfl (.cons .rfl (.cons .rfl (.cons .rfl (.cons .rfl (.cons .rfl (.cons .any (.cons .any (.cons .any .nil)))))))))) (fun s_4198 => (s_give 5 rfl (s_append 4 (x_callTy call_tuple_of dTupL T.n_tuple (by decide +kernel) (a_one (x_frzE (f_sortC T.n_sorted (x_var 5 rfl))))) (fun y_4199 => (s_go (o := (s_4198.1, (s_4173.2 ++ [y_4199]))) rfl (.cons .rfl (.cons .rfl (.cons .rfl (.cons .any (.cons .rfl (.cons .any (.cons .any (.cons .any (.cons .any (.cons .any .nil)))))))))))))))))))))) (s_go (o := (s_4173.1, s_4173.2)) rfl (.cons .rfl (.cons .rfl (.cons .rfl (.cons .any (.cons .rfl (.cons .any (.cons .any (.cons .any (.cons .any (.cons .any .nil))))))))))))) (.cons .rfl (.cons .rfl (.cons .rfl (.cons .any (.cons .rfl (.cons .any (.cons .any (.cons .any (.cons .any (.cons .any .nil)))))))))) (fun s_4200 => (s_give 4 rfl (p_retf [] (fun _ => rfl) .nil (x_var 4 rfl)))))))))))) (by unfold m_law_fallen; simp only [ok_bindP, ok_calmP, chk_calmP, opt_calmP, R.bind_pure, R.bind_assoc] <;> rfl))
theorem w_holes_2 (T : Txt K mg Ad) : FnOk P w K mg base (L2.CX P w) 3 Ad.fholes Ad.dholes ["shape"] (SpF mg (t1 (rTu (tc (rT rC) (t1 rB)))) (fun z => oLi (tl (rT rC)) z) (fun a => m_holes_2 a)) :=
  have hnd := scholes.nd
  f_okF (fun a => [im (rTu (tc (rT rC) (t1 rB))) a, .any, .any, .any, .any, .any, .any, .any]) T.F_holes scholes ar1 rfl (by decide) (fun _ => rfl) (fun cdv A outer s H E hr tk hp a => SX.cv (
    (p_expr (x_call (w_look_finite T) (hr.mono (by decide)) T.g_look_finite T.k_look_finite T.b_look_finite tk .nil (a_one (x_var 0 rfl))) (fun _ => (p_ifT (x_tcmp (op_eqD (u64 hr)) (dEqD (kT kC)) (x_pj 0 pj0 (x_var 0 rfl)) (x_tup0 (ρ := rC))) (p_retF (fun w => w) (fun _ => []) (fun _ => rfl) (fun _ => .nil) (f_nil (ρ := (rT rC)))) (p_expr (x_call (w_look_narrow T) (hr.mono (by decide)) T.g_look_narrow T.k_look_narrow T.b_look_narrow tk .nil (a_one (x_var 0 rfl))) (fun _ => (p_setLcM 1 (own := [("cell", 7)]) hnd (i_tup (x_pj 0 pj0 (x_var 0 rfl))) (blkOk_by (N := Nholes) (sc := defScope sholes) (by decide +kernel)) (fun _ _ _ _ _ => (gt_name 7 (by decide) hnd)) (fun _ _ _ _ _ y_4232 => (x_pj 0 pj0 (x_var 7 rfl))) (hr := fun rows_4233 => (s_give 1 rfl (p_setLcM 2 (own := [("cell", 7)]) hnd (i_tup (x_pj 0 pj0 (x_var 0 rfl))) (blkOk_by (N := Nholes) (sc := defScope sholes) (by decide +kernel)) (fun _ _ _ _ _ => (gt_name 7 (by decide) hnd)) (fun _ _ _ _ _ y_4234 => (x_pj 1 (pjs pj1) (x_var 7 rfl))) (hr := fun columns_4235 => (s_give 2 rfl (p_set 3 hnd (x_call (w_noted T) (hr.mono (by decide)) T.g_noted T.k_noted T.b_noted tk .nil (a_one (x_pj 0 pj0 (x_var 0 rfl)))) (fun some_4236 => (p_own 4 hnd (f_nil (ρ := rC)) (fun lacking_4237 => (p_for (vs := [5]) (fun (s : List (Int × Int)) => [im (rTu (tc (rT rC) (t1 rB))) a, im (rL rI) rows_4233, im (rL rI) columns_4235, im (rD kyC rB) some_4236, .own none (oLi (tl rC) s), .any, .any, .any]) _ lacking_4237 hp (i_range2 T.n_range (a_cons (x_sub (x_callB (cr_min rfl) dMin1 T.n_min (by decide +kernel) (a_one (x_var 1 rfl))) x_int) (a_one (x_add (x_callB (cr_max rfl) dMax1 T.n_max (by decide +kernel) (a_one (x_var 1 rfl))) x_int)))) (gt_name 5 (by decide) hnd) (fun s_4243 x_4244 => (p_for (vs := [6]) (fun (s : List (Int × Int)) => [im (rTu (tc (rT rC) (t1 rB))) a, im (rL rI) rows_4233, im (rL rI) columns_4235, im (rD kyC rB) some_4236, .own none (oLi (tl rC) s), im rI x_4244, .any, .any]) _ s_4243 hp (i_range2 T.n_range (a_cons (x_sub (x_callB (cr_min rfl) dMin1 T.n_min (by decide +kernel) (a_one (x_var 2 rfl))) x_int) (a_one (x_add (x_callB (cr_max rfl) dMax1 T.n_max (by decide +kernel) (a_one (x_var 2 rfl))) x_int)))) (gt_name 6 (by decide) hnd) (fun s_4250 x_4251 => (p_if2 (c_tst (c_nin (u1 hr) (x_tup (a_cons (x_var 5 rfl) (a_one (x_var 6 rfl))) (fun _ _ _ h => sz ((nc (fun _ _ _ h => n1 h)) h) (by decide))) (d_imm (x_var 3 rfl)))) (s_append 4 (x_tup (a_cons (x_var 5 rfl) (a_one (x_var 6 rfl))) (fun _ _ _ h => sz ((nc (fun _ _ _ h => n1 h)) h) (by decide))) (fun y_4252 => (s_go (o := (s_4250 ++ [y_4252])) rfl (.cons .rfl (.cons .rfl (.cons .rfl (.cons .rfl (.cons .rfl (.cons .rfl (.cons .any (.cons .any .nil))))))))))) (s_go (o := s_4250) rfl (.cons .rfl (.cons .rfl (.cons .rfl (.cons .rfl (.cons .rfl (.cons .rfl (.cons .any (.cons .any .nil))))))))))) (.cons .rfl (.cons .rfl (.cons .rfl (.cons .rfl (.cons .rfl (.cons .rfl (.cons .any (.cons .any .nil)))))))) (fun s_4253 => (s_go (o := s_4253) rfl (.cons .rfl (.cons .rfl (.cons .rfl (.cons .rfl (.cons .rfl (.cons .any (.cons .any (.cons .any .nil)))))))))))) (.cons .rfl (.cons .rfl (.cons .rfl (.cons .rfl (.cons .rfl (.cons .any (.cons .any (.cons .any .nil)))))))) (fun s_4255 => (s_give 4 rfl (p_retF (fun w => w) (fun _ => []) (fun _ => rfl) (fun _ => .nil) (f_slL (x_call (w_regions T) (hr.mono (by decide)) T.g_regions T.k_regions T.b_regions tk .nil (a_cons (x_var 4 rfl) (a_one (x_globKT (cs := [((-1 : Int), (0 : Int)), ((0 : Int), (-1 : Int)), ((0 : Int), (1 : Int)), ((1 : Int), (0 : Int))]) T.kt_SIDES)))) (o_some x_int) o_none))))))))))))))))))))) (by unfold m_holes_2; simp only [ok_bindP, ok_calmP, chk_calmP, opt_calmP, R.bind_pure, R.bind_assoc] <;> rfl))
theorem w_law_same (T : Txt K mg Ad) (fu : Nat) : FnOk P w K mg base (L2.CX P w) (1 + fu) Ad.f_law_same Ad.d_law_same ["found", "due"] (SpP mg (tc rY (t1 rY)) rB (fun a => m_law_same fu a.1 a.2)) := by
  have hnd := sc_law_same.nd
  induction fu with
  | zero => exact f_ok (fun a => [im rY a.1, im rY a.2, .any, .any]) T.F__law_same sc_law_same (arc ar1) rfl (by decide) (fun _ => rfl) (fun cdv A outer s H E hr tk hp a => SX.cv (s_bad) (by simp only [m_law_same]))
  | succ fu ih => exact f_ok (fun a => [im rY a.1, im rY a.2, .any, .any]) T.F__law_same sc_law_same (arc ar1) rfl (by decide) (fun _ => rfl) (fun cdv A outer s H E hr tk hp a => SX.cv (
    (p_ifT (c_tst (c_isNY (x_var 1 rfl))) (p_retf [] (fun _ => rfl) .nil (c_val (c_isNY (x_var 0 rfl)))) (p_ifT (x_test (x_isi (T := "bool") Dy.isBl tyY ky_bool T.n_isinstance T.n_bool (by decide +kernel) (x_var 1 rfl))) (p_retf [] (fun _ => rfl) .nil (x_and (x_isi (T := "bool") Dy.isBl tyY ky_bool T.n_isinstance T.n_bool (by decide +kernel) (x_var 0 rfl)) (x_one (x_cmp (op_eqD (u64 hr)) dEqY (x_var 0 rfl) (x_var 1 rfl))))) (p_ifT (x_test (x_isi (T := "int") Dy.isInt tyY ky_int T.n_isinstance T.n_int (by decide +kernel) (x_var 1 rfl))) (p_retf [] (fun _ => rfl) .nil (x_and (x_isi (T := "int") Dy.isInt tyY ky_int T.n_isinstance T.n_int (by decide +kernel) (x_var 0 rfl)) (x_and (x_not (x_isi (T := "bool") Dy.isBl tyY ky_bool T.n_isinstance T.n_bool (by decide +kernel) (x_var 0 rfl))) (x_one (x_cmp (op_eqD (u64 hr)) dEqY (x_var 0 rfl) (x_var 1 rfl)))))) (p_ifT (x_test (x_isi (T := "str") Dy.isStr tyY ky_str T.n_isinstance T.n_str (by decide +kernel) (x_var 1 rfl))) (p_retf [] (fun _ => rfl) .nil (x_and (x_isi (T := "str") Dy.isStr tyY ky_str T.n_isinstance T.n_str (by decide +kernel) (x_var 0 rfl)) (x_one (x_cmp (op_eqD (u64 hr)) dEqY (x_var 0 rfl) (x_var 1 rfl))))) (p_ifT (x_w (w_or2 (x_w (w_and2 (x_test (x_isi (T := "tuple") Dy.isTup tyY ky_tuple T.n_isinstance T.n_tuple (by decide +kernel) (x_var 1 rfl))) (w_and1 (x_tnot (x_test (x_isi (T := "tuple") Dy.isTup tyY ky_tuple T.n_isinstance T.n_tuple (by decide +kernel) (x_var 0 rfl))))))) (w_or1 (x_w (w_and2 (x_test (x_isi (T := "list") Dy.isLst tyY ky_list T.n_isinstance T.n_list (by decide +kernel) (x_var 1 rfl))) (w_and1 (x_tnot (x_test (x_isi (T := "list") Dy.isLst tyY ky_list T.n_isinstance T.n_list (by decide +kernel) (x_var 0 rfl)))))))))) (p_retf [] (fun _ => rfl) .nil x_bl) (p_retf [] (fun _ => rfl) .nil (x_and (x_cmp op_eq dEqI (x_len dLenY T.n_len (a_one (x_var 0 rfl))) (x_len dLenY T.n_len (a_one (x_var 1 rfl)))) (x_one (x_callB (cr_all rfl) dAll T.n_all (by decide +kernel) (a_one (x_frzE (f_lcM (own := [("one", 2), ("other", 3)]) hnd (i_zipY T.n_zip (a_cons (x_var 0 rfl) (a_one (x_var 1 rfl)))) (blkOk_by (N := N_law_same) (sc := defScope s_law_same) (by decide +kernel)) (fun _ _ _ _ _ => (gt_tup rfl (gts_cons (gt_name 2 (by decide) hnd) (gts_one (gt_name 3 (by decide) hnd))))) (fun _ _ _ _ _ y_4268 => (x_call ih (hr.mono (Nat.le_refl _)) T.g__law_same T.k__law_same T.b__law_same takes0 .nil (a_cons (x_var 2 rfl) (a_one (x_var 3 rfl)))))))))))))))))) (by simp only [m_law_same, ok_bindP, ok_calmP, chk_calmP, opt_calmP, R.bind_pure, R.bind_assoc] <;> rfl))
theorem w_law (T : Txt K mg Ad) : FnOk P w K mg base (L2.CX P w) 10 Ad.flaw Ad.dlaw ["script"] (SpP mg (t1 (rScr K)) rB (fun a => m_law a)) :=
  have hnd := sclaw.nd
  f_ok (fun a => [im (rScr K) a, .any, .any, .any, .any, .any, .any, .any]) T.F_law sclaw ar1 rfl (by decide) (fun _ => rfl) (fun cdv A outer s H E hr tk hp a => SX.cv (
    (p_forO (vs := [1]) (fun (s : Unit) => [im (rScr K) a, .any, .any, .any, .any, .any, .any, .any]) (rtP rB) (fun a => a) _ () hp (i_list (x_frzE (f_catL (x_frzE (f_listN (k := 1) (ln_cons (x_call (w_law_cell T) (hr.mono (by decide)) T.g__law_cell T.k__law_cell T.b__law_cell tk .nil (a_cons (x_var 0 rfl) (a_one x_int))) ln_nil))) (x_frzE (f_slS (x_var 0 rfl) (o_some x_int) (o_some x_int)))))) (gt_name 1 (by decide) hnd) (fun s_4285 x_4286 => (p_asg (vs := [5, 6]) (gt_tup rfl (gts_cons (gt_name 5 (by decide) hnd) (gts_one (gt_name 6 (by decide) hnd)))) (x_call (w_law_board T) (hr.mono (by decide)) T.g__law_board T.k__law_board T.b__law_board tk .nil (a_one (x_call (w_law_deal T) (hr.mono (by decide)) T.g__law_deal T.k__law_deal T.b__law_deal tk .nil (a_cons (x_var 1 rfl) (a_one x_int))))) (fun p_4288 => (p_asg (vs := [6, 7]) (gt_tup rfl (gts_cons (gt_name 6 (by decide) hnd) (gts_one (gt_name 7 (by decide) hnd)))) (x_dvmC T.n_divmod (x_var 6 rfl) x_int) (fun p_4289 => (p_ifJ (fun (s : List (Int × Int)) => [im (rScr K) a, im rI x_4286, .any, .any, .any, im (rT rC) s, im rI p_4289.1, im rI p_4289.2]) (x_tcmp op_eq dEqI (x_var 7 rfl) x_int) (p_set 5 hnd (x_call (w_law_far T) (hr.mono (by decide)) T.g__law_far T.k__law_far T.b__law_far tk .nil (a_cons (x_var 5 rfl) (a_one (x_var 6 rfl)))) (fun cells_4290 => (s_nx (o := cells_4290) rfl (.cons .rfl (.cons .rfl (.cons .any (.cons .any (.cons .any (.cons .rfl (.cons .rfl (.cons .rfl .nil))))))))))) (s_nx (o := p_4288.1) rfl (.cons .rfl (.cons .rfl (.cons .any (.cons .any (.cons .any (.cons .rfl (.cons .rfl (.cons .rfl .nil))))))))) (fun s_4291 => (p_ifJ (fun (s : List (Int × Int)) => [im (rScr K) a, im rI x_4286, .any, .any, .any, im (rT rC) s, im rI p_4289.1, im rI p_4289.2]) (x_tcmp op_eq dEqI (x_modC (x_var 6 rfl)) x_int) (p_set 5 hnd (x_call (w_law_ring T) (hr.mono (by decide)) T.g__law_ring T.k__law_ring T.b__law_ring tk .nil (a_one (x_fdivC (x_var 6 rfl)))) (fun cells_4292 => (s_nx (o := cells_4292) rfl (.cons .rfl (.cons .rfl (.cons .any (.cons .any (.cons .any (.cons .rfl (.cons .rfl (.cons .rfl .nil))))))))))) (s_nx (o := s_4291) rfl (.cons .rfl (.cons .rfl (.cons .any (.cons .any (.cons .any (.cons .rfl (.cons .rfl (.cons .rfl .nil))))))))) (fun s_4293 => (p_set 2 hnd (x_tup (a_cons (x_var 5 rfl) (a_one x_bl)) (fun _ _ _ h => sz ((nc (fun _ _ _ h => n1 h)) h) (by decide))) (fun shape_4294 => (p_ifT (x_tcmp op_ge dIb (x_call (w_law_spans T) (hr.mono (by decide)) T.g__law_spans T.k__law_spans T.b__law_spans tk .nil (a_one (x_var 5 rfl))) x_int) (p_ifT (x_tnot (x_test (x_call (w_law_refused T) (hr.mono (by decide)) T.g__law_refused T.k__law_refused T.b__law_refused tk .nil (a_one (x_var 2 rfl))))) (p_ret (fun w => Stp.rt w) [] (fun _ => rfl) .nil x_bl) (p_ct (o := (Stp.nx ())) rfl (.cons .rfl (.cons .any (.cons .any (.cons .any (.cons .any (.cons .any (.cons .any (.cons .any .nil)))))))))) (p_set 3 hnd (x_frzE (f_nil (ρ := (rT rC)))) (fun due_4298 => (p_ifJ (fun (s : List (List (Int × Int))) => [im (rScr K) a, im rI x_4286, im (rTu (tc (rT rC) (t1 rB))) shape_4294, im (rL (rT rC)) s, .any, im (rT rC) s_4293, im rI p_4289.1, im rI p_4289.2]) (x_tcmp (op_neD (u64 hr)) (dNeD (kT kC)) (x_var 5 rfl) (x_tup0 (ρ := rC))) (p_set 3 hnd (x_frzE (f_slL (x_call (w_law_fallen T) (hr.mono (by decide)) T.g__law_fallen T.k__law_fallen T.b__law_fallen tk .nil (a_cons (x_call (w_law_lacking T) (hr.mono (by decide)) T.g__law_lacking T.k__law_lacking T.b__law_lacking tk .nil (a_one (x_var 5 rfl))) (a_one x_bl))) (o_some x_int) o_none)) (fun due_4302 => (s_nx (o := due_4302) rfl (.cons .rfl (.cons .rfl (.cons .rfl (.cons .rfl (.cons .any (.cons .rfl (.cons .rfl (.cons .rfl .nil))))))))))) (s_nx (o := due_4298) rfl (.cons .rfl (.cons .rfl (.cons .rfl (.cons .rfl (.cons .any (.cons .rfl (.cons .rfl (.cons .rfl .nil))))))))) (fun s_4303 => (p_own 4 hnd (f_call (w_holes_2 T) (hr.mono (by decide)) T.g_holes T.k_holes T.b_holes tk .nil (a_one (x_var 2 rfl))) (fun told_4304 => (p_ifT (x_tnot (x_test (x_peek 4 rfl pkL toB (x_call (w_law_same T 8) (hr.mono (by decide)) T.g__law_same T.k__law_same T.b__law_same tk .nil (a_cons (x_cv (cvY (yL (yT (yTu (yc yI (y1 yI)))))) (x_var 4 rfl)) (a_one (x_cv (cvY (yL (yT (yTu (yc yI (y1 yI)))))) (x_var 3 rfl)))))))) (p_ret (fun w => Stp.rt w) [] (fun _ => rfl) .nil x_bl) (s_append 4 (x_tup0 (ρ := rC)) (fun y_4306 => (p_ifT (x_tnot (x_test (x_call (w_law_same T 8) (hr.mono (by decide)) T.g__law_same T.k__law_same T.b__law_same tk .nil (a_cons (x_cv (cvY (yL (yT (yTu (yc yI (y1 yI)))))) (x_call (w_holes T) (hr.mono (by decide)) T.g_holes T.k_holes T.b_holes tk .nil (a_one (x_var 2 rfl)))) (a_one (x_cv (cvY (yL (yT (yTu (yc yI (y1 yI)))))) (x_var 3 rfl))))))) (p_ret (fun w => Stp.rt w) [] (fun _ => rfl) .nil x_bl) (s_go (o := (Stp.nx ())) rfl (.cons .rfl (.cons .any (.cons .any (.cons .any (.cons .any (.cons .any (.cons .any (.cons .any .nil))))))))))))))))))))))))))))))) (.cons .rfl (.cons .any (.cons .any (.cons .any (.cons .any (.cons .any (.cons .any (.cons .any .nil)))))))) (fun a => .rtf rfl) (fun s_4314 => (p_retf [] (fun _ => rfl) .nil x_bl)))) (by unfold m_law; simp only [ok_bindP, ok_calmP, chk_calmP, opt_calmP, R.bind_pure, R.bind_assoc] <;> rfl))
end
end G

namespace G
open PySem PySem.Spec PyProof.Rows L2 Py
theorem at4 {α : Type} (a b c d : α) (i : Int) (h0 : 0 ≤ i) (h : i < 4) : ∃ x, atI [a, b, c, d] i = some x ∧ (x = a ∨ x = b ∨ x = c ∨ x = d) := by
  have h' : i = 0 ∨ i = 1 ∨ i = 2 ∨ i = 3 := by omega
  rcases h' with rfl | rfl | rfl | rfl
  · exact ⟨a, rfl, by simp⟩
  · exact ⟨b, rfl, by simp⟩
  · exact ⟨c, rfl, by simp⟩
  · exact ⟨d, rfl, by simp⟩
theorem at2 {α : Type} (a b : α) (i : Int) (h0 : 0 ≤ i) (h : i < 2) : ∃ x, atI [a, b] i = some x ∧ (x = a ∨ x = b) := by
  have h' : i = 0 ∨ i = 1 := by omega
  rcases h' with rfl | rfl
  · exact ⟨a, rfl, by simp⟩
  · exact ⟨b, rfl, by simp⟩
theorem atN {α : Type} {xs : List α} (i : Int) (h0 : 0 ≤ i) (h : i < (xs.length : Nat)) : ∃ x, atI xs i = some x ∧ x ∈ xs := by
  obtain ⟨k, rfl⟩ : ∃ k : Nat, i = (k : Int) := ⟨i.toNat, by omega⟩
  have hk : k < xs.length := by omega
  exact ⟨xs[k], atI_nat (List.getElem?_eq_getElem hk), List.getElem_mem hk⟩
theorem up_nodup {xs : List (Int × Int)} (h : Up xs) : xs.Nodup := (List.Pairwise.imp (fun {a b} (z : ltC a b = true) (e : a = b) => ltC_irrefl a (by rw [← e] at z; exact z)) h : xs.Pairwise (· ≠ ·))
theorem sortC_rise {xs : List (Int × Int)} (h : xs.Nodup) : sortC xs = rise xs := by
  have p : (rise xs).Perm xs := (List.perm_ext_iff_of_nodup (up_nodup (up_rise xs)) h).mpr fun c => mem_rise c xs
  exact asc_eq totC (asc_srt totC xs) (up_asc (up_rise xs)) ((perm_srt xs).trans p.symm)
theorem keys_dPut {κ ν : Type} [DecidableEq κ] (d : List (κ × ν)) (k : κ) (v : ν) : (dPut d k v).map Prod.fst = if k ∈ d.map Prod.fst then d.map Prod.fst else d.map Prod.fst ++ [k] := by
  unfold dPut
  by_cases h : (d.any fun q => decide (q.1 = k)) = true
  · have hm : k ∈ d.map Prod.fst := by
      obtain ⟨q, hq, e⟩ := List.any_eq_true.mp h
      exact List.mem_map.mpr ⟨q, hq, by simpa using e⟩
    rw [if_pos h, if_pos hm, List.map_map]
    refine List.map_congr_left fun q _ => ?_
    by_cases e : q.1 = k <;> simp [e]
  · have hm : k ∉ d.map Prod.fst := fun z => by
      obtain ⟨q, hq, e⟩ := List.mem_map.mp z
      exact h (List.any_eq_true.mpr ⟨q, hq, by simpa using e⟩)
    rw [if_neg h, if_neg hm, List.map_append]
    rfl
/-- a dict's keys, as a set -/
structure Keys {κ ν : Type} (d : List (κ × ν)) (S : κ → Prop) (n : Nat) : Prop where
  nd : (d.map Prod.fst).Nodup
  mem : ∀ c, c ∈ d.map Prod.fst ↔ S c
  len : d.length ≤ n
theorem Keys.nil {κ ν : Type} : Keys ([] : List (κ × ν)) (fun _ => False) 0 := ⟨List.Pairwise.nil, fun c => by simp, Nat.le_refl _⟩
theorem Keys.put {κ ν : Type} [DecidableEq κ] {d : List (κ × ν)} {S : κ → Prop} {n : Nat} (h : Keys d S n) (k : κ) (v : ν) : Keys (dPut d k v) (fun c => S c ∨ c = k) (n + 1) := by
  refine ⟨?_, fun c => ?_, ?_⟩
  · rw [keys_dPut]
    split
    · exact h.nd
    · next hk =>
      exact List.nodup_append.mpr ⟨h.nd, by simp, fun a ha b hb e => by
        rw [List.mem_singleton.mp hb] at e
        exact hk (e ▸ ha)⟩
  · rw [keys_dPut]
    split
    · next hk =>
      rw [h.mem]
      exact ⟨.inl, fun z => z.elim id fun e => by rw [e]; exact (h.mem k).mp hk⟩
    · rw [List.mem_append, h.mem, List.mem_singleton]
  · have := len_dPut d k v
    have := h.len
    omega
theorem Keys.cong {κ ν : Type} {d : List (κ × ν)} {S T : κ → Prop} {n : Nat} (h : Keys d S n) (e : ∀ c, S c ↔ T c) : Keys d T n := ⟨h.nd, fun c => (h.mem c).trans (e c), h.len⟩
theorem Keys.sorted {ν : Type} {d : List ((Int × Int) × ν)} {S : Int × Int → Prop} {n : Nat} (h : Keys d S n) : Up (sortC (d.map Prod.fst)) ∧ (∀ c, c ∈ sortC (d.map Prod.fst) ↔ S c) ∧ (sortC (d.map Prod.fst)).length ≤ n := by
  refine ⟨?_, fun c => ?_, ?_⟩
  · rw [sortC_rise h.nd]
    exact up_rise _
  · rw [sortC_rise h.nd, mem_rise, h.mem]
  · rw [sortC_rise h.nd]
    exact Nat.le_trans (len_rise _) (by rw [List.length_map]; exact h.len)
theorem cell_ok (ns : List Int) {k : Int} (h : 0 ≤ k) : Gd (m_law_cell ns k) fun _ => True := by
  unfold m_law_cell
  refine Gd.ite (fun c => ?_) fun _ => Gd.ok trivial
  simp only [decide_eq_true_eq] at c
  obtain ⟨x, e, _⟩ := atN (xs := ns) k h c
  rw [e]
  exact Gd.of rfl trivial
theorem deal2_ok (c salt : Int) : Gd (m_law_deal c salt) fun _ => True := by
  unfold m_law_deal
  refine Gd.ite (fun _ => Gd.ok trivial) fun _ => ?_
  refine (Gd.forR (I := fun _ => True) (fun s x hx _ => ?_) trivial).bind fun s _ => Gd.ok trivial
  have hx2 := mem_rangeI.mp hx
  refine Gd.bind (P := fun r : Int => r.natAbs < 2 ^ 31) (Gd.bind (P := fun _ => True) (Gd.bind (P := fun _ => True) (Gd.bind (P := fun _ => True) (Gd.bind (P := fun _ => True) (Gd.bind (P := fun _ => True) (Gd.chk (mulW_ok 20 (by decide) (by omega) (by omega)) trivial) fun _ _ => Gd.ok trivial) fun _ _ => Gd.ok trivial) fun _ _ => Gd.ok trivial) fun _ _ => Gd.ok trivial) fun a _ => Gd.ok (mod_small 31 (by decide) (by decide))) fun one h1 => ?_
  exact Gd.bind (P := fun _ => True) (Gd.bind (P := fun _ => True) (Gd.chk (mulW_ok 31 (by decide) h1 h1) trivial) fun _ _ => Gd.ok trivial) fun _ _ => Gd.ok trivial
theorem base2_ok (n : Int) : Gd (m_law_base n) fun _ => True := by
  unfold m_law_base
  refine Gd.ite (fun _ => Gd.ok trivial) fun h => ?_
  simp only [decide_eq_true_eq] at h
  have w0 : 0 ≤ n % 5 := by omega
  have w1 : n % 5 < 2 := by
    have h' : ¬ (1 : Int) < n % 5 := h
    omega
  obtain ⟨x, ex, hx⟩ := at2 ((2 : Int) * 1000000000000 + 1) 2 (n % 5) w0 w1
  have dv : CDv x := by rcases hx with rfl | rfl <;> exact dv_ok (by decide) 50 (by decide) (by decide)
  have x1 : 0 < x ∧ x ≤ 2000000000001 := by rcases hx with rfl | rfl <;> decide
  obtain ⟨y, ey, hy⟩ := at2 (1 : Int) ((2 : Int) * 1000000000000) (n % 5) w0 w1
  have y1 : y.natAbs < 2 ^ 50 := by rcases hy with rfl | rfl <;> decide
  refine Gd.bind (P := fun p : Int × Int => 0 ≤ p.2 ∧ p.2 < x) (Gd.bind (P := fun q => q.2 = x) (Gd.optB ex (Gd.ok rfl)) fun q e => ?_) fun p hp => ?_
  · rw [e]
    exact Gd.chk dv ⟨Int.emod_nonneg _ (by omega), Int.emod_lt_of_pos _ x1.1⟩
  refine Gd.bind (P := fun p : Int × Int => 0 ≤ p.2 ∧ p.2 < x) (Gd.bind (P := fun q => q.2 = x) (Gd.optB ex (Gd.ok rfl)) fun q e => ?_) fun p' hp' => ?_
  · rw [e]
    exact Gd.chk dv ⟨Int.emod_nonneg _ (by omega), Int.emod_lt_of_pos _ x1.1⟩
  refine Gd.optB ey ?_
  refine Gd.bind (P := fun _ => True) (Gd.bind (P := fun _ => True) (Gd.chkB (mulW_ok 50 (by decide) (by omega) y1) (Gd.ok trivial)) fun _ _ => Gd.bind (P := fun _ => True) (Gd.chkB (mulW_ok 50 (by decide) (by omega) y1) (Gd.ok trivial)) fun _ _ => Gd.ok trivial) fun _ _ => Gd.ok trivial
theorem len_drop {κ ν : Type} [DecidableEq κ] : ∀ {d : List (κ × ν)} {k : κ}, (d.map Prod.fst).Nodup → k ∈ d.map Prod.fst → (dDrop d k).length + 1 = d.length
  | [], k, _, h => nomatch h
  | q :: d, k, nd, h => by
    rw [List.map_cons, List.nodup_cons] at nd
    unfold dDrop
    by_cases e : q.1 = k
    · rw [List.filter_cons_of_neg (by simp [e])]
      have z : d.filter (fun q => decide (q.1 ≠ k)) = d := List.filter_eq_self.mpr fun r hr => decide_eq_true fun e2 => nd.1 (by rw [e, ← e2]; exact List.mem_map.mpr ⟨r, hr, rfl⟩)
      rw [z]
      rfl
    · rw [List.filter_cons_of_pos (by simp [e])]
      have hk : k ∈ d.map Prod.fst := by
        rw [List.map_cons] at h
        exact (List.mem_cons.mp h).resolve_left fun z => e z.symm
      have := len_drop nd.2 hk
      unfold dDrop at this
      simp only [List.length_cons]
      omega
theorem nd_drop {κ ν : Type} [DecidableEq κ] {d : List (κ × ν)} {k : κ} (nd : (d.map Prod.fst).Nodup) : ((dDrop d k).map Prod.fst).Nodup := List.Pairwise.sublist (List.Sublist.map _ List.filter_sublist) nd
theorem get_key {κ ν : Type} [DecidableEq κ] {d : List (κ × ν)} {k : κ} (h : k ∈ d.map Prod.fst) : (dGet d k).isSome = true := by
  obtain ⟨q, hq, e⟩ := List.mem_map.mp h
  unfold dGet
  cases hf : d.find? fun q => decide (q.1 = k) with
  | none =>
    have := List.find?_eq_none.mp hf q hq
    simp [e] at this
  | some r => rfl
/-- for x in xs: d[f x] = True -/
theorem Keys.fill {α κ : Type} [DecidableEq κ] {d : List (κ × Bool)} {S : κ → Prop} {n : Nat} {xs : List α} (f : α → κ) (h : Keys d S n) (hn : n + xs.length ≤ 90000) :
    Gd (forR (fun d x => (chk (d.length < sizeLine) ()).bind fun _ => R.ok (dPut d (f x) true)) xs d) fun d' => Keys d' (fun c => S c ∨ ∃ x ∈ xs, c = f x) (n + xs.length) := by
  refine Gd.forRl (I := fun p d' => Keys d' (fun c => S c ∨ ∃ x ∈ p, c = f x) (n + p.length)) (fun p x t s e hi => ?_) (h.cong fun c => by simp)
  have z := congrArg List.length e
  simp only [List.length_append, List.length_cons] at z
  have := hi.len
  refine Gd.chkB (small_lt (by omega)) (Gd.ok ?_)
  have k := hi.put (f x) true
  rw [List.length_append]
  refine Keys.cong k fun c => ?_
  constructor
  · rintro ((h | ⟨y, hy, e⟩) | h)
    · exact .inl h
    · exact .inr ⟨y, List.mem_append_left _ hy, e⟩
    · exact .inr ⟨x, List.mem_append_right _ List.mem_cons_self, h⟩
  · rintro (h | ⟨y, hy, e⟩)
    · exact .inl (.inl h)
    · rcases List.mem_append.mp hy with q | q
      · exact .inl (.inr ⟨y, q, e⟩)
      · rw [List.mem_singleton.mp q] at e
        exact .inr e
/-- .. where the turn is any that puts f x -/
theorem Keys.fillM {α κ : Type} [DecidableEq κ] {d : List (κ × Bool)} {S : κ → Prop} {n : Nat} {xs : List α} (f : α → κ) {g : List (κ × Bool) → α → R (List (κ × Bool))} (h : Keys d S n) (hn : n + xs.length ≤ 90000)
    (hg : ∀ d x, x ∈ xs → d.length ≤ 90000 → g d x = .ok (dPut d (f x) true)) :
    Gd (forR g xs d) fun d' => Keys d' (fun c => S c ∨ ∃ x ∈ xs, c = f x) (n + xs.length) := by
  refine Gd.forRl (I := fun p d' => Keys d' (fun c => S c ∨ ∃ x ∈ p, c = f x) (n + p.length)) (fun p x t s e hi => ?_) (h.cong fun c => by simp)
  have z := congrArg List.length e
  simp only [List.length_append, List.length_cons] at z
  have := hi.len
  refine Gd.of (hg s x (by rw [e]; simp) (by omega)) ?_
  have k := hi.put (f x) true
  rw [List.length_append]
  refine Keys.cong k fun c => ?_
  constructor
  · rintro ((h | ⟨y, hy, e⟩) | h)
    · exact .inl h
    · exact .inr ⟨y, List.mem_append_left _ hy, e⟩
    · exact .inr ⟨x, List.mem_append_right _ List.mem_cons_self, h⟩
  · rintro (h | ⟨y, hy, e⟩)
    · exact .inl (.inl h)
    · rcases List.mem_append.mp hy with q | q
      · exact .inl (.inr ⟨y, q, e⟩)
      · rw [List.mem_singleton.mp q] at e
        exact .inr e
theorem dGet_some {κ ν : Type} [DecidableEq κ] (d : List (κ × ν)) (k : κ) : (dGet d k).isSome = decide (k ∈ d.map Prod.fst) := by
  unfold dGet
  rw [Option.isSome_map, Bool.eq_iff_iff, List.find?_isSome, decide_eq_true_eq, List.mem_map]
  constructor
  · rintro ⟨q, hq, e⟩
    exact ⟨q, hq, by simpa using e⟩
  · rintro ⟨q, hq, e⟩
    exact ⟨q, hq, by simpa using e⟩
theorem Keys.has {κ ν : Type} [DecidableEq κ] {d : List (κ × ν)} {S : κ → Prop} [DecidablePred S] {n : Nat} (h : Keys d S n) (k : κ) : (dGet d k).isSome = decide (S k) := by
  rw [dGet_some, Bool.eq_iff_iff, decide_eq_true_eq, decide_eq_true_eq, h.mem]
/-! ### two values told alike -/
def OkD : Nat → Dy → Prop
  | 0, _ => False
  | n + 1, .tup l => l.length ≤ 9800 ∧ ∀ x ∈ l, OkD n x
  | n + 1, .lst l => l.length ≤ 9800 ∧ ∀ x ∈ l, OkD n x
  | _ + 1, .str s => PyData.strOk s = true
  | _ + 1, _ => True
theorem mem_zip_self {α : Type} : ∀ {l : List α} {q : α × α}, q ∈ l.zip l → q.1 ∈ l ∧ q.2 = q.1
  | x :: l, q, h => by
    rw [List.zip_cons_cons] at h
    rcases List.mem_cons.mp h with e | h
    · subst e
      exact ⟨List.mem_cons_self, rfl⟩
    · obtain ⟨h1, h2⟩ := mem_zip_self h
      exact ⟨List.mem_cons_of_mem _ h1, h2⟩
theorem all_map_true {α : Type} (l : List α) : (l.map fun _ => true).all id = true := by
  rw [List.all_eq_true]
  intro x hx
  obtain ⟨_, _, rfl⟩ := List.mem_map.mp hx
  rfl
theorem same_ok : ∀ (n : Nat) (d : Dy), OkD n d → m_law_same n d d = .ok true
  | 0, _, h => h.elim
  | n + 1, d, h => by
    have row : ∀ l : List Dy, l.length ≤ 9800 → (∀ x ∈ l, OkD n x) → ((mapR (fun y : Dy × Dy => m_law_same n y.1 y.2) (l.zip l)).bind fun ys => chk (ys.length ≤ sizeLine) ys) = .ok ((l.zip l).map fun _ => true) := fun l hl hx => by
      refine Gd.eq ?_
      refine Gd.mapRB (g := fun _ => true) (fun q hq => ?_) (Gd.chk (small_size (by rw [List.length_map, List.length_zip]; omega)) rfl)
      obtain ⟨h1, h2⟩ := mem_zip_self hq
      rw [h2]
      exact same_ok n q.1 (hx _ h1)
    cases d with
    | non => rfl
    | int i => simp [m_law_same, Dy.isN, Dy.isBl, Dy.isInt, Dy.shp, Dy.eqv, Dy.dat, chk, SeqAt.shaped, PyData.eqv, PyData.canLay0, PyData.depth]
    | bl i => simp [m_law_same, Dy.isN, Dy.isBl, Dy.isInt, Dy.shp, Dy.eqv, Dy.dat, chk, SeqAt.shaped, PyData.eqv, PyData.canLay0, PyData.depth]
    | str i =>
      have h' : PyData.strOk i = true := h
      simp [h', m_law_same, Dy.isN, Dy.isBl, Dy.isInt, Dy.isStr, Dy.shp, Dy.eqv, Dy.dat, chk, SeqAt.shaped, PyData.eqv, PyData.canLay0, PyData.depth]
    | tup l =>
      have r := row l h.1 h.2
      simp only [m_law_same, Dy.isN, Dy.isBl, Dy.isInt, Dy.isStr, Dy.isTup, Dy.isLst, Dy.len, Dy.zip, ofOpt, ok_bindP]
      simp only [Bool.false_eq_true, if_false, Bool.not_true, Bool.and_false, Bool.or_false, Bool.false_and, decide_true, if_true, r, ok_bindP, all_map_true]
    | lst l =>
      have r := row l h.1 h.2
      simp only [m_law_same, Dy.isN, Dy.isBl, Dy.isInt, Dy.isStr, Dy.isTup, Dy.isLst, Dy.len, Dy.zip, ofOpt, ok_bindP]
      simp only [Bool.false_eq_true, if_false, Bool.not_true, Bool.and_false, Bool.or_false, Bool.false_and, decide_true, if_true, r, ok_bindP, all_map_true]
/-! ### the four about -/
def AR : List (Int × Int) := [((-1 : Int), (0 : Int)), ((0 : Int), (-1 : Int)), ((0 : Int), (1 : Int)), ((1 : Int), (0 : Int))]
def Nb (a b : Int × Int) : Prop := ∃ s ∈ AR, b = (a.1 + s.1, a.2 + s.2)
theorem ar_iff (s : Int × Int) : s ∈ AR ↔ (-1 ≤ s.1 ∧ s.1 ≤ 1 ∧ -1 ≤ s.2 ∧ s.2 ≤ 1) ∧ s ≠ (0, 0) ∧ (s.1 = 0 ∨ s.2 = 0) := by
  obtain ⟨a, b⟩ := s
  unfold AR
  simp only [List.mem_cons, Prod.mk.injEq, List.not_mem_nil, or_false, ne_eq]
  omega
theorem nb_sym {a b : Int × Int} (h : Nb a b) : Nb b a := by
  obtain ⟨s, hs, rfl⟩ := h
  refine ⟨(-s.1, -s.2), ?_, ?_⟩
  · rw [ar_iff] at hs ⊢
    obtain ⟨h1, h2, h3⟩ := hs
    refine ⟨by simp only; omega, fun z => h2 ?_, by simp only; omega⟩
    injection z with z1 z2
    ext <;> simp <;> omega
  · ext <;> simp <;> omega
/-! ### floods -/
theorem Keys.drop {κ ν : Type} [DecidableEq κ] {d : List (κ × ν)} {S : κ → Prop} {n : Nat} (h : Keys d S n) (k : κ) : Keys (dDrop d k) (fun c => S c ∧ c ≠ k) n := by
  refine ⟨nd_drop h.nd, fun c => ?_, Nat.le_trans (List.length_filter_le ..) h.len⟩
  rw [← h.mem c]
  unfold dDrop
  simp only [List.mem_map, List.mem_filter, decide_eq_true_eq]
  constructor
  · rintro ⟨q, ⟨hq, ne⟩, rfl⟩
    exact ⟨⟨q, hq, rfl⟩, ne⟩
  · rintro ⟨⟨q, hq, rfl⟩, ne⟩
    exact ⟨q, ⟨hq, ne⟩, rfl⟩
theorem Gd.whileR {τ : Type} {c : τ → R Bool} {f : τ → R τ} {I : τ → Prop} (μ : τ → Nat) (hc : ∀ s, I s → ∃ b, c s = .ok b ∧ (b = true → Gd (f s) fun s' => I s' ∧ μ s' < μ s)) : ∀ (n : Nat) (s : τ), I s → μ s < n → Gd (Py.whileR c f n s) fun s' => I s' ∧ c s' = .ok false
  | 0, _, _, h => absurd h (Nat.not_lt_zero _)
  | n + 1, s, hi, hn => by
    obtain ⟨b, eb, hb⟩ := hc s hi
    unfold Py.whileR
    refine Gd.eqB eb ?_
    cases b with
    | false =>
      rw [if_neg Bool.false_ne_true]
      exact Gd.ok ⟨hi, eb⟩
    | true =>
      rw [if_pos rfl]
      exact (hb rfl).bind fun s' hs' => Gd.whileR μ hc n s' hs'.1 (by omega)
inductive Re (D : Int × Int → Prop) (a : Int × Int) : Int × Int → Prop
  | base : Re D a a
  | step {b c : Int × Int} : Re D a b → Nb b c → D c → Re D a c
theorem Re.mem {D : Int × Int → Prop} {a b : Int × Int} (ha : D a) (h : Re D a b) : D b := by
  cases h with
  | base => exact ha
  | step _ _ h => exact h
theorem Re.trans {D : Int × Int → Prop} {a b c : Int × Int} (h : Re D a b) (k : Re D b c) : Re D a c := by
  induction k with
  | base => exact h
  | step _ n d ih => exact .step ih n d
structure FI (D : Int × Int → Prop) (st : Int × Int) (n : Nat) (d : List ((Int × Int) × Bool)) (f : List (Int × Int)) : Prop where
  keys : Keys d (fun c => D c ∧ c ∉ f) n
  nd : f.Nodup
  re : ∀ c ∈ f, Re D st c
  inD : ∀ c ∈ f, D c
  st : st ∈ f
  len : f.length + d.length ≤ n
theorem get_iff {κ ν : Type} [DecidableEq κ] (d : List (κ × ν)) (k : κ) : (dGet d k).isSome = true ↔ k ∈ d.map Prod.fst := by
  rw [dGet_some, decide_eq_true_iff]
theorem has_key {d : List ((Int × Int) × Bool)} {S : Int × Int → Prop} {n : Nat} (h : Keys d S n) (c : Int × Int) : (dGet d c).isSome = true ↔ S c := by
  rw [get_iff, h.mem]
theorem FI.visit {D : Int × Int → Prop} {st : Int × Int} {n : Nat} {d : List ((Int × Int) × Bool)} {f : List (Int × Int)} (h : FI D st n d f) {near : Int × Int} (hb : near ∈ f ∨ ∃ b ∈ f, Nb b near) (hk : (dGet d near).isSome = true) : FI D st n (dDrop d near) (f ++ [near]) := by
  obtain ⟨hD, hn⟩ := (has_key h.keys near).mp hk
  have hl := len_drop h.keys.nd ((h.keys.mem near).mpr ⟨hD, hn⟩)
  obtain ⟨b, hb, nb⟩ := hb.resolve_left hn
  refine ⟨(h.keys.drop near).cong fun c => ?_, ?_, fun c hc => ?_, fun c hc => ?_, List.mem_append_left _ h.st, ?_⟩
  · simp only [List.mem_append, List.mem_singleton, not_or]
    exact ⟨fun ⟨⟨a, b⟩, c⟩ => ⟨a, b, c⟩, fun ⟨a, b, c⟩ => ⟨⟨a, b⟩, c⟩⟩
  · refine List.nodup_append.mpr ⟨h.nd, List.pairwise_singleton _ _, fun a ha b hb e => ?_⟩
    rw [List.mem_singleton.mp hb] at e
    exact hn (e ▸ ha)
  · rcases List.mem_append.mp hc with hc | hc
    · exact h.re c hc
    · rw [List.mem_singleton.mp hc]
      exact .step (h.re b hb) nb hD
  · rcases List.mem_append.mp hc with hc | hc
    · exact h.inD c hc
    · rw [List.mem_singleton.mp hc]
      exact hD
  · have := h.len
    rw [List.length_append, List.length_singleton]
    omega
/-- closed up to a place -/
def Cl (D : Int × Int → Prop) (f : List (Int × Int)) (a : Nat) : Prop := ∀ i, i < a → ∀ b, f[i]? = some b → ∀ c, Nb b c → D c → c ∈ f
structure FW (D : Int × Int → Prop) (st : Int × Int) (n : Nat) (s : List ((Int × Int) × Bool) × List (Int × Int) × Int) : Prop where
  fi : FI D st n s.1 s.2.1
  at_ : ∃ a : Nat, s.2.2 = (a : Int) ∧ a ≤ s.2.1.length ∧ Cl D s.2.1 a
/-- in a turn: what grew of f0 -/
structure FT (D : Int × Int → Prop) (st : Int × Int) (n : Nat) (f0 : List (Int × Int)) (b : Int × Int) (q : List (Int × Int)) (s : List ((Int × Int) × Bool) × List (Int × Int)) : Prop where
  fi : FI D st n s.1 s.2
  pre : ∃ more, s.2 = f0 ++ more
  had : ∀ o ∈ q, D (b.1 + o.1, b.2 + o.2) → (b.1 + o.1, b.2 + o.2) ∈ s.2
theorem FT.more {D : Int × Int → Prop} {st : Int × Int} {n : Nat} {f0 : List (Int × Int)} {b : Int × Int} {q : List (Int × Int)} {s : List ((Int × Int) × Bool) × List (Int × Int)} {a : Nat} (h : FT D st n f0 b q s) (ha : a < f0.length) (hb : f0[a]? = some b) : atI s.2 (a : Int) = some b ∧ b ∈ s.2 := by
  obtain ⟨more, e⟩ := h.pre
  have : s.2[a]? = some b := by rw [e, List.getElem?_append_left ha, hb]
  exact ⟨atI_nat this, List.mem_of_getElem? this⟩
theorem FT.go {D : Int × Int → Prop} {st : Int × Int} {n : Nat} {f0 : List (Int × Int)} {b o : Int × Int} {q : List (Int × Int)} {s : List ((Int × Int) × Bool) × List (Int × Int)} (h : FT D st n f0 b q s) (hb : b ∈ s.2) (ho : o ∈ AR ∨ o = (0, 0)) :
    ((dGet s.1 (b.1 + o.1, b.2 + o.2)).isSome = true → FT D st n f0 b (q ++ [o]) (dDrop s.1 (b.1 + o.1, b.2 + o.2), s.2 ++ [(b.1 + o.1, b.2 + o.2)])) ∧ (¬ (dGet s.1 (b.1 + o.1, b.2 + o.2)).isSome = true → FT D st n f0 b (q ++ [o]) s) := by
  constructor
  · intro hk
    refine ⟨h.fi.visit ?_ hk, ?_, fun x hx hD => ?_⟩
    · rcases ho with ho | rfl
      · exact .inr ⟨b, hb, o, ho, rfl⟩
      · left
        have : ((b.1 + (0, 0).1, b.2 + (0, 0).2) : Int × Int) = b := by ext <;> simp
        rw [this]
        exact hb
    · obtain ⟨more, e⟩ := h.pre
      exact ⟨more ++ [(b.1 + o.1, b.2 + o.2)], by rw [e, List.append_assoc]⟩
    · rcases List.mem_append.mp hx with hx | hx
      · exact List.mem_append_left _ (h.had x hx hD)
      · rw [List.mem_singleton.mp hx]
        exact List.mem_append_right _ List.mem_cons_self
  · intro hk
    refine ⟨h.fi, h.pre, fun x hx hD => ?_⟩
    rcases List.mem_append.mp hx with hx | hx
    · exact h.had x hx hD
    · rw [List.mem_singleton.mp hx] at hD ⊢
      refine Classical.byContradiction fun z => hk ((has_key h.fi.keys _).mpr ⟨hD, z⟩)
theorem FW.turn {D : Int × Int → Prop} {st : Int × Int} {n : Nat} {d : List ((Int × Int) × Bool)} {f0 : List (Int × Int)} {b : Int × Int} {q : List (Int × Int)} {s : List ((Int × Int) × Bool) × List (Int × Int)} {a : Nat} (hc : Cl D f0 a) (ha : a < f0.length) (hb : f0[a]? = some b) (h : FT D st n f0 b q s) (hq : ∀ o ∈ AR, o ∈ q) : FW D st n (s.1, s.2, (a : Int) + 1) := by
  obtain ⟨more, e⟩ := h.pre
  refine ⟨h.fi, a + 1, by simp, by simp only [e, List.length_append]; omega, fun i hi x hx c nb hD => ?_⟩
  have hx' : f0[i]? = some x := by
    have hx2 : s.2[i]? = some x := hx
    rw [e, List.getElem?_append_left (by omega)] at hx2
    exact hx2
  rcases Nat.lt_succ_iff_lt_or_eq.mp hi with h1 | h1
  · show c ∈ s.2
    rw [e]
    exact List.mem_append_left _ (hc i h1 x hx' c nb hD)
  · subst h1
    rw [hb] at hx'
    injection hx' with hx'
    subst hx'
    obtain ⟨o, ho, rfl⟩ := nb
    exact h.had o (hq o ho) hD
theorem FW.start {D : Int × Int → Prop} {st : Int × Int} {n : Nat} {d : List ((Int × Int) × Bool)} (h : Keys d D n) (hs : D st) (hn : d.length ≤ n) : FW D st n (dDrop d st, [st], (0 : Int)) := by
  have hl := len_drop h.nd ((h.mem st).mpr hs)
  refine ⟨⟨(h.drop st).cong fun c => by simp, List.pairwise_singleton _ _, fun c hc => ?_, fun c hc => ?_, List.mem_cons_self, ?_⟩, 0, rfl, Nat.zero_le _, fun i hi => absurd hi (Nat.not_lt_zero _)⟩
  · rw [List.mem_singleton.mp hc]
    exact .base
  · rw [List.mem_singleton.mp hc]
    exact hs
  · show [st].length + (dDrop d st).length ≤ n
    rw [List.length_singleton]
    omega
theorem FW.done {D : Int × Int → Prop} {st : Int × Int} {n : Nat} {s : List ((Int × Int) × Bool) × List (Int × Int) × Int} (h : FW D st n s) (e : (R.ok (decide (s.2.2 < ((s.2.1).length : Int))) : R Bool) = .ok false) : (∀ c, c ∈ s.2.1 ↔ Re D st c) ∧ s.2.1.Nodup ∧ Keys s.1 (fun c => D c ∧ ¬ Re D st c) n := by
  obtain ⟨a, ea, ha, hc⟩ := h.at_
  injection e with e
  have e := of_decide_eq_false e
  have al : a = s.2.1.length := by omega
  have key : ∀ c, c ∈ s.2.1 ↔ Re D st c := fun c => by
    refine ⟨h.fi.re c, fun r => ?_⟩
    induction r with
    | base => exact h.fi.st
    | step _ nb hD ih =>
      obtain ⟨i, hi, e⟩ := List.mem_iff_getElem.mp ih
      exact hc i (by omega) _ (by rw [List.getElem?_eq_getElem hi, e]) _ nb hD
  exact ⟨key, h.fi.nd, h.fi.keys.cong fun c => by rw [key]⟩
theorem flood_ok {D : Int × Int → Prop} {st : Int × Int} {n : Nat} {d : List ((Int × Int) × Bool)} (h : Keys d D n) (hs : D st) (hn : n ≤ 3999) : Gd (m_flooded d st AR) fun r => (∀ c, c ∈ r.1 ↔ Re D st c) ∧ r.1.Nodup ∧ Keys r.2 (fun c => D c ∧ ¬ Re D st c) n := by
  unfold m_flooded
  dsimp only
  refine Gd.chkB ((has_key h st).mpr hs) ?_
  refine (Gd.whileR (I := FW D st n) (fun s => n - s.2.2.toNat) (fun s hi => ⟨_, rfl, fun hlt => ?_⟩) 5000 _ (FW.start h hs h.len) (by omega)).bind fun s hs => Gd.ok (hs.1.done hs.2)
  obtain ⟨a, ea, ha, hc⟩ := hi.at_
  have hlt := of_decide_eq_true hlt
  have hl := hi.fi.len
  have al : a < s.2.1.length := by omega
  obtain ⟨b, hb⟩ : ∃ b, s.2.1[a]? = some b := ⟨_, List.getElem?_eq_getElem al⟩
  refine (Gd.forRl (I := FT D st n s.2.1 b) (fun q x r t e hi2 => ?_) ⟨hi.fi, ⟨[], by rw [List.append_nil]⟩, fun o ho => absurd ho List.not_mem_nil⟩).bind fun t ht => Gd.ok ⟨by rw [ea]; exact FW.turn (d := s.1) hc al hb ht fun o ho => ho, by simp only [ea]; omega⟩
  have hx : x ∈ AR := by rw [e]; simp
  obtain ⟨e1, e2⟩ := hi2.more al hb
  obtain ⟨g1, g2⟩ := hi2.go e2 (.inl hx)
  have hl2 := hi2.fi.len
  refine Gd.bind (P := fun nr => nr = (b.1 + x.1, b.2 + x.2)) ?_ fun nr en => ?_
  · rw [ea, e1]
    exact Gd.ok rfl
  · subst en
    exact Gd.ite (fun hk => Gd.chkB hk (Gd.chkB (small_lt (by omega)) (Gd.ok (g1 hk)))) fun hk => Gd.ok (g2 hk)
theorem noted_ok {cells : List (Int × Int)} (h : cells.length ≤ 3999) : Gd (m_noted cells) fun d => Keys d (fun c => c ∈ cells) cells.length := by
  unfold m_noted
  refine (Keys.fillM (xs := cells) (fun c => c) .nil (by omega) fun d x _ hd => ?_).bind fun d hd => Gd.ok ((hd.cong fun c => by simp : Keys d (fun c => c ∈ cells) (0 + cells.length)).len |> fun l => ⟨hd.nd, fun c => by rw [hd.mem]; simp, by omega⟩)
  exact Gd.eq (Gd.chkB (small_lt (by omega)) (Gd.ok rfl))
section
open Classical
variable (cells : List (Int × Int))
abbrev RC (a b : Int × Int) : Prop := Re (fun c => c ∈ cells) a b
noncomputable def comp (c : Int × Int) : List (Int × Int) := cells.filter fun x => decide (RC cells c x)
noncomputable def addc (acc : List (List (Int × Int))) (c : Int × Int) : List (List (Int × Int)) := if ∃ l ∈ acc, c ∈ l then acc else acc ++ [comp cells c]
noncomputable def comps (q : List (Int × Int)) : List (List (Int × Int)) := q.foldl (addc cells) []
theorem mem_comp {cells : List (Int × Int)} {c x : Int × Int} (hc : c ∈ cells) : x ∈ comp cells c ↔ RC cells c x := by
  unfold comp
  rw [List.mem_filter, decide_eq_true_iff]
  exact ⟨fun h => h.2, fun h => ⟨h.mem hc, h⟩⟩
end
/-- so far -/
structure CI (cells : List (Int × Int)) (acc : List (List (Int × Int))) (d : List ((Int × Int) × Bool)) : Prop where
  of : ∀ l ∈ acc, ∃ x ∈ cells, l = comp cells x
  keys : Keys d (fun c => c ∈ cells ∧ ∀ l ∈ acc, c ∉ l) cells.length
  len : acc.length ≤ cells.length
theorem CI.re {cells : List (Int × Int)} {acc : List (List (Int × Int))} {d : List ((Int × Int) × Bool)} (h : CI cells acc d) {c : Int × Int} (hc : c ∈ cells) (hn : ∀ l ∈ acc, c ∉ l) (x : Int × Int) : Re (fun c => c ∈ cells ∧ ∀ l ∈ acc, c ∉ l) c x ↔ RC cells c x := by
  constructor
  · intro r
    induction r with
    | base => exact .base
    | step _ nb hD ih => exact .step ih nb hD.1
  · intro r
    induction r with
    | base => exact .base
    | step k nb hD ih =>
      have hb := ih.mem (D := fun c => c ∈ cells ∧ ∀ l ∈ acc, c ∉ l) ⟨hc, hn⟩
      refine .step ih nb ⟨hD, fun l hl hz => ?_⟩
      obtain ⟨x0, hx0, rfl⟩ := h.of l hl
      exact hb.2 _ hl ((mem_comp hx0).mpr (.step ((mem_comp hx0).mp hz) (nb_sym nb) hb.1))
theorem CI.add {cells : List (Int × Int)} (uc : Up cells) {acc : List (List (Int × Int))} {d d' : List ((Int × Int) × Bool)} (h : CI cells acc d) {c : Int × Int} (hc : c ∈ cells) {f : List (Int × Int)} (hk : (dGet d c).isSome = true) (hf : ∀ x, x ∈ f ↔ Re (fun c => c ∈ cells ∧ ∀ l ∈ acc, c ∉ l) c x) (nf : f.Nodup) (hd : Keys d' (fun x => (x ∈ cells ∧ ∀ l ∈ acc, x ∉ l) ∧ ¬ Re (fun c => c ∈ cells ∧ ∀ l ∈ acc, c ∉ l) c x) cells.length) (hl : acc.length < cells.length) :
    addc cells acc c = acc ++ [sortC f] ∧ CI cells (addc cells acc c) d' := by
  obtain ⟨_, hn⟩ := (has_key h.keys c).mp hk
  have e : sortC f = comp cells c := by
    rw [sortC_rise nf]
    refine up_eq (up_rise _) (List.Pairwise.filter _ uc) fun x => ?_
    rw [mem_rise, hf, h.re hc hn, ← mem_comp hc]
  have ea : addc cells acc c = acc ++ [comp cells c] := by
    unfold addc
    rw [if_neg]
    rintro ⟨l, hl, z⟩
    exact hn l hl z
  refine ⟨by rw [ea, e], ?_⟩
  rw [ea]
  refine ⟨fun l hl => ?_, hd.cong fun x => ?_, by rw [List.length_append, List.length_singleton]; omega⟩
  · rcases List.mem_append.mp hl with hl | hl
    · exact h.of l hl
    · exact ⟨c, hc, List.mem_singleton.mp hl⟩
  · rw [h.re hc hn, ← mem_comp hc]
    constructor
    · rintro ⟨⟨a, b⟩, z⟩
      refine ⟨a, fun l hl => ?_⟩
      rcases List.mem_append.mp hl with hl | hl
      · exact b l hl
      · rw [List.mem_singleton.mp hl]
        exact z
    · rintro ⟨a, b⟩
      exact ⟨⟨a, fun l hl => b l (List.mem_append_left _ hl)⟩, b _ (List.mem_append_right _ List.mem_cons_self)⟩
theorem CI.skip {cells : List (Int × Int)} {acc : List (List (Int × Int))} {d : List ((Int × Int) × Bool)} (h : CI cells acc d) {c : Int × Int} (hc : c ∈ cells) (hk : ¬ (dGet d c).isSome = true) : addc cells acc c = acc := by
  unfold addc
  rw [if_pos]
  refine Classical.byContradiction fun z => hk ((has_key h.keys c).mpr ⟨hc, fun l hl hz => z ⟨l, hl, hz⟩⟩)
theorem comps_snoc (cells q : List (Int × Int)) (c : Int × Int) : comps cells (q ++ [c]) = addc cells (comps cells q) c := by
  unfold comps
  rw [List.foldl_append]
  rfl
theorem comps_len (cells : List (Int × Int)) : ∀ (q : List (Int × Int)), (comps cells q).length ≤ q.length := fun q => by
  have : ∀ (q : List (Int × Int)) (acc : List (List (Int × Int))), (q.foldl (addc cells) acc).length ≤ acc.length + q.length := fun q => by
    induction q with
    | nil => exact fun acc => Nat.le_refl _
    | cons c q ih =>
      intro acc
      have h1 : (addc cells acc c).length ≤ acc.length + 1 := by
        unfold addc
        split
        · omega
        · rw [List.length_append, List.length_singleton]
          exact Nat.le_refl _
      have h2 := ih (addc cells acc c)
      rw [List.foldl_cons, List.length_cons]
      omega
  have h := this q []
  rw [List.length_nil] at h
  unfold comps
  omega
theorem regions_ok {cells : List (Int × Int)} (uc : Up cells) (lc : cells.length ≤ 1800) : m_regions cells AR = .ok (comps cells cells) ∧ ∀ l ∈ comps cells cells, ∃ x ∈ cells, l = comp cells x := by
  suffices h : Gd (m_regions cells AR) fun r => r = comps cells cells ∧ ∀ l ∈ comps cells cells, ∃ x ∈ cells, l = comp cells x by
    obtain ⟨r, e, h1, h2⟩ := h
    exact ⟨by rw [e, h1], h2⟩
  unfold m_regions
  refine (noted_ok (by omega)).bind fun d0 hd0 => ?_
  dsimp only
  refine (Gd.forRl (I := fun q (t : List ((Int × Int) × Bool) × List (List (Int × Int))) => t.2 = comps cells q ∧ CI cells (comps cells q) t.1) (fun q x r t e hi => ?_) ⟨rfl, fun l hl => absurd hl List.not_mem_nil, hd0.cong fun c => by simp [comps], Nat.zero_le _⟩).bind fun t ht => Gd.ok ⟨ht.1, ht.2.of⟩
  obtain ⟨h1, h2⟩ := hi
  have hx : x ∈ cells := by rw [e]; simp
  have z := congrArg List.length e
  simp only [List.length_append, List.length_cons] at z
  have lq := comps_len cells q
  rw [comps_snoc]
  refine Gd.ite (fun hk => ?_) fun hk => Gd.ok ?_
  · have hD := (has_key h2.keys x).mp hk
    obtain ⟨f, ef, f1, f2, f3⟩ := flood_ok h2.keys hD (by omega)
    obtain ⟨a1, a2⟩ := h2.add uc hx hk f1 f2 f3 (by omega)
    refine Gd.bind (P := fun w : List (Int × Int) × List ((Int × Int) × Bool) => w = (sortC f.1, f.2)) ?_ fun w ew => ?_
    · rw [ef]
      exact Gd.ok rfl
    · subst ew
      refine Gd.chkB (small_lt (by rw [h1]; omega)) (Gd.ok ⟨?_, a2⟩)
      rw [a1, h1]
  · have s := h2.skip hx hk
    rw [s]
    exact ⟨h1, h2⟩
theorem three {x : Int} : x ∈ [(-(1 : Int)), (0 : Int), (1 : Int)] ↔ -1 ≤ x ∧ x ≤ 1 := by
  simp only [List.mem_cons, List.not_mem_nil, or_false]
  omega
/-! ### the board -/
def Bd (c : Int × Int) : Prop := (-1000000000000 ≤ c.1 ∧ c.1 ≤ 1000000000000) ∧ (-1000000000000 ≤ c.2 ∧ c.2 ≤ 1000000000000)
def BK (d : List ((Int × Int) × Bool)) (m : Nat) : Prop := ∃ S, Keys d S m ∧ ∀ c, S c → Bd c
theorem kept1 (a : Int) : -1000000000000 ≤ (if (if a < (1000000000000 : Int) then a else (1000000000000 : Int)) > (-(1000000000000 : Int)) then (if a < (1000000000000 : Int) then a else (1000000000000 : Int)) else (-(1000000000000 : Int))) ∧ (if (if a < (1000000000000 : Int) then a else (1000000000000 : Int)) > (-(1000000000000 : Int)) then (if a < (1000000000000 : Int) then a else (1000000000000 : Int)) else (-(1000000000000 : Int))) ≤ 1000000000000 := by
  by_cases h : a < 1000000000000
  · rw [if_pos h]
    split <;> omega
  · rw [if_neg h]
    split <;> omega
theorem kept_ok (a b : Int) : ∃ k, m_law_kept a b = .ok k ∧ Bd k := ⟨_, rfl, kept1 a, kept1 b⟩
theorem BK.put {d : List ((Int × Int) × Bool)} {m : Nat} (h : BK d m) {k : Int × Int} (hk : Bd k) : BK (dPut d k true) (m + 1) := by
  obtain ⟨S, h1, h2⟩ := h
  refine ⟨_, h1.put k true, fun c hc => ?_⟩
  rcases hc with hc | rfl
  · exact h2 c hc
  · exact hk
theorem board_ok (n : Int) : Gd (m_law_board n) fun r => Up r.1 ∧ r.1.length ≤ 200 ∧ ∀ c ∈ r.1, Bd c := by
  unfold m_law_board
  dsimp only
  refine (base2_ok _).bind fun b _ => ?_
  have c0 := Int.emod_nonneg b.2 (show (6 : Int) ≠ 0 by decide)
  have c1 := Int.emod_lt_of_pos b.2 (show (0 : Int) < 6 by decide)
  have put : ∀ {d : List ((Int × Int) × Bool)} {m : Nat} (a b : Int), (BK d m) → m ≤ 1000 → Gd ((m_law_kept a b).bind fun k => (chk (d.length < sizeLine) ()).bind fun _ => R.ok (dPut d k true)) fun d' => BK d' (m + 1) := fun {d m} a b h hm => by
    obtain ⟨k, ek, bk⟩ := kept_ok a b
    exact Gd.eqB ek (Gd.chkB (small_lt (by obtain ⟨S, h, _⟩ := h; have := h.len; omega)) (Gd.ok (h.put bk)))
  have wid : ∀ {d : List ((Int × Int) × Bool)} {m m' : Nat}, (BK d m) → m ≤ m' → BK d m' := fun ⟨S, h, b⟩ hm => ⟨S, ⟨h.nd, h.mem, Nat.le_trans h.len hm⟩, b⟩
  refine Gd.bind (P := fun s : Int × List ((Int × Int) × Bool) => BK s.2 6) (Gd.ite (fun _ => Gd.chkB (by omega) (Gd.bind (P := fun s : Int × List ((Int × Int) × Bool) => BK s.2 6) ((Gd.forRl (I := fun q (s : Int × List ((Int × Int) × Bool)) => BK s.2 q.length) (fun q x r s e hi => ?_) ⟨_, .nil, fun c h => h.elim⟩).mono fun s hs => wid hs (by rw [len_rangeI]; omega)) fun s hs => Gd.ok hs)) fun _ => Gd.ok ⟨fun _ => False, ⟨List.Pairwise.nil, fun c => by simp, Nat.zero_le _⟩, fun c h => h.elim⟩) fun s hs => ?_
  · have z := congrArg List.length e
    rw [len_rangeI] at z
    simp only [List.length_append, List.length_cons] at z
    obtain ⟨k, ek, bk⟩ := kept_ok (b.1.1 + (s.1 % 25) / 5) (b.1.2 + (s.1 % 25) % 5)
    refine Gd.eqB ek (Gd.chkB (small_lt (by obtain ⟨S, h, _⟩ := hi; have := h.len; omega)) (Gd.ok ?_))
    rw [List.length_append]
    exact hi.put bk
  refine Gd.bind (P := fun s : Int × List ((Int × Int) × Bool) => BK s.2 81) (Gd.ite (fun _ => ?_) fun _ => Gd.ok (wid hs (by decide))) fun s hs => ?_
  · have m0 := Int.emod_nonneg (b.2 % 6) (show (3 : Int) ≠ 0 by decide)
    have m1 := Int.emod_lt_of_pos (b.2 % 6) (show (0 : Int) < 3 by decide)
    refine Gd.chkB (by omega) (Gd.bind (P := fun s : Int × List ((Int × Int) × Bool) => BK s.2 81) ((Gd.forRl (I := fun q (s : Int × List ((Int × Int) × Bool)) => BK s.2 (6 + 25 * q.length)) (fun q x r s e hi => ?_) hs).mono fun s hs => wid hs (by rw [len_rangeI]; omega)) fun s hs => Gd.ok hs)
    have z := congrArg List.length e
    rw [len_rangeI] at z
    simp only [List.length_append, List.length_cons] at z
    have t0 := Int.emod_nonneg (s.1 / 4) (show (5 : Int) ≠ 0 by decide)
    have t1 := Int.emod_lt_of_pos (s.1 / 4) (show (0 : Int) < 5 by decide)
    have w0 := Int.emod_nonneg (s.1 / 4 / 5) (show (5 : Int) ≠ 0 by decide)
    have w1 := Int.emod_lt_of_pos (s.1 / 4 / 5) (show (0 : Int) < 5 by decide)
    refine Gd.chkB (by omega) ((Gd.forRl (I := fun q2 (d : List ((Int × Int) × Bool)) => BK d (6 + 25 * q.length + 5 * q2.length)) (fun q2 x2 r2 d e2 hi2 => ?_) hi).bind fun d hd => Gd.ok (wid hd (by rw [len_rangeI, List.length_append, List.length_singleton]; omega)))
    have z2 := congrArg List.length e2
    rw [len_rangeI] at z2
    simp only [List.length_append, List.length_cons] at z2
    refine Gd.chkB (by omega) ((Gd.forRl (I := fun q3 (d : List ((Int × Int) × Bool)) => BK d (6 + 25 * q.length + 5 * q2.length + q3.length)) (fun q3 x3 r3 d e3 hi3 => ?_) hi2).bind fun d hd => Gd.ok (wid hd (by rw [len_rangeI, List.length_append, List.length_singleton]; omega)))
    have z3 := congrArg List.length e3
    rw [len_rangeI] at z3
    simp only [List.length_append, List.length_cons] at z3
    refine Gd.ite (fun _ => ?_) fun _ => Gd.ok (wid hi3 (by rw [List.length_append]; omega))
    rw [List.length_append, List.length_singleton]
    exact put (m := 6 + 25 * q.length + 5 * q2.length + q3.length) _ _ hi3 (by omega)
  refine Gd.bind (P := fun s : Int × List ((Int × Int) × Bool) => BK s.2 117) (Gd.ite (fun _ => ?_) fun _ => Gd.ok (wid hs (by decide))) fun s hs => ?_
  · refine Gd.chkB (by omega) (Gd.bind (P := fun s : Int × List ((Int × Int) × Bool) => BK s.2 117) ((Gd.forRl (I := fun q (s : Int × List ((Int × Int) × Bool)) => BK s.2 (81 + 6 * q.length)) (fun q x r s e hi => ?_) hs).mono fun s hs => wid hs (by rw [len_rangeI]; omega)) fun s hs => Gd.ok hs)
    have z := congrArg List.length e
    rw [len_rangeI] at z
    simp only [List.length_append, List.length_cons] at z
    refine (Gd.forRl (I := fun q2 (d : List ((Int × Int) × Bool)) => BK d (81 + 6 * q.length + q2.length)) (fun q2 x2 r2 d e2 hi2 => ?_) hi).bind fun d hd => Gd.ok (wid hd (by rw [len_rangeI, List.length_append, List.length_singleton]; omega))
    have z2 := congrArg List.length e2
    rw [len_rangeI] at z2
    simp only [List.length_append, List.length_cons] at z2
    have hx2 : x2 ∈ rangeI 0 6 := by rw [e2]; simp
    have hx2 := mem_rangeI.mp hx2
    refine Gd.bind (P := fun _ => True) (Gd.bind (P := fun _ => True) (Gd.chkB (by omega) (Gd.ok trivial)) fun _ _ => Gd.ok trivial) fun v _ => Gd.ite (fun _ => ?_) fun _ => Gd.ok (wid hi2 (by rw [List.length_append]; omega))
    rw [List.length_append, List.length_singleton]
    exact put (m := 81 + 6 * q.length + q2.length) _ _ hi2 (by omega)
  obtain ⟨S, hk, hb⟩ := hs
  have hlen := hk.len
  have g0 := Int.emod_nonneg s.1 (show (3 : Int) ≠ 0 by decide)
  have g1 := Int.emod_lt_of_pos s.1 (show (0 : Int) < 3 by decide)
  have gm : (if ((s.2).length : Int) < s.1 % 3 then ((s.2).length : Int) else s.1 % 3) ≤ (s.2.length : Int) ∧ 0 ≤ (if ((s.2).length : Int) < s.1 % 3 then ((s.2).length : Int) else s.1 % 3) ∧ (if ((s.2).length : Int) < s.1 % 3 then ((s.2).length : Int) else s.1 % 3) ≤ 2 := by
    split <;> omega
  generalize (if ((s.2).length : Int) < s.1 % 3 then ((s.2).length : Int) else s.1 % 3) = g at *
  refine Gd.chkB (by omega) (Gd.bind (P := fun t : Int × List ((Int × Int) × Bool) => BK t.2 117) (Gd.mono (P := fun t : Int × List ((Int × Int) × Bool) => t.2.length + (rangeI 0 g).length = s.2.length ∧ BK t.2 117) (Gd.forRl (I := fun q (t : Int × List ((Int × Int) × Bool)) => t.2.length + q.length = s.2.length ∧ BK t.2 117) (fun q x r t e hi => ?_) ⟨by simp, _, hk, hb⟩) fun t ht => ht.2) fun t ht => ?_)
  · obtain ⟨hl, S2, hk2, hb2⟩ := hi
    have z := congrArg List.length e
    rw [len_rangeI] at z
    simp only [List.length_append, List.length_cons] at z
    have pos : 0 < t.2.length := by omega
    have l2 := hk2.len
    refine Gd.bind (P := fun p : Int × Int => 0 ≤ p.2 ∧ p.2 < (t.2.length : Int)) (Gd.chk (dv_ok (by omega) 10 (by decide) (by rw [Int.natAbs_natCast]; omega)) ⟨Int.emod_nonneg _ (by omega), Int.emod_lt_of_pos _ (by omega)⟩) fun p hp => ?_
    have ls : (sortC (t.2.map Prod.fst)).length = t.2.length := by
      rw [(perm_srt _).length_eq, List.length_map]
    obtain ⟨k, ek, hk3⟩ := atN (xs := sortC (t.2.map Prod.fst)) p.2 hp.1 (by rw [ls]; exact hp.2)
    have hk4 : k ∈ t.2.map Prod.fst := (perm_srt (lt := ltC) (t.2.map Prod.fst)).mem_iff.mp hk3
    refine Gd.optB ek (Gd.chkB (get_key hk4) (Gd.ok ⟨?_, _, hk2.drop k, fun c hc => hb2 c hc.1⟩))
    have := len_drop hk2.nd hk4
    rw [List.length_append, List.length_singleton]
    show (dDrop t.2 k).length + _ = _
    omega
  · obtain ⟨S2, hk2, hb2⟩ := ht
    obtain ⟨u1, u2, u3⟩ := hk2.sorted
    exact Gd.ok ⟨u1, Nat.le_trans u3 (by decide), fun c hc => hb2 c ((u2 c).mp hc)⟩
theorem fallen_ok {cells : List (Int × Int)} (uc : Up cells) (lc : cells.length ≤ 1800) : m_law_fallen cells true = .ok (comps cells cells) := by
  have sc : sortC cells = cells := by rw [sortC_rise (up_nodup uc)]; exact rise_up uc
  refine Gd.eq ?_
  unfold m_law_fallen
  refine Gd.bind (P := fun d => Keys d (fun c => c ∈ cells) cells.length) ((Keys.fillM (xs := cells) (fun c => c) .nil (by omega) fun d x _ hd => ?_).mono fun d hd => ⟨hd.nd, fun c => by rw [hd.mem]; simp, by have := hd.len; omega⟩) fun d0 hd0 => ?_
  · exact Gd.eq (Gd.chkB (small_lt (by omega)) (Gd.ok rfl))
  dsimp only
  rw [sc]
  refine (Gd.forRl (I := fun q (t : List ((Int × Int) × Bool) × List (List (Int × Int))) => t.2 = comps cells q ∧ CI cells (comps cells q) t.1) (fun q x r t e hi => ?_) ⟨rfl, fun l hl => absurd hl List.not_mem_nil, hd0.cong fun c => by simp [comps], Nat.zero_le _⟩).bind fun t ht => Gd.ok ht.1
  obtain ⟨h1, h2⟩ := hi
  have hx : x ∈ cells := by rw [e]; simp
  have z := congrArg List.length e
  simp only [List.length_append, List.length_cons] at z
  have lq := comps_len cells q
  rw [comps_snoc]
  refine Gd.ite (fun hk => ?_) fun hk => Gd.ok ?_
  · have hD := (has_key h2.keys x).mp hk
    refine Gd.chkB hk ?_
    refine (Gd.whileR (I := FW (fun c => c ∈ cells ∧ ∀ l ∈ comps cells q, c ∉ l) x cells.length) (fun s => cells.length - s.2.2.toNat) (fun s hi => ⟨_, rfl, fun hlt => ?_⟩) 5000 _ (FW.start h2.keys hD h2.keys.len) (by omega)).bind fun s hs => ?_
    · obtain ⟨a, ea, ha, hc⟩ := hi.at_
      have hlt := of_decide_eq_true hlt
      have hl := hi.fi.len
      have al : a < s.2.1.length := by omega
      obtain ⟨b, hb⟩ : ∃ b, s.2.1[a]? = some b := ⟨_, List.getElem?_eq_getElem al⟩
      refine (Gd.forRl (I := fun (rows : List Int) t => ∃ q2, FT (fun c => c ∈ cells ∧ ∀ l ∈ comps cells q, c ∉ l) x cells.length s.2.1 b q2 t ∧ ∀ o : Int × Int, o.1 ∈ rows → -1 ≤ o.2 → o.2 ≤ 1 → o.1 = 0 ∨ o.2 = 0 → o ∈ q2) (fun rows row r t e hi2 => ?_) ⟨[], ⟨hi.fi, ⟨[], by rw [List.append_nil]⟩, fun o ho => absurd ho List.not_mem_nil⟩, fun o ho => absurd ho List.not_mem_nil⟩).bind fun t ht => ?_
      · obtain ⟨q2, ft, hq2⟩ := hi2
        have hr : row ∈ [(-(1 : Int)), (0 : Int), (1 : Int)] := by rw [e]; simp
        have hr := three.mp hr
        refine (Gd.forRl (I := fun (cols : List Int) t => FT (fun c => c ∈ cells ∧ ∀ l ∈ comps cells q, c ∉ l) x cells.length s.2.1 b (q2 ++ (cols.filter fun c => decide (row = 0 ∨ c = 0)).map fun c => (row, c)) t) (fun cols col r t e hi3 => ?_) (by simpa using ft)).bind fun t ht => Gd.ok ⟨_, ht, fun o ho h1 h2 h4 => ?_⟩
        · have hcl : col ∈ [(-(1 : Int)), (0 : Int), (1 : Int)] := by rw [e]; simp
          have hcl := three.mp hcl
          obtain ⟨e1, e2⟩ := hi3.more al hb
          have hl2 := hi3.fi.len
          refine Gd.bind (P := fun nr => nr = (b.1 + row, b.2 + col)) ?_ fun nr en => ?_
          · rw [ea, e1]
            exact Gd.ok rfl
          · subst en
            have zz : row * col = 0 ↔ row = 0 ∨ col = 0 := Int.mul_eq_zero
            refine Gd.bind (P := fun v => v = ((dGet t.1 (b.1 + row, b.2 + col)).isSome && decide (row * col = 0))) (Gd.ite (fun hk => Gd.bind (P := fun v => v = !decide (row * col = 0)) (Gd.ite (fun _ => Gd.chkB (mulW_ok 20 (by decide) (by omega) (by omega)) (Gd.ok rfl)) fun z => absurd rfl z) fun v ev => Gd.ok (by rw [ev, hk]; simp)) fun hk => Gd.ok (by
              rw [Bool.not_eq_true] at hk
              rw [hk]
              rfl)) fun v ev => ?_
            rw [List.filter_append, List.map_append, ← List.append_assoc]
            by_cases z : row = 0 ∨ col = 0
            · have ho : (row, col) ∈ AR ∨ (row, col) = (0, 0) := by
                by_cases y : (row, col) = ((0, 0) : Int × Int)
                · exact .inr y
                · exact .inl ((ar_iff _).mpr ⟨by simp only; omega, y, z⟩)
              obtain ⟨g1, g2⟩ := hi3.go e2 ho
              have es : List.map (fun c => (row, c)) (List.filter (fun c => decide (row = 0 ∨ c = 0)) [col]) = [(row, col)] := by simp [z]
              rw [es]
              rw [decide_eq_true (zz.mpr z), Bool.and_true] at ev
              refine Gd.ite (fun hv => ?_) fun hv => Gd.ok ?_
              · rw [ev] at hv
                exact Gd.chkB hv (Gd.chkB (small_lt (by omega)) (Gd.ok (g1 hv)))
              · rw [ev] at hv
                exact g2 hv
            · have es : List.map (fun c => (row, c)) (List.filter (fun c => decide (row = 0 ∨ c = 0)) [col]) = ([] : List (Int × Int)) := by simp [z]
              rw [es, List.append_nil]
              rw [decide_eq_false (fun y => z (zz.mp y)), Bool.and_false] at ev
              subst ev
              exact Gd.ite (fun hv => by cases hv) fun _ => Gd.ok hi3
        · rcases List.mem_append.mp ho with ho | ho
          · exact List.mem_append_left _ (hq2 o ho h1 h2 h4)
          · have eo := List.mem_singleton.mp ho
            refine List.mem_append_right _ (List.mem_map.mpr ⟨o.2, List.mem_filter.mpr ⟨three.mpr ⟨h1, h2⟩, decide_eq_true (by rw [← eo]; exact h4)⟩, ?_⟩)
            rw [← eo]
      · obtain ⟨q2, ft, hq2⟩ := ht
        refine Gd.ok ⟨by rw [ea]; exact FW.turn (d := s.1) hc al hb ft fun o ho => hq2 o (three.mpr ⟨((ar_iff o).mp ho).1.1, ((ar_iff o).mp ho).1.2.1⟩) ((ar_iff o).mp ho).1.2.2.1 ((ar_iff o).mp ho).1.2.2.2 ((ar_iff o).mp ho).2.2, by simp only [ea]; omega⟩
    · obtain ⟨f1, f2, f3⟩ := hs.1.done hs.2
      obtain ⟨a1, a2⟩ := h2.add uc hx hk f1 f2 f3 (by omega)
      refine Gd.chkB (small_lt (by rw [h1]; omega)) (Gd.ok ⟨?_, a2⟩)
      rw [a1, h1]
  · have s := h2.skip hx hk
    rw [s]
    exact ⟨h1, h2⟩
/-! ### the places about that lack -/
def lkRow (cells : List (Int × Int)) (row : Int) (xs : List Int) : List (Int × Int) := (xs.filter fun y => !decide ((row, y) ∈ cells)).map fun y => (row, y)
def lk (cells : List (Int × Int)) (xs ys : List Int) : List (Int × Int) := xs.flatMap fun x => lkRow cells x ys
theorem lkRow_len (cells : List (Int × Int)) (row : Int) (xs : List Int) : (lkRow cells row xs).length ≤ xs.length := by
  unfold lkRow
  rw [List.length_map]
  exact List.length_filter_le ..
theorem lk_len (cells : List (Int × Int)) (ys : List Int) : ∀ xs : List Int, (lk cells xs ys).length ≤ xs.length * ys.length
  | [] => Nat.zero_le _
  | x :: xs => by
    have h1 := lk_len cells ys xs
    have h2 := lkRow_len cells x ys
    unfold lk at h1 ⊢
    rw [List.flatMap_cons, List.length_append, List.length_cons, Nat.succ_mul]
    omega
theorem lt_rangeI (a b : Int) : (rangeI a b).Pairwise (· < ·) := by
  unfold rangeI
  rw [List.pairwise_map]
  exact List.Pairwise.imp (fun h => by omega) List.pairwise_lt_range
theorem lk_up {cells : List (Int × Int)} {xs ys : List Int} (hx : xs.Pairwise (· < ·)) (hy : ys.Pairwise (· < ·)) : Up (lk cells xs ys) := by
  unfold lk
  refine List.pairwise_flatMap.mpr ⟨fun x _ => ?_, hx.imp fun {a b} h c hc d hd => ?_⟩
  · unfold lkRow
    rw [List.pairwise_map]
    exact (hy.filter _).imp fun {a b} h => decide_eq_true (.inr ⟨rfl, h⟩)
  · unfold lkRow at hc hd
    obtain ⟨u, _, rfl⟩ := List.mem_map.mp hc
    obtain ⟨v, _, rfl⟩ := List.mem_map.mp hd
    exact decide_eq_true (.inl h)
theorem lack_inner {cells : List (Int × Int)} {d : List ((Int × Int) × Bool)} {n : Nat} (hd : Keys d (fun c => c ∈ cells) n) {row : Int} {xs : List Int} {s : List (Int × Int)} (hs : s.length + xs.length ≤ 4000) : Gd (forR (τ := List (Int × Int)) (fun s y => if (!(dGet d (row, y)).isSome) = true then (chk (s.length < sizeLine) ()).bind fun _ => R.ok (s ++ [(row, y)]) else R.ok s) xs s) (fun r => r = s ++ lkRow cells row xs) := by
  refine Gd.forRl (I := fun q t => t = s ++ lkRow cells row q) (fun q y r t e hi => ?_) (by simp [lkRow])
  have z := congrArg List.length e
  simp only [List.length_append, List.length_cons] at z
  have hl := lkRow_len cells row q
  have hg : (dGet d (row, y)).isSome = true ↔ (row, y) ∈ cells := has_key hd (row, y)
  have e2 : lkRow cells row (q ++ [y]) = lkRow cells row q ++ lkRow cells row [y] := by
    unfold lkRow
    rw [List.filter_append, List.map_append]
  rw [e2, ← List.append_assoc, ← hi]
  refine Gd.ite (fun h => ?_) fun h => Gd.ok ?_
  · have hn : ¬ (row, y) ∈ cells := fun z => by rw [hg.mpr z] at h; cases h
    refine Gd.chkB (small_lt (by rw [hi, List.length_append]; omega)) (Gd.ok ?_)
    simp [lkRow, hn]
  · have hn : (row, y) ∈ cells := hg.mp (by
      cases hz : (dGet d (row, y)).isSome with
      | true => rfl
      | false => exact absurd (by rw [hz]; rfl) h)
    simp [lkRow, hn]
theorem lack_outer {cells : List (Int × Int)} {d : List ((Int × Int) × Bool)} {n : Nat} (hd : Keys d (fun c => c ∈ cells) n) {columns : List Int} {c C : Int} (hc : minI columns = some c) (hC : maxI columns = some C) (b1 : -1000000000000 ≤ c) (b2 : C ≤ 1000000000000) (cC : c ≤ C) (nar : C - c < 40) {xs : List Int} (hx : xs.length ≤ 42) :
    Gd (forR (τ := List (Int × Int)) (fun s x => ((((ofOpt (minI columns)).bind fun x => R.ok (x - (1 : Int))).bind fun u => ((ofOpt (maxI columns)).bind fun x => R.ok (x + (2 : Int))).bind fun v => R.ok (u, v)).bind fun w => chk (-(2 ^ 62) ≤ w.1 ∧ w.1 < 2 ^ 62 ∧ -(2 ^ 62) ≤ w.2 ∧ w.2 < 2 ^ 62) (rangeI w.1 w.2)).bind fun ys => (forR (τ := List (Int × Int)) (fun s y => if (!(dGet d (x, y)).isSome) = true then (chk (s.length < sizeLine) ()).bind fun _ => R.ok (s ++ [(x, y)]) else R.ok s) ys s).bind fun s => R.ok s) xs []) (fun r => r = lk cells xs (rangeI (c - 1) (C + 2))) := by
  refine Gd.forRl (I := fun q t => t = lk cells q (rangeI (c - 1) (C + 2))) (fun q x r t e hi => ?_) rfl
  have z := congrArg List.length e
  simp only [List.length_append, List.length_cons] at z
  have lr : (rangeI (c - 1) (C + 2)).length ≤ 42 := by rw [len_rangeI]; omega
  have hl := lk_len cells (rangeI (c - 1) (C + 2)) q
  have hm : q.length * (rangeI (c - 1) (C + 2)).length ≤ 42 * 42 := Nat.mul_le_mul (by omega) lr
  refine Gd.bind (P := fun ys => ys = rangeI (c - 1) (C + 2)) (Gd.bind (P := fun w => w = (c - 1, C + 2)) (Gd.bind (P := fun u => u = c - 1) (Gd.optB hc (Gd.ok rfl)) fun u eu => Gd.bind (P := fun u => u = C + 2) (Gd.optB hC (Gd.ok rfl)) fun v ev => Gd.ok (by rw [eu, ev])) fun w ew => ?_) fun ys eys => ?_
  · subst ew
    exact Gd.chk (by omega) rfl
  · subst eys
    refine Gd.bind (lack_inner hd (by rw [hi]; omega)) fun s es => Gd.ok ?_
    rw [es, hi]
    unfold lk
    rw [List.flatMap_append]
    simp
structure Bx (cells : List (Int × Int)) (m M c C : Int) : Prop where
  r0 : minI (cells.map fun y => y.1) = some m
  r1 : maxI (cells.map fun y => y.1) = some M
  c0 : minI (cells.map fun y => y.2) = some c
  c1 : maxI (cells.map fun y => y.2) = some C
theorem maxI_some {xs : List Int} (h : xs ≠ []) : ∃ m, maxI xs = some m := by
  cases xs with
  | nil => exact absurd rfl h
  | cons x xs => exact ⟨_, rfl⟩
theorem minI_some {xs : List Int} (h : xs ≠ []) : ∃ m, minI xs = some m := by
  cases xs with
  | nil => exact absurd rfl h
  | cons x xs => exact ⟨_, rfl⟩
theorem bx_some {cells : List (Int × Int)} (h : cells ≠ []) : ∃ m M c C, Bx cells m M c C := by
  have n1 : (cells.map fun y => y.1) ≠ [] := fun z => h (List.map_eq_nil_iff.mp z)
  have n2 : (cells.map fun y => y.2) ≠ [] := fun z => h (List.map_eq_nil_iff.mp z)
  obtain ⟨m, h1⟩ := minI_some n1
  obtain ⟨M, h2⟩ := maxI_some n1
  obtain ⟨c, h3⟩ := minI_some n2
  obtain ⟨C, h4⟩ := maxI_some n2
  exact ⟨m, M, c, C, h1, h2, h3, h4⟩
structure Bnd (m M c C : Int) : Prop where
  r0 : -1000000000000 ≤ m
  r1 : M ≤ 1000000000000
  c0 : -1000000000000 ≤ c
  c1 : C ≤ 1000000000000
  r : m ≤ M
  c : c ≤ C
theorem Bx.bd {cells : List (Int × Int)} {m M c C : Int} (h : Bx cells m M c C) (hb : ∀ x ∈ cells, Bd x) : Bnd m M c C := by
  obtain ⟨a1, a2⟩ := minI_spec h.r0
  obtain ⟨b1, b2⟩ := maxI_spec h.r1
  obtain ⟨c1, c2⟩ := minI_spec h.c0
  obtain ⟨d1, d2⟩ := maxI_spec h.c1
  have e1 := a2 _ b1
  have e2 := c2 _ d1
  obtain ⟨x, hx, rfl⟩ := List.mem_map.mp a1
  obtain ⟨y, hy, rfl⟩ := List.mem_map.mp b1
  obtain ⟨z, hz, rfl⟩ := List.mem_map.mp c1
  obtain ⟨w, hw, rfl⟩ := List.mem_map.mp d1
  exact ⟨(hb x hx).1.1, (hb y hy).1.2, (hb z hz).2.1, (hb w hw).2.2, e1, e2⟩
theorem col1 {cells : List (Int × Int)} (h : cells.length ≤ 4000) : ((mapR (fun y : Int × Int => R.ok y.1) cells).bind fun ys => chk (ys.length ≤ sizeLine) ys) = .ok (cells.map fun y => y.1) :=
  Gd.eq (Gd.mapRB (g := fun y : Int × Int => y.1) (fun _ _ => rfl) (Gd.chk (small_size (by rw [List.length_map]; omega)) rfl))
theorem col2 {cells : List (Int × Int)} (h : cells.length ≤ 4000) : ((mapR (fun y : Int × Int => R.ok y.2) cells).bind fun ys => chk (ys.length ≤ sizeLine) ys) = .ok (cells.map fun y => y.2) :=
  Gd.eq (Gd.mapRB (g := fun y : Int × Int => y.2) (fun _ _ => rfl) (Gd.chk (small_size (by rw [List.length_map]; omega)) rfl))
theorem spans0 : m_law_spans [] = .ok 0 := rfl
theorem spans_ok {cells : List (Int × Int)} (ne : cells ≠ []) (h : cells.length ≤ 4000) {m M c C : Int} (b : Bx cells m M c C) : m_law_spans cells = .ok (if C - c > M - m then C - c else M - m) := by
  refine Gd.eq ?_
  unfold m_law_spans
  refine Gd.ite (fun z => absurd (of_decide_eq_true z) ne) fun _ => ?_
  refine Gd.eqB (col1 h) (Gd.eqB (col2 h) ?_)
  exact Gd.bind (P := fun w => w = (M - m, C - c)) (Gd.bind (P := fun u => u = M - m) (Gd.optB b.r1 (Gd.optB b.r0 (Gd.ok rfl))) fun u eu => Gd.bind (P := fun u => u = C - c) (Gd.optB b.c1 (Gd.optB b.c0 (Gd.ok rfl))) fun v ev => Gd.ok (by rw [eu, ev])) fun w ew => Gd.ok (by rw [ew])
theorem narrow_ok {cells : List (Int × Int)} (h : cells.length ≤ 4000) {m M c C : Int} (b : Bx cells m M c C) : m_look_narrow (cells, false) = if 40 ≤ M - m ∨ 40 ≤ C - c then .er ⟨"TooWide", none⟩ else .ok () := by
  unfold m_look_narrow
  dsimp only
  rw [col1 h, col2 h]
  simp only [ok_bindP, forR, b.r0, b.r1, b.c0, b.c1, ofOpt, decide_eq_true_eq]
  by_cases h1 : 40 ≤ M - m
  · rw [if_pos h1, if_pos (Or.inl h1)]
    rfl
  · rw [if_neg h1]
    by_cases h2 : 40 ≤ C - c
    · rw [if_pos (Or.inr h2)]
      simp only [ok_bindP]
      rw [if_pos h2]
      rfl
    · rw [if_neg (show ¬ (40 ≤ M - m ∨ 40 ≤ C - c) from fun z => z.elim h1 h2)]
      simp only [ok_bindP]
      rw [if_neg h2]
      rfl
theorem holes_er {cells : List (Int × Int)} (ne : cells ≠ []) (h : cells.length ≤ 4000) {m M c C : Int} (b : Bx cells m M c C) (w : 40 ≤ M - m ∨ 40 ≤ C - c) : m_holes (cells, false) = .er ⟨"TooWide", none⟩ := by
  unfold m_holes
  have e0 : m_look_finite (cells, false) = .ok () := rfl
  rw [e0, ok_bindP]
  rw [if_neg (show ¬ decide ((cells, false).1 = ([] : List (Int × Int))) = true from fun z => ne (of_decide_eq_true z))]
  rw [narrow_ok h b, if_pos w]
  rfl
theorem refused_ok {cells : List (Int × Int)} (e : m_holes (cells, false) = .er ⟨"TooWide", none⟩) : m_law_refused (cells, false) = .ok true := by
  unfold m_law_refused
  rw [e]
  rfl
/-- what is due -/
noncomputable def due (cells : List (Int × Int)) (m M c C : Int) : List (List (Int × Int)) := cutL (comps (lk cells (rangeI (m - 1) (M + 2)) (rangeI (c - 1) (C + 2))) (lk cells (rangeI (m - 1) (M + 2)) (rangeI (c - 1) (C + 2)))) (some 1) none
theorem rows_ok {rows : List Int} {m M : Int} (h0 : minI rows = some m) (h1 : maxI rows = some M) (b1 : -1000000000000 ≤ m) (b2 : M ≤ 1000000000000) (mM : m ≤ M) : Gd ((((ofOpt (minI rows)).bind fun x => R.ok (x - (1 : Int))).bind fun u => ((ofOpt (maxI rows)).bind fun x => R.ok (x + (2 : Int))).bind fun v => R.ok (u, v)).bind fun w => chk (-(2 ^ 62) ≤ w.1 ∧ w.1 < 2 ^ 62 ∧ -(2 ^ 62) ≤ w.2 ∧ w.2 < 2 ^ 62) (rangeI w.1 w.2)) fun xs => xs = rangeI (m - 1) (M + 2) := by
  refine Gd.bind (P := fun w => w = (m - 1, M + 2)) (Gd.bind (P := fun u => u = m - 1) (Gd.optB h0 (Gd.ok rfl)) fun u eu => Gd.bind (P := fun u => u = M + 2) (Gd.optB h1 (Gd.ok rfl)) fun v ev => Gd.ok (by rw [eu, ev])) fun w ew => ?_
  subst ew
  exact Gd.chk (by omega) rfl
theorem lacking_ok {cells : List (Int × Int)} (h : cells.length ≤ 3999) {m M c C : Int} (b : Bx cells m M c C) (bb : Bnd m M c C) (n1 : M - m < 40) (n2 : C - c < 40) : m_law_lacking cells = .ok (lk cells (rangeI (m - 1) (M + 2)) (rangeI (c - 1) (C + 2))) := by
  refine Gd.eq ?_
  unfold m_law_lacking
  refine Gd.bind (P := fun d => Keys d (fun c => c ∈ cells) cells.length) ((Keys.fillM (xs := cells) (fun c => c) .nil (by omega) fun d x _ hd => ?_).mono fun d hd => ⟨hd.nd, fun c => by rw [hd.mem]; simp, by have := hd.len; omega⟩) fun d hd => ?_
  · exact Gd.eq (Gd.chkB (small_lt (by omega)) (Gd.ok rfl))
  refine Gd.eqB (col1 (by omega)) (Gd.eqB (col2 (by omega)) ?_)
  refine (rows_ok b.r0 b.r1 bb.r0 bb.r1 bb.r).bind fun xs ex => ?_
  have lx : xs.length ≤ 42 := by rw [ex, len_rangeI]; omega
  exact (lack_outer hd b.c0 b.c1 bb.c0 bb.c1 bb.c n2 lx).bind fun s es => Gd.ok (by rw [es, ex])
theorem lk_facts {cells : List (Int × Int)} {m M c C : Int} (n1 : M - m < 40) (n2 : C - c < 40) : Up (lk cells (rangeI (m - 1) (M + 2)) (rangeI (c - 1) (C + 2))) ∧ (lk cells (rangeI (m - 1) (M + 2)) (rangeI (c - 1) (C + 2))).length ≤ 1764 := by
  refine ⟨lk_up (lt_rangeI _ _) (lt_rangeI _ _), Nat.le_trans (lk_len ..) ?_⟩
  have a : (rangeI (m - 1) (M + 2)).length ≤ 42 := by rw [len_rangeI]; omega
  have b : (rangeI (c - 1) (C + 2)).length ≤ 42 := by rw [len_rangeI]; omega
  exact Nat.mul_le_mul a b
theorem holes_ok {cells : List (Int × Int)} (ne : cells ≠ []) (h : cells.length ≤ 3999) {m M c C : Int} (b : Bx cells m M c C) (bb : Bnd m M c C) (n1 : M - m < 40) (n2 : C - c < 40) : m_holes (cells, false) = .ok (due cells m M c C) := by
  obtain ⟨up, ll⟩ := lk_facts (cells := cells) n1 n2
  refine Gd.eq ?_
  unfold m_holes
  refine Gd.eqB (a := ()) rfl ?_
  refine Gd.ite (fun z => absurd (of_decide_eq_true z) ne) fun _ => ?_
  dsimp only
  refine Gd.eqB (by rw [narrow_ok (by omega) b, if_neg (by omega)]) ?_
  refine Gd.eqB (col1 (by omega)) (Gd.eqB (col2 (by omega)) ?_)
  refine (noted_ok (cells := cells) (by omega)).bind fun d hd => ?_
  refine (rows_ok b.r0 b.r1 bb.r0 bb.r1 bb.r).bind fun xs ex => ?_
  have lx : xs.length ≤ 42 := by rw [ex, len_rangeI]; omega
  refine (lack_outer hd b.c0 b.c1 bb.c0 bb.c1 bb.c n2 lx).bind fun s es => ?_
  subst ex
  subst es
  exact Gd.eqB (regions_ok up (by omega)).1 (Gd.ok rfl)
theorem holes2_eq (sh : List (Int × Int) × Bool) : m_holes_2 sh = m_holes sh := by
  unfold m_holes_2 m_holes
  simp only [R.bind_pure]
theorem due_facts {cells : List (Int × Int)} {m M c C : Int} (n1 : M - m < 40) (n2 : C - c < 40) : (due cells m M c C).length ≤ 1764 ∧ ∀ l ∈ due cells m M c C, l.length ≤ 1764 := by
  obtain ⟨up, ll⟩ := lk_facts (cells := cells) n1 n2
  unfold due
  refine ⟨Nat.le_trans cut_len (Nat.le_trans (comps_len _ _) ll), fun l hl => ?_⟩
  unfold cutL at hl
  obtain ⟨x, _, rfl⟩ := (regions_ok up (by omega)).2 l (List.mem_of_mem_drop (List.mem_of_mem_take hl))
  exact Nat.le_trans (List.length_filter_le ..) ll
/-! ### other shapes -/
theorem far_ok (cs : List (Int × Int)) (n : Int) : Gd (m_law_far cs n) fun r => r.length ≤ 3 ∧ ∀ c ∈ r, Bd c := by
  unfold m_law_far
  dsimp only
  have w0 := Int.emod_nonneg n (show (4 : Int) ≠ 0 by decide)
  have w1 := Int.emod_lt_of_pos n (show (0 : Int) < 4 by decide)
  have f0 := Int.emod_nonneg (n / 4) (show (4 : Int) ≠ 0 by decide)
  have f1 := Int.emod_lt_of_pos (n / 4) (show (0 : Int) < 4 by decide)
  have l0 := Int.emod_nonneg (n / 4 / 4) (show (2 : Int) ≠ 0 by decide)
  have l1 := Int.emod_lt_of_pos (n / 4 / 4) (show (0 : Int) < 2 by decide)
  obtain ⟨x, ex, hx⟩ := at4 (39 : Int) 40 41 100000000000 (n / 4 % 4) f0 f1
  have x1 : 39 ≤ x ∧ x ≤ 100000000000 := by rcases hx with rfl | rfl | rfl | rfl <;> decide
  refine Gd.bind (P := fun b : Int => -100000000000 ≤ b ∧ b ≤ 100000000000) (Gd.optB ex (Gd.chk (mulW_ok 50 (by decide) (by omega) (by omega)) ?_)) fun b hb => ?_
  · have hz : (1 : Int) - 2 * (n / 4 / 4 % 2) = 1 ∨ (1 : Int) - 2 * (n / 4 / 4 % 2) = -1 := by omega
    rcases hz with z | z <;> rw [z] <;> omega
  obtain ⟨y, ey, hy⟩ := at4 ((b, (3 : Int))) ((3 : Int), b) ((3 : Int), b) ((1 : Int), b) (n % 4) w0 w1
  have yb : Bd y := by
    unfold Bd
    rcases hy with rfl | rfl | rfl | rfl <;> simp only <;> omega
  have zb : Bd ((0 : Int), (0 : Int)) := by
    unfold Bd
    simp only
    omega
  refine Gd.bind (P := fun r : List (Int × Int) => r.length ≤ 2 ∧ ∀ c ∈ r, Bd c) (Gd.bind (P := fun r => r = [y]) (Gd.optB ey (Gd.ok rfl)) fun r er => Gd.ok ?_) fun r hr => ?_
  · rw [er]
    refine ⟨Nat.le_refl _, fun c hc => ?_⟩
    rcases List.mem_cons.mp hc with rfl | hc
    · exact zb
    · rw [List.mem_singleton.mp hc]
      exact yb
  refine Gd.bind (P := fun r : List (Int × Int) => r.length ≤ 3 ∧ ∀ c ∈ r, Bd c) (Gd.ite (fun hw => ?_) fun _ => Gd.ok ⟨by omega, hr.2⟩) fun r hr => Gd.ok ?_
  · have hw := of_decide_eq_true hw
    obtain ⟨z, ez, hz⟩ := at2 ((5 : Int), (2 : Int)) ((2 : Int), b / 2) (n % 4 - 2) (by omega) (by omega)
    have zb : Bd z := by
      unfold Bd
      rcases hz with rfl | rfl <;> simp only <;> omega
    refine Gd.optB ez (Gd.chkB (small_lt (by omega)) (Gd.ok ⟨by rw [List.length_append, List.length_singleton]; omega, fun c hc => ?_⟩))
    rcases List.mem_append.mp hc with hc | hc
    · exact hr.2 c hc
    · rw [List.mem_singleton.mp hc]
      exact zb
  · have p := perm_srt (lt := ltC) r
    exact ⟨by rw [show (sortC r).length = r.length from p.length_eq]; exact hr.1, fun c hc => hr.2 c (p.mem_iff.mp hc)⟩
theorem ring_ok (n : Int) : Gd (m_law_ring n) fun r => r.length ≤ 1600 ∧ ∀ c ∈ r, Bd c := by
  unfold m_law_ring
  dsimp only
  have t0 := Int.emod_nonneg n (show (3 : Int) ≠ 0 by decide)
  have t1 := Int.emod_lt_of_pos n (show (0 : Int) < 3 by decide)
  have w0 := Int.emod_nonneg (n / 3) (show (3 : Int) ≠ 0 by decide)
  have w1 := Int.emod_lt_of_pos (n / 3) (show (0 : Int) < 3 by decide)
  refine Gd.chkB (by omega) (Gd.bind (P := fun r : List (Int × Int) => r.length ≤ 1600 ∧ ∀ c ∈ r, Bd c) (Gd.mono (P := fun r : List (Int × Int) => r.length ≤ 40 * (rangeI 0 (38 + n % 3)).length ∧ ∀ c ∈ r, Bd c) (Gd.forRl (I := fun q (r : List (Int × Int)) => r.length ≤ 40 * q.length ∧ ∀ c ∈ r, Bd c) (fun q x r s e hi => ?_) ⟨Nat.zero_le _, fun c hc => absurd hc List.not_mem_nil⟩) fun r hr => ⟨by have := hr.1; rw [len_rangeI] at this; omega, hr.2⟩) fun r hr => Gd.ok hr)
  have z := congrArg List.length e
  rw [len_rangeI] at z
  simp only [List.length_append, List.length_cons] at z
  have hx : x ∈ rangeI 0 (38 + n % 3) := by rw [e]; simp
  have hx := mem_rangeI.mp hx
  refine Gd.chkB (by omega) (Gd.bind (P := fun r : List (Int × Int) => r.length ≤ 40 * (q ++ [x]).length ∧ ∀ c ∈ r, Bd c) (Gd.mono (P := fun r : List (Int × Int) => r.length ≤ 40 * q.length + (rangeI 0 (38 + n / 3 % 3)).length ∧ ∀ c ∈ r, Bd c) (Gd.forRl (I := fun q2 (r : List (Int × Int)) => r.length ≤ 40 * q.length + q2.length ∧ ∀ c ∈ r, Bd c) (fun q2 y r2 s2 e2 hi2 => ?_) hi) fun r hr => ⟨by have := hr.1; rw [len_rangeI] at this; rw [List.length_append, List.length_singleton]; omega, hr.2⟩) fun r hr => Gd.ok hr)
  have z2 := congrArg List.length e2
  rw [len_rangeI] at z2
  simp only [List.length_append, List.length_cons] at z2
  have hy : y ∈ rangeI 0 (38 + n / 3 % 3) := by rw [e2]; simp
  have hy := mem_rangeI.mp hy
  have h2 := hi2.1
  refine Gd.ite (fun _ => Gd.chkB (small_lt (by omega)) (Gd.ok ⟨by rw [List.length_append, List.length_append, List.length_singleton, List.length_singleton]; omega, fun c hc => ?_⟩)) fun _ => Gd.ok ⟨by rw [List.length_append]; omega, hi2.2⟩
  rcases List.mem_append.mp hc with hc | hc
  · exact hi2.2 c hc
  · rw [List.mem_singleton.mp hc]
    unfold Bd
    simp only
    omega
/-! ### the law -/
def eP (xs : List (Int × Int)) : Dy := Dy.tup (xs.map fun x => Dy.tup [Dy.int x.1, Dy.int x.2])
theorem okP {xs : List (Int × Int)} (h : xs.length ≤ 4000) (n : Nat) : OkD (n + 3) (eP xs) := ⟨by rw [List.length_map]; omega, fun y hy => by
  obtain ⟨x, _, rfl⟩ := List.mem_map.mp hy
  refine ⟨by show 2 ≤ 9800; decide, fun z hz => ?_⟩
  rcases List.mem_cons.mp hz with rfl | hz
  · trivial
  · rw [List.mem_singleton.mp hz]
    trivial⟩
theorem okA {ls : List (List (Int × Int))} (h : ls.length ≤ 1764) (h2 : ∀ l ∈ ls, l.length ≤ 1764) : OkD 8 (Dy.lst (ls.map eP)) := ⟨by rw [List.length_map]; omega, fun y hy => by
  obtain ⟨l, hl, rfl⟩ := List.mem_map.mp hy
  exact okP (by have := h2 l hl; omega) 4⟩
theorem law_ok (ns : List Int) (hl : ns.length ≤ 63) (_ : ∀ z ∈ ns, Builtin.Int.intBits z ≤ 1048576) : m_law ns = .ok true := by
  refine Gd.eq ?_
  unfold m_law
  refine Gd.bind (P := fun _ => True) (Gd.bind (P := fun r => r.length = 1) ((cell_ok ns (by decide)).bind fun _ _ => Gd.ok rfl) fun r hr => ?_) fun xs _ => ?_
  · have cl := cut_len (xs := ns) (lo := some 1) (hi := some 9)
    exact Gd.chk (small_size (by omega)) trivial
  refine Gd.forSB (I := fun _ => True) (fun s x hx _ => ?_) trivial fun s _ => Gd.ok rfl
  refine Gd.bind (P := fun r => Up r.1 ∧ r.1.length ≤ 200 ∧ ∀ c ∈ r.1, Bd c) ((deal2_ok _ _).bind fun _ _ => board_ok _) fun p hp => ?_
  dsimp only
  refine Gd.bind (P := fun cs => cs.length ≤ 1600 ∧ ∀ c ∈ cs, Bd c) (Gd.ite (fun _ => ((far_ok _ _).mono fun r hr => (⟨by omega, hr.2⟩ : r.length ≤ 1600 ∧ ∀ c ∈ r, Bd c)).bind fun r hr => Gd.ok hr) fun _ => Gd.ok ⟨by omega, hp.2.2⟩) fun cs1 h1 => ?_
  refine Gd.bind (P := fun cs => cs.length ≤ 1600 ∧ ∀ c ∈ cs, Bd c) (Gd.ite (fun _ => (ring_ok _).bind fun r hr => Gd.ok hr) fun _ => Gd.ok h1) fun cs hcs => ?_
  obtain ⟨lc, bc⟩ := hcs
  by_cases ne : cs = []
  · subst ne
    refine Gd.bind (P := fun b => b = false) (Gd.eqB spans0 (Gd.ok rfl)) fun b eb => ?_
    subst eb
    refine Gd.ite (fun z => by cases z) fun _ => ?_
    refine Gd.eqB (a := ([] : List (List (Int × Int)))) rfl ?_
    refine Gd.eqB (a := ([] : List (List (Int × Int)))) rfl ?_
    have e8 := same_ok 8 (Dy.lst ([].map eP)) (okA (ls := []) (by decide) fun l hl => absurd hl List.not_mem_nil)
    refine Gd.bind (P := fun b => b = false) (Gd.eqB e8 (Gd.ok rfl)) fun b e => ?_
    subst e
    refine Gd.ite (fun h => by cases h) fun _ => ?_
    refine Gd.chkB (small_lt (by decide)) ?_
    refine Gd.bind (P := fun b => b = false) (Gd.bind (P := fun b => b = true) (Gd.of e8 rfl) fun b e => Gd.ok (by rw [e]; rfl)) fun b e => ?_
    subst e
    exact Gd.ite (fun h => by cases h) fun _ => Gd.nx trivial
  obtain ⟨m, M, c, C, b⟩ := bx_some ne
  have bb := b.bd bc
  refine Gd.bind (P := fun v => v = decide (40 ≤ M - m ∨ 40 ≤ C - c)) (Gd.eqB (spans_ok ne (by omega) b) (Gd.ok ?_)) fun v ev => ?_
  · refine decide_eq_decide.mpr ?_
    split <;> omega
  subst ev
  refine Gd.ite (fun w => ?_) fun w => ?_
  · have w := of_decide_eq_true w
    refine Gd.bind (P := fun v => v = false) (Gd.eqB (refused_ok (holes_er ne (by omega) b w)) (Gd.ok rfl)) fun v ev => ?_
    subst ev
    exact Gd.ite (fun h => by cases h) fun _ => Gd.nx trivial
  have n1 : M - m < 40 := by
    have : ¬ (40 ≤ M - m ∨ 40 ≤ C - c) := fun z => w (decide_eq_true z)
    omega
  have n2 : C - c < 40 := by
    have : ¬ (40 ≤ M - m ∨ 40 ≤ C - c) := fun z => w (decide_eq_true z)
    omega
  obtain ⟨up, ll⟩ := lk_facts (cells := cs) n1 n2
  obtain ⟨dl, dm⟩ := due_facts (cells := cs) n1 n2
  have e8 := same_ok 8 (Dy.lst ((due cs m M c C).map eP)) (okA dl dm)
  have eh := holes_ok ne (by omega) b bb n1 n2
  have eh2 : m_holes_2 (cs, false) = .ok (due cs m M c C) := by rw [holes2_eq, eh]
  refine Gd.bind (P := fun d => d = due cs m M c C) (Gd.ite (fun _ => Gd.bind (P := fun d => d = due cs m M c C) (Gd.bind (P := fun d => d = comps (lk cs (rangeI (m - 1) (M + 2)) (rangeI (c - 1) (C + 2))) (lk cs (rangeI (m - 1) (M + 2)) (rangeI (c - 1) (C + 2)))) (Gd.bind (P := fun w => w = (lk cs (rangeI (m - 1) (M + 2)) (rangeI (c - 1) (C + 2)), true)) (Gd.eqB (lacking_ok (by omega) b bb n1 n2) (Gd.ok rfl)) fun w ew => by rw [ew]; exact Gd.of (fallen_ok up (Nat.le_trans ll (by decide))) rfl) fun d ed => Gd.ok (by rw [ed]; rfl)) fun d ed => Gd.ok ed) fun z => absurd (by rw [decide_eq_false ne]; rfl) z) fun d ed => ?_
  subst ed
  refine Gd.eqB eh2 ?_
  refine Gd.bind (P := fun b => b = false) (Gd.eqB e8 (Gd.ok rfl)) fun b e => ?_
  subst e
  refine Gd.ite (fun h => by cases h) fun _ => ?_
  refine Gd.chkB (small_lt (by omega)) ?_
  refine Gd.bind (P := fun b => b = false) (Gd.bind (P := fun b => b = true) (Gd.bind (P := fun w : Dy × Dy => w = (Dy.lst ((due cs m M c C).map eP), Dy.lst ((due cs m M c C).map eP))) (Gd.bind (P := fun w => w = Dy.lst ((due cs m M c C).map eP)) (Gd.eqB eh (Gd.ok rfl)) fun w e => Gd.ok (by rw [e]; rfl)) fun w e => by
    rw [e]
    exact Gd.of e8 rfl) fun b e => Gd.ok (by rw [e]; rfl)) fun b e => ?_
  subst e
  exact Gd.ite (fun h => by cases h) fun _ => Gd.nx trivial
end G

namespace G
open PySem PySem.Spec PyProof.Rows L2 Py
def dd_law_cell : He.DefD := ⟨("_law_cell", none), "_law_cell", "_law_cell", defArgs s_law_cell, defBody s_law_cell, defScope s_law_cell, [], []⟩
def dd_law_deal : He.DefD := ⟨("_law_deal", none), "_law_deal", "_law_deal", defArgs s_law_deal, defBody s_law_deal, defScope s_law_deal, [], []⟩
def dd_law_base : He.DefD := ⟨("_law_base", none), "_law_base", "_law_base", defArgs s_law_base, defBody s_law_base, defScope s_law_base, [], []⟩
def dd_law_kept : He.DefD := ⟨("_law_kept", none), "_law_kept", "_law_kept", defArgs s_law_kept, defBody s_law_kept, defScope s_law_kept, [], []⟩
def dd_law_board : He.DefD := ⟨("_law_board", none), "_law_board", "_law_board", defArgs s_law_board, defBody s_law_board, defScope s_law_board, [], []⟩
def dd_law_far : He.DefD := ⟨("_law_far", none), "_law_far", "_law_far", defArgs s_law_far, defBody s_law_far, defScope s_law_far, [], []⟩
def dd_law_ring : He.DefD := ⟨("_law_ring", none), "_law_ring", "_law_ring", defArgs s_law_ring, defBody s_law_ring, defScope s_law_ring, [], []⟩
def dd_law_spans : He.DefD := ⟨("_law_spans", none), "_law_spans", "_law_spans", defArgs s_law_spans, defBody s_law_spans, defScope s_law_spans, [], []⟩
def ddlook_finite : He.DefD := ⟨("look_finite", none), "look_finite", "look_finite", defArgs slook_finite, defBody slook_finite, defScope slook_finite, [], []⟩
def ddlook_narrow : He.DefD := ⟨("look_narrow", none), "look_narrow", "look_narrow", defArgs slook_narrow, defBody slook_narrow, defScope slook_narrow, [], []⟩
def ddnoted : He.DefD := ⟨("noted", none), "noted", "noted", defArgs snoted, defBody snoted, defScope snoted, [], []⟩
def ddflooded : He.DefD := ⟨("flooded", none), "flooded", "flooded", defArgs sflooded, defBody sflooded, defScope sflooded, [], []⟩
def ddregions : He.DefD := ⟨("regions", none), "regions", "regions", defArgs sregions, defBody sregions, defScope sregions, [], []⟩
def ddholes : He.DefD := ⟨("holes", none), "holes", "holes", defArgs sholes, defBody sholes, defScope sholes, [], []⟩
def dd_law_refused : He.DefD := ⟨("_law_refused", none), "_law_refused", "_law_refused", defArgs s_law_refused, defBody s_law_refused, defScope s_law_refused, [], []⟩
def dd_law_lacking : He.DefD := ⟨("_law_lacking", none), "_law_lacking", "_law_lacking", defArgs s_law_lacking, defBody s_law_lacking, defScope s_law_lacking, [], []⟩
def dd_law_fallen : He.DefD := ⟨("_law_fallen", none), "_law_fallen", "_law_fallen", defArgs s_law_fallen, defBody s_law_fallen, defScope s_law_fallen, [], []⟩
def dd_law_same : He.DefD := ⟨("_law_same", none), "_law_same", "_law_same", defArgs s_law_same, defBody s_law_same, defScope s_law_same, [], []⟩
def ddlaw : He.DefD := ⟨("law", none), "law", "law", defArgs slaw, defBody slaw, defScope slaw, [], []⟩
def fnl0 : List He.DefD := [dd_law_cell, dd_law_deal, dd_law_base, dd_law_kept, dd_law_board, dd_law_far, dd_law_ring, dd_law_spans, ddlook_finite, ddlook_narrow, ddnoted, ddflooded, ddregions, ddholes, dd_law_refused, dd_law_lacking]
def fnl1 : List He.DefD := [dd_law_fallen, dd_law_same, ddlaw]
def fnl : List He.DefD := fnl0 ++ fnl1
def fal0 : List He.Fa := [.glo "BadCell", .glo "BadDeed", .glo "BadPiece", .glo "BadTurn", .glo "Endless", .glo "MossError", .glo "NoCell", .glo "NoMarks", .glo "NoText", .glo "TooMany", .glo "TooWide", .glo "_law_cell", .glo "_law_deal", .glo "_law_base", .glo "_law_kept", .glo "_law_board"]
def fal1 : List He.Fa := [.glo "_law_far", .glo "_law_ring", .glo "_law_spans", .glo "look_finite", .glo "look_narrow", .glo "noted", .glo "flooded", .glo "regions", .glo "holes", .glo "_law_refused", .glo "_law_lacking", .glo "_law_fallen", .glo "_law_same", .glo "law", .free "ValueError", .free "all"]
def fal2 : List He.Fa := [.free "bool", .free "divmod", .free "int", .free "isinstance", .free "len", .free "list", .free "max", .free "min", .free "range", .free "sorted", .free "str", .free "tuple", .free "zip", .int "WIDEST" 40, .glo "SIDES"]
def fal : List He.Fa := fal0 ++ fal1 ++ fal2
def exl0 (K : PySem.W.Frag) : Bool := decide (PySem.W.subIn K (.ref (He.ga K "Endless")) (.type "BaseException") = some true) &&
  (decide (PySem.W.hasDictIn K (He.ga K "Endless") = true) &&
  (decide (PySem.W.typeIn K (.ref (He.ga K "Endless")) = some (.type "type")) &&
  (decide (PySem.W.subIn K (.ref (He.ga K "MossError")) (.type "BaseException") = some true) &&
  (decide (PySem.W.hasDictIn K (He.ga K "MossError") = true) &&
  (decide (PySem.W.typeIn K (.ref (He.ga K "MossError")) = some (.type "type")) &&
  (decide (PySem.W.subIn K (.ref (He.ga K "TooWide")) (.type "BaseException") = some true) &&
  (decide (PySem.W.hasDictIn K (He.ga K "TooWide") = true) &&
  (decide (PySem.W.typeIn K (.ref (He.ga K "TooWide")) = some (.type "type")) &&
  (decide (PySem.W.keepIn K (.ref (He.ga K "Endless")) = true) &&
  (decide (PySem.W.excIn K (He.ga K "Endless") [.type "ValueError", .type "Exception", .type "BaseException", .type "object"] "ValueError.__new__" = true) &&
  (decide (PySem.W.findIn K (.ref (He.ga K "Endless")) "__getattribute__" = some (some (.builtin "BaseException.__getattribute__"))) &&
  (decide (PySem.W.findIn K (.ref (He.ga K "Endless")) "__getattr__" = some none) &&
  (decide (PySem.W.findIn K (.ref (He.ga K "Endless")) "__class__" = some (some (.builtin "object.__class__"))) &&
  (decide (PySem.W.mroIn K (He.ga K "Endless") (.type "object") = some true) &&
  (decide (PySem.W.keepIn K (.ref (He.ga K "TooWide")) = true) &&
  (true))))))))))))))))
def exl1 (K : PySem.W.Frag) : Bool := decide (PySem.W.excIn K (He.ga K "TooWide") [.type "ValueError", .type "Exception", .type "BaseException", .type "object"] "ValueError.__new__" = true) &&
  (decide (PySem.W.findIn K (.ref (He.ga K "TooWide")) "__getattribute__" = some (some (.builtin "BaseException.__getattribute__"))) &&
  (decide (PySem.W.findIn K (.ref (He.ga K "TooWide")) "__getattr__" = some none) &&
  (decide (PySem.W.findIn K (.ref (He.ga K "TooWide")) "__class__" = some (some (.builtin "object.__class__"))) &&
  (decide (PySem.W.mroIn K (He.ga K "TooWide") (.type "object") = some true) &&
  (decide (PySem.W.specialIn K (.builtin "object.__class__") "__get__" = some (some (.builtin "getset_descriptor.__get__"))) &&
  (decide (PySem.W.takesIn K (.builtin "object.__class__") = some true) &&
  (decide (PySem.W.subIn K (.ref (He.ga K "Endless")) (.ref (He.ga K "MossError")) = some true) &&
  (decide (PySem.W.subIn K (.ref (He.ga K "TooWide")) (.ref (He.ga K "MossError")) = some true) &&
  (decide (PySem.W.kitOne K (.ref (He.ga K "Endless")) (.ref (He.ga K "TooWide")) = some false) &&
  (decide (PySem.W.kitOne K (.ref (He.ga K "Endless")) (.type "ValueError") = some true) &&
  (decide (PySem.W.kitOne K (.ref (He.ga K "TooWide")) (.ref (He.ga K "TooWide")) = some true) &&
  (decide (PySem.W.kitOne K (.ref (He.ga K "TooWide")) (.type "ValueError") = some true) &&
  (decide (PySem.W.kitAny K (.ref (He.ga K "Endless")) [.ref (He.ga K "BadCell"), .ref (He.ga K "BadDeed"), .ref (He.ga K "BadPiece"), .ref (He.ga K "BadTurn"), .ref (He.ga K "Endless"), .ref (He.ga K "NoCell"), .ref (He.ga K "NoMarks"), .ref (He.ga K "NoText"), .ref (He.ga K "TooMany")] = some true) &&
  (decide (PySem.W.kitAny K (.ref (He.ga K "TooWide")) [.ref (He.ga K "BadCell"), .ref (He.ga K "BadDeed"), .ref (He.ga K "BadPiece"), .ref (He.ga K "BadTurn"), .ref (He.ga K "Endless"), .ref (He.ga K "NoCell"), .ref (He.ga K "NoMarks"), .ref (He.ga K "NoText"), .ref (He.ga K "TooMany")] = some false) &&
  (decide (Py.ktB K (He.ga K "SIDES") [((-1 : Int), (0 : Int)), ((0 : Int), (-1 : Int)), ((0 : Int), (1 : Int)), ((1 : Int), (0 : Int))] = true) &&
  (true))))))))))))))))
def exl (K : PySem.W.Frag) : Bool := exl0 K && (exl1 K && (true))
def nml0 : List Str := ["MossError", "BadCell", "BadPiece", "BadTurn", "TooMany", "Endless", "TooWide", "NoCell", "NoMarks", "NoText", "BadDeed", "WIDEST", "SIDES", "look_finite", "flooded", "noted"]
def nml1 : List Str := ["regions", "look_narrow", "holes", "_law_cell", "_law_deal", "_law_kept", "_law_base", "_law_board", "_law_fallen", "_law_lacking", "_law_same", "_law_refused", "_law_far", "_law_ring", "_law_spans"]
def nml : List Str := nml0 ++ nml1
open PySem.W in
abbrev R0 : OpenRow := OpenLaw.row PySem.Challenge.rw_edgewide_k69_holes_told
abbrev hk0 : PySem.W.Hook := Py.hookP fal fnl exl
def ob0 (s : PySem.W.SharedT) : He.AlD × Bool := Py.obsPG fal fnl exl (HandSHeadRun.getT s)
theorem ob0_eq (s : PySem.W.SharedT) : ob0 s = hk0.obs s.abs := Py.obsPG_eq (HandSHeadRun.getT_eq s)
set_option maxHeartbeats 0 in
theorem run0 (w : World) : HandSHeadRun.RunEq R0 (PySem.W.view R0.prog [34]) hk0 ob0 60000 nml w := by
  intro os
  kernel_rfl
theorem all_mk {w : World} {K : PySem.W.Frag} {h : Heap} {mg : Str → Option Value} {fa : Addr} (X : K.In h) (G : h.Ns mainGlobals mg) (hfa : mg "law" = some (.ref fa)) (c : He.SaysD fal fnl K) (e : exl K = true) :
    ∃ fd : FuncData, (∀ (s : Shared) (v : Value), BindsTo s fd ⟨[v], []⟩ [("script", v)]) ∧ ∀ base : Heap, K.In base → base.Ns mainGlobals mg → FnOk (PySem.Challenge.rw_edgewide_k69_holes_told).prog w K mg base (L2.CX (PySem.Challenge.rw_edgewide_k69_holes_told).prog w) 10 fa fd ["script"] (SpL K) := by
  obtain ⟨d_law_cell, D_law_cell⟩ := c.def_ 0 (d := dd_law_cell) rfl
  obtain ⟨d_law_deal, D_law_deal⟩ := c.def_ 1 (d := dd_law_deal) rfl
  obtain ⟨d_law_base, D_law_base⟩ := c.def_ 2 (d := dd_law_base) rfl
  obtain ⟨d_law_kept, D_law_kept⟩ := c.def_ 3 (d := dd_law_kept) rfl
  obtain ⟨d_law_board, D_law_board⟩ := c.def_ 4 (d := dd_law_board) rfl
  obtain ⟨d_law_far, D_law_far⟩ := c.def_ 5 (d := dd_law_far) rfl
  obtain ⟨d_law_ring, D_law_ring⟩ := c.def_ 6 (d := dd_law_ring) rfl
  obtain ⟨d_law_spans, D_law_spans⟩ := c.def_ 7 (d := dd_law_spans) rfl
  obtain ⟨dlook_finite, Dlook_finite⟩ := c.def_ 8 (d := ddlook_finite) rfl
  obtain ⟨dlook_narrow, Dlook_narrow⟩ := c.def_ 9 (d := ddlook_narrow) rfl
  obtain ⟨dnoted, Dnoted⟩ := c.def_ 10 (d := ddnoted) rfl
  obtain ⟨dflooded, Dflooded⟩ := c.def_ 11 (d := ddflooded) rfl
  obtain ⟨dregions, Dregions⟩ := c.def_ 12 (d := ddregions) rfl
  obtain ⟨dholes, Dholes⟩ := c.def_ 13 (d := ddholes) rfl
  obtain ⟨d_law_refused, D_law_refused⟩ := c.def_ 14 (d := dd_law_refused) rfl
  obtain ⟨d_law_lacking, D_law_lacking⟩ := c.def_ 15 (d := dd_law_lacking) rfl
  obtain ⟨d_law_fallen, D_law_fallen⟩ := c.def_ 16 (d := dd_law_fallen) rfl
  obtain ⟨d_law_same, D_law_same⟩ := c.def_ 17 (d := dd_law_same) rfl
  obtain ⟨dlaw, Dlaw⟩ := c.def_ 18 (d := ddlaw) rfl
  have ac_BadCell := He.glo_ok X G (c.fact 0 (f := .glo "BadCell") rfl)
  have ac_BadDeed := He.glo_ok X G (c.fact 1 (f := .glo "BadDeed") rfl)
  have ac_BadPiece := He.glo_ok X G (c.fact 2 (f := .glo "BadPiece") rfl)
  have ac_BadTurn := He.glo_ok X G (c.fact 3 (f := .glo "BadTurn") rfl)
  have ac_Endless := He.glo_ok X G (c.fact 4 (f := .glo "Endless") rfl)
  have ac_MossError := He.glo_ok X G (c.fact 5 (f := .glo "MossError") rfl)
  have ac_NoCell := He.glo_ok X G (c.fact 6 (f := .glo "NoCell") rfl)
  have ac_NoMarks := He.glo_ok X G (c.fact 7 (f := .glo "NoMarks") rfl)
  have ac_NoText := He.glo_ok X G (c.fact 8 (f := .glo "NoText") rfl)
  have ac_TooMany := He.glo_ok X G (c.fact 9 (f := .glo "TooMany") rfl)
  have ac_TooWide := He.glo_ok X G (c.fact 10 (f := .glo "TooWide") rfl)
  have a_law_cell := He.glo_ok X G (c.fact 11 (f := .glo "_law_cell") rfl)
  have a_law_deal := He.glo_ok X G (c.fact 12 (f := .glo "_law_deal") rfl)
  have a_law_base := He.glo_ok X G (c.fact 13 (f := .glo "_law_base") rfl)
  have a_law_kept := He.glo_ok X G (c.fact 14 (f := .glo "_law_kept") rfl)
  have a_law_board := He.glo_ok X G (c.fact 15 (f := .glo "_law_board") rfl)
  have a_law_far := He.glo_ok X G (c.fact 16 (f := .glo "_law_far") rfl)
  have a_law_ring := He.glo_ok X G (c.fact 17 (f := .glo "_law_ring") rfl)
  have a_law_spans := He.glo_ok X G (c.fact 18 (f := .glo "_law_spans") rfl)
  have alook_finite := He.glo_ok X G (c.fact 19 (f := .glo "look_finite") rfl)
  have alook_narrow := He.glo_ok X G (c.fact 20 (f := .glo "look_narrow") rfl)
  have anoted := He.glo_ok X G (c.fact 21 (f := .glo "noted") rfl)
  have aflooded := He.glo_ok X G (c.fact 22 (f := .glo "flooded") rfl)
  have aregions := He.glo_ok X G (c.fact 23 (f := .glo "regions") rfl)
  have aholes := He.glo_ok X G (c.fact 24 (f := .glo "holes") rfl)
  have a_law_refused := He.glo_ok X G (c.fact 25 (f := .glo "_law_refused") rfl)
  have a_law_lacking := He.glo_ok X G (c.fact 26 (f := .glo "_law_lacking") rfl)
  have a_law_fallen := He.glo_ok X G (c.fact 27 (f := .glo "_law_fallen") rfl)
  have a_law_same := He.glo_ok X G (c.fact 28 (f := .glo "_law_same") rfl)
  have alaw := He.glo_ok X G (c.fact 29 (f := .glo "law") rfl)
  have z_ValueError := He.free_ok X G (c.fact 30 (f := .free "ValueError") rfl)
  have z_all := He.free_ok X G (c.fact 31 (f := .free "all") rfl)
  have z_bool := He.free_ok X G (c.fact 32 (f := .free "bool") rfl)
  have z_divmod := He.free_ok X G (c.fact 33 (f := .free "divmod") rfl)
  have z_int := He.free_ok X G (c.fact 34 (f := .free "int") rfl)
  have z_isinstance := He.free_ok X G (c.fact 35 (f := .free "isinstance") rfl)
  have z_len := He.free_ok X G (c.fact 36 (f := .free "len") rfl)
  have z_list := He.free_ok X G (c.fact 37 (f := .free "list") rfl)
  have z_max := He.free_ok X G (c.fact 38 (f := .free "max") rfl)
  have z_min := He.free_ok X G (c.fact 39 (f := .free "min") rfl)
  have z_range := He.free_ok X G (c.fact 40 (f := .free "range") rfl)
  have z_sorted := He.free_ok X G (c.fact 41 (f := .free "sorted") rfl)
  have z_str := He.free_ok X G (c.fact 42 (f := .free "str") rfl)
  have z_tuple := He.free_ok X G (c.fact 43 (f := .free "tuple") rfl)
  have z_zip := He.free_ok X G (c.fact 44 (f := .free "zip") rfl)
  have v_WIDEST := He.int_ok X G (c.fact 45 (f := .int "WIDEST" 40) rfl)
  have ak_SIDES := He.glo_ok X G (c.fact 46 (f := .glo "SIDES") rfl)
  obtain ⟨e0, e⟩ := He.ba (show (exl0 K && _) = true from e)
  obtain ⟨yb_Endless, e0⟩ := Py.ba_d (p := PySem.W.subIn K (.ref (He.ga K "Endless")) (.type "BaseException") = some true) e0
  obtain ⟨yd_Endless, e0⟩ := Py.ba_d (p := PySem.W.hasDictIn K (He.ga K "Endless") = true) e0
  obtain ⟨yt_Endless, e0⟩ := Py.ba_d (p := PySem.W.typeIn K (.ref (He.ga K "Endless")) = some (.type "type")) e0
  obtain ⟨yb_MossError, e0⟩ := Py.ba_d (p := PySem.W.subIn K (.ref (He.ga K "MossError")) (.type "BaseException") = some true) e0
  obtain ⟨yd_MossError, e0⟩ := Py.ba_d (p := PySem.W.hasDictIn K (He.ga K "MossError") = true) e0
  obtain ⟨yt_MossError, e0⟩ := Py.ba_d (p := PySem.W.typeIn K (.ref (He.ga K "MossError")) = some (.type "type")) e0
  obtain ⟨yb_TooWide, e0⟩ := Py.ba_d (p := PySem.W.subIn K (.ref (He.ga K "TooWide")) (.type "BaseException") = some true) e0
  obtain ⟨yd_TooWide, e0⟩ := Py.ba_d (p := PySem.W.hasDictIn K (He.ga K "TooWide") = true) e0
  obtain ⟨yt_TooWide, e0⟩ := Py.ba_d (p := PySem.W.typeIn K (.ref (He.ga K "TooWide")) = some (.type "type")) e0
  obtain ⟨yk_Endless, e0⟩ := Py.ba_d (p := PySem.W.keepIn K (.ref (He.ga K "Endless")) = true) e0
  obtain ⟨ye_Endless, e0⟩ := Py.ba_d (p := PySem.W.excIn K (He.ga K "Endless") [.type "ValueError", .type "Exception", .type "BaseException", .type "object"] "ValueError.__new__" = true) e0
  obtain ⟨yg_Endless, e0⟩ := Py.ba_d (p := PySem.W.findIn K (.ref (He.ga K "Endless")) "__getattribute__" = some (some (.builtin "BaseException.__getattribute__"))) e0
  obtain ⟨yh_Endless, e0⟩ := Py.ba_d (p := PySem.W.findIn K (.ref (He.ga K "Endless")) "__getattr__" = some none) e0
  obtain ⟨ya_Endless, e0⟩ := Py.ba_d (p := PySem.W.findIn K (.ref (He.ga K "Endless")) "__class__" = some (some (.builtin "object.__class__"))) e0
  obtain ⟨ym_Endless, e0⟩ := Py.ba_d (p := PySem.W.mroIn K (He.ga K "Endless") (.type "object") = some true) e0
  obtain ⟨yk_TooWide, e0⟩ := Py.ba_d (p := PySem.W.keepIn K (.ref (He.ga K "TooWide")) = true) e0
  obtain ⟨e1, e⟩ := He.ba (show (exl1 K && _) = true from e)
  obtain ⟨ye_TooWide, e1⟩ := Py.ba_d (p := PySem.W.excIn K (He.ga K "TooWide") [.type "ValueError", .type "Exception", .type "BaseException", .type "object"] "ValueError.__new__" = true) e1
  obtain ⟨yg_TooWide, e1⟩ := Py.ba_d (p := PySem.W.findIn K (.ref (He.ga K "TooWide")) "__getattribute__" = some (some (.builtin "BaseException.__getattribute__"))) e1
  obtain ⟨yh_TooWide, e1⟩ := Py.ba_d (p := PySem.W.findIn K (.ref (He.ga K "TooWide")) "__getattr__" = some none) e1
  obtain ⟨ya_TooWide, e1⟩ := Py.ba_d (p := PySem.W.findIn K (.ref (He.ga K "TooWide")) "__class__" = some (some (.builtin "object.__class__"))) e1
  obtain ⟨ym_TooWide, e1⟩ := Py.ba_d (p := PySem.W.mroIn K (He.ga K "TooWide") (.type "object") = some true) e1
  obtain ⟨yn, e1⟩ := Py.ba_d (p := PySem.W.specialIn K (.builtin "object.__class__") "__get__" = some (some (.builtin "getset_descriptor.__get__"))) e1
  obtain ⟨yx, e1⟩ := Py.ba_d (p := PySem.W.takesIn K (.builtin "object.__class__") = some true) e1
  obtain ⟨ye_Endless_MossError, e1⟩ := Py.ba_d (p := PySem.W.subIn K (.ref (He.ga K "Endless")) (.ref (He.ga K "MossError")) = some true) e1
  obtain ⟨ye_TooWide_MossError, e1⟩ := Py.ba_d (p := PySem.W.subIn K (.ref (He.ga K "TooWide")) (.ref (He.ga K "MossError")) = some true) e1
  obtain ⟨yi_Endless_TooWide, e1⟩ := Py.ba_d (p := PySem.W.kitOne K (.ref (He.ga K "Endless")) (.ref (He.ga K "TooWide")) = some false) e1
  obtain ⟨yi_Endless_ValueError, e1⟩ := Py.ba_d (p := PySem.W.kitOne K (.ref (He.ga K "Endless")) (.type "ValueError") = some true) e1
  obtain ⟨yi_TooWide_TooWide, e1⟩ := Py.ba_d (p := PySem.W.kitOne K (.ref (He.ga K "TooWide")) (.ref (He.ga K "TooWide")) = some true) e1
  obtain ⟨yi_TooWide_ValueError, e1⟩ := Py.ba_d (p := PySem.W.kitOne K (.ref (He.ga K "TooWide")) (.type "ValueError") = some true) e1
  obtain ⟨yt_Endless_BadCell_BadDeed_BadPiece_BadTurn_Endless_NoCell_NoMarks_NoText_TooMany, e1⟩ := Py.ba_d (p := PySem.W.kitAny K (.ref (He.ga K "Endless")) [.ref (He.ga K "BadCell"), .ref (He.ga K "BadDeed"), .ref (He.ga K "BadPiece"), .ref (He.ga K "BadTurn"), .ref (He.ga K "Endless"), .ref (He.ga K "NoCell"), .ref (He.ga K "NoMarks"), .ref (He.ga K "NoText"), .ref (He.ga K "TooMany")] = some true) e1
  obtain ⟨yt_TooWide_BadCell_BadDeed_BadPiece_BadTurn_Endless_NoCell_NoMarks_NoText_TooMany, e1⟩ := Py.ba_d (p := PySem.W.kitAny K (.ref (He.ga K "TooWide")) [.ref (He.ga K "BadCell"), .ref (He.ga K "BadDeed"), .ref (He.ga K "BadPiece"), .ref (He.ga K "BadTurn"), .ref (He.ga K "Endless"), .ref (He.ga K "NoCell"), .ref (He.ga K "NoMarks"), .ref (He.ga K "NoText"), .ref (He.ga K "TooMany")] = some false) e1
  obtain ⟨ek_SIDES, e1⟩ := Py.ba_d (p := Py.ktB K (He.ga K "SIDES") [((-1 : Int), (0 : Int)), ((0 : Int), (-1 : Int)), ((0 : Int), (1 : Int)), ((1 : Int), (0 : Int))] = true) e1
  have e0 := hfa.symm.trans alaw
  cases e0
  have T : Txt K mg ⟨(He.ga K "_law_cell"), (He.ga K "_law_deal"), (He.ga K "_law_base"), (He.ga K "_law_kept"), (He.ga K "_law_board"), (He.ga K "_law_far"), (He.ga K "_law_ring"), (He.ga K "_law_spans"), (He.ga K "look_finite"), (He.ga K "look_narrow"), (He.ga K "noted"), (He.ga K "flooded"), (He.ga K "regions"), (He.ga K "holes"), (He.ga K "_law_refused"), (He.ga K "_law_lacking"), (He.ga K "_law_fallen"), (He.ga K "_law_same"), (He.ga K "law"), d_law_cell, d_law_deal, d_law_base, d_law_kept, d_law_board, d_law_far, d_law_ring, d_law_spans, dlook_finite, dlook_narrow, dnoted, dflooded, dregions, dholes, d_law_refused, d_law_lacking, d_law_fallen, d_law_same, dlaw, (He.ga K "BadCell"), (He.ga K "BadDeed"), (He.ga K "BadPiece"), (He.ga K "BadTurn"), (He.ga K "Endless"), (He.ga K "MossError"), (He.ga K "NoCell"), (He.ga K "NoMarks"), (He.ga K "NoText"), (He.ga K "TooMany"), (He.ga K "TooWide")⟩ := {
    F__law_cell := Py.fz_d (st := s_law_cell) D_law_cell
    g__law_cell := a_law_cell
    k__law_cell := D_law_cell.kp
    b__law_cell := FunD.bindsN (ps := ["script", "k"]) D_law_cell fun _ _ _ _ _ _ us hl => match us, hl with | [_, _], _ => rfl
    F__law_deal := Py.fz_d (st := s_law_deal) D_law_deal
    g__law_deal := a_law_deal
    k__law_deal := D_law_deal.kp
    b__law_deal := FunD.bindsN (ps := ["cell", "salt"]) D_law_deal fun _ _ _ _ _ _ us hl => match us, hl with | [_, _], _ => rfl
    F__law_base := Py.fz_d (st := s_law_base) D_law_base
    g__law_base := a_law_base
    k__law_base := D_law_base.kp
    b__law_base := FunD.bindsN (ps := ["number"]) D_law_base fun _ _ _ _ _ _ us hl => match us, hl with | [_], _ => rfl
    F__law_kept := Py.fz_d (st := s_law_kept) D_law_kept
    g__law_kept := a_law_kept
    k__law_kept := D_law_kept.kp
    b__law_kept := FunD.bindsN (ps := ["row", "column"]) D_law_kept fun _ _ _ _ _ _ us hl => match us, hl with | [_, _], _ => rfl
    F__law_board := Py.fz_d (st := s_law_board) D_law_board
    g__law_board := a_law_board
    k__law_board := D_law_board.kp
    b__law_board := FunD.bindsN (ps := ["number"]) D_law_board fun _ _ _ _ _ _ us hl => match us, hl with | [_], _ => rfl
    F__law_far := Py.fz_d (st := s_law_far) D_law_far
    g__law_far := a_law_far
    k__law_far := D_law_far.kp
    b__law_far := FunD.bindsN (ps := ["cells", "number"]) D_law_far fun _ _ _ _ _ _ us hl => match us, hl with | [_, _], _ => rfl
    F__law_ring := Py.fz_d (st := s_law_ring) D_law_ring
    g__law_ring := a_law_ring
    k__law_ring := D_law_ring.kp
    b__law_ring := FunD.bindsN (ps := ["number"]) D_law_ring fun _ _ _ _ _ _ us hl => match us, hl with | [_], _ => rfl
    F__law_spans := Py.fz_d (st := s_law_spans) D_law_spans
    g__law_spans := a_law_spans
    k__law_spans := D_law_spans.kp
    b__law_spans := FunD.bindsN (ps := ["cells"]) D_law_spans fun _ _ _ _ _ _ us hl => match us, hl with | [_], _ => rfl
    F_look_finite := Py.fz_d (st := slook_finite) Dlook_finite
    g_look_finite := alook_finite
    k_look_finite := Dlook_finite.kp
    b_look_finite := FunD.bindsN (ps := ["shape"]) Dlook_finite fun _ _ _ _ _ _ us hl => match us, hl with | [_], _ => rfl
    F_look_narrow := Py.fz_d (st := slook_narrow) Dlook_narrow
    g_look_narrow := alook_narrow
    k_look_narrow := Dlook_narrow.kp
    b_look_narrow := FunD.bindsN (ps := ["shape"]) Dlook_narrow fun _ _ _ _ _ _ us hl => match us, hl with | [_], _ => rfl
    F_noted := Py.fz_d (st := snoted) Dnoted
    g_noted := anoted
    k_noted := Dnoted.kp
    b_noted := FunD.bindsN (ps := ["cells"]) Dnoted fun _ _ _ _ _ _ us hl => match us, hl with | [_], _ => rfl
    F_flooded := Py.fz_d (st := sflooded) Dflooded
    g_flooded := aflooded
    k_flooded := Dflooded.kp
    b_flooded := FunD.bindsN (ps := ["some", "start", "steps"]) Dflooded fun _ _ _ _ _ _ us hl => match us, hl with | [_, _, _], _ => rfl
    F_regions := Py.fz_d (st := sregions) Dregions
    g_regions := aregions
    k_regions := Dregions.kp
    b_regions := FunD.bindsN (ps := ["cells", "steps"]) Dregions fun _ _ _ _ _ _ us hl => match us, hl with | [_, _], _ => rfl
    F_holes := Py.fz_d (st := sholes) Dholes
    g_holes := aholes
    k_holes := Dholes.kp
    b_holes := FunD.bindsN (ps := ["shape"]) Dholes fun _ _ _ _ _ _ us hl => match us, hl with | [_], _ => rfl
    F__law_refused := Py.fz_d (st := s_law_refused) D_law_refused
    g__law_refused := a_law_refused
    k__law_refused := D_law_refused.kp
    b__law_refused := FunD.bindsN (ps := ["shape"]) D_law_refused fun _ _ _ _ _ _ us hl => match us, hl with | [_], _ => rfl
    F__law_lacking := Py.fz_d (st := s_law_lacking) D_law_lacking
    g__law_lacking := a_law_lacking
    k__law_lacking := D_law_lacking.kp
    b__law_lacking := FunD.bindsN (ps := ["cells"]) D_law_lacking fun _ _ _ _ _ _ us hl => match us, hl with | [_], _ => rfl
    F__law_fallen := Py.fz_d (st := s_law_fallen) D_law_fallen
    g__law_fallen := a_law_fallen
    k__law_fallen := D_law_fallen.kp
    b__law_fallen := FunD.bindsN (ps := ["cells", "sides"]) D_law_fallen fun _ _ _ _ _ _ us hl => match us, hl with | [_, _], _ => rfl
    F__law_same := Py.fz_d (st := s_law_same) D_law_same
    g__law_same := a_law_same
    k__law_same := D_law_same.kp
    b__law_same := FunD.bindsN (ps := ["found", "due"]) D_law_same fun _ _ _ _ _ _ us hl => match us, hl with | [_, _], _ => rfl
    F_law := Py.fz_d (st := slaw) Dlaw
    g_law := alaw
    k_law := Dlaw.kp
    b_law := FunD.bindsN (ps := ["script"]) Dlaw fun _ _ _ _ _ _ us hl => match us, hl with | [_], _ => rfl
    gc_BadCell := ac_BadCell
    gc_BadDeed := ac_BadDeed
    gc_BadPiece := ac_BadPiece
    gc_BadTurn := ac_BadTurn
    gc_Endless := ac_Endless
    gc_MossError := ac_MossError
    gc_NoCell := ac_NoCell
    gc_NoMarks := ac_NoMarks
    gc_NoText := ac_NoText
    gc_TooMany := ac_TooMany
    gc_TooWide := ac_TooWide
    x_Endless := ⟨ac_Endless, yk_Endless, ye_Endless, yt_Endless, ⟨yg_Endless, yh_Endless, yb_Endless, yd_Endless, ya_Endless, yn, yx, ym_Endless⟩⟩
    x_TooWide := ⟨ac_TooWide, yk_TooWide, ye_TooWide, yt_TooWide, ⟨yg_TooWide, yh_TooWide, yb_TooWide, yd_TooWide, ya_TooWide, yn, yx, ym_TooWide⟩⟩
    e_Endless_MossError := PySem.W.exm_ref yb_MossError yd_MossError yt_MossError ye_Endless_MossError
    e_TooWide_MossError := PySem.W.exm_ref yb_MossError yd_MossError yt_MossError ye_TooWide_MossError
    i_Endless_TooWide := yi_Endless_TooWide
    i_Endless_ValueError := yi_Endless_ValueError
    i_TooWide_TooWide := yi_TooWide_TooWide
    i_TooWide_ValueError := yi_TooWide_ValueError
    t_Endless_BadCell_BadDeed_BadPiece_BadTurn_Endless_NoCell_NoMarks_NoText_TooMany := yt_Endless_BadCell_BadDeed_BadPiece_BadTurn_Endless_NoCell_NoMarks_NoText_TooMany
    t_TooWide_BadCell_BadDeed_BadPiece_BadTurn_Endless_NoCell_NoMarks_NoText_TooMany := yt_TooWide_BadCell_BadDeed_BadPiece_BadTurn_Endless_NoCell_NoMarks_NoText_TooMany
    n_ValueError := z_ValueError
    n_all := z_all
    n_bool := z_bool
    n_divmod := z_divmod
    n_int := z_int
    n_isinstance := z_isinstance
    n_len := z_len
    n_list := z_list
    n_max := z_max
    n_min := z_min
    n_range := z_range
    n_sorted := z_sorted
    n_str := z_str
    n_tuple := z_tuple
    n_zip := z_zip
    c_WIDEST := v_WIDEST
    kt_SIDES := ⟨_, ak_SIDES, Py.ktB_ok ek_SIDES⟩
  }
  have b := FunD.bindsA (ps := ["script"]) Dlaw fun _ _ _ _ _ _ us hl => match us, hl with | [_], _ => rfl
  exact ⟨dlaw, fun s v => b s [v] rfl, fun base _ _ => law_fn (w_law T) law_ok⟩
end G
open PySem PySem.W PyProof.Rows
set_option maxHeartbeats 0 in
theorem PySem.Challenge.cw_edgewide_k69_holes_told_holds : PySem.Challenge.rw_edgewide_k69_holes_told.Holds := by
  w_on; o_law
  refine HandSHeadRun.head_any (r := OpenLaw.row PySem.Challenge.rw_edgewide_k69_holes_told) (q := view (OpenLaw.row PySem.Challenge.rw_edgewide_k69_holes_told).prog [34]) (H := G.hk0) (ob := G.ob0) (M := 60000) (loose := G.nml) (d := HandSHeadRun.topDef (OpenLaw.row PySem.Challenge.rw_edgewide_k69_holes_told).prog 34) (kwd := []) G.ob0_eq
    (by kernel_rfl) (fun s => by kernel_rfl) G.run0 (by kernel_rfl) (by kernel_rfl) (by kernel_rfl) (by rfl) (by first | assumption | decide +kernel) (by decide +kernel) ⟨rfl, rfl, rfl, rfl, rfl, by decide +kernel⟩ ?hw ?hc
  case hw => w_witness2
  case hc =>
    refine Py.walk_ofP (l := PySem.Challenge.rw_edgewide_k69_holes_told) (n := 63) (k := 10) (x := "script") (CX := fun w => L2.CX (PySem.Challenge.rw_edgewide_k69_holes_told).prog w) rfl (by decide) (by kernel_rfl) ⟨rfl, by decide, by decide⟩ ?F (fun _ _ _ _ _ h => Py.cx_end h)
    intro w mg fa h Y gns hmg0
    obtain ⟨K, KX, c, e⟩ := Y
    have hmg : mg ("law" : PySem.Str) = some (.ref fa) := by
      have e : (HandSHeadRun.topDef (OpenLaw.row PySem.Challenge.rw_edgewide_k69_holes_told).prog 34).name = ("law" : PySem.Str) := by kernel_rfl
      rw [← e]
      exact hmg0
    obtain ⟨fd, hb, hF⟩ := G.all_mk (w := w) KX gns hmg c e
    exact ⟨K, fd, Py.SpL K, KX, hb, fun H a ns hl hbits _ hS => ⟨a, ns, rfl, hS, hl, hbits, fun _ => rfl⟩, hF⟩
