import PyProof.Rows.All
import Wide.All
import OpenK.AllK
import Wide.FinOn
import HandS.ForMost
import HandS.TupSets
import HandS.SortRule
import HandS.IsInst
import HandS.Wide
import HandS.WideBits
import HandS.Flow
import HandS.Deep
import HandS.TupAny
import HandS.Exc
import HandS.TryOnly
import HandS.ExcOwn
import HandS.CallSlots
import HandS.WordsExc
import HandS.ExcIs
import HandS.EndBits
import HandS.Defaults
import HandS.SortInts
import HandS.Style
import HandS.Conv
import PyProof.TupleOfSeq
import HandS.TupLen
import KE.KExcIs
import HandS.Rev
import PyProof.ListRange
import HandS.Zip
import KE.DatumOrd
import HandS.DictTup
import PyProof.EnumIter
import HandS.ExcValue
import PyProof.DictMoreH
import HandS.List
import HandS.New0
import PySem.Challenge.RW_edgewide_k45_whole_turned_moved_more
set_option Elab.async false
set_option linter.all false
set_option maxRecDepth 100000
set_option maxHeartbeats 40000000
/-! Own layer, part A: what a program text makes, as plain Lean data (R), what stands for data on the heap (Rp), what the slots hold (Sl, SA). -/
namespace Py
open PySem PySem.Spec PyProof.Rows L2

structure Er where
  cls : Str
  fld : Option Int := none

/-- a result: a value, a raised error, or «not covered» -/
inductive R (α : Type) where
  | ok (a : α)
  | er (e : Er)
  | bad
def R.bind {α β : Type} : R α → (α → R β) → R β
  | .ok a, k => k a
  | .er e, _ => .er e
  | .bad, _ => .bad
theorem R.bind_pure {α : Type} (m : R α) : (m.bind fun x => .ok x) = m := by cases m <;> rfl
theorem R.bind_assoc {α β γ : Type} (m : R α) (f : α → R β) (g : β → R γ) : (m.bind f).bind g = m.bind fun x => (f x).bind g := by cases m <;> rfl
theorem R.ok_bind {α β : Type} (a : α) (f : α → R β) : (R.ok a).bind f = f a := rfl
/-- errors are not covered here -/
def R.calm {α : Type} : R α → R α
  | .ok a => .ok a
  | .er _ => .bad
  | .bad => .bad
theorem R.ok_calm {α : Type} (a : α) : (R.ok a).calm = R.ok a := rfl
/-- under a condition -/
def chk (c : Prop) [Decidable c] {α : Type} (a : α) : R α := if c then .ok a else .bad
def ofOpt {α : Type} : Option α → R α
  | some a => .ok a
  | none => .bad

def wpR {α : Type} (m : R α) (K : α → Prop) (Z : Er → Prop) : Prop := match m with
  | .ok a => K a
  | .er e => Z e
  | .bad => False
theorem wpR_bind {α β : Type} {m : R α} {k : α → R β} {K : β → Prop} {Z : Er → Prop} (h : wpR (m.bind k) K Z) : wpR m (fun a => wpR (k a) K Z) Z := by
  cases m with
  | ok a => exact h
  | er e => exact h
  | bad => exact h
theorem wpR_mono {α : Type} {m : R α} {K K' : α → Prop} {Z Z' : Er → Prop} (h : wpR m K Z) (hk : ∀ a, K a → K' a) (hz : ∀ e, Z e → Z' e) : wpR m K' Z' := by
  cases m with
  | ok a => exact hk a h
  | er e => exact hz e h
  | bad => exact h
theorem wpR_calm {α : Type} {m : R α} {K : α → Prop} {Z : Er → Prop} (h : wpR m.calm K Z) : wpR m K fun _ => False := by
  cases m with
  | ok a => exact h
  | er e => exact False.elim h
  | bad => exact h
theorem wpR_chk {c : Prop} [Decidable c] {α : Type} {a : α} {K : α → Prop} {Z : Er → Prop} (h : wpR (chk c a) K Z) : c ∧ K a := by
  unfold chk at h
  by_cases e : c
  · rw [if_pos e] at h
    exact ⟨e, h⟩
  · rw [if_neg e] at h
    exact False.elim h
theorem wpR_opt {α : Type} {o : Option α} {K : α → Prop} {Z : Er → Prop} (h : wpR (ofOpt o) K Z) : ∃ a, o = some a ∧ K a := by
  cases o with
  | none => exact False.elim h
  | some a => exact ⟨a, rfl, h⟩

/-! ### data on the heap -/
theorem Same.upd {H : Hp} {p : Addr} {o : HO} (h : H p = none) : Same H (upd H p o) := fun b x e => by
  rw [upd_ne (ne_of_none e h)]
  exact e
structure Rp (α : Type) where
  rep : α → Hp → V → Prop
  mono : ∀ {a : α} {H H' : Hp} {v : V}, Same H H' → rep a H v → rep a H' v
/-- several values in a row -/
structure Tr (τ : Type) where
  rep : τ → Hp → List V → Prop
  mono : ∀ {a : τ} {H H' : Hp} {vs : List V}, Same H H' → rep a H vs → rep a H' vs
def rI : Rp Int := ⟨fun i _ v => v = .int i, fun _ h => h⟩
def rB : Rp Bool := ⟨fun b _ v => v = .bl b, fun _ h => h⟩
def rS : Rp Str := ⟨fun s _ v => v = .str s, fun _ h => h⟩
def rN : Rp Unit := ⟨fun _ _ v => v = .non, fun _ h => h⟩
def rO {α : Type} (ρ : Rp α) : Rp (Option α) :=
  ⟨fun a H v => match a with | none => v = .non | some x => ρ.rep x H v, fun {a H H' v} e h => by
    cases a with
    | none => exact h
    | some x => exact ρ.mono e h⟩
def t0 : Tr Unit := ⟨fun _ _ vs => vs = [], fun _ h => h⟩
def t1 {α : Type} (ρ : Rp α) : Tr α := ⟨fun a H vs => ∃ v, vs = [v] ∧ ρ.rep a H v, fun e ⟨v, h, r⟩ => ⟨v, h, ρ.mono e r⟩⟩
def tc {α τ : Type} (ρ : Rp α) (t : Tr τ) : Tr (α × τ) := ⟨fun a H vs => ∃ v ws, vs = v :: ws ∧ ρ.rep a.1 H v ∧ t.rep a.2 H ws, fun e ⟨v, ws, h, r, q⟩ => ⟨v, ws, h, ρ.mono e r, t.mono e q⟩⟩
inductive RepL {α : Type} (ρ : Rp α) (H : Hp) : List α → List V → Prop
  | nil : RepL ρ H [] []
  | cons {a : α} {as : List α} {v : V} {vs : List V} : ρ.rep a H v → RepL ρ H as vs → RepL ρ H (a :: as) (v :: vs)
theorem RepL.mono {α : Type} {ρ : Rp α} {H H' : Hp} (e : Same H H') : ∀ {as : List α} {vs : List V}, RepL ρ H as vs → RepL ρ H' as vs
  | _, _, .nil => .nil
  | _, _, .cons r t => .cons (ρ.mono e r) (RepL.mono e t)
theorem RepL.length {α : Type} {ρ : Rp α} {H : Hp} : ∀ {as : List α} {vs : List V}, RepL ρ H as vs → as.length = vs.length
  | _, _, .nil => rfl
  | _, _, .cons r t => congrArg (· + 1) (RepL.length t)
theorem RepL.append {α : Type} {ρ : Rp α} {H : Hp} : ∀ {as bs : List α} {vs ws : List V}, RepL ρ H as vs → RepL ρ H bs ws → RepL ρ H (as ++ bs) (vs ++ ws)
  | _, _, _, _, .nil, q => q
  | _, _, _, _, .cons r t, q => .cons r (RepL.append t q)
theorem RepL.got {α : Type} {ρ : Rp α} {H : Hp} : ∀ {as : List α} {vs : List V} {i : Nat} {a : α}, RepL ρ H as vs → as[i]? = some a → ∃ v, vs[i]? = some v ∧ ρ.rep a H v
  | _, _, _, _, .nil, e => by simp at e
  | _, _, 0, _, .cons r _, e => by
    simp at e
    subst e
    exact ⟨_, rfl, r⟩
  | _, _, i + 1, v, .cons _ t, e => by
    obtain ⟨a, h1, h2⟩ := RepL.got (i := i) t (by simpa using e)
    exact ⟨a, by simpa using h1, h2⟩
theorem RepL.set {α : Type} {ρ : Rp α} {H : Hp} {a : α} {v : V} (r : ρ.rep a H v) : ∀ {as : List α} {vs : List V} (i : Nat), RepL ρ H as vs → RepL ρ H (as.set i a) (vs.set i v)
  | _, _, _, .nil => .nil
  | _, _, 0, .cons _ t => .cons r t
  | _, _, i + 1, .cons q t => .cons q (RepL.set r i t)
theorem RepL.reverse {α : Type} {ρ : Rp α} {H : Hp} : ∀ {as : List α} {vs : List V}, RepL ρ H as vs → RepL ρ H as.reverse vs.reverse
  | _, _, .nil => .nil
  | _, _, .cons r t => by
    rw [List.reverse_cons, List.reverse_cons]
    exact (RepL.reverse t).append (.cons r .nil)
def tl {α : Type} (ρ : Rp α) : Tr (List α) := ⟨fun a H vs => RepL ρ H a vs, fun e h => h.mono e⟩
/-- a tuple -/
def rTu {τ : Type} (t : Tr τ) : Rp τ := ⟨fun a H v => ∃ p vs, v = .ref p ∧ H p = some (.tup vs) ∧ t.rep a H vs, fun e ⟨p, vs, h, q, r⟩ => ⟨p, vs, h, e p _ q, t.mono e r⟩⟩
/-- a list that stays as it is -/
def rLi {τ : Type} (t : Tr τ) : Rp τ := ⟨fun a H v => ∃ p vs, v = .ref p ∧ H p = some (.lst vs) ∧ t.rep a H vs, fun e ⟨p, vs, h, q, r⟩ => ⟨p, vs, h, e p _ q, t.mono e r⟩⟩
abbrev rT {α : Type} (ρ : Rp α) : Rp (List α) := rTu (tl ρ)
abbrev rL {α : Type} (ρ : Rp α) : Rp (List α) := rLi (tl ρ)
abbrev rP {α β : Type} (ρ : Rp α) (π : Rp β) : Rp (α × β) := rTu (tc ρ (t1 π))
abbrev rC : Rp (Int × Int) := rP rI rI
/-- the script: a list of ints that is read alone -/
def rScr (K : PySem.W.Frag) : Rp (List Int) := ⟨fun ns H v => ∃ p, v = .ref p ∧ SqL K H p (ns.map V.int), fun e ⟨p, h, q⟩ => ⟨p, h, Same.seq e q⟩⟩

/-! ### slots -/
structure PRp where
  p : Hp → V → Prop
  m : ∀ {H H' : Hp} {v : V}, Same H H' → p H v → p H' v
structure ORp where
  p : Hp → HO → Prop
  m : ∀ {H H' : Hp} {o : HO}, Same H H' → p H o → p H' o
  nt : ∀ {H : Hp} {o : HO}, p H o → ∀ vs, o ≠ .tup vs
inductive Sl where
  | any
  | imm (p : PRp)
  | own (a : Option Addr) (o : ORp)
abbrev im {α : Type} (ρ : Rp α) (a : α) : Sl := .imm ⟨fun H v => ρ.rep a H v, fun e h => ρ.mono e h⟩
/-- an entry: what was known, the heap, the objects that may be changed -/
structure En where
  F : Hp
  H : Hp
  ps : Addr → Prop

structure SA (en : En) (Γ : List Sl) (F : Hp) (σ : L2.St) (H : Hp) : Prop where
  len : Γ.length ≤ σ.length
  sub : Same F H
  grow : Same en.F F
  old : ∀ p o, en.H p = some o → ¬ en.ps p → H p = some o
  there : ∀ p, en.H p ≠ none → H p ≠ none
  frz : ∀ p, en.H p ≠ none → en.F p = none → ¬ en.ps p → F p = none ∨ ∃ vs, F p = some (.tup vs)
  val : ∀ (i : Nat) (P : PRp), Γ[i]? = some (.imm P) → ∃ v, σ[i]? = some (some v) ∧ P.p F v
  own : ∀ (i : Nat) (a : Option Addr) (P : ORp), Γ[i]? = some (.own a P) → ∃ p o, σ[i]? = some (some (.ref p)) ∧ F p = none ∧ H p = some o ∧ P.p F o ∧ (en.H p = none ∨ en.ps p) ∧ (∀ q, a = some q → p = q)
  dis : ∀ (i j : Nat) (a b : Option Addr) (P Q : ORp) (p : Addr), i ≠ j → Γ[i]? = some (.own a P) → Γ[j]? = some (.own b Q) → σ[i]? = some (some (.ref p)) → σ[j]? ≠ some (some (.ref p))

/-- the heap grows, what is known grows by what is new -/
structure Ext (F H F' H' : Hp) : Prop where
  f : Same F F'
  h : Same H H'
  s : Same F' H'
  n : ∀ p, H p ≠ none → F p = none → F' p = none ∨ ∃ vs, F' p = some (.tup vs)
theorem Ext.refl {F H : Hp} (e : Same F H) : Ext F H F H := ⟨Same.refl F, Same.refl H, e, fun _ _ h => .inl h⟩
theorem same_ne {H H' : Hp} (e : Same H H') {p : Addr} (h : H p ≠ none) : H' p ≠ none := by
  cases q : H p with
  | none => exact absurd q h
  | some o =>
    rw [e p o q]
    exact fun z => nomatch z
theorem Ext.trans {F H F1 H1 F2 H2 : Hp} (a : Ext F H F1 H1) (b : Ext F1 H1 F2 H2) : Ext F H F2 H2 :=
  ⟨a.f.trans b.f, a.h.trans b.h, b.s, fun p hp hf => (a.n p hp hf).elim (fun z => b.n p (same_ne a.h hp) z) fun ⟨vs, z⟩ => .inr ⟨vs, b.f p _ z⟩⟩
/-- a new object that is known at once -/
theorem Ext.new {F H : Hp} (e : Same F H) {p : Addr} {o : HO} (h : H p = none) : Ext F H (upd F p o) (upd H p o) := by
  have hf : F p = none := by
    cases q : F p with
    | none => rfl
    | some x =>
      rw [e p x q] at h
      cases h
  refine ⟨Same.upd hf, Same.upd h, fun b x q => ?_, fun q hq hn => ?_⟩
  · by_cases hb : b = p
    · subst hb
      rw [upd_same] at q ⊢
      exact q
    · rw [upd_ne hb] at q ⊢
      exact e b x q
  · have : q ≠ p := fun z => by
      subst z
      exact hq h
    exact .inl (by rw [upd_ne this]; exact hn)
/-- a new object that is not known -/
theorem Ext.lay {F H : Hp} (e : Same F H) {p : Addr} {o : HO} (h : H p = none) : Ext F H F (upd H p o) :=
  ⟨Same.refl F, Same.upd h, e.trans (Same.upd h), fun _ _ z => .inl z⟩

section
variable {en : En} {Γ Γ' : List Sl} {F F' H H' : Hp} {σ σ' : L2.St}
theorem SA.ext (s : SA en Γ F σ H) (x : Ext F H F' H') : SA en Γ F' σ H' where
  len := s.len
  sub := x.s
  grow := s.grow.trans x.f
  old := fun p o h hp => x.h p o (s.old p o h hp)
  there := fun p h => same_ne x.h (s.there p h)
  frz := fun p h hf hp => (s.frz p h hf hp).elim (fun z => x.n p (s.there p h) z) fun ⟨vs, z⟩ => .inr ⟨vs, x.f p _ z⟩
  val := fun i P h => by
    obtain ⟨v, h1, h2⟩ := s.val i P h
    exact ⟨v, h1, P.m x.f h2⟩
  own := fun i a P h => by
    obtain ⟨p, o, h1, h2, h3, h4, h5, h6⟩ := s.own i a P h
    refine ⟨p, o, h1, ?_, x.h p o h3, P.m x.f h4, h5, h6⟩
    rcases x.n p (fun z => by rw [h3] at z; cases z) h2 with z | ⟨vs, z⟩
    · exact z
    · have y := x.s p _ z
      rw [x.h p o h3] at y
      exact absurd (Option.some.inj y) (P.nt h4 vs)
  dis := s.dis
/-- a slot is set to a known value -/
theorem SA.put (s : SA en Γ F σ H) {i : Nat} {P : PRp} {v : V} (h : P.p F v) : SA en (Γ.set i (.imm P)) F (σ.set i (some v)) H where
  len := by
    rw [List.length_set, List.length_set]
    exact s.len
  sub := s.sub
  grow := s.grow
  old := s.old
  there := s.there
  frz := s.frz
  val := fun j Q hj => by
    by_cases e : i = j
    · subst e
      by_cases hi : i < Γ.length
      · rw [List.getElem?_set_self hi] at hj
        injection hj with hj
        injection hj with hj
        subst hj
        exact ⟨v, List.getElem?_set_self (Nat.lt_of_lt_of_le hi s.len), h⟩
      · rw [List.getElem?_eq_none (by rw [List.length_set]; omega)] at hj
        cases hj
    · rw [List.getElem?_set_ne e] at hj ⊢
      exact s.val j Q hj
  own := fun j a Q hj => by
    by_cases e : i = j
    · subst e
      by_cases hi : i < Γ.length
      · rw [List.getElem?_set_self hi] at hj
        cases hj
      · rw [List.getElem?_eq_none (by rw [List.length_set]; omega)] at hj
        cases hj
    · rw [List.getElem?_set_ne e] at hj ⊢
      exact s.own j a Q hj
  dis := fun j k a b P' Q p hjk hj hk hp => by
    have ne : ∀ {l : Nat} {a : Option Addr} {P' : ORp}, (Γ.set i (.imm P))[l]? = some (.own a P') → i ≠ l := fun {l a P'} hl e => by
      subst e
      by_cases hi : i < Γ.length
      · rw [List.getElem?_set_self hi] at hl
        cases hl
      · rw [List.getElem?_eq_none (by rw [List.length_set]; omega)] at hl
        cases hl
    have nj := ne hj
    have nk := ne hk
    rw [List.getElem?_set_ne nj] at hj hp
    rw [List.getElem?_set_ne nk] at hk ⊢
    exact s.dis j k a b P' Q p hjk hj hk hp
/-- an object that no slot has, that is not known -/
structure Fresh (en : En) (Γ : List Sl) (F : Hp) (σ : L2.St) (H : Hp) (p : Addr) (o : HO) : Prop where
  f : F p = none
  e : en.H p = none
  n : ∀ (i : Nat) (a : Option Addr) (P : ORp), Γ[i]? = some (.own a P) → σ[i]? ≠ some (some (.ref p))
  h : H p = some o
theorem none_back {H H' : Hp} (e : Same H H') {p : Addr} (h : H' p = none) : H p = none := by
  cases q : H p with
  | none => rfl
  | some x =>
    rw [e p x q] at h
    cases h
theorem SA.gone (s : SA en Γ F σ H) {p : Addr} (hp : H p = none) : en.H p = none := by
  cases q : en.H p with
  | none => rfl
  | some x => exact absurd hp (s.there p (by rw [q]; exact fun z => nomatch z))
theorem SA.ref_ne (s : SA en Γ F σ H) {p : Addr} (hp : H p = none) (i : Nat) (a : Option Addr) (P : ORp) (hi : Γ[i]? = some (.own a P)) : σ[i]? ≠ some (some (.ref p)) := fun z => by
  obtain ⟨q, x, h1, h2, h3, _⟩ := s.own i a P hi
  rw [h1] at z
  injection z with z
  injection z with z
  injection z with z
  subst z
  rw [h3] at hp
  cases hp
/-- a new object is laid -/
theorem SA.lay (s : SA en Γ F σ H) {p : Addr} {o : HO} (hp : H p = none) : SA en Γ F σ (upd H p o) ∧ Fresh en Γ F σ (upd H p o) p o :=
  ⟨s.ext (Ext.lay s.sub hp), none_back s.sub hp, s.gone hp, s.ref_ne hp, upd_same⟩
/-- it becomes known -/
theorem SA.know (s : SA en Γ F σ H) {p : Addr} {o : HO} (h : Fresh en Γ F σ H p o) : SA en Γ (upd F p o) σ H ∧ Same F (upd F p o) := by
  have sf : Same F (upd F p o) := Same.upd h.f
  refine ⟨⟨s.len, fun b x e => ?_, s.grow.trans sf, s.old, s.there, fun b hb hf hps => ?_, fun j Q hj => ?_, fun j b Q hj => ?_, s.dis⟩, sf⟩
  · by_cases z : b = p
    · subst z
      rw [upd_same] at e
      cases e
      exact h.h
    · rw [upd_ne z] at e
      exact s.sub b x e
  · have : b ≠ p := fun z => by
      subst z
      exact hb h.e
    rcases s.frz b hb hf hps with z | ⟨vs, z⟩
    · exact .inl (by rw [upd_ne this]; exact z)
    · exact .inr ⟨vs, by rw [upd_ne this]; exact z⟩
  · obtain ⟨v, g1, g2⟩ := s.val j Q hj
    exact ⟨v, g1, Q.m sf g2⟩
  · obtain ⟨q, x, g1, g2, g3, g4, g5, g6⟩ := s.own j b Q hj
    have : q ≠ p := fun z => by
      subst z
      exact h.n j b Q hj g1
    exact ⟨q, x, g1, by rw [upd_ne this]; exact g2, g3, Q.m sf g4, g5, g6⟩
theorem no_tup {F H : Hp} (sub : Same F H) {p : Addr} {o : HO} (h : F p = none ∨ ∃ vs, F p = some (.tup vs)) (ho : H p = some o) (hm : ∀ vs, o ≠ .tup vs) : F p = none := by
  rcases h with z | ⟨vs, z⟩
  · exact z
  · have y := sub p _ z
    rw [ho] at y
    exact absurd (Option.some.inj y) (hm vs)
/-- a slot is set to it -/
theorem SA.putOwn (s : SA en Γ F σ H) {i : Nat} {P : ORp} {p : Addr} {o : HO} (fr : Fresh en Γ F σ H p o) (h : P.p F o) : SA en (Γ.set i (.own none P)) F (σ.set i (some (.ref p))) H := by
  refine ⟨?_, s.sub, s.grow, s.old, s.there, s.frz, fun j Q hj => ?_, fun j a Q hj => ?_, fun j k a b P' Q q hjk hj hk hq => ?_⟩
  · rw [List.length_set, List.length_set]
    exact s.len
  · by_cases e : i = j
    · subst e
      by_cases hi : i < Γ.length
      · rw [List.getElem?_set_self hi] at hj
        cases hj
      · rw [List.getElem?_eq_none (by rw [List.length_set]; omega)] at hj
        cases hj
    · rw [List.getElem?_set_ne e] at hj ⊢
      exact s.val j Q hj
  · by_cases e : i = j
    · subst e
      by_cases hi : i < Γ.length
      · rw [List.getElem?_set_self hi] at hj
        injection hj with hj
        injection hj with h1 h2
        subst h1 h2
        exact ⟨p, o, List.getElem?_set_self (Nat.lt_of_lt_of_le hi s.len), fr.f, fr.h, h, .inl fr.e, fun q z => nomatch z⟩
      · rw [List.getElem?_eq_none (by rw [List.length_set]; omega)] at hj
        cases hj
    · rw [List.getElem?_set_ne e] at hj ⊢
      exact s.own j a Q hj
  · by_cases ej : i = j
    · subst ej
      have ek : i ≠ k := hjk
      rw [List.getElem?_set_ne ek] at hk ⊢
      have hi : i < Γ.length := by
        by_cases hi : i < Γ.length
        · exact hi
        · rw [List.getElem?_eq_none (by rw [List.length_set]; omega)] at hj
          cases hj
      rw [List.getElem?_set_self (Nat.lt_of_lt_of_le hi s.len)] at hq
      injection hq with hq
      injection hq with hq
      injection hq with hq
      subst hq
      exact fr.n _ _ _ hk
    · rw [List.getElem?_set_ne ej] at hj hq
      by_cases ek : i = k
      · subst ek
        intro z
        have hi : i < Γ.length := by
          by_cases hi : i < Γ.length
          · exact hi
          · rw [List.getElem?_eq_none (by rw [List.length_set]; omega)] at hk
            cases hk
        rw [List.getElem?_set_self (Nat.lt_of_lt_of_le hi s.len)] at z
        injection z with z
        injection z with z
        injection z with z
        subst z
        exact fr.n _ _ _ hj hq
      · rw [List.getElem?_set_ne ek] at hk ⊢
        exact s.dis j k a b P' Q q hjk hj hk hq
/-- an object that is not known, that no slot has, that is new since the entry, is changed -/
theorem SA.other (s : SA en Γ F σ H) {p : Addr} {o o' : HO} (fr : Fresh en Γ F σ H p o) : SA en Γ F σ (upd H p o') ∧ Fresh en Γ F σ (upd H p o') p o' := by
  refine ⟨⟨s.len, fun b x e => ?_, s.grow, fun b x e hb => ?_, fun b hb => ?_, s.frz, s.val, fun j b Q hj => ?_, s.dis⟩, fr.f, fr.e, fr.n, upd_same⟩
  · have : b ≠ p := fun z => by
      subst z
      rw [fr.f] at e
      cases e
    rw [upd_ne this]
    exact s.sub b x e
  · have : b ≠ p := fun z => by
      subst z
      rw [fr.e] at e
      cases e
    rw [upd_ne this]
    exact s.old b x e hb
  · have : b ≠ p := fun z => by
      subst z
      exact hb fr.e
    rw [upd_ne this]
    exact s.there b hb
  · obtain ⟨q, x, g1, g2, g3, g4, g5, g6⟩ := s.own j b Q hj
    have : q ≠ p := fun z => by
      subst z
      exact fr.n j b Q hj g1
    exact ⟨q, x, g1, g2, by rw [upd_ne this]; exact g3, g4, g5, g6⟩
/-- what the slots own -/
def Ows (Γ : List Sl) (σ : L2.St) (p : Addr) : Prop := ∃ (i : Nat) (a : Option Addr) (P : ORp), Γ[i]? = some (.own a P) ∧ σ[i]? = some (some (.ref p))
/-- a new entry here -/
theorem SA.re (s : SA en Γ F σ H) : SA ⟨F, H, Ows Γ σ⟩ Γ F σ H where
  len := s.len
  sub := s.sub
  grow := Same.refl F
  old := fun _ _ h _ => h
  there := fun _ h => h
  frz := fun _ _ h _ => .inl h
  val := s.val
  own := fun i a P hi => by
    obtain ⟨p, o, h1, h2, h3, h4, h5, h6⟩ := s.own i a P hi
    exact ⟨p, o, h1, h2, h3, h4, .inr ⟨i, a, P, hi, h1⟩, h6⟩
  dis := s.dis
theorem SA.ows (s : SA en Γ F σ H) {p : Addr} (h : Ows Γ σ p) : en.H p = none ∨ en.ps p := by
  obtain ⟨i, a, P, hi, hs⟩ := h
  obtain ⟨q, x, h1, _, _, _, h5, _⟩ := s.own i a P hi
  rw [hs] at h1
  injection h1 with h1
  injection h1 with h1
  injection h1 with h1
  subst h1
  exact h5
/-- an own object is changed -/
theorem SA.mut (s : SA en Γ F σ H) {i : Nat} {a : Option Addr} {P P' : ORp} {p : Addr} {o' : HO} (hi : Γ[i]? = some (.own a P)) (hp : σ[i]? = some (some (.ref p))) (h : P'.p F o') : SA en (Γ.set i (.own a P')) F σ (upd H p o') := by
  obtain ⟨p', o, h1, h2, h3, h4, h5, h6⟩ := s.own i a P hi
  rw [hp] at h1
  injection h1 with h1
  injection h1 with h1
  injection h1 with h1
  subst h1
  have hil : i < Γ.length := by
    by_cases z : i < Γ.length
    · exact z
    · rw [List.getElem?_eq_none (by omega)] at hi
      cases hi
  have fne : ∀ b x, F b = some x → b ≠ p := fun b x e z => by
    subst z
    rw [h2] at e
    cases e
  refine ⟨?_, fun b x e => ?_, s.grow, fun b x e hb => ?_, fun b hb => ?_, s.frz, fun j Q hj => ?_, fun j b Q hj => ?_, fun j k b c Q Q' q hjk hj hk hq => ?_⟩
  · rw [List.length_set]
    exact s.len
  · rw [upd_ne (fne b x e)]
    exact s.sub b x e
  · have : b ≠ p := fun z => by
      subst z
      rcases h5 with z | z
      · rw [z] at e
        cases e
      · exact hb z
    rw [upd_ne this]
    exact s.old b x e hb
  · by_cases e : b = p
    · subst e
      rw [upd_same]
      exact fun z => nomatch z
    · rw [upd_ne e]
      exact s.there b hb
  · by_cases e : i = j
    · subst e
      rw [List.getElem?_set_self hil] at hj
      cases hj
    · rw [List.getElem?_set_ne e] at hj
      exact s.val j Q hj
  · by_cases e : i = j
    · subst e
      rw [List.getElem?_set_self hil] at hj
      injection hj with hj
      injection hj with e1 e2
      subst e1 e2
      exact ⟨p, o', hp, h2, upd_same, h, h5, h6⟩
    · rw [List.getElem?_set_ne e] at hj
      obtain ⟨q, x, g1, g2, g3, g4, g5, g6⟩ := s.own j b Q hj
      have : q ≠ p := fun z => by
        subst z
        exact s.dis i j a b P Q _ e hi hj hp g1
      exact ⟨q, x, g1, g2, by rw [upd_ne this]; exact g3, g4, g5, g6⟩
  · have back : ∀ {l : Nat} {b : Option Addr} {Q : ORp}, (Γ.set i (.own a P'))[l]? = some (.own b Q) → ∃ b' Q', Γ[l]? = some (.own b' Q') := fun {l b Q} hl => by
      by_cases e : i = l
      · subst e
        exact ⟨a, P, hi⟩
      · rw [List.getElem?_set_ne e] at hl
        exact ⟨b, Q, hl⟩
    obtain ⟨b', P1, gj⟩ := back hj
    obtain ⟨c', P2, gk⟩ := back hk
    exact s.dis j k b' c' P1 P2 q hjk gj gk hq
/-- an own object that no one else has becomes known -/
theorem SA.give (s : SA en Γ F σ H) {i : Nat} {a0 : Option Addr} {P : ORp} {p : Addr} {o : HO} (hi : Γ[i]? = some (.own a0 P)) (hp : σ[i]? = some (some (.ref p))) (ho : H p = some o) : SA en (Γ.set i .any) (upd F p o) σ H := by
  obtain ⟨p', o', h1, h2, h3, h4, h5, h6⟩ := s.own i _ P hi
  rw [hp] at h1
  injection h1 with h1
  injection h1 with h1
  injection h1 with h1
  subst h1
  rw [ho] at h3
  cases h3
  have sf : Same F (upd F p o) := Same.upd h2
  have ne : ∀ {l : Nat} {x : Sl}, (Γ.set i .any)[l]? = some x → x ≠ .any → i ≠ l := fun {l x} hl hx e => by
    subst e
    by_cases hi : i < Γ.length
    · rw [List.getElem?_set_self hi] at hl
      exact hx (Option.some.inj hl).symm
    · rw [List.getElem?_eq_none (by rw [List.length_set]; omega)] at hl
      cases hl
  refine ⟨?_, fun b x e => ?_, s.grow.trans sf, s.old, s.there, fun b hb hf hps => ?_, fun j Q hj => ?_, fun j b Q hj => ?_, fun j k b c Q Q' q hjk hj hk hq => ?_⟩
  · rw [List.length_set]
    exact s.len
  · by_cases z : b = p
    · subst z
      rw [upd_same] at e
      cases e
      exact ho
    · rw [upd_ne z] at e
      exact s.sub b x e
  · have : b ≠ p := fun z => by
      subst z
      rcases h5 with y | y
      · exact hb y
      · exact hps y
    rcases s.frz b hb hf hps with z | ⟨vs, z⟩
    · exact .inl (by rw [upd_ne this]; exact z)
    · exact .inr ⟨vs, by rw [upd_ne this]; exact z⟩
  · have e := ne hj (fun z => nomatch z)
    rw [List.getElem?_set_ne e] at hj
    obtain ⟨v, g1, g2⟩ := s.val j Q hj
    exact ⟨v, g1, Q.m sf g2⟩
  · have e := ne hj (fun z => nomatch z)
    rw [List.getElem?_set_ne e] at hj
    obtain ⟨q, x, g1, g2, g3, g4, g5, g6⟩ := s.own j b Q hj
    have : q ≠ p := fun z => by
      subst z
      exact s.dis i j a0 b P Q _ e hi hj hp g1
    exact ⟨q, x, g1, by rw [upd_ne this]; exact g2, g3, Q.m sf g4, g5, g6⟩
  · rw [List.getElem?_set_ne (ne hj (fun z => nomatch z))] at hj
    rw [List.getElem?_set_ne (ne hk (fun z => nomatch z))] at hk
    exact s.dis j k b c Q Q' q hjk hj hk hq
/-- less is known -/
inductive SlLe : Sl → Sl → Prop
  | any {s : Sl} : SlLe .any s
  | rfl {s : Sl} : SlLe s s
inductive Le : List Sl → List Sl → Prop
  | nil {l : List Sl} : Le [] l
  | cons {a b : Sl} {l m : List Sl} : SlLe a b → Le l m → Le (a :: l) (b :: m)
theorem Le.len : ∀ {l m : List Sl}, Le l m → l.length ≤ m.length
  | _, _, .nil => Nat.zero_le _
  | _, _, .cons _ t => Nat.succ_le_succ (Le.len t)
theorem Le.get : ∀ {l m : List Sl} {i : Nat} {x : Sl}, Le l m → l[i]? = some x → x = .any ∨ m[i]? = some x
  | _, _, _, _, .nil, e => by simp at e
  | _, _, 0, _, .cons h _, e => by
    simp at e
    subst e
    cases h with
    | any => exact .inl rfl
    | rfl => exact .inr rfl
  | _, _, i + 1, x, .cons _ t, e => by
    rcases Le.get (i := i) t (by simpa using e) with h | h
    · exact .inl h
    · exact .inr (by simpa using h)
theorem SA.le (s : SA en Γ F σ H) (h : Le Γ' Γ) : SA en Γ' F σ H where
  len := Nat.le_trans h.len s.len
  sub := s.sub
  grow := s.grow
  old := s.old
  there := s.there
  frz := s.frz
  val := fun i P hi => by
    rcases h.get hi with z | z
    · cases z
    · exact s.val i P z
  own := fun i a P hi => by
    rcases h.get hi with z | z
    · cases z
    · exact s.own i a P z
  dis := fun i j a b P Q p hij hi hj hp => by
    rcases h.get hi with z | z
    · cases z
    · rcases h.get hj with y | y
      · cases y
      · exact s.dis i j a b P Q p hij z y hp
end
end Py

/-! Own layer, part B: the judgements (EG, BG, AG, FG, SX) and the rules of expressions. -/
namespace Py
open PySem PySem.Spec PyProof.Rows L2

/-! ### the weakest readings -/
def wE (X : Cx) (e : Expr) : TE := fun σ H Q => ∀ pins s, Inv X pins σ H s → wpAny (model X.prog X.w) X.A (eval e X.env) (EP X pins σ Q) X.xe s
def wT (X : Cx) (e : Expr) : TT := fun σ H Q => ∀ (whole : Sem Value) pins s, (whole = eval e X.env) → Inv X pins σ H s → wpAny (model X.prog X.w) X.A (isTrue e X.env whole) (TP X pins σ Q) X.xe s
def wA (X : Cx) (es : List Expr) : TA := fun σ H Q => ∀ (pos : Pos) pins s, Inv X pins σ H s → wpAny (model X.prog X.w) X.A (spliced (backTo pos (starEach es X.env))) (AP X pins σ Q) X.xe s
def wS (X : Cx) (st : Stmt) : TS := fun D σ H => ∀ pins s, Inv X pins σ H s → wpAny (model X.prog X.w) X.A (exec st X.env) (SP X pins D) X.xe s
def wSs (X : Cx) (sts : List Stmt) : TS := fun D σ H => ∀ pins s, Inv X pins σ H s → wpAny (model X.prog X.w) X.A (execs sts X.env) (SP X pins D) X.xe s
section
variable {X : Cx} {e : Expr} {es : List Expr} {st : Stmt} {sts : List Stmt} {σ : L2.St} {H : Hp}
theorem wE_pe : PE X e (wE X e) := ⟨fun pins s _ _ _ I h => h pins s I⟩
theorem wT_pt : PT X e (wT X e) := ⟨fun pins s _ _ _ I h => h _ pins s rfl I⟩
theorem wA_pa : PA X es (wA X es) := ⟨fun pos pins s _ _ _ I h => h pos pins s I⟩
theorem wS_ps : PS X st (wS X st) := ⟨fun pins s _ _ _ I h => h pins s I⟩
theorem wSs_pss : PSs X sts (wSs X sts) := ⟨fun pins s _ _ _ I h => h pins s I⟩
theorem wE_of {t : TE} {Q : VK} (h : PE X e t) (q : t σ H Q) : wE X e σ H Q := fun pins s I => h.run pins s σ H Q I q
theorem wT_of {t : TT} {Q : Bool → Hp → Prop} (h : PT X e t) (q : t σ H Q) : wT X e σ H Q := fun whole pins s hw I => by
  subst hw
  exact h.run pins s σ H Q I q
theorem wA_of {t : TA} {Q : List V → Hp → Prop} (h : PA X es t) (q : t σ H Q) : wA X es σ H Q := fun pos pins s I => h.run pos pins s σ H Q I q
theorem wS_of {t : TS} {D : Ends} (h : PS X st t) (q : t D σ H) : wS X st D σ H := fun pins s I => h.run pins s σ H D I q
theorem wSs_of {t : TS} {D : Ends} (h : PSs X sts t) (q : t D σ H) : wSs X sts D σ H := fun pins s I => h.run pins s σ H D I q
theorem wSs_lock {D : Ends} {d : Addr} {u : HO} (hd : H d = some u) (mu : Mut (some u)) (k : ∀ od, wSs X sts D σ (upd H d (.frz od u))) : wSs X sts D σ H := fun pins s I => by
  obtain ⟨od, I1⟩ := I.lock hd mu
  exact k od pins s I1
end

/-! ### errors -/
def ErOk (mg : Str → Option Value) (e : Er) (cls : Value) (d : Option Addr) (F : Hp) : Prop :=
  ∃ C, mg e.cls = some (.ref C) ∧ cls = .ref C ∧ match e.fld with
    | none => d = none
    | some n => ∃ a f, d = some a ∧ F a = some (.xd [(f, .int n)])
/-- what is wished of an error, and what the slots hold then -/
structure Wi where
  W : WX
  Γ : List Sl
def Wi.ok (U : Wi) (mg : Str → Option Value) (en : En) (F : Hp) (r : Er) : Prop :=
  ∀ cls d F' σ' H', Same F F' → SA en U.Γ F' σ' H' → ErOk mg r cls d F' → U.W cls d σ' H'
theorem Wi.ok.up {U : Wi} {mg : Str → Option Value} {en : En} {F F1 : Hp} {r : Er} (h : U.ok mg en F r) (e : Same F F1) : U.ok mg en F1 r :=
  fun cls d F' σ' H' s a o => h cls d F' σ' H' (e.trans s) a o

/-! ### the judgements -/
section
variable (X : Cx) (U : Wi) (Γ : List Sl)
/-- an expression: m tells what comes, val the value, Γ' what the slots hold then -/
structure EG (e : Expr) {α ω : Type} (ρ : Rp α) (m : R ω) (val : ω → α) (Γ' : ω → List Sl) : Prop where
  out : ∀ en F σ H Q, SA en Γ F σ H → wpR m (fun w => ∀ v F' H', Same F F' → SA en (Γ' w) F' σ H' → ρ.rep (val w) F' v → Q v H') (U.ok X.mg en F) → wE X e σ H Q
structure BG (e : Expr) {ω : Type} (m : R ω) (val : ω → Bool) (Γ' : ω → List Sl) : Prop where
  out : ∀ en F σ H (Q : Bool → Hp → Prop), SA en Γ F σ H → wpR m (fun w => ∀ F' H', Same F F' → SA en (Γ' w) F' σ H' → Q (val w) H') (U.ok X.mg en F) → wT X e σ H Q
structure AG (es : List Expr) {τ ω : Type} (t : Tr τ) (m : R ω) (val : ω → τ) (Γ' : ω → List Sl) : Prop where
  out : ∀ en F σ H (Q : List V → Hp → Prop), SA en Γ F σ H → wpR m (fun w => ∀ vs F' H', Same F F' → SA en (Γ' w) F' σ H' → t.rep (val w) F' vs → Q vs H') (U.ok X.mg en F) → wA X es σ H Q
/-- an expression that makes a new object -/
structure FG (e : Expr) {ω : Type} (P : ω → ORp) (m : R ω) (Γ' : ω → List Sl) : Prop where
  out : ∀ en F σ H Q, SA en Γ F σ H → wpR m (fun w => ∀ p o F' H', Same F F' → SA en (Γ' w) F' σ H' → Fresh en (Γ' w) F' σ H' p o → (P w).p F' o → Q (.ref p) H') (U.ok X.mg en F) → wE X e σ H Q
abbrev EX (e : Expr) {α : Type} (ρ : Rp α) (m : R α) : Prop := EG X U Γ e ρ m (fun a => a) fun _ => Γ
abbrev BX (e : Expr) (m : R Bool) : Prop := BG X U Γ e m (fun a => a) fun _ => Γ
abbrev AX (es : List Expr) {τ : Type} (t : Tr τ) (m : R τ) : Prop := AG X U Γ es t m (fun a => a) fun _ => Γ
abbrev FX (e : Expr) {α : Type} (P : α → ORp) (m : R α) : Prop := FG X U Γ e P m fun _ => Γ
end

/-- an object that no slot has, that is not known, that was not there or may be changed -/
structure Frs (en : En) (Γ : List Sl) (F : Hp) (σ : L2.St) (H : Hp) (p : Addr) (o : HO) : Prop where
  f : F p = none
  e : en.H p = none ∨ en.ps p
  n : ∀ (i : Nat) (a : Option Addr) (P : ORp), Γ[i]? = some (.own a P) → σ[i]? ≠ some (some (.ref p))
  h : H p = some o
/-- where a block ends -/
inductive Kd where
  | nx (Γ : List Sl)
  | go (Γ : List Sl)
  | bk (Γ : List Sl)
  | ct (Γ : List Sl)
  | rt (p : PRp) (Γ : List Sl)
  | fn (p : PRp) (Γ : List Sl)
  | rf (P : ORp) (Γ : List Sl)
def Kd.sat (k : Kd) (en : En) (F : Hp) (D : Ends) : Prop := match k with
  | .nx Γ => ∀ F' σ' H', Same F F' → SA en Γ F' σ' H' → D.nx σ' H'
  | .go Γ => ∀ F' σ' H', Same F F' → SA en Γ F' σ' H' → D.nx σ' H' ∧ D.ct σ' H'
  | .bk Γ => ∀ F' σ' H', Same F F' → SA en Γ F' σ' H' → D.bk σ' H'
  | .ct Γ => ∀ F' σ' H', Same F F' → SA en Γ F' σ' H' → D.ct σ' H'
  | .rt p Γ => ∀ v F' σ' H', Same F F' → SA en Γ F' σ' H' → p.p F' v → D.rt v H'
  | .fn p Γ => (∀ v F' σ' H', Same F F' → SA en Γ F' σ' H' → p.p F' v → D.rt v H') ∧ ∀ F' σ' H', Same F F' → SA en Γ F' σ' H' → p.p F' .non → D.nx σ' H'
  | .rf P Γ => ∀ p o F' σ' H', Same F F' → SA en Γ F' σ' H' → Frs en Γ F' σ' H' p o → P.p F' o → D.rt (.ref p) H'
theorem Kd.sat.up {k : Kd} {en : En} {F F1 : Hp} {D : Ends} (h : k.sat en F D) (e : Same F F1) : k.sat en F1 D := by
  cases k with
  | nx Γ => exact fun F' σ' H' s a => h F' σ' H' (e.trans s) a
  | go Γ => exact fun F' σ' H' s a => h F' σ' H' (e.trans s) a
  | bk Γ => exact fun F' σ' H' s a => h F' σ' H' (e.trans s) a
  | ct Γ => exact fun F' σ' H' s a => h F' σ' H' (e.trans s) a
  | rt p Γ => exact fun v F' σ' H' s a => h v F' σ' H' (e.trans s) a
  | fn p Γ => exact ⟨fun v F' σ' H' s a => h.1 v F' σ' H' (e.trans s) a, fun F' σ' H' s a => h.2 F' σ' H' (e.trans s) a⟩
  | rf P Γ => exact fun p o F' σ' H' s a => h p o F' σ' H' (e.trans s) a
structure SX (X : Cx) (U : Wi) (Γ : List Sl) (sts : List Stmt) {ω : Type} (I : ω → Kd) (m : R ω) : Prop where
  out : ∀ en F σ H D, SA en Γ F σ H → wpR m (fun o => (I o).sat en F D) (U.ok X.mg en F) → wSs X sts D σ H

/-! ### operations on data -/
/-- what a data operation may answer -/
abbrev QE {γ : Type} (ρ : Rp γ) (F H : Hp) (Q : VK) (z : γ) : Prop := ∀ u F' H', Ext F H F' H' → ρ.rep z F' u → Q u H'
def D2 {α β γ : Type} (r : R2) (ρ1 : Rp α) (ρ2 : Rp β) (ρ : Rp γ) (mr : α → β → R γ) : Prop :=
  ∀ x y v w F H Q, Same F H → ρ1.rep x F v → ρ2.rep y F w → wpR (mr x y) (QE ρ F H Q) (fun _ => False) → r v w H Q
def D1 {α γ : Type} (r : V → Hp → VK → Prop) (ρ1 : Rp α) (ρ : Rp γ) (mr : α → R γ) : Prop :=
  ∀ x v F H Q, Same F H → ρ1.rep x F v → wpR (mr x) (QE ρ F H Q) (fun _ => False) → r v H Q
def DC {τ γ : Type} (r : List V → Hp → VK → Prop) (t : Tr τ) (ρ : Rp γ) (mr : τ → R γ) : Prop :=
  ∀ x vs F H Q, Same F H → t.rep x F vs → wpR (mr x) (QE ρ F H Q) (fun _ => False) → r vs H Q
/-- .. a new object -/
def DF {τ γ : Type} (r : List V → Hp → VK → Prop) (t : Tr τ) (P : γ → ORp) (mr : τ → R γ) : Prop :=
  ∀ x vs F H Q, Same F H → t.rep x F vs → wpR (mr x) (fun z => ∀ p o, H p = none → (P z).p F o → Q (.ref p) (upd H p o)) (fun _ => False) → r vs H Q

section
variable {X : Cx} {U : Wi} {Γ : List Sl} {a b e : Expr} {es : List Expr} {pos : Pos}
variable {α β γ ω ω1 ω2 τ : Type} {ρ1 : Rp α} {ρ2 : Rp β} {ρ : Rp γ} {t : Tr τ}

/-! ### names, constants -/
theorem x_var {ρ : Rp α} {x : α} {n : Str} (i : Nat) (hΓ : Γ[i]? = some (im ρ x) := by rfl) (hN : X.N[i]? = some n := by rfl) (hv : Vis X.env.scope n := by first | exact Or.inl rfl | exact Or.inr (Or.inl rfl) | exact Or.inr (Or.inr rfl))
    (hd : (n == ("__debug__" : Str)) = false := by decide) (hcd : (n == ("__classdict__" : Str)) = false := by decide) : EX X U Γ (.Name n pos) ρ (.ok x) :=
  ⟨fun en F σ H Q s h => wE_of (pe_var hN hv hd hcd) (by
    obtain ⟨v, e1, r⟩ := s.val i _ hΓ
    exact ⟨v, e1, h v F H (Same.refl F) s r⟩)⟩
theorem x_cst {ρ : Rp α} {x : α} {v : V} (hp : PE X e (tC v)) (hr : ∀ F, ρ.rep x F v) : EX X U Γ e ρ (.ok x) :=
  ⟨fun en F σ H Q s h => wE_of hp (h v F H (Same.refl F) s (hr F))⟩
theorem x_int {i j} : EX X U Γ (.Constant (.int i) j pos) rI (.ok i) := x_cst pe_int fun _ => rfl
theorem x_bl {i j} : EX X U Γ (.Constant (.bool i) j pos) rB (.ok i) := x_cst pe_bl fun _ => rfl
theorem x_str {i j} : EX X U Γ (.Constant (.str i) j pos) rS (.ok i) := x_cst pe_str fun _ => rfl
theorem x_nonO {j} {ρ : Rp α} : EX X U Γ (.Constant .none j pos) (rO ρ) (.ok none) := x_cst pe_non fun _ => rfl
/-- a module's constant -/
theorem x_glob {ρ : Rp α} {x : α} {v : V} {n : Str} {u : Value} (hm : X.mg n = some u) (rv : RelV v u) (hr : ∀ F, ρ.rep x F v) (hg : Gl X n := by rfl) (hd : (n == ("__debug__" : Str)) = false := by decide) : EX X U Γ (.Name n pos) ρ (.ok x) :=
  x_cst (pe_glob hg hm rv hd) hr
/-- .. an expression of its own -/
theorem x_map {ρ' : Rp β} {m : R α} (f : α → β) (hf : ∀ x F v, ρ1.rep x F v → ρ'.rep (f x) F v) (h : EX X U Γ e ρ1 m) : EX X U Γ e ρ' (m.bind fun a => .ok (f a)) :=
  ⟨fun en F σ H Q s q => h.out en F σ H Q s (wpR_mono (wpR_bind q) (fun w k v F' H' e1 s1 r => k v F' H' e1 s1 (hf _ _ _ r)) fun _ z => z)⟩

/-! ### two expressions in a row -/
theorem g_two {m1 : R ω1} {v1 : ω1 → α} {Γ1 : ω1 → List Sl} {m2 : ω1 → R ω2} {v2 : ω1 → ω2 → β} {Γ2 : ω1 → ω2 → List Sl} {mr : ω1 → ω2 → R ω} {K : ω → Hp → Prop}
    (ha : EG X U Γ a ρ1 m1 v1 Γ1) (hb : ∀ w1, EG X U (Γ1 w1) b ρ2 (m2 w1) (v2 w1) (Γ2 w1)) {en : En} {F : Hp} {σ : L2.St} {H : Hp} {Z : V → V → Hp → Prop} (s : SA en Γ F σ H)
    (h : wpR (m1.bind fun w1 => (m2 w1).bind fun w2 => mr w1 w2) (fun w => K w F) (U.ok X.mg en F))
    (hK : ∀ w F1, Same F F1 → K w F → K w F1)
    (hz : ∀ w1 w2 v u F2 H2, Same F F2 → SA en (Γ2 w1 w2) F2 σ H2 → ρ1.rep (v1 w1) F2 v → ρ2.rep (v2 w1 w2) F2 u → wpR (mr w1 w2) (fun w => K w F2) (U.ok X.mg en F2) → Z v u H2) :
    wE X a σ H fun v H1 => wE X b σ H1 fun u H2 => Z v u H2 := by
  refine ha.out en F σ H _ s (wpR_mono (wpR_bind h) (fun w1 k v F1 H1 e1 s1 r1 => ?_) fun _ z => z)
  refine (hb w1).out en F1 σ H1 _ s1 (wpR_mono (wpR_bind k) (fun w2 k2 u F2 H2 e2 s2 r2 => ?_) fun _ z => z.up e1)
  exact hz w1 w2 v u F2 H2 (e1.trans e2) s2 (ρ1.mono e2 r1) r2 (wpR_mono k2 (fun w => hK w F2 (e1.trans e2)) fun _ z => z.up (e1.trans e2))

/-- the shape of a two-place data operation -/
theorem g_data2 {r : R2} {mr : α → β → R γ} (hd : D2 r ρ1 ρ2 ρ mr) {m1 : R ω1} {v1 : ω1 → α} {Γ1 : ω1 → List Sl} {m2 : ω1 → R ω2} {v2 : ω1 → ω2 → β} {Γ2 : ω1 → ω2 → List Sl}
    {val : ω → γ} {Γ' : ω → List Sl} (pk : ω1 → ω2 → γ → ω) (hv : ∀ w1 w2 z, val (pk w1 w2 z) = z) (hΓ : ∀ w1 w2 z, Γ' (pk w1 w2 z) = Γ2 w1 w2)
    (ha : EG X U Γ a ρ1 m1 v1 Γ1) (hb : ∀ w1, EG X U (Γ1 w1) b ρ2 (m2 w1) (v2 w1) (Γ2 w1)) {en : En} {F : Hp} {σ : L2.St} {H : Hp} {Q : VK} (s : SA en Γ F σ H)
    (h : wpR (m1.bind fun w1 => (m2 w1).bind fun w2 => (mr (v1 w1) (v2 w1 w2)).calm.bind fun z => .ok (pk w1 w2 z)) (fun w => ∀ v F' H', Same F F' → SA en (Γ' w) F' σ H' → ρ.rep (val w) F' v → Q v H') (U.ok X.mg en F)) :
    wE X a σ H fun v H1 => wE X b σ H1 fun u H2 => r v u H2 Q := by
  refine g_two (K := fun w F => ∀ v F' H', Same F F' → SA en (Γ' w) F' σ H' → ρ.rep (val w) F' v → Q v H') ha hb s h (fun w F1 e k v F' H' e' => k v F' H' (e.trans e')) fun w1 w2 v u F2 H2 e2 s2 r1 r2 k => ?_
  refine hd _ _ v u F2 H2 Q s2.sub r1 r2 (wpR_mono (wpR_calm (wpR_bind k)) (fun z k u F' H' x ru => ?_) fun _ z => z)
  refine k u F' H' x.f ?_ ?_
  · rw [hΓ]
    exact s2.ext x
  · rw [hv]
    exact ru
theorem g_bin {op : Operator} {r : R2} {mr : α → β → R γ} (ho : OpR X (binaryOp op) r) (hd : D2 r ρ1 ρ2 ρ mr) {m1 : R ω1} {v1 : ω1 → α} {Γ1 : ω1 → List Sl} {m2 : ω1 → R ω2} {v2 : ω1 → ω2 → β} {Γ2 : ω1 → ω2 → List Sl}
    {val : ω → γ} {Γ' : ω → List Sl} (pk : ω1 → ω2 → γ → ω) (hv : ∀ w1 w2 z, val (pk w1 w2 z) = z) (hΓ : ∀ w1 w2 z, Γ' (pk w1 w2 z) = Γ2 w1 w2)
    (ha : EG X U Γ a ρ1 m1 v1 Γ1) (hb : ∀ w1, EG X U (Γ1 w1) b ρ2 (m2 w1) (v2 w1) (Γ2 w1)) :
    EG X U Γ (.BinOp a op b pos) ρ (m1.bind fun w1 => (m2 w1).bind fun w2 => (mr (v1 w1) (v2 w1 w2)).calm.bind fun z => .ok (pk w1 w2 z)) val Γ' :=
  ⟨fun en F σ H Q s h => wE_of (pe_op ho wE_pe wE_pe) (g_data2 hd pk hv hΓ ha hb s h)⟩
theorem g_cmp {op : CmpOp} {r : R2} {mr : α → β → R γ} (ho : OpR X (compareOp op) r) (hd : D2 r ρ1 ρ2 ρ mr) (hm : behindInMarks op b = false) {m1 : R ω1} {v1 : ω1 → α} {Γ1 : ω1 → List Sl} {m2 : ω1 → R ω2} {v2 : ω1 → ω2 → β} {Γ2 : ω1 → ω2 → List Sl}
    {val : ω → γ} {Γ' : ω → List Sl} (pk : ω1 → ω2 → γ → ω) (hv : ∀ w1 w2 z, val (pk w1 w2 z) = z) (hΓ : ∀ w1 w2 z, Γ' (pk w1 w2 z) = Γ2 w1 w2)
    (ha : EG X U Γ a ρ1 m1 v1 Γ1) (hb : ∀ w1, EG X U (Γ1 w1) b ρ2 (m2 w1) (v2 w1) (Γ2 w1)) :
    EG X U Γ (.Compare a [op] [b] pos) ρ (m1.bind fun w1 => (m2 w1).bind fun w2 => (mr (v1 w1) (v2 w1 w2)).calm.bind fun z => .ok (pk w1 w2 z)) val Γ' :=
  ⟨fun en F σ H Q s h => wE_of (pe_cmpR ho wE_pe wE_pe hm) (g_data2 hd pk hv hΓ ha hb s h)⟩
theorem g_ix {r : R2} {mr : α → β → R γ} (hr : IxR X r) (hd : D2 r ρ1 ρ2 ρ mr) (hs : PlainIx b) {m1 : R ω1} {v1 : ω1 → α} {Γ1 : ω1 → List Sl} {m2 : ω1 → R ω2} {v2 : ω1 → ω2 → β} {Γ2 : ω1 → ω2 → List Sl}
    {val : ω → γ} {Γ' : ω → List Sl} (pk : ω1 → ω2 → γ → ω) (hv : ∀ w1 w2 z, val (pk w1 w2 z) = z) (hΓ : ∀ w1 w2 z, Γ' (pk w1 w2 z) = Γ2 w1 w2)
    (ha : EG X U Γ a ρ1 m1 v1 Γ1) (hb : ∀ w1, EG X U (Γ1 w1) b ρ2 (m2 w1) (v2 w1) (Γ2 w1)) :
    EG X U Γ (.Subscript a b pos) ρ (m1.bind fun w1 => (m2 w1).bind fun w2 => (mr (v1 w1) (v2 w1 w2)).calm.bind fun z => .ok (pk w1 w2 z)) val Γ' :=
  ⟨fun en F σ H Q s h => wE_of (pe_ix hr wE_pe wE_pe hs) (g_data2 hd pk hv hΓ ha hb s h)⟩
/-- .. where nothing is changed on the way -/
theorem x_bin {op : Operator} {r : R2} {mr : α → β → R γ} {m1 : R α} {m2 : R β} (ho : OpR X (binaryOp op) r) (hd : D2 r ρ1 ρ2 ρ mr) (ha : EX X U Γ a ρ1 m1) (hb : EX X U Γ b ρ2 m2) :
    EX X U Γ (.BinOp a op b pos) ρ (m1.bind fun x => m2.bind fun y => (mr x y).calm.bind fun z => .ok z) := g_bin ho hd (fun _ _ z => z) (fun _ _ _ => rfl) (fun _ _ _ => rfl) ha fun _ => hb
theorem x_cmp {op : CmpOp} {r : R2} {mr : α → β → R γ} {m1 : R α} {m2 : R β} (ho : OpR X (compareOp op) r) (hd : D2 r ρ1 ρ2 ρ mr) (ha : EX X U Γ a ρ1 m1) (hb : EX X U Γ b ρ2 m2)
    (hm : behindInMarks op b = false := by first | exact nomark _ | rfl) : EX X U Γ (.Compare a [op] [b] pos) ρ (m1.bind fun x => m2.bind fun y => (mr x y).calm.bind fun z => .ok z) :=
  g_cmp ho hd hm (fun _ _ z => z) (fun _ _ _ => rfl) (fun _ _ _ => rfl) ha fun _ => hb
theorem x_ix {r : R2} {mr : α → β → R γ} {m1 : R α} {m2 : R β} (hr : IxR X r) (hd : D2 r ρ1 ρ2 ρ mr) (ha : EX X U Γ a ρ1 m1) (hb : EX X U Γ b ρ2 m2) (hs : PlainIx b := by exact fun _ _ => rfl) :
    EX X U Γ (.Subscript a b pos) ρ (m1.bind fun x => m2.bind fun y => (mr x y).calm.bind fun z => .ok z) := g_ix hr hd hs (fun _ _ z => z) (fun _ _ _ => rfl) (fun _ _ _ => rfl) ha fun _ => hb
theorem x_un {op : UnaryOp} {r : V → Hp → VK → Prop} {mr : α → R γ} {m : R α} (ho : UnR X (unaryOp op) r) (hd : D1 r ρ1 ρ mr) (ha : EX X U Γ a ρ1 m) : EX X U Γ (.UnaryOp op a pos) ρ (m.bind fun x => (mr x).calm.bind fun z => .ok z) :=
  ⟨fun en F σ H Q s h => wE_of (pe_un ho wE_pe) (ha.out en F σ H _ s (wpR_mono (wpR_bind h) (fun x k v F1 H1 e1 s1 r1 =>
    hd x v F1 H1 Q s1.sub r1 (wpR_mono (wpR_calm (wpR_bind k)) (fun z k u F' H' xx ru => k u F' H' (e1.trans xx.f) (s1.ext xx) ru) fun _ z => z)) fun _ z => z))⟩

/-! ### and, or, not, if .. else as values -/
theorem x_not {m : R Bool} (ha : EX X U Γ a rB m) : EX X U Γ (.UnaryOp .Not a pos) rB (m.bind fun x => .ok !x) :=
  ⟨fun en F σ H Q s h => wE_of (pe_not wE_pe) (ha.out en F σ H _ s (wpR_mono (wpR_bind h) (fun x k v F1 H1 e1 s1 r1 => ⟨x, r1, k _ F1 H1 e1 s1 rfl⟩) fun _ z => z))⟩
theorem x_one {op} {m : R Bool} (ha : EX X U Γ a rB m) : EX X U Γ (.BoolOp op [a] pos) rB m := ⟨fun en F σ H Q s h => wE_of (pe_one wE_pe) (ha.out en F σ H Q s h)⟩
theorem x_and {m1 m2 : R Bool} {rest : List Expr} (ha : EX X U Γ a rB m1) (hb : EX X U Γ (.BoolOp .And (b :: rest) pos) rB m2) : EX X U Γ (.BoolOp .And (a :: b :: rest) pos) rB (m1.bind fun x => if x = true then m2 else .ok false) :=
  ⟨fun en F σ H Q s h => wE_of (pe_and wE_pe wE_pe) (ha.out en F σ H _ s (wpR_mono (wpR_bind h) (fun x k v F1 H1 e1 s1 r1 => ⟨x, r1, by
    cases x with
    | true => exact hb.out en F1 σ H1 Q s1 (wpR_mono k (fun w k v F' H' e' => k v F' H' (e1.trans e')) fun _ z => z.up e1)
    | false => exact k _ F1 H1 e1 s1 rfl⟩) fun _ z => z))⟩
/-! ### tests -/
theorem g_test {m : R ω} {val : ω → Bool} {Γ' : ω → List Sl} (h : EG X U Γ e rB m val Γ') (he : ∀ whole, isTrue e X.env whole = (do let v ← whole; standAt e.pos; holding [v] (truthy v)) := by intro _; rfl) : BG X U Γ e m val Γ' :=
  ⟨fun en F σ H Q s q => wT_of (pt_val wE_pe he) (h.out en F σ H _ s (wpR_mono q (fun w k v F1 H1 e1 s1 r1 => ⟨val w, r1, k F1 H1 e1 s1⟩) fun _ z => z))⟩
theorem g_tcmp {op : CmpOp} {r : R2} {mr : α → β → R Bool} (ho : OpR X (compareOp op) r) (hd : D2 r ρ1 ρ2 rB mr) (hm : behindInMarks op b = false) {m1 : R ω1} {v1 : ω1 → α} {Γ1 : ω1 → List Sl} {m2 : ω1 → R ω2} {v2 : ω1 → ω2 → β} {Γ2 : ω1 → ω2 → List Sl}
    {val : ω → Bool} {Γ' : ω → List Sl} (pk : ω1 → ω2 → Bool → ω) (hv : ∀ w1 w2 z, val (pk w1 w2 z) = z) (hΓ : ∀ w1 w2 z, Γ' (pk w1 w2 z) = Γ2 w1 w2)
    (ha : EG X U Γ a ρ1 m1 v1 Γ1) (hb : ∀ w1, EG X U (Γ1 w1) b ρ2 (m2 w1) (v2 w1) (Γ2 w1)) :
    BG X U Γ (.Compare a [op] [b] pos) (m1.bind fun w1 => (m2 w1).bind fun w2 => (mr (v1 w1) (v2 w1 w2)).calm.bind fun z => .ok (pk w1 w2 z)) val Γ' :=
  ⟨fun en F σ H Q s h => wT_of (pt_cmpR ho wE_pe wE_pe hm) (g_data2 (ρ := rB) (Q := fun v H' => ∃ k, v = .bl k ∧ Q k H') hd pk hv hΓ ha hb s (wpR_mono h (fun w k v F' H' e1 s1 r1 => ⟨val w, r1, k F' H' e1 s1⟩) fun _ z => z))⟩
theorem x_tcmp {op : CmpOp} {r : R2} {mr : α → β → R Bool} {m1 : R α} {m2 : R β} (ho : OpR X (compareOp op) r) (hd : D2 r ρ1 ρ2 rB mr) (ha : EX X U Γ a ρ1 m1) (hb : EX X U Γ b ρ2 m2)
    (hm : behindInMarks op b = false := by first | exact nomark _ | rfl) : BX X U Γ (.Compare a [op] [b] pos) (m1.bind fun x => m2.bind fun y => (mr x y).calm.bind fun z => .ok z) :=
  g_tcmp ho hd hm (fun _ _ z => z) (fun _ _ _ => rfl) (fun _ _ _ => rfl) ha fun _ => hb
theorem x_tnot {m : R Bool} (ha : BX X U Γ a m) : BX X U Γ (.UnaryOp .Not a pos) (m.bind fun x => .ok !x) :=
  ⟨fun en F σ H Q s h => wT_of (pt_not wT_pt) (ha.out en F σ H _ s (wpR_mono (wpR_bind h) (fun x k F1 H1 e1 s1 => k F1 H1 e1 s1) fun _ z => z))⟩
/-- chains -/
structure WG (X : Cx) (U : Wi) (Γ : List Sl) (e : Expr) (m : R Bool) : Prop where
  out : ∀ en F σ H (Q : Bool → Hp → Prop), SA en Γ F σ H → wpR m (fun w => ∀ F' H', Same F F' → SA en Γ F' σ H' → Q w H') (U.ok X.mg en F) →
    ∀ (whole : Sem Value) pins s, Inv X pins σ H s → wpAny (model X.prog X.w) X.A (isTrue e X.env whole) (TP X pins σ Q) X.xe s
def wW (X : Cx) (e : Expr) : TT := fun σ H Q => ∀ (whole : Sem Value) pins s, Inv X pins σ H s → wpAny (model X.prog X.w) X.A (isTrue e X.env whole) (TP X pins σ Q) X.xe s
theorem wW_pw : PW X e (wW X e) := ⟨fun wh pins s _ _ _ I h => h wh pins s I⟩
theorem x_w {m : R Bool} (h : WG X U Γ e m) : BX X U Γ e m := ⟨fun en F σ H Q s q whole pins s' hw I => by
  subst hw
  exact h.out en F σ H Q s q _ pins s' I⟩
theorem w_and1 {m : R Bool} (ha : BX X U Γ a m) : WG X U Γ (.BoolOp .And [a] pos) m :=
  ⟨fun en F σ H Q s h wh pins s' I => (pw_and1 (pos := pos) wT_pt).run wh pins s' σ H Q I (ha.out en F σ H Q s h)⟩
theorem w_or1 {m : R Bool} (ha : BX X U Γ a m) : WG X U Γ (.BoolOp .Or [a] pos) m :=
  ⟨fun en F σ H Q s h wh pins s' I => (pw_or1 (pos := pos) wT_pt).run wh pins s' σ H Q I (ha.out en F σ H Q s h)⟩
theorem w_and {m1 m2 : R Bool} {rest : List Expr} (ha : BX X U Γ a m1) (hb : WG X U Γ (.BoolOp .And (b :: rest) pos) m2) : WG X U Γ (.BoolOp .And (a :: b :: rest) pos) (m1.bind fun x => if x = true then m2 else .ok false) :=
  ⟨fun en F σ H Q s h wh pins s' I => (pw_and (pos := pos) wT_pt wW_pw).run wh pins s' σ H Q I (ha.out en F σ H _ s (wpR_mono (wpR_bind h) (fun x k F1 H1 e1 s1 => by
    cases x with
    | true => exact hb.out en F1 σ H1 Q s1 (wpR_mono k (fun w k F' H' e' => k F' H' (e1.trans e')) fun _ z => z.up e1)
    | false => exact k F1 H1 e1 s1) fun _ z => z))⟩
theorem w_or {m1 m2 : R Bool} {rest : List Expr} (ha : BX X U Γ a m1) (hb : WG X U Γ (.BoolOp .Or (b :: rest) pos) m2) : WG X U Γ (.BoolOp .Or (a :: b :: rest) pos) (m1.bind fun x => if x = true then .ok true else m2) :=
  ⟨fun en F σ H Q s h wh pins s' I => (pw_or (pos := pos) wT_pt wW_pw).run wh pins s' σ H Q I (ha.out en F σ H _ s (wpR_mono (wpR_bind h) (fun x k F1 H1 e1 s1 => by
    cases x with
    | false => exact hb.out en F1 σ H1 Q s1 (wpR_mono k (fun w k F' H' e' => k F' H' (e1.trans e')) fun _ z => z.up e1)
    | true => exact k F1 H1 e1 s1) fun _ z => z))⟩

/-! ### arguments -/
theorem a_nil {τ : Type} {t : Tr τ} {x : τ} (hx : ∀ F, t.rep x F []) : AX X U Γ [] t (.ok x) := ⟨fun en F σ H Q s h => wA_of pa_nil (h [] F H (Same.refl F) s (hx F))⟩
/-- one more ahead, put together by pk -/
theorem g_acons {τ' : Type} {t' : Tr τ'} {m1 : R ω1} {v1 : ω1 → α} {Γ1 : ω1 → List Sl} {m2 : ω1 → R ω2} {v2 : ω1 → ω2 → τ} {Γ2 : ω1 → ω2 → List Sl} {val : ω → τ'} {Γ' : ω → List Sl} (pk : ω1 → ω2 → ω)
    (hv : ∀ w1 w2 F v vs, ρ1.rep (v1 w1) F v → t.rep (v2 w1 w2) F vs → t'.rep (val (pk w1 w2)) F (v :: vs)) (hΓ : ∀ w1 w2, Γ' (pk w1 w2) = Γ2 w1 w2)
    (ha : EG X U Γ a ρ1 m1 v1 Γ1) (hb : ∀ w1, AG X U (Γ1 w1) es t (m2 w1) (v2 w1) (Γ2 w1)) (hs : starEach (a :: es) X.env = (false, eval a X.env) :: starEach es X.env) :
    AG X U Γ (a :: es) t' (m1.bind fun w1 => (m2 w1).bind fun w2 => .ok (pk w1 w2)) val Γ' :=
  ⟨fun en F σ H Q s h => wA_of (pa_cons wE_pe wA_pa hs) (ha.out en F σ H _ s (wpR_mono (wpR_bind h) (fun w1 k v F1 H1 e1 s1 r1 =>
    (hb w1).out en F1 σ H1 _ s1 (wpR_mono (wpR_bind k) (fun w2 k2 vs F2 H2 e2 s2 r2 => k2 (v :: vs) F2 H2 (e1.trans e2) (by rw [hΓ]; exact s2) (hv w1 w2 F2 v vs (ρ1.mono e2 r1) r2)) fun _ z => z.up e1)) fun _ z => z))⟩
theorem a_one {m : R α} (ha : EX X U Γ a ρ1 m) (hs : starEach [a] X.env = (false, eval a X.env) :: starEach [] X.env := by rfl) : AX X U Γ [a] (t1 ρ1) m := by
  have h : AX X U Γ [a] (t1 ρ1) (m.bind fun x => (R.ok ()).bind fun _ => .ok x) := g_acons (t := t0) (fun x _ => x) (fun x _ F v vs r e => ⟨v, by rw [show vs = [] from e], r⟩) (fun _ _ => rfl) ha (fun _ => a_nil fun _ => rfl) hs
  have e : (m.bind fun x => (R.ok ()).bind fun _ => R.ok x) = m := R.bind_pure m
  rw [e] at h
  exact h
theorem a_cons {m1 : R α} {m2 : R τ} (ha : EX X U Γ a ρ1 m1) (hb : AX X U Γ es t m2) (hs : starEach (a :: es) X.env = (false, eval a X.env) :: starEach es X.env := by rfl) : AX X U Γ (a :: es) (tc ρ1 t) (m1.bind fun x => m2.bind fun y => .ok (x, y)) :=
  g_acons (fun x y => (x, y)) (fun x y F v vs r q => ⟨v, vs, rfl, r, q⟩) (fun _ _ => rfl) ha (fun _ => hb) hs
/-! ### displays, calls of built-ins -/
abbrev oLi {τ : Type} (t : Tr τ) (a : τ) : ORp := ⟨fun F o => ∃ vs, o = .lst vs ∧ t.rep a F vs, fun e ⟨vs, h, r⟩ => ⟨vs, h, t.mono e r⟩, fun ⟨vs, h, _⟩ ws z => by rw [h] at z; cases z⟩
theorem g_tup {m : R ω} {val : ω → τ} {Γ' : ω → List Sl} {k : Nat} (h : AG X U Γ es t m val Γ') (hn : ∀ w F vs, t.rep (val w) F vs → vs.length ≤ sizeLine) : EG X U Γ (.Tuple es k pos) (rTu t) m val Γ' :=
  ⟨fun en F σ H Q s q => wE_of (pe_tup wA_pa) (h.out en F σ H _ s (wpR_mono q (fun w kk vs F1 H1 e1 s1 r => ⟨hn w F1 vs r, fun p hp => by
    have x := Ext.new (o := .tup vs) s1.sub hp
    exact kk (.ref p) _ _ (e1.trans x.f) (s1.ext x) ⟨p, vs, rfl, upd_same, t.mono x.f r⟩⟩) fun _ z => z))⟩
theorem f_lst {m : R ω} {val : ω → τ} {Γ' : ω → List Sl} (h : AG X U Γ es t m val Γ') (hn : ∀ w F vs, t.rep (val w) F vs → vs.length ≤ sizeLine) : FG X U Γ (.List es pos) (fun w => oLi t (val w)) m Γ' :=
  ⟨fun en F σ H Q s q => wE_of (pe_lst wA_pa) (h.out en F σ H _ s (wpR_mono q (fun w kk vs F1 H1 e1 s1 r => ⟨hn w F1 vs r, fun p hp => kk p (.lst vs) F1 _ e1 (s1.lay hp).1 (s1.lay hp).2 ⟨vs, rfl, r⟩⟩) fun _ z => z))⟩
/-- a new list that is known at once -/
theorem x_frz {m : R ω} {val : ω → τ} {Γ' : ω → List Sl} (h : FG X U Γ e (fun w => oLi t (val w)) m Γ') : EG X U Γ e (rLi t) m val Γ' :=
  ⟨fun en F σ H Q s q => h.out en F σ H Q s (wpR_mono q (fun w k p o F1 H1 e1 s1 fr ho => by
    obtain ⟨vs, rfl, r⟩ := ho
    obtain ⟨s2, x⟩ := s1.know fr
    exact k (.ref p) _ _ (e1.trans x) s2 ⟨p, vs, rfl, upd_same, t.mono x r⟩) fun _ z => z)⟩
theorem g_dataC {r : List V → Hp → VK → Prop} {mr : τ → R γ} (hd : DC r t ρ mr) {m : R ω1} {v1 : ω1 → τ} {Γ1 : ω1 → List Sl} {val : ω → γ} {Γ' : ω → List Sl} (pk : ω1 → γ → ω) (hv : ∀ w z, val (pk w z) = z) (hΓ : ∀ w z, Γ' (pk w z) = Γ1 w)
    (ha : AG X U Γ es t m v1 Γ1) {en : En} {F : Hp} {σ : L2.St} {H : Hp} {Q : VK} (s : SA en Γ F σ H)
    (h : wpR (m.bind fun w => (mr (v1 w)).calm.bind fun z => .ok (pk w z)) (fun w => ∀ v F' H', Same F F' → SA en (Γ' w) F' σ H' → ρ.rep (val w) F' v → Q v H') (U.ok X.mg en F)) : tCB r (wA X es) σ H Q :=
  ha.out en F σ H _ s (wpR_mono (wpR_bind h) (fun w k vs F1 H1 e1 s1 r1 =>
    hd (v1 w) vs F1 H1 Q s1.sub r1 (wpR_mono (wpR_calm (wpR_bind k)) (fun z k u F' H' x ru => k u F' H' (e1.trans x.f) (by rw [hΓ]; exact s1.ext x) (by rw [hv]; exact ru)) fun _ z => z)) fun _ z => z)
theorem g_dataF {r : List V → Hp → VK → Prop} {P : γ → ORp} {mr : τ → R γ} (hd : DF r t P mr) {m : R ω1} {v1 : ω1 → τ} {Γ1 : ω1 → List Sl} {val : ω → γ} {Γ' : ω → List Sl} (pk : ω1 → γ → ω) (hv : ∀ w z, val (pk w z) = z) (hΓ : ∀ w z, Γ' (pk w z) = Γ1 w)
    (ha : AG X U Γ es t m v1 Γ1) {en : En} {F : Hp} {σ : L2.St} {H : Hp} {Q : VK} (s : SA en Γ F σ H)
    (h : wpR (m.bind fun w => (mr (v1 w)).calm.bind fun z => .ok (pk w z)) (fun w => ∀ p o F' H', Same F F' → SA en (Γ' w) F' σ H' → Fresh en (Γ' w) F' σ H' p o → (P (val w)).p F' o → Q (.ref p) H') (U.ok X.mg en F)) : tCB r (wA X es) σ H Q :=
  ha.out en F σ H _ s (wpR_mono (wpR_bind h) (fun w k vs F1 H1 e1 s1 r1 =>
    hd (v1 w) vs F1 H1 Q s1.sub r1 (wpR_mono (wpR_calm (wpR_bind k)) (fun z k p o hp ho => k p o F1 _ e1 (by rw [hΓ]; exact (s1.lay hp).1) (by rw [hΓ]; exact (s1.lay hp).2) (by rw [hv]; exact ho)) fun _ z => z)) fun _ z => z)
variable {n : Str} {p : Pos} {id T : String} {r : List V → Hp → VK → Prop}
theorem x_callB {mr : τ → R γ} {m : R τ} (hc : CallR X (.builtin id) r) (hd : DC r t ρ mr) (hm : X.mg n = none) (hv : bootBuiltins n = some (.builtin id)) (ha : AX X U Γ (a :: es) t m) (hg : Gl X n := by rfl)
    (hn : n ≠ "__name__" := by decide) (hdb : (n == ("__debug__" : Str)) = false := by decide) (he : starEach (a :: es) X.env = (false, eval a X.env) :: starEach es X.env := by rfl) (hpl : (backTo pos (starEach es X.env)).any (·.1) = false := by rfl) :
    EX X U Γ (.Call (.Name n p) (a :: es) [] pos) ρ (m.bind fun x => (mr x).calm.bind fun z => .ok z) :=
  ⟨fun en F σ H Q s h => wE_of (pe_callB hc hg hm hv wA_pa hn hdb he hpl) (g_dataC hd (fun _ z => z) (fun _ _ => rfl) (fun _ _ => rfl) ha s h)⟩
theorem x_callTy {mr : τ → R γ} {m : R τ} (hc : CallR X (.type T) r) (hd : DC r t ρ mr) (hm : X.mg n = none) (hv : bootBuiltins n = some (.type T)) (ha : AX X U Γ (a :: es) t m) (hg : Gl X n := by rfl)
    (hn : n ≠ "__name__" := by decide) (hdb : (n == ("__debug__" : Str)) = false := by decide) (he : starEach (a :: es) X.env = (false, eval a X.env) :: starEach es X.env := by rfl) (hpl : (backTo pos (starEach es X.env)).any (·.1) = false := by rfl) :
    EX X U Γ (.Call (.Name n p) (a :: es) [] pos) ρ (m.bind fun x => (mr x).calm.bind fun z => .ok z) :=
  ⟨fun en F σ H Q s h => wE_of (pe_callTy hc hg hm hv wA_pa hn hdb he hpl) (g_dataC hd (fun _ z => z) (fun _ _ => rfl) (fun _ _ => rfl) ha s h)⟩
theorem f_callB {P : γ → ORp} {mr : τ → R γ} {m : R τ} (hc : CallR X (.builtin id) r) (hd : DF r t P mr) (hm : X.mg n = none) (hv : bootBuiltins n = some (.builtin id)) (ha : AX X U Γ (a :: es) t m) (hg : Gl X n := by rfl)
    (hn : n ≠ "__name__" := by decide) (hdb : (n == ("__debug__" : Str)) = false := by decide) (he : starEach (a :: es) X.env = (false, eval a X.env) :: starEach es X.env := by rfl) (hpl : (backTo pos (starEach es X.env)).any (·.1) = false := by rfl) :
    FX X U Γ (.Call (.Name n p) (a :: es) [] pos) P (m.bind fun x => (mr x).calm.bind fun z => .ok z) :=
  ⟨fun en F σ H Q s h => wE_of (pe_callB hc hg hm hv wA_pa hn hdb he hpl) (g_dataF hd (fun _ z => z) (fun _ _ => rfl) (fun _ _ => rfl) ha s h)⟩
/-! ### calls of own defs -/
def SpP (mg : Str → Option Value) {τ γ : Type} (t : Tr τ) (ρ : Rp γ) (f : τ → R γ) : Sp := fun vs H Q E => ∃ F x, Same F H ∧ t.rep x F vs ∧
  wpR (f x) (fun z => ∀ v F' H', Ext F H F' H' → ρ.rep z F' v → Q v H') (fun r => ∀ cls d F' H', Ext F H F' H' → ErOk mg r cls d F' → E cls d H')
variable {W : WX} {k : Nat} {f : Addr} {fd : FuncData} {ps : List Str} {ds : List Value} {dvs : List V}
/-- f(e, ..), the defaults dvs behind -/
theorem g_call {τ' : Type} {t' : Tr τ'} {fm : τ' → R γ} {m : R ω1} {v1 : ω1 → τ} {Γ1 : ω1 → List Sl} {val : ω → γ} {Γ' : ω → List Sl} (app : τ → τ') (pk : ω1 → γ → ω) (hv : ∀ w z, val (pk w z) = z) (hΓ : ∀ w z, Γ' (pk w z) = Γ1 w)
    (hap : ∀ x F vs, t.rep x F vs → t'.rep (app x) F (vs ++ dvs)) (hle : ∀ w, Le U.Γ (Γ1 w))
    (G : FnOk X.prog X.w X.K X.mg X.base (L2.CX X.prog X.w) k f fd ps (SpP X.mg t' ρ fm)) (hr : Room k X.A) (hm : X.mg n = some (.ref f)) (hk : PySem.W.keepIn X.K (.ref f) = true) (hb : Binds X.K fd ps ds) (hd : Vals dvs ds) (tk : Takes X U.W)
    (ha : AG X U Γ (a :: es) t m v1 Γ1) (hg : Gl X n) (hdb : (n == ("__debug__" : Str)) = false) (he : starEach (a :: es) X.env = (false, eval a X.env) :: starEach es X.env) (hpl : (backTo pos (starEach es X.env)).any (·.1) = false) :
    EG X U Γ (.Call (.Name n p) (a :: es) [] pos) ρ (m.bind fun w => (fm (app (v1 w))).bind fun z => .ok (pk w z)) val Γ' :=
  ⟨fun en F σ H Q s h => wE_of (pe_callSD G hr hg hm hk hb hd (fun σ => passAt tk σ) wA_pa hdb he hpl) (ha.out en F σ H _ s (wpR_mono (wpR_bind h) (fun w k vs F1 H1 e1 s1 r1 =>
    ⟨F1, app (v1 w), s1.sub, hap _ F1 vs r1, wpR_mono (wpR_bind k) (fun z k v F' H' x ru => k v F' H' (e1.trans x.f) (by rw [hΓ]; exact s1.ext x) (by rw [hv]; exact ru)) fun r z cls d F' H' x o => z cls d F' σ H' (e1.trans x.f) ((s1.ext x).le (hle w)) o⟩) fun _ z => z))⟩
theorem x_call {fm : τ → R γ} {m : R τ} (G : FnOk X.prog X.w X.K X.mg X.base (L2.CX X.prog X.w) k f fd ps (SpP X.mg t ρ fm)) (hr : Room k X.A) (hm : X.mg n = some (.ref f)) (hk : PySem.W.keepIn X.K (.ref f) = true) (hb : Binds X.K fd ps []) (tk : Takes X U.W) (hle : Le U.Γ Γ)
    (ha : AX X U Γ (a :: es) t m) (hg : Gl X n := by rfl) (hdb : (n == ("__debug__" : Str)) = false := by decide) (he : starEach (a :: es) X.env = (false, eval a X.env) :: starEach es X.env := by rfl) (hpl : (backTo pos (starEach es X.env)).any (·.1) = false := by rfl) :
    EX X U Γ (.Call (.Name n p) (a :: es) [] pos) ρ (m.bind fun x => fm x) := by
  have h : EX X U Γ (.Call (.Name n p) (a :: es) [] pos) ρ (m.bind fun x => (fm x).bind fun z => .ok z) := g_call (fun x => x) (fun _ z => z) (fun _ _ => rfl) (fun _ _ => rfl) (fun x F vs r => by rw [List.append_nil]; exact r) (fun _ => hle) G hr hm hk hb .nil tk ha hg hdb he hpl
  simp only [R.bind_pure] at h
  exact h
end
end Py

/-! Own layer, part C: targets, statements, loops, comprehensions, defs. -/
namespace Py
open PySem PySem.Spec PyProof.Rows L2

/-! ### targets -/
/-- slots outside vs are as they were -/
def Chg (σ σ' : L2.St) (vs : List Nat) : Prop := σ'.length = σ.length ∧ ∀ j, j ∉ vs → σ'[j]? = σ[j]?
theorem Chg.trans {σ σ1 σ2 : L2.St} {vs : List Nat} (a : Chg σ σ1 vs) (b : Chg σ1 σ2 vs) : Chg σ σ2 vs := ⟨b.1.trans a.1, fun j h => (b.2 j h).trans (a.2 j h)⟩
theorem Chg.set {σ : L2.St} {vs : List Nat} {i : Nat} {x : Option V} (h : i ∈ vs) : Chg σ (σ.set i x) vs :=
  ⟨List.length_set, fun j hj => List.getElem?_set_ne fun e => hj (by rw [← e]; exact h)⟩
theorem wipe_in {σ : L2.St} : ∀ {vs : List Nat} {j : Nat}, j ∈ vs → j < σ.length → (wipe σ vs)[j]? = some none
  | [], _, h, _ => by cases h
  | v :: vs, j, h, hl => by
    unfold wipe
    by_cases e : v = j
    · subst e
      exact List.getElem?_set_self (by rw [wipe_length]; exact hl)
    · rw [List.getElem?_set_ne e]
      exact wipe_in ((List.mem_cons.mp h).resolve_left fun z => e z.symm) hl
theorem Chg.wipe {σ σ' : L2.St} {vs : List Nat} (h : Chg σ σ' vs) : wipe σ' vs = wipe σ vs := by
  apply List.ext_getElem?
  intro j
  by_cases hj : j ∈ vs
  · by_cases hl : j < σ.length
    · rw [wipe_in hj hl, wipe_in hj (by rw [h.1]; exact hl)]
    · rw [List.getElem?_eq_none (by rw [wipe_length, h.1]; omega), List.getElem?_eq_none (by rw [wipe_length]; omega)]
  · rw [wipe_out hj, wipe_out hj]
    exact h.2 j hj
def wG (X : Cx) (tg : Expr) : L2.TG := fun v σ H Q => ∀ pins s u, Inv X pins σ H s → RelV v u → wpAny (model X.prog X.w) X.A (assign tg X.env u) (fun _ s' => ∃ σ' H', Inv X pins σ' H' s' ∧ Q σ' H') X.xe s
def wGs (X : Cx) (ts : List Expr) : L2.TGs := fun vs σ H Q => ∀ pins s us, Inv X pins σ H s → Vals vs us → wpAny (model X.prog X.w) X.A (assignInOrder ((assignEach ts X.env).map (·.2)) us) (fun _ s' => ∃ σ' H', Inv X pins σ' H' s' ∧ Q σ' H') X.xe s
section
variable {X : Cx} {tg : Expr} {ts : List Expr} {pos : Pos} {α β τ : Type}
theorem wG_pg : PG X tg (wG X tg) := ⟨fun pins s _ _ _ u _ I r h => h pins s u I r⟩
theorem wGs_pgs : PGs X ts (wGs X ts) := ⟨fun pins s _ _ _ us _ I r h => h pins s us I r⟩
theorem wG_of {t : L2.TG} {v : V} {σ : L2.St} {H : Hp} {Q : L2.St → Hp → Prop} (h : PG X tg t) (q : t v σ H Q) : wG X tg v σ H Q := fun pins s u I r => h.run pins s σ H v u Q I r q
theorem wGs_of {t : L2.TGs} {vs : List V} {σ : L2.St} {H : Hp} {Q : L2.St → Hp → Prop} (h : PGs X ts t) (q : t vs σ H Q) : wGs X ts vs σ H Q := fun pins s us I r => h.run pins s σ H vs us Q I r q
/-- a target for a value of ρ: g tells the slots behind; vs are the slots that change -/
structure GT (X : Cx) (tg : Expr) {α : Type} (ρ : Rp α) (vs : List Nat) (g : α → List Sl → List Sl) : Prop where
  keep : ∀ x Γ (j : Nat), j ∉ vs → (g x Γ)[j]? = Γ[j]?
  out : ∀ en Γ F σ H v x (Q : L2.St → Hp → Prop), SA en Γ F σ H → ρ.rep x F v → (∀ σ', SA en (g x Γ) F σ' H → Chg σ σ' vs → Q σ' H) → wG X tg v σ H Q
structure GTs (X : Cx) (ts : List Expr) {τ : Type} (t : Tr τ) (n : Nat) (vs : List Nat) (g : τ → List Sl → List Sl) : Prop where
  len : ∀ x F ws, t.rep x F ws → ws.length = n
  keep : ∀ x Γ (j : Nat), j ∉ vs → (g x Γ)[j]? = Γ[j]?
  out : ∀ en Γ F σ H ws x (Q : L2.St → Hp → Prop), SA en Γ F σ H → t.rep x F ws → (∀ σ', SA en (g x Γ) F σ' H → Chg σ σ' vs → Q σ' H) → wGs X ts ws σ H Q
theorem gt_name {ρ : Rp α} {vs : List Nat} {n : Str} (i : Nat) (hi : i ∈ vs := by decide) (hN : X.N.Nodup) (hn : X.N[i]? = some n := by rfl) (hx : Loc X.env.scope n := by first | exact Or.inl rfl | exact Or.inr rfl)
    (hf : X.fn n = true ∨ X.env.scope.names.lookup n = some .local := by first | exact .inl rfl | exact .inr rfl) : GT X (.Name n pos) ρ vs fun x Γ => Γ.set i (im ρ x) :=
  ⟨fun x Γ j hj => List.getElem?_set_ne fun e => hj (by rw [← e]; exact hi), fun en Γ F σ H v x Q s r h => wG_of (pg_name hN hn hx hf) (h _ (s.put r) (Chg.set hi))⟩
theorem gts_one {ρ : Rp α} {vs : List Nat} {g : α → List Sl → List Sl} (h1 : GT X tg ρ vs g) (hs : (assignEach [tg] X.env).map (·.2) = assign tg X.env :: (assignEach [] X.env).map (·.2) := by rfl) : GTs X [tg] (t1 ρ) 1 vs g where
  len := fun x F ws ⟨v, e, _⟩ => by rw [e]; rfl
  keep := fun x Γ j hj => h1.keep x Γ j hj
  out := fun en Γ F σ H ws x Q s ⟨v, e, r⟩ h => by
    subst e
    exact wGs_of (pgs_cons wG_pg pgs_nil hs) ⟨v, [], rfl, h1.out en Γ F σ H v x _ s r fun σ' s' c => ⟨rfl, h σ' s' c⟩⟩
theorem gts_cons {ρ : Rp α} {t : Tr τ} {vs : List Nat} {n : Nat} {g : α → List Sl → List Sl} {g' : τ → List Sl → List Sl} (h1 : GT X tg ρ vs g) (h2 : GTs X ts t n vs g')
    (hs : (assignEach (tg :: ts) X.env).map (·.2) = assign tg X.env :: (assignEach ts X.env).map (·.2) := by rfl) : GTs X (tg :: ts) (tc ρ t) (n + 1) vs fun x Γ => g' x.2 (g x.1 Γ) where
  len := fun x F ws ⟨v, r, e, _, q⟩ => by
    rw [e, List.length_cons, h2.len _ _ _ q]
  keep := fun x Γ j hj => (h2.keep x.2 _ j hj).trans (h1.keep x.1 Γ j hj)
  out := fun en Γ F σ H ws x Q s ⟨v, r, e, q1, q2⟩ h => by
    subst e
    exact wGs_of (pgs_cons wG_pg wGs_pgs hs) ⟨v, r, rfl, h1.out en Γ F σ H v x.1 _ s q1 fun σ' s' c => h2.out en _ F σ' H r x.2 _ s' q2 fun σ2 s2 c2 => h σ2 s2 (c.trans c2)⟩
theorem gt_tup {t : Tr τ} {vs : List Nat} {n k : Nat} {g : τ → List Sl → List Sl} (hc : X.calm = true) (h : GTs X ts t n vs g) (hn : (assignEach ts X.env).length = n := by rfl) (hst : (assignEach ts X.env).findIdx? (·.1) = none := by rfl) :
    GT X (.Tuple ts k pos) (rTu t) vs g :=
  ⟨fun x Γ j hj => h.keep x Γ j hj, fun en Γ F σ H v x Q s ⟨p, ws, e, hp, r⟩ q => wG_of (pg_tup hc wGs_pgs hn hst) ⟨p, ws, e, .inl (.inl (s.sub p _ hp)), h.len _ _ _ r, h.out en Γ F σ H ws x Q s r q⟩⟩
end

/-! ### blocks -/
def Kd.cut : Kd → Kd
  | .nx _ => .rt ⟨fun _ _ => False, fun _ h => h⟩ []
  | .go Γ => .ct Γ
  | .fn p Γ => .rt p Γ
  | k => k
theorem Kd.sat.cut {k : Kd} {en : En} {F : Hp} {D : Ends} {nx : L2.St → Hp → Prop} (h : k.sat en F D) : k.cut.sat en F { D with nx := nx } := by
  cases k with
  | nx Γ => exact fun v F' σ' H' _ _ z => z.elim
  | go Γ => exact fun F' σ' H' e s => (h F' σ' H' e s).2
  | fn p Γ => exact h.1
  | bk Γ => exact h
  | ct Γ => exact h
  | rt p Γ => exact h
  | rf P Γ => exact h
section
variable {X : Cx} {U : Wi} {Γ : List Sl} {st : Stmt} {sts rest : List Stmt} {e : Expr} {pos : Pos} {α β γ ω ω' : Type} {I : ω → Kd} {I' : ω' → Kd}
/-- one statement -/
structure SG (X : Cx) (U : Wi) (Γ : List Sl) (st : Stmt) {ω : Type} (I : ω → Kd) (m : R ω) : Prop where
  out : ∀ en F σ H D, SA en Γ F σ H → wpR m (fun o => (I o).sat en F D) (U.ok X.mg en F) → wS X st D σ H
/-- what follows -/
inductive Cont (X : Cx) (U : Wi) (rest : List Stmt) {ω : Type} (I : ω → Kd) : Kd → R ω → Prop
  | nx {Γ : List Sl} {m : R ω} : SX X U Γ rest I m → Cont X U rest I (.nx Γ) m
  | rt {p : PRp} {Γ : List Sl} {o : ω} : I o = .rt p Γ → Cont X U rest I (.rt p Γ) (.ok o)
  | rtf {p : PRp} {Γ : List Sl} {o : ω} : I o = .fn p Γ → Cont X U rest I (.rt p Γ) (.ok o)
  | bk {Γ Γ' : List Sl} {o : ω} : I o = .bk Γ' → Le Γ' Γ → Cont X U rest I (.bk Γ) (.ok o)
  | ct {Γ Γ' : List Sl} {o : ω} : I o = .ct Γ' → Le Γ' Γ → Cont X U rest I (.ct Γ) (.ok o)
  | go {Γ Γ' : List Sl} {o : ω} : I o = .go Γ' → Le Γ' Γ → Cont X U rest I (.ct Γ) (.ok o)
  | rf {P : ORp} {Γ : List Sl} {o : ω} : I o = .rf P Γ → Cont X U rest I (.rf P Γ) (.ok o)
  | no {p : PRp} {Γ : List Sl} {m : R ω} : (∀ F v, ¬ p.p F v) → Cont X U rest I (.rt p Γ) m
theorem Cont.sat {k : Kd} {m : R ω} {en : En} {F : Hp} {D : Ends} (c : Cont X U rest I k m) (h : wpR m (fun o => (I o).sat en F D) (U.ok X.mg en F)) : k.sat en F { D with nx := wSs X rest D } := by
  cases c with
  | nx s => exact fun F' σ' H' e a => s.out en F' σ' H' D a (wpR_mono h (fun o z => z.up e) fun _ z => z.up e)
  | rt e =>
    have h' : Kd.sat (I _) en F D := h
    rw [e] at h'
    exact h'
  | rtf e =>
    have h' : Kd.sat (I _) en F D := h
    rw [e] at h'
    exact h'.1
  | bk e l =>
    have h' : Kd.sat (I _) en F D := h
    rw [e] at h'
    exact fun F' σ' H' x a => h' F' σ' H' x (a.le l)
  | ct e l =>
    have h' : Kd.sat (I _) en F D := h
    rw [e] at h'
    exact fun F' σ' H' x a => h' F' σ' H' x (a.le l)
  | go e l =>
    have h' : Kd.sat (I _) en F D := h
    rw [e] at h'
    exact fun F' σ' H' x a => (h' F' σ' H' x (a.le l)).2
  | rf e =>
    have h' : Kd.sat (I _) en F D := h
    rw [e] at h'
    exact h'
  | no hn => exact fun v F' σ' H' _ _ z => (hn _ _ z).elim
theorem s_cons {m : R ω'} {k : ω' → R ω} (h1 : SG X U Γ st I' m) (h2 : ∀ o, Cont X U rest I (I' o) (k o)) : SX X U Γ (st :: rest) I (m.bind k) :=
  ⟨fun en F σ H D s h => wSs_of (pss_cons wS_ps wSs_pss) (h1.out en F σ H { D with nx := wSs X rest D } s (wpR_mono (wpR_bind h) (fun o q => (h2 o).sat q) fun _ z => z))⟩
theorem s_one {m : R ω} (h1 : SG X U Γ st I m) : SX X U Γ [st] I m := ⟨fun en F σ H D s h => wSs_of (pss_one wS_ps) (h1.out en F σ H D s h)⟩
theorem s_nx {o : ω} {Γ' : List Sl} (e : I o = .nx Γ') (l : Le Γ' Γ) : SX X U Γ [] I (.ok o) :=
  ⟨fun en F σ H D s h => wSs_of pss_nil (by
    have h' : Kd.sat (I o) en F D := h
    rw [e] at h'
    exact h' F σ H (Same.refl F) (s.le l))⟩
theorem s_go {o : ω} {Γ' : List Sl} (e : I o = .go Γ') (l : Le Γ' Γ) : SX X U Γ [] I (.ok o) :=
  ⟨fun en F σ H D s h => wSs_of pss_nil (by
    have h' : Kd.sat (I o) en F D := h
    rw [e] at h'
    exact (h' F σ H (Same.refl F) (s.le l)).1)⟩
theorem s_endN {o : ω} {Γ' : List Sl} {p : PRp} (e : I o = .fn p Γ') (l : Le Γ' Γ) (hp : ∀ F, p.p F .non) : SX X U Γ [] I (.ok o) :=
  ⟨fun en F σ H D s h => wSs_of pss_nil (by
    have h' : Kd.sat (I o) en F D := h
    rw [e] at h'
    exact h'.2 F σ H (Same.refl F) (s.le l) (hp F))⟩
/-- return e -/
theorem g_ret {ρ : Rp α} {m : R ω'} {val : ω' → α} {Γ1 : ω' → List Sl} (mk : ω' → ω) (P : ω' → List Sl) (e1 : ∀ w, I (mk w) = .rt ⟨fun H v => ρ.rep (val w) H v, fun e h => ρ.mono e h⟩ (P w)) (l : ∀ w, Le (P w) (Γ1 w)) (he : EG X U Γ e ρ m val Γ1) :
    SG X U Γ (.Return (some e) pos) I (m.bind fun w => .ok (mk w)) :=
  ⟨fun en F σ H D s h => wS_of (ps_ret wE_pe) (he.out en F σ H _ s (wpR_mono (wpR_bind h) (fun w k v F' H' e' s' r => by
    have k' : Kd.sat (I (mk w)) en F D := k
    rw [e1] at k'
    exact k' v F' σ H' e' (s'.le (l w)) r) fun _ z => z))⟩
/-- what stands behind a return, a break is not looked at -/
theorem s_last {m : R ω} (h1 : SG X U Γ st (fun o => (I o).cut) m) : SX X U Γ (st :: rest) I m :=
  ⟨fun en F σ H D s h => wSs_of (pss_cons wS_ps wSs_pss) (h1.out en F σ H { D with nx := wSs X rest D } s (wpR_mono h (fun o q => q.cut) fun _ z => z))⟩

/-! ### if -/
theorem g_if {c : Expr} {A B : List Stmt} {mc : R ω'} {val : ω' → Bool} {Γ1 : ω' → List Sl} {mA mB : ω' → R ω} (hc : BG X U Γ c mc val Γ1) (hA : ∀ w, SX X U (Γ1 w) A I (mA w)) (hB : ∀ w, SX X U (Γ1 w) B I (mB w)) :
    SG X U Γ (.If c A B pos) I (mc.bind fun w => if val w = true then mA w else mB w) :=
  ⟨fun en F σ H D s h => wS_of (ps_if wT_pt wSs_pss wSs_pss) (hc.out en F σ H _ s (wpR_mono (wpR_bind h) (fun w k F1 H1 e1 s1 => by
    cases hv : val w with
    | true =>
      rw [hv, if_pos rfl] at k
      rw [if_pos rfl]
      exact (hA w).out en F1 σ H1 D s1 (wpR_mono k (fun o z => z.up e1) fun _ z => z.up e1)
    | false =>
      rw [hv, if_neg Bool.false_ne_true] at k
      rw [if_neg Bool.false_ne_true]
      exact (hB w).out en F1 σ H1 D s1 (wpR_mono k (fun o z => z.up e1) fun _ z => z.up e1)) fun _ z => z))⟩
/-- if c: A (it never falls through), then the rest -/
theorem s_ifT {c : Expr} {A : List Stmt} {mc : R ω'} {val : ω' → Bool} {Γ1 : ω' → List Sl} {mA mR : ω' → R ω} (hc : BG X U Γ c mc val Γ1) (hA : ∀ w, SX X U (Γ1 w) A (fun o => (I o).cut) (mA w)) (hR : ∀ w, SX X U (Γ1 w) rest I (mR w)) :
    SX X U Γ (.If c A [] pos :: rest) I (mc.bind fun w => if val w = true then mA w else mR w) :=
  ⟨fun en F σ H D s h => wSs_of (pss_cons (ps_if wT_pt wSs_pss pss_nil) wSs_pss) (hc.out en F σ H _ s (wpR_mono (wpR_bind h) (fun w k F1 H1 e1 s1 => by
    cases hv : val w with
    | true =>
      rw [hv, if_pos rfl] at k
      rw [if_pos rfl]
      exact (hA w).out en F1 σ H1 _ s1 (wpR_mono k (fun o z => (z.up e1).cut) fun _ z => z.up e1)
    | false =>
      rw [hv, if_neg Bool.false_ne_true] at k
      rw [if_neg Bool.false_ne_true]
      exact (hR w).out en F1 σ H1 D s1 (wpR_mono k (fun o z => z.up e1) fun _ z => z.up e1)) fun _ z => z))⟩
/-! ### assignments -/
/-- name = e -/
theorem s_set {ρ : Rp α} {n : Str} {p' : Pos} {m : R ω'} {val : ω' → α} {Γ1 : ω' → List Sl} {k : ω' → R ω} (i : Nat) (hN : X.N.Nodup) (he : EG X U Γ e ρ m val Γ1) (hr : ∀ w, SX X U ((Γ1 w).set i (im ρ (val w))) rest I (k w)) (hn : X.N[i]? = some n := by rfl)
    (hx : Loc X.env.scope n := by first | exact Or.inl rfl | exact Or.inr rfl) (hs : swapsWith e (some (.Name n p')) pos.line X.env = pure false := by rfl) (hf : X.fn n = true ∨ X.env.scope.names.lookup n = some .local := by first | exact .inl rfl | exact .inr rfl) :
    SX X U Γ (.Assign [.Name n p'] e pos :: rest) I (m.bind k) :=
  ⟨fun en F σ H D s h => wSs_of (pss_cons (ps_set hN hn hx wE_pe hs hf) wSs_pss) (he.out en F σ H _ s (wpR_mono (wpR_bind h) (fun w q v F' H' e' s' r =>
    (hr w).out en F' _ H' D (s'.put r) (wpR_mono q (fun o z => z.up e') fun _ z => z.up e')) fun _ z => z))⟩
/-- name = a new object -/
theorem s_own {P : ω' → ORp} {n : Str} {p' : Pos} {m : R ω'} {Γ1 : ω' → List Sl} {k : ω' → R ω} (i : Nat) (hN : X.N.Nodup) (he : FG X U Γ e P m Γ1) (hr : ∀ w, SX X U ((Γ1 w).set i (.own none (P w))) rest I (k w)) (hn : X.N[i]? = some n := by rfl)
    (hx : Loc X.env.scope n := by first | exact Or.inl rfl | exact Or.inr rfl) (hs : swapsWith e (some (.Name n p')) pos.line X.env = pure false := by rfl) (hf : X.fn n = true ∨ X.env.scope.names.lookup n = some .local := by first | exact .inl rfl | exact .inr rfl) :
    SX X U Γ (.Assign [.Name n p'] e pos :: rest) I (m.bind k) :=
  ⟨fun en F σ H D s h => wSs_of (pss_cons (ps_set hN hn hx wE_pe hs hf) wSs_pss) (he.out en F σ H _ s (wpR_mono (wpR_bind h) (fun w q p o F' H' e' s' fr r =>
    (hr w).out en F' _ H' D (s'.putOwn fr r) (wpR_mono q (fun o z => z.up e') fun _ z => z.up e')) fun _ z => z))⟩
/-- a target of any form = e -/
theorem s_asg {ρ : Rp α} {tg : Expr} {vs : List Nat} {g : α → List Sl → List Sl} {m : R ω'} {val : ω' → α} {Γ1 : ω' → List Sl} {k : ω' → R ω} (hg : GT X tg ρ vs g) (he : EG X U Γ e ρ m val Γ1) (hr : ∀ w, SX X U (g (val w) (Γ1 w)) rest I (k w))
    (hs : swapsWithSole [tg] e pos.line X.env = pure false := by rfl) (hw : swappedStores [tg] e X.env = pure none := by rfl) (h1 : (assignEach [tg] X.env).map (·.2) = [assign tg X.env] := by rfl) :
    SX X U Γ (.Assign [tg] e pos :: rest) I (m.bind k) :=
  ⟨fun en F σ H D s h => wSs_of (pss_cons (ps_asg wE_pe wG_pg hs hw h1) wSs_pss) (he.out en F σ H _ s (wpR_mono (wpR_bind h) (fun w q v F' H' e' s' r =>
    hg.out en _ F' σ H' v _ _ s' r fun σ' s2 _ => (hr w).out en F' σ' H' D s2 (wpR_mono q (fun o z => z.up e') fun _ z => z.up e')) fun _ z => z))⟩
/-- a, b = x, y -/
theorem s_par {ρ : Rp α} {π : Rp β} {x y : Str} {a b : Expr} {px py pt : Pos} {kt k2 pt2} {m1 : R α} {m2 : R β} {k : α → β → R ω} (i j : Nat) (hN : X.N.Nodup) (ha : EX X U Γ a ρ m1) (hb : EX X U Γ b π m2) (hr : ∀ v w, SX X U ((Γ.set i (im ρ v)).set j (im π w)) rest I (k v w))
    (hc : X.calm = true := by rfl) (hi : X.N[i]? = some x := by rfl) (hj : X.N[j]? = some y := by rfl) (hij : i ≠ j := by decide) (hx : X.env.scope.names.lookup x = some .local := by rfl) (hy : X.env.scope.names.lookup y = some .local := by rfl)
    (hw : swappedStores [.Tuple [.Name x px, .Name y py] kt pt] (.Tuple [a, b] k2 pt2) X.env = pure (some [x, y]) := by rfl) (hs : swapsWithSole [.Tuple [.Name x px, .Name y py] kt pt] (.Tuple [a, b] k2 pt2) pos.line X.env = pure false := by rfl)
    (h1 : starEach [a, b] X.env = (false, eval a X.env) :: starEach [b] X.env := by rfl) (h2 : starEach [b] X.env = (false, eval b X.env) :: starEach [] X.env := by rfl) :
    SX X U Γ (.Assign [.Tuple [.Name x px, .Name y py] kt pt] (.Tuple [a, b] k2 pt2) pos :: rest) I (m1.bind fun v => m2.bind fun w => k v w) :=
  ⟨fun en F σ H D s h => wSs_of (pss_cons (ps_par hc hN hi hj hij hx hy (pa_cons wE_pe (pa_cons wE_pe pa_nil h2) h1) hw hs) wSs_pss) (ha.out en F σ H _ s (wpR_mono (wpR_bind h) (fun v q u1 F1 H1 e1 s1 r1 =>
    hb.out en F1 σ H1 _ s1 (wpR_mono (wpR_bind q) (fun w q2 u2 F2 H2 e2 s2 r2 => ⟨u1, u2, rfl, (hr v w).out en F2 _ H2 D (SA.put (i := j) (P := ⟨fun H v => π.rep w H v, fun e h => π.mono e h⟩) (SA.put (i := i) (P := ⟨fun H v' => ρ.rep v H v', fun e h => ρ.mono e h⟩) s2 (ρ.mono e2 r1)) r2)
      (wpR_mono q2 (fun o z => z.up (e1.trans e2)) fun _ z => z.up (e1.trans e2))⟩) fun _ z => z.up e1)) fun _ z => z))⟩
/-- an expression alone -/
theorem s_expr {ρ : Rp α} {m : R ω'} {val : ω' → α} {Γ1 : ω' → List Sl} {k : ω' → R ω} (he : EG X U Γ e ρ m val Γ1) (hr : ∀ w, SX X U (Γ1 w) rest I (k w)) (hs : swapsWith e none pos.line X.env = pure false := by rfl) :
    SX X U Γ (.Expr e pos :: rest) I (m.bind k) :=
  ⟨fun en F σ H D s h => wSs_of (pss_cons (ps_expr wE_pe hs) wSs_pss) (he.out en F σ H _ s (wpR_mono (wpR_bind h) (fun w q v F' H' e' s' r =>
    (hr w).out en F' _ H' D s' (wpR_mono q (fun o z => z.up e') fun _ z => z.up e')) fun _ z => z))⟩
/-- what a slot owns is known from now on -/
theorem s_give {τ : Type} {t : Tr τ} {x : τ} {m : R ω} {a0 : Option Addr} (i : Nat) (hΓ : Γ[i]? = some (.own a0 (oLi t x))) (hr : SX X U (Γ.set i (im (rLi t) x)) sts I m) : SX X U Γ sts I m :=
  ⟨fun en F σ H D s h => by
    obtain ⟨p, o, h1, h2, h3, h4, h5, h6⟩ := s.own i _ _ hΓ
    obtain ⟨vs, e, r⟩ := h4
    subst e
    have g := s.give hΓ h1 h3
    have sf : Same F (upd F p (.lst vs)) := Same.upd h2
    have hl : i < σ.length := by
      by_cases z : i < σ.length
      · exact z
      · rw [List.getElem?_eq_none (by omega)] at h1
        cases h1
    have g2 := SA.put (i := i) (P := ⟨fun H v => (rLi t).rep x H v, fun e h => (rLi t).mono e h⟩) (v := .ref p) g ⟨p, vs, rfl, upd_same, t.mono sf r⟩
    rw [List.set_set] at g2
    have e2 : σ.set i (some (.ref p)) = σ := by
      apply List.ext_getElem?
      intro j
      by_cases ej : i = j
      · subst ej
        rw [List.getElem?_set_self hl, h1]
      · rw [List.getElem?_set_ne ej]
    rw [e2] at g2
    exact hr.out en _ σ H D g2 (wpR_mono h (fun o z => z.up sf) fun _ z => z.up sf)⟩
end

/-! ### what is walked -/
structure Wk (J : It) (F : Hp) {α : Type} (ρ : Rp α) (xs : List α) : Prop where
  go : ∀ F1 H i x, Same F F1 → Same F1 H → xs[i]? = some x → J.go i H ∧ ∀ v H', J.yld i H v H' → ∃ F', Ext F1 H F' H' ∧ ρ.rep x F' v
  stop : ∀ H i, Same F H → xs.length ≤ i → J.stop i H
def wI (X : Cx) (tg iter : Expr) : TI := fun σ H R => ∀ pins s, Inv X pins σ H s → wpAny (model X.prog X.w) X.A (eval iter X.env) (fun v s1 => wpAny (model X.prog X.w) X.A (pyIter v) (PIE X pins σ tg R) X.xe s1) X.xe s
theorem wI_pi {X : Cx} {tg iter : Expr} : PI X tg iter (wI X tg iter) := ⟨fun pins s _ _ _ I h => h pins s I⟩
theorem wI_of {X : Cx} {tg iter : Expr} {t : TI} {σ : L2.St} {H : Hp} {R : It → Hp → Prop} (h : PI X tg iter t) (q : t σ H R) : wI X tg iter σ H R := fun pins s I => h.run pins s σ H R I q
structure IG (X : Cx) (U : Wi) (Γ : List Sl) (tg iter : Expr) {α ω : Type} (ρ : Rp α) (m : R ω) (val : ω → List α) (Γ' : ω → List Sl) : Prop where
  out : ∀ en F σ H (R : It → Hp → Prop), SA en Γ F σ H → wpR m (fun w => ∀ J F' H', Same F F' → SA en (Γ' w) F' σ H' → Wk J F' ρ (val w) → R J H') (U.ok X.mg en F) → wI X tg iter σ H R
abbrev IX (X : Cx) (U : Wi) (Γ : List Sl) (tg iter : Expr) {α : Type} (ρ : Rp α) (m : R (List α)) : Prop := IG X U Γ tg iter ρ m (fun a => a) fun _ => Γ
/-- lo, lo + 1, .. below hi -/
def rangeI (lo hi : Int) : List Int := (List.range (hi - lo).toNat).map fun i => lo + (i : Nat)
theorem wk_list {K : PySem.W.Frag} {F : Hp} {α : Type} {ρ : Rp α} {xs : List α} {p : Addr} {vs : List V} (h : F p = some (.lst vs)) (r : RepL ρ F xs vs) : Wk (Itl K p) F ρ xs where
  go := fun F1 H i x e1 e2 hx => by
    have hp : H p = some (.lst vs) := e2 p _ (e1 p _ h)
    obtain ⟨v, hv, rv⟩ := r.got hx
    exact ⟨⟨vs, v, .inl (.inl hp), hv⟩, fun w H' ⟨eH, y⟩ => by
      subst eH
      have ew : w = v := Option.some.inj ((y vs (.inl (.inl hp))).symm.trans hv)
      subst ew
      exact ⟨F1, Ext.refl e2, ρ.mono e1 rv⟩⟩
  stop := fun H i e hi => ⟨vs, .inl (.inl (e p _ h)), by rw [← r.length]; exact hi⟩
theorem wk_tup {K : PySem.W.Frag} {F : Hp} {α : Type} {ρ : Rp α} {xs : List α} {p : Addr} {vs : List V} (h : F p = some (.tup vs)) (r : RepL ρ F xs vs) : Wk (Itt K p) F ρ xs where
  go := fun F1 H i x e1 e2 hx => by
    have hp : H p = some (.tup vs) := e2 p _ (e1 p _ h)
    obtain ⟨v, hv, rv⟩ := r.got hx
    exact ⟨⟨vs, v, .inl (.inl hp), hv⟩, fun w H' ⟨eH, y⟩ => by
      subst eH
      have ew : w = v := Option.some.inj ((y vs (.inl (.inl hp))).symm.trans hv)
      subst ew
      exact ⟨F1, Ext.refl e2, ρ.mono e1 rv⟩⟩
  stop := fun H i e hi => ⟨vs, .inl (.inl (e p _ h)), by rw [← r.length]; exact hi⟩
theorem wk_range {F : Hp} {lo hi : Int} : Wk (Itr lo (hi - lo).toNat) F rI (rangeI lo hi) where
  go := fun F1 H i x e1 e2 hx => by
    unfold rangeI at hx
    rw [List.getElem?_map] at hx
    have hi' : i < (hi - lo).toNat := by
      by_cases z : i < (hi - lo).toNat
      · exact z
      · rw [List.getElem?_eq_none (by rw [List.length_range]; omega)] at hx
        cases hx
    rw [List.getElem?_range hi'] at hx
    have hx' : lo + (i : Nat) = x := Option.some.inj hx
    exact ⟨hi', fun w H' ⟨eH, y⟩ => by
      subst eH
      exact ⟨F1, Ext.refl e2, by rw [y, hx'] <;> rfl⟩⟩
  stop := fun H i e hi' => by
    unfold rangeI at hi'
    rw [List.length_map, List.length_range] at hi'
    exact hi'
section
variable {X : Cx} {U : Wi} {Γ : List Sl} {tg a b e : Expr} {pos p : Pos} {α β ω : Type} {ρ : Rp α}
theorem i_list {m : R ω} {val : ω → List α} {Γ' : ω → List Sl} (h : EG X U Γ e (rL ρ) m val Γ') : IG X U Γ tg e ρ m val Γ' :=
  ⟨fun en F σ H R s q => wI_of (pi_list wE_pe) (h.out en F σ H _ s (wpR_mono q (fun w k v F' H' e1 s1 ⟨p, vs, ev, hp, r⟩ => ⟨p, ev, ⟨vs, .inl (.inl (s1.sub p _ hp))⟩, k _ F' H' e1 s1 (wk_list hp r)⟩) fun _ z => z))⟩
theorem i_tup {m : R ω} {val : ω → List α} {Γ' : ω → List Sl} (h : EG X U Γ e (rT ρ) m val Γ') : IG X U Γ tg e ρ m val Γ' :=
  ⟨fun en F σ H R s q => wI_of (pi_tup wE_pe) (h.out en F σ H _ s (wpR_mono q (fun w k v F' H' e1 s1 ⟨p, vs, ev, hp, r⟩ => ⟨p, ev, ⟨vs, .inl (.inl (s1.sub p _ hp))⟩, k _ F' H' e1 s1 (wk_tup hp r)⟩) fun _ z => z))⟩
theorem i_range1 {m : R Int} (hm : X.mg "range" = none) (h : AX X U Γ [a] (t1 rI) m) (hg : Gl X "range" := by rfl) (hs : starEach [a] X.env = [(false, eval a X.env)] := by rfl) :
    IX X U Γ tg (.Call (.Name "range" p) [a] [] pos) rI (m.bind fun n => chk (-(2 ^ 62) ≤ n ∧ n < 2 ^ 62) (rangeI 0 n)) :=
  ⟨fun en F σ H R s q => wI_of (pi_range1 hg hm wA_pa hs) (h.out en F σ H _ s (wpR_mono (wpR_bind q) (fun n k vs F' H' e1 s1 ⟨v, ev, r⟩ => by
    obtain ⟨⟨b1, b2⟩, k⟩ := wpR_chk k
    refine ⟨n, by rw [ev, show v = V.int n from r], b1, b2, k _ F' H' e1 s1 ?_⟩
    have w := wk_range (F := F') (lo := 0) (hi := n)
    rw [Int.sub_zero] at w
    exact w) fun _ z => z))⟩
theorem i_rangeC {i : Int} {j} {p2 : Pos} (hm : X.mg "range" = none) (hi : -(2 ^ 62) ≤ i ∧ i < 2 ^ 62 := by decide) (hg : Gl X "range" := by rfl) (hs : starEach [.Constant (.int i) j p2] X.env = [(false, eval (.Constant (.int i) j p2) X.env)] := by rfl) :
    IX X U Γ tg (.Call (.Name "range" p) [.Constant (.int i) j p2] [] pos) rI (.ok (rangeI 0 i)) :=
  ⟨fun en F σ H R s q => wI_of (pi_range1 hg hm (pa_cons pe_int pa_nil hs) hs) ⟨i, rfl, hi.1, hi.2, q _ F H (Same.refl F) s (by
    have w := wk_range (F := F) (lo := 0) (hi := i)
    rw [Int.sub_zero] at w
    exact w)⟩⟩
end

/-! ### for -/
inductive Stp (τ γ : Type) where
  | nx (s : τ)
  | bk (s : τ)
  | rt (a : γ)
inductive Out (τ γ : Type) where
  | nx (s : τ)
  | rt (a : γ)
def Stp.kd {τ γ : Type} (Γs : τ → List Sl) (P : γ → PRp × List Sl) : Stp τ γ → Kd
  | .nx s => .go (Γs s)
  | .bk s => .bk (Γs s)
  | .rt a => .rt (P a).1 (P a).2
def Out.kd {τ γ : Type} (Γs : τ → List Sl) (P : γ → PRp × List Sl) : Out τ γ → Kd
  | .nx s => .nx (Γs s)
  | .rt a => .rt (P a).1 (P a).2
def outK {τ γ ω : Type} (k : τ → R ω) (mk : γ → ω) : Out τ γ → R ω
  | .nx s => k s
  | .rt a => .ok (mk a)
/-- a loop that may be left -/
def forS {α τ γ : Type} (f : τ → α → R (Stp τ γ)) : List α → τ → R (Out τ γ)
  | [], s => .ok (.nx s)
  | x :: xs, s => (f s x).bind fun o => match o with
    | .nx s' => forS f xs s'
    | .bk s' => .ok (.nx s')
    | .rt a => .ok (.rt a)
/-- one that runs through -/
def forR {α τ : Type} (f : τ → α → R τ) : List α → τ → R τ
  | [], s => .ok s
  | x :: xs, s => (f s x).bind fun s' => forR f xs s'
section
variable {X : Cx} {U : Wi} {Γ : List Sl} {tg iter : Expr} {body : List Stmt} {pos : Pos} {α τ γ ω : Type} {ρ : Rp α}
theorem g_forS {m : R ω} {val : ω → List α} {Γ1 : ω → List Sl} {vs : List Nat} {g : α → List Sl → List Sl} (Γs : τ → List Sl) (P : γ → PRp × List Sl) (f : ω → τ → α → R (Stp τ γ)) (s0 : ω → τ) (hi : IG X U Γ tg iter ρ m val Γ1) (hg : GT X tg ρ vs g)
    (hb : ∀ w s x, SX X U (g x (Γs s)) body (Stp.kd Γs P) (f w s x))
    (h0 : ∀ w, Le (Γs (s0 w)) (Γ1 w)) (hp : PassesOwn (model X.prog X.w) X.A X.env X.xe) (hc : X.calm = true := by rfl) (hs : ∀ x, foldedSetIterable iter X.env x = pure x := by intro _; rfl) :
    SG X U Γ (.For tg iter body [] pos) (Out.kd Γs P) (m.bind fun w => forS (f w) (val w) (s0 w)) :=
  ⟨fun en F σ H D s h => wS_of (ps_for hp hc wI_pi wG_pg wSs_pss hs) (hi.out en F σ H _ s (wpR_mono (wpR_bind h) (fun w k J F1 H1 e1 s1 wk => by
    refine ⟨fun i m σ H => m = (val w).length - i ∧ i ≤ (val w).length ∧ ∃ st F', Same F1 F' ∧ SA en (Γs st) F' σ H ∧ wpR (forS (f w) ((val w).drop i) st) (fun o => Kd.sat (Out.kd Γs P o) en F' D) (U.ok X.mg en F'),
      ⟨_, rfl, Nat.zero_le _, s0 w, F1, Same.refl F1, s1.le (h0 w), wpR_mono k (fun o z => z.up e1) fun _ z => z.up e1⟩, ?_⟩
    rintro i m σ H ⟨rfl, hi, st, F', eF, sa, q⟩
    by_cases hlt : i < (val w).length
    · have hd : (val w).drop i = (val w)[i] :: (val w).drop (i + 1) := List.drop_eq_getElem_cons hlt
      have hx : (val w)[i]? = some (val w)[i] := List.getElem?_eq_getElem hlt
      obtain ⟨go, yl⟩ := wk.go F' H i _ eF sa.sub hx
      rw [hd] at q
      refine .inr ⟨go, fun σ' H' => i + 1 ≤ (val w).length ∧ ∃ st F', Same F1 F' ∧ SA en (Γs st) F' σ' H' ∧ wpR (forS (f w) ((val w).drop (i + 1)) st) (fun o => Kd.sat (Out.kd Γs P o) en F' D) (U.ok X.mg en F'), fun σ' H' ⟨a1, a2⟩ => ⟨_, by omega, rfl, a1, a2⟩, fun v H' y => ?_⟩
      obtain ⟨F2, xx, rv⟩ := yl v H' y
      refine hg.out en _ F2 σ H' v _ _ (sa.ext xx) rv fun σ2 s2 _ => ?_
      refine (hb w st _).out en F2 σ2 H' _ s2 (wpR_mono (wpR_bind q) (fun o z => ?_) fun _ z => z.up xx.f)
      cases o with
      | nx st' => exact fun F3 σ3 H3 e3 s3 => ⟨⟨hlt, st', F3, eF.trans (xx.f.trans e3), s3, wpR_mono z (fun o z => z.up (xx.f.trans e3)) fun _ z => z.up (xx.f.trans e3)⟩, ⟨hlt, st', F3, eF.trans (xx.f.trans e3), s3, wpR_mono z (fun o z => z.up (xx.f.trans e3)) fun _ z => z.up (xx.f.trans e3)⟩⟩
      | bk st' => exact fun F3 σ3 H3 e3 s3 => z F3 σ3 H3 (xx.f.trans e3) s3
      | rt a => exact fun v F3 σ3 H3 e3 s3 r3 => z v F3 σ3 H3 (xx.f.trans e3) s3 r3
    · have e : i = (val w).length := by omega
      subst e
      rw [List.drop_length] at q
      exact .inl ⟨wk.stop H _ (eF.trans sa.sub) (Nat.le_refl _), q F' σ H (Same.refl F') sa⟩) fun _ z => z))⟩
theorem g_forR {m : R ω} {val : ω → List α} {Γ1 : ω → List Sl} {vs : List Nat} {g : α → List Sl → List Sl} (Γs : τ → List Sl) (f : ω → τ → α → R τ) (s0 : ω → τ) (hi : IG X U Γ tg iter ρ m val Γ1) (hg : GT X tg ρ vs g)
    (hb : ∀ w s x, SX X U (g x (Γs s)) body (fun s' => .go (Γs s')) (f w s x)) (h0 : ∀ w, Le (Γs (s0 w)) (Γ1 w)) (hp : PassesOwn (model X.prog X.w) X.A X.env X.xe) (hc : X.calm = true := by rfl) (hs : ∀ x, foldedSetIterable iter X.env x = pure x := by intro _; rfl) :
    SG X U Γ (.For tg iter body [] pos) (fun s => .nx (Γs s)) (m.bind fun w => forR (f w) (val w) (s0 w)) :=
  ⟨fun en F σ H D s h => wS_of (ps_for hp hc wI_pi wG_pg wSs_pss hs) (hi.out en F σ H _ s (wpR_mono (wpR_bind h) (fun w k J F1 H1 e1 s1 wk => by
    refine ⟨fun i m σ H => m = (val w).length - i ∧ i ≤ (val w).length ∧ ∃ st F', Same F1 F' ∧ SA en (Γs st) F' σ H ∧ wpR (forR (f w) ((val w).drop i) st) (fun o => Kd.sat (.nx (Γs o)) en F' D) (U.ok X.mg en F'),
      ⟨_, rfl, Nat.zero_le _, s0 w, F1, Same.refl F1, s1.le (h0 w), wpR_mono k (fun o z => Kd.sat.up (k := .nx (Γs o)) z e1) fun _ z => z.up e1⟩, ?_⟩
    rintro i m σ H ⟨rfl, hi, st, F', eF, sa, q⟩
    by_cases hlt : i < (val w).length
    · have hd : (val w).drop i = (val w)[i] :: (val w).drop (i + 1) := List.drop_eq_getElem_cons hlt
      have hx : (val w)[i]? = some (val w)[i] := List.getElem?_eq_getElem hlt
      obtain ⟨go, yl⟩ := wk.go F' H i _ eF sa.sub hx
      rw [hd] at q
      refine .inr ⟨go, fun σ' H' => i + 1 ≤ (val w).length ∧ ∃ st F', Same F1 F' ∧ SA en (Γs st) F' σ' H' ∧ wpR (forR (f w) ((val w).drop (i + 1)) st) (fun o => Kd.sat (.nx (Γs o)) en F' D) (U.ok X.mg en F'), fun σ' H' ⟨a1, a2⟩ => ⟨_, by omega, rfl, a1, a2⟩, fun v H' y => ?_⟩
      obtain ⟨F2, xx, rv⟩ := yl v H' y
      refine hg.out en _ F2 σ H' v _ _ (sa.ext xx) rv fun σ2 s2 _ => ?_
      refine (hb w st _).out en F2 σ2 H' _ s2 (wpR_mono (wpR_bind q) (fun st' z => ?_) fun _ z => z.up xx.f)
      exact fun F3 σ3 H3 e3 s3 => ⟨⟨hlt, st', F3, eF.trans (xx.f.trans e3), s3, wpR_mono z (fun o z => Kd.sat.up (k := .nx (Γs o)) z (xx.f.trans e3)) fun _ z => z.up (xx.f.trans e3)⟩, ⟨hlt, st', F3, eF.trans (xx.f.trans e3), s3, wpR_mono z (fun o z => Kd.sat.up (k := .nx (Γs o)) z (xx.f.trans e3)) fun _ z => z.up (xx.f.trans e3)⟩⟩
    · have e : i = (val w).length := by omega
      subst e
      rw [List.drop_length] at q
      exact .inl ⟨wk.stop H _ (eF.trans sa.sub) (Nat.le_refl _), q F' σ H (Same.refl F') sa⟩) fun _ z => z))⟩
end

/-! ### comprehensions -/
/-- the slots at vs are forgotten -/
def wipeΓ (Γ : List Sl) : List Nat → List Sl
  | [] => Γ
  | v :: vs => (wipeΓ Γ vs).set v .any
theorem wipeΓ_get {Γ : List Sl} {i : Nat} {x : Sl} : ∀ {vs : List Nat}, (wipeΓ Γ vs)[i]? = some x → x = .any ∨ (Γ[i]? = some x ∧ i ∉ vs)
  | [], h => .inr ⟨h, by simp⟩
  | v :: vs, h => by
    unfold wipeΓ at h
    by_cases e : v = i
    · subst e
      by_cases hl : v < (wipeΓ Γ vs).length
      · rw [List.getElem?_set_self hl] at h
        exact .inl (Option.some.inj h).symm
      · rw [List.getElem?_eq_none (by rw [List.length_set]; omega)] at h
        cases h
    · rw [List.getElem?_set_ne e] at h
      rcases wipeΓ_get h with z | ⟨z, hn⟩
      · exact .inl z
      · exact .inr ⟨z, by simp only [List.mem_cons, not_or]; exact ⟨fun q => e q.symm, hn⟩⟩
theorem wipeΓ_len {Γ : List Sl} : ∀ {vs : List Nat}, (wipeΓ Γ vs).length = Γ.length
  | [] => rfl
  | v :: vs => by
    unfold wipeΓ
    rw [List.length_set]
    exact wipeΓ_len
theorem wipeΓ_out {Γ : List Sl} {i : Nat} : ∀ {vs : List Nat}, i ∉ vs → (wipeΓ Γ vs)[i]? = Γ[i]?
  | [], _ => rfl
  | v :: vs, h => by
    obtain ⟨h1, h2⟩ := not_or.mp (fun z => h (List.mem_cons.mpr z))
    unfold wipeΓ
    rw [List.getElem?_set_ne fun e => h1 e.symm]
    exact wipeΓ_out h2
theorem SA.wipe {en : En} {Γ : List Sl} {F H : Hp} {σ : L2.St} {vs : List Nat} (s : SA en Γ F σ H) : SA en (wipeΓ Γ vs) F (wipe σ vs) H where
  len := by
    rw [wipeΓ_len, wipe_length]
    exact s.len
  sub := s.sub
  grow := s.grow
  old := s.old
  there := s.there
  frz := s.frz
  val := fun i P h => by
    rcases wipeΓ_get h with z | ⟨z, hn⟩
    · cases z
    · rw [wipe_out hn]
      exact s.val i P z
  own := fun i a P h => by
    rcases wipeΓ_get h with z | ⟨z, hn⟩
    · cases z
    · rw [wipe_out hn]
      exact s.own i a P z
  dis := fun i j a b P Q p hij hi hj hp => by
    rcases wipeΓ_get hi with z | ⟨z, hn⟩
    · cases z
    · rcases wipeΓ_get hj with y | ⟨y, hm⟩
      · cases y
      · rw [wipe_out hn] at hp
        rw [wipe_out hm]
        exact s.dis i j a b P Q p hij z y hp
/-- behind a pure evaluation within a block: what was goes on -/
theorem SA.blk {en : En} {Γ Γ3 : List Sl} {F2 F3 H2 H3 : Hp} {σ σ2 : L2.St} {vs : List Nat} (s : SA en Γ F2 σ H2) (s3 : SA ⟨F2, H2, Ows Γ σ⟩ Γ3 F3 σ2 H3) (e3 : Same F2 F3) (ch : Chg (L2.wipe σ vs) σ2 vs)
    (hk : ∀ j : Nat, j ∉ vs → Γ3[j]? = Γ[j]?) (hn : ∀ (j : Nat) a P, Γ[j]? = some (.own a P) → j ∉ vs) : SA en Γ F3 σ H3 where
  len := s.len
  sub := s3.sub
  grow := s.grow.trans e3
  old := fun p o e hp => s3.old p o (s.old p o e hp) fun ⟨i, a, P, hi, hs⟩ => by
    obtain ⟨q, x, h1, _, _, _, h5, _⟩ := s.own i a P hi
    rw [hs] at h1
    injection h1 with h1
    injection h1 with h1
    injection h1 with h1
    subst h1
    rcases h5 with z | z
    · rw [z] at e
      cases e
    · exact hp z
  there := fun p hp => s3.there p (s.there p hp)
  frz := fun p hp hf hps => (s.frz p hp hf hps).elim (fun q => s3.frz p (s.there p hp) q fun z => (s.ows z).elim (fun y => hp y) hps) fun ⟨vs, z⟩ => .inr ⟨vs, e3 p _ z⟩
  val := fun i P hi => by
    obtain ⟨v, h1, h2⟩ := s.val i P hi
    exact ⟨v, h1, P.m e3 h2⟩
  own := fun i a P hi => by
    obtain ⟨p, o, h1, h2, h3, h4, h5, h6⟩ := s.own i a P hi
    have hv := hn i a P hi
    obtain ⟨q, x, g1, g2, g3, g4, _, _⟩ := s3.own i a P (by rw [hk i hv]; exact hi)
    rw [ch.2 i hv, wipe_out hv, h1] at g1
    injection g1 with g1
    injection g1 with g1
    injection g1 with g1
    subst g1
    exact ⟨p, x, h1, g2, g3, g4, h5, h6⟩
  dis := s.dis
def noOwn (Γ : List Sl) (vs : List Nat) : Bool := vs.all fun j => match Γ[j]? with
  | some (.own _ _) => false
  | _ => true
theorem noOwn_of {Γ : List Sl} {vs : List Nat} (h : noOwn Γ vs = true) (j : Nat) (a : Option Addr) (P : ORp) (hj : Γ[j]? = some (.own a P)) : j ∉ vs := fun hm => by
  have q := List.all_eq_true.mp h j hm
  rw [hj] at q
  cases q
def mapR {α β : Type} (f : α → R β) : List α → R (List β)
  | [] => .ok []
  | x :: xs => (f x).calm.bind fun y => (mapR f xs).bind fun ys => .ok (y :: ys)
/-- with a test -/
def fmR {α β : Type} (c : α → R Bool) (f : α → R β) : List α → R (List β)
  | [] => .ok []
  | x :: xs => (c x).calm.bind fun b => if b = true then (f x).calm.bind fun y => (fmR c f xs).bind fun ys => .ok (y :: ys) else fmR c f xs
/-- no error leaves a comprehension -/
abbrev U0 : Wi := ⟨fun _ _ _ _ => False, []⟩
def wTs (X : Cx) (ifs : List Expr) : TT := fun σ H Q => ∀ pins s, Inv X pins σ H s →
    wpAny (model X.prog X.w) X.A (forIn ifs true fun c r => if r = true then do let ok ← isTrue c X.env (eval c X.env); pure (ForInStep.yield ok) else pure (ForInStep.yield r)) (TP X pins σ Q) X.xe s
theorem wTs_of {X : Cx} {ifs : List Expr} {t : TT} {σ : L2.St} {H : Hp} {Q : Bool → Hp → Prop} (h : PTs X ifs t) (q : t σ H Q) : wTs X ifs σ H Q := fun pins s I => h.run pins s σ H Q I q
structure TsG (X : Cx) (U : Wi) (Γ : List Sl) (ifs : List Expr) (m : R Bool) : Prop where
  out : ∀ en F σ H (Q : Bool → Hp → Prop), SA en Γ F σ H → wpR m (fun w => ∀ F' H', Same F F' → SA en Γ F' σ H' → Q w H') (U.ok X.mg en F) → wTs X ifs σ H Q
section
variable {X : Cx} {U : Wi} {Γ : List Sl} {tg iter elt : Expr} {ifs : List Expr} {scope : Scope} {own : List (Str × Nat)} {pos : Pos} {α β : Type} {ρ : Rp α} {π : Rp β}
theorem ts_nil : TsG X U Γ [] (.ok true) := ⟨fun en F σ H Q s h => wTs_of pts_nil (h F H (Same.refl F) s)⟩
theorem ts_one {c : Expr} {m : R Bool} (hc : BX X U Γ c m) : TsG X U Γ [c] m := ⟨fun en F σ H Q s h => wTs_of (pts_one wT_pt) (hc.out en F σ H Q s h)⟩
/-- the readings of a comprehension's block -/
def lG (X : Cx) (scope : Scope) (tg : Expr) : L2.TG := fun v σ H Q => ∀ s H0 C cl fp, wG (X.blk s H0 scope (compEnvC scope cl C X.env) fp) tg v σ H Q
def lT (X : Cx) (scope : Scope) (ifs : List Expr) : TT := fun σ H Q => ∀ s H0 C cl fp, wTs (X.blk s H0 scope (compEnvC scope cl C X.env) fp) ifs σ H Q
def lE (X : Cx) (scope : Scope) (elt : Expr) : TE := fun σ H Q => ∀ s H0 C cl fp, wE (X.blk s H0 scope (compEnvC scope cl C X.env) fp) elt σ H Q
theorem lc_red {m : R (List α)} {g : α → List Sl → List Sl} {c : α → R Bool} {f : α → R β} (hi : IX X U Γ tg iter ρ m)
    (hg : ∀ (s : Shared) (H : Hp) (C : Addr) (cl : List (Str × Addr)) (fp : List Addr), GT (X.blk s H scope (compEnvC scope cl C X.env) fp) tg ρ (own.map (·.2)) g)
    (ht : ∀ (s : Shared) (H : Hp) (C : Addr) (cl : List (Str × Addr)) (fp : List Addr) (x : α), TsG (X.blk s H scope (compEnvC scope cl C X.env) fp) U0 (g x (wipeΓ Γ (own.map (·.2)))) ifs (c x))
    (he : ∀ (s : Shared) (H : Hp) (C : Addr) (cl : List (Str × Addr)) (fp : List Addr) (x : α), EX (X.blk s H scope (compEnvC scope cl C X.env) fp) U0 (g x (wipeΓ Γ (own.map (·.2)))) elt π (f x))
    (hno : noOwn Γ (own.map (·.2)) = true := by rfl)
    {en : En} {F : Hp} {σ : L2.St} {H : Hp} {Q : VK} (s : SA en Γ F σ H)
    (h : wpR (m.bind fun xs => (fmR c f xs).bind fun ys => chk (ys.length ≤ sizeLine) ys) (fun ys => ∀ p o F' H', Same F F' → SA en Γ F' σ H' → Fresh en Γ F' σ H' p o → (oLi (tl π) ys).p F' o → Q (.ref p) H') (U.ok X.mg en F)) :
    tLc (wI X tg iter) (lG X scope tg) (lT X scope ifs) (lE X scope elt) (own.map (·.2)) σ H Q := by
  refine hi.out en F σ H _ s (wpR_mono (wpR_bind h) (fun xs k J F1 H1 e1 s1 wk => fun D hD => ?_) fun _ z => z)
  -- the list, turn by turn
  generalize hvs : own.map (·.2) = vs at *
  have l0 := s1.lay (o := .lst []) hD
  have k2 := wpR_bind k
  cases hall : fmR c f xs with
  | er z =>
    rw [hall] at k2
    exact absurd hall (by
      have : ∀ (xs : List α) (z : Er), fmR c f xs ≠ .er z := by
        intro xs
        induction xs with
        | nil => intro z q; cases q
        | cons x r ih =>
          intro z q
          unfold fmR at q
          cases hc : c x with
          | ok b =>
            rw [hc] at q
            cases b with
            | true =>
              cases hf : f x with
              | ok y =>
                rw [hf] at q
                cases hr : fmR c f r with
                | ok ys => rw [hr] at q; cases q
                | er w => exact ih w hr
                | bad => rw [hr] at q; cases q
              | er w => rw [hf] at q; cases q
              | bad => rw [hf] at q; cases q
            | false => exact ih z q
          | er w => rw [hc] at q; cases q
          | bad => rw [hc] at q; cases q
      exact this xs z)
  | bad =>
    rw [hall] at k2
    exact k2.elim
  | ok zs =>
    rw [hall] at k2
    obtain ⟨hz, k2⟩ := wpR_chk k2
    refine ⟨fun i m H => m = xs.length - i ∧ i ≤ xs.length ∧ ∃ (ys : List β) (ws : List V) (F' : Hp), Same F1 F' ∧ SA en Γ F' σ H ∧ Fresh en Γ F' σ H D (.lst ws) ∧ RepL π F' ys ws ∧ ((fmR c f (xs.drop i)).bind fun r => .ok (ys ++ r)) = .ok zs,
      ⟨_, rfl, Nat.zero_le _, [], [], F1, Same.refl F1, l0.1, l0.2, .nil, by rw [List.drop_zero, hall] <;> rfl⟩, ?_⟩
    rintro i m H ⟨rfl, hil, ys, ws, F', eF, sa, fr, rl, heq⟩
    by_cases hlt : i < xs.length
    · have hd : xs.drop i = xs[i] :: xs.drop (i + 1) := List.drop_eq_getElem_cons hlt
      have hx : xs[i]? = some xs[i] := List.getElem?_eq_getElem hlt
      obtain ⟨go, yl⟩ := wk.go F' H i _ eF sa.sub hx
      rw [hd] at heq
      unfold fmR at heq
      refine .inr ⟨go, fun H => i + 1 ≤ xs.length ∧ ∃ (ys : List β) (ws : List V) (F' : Hp), Same F1 F' ∧ SA en Γ F' σ H ∧ Fresh en Γ F' σ H D (.lst ws) ∧ RepL π F' ys ws ∧ ((fmR c f (xs.drop (i + 1))).bind fun r => .ok (ys ++ r)) = .ok zs, fun H' ⟨a1, a2⟩ => ⟨_, by omega, rfl, a1, a2⟩, fun v H' y => ?_⟩
      obtain ⟨F2, xx, rv⟩ := yl v H' y
      have sa2 := sa.ext xx
      have fr2 : Fresh en Γ F2 σ H' D (.lst ws) := ⟨no_tup xx.s (xx.n D (by rw [fr.h]; exact fun z => nomatch z) fr.f) (xx.h D _ fr.h) (fun _ z => nomatch z), fr.e, fr.n, xx.h D _ fr.h⟩
      -- the block's own entry
      let en2 : En := ⟨F2, H', Ows Γ σ⟩
      have sw : SA en2 (wipeΓ Γ vs) F2 (wipe σ vs) H' := (sa2.re).wipe
      intro s' H0 C cl fp
      refine (hg s' H0 C cl fp).out en2 _ F2 _ H' v _ _ sw rv fun σ2 s2 ch => ⟨?_, ?_⟩
      · have hw := ch.wipe
        have hi2 : wipe (wipe σ vs) vs = wipe σ vs := by
          apply List.ext_getElem?
          intro j
          by_cases hj : j ∈ vs
          · by_cases hl : j < σ.length
            · rw [wipe_in hj (by rw [wipe_length]; exact hl), wipe_in hj hl]
            · rw [List.getElem?_eq_none (by rw [wipe_length, wipe_length]; omega), List.getElem?_eq_none (by rw [wipe_length]; omega)]
          · rw [wipe_out hj]
        exact hw.trans hi2
      · -- behind a pure evaluation of the block
        have bk : ∀ {F3 H3 : Hp}, SA en2 (g xs[i] (wipeΓ Γ vs)) F3 σ2 H3 → Same F2 F3 → SA en Γ F3 σ H3 ∧ Fresh en Γ F3 σ H3 D (.lst ws) := fun {F3 H3} s3 e3 =>
          ⟨sa2.blk s3 e3 ch (fun j hj => by
            rw [(hg s' H0 C cl fp).keep _ _ j hj]
            exact wipeΓ_out hj) (noOwn_of hno),
          ⟨no_tup s3.sub (s3.frz D (by show H' D ≠ none; rw [fr2.h]; exact fun z => nomatch z) fr2.f (fun ⟨j, a, P, hj, hs⟩ => fr2.n j a P hj hs)) (s3.old D _ fr2.h fun ⟨j, a, P, hj, hs⟩ => fr2.n j a P hj hs) (fun _ z => nomatch z), fr2.e, fr2.n, s3.old D _ fr2.h fun ⟨j, a, P, hj, hs⟩ => fr2.n j a P hj hs⟩⟩
        have hq := heq
        intro s'' H0' C' cl' fp'
        cases hcv : c xs[i] with
        | er z => rw [hcv] at hq; cases hq
        | bad => rw [hcv] at hq; cases hq
        | ok b =>
          rw [hcv] at hq
          refine (ht s'' H0' C' cl' fp' xs[i]).out en2 F2 σ2 H' _ s2 ?_
          rw [hcv]
          intro F3 H3 e3 s3
          obtain ⟨sa3, fr3⟩ := bk s3 e3
          cases b with
          | false =>
            rw [if_neg Bool.false_ne_true]
            exact ⟨hlt, ys, ws, F3, eF.trans (xx.f.trans e3), sa3, fr3, (rl.mono (xx.f.trans e3)), hq⟩
          | true =>
            rw [if_pos rfl]
            have hq' : (((f xs[i]).calm.bind fun y => (fmR c f (xs.drop (i + 1))).bind fun ys => R.ok (y :: ys)).bind fun r => R.ok (ys ++ r)) = .ok zs := hq
            intro s4 H04 C4 cl4 fp4
            cases hfv : f xs[i] with
            | er z => rw [hfv] at hq'; cases hq'
            | bad => rw [hfv] at hq'; cases hq'
            | ok y =>
              rw [hfv] at hq'
              have hq2 : (((fmR c f (xs.drop (i + 1))).bind fun ys => R.ok (y :: ys)).bind fun r => R.ok (ys ++ r)) = .ok zs := hq'
              refine (he s4 H04 C4 cl4 fp4 xs[i]).out en2 F3 σ2 H3 _ s3 ?_
              rw [hfv]
              intro u F4 H4 e4 s4' ru
              obtain ⟨sa4, fr4⟩ := bk s4' (e3.trans e4)
              have hq3 : ((fmR c f (xs.drop (i + 1))).bind fun r => R.ok ((ys ++ [y]) ++ r)) = .ok zs := by
                cases hr : fmR c f (xs.drop (i + 1)) with
                | ok r =>
                  rw [hr] at hq2
                  have q3 : R.ok (ys ++ (y :: r)) = .ok zs := hq2
                  show R.ok ((ys ++ [y]) ++ r) = .ok zs
                  rw [List.append_assoc]
                  exact q3
                | er z => rw [hr] at hq2; cases hq2
                | bad => rw [hr] at hq2; cases hq2
              have hlen : ys.length < sizeLine := by
                cases hr : fmR c f (xs.drop (i + 1)) with
                | ok r =>
                  rw [hr] at hq3
                  have q3 : R.ok ((ys ++ [y]) ++ r) = .ok zs := hq3
                  injection q3 with q3
                  rw [← q3, List.length_append, List.length_append, List.length_cons] at hz
                  omega
                | er z => rw [hr] at hq3; cases hq3
                | bad => rw [hr] at hq3; cases hq3
              have ot := sa4.other (o' := .lst (ws ++ [u])) fr4
              have rl4 : RepL π F4 ys ws := rl.mono ((xx.f.trans e3).trans e4)
              exact ⟨ws, fr4.h, by rw [← rl4.length]; exact hlen, hlt, ys ++ [y], ws ++ [u], F4, eF.trans ((xx.f.trans e3).trans e4), ot.1, ot.2, rl4.append (.cons ru .nil), hq3⟩
    · have e : i = xs.length := by omega
      subst e
      rw [List.drop_length] at heq
      have heq' : R.ok (ys ++ []) = .ok zs := heq
      injection heq' with heq'
      rw [List.append_nil] at heq'
      subst heq'
      exact .inl ⟨wk.stop H _ (eF.trans sa.sub) (Nat.le_refl _), k2 D _ F' H (e1.trans eF) sa fr ⟨ws, rfl, rl⟩⟩
/-- [elt for tg in iter if ..] -/
theorem f_lcF {m : R (List α)} {g : α → List Sl → List Sl} {c : α → R Bool} {f : α → R β} (hN : X.N.Nodup) (hi : IX X U Γ tg iter ρ m) (ok : BlkOk X.N X.env.scope scope own)
    (hg : ∀ (s : Shared) (H : Hp) (C : Addr) (cl : List (Str × Addr)) (fp : List Addr), GT (X.blk s H scope (compEnvC scope cl C X.env) fp) tg ρ (own.map (·.2)) g)
    (ht : ∀ (s : Shared) (H : Hp) (C : Addr) (cl : List (Str × Addr)) (fp : List Addr) (x : α), TsG (X.blk s H scope (compEnvC scope cl C X.env) fp) U0 (g x (wipeΓ Γ (own.map (·.2)))) ifs (c x))
    (he : ∀ (s : Shared) (H : Hp) (C : Addr) (cl : List (Str × Addr)) (fp : List Addr) (x : α), EX (X.blk s H scope (compEnvC scope cl C X.env) fp) U0 (g x (wipeΓ Γ (own.map (·.2)))) elt π (f x))
    (hno : noOwn Γ (own.map (·.2)) = true := by rfl)
    (hc : X.calm = true := by rfl) (hs : ∀ x, foldedSetIterable iter X.env x = pure x := by intro _; rfl) :
    FX X U Γ (.ListComp elt [⟨tg, iter, ifs, 0⟩] scope pos) (fun ys => oLi (tl π) ys) (m.bind fun xs => (fmR c f xs).bind fun ys => chk (ys.length ≤ sizeLine) ys) :=
  ⟨fun en F σ H Q s h => wE_of (pe_lc (wi := wI X tg iter) (g := lG X scope tg) (tt := lT X scope ifs) (te := lE X scope elt) hc hN wI_pi ok
    (fun s H C cl fp => ⟨fun pins s' σ H' v u Q I r h => (h s H C cl fp) pins s' u I r⟩) (fun s H C cl fp => ⟨fun pins s' σ H' Q I h => (h s H C cl fp) pins s' I⟩) (fun s H C cl fp => ⟨fun pins s' σ H' Q I h => (h s H C cl fp) pins s' I⟩) hs) (lc_red hi hg ht he hno s h)⟩
/-- without a test -/
theorem fm_map {f : α → R β} : ∀ xs : List α, fmR (fun _ => .ok true) f xs = mapR f xs
  | [] => rfl
  | x :: xs => by
    unfold fmR mapR
    show (f x).calm.bind (fun y => (fmR (fun _ => R.ok true) f xs).bind fun ys => .ok (y :: ys)) = _
    rw [fm_map xs]
end
end Py

/-! Own layer, part D: defs, operations on data. -/
namespace Py
open PySem PySem.Spec PyProof.Rows L2

/-! ### a def -/
/-- the parameters' slots -/
structure Ar {τ : Type} (t : Tr τ) (n : Nat) (sl : τ → List Sl) : Prop where
  out : ∀ a F vs, t.rep a F vs → vs.length = n ∧ (sl a).length = n ∧ ∀ (i : Nat) x, (sl a)[i]? = some x → ∃ P v, x = .imm P ∧ vs[i]? = some v ∧ P.p F v
theorem ar0 : Ar t0 0 fun _ => [] := ⟨fun a F vs h => ⟨by rw [show vs = [] from h] <;> rfl, rfl, fun i x h => by simp at h⟩⟩
theorem ar1 {α : Type} {ρ : Rp α} : Ar (t1 ρ) 1 fun a => [im ρ a] := ⟨fun a F vs ⟨v, e, r⟩ => ⟨by rw [e] <;> rfl, rfl, fun i x h => by
  cases i with
  | zero =>
    have h' : im ρ a = x := Option.some.inj h
    exact ⟨_, v, h'.symm, by rw [e] <;> rfl, r⟩
  | succ i => simp at h⟩⟩
theorem arc {α τ : Type} {ρ : Rp α} {t : Tr τ} {n : Nat} {sl : τ → List Sl} (h : Ar t n sl) : Ar (tc ρ t) (n + 1) fun a => im ρ a.1 :: sl a.2 := ⟨fun a F vs ⟨v, ws, e, r, q⟩ => by
  obtain ⟨h1, h2, h3⟩ := h.out a.2 F ws q
  refine ⟨by rw [e, List.length_cons, h1], by rw [List.length_cons, h2], fun i x hx => ?_⟩
  cases i with
  | zero =>
    have h' : im ρ a.1 = x := Option.some.inj hx
    exact ⟨_, v, h'.symm, by rw [e] <;> rfl, r⟩
  | succ i =>
    obtain ⟨P, u, g1, g2, g3⟩ := h3 i x (by simpa using hx)
    exact ⟨P, u, g1, by rw [e]; simpa using g2, g3⟩⟩
section
variable {P : Program} {w : World} {K : PySem.W.Frag} {mg : Str → Option Value} {base : Heap}
/-- where a def's body stands -/
abbrev CxF (P : Program) (w : World) (K : PySem.W.Frag) (mg : Str → Option Value) (base : Heap) (N : List Str) (qual : Str) (st : Stmt) (f : Addr) (cdv : Value) (A : Around) (outer : List Env) (s : Shared) (H : Hp) (E : XK) : Cx :=
  cxOf (L2.CX P w) P w K mg base N qual (defScope st) f cdv A outer s H E
abbrev UF (E : XK) : Wi := ⟨fun cls d _ H => E cls d H, []⟩
/-- a def as it stands behind the top, with defaults or without -/
structure FunZ (K : PySem.W.Frag) (x qual : Str) (st : Stmt) (f : Addr) (fd : FuncData) : Prop where
  ex : ∃ (oc : Value) (od : Option Addr) (dV kV doc pm : Value) (an : Option Addr) (cdv ct : Value) (osl : Array (Option Value)),
    fd = PySem.W.fnOf x qual (defArgs st) (defBody st) (defScope st) dV kV doc pm an cdv ct ∧ K.lookup f = some ⟨oc, od, .func fd, osl⟩ ∧ PySem.W.codeIn K cdv qual = true
  kp : PySem.W.keepIn K (.ref f) = true
theorem funz_mk {K : PySem.W.Frag} {x qual : Str} {st : Stmt} {f : Addr} {oc : Value} {od an : Option Addr} {osl : Array (Option Value)} {dV kV doc pm cdv ct : Value} (l : K.lookup f = some ⟨oc, od, .func (PySem.W.fnOf x qual (defArgs st) (defBody st) (defScope st) dV kV doc pm an cdv ct), osl⟩)
    (c : PySem.W.codeIn K cdv qual = true) (k : PySem.W.keepIn K (.ref f) = true) : FunZ K x qual st f (PySem.W.fnOf x qual (defArgs st) (defBody st) (defScope st) dV kV doc pm an cdv ct) := ⟨⟨oc, od, dV, kV, doc, pm, an, cdv, ct, osl, rfl, l, c⟩, k⟩
theorem FunZ.okX {P : Program} {w : World} {K : PySem.W.Frag} {mg : Str → Option Value} {base : Heap} {x qual : Str} {st : Stmt} {f : Addr} {fd : FuncData} {N ps : List Str} {k : Nat} {sp : Sp} (F : FunZ K x qual st f fd) (S : FnScope N ps (defScope st)) (len : ∀ vs H Q E, sp vs H Q E → vs.length = ps.length)
    (hbody : ∀ (cdv : Value) (A : Around) (outer : List Env) (s : Shared) (H : Hp) (vs : List V) (Q : VK) (E : XK), Room k (A.deeper (envOfC qual (defScope st) s.heap.objs.size f cdv)) → sp vs H Q E →
      ∃ t, PSs (cxOf (L2.CX P w) P w K mg base N qual (defScope st) f cdv A outer s H E) (defBody st) t ∧ t { nx := fun _ H' => Q .non H', rt := Q } (start N vs) H) : FnOk P w K mg base (L2.CX P w) (k + 1) f fd ps sp := by
  obtain ⟨oc, od, dV, kV, doc, pm, an, cdv, ct, osl, rfl, lk, hcd⟩ := F.ex
  exact fn_of lk hcd S len fun A outer s H vs Q E hr hsp => hbody cdv A outer s H vs Q E hr hsp
theorem f_ok {x qual : Str} {st : Stmt} {f : Addr} {fd : FuncData} {N ps : List Str} {k n : Nat} {τ γ : Type} {t : Tr τ} {ρ : Rp γ} {fm : τ → R γ} {sl : τ → List Sl} (Γ0 : τ → List Sl) (Fn : FunZ K x qual st f fd) (S : FnScope N ps (defScope st)) (ar : Ar t n sl) (hn : n = ps.length) (hN : n ≤ N.length)
    (hΓ : ∀ a, Γ0 a = sl a ++ List.replicate (N.length - n) .any)
    (body : ∀ cdv A outer s H E (hr : Room k (A.deeper (envOfC qual (defScope st) s.heap.objs.size f cdv))) (tk : Takes (CxF P w K mg base N qual st f cdv A outer s H E) (UF E).W) (hp : PassesOwn (model P w) (A.deeper (envOfC qual (defScope st) s.heap.objs.size f cdv)) (envOfC qual (defScope st) s.heap.objs.size f cdv) (CxF P w K mg base N qual st f cdv A outer s H E).xe) (a : τ),
      SX (CxF P w K mg base N qual st f cdv A outer s H E) (UF E) (Γ0 a) (defBody st) (fun z : γ => .fn ⟨fun H v => ρ.rep z H v, fun e h => ρ.mono e h⟩ []) (fm a)) :
    FnOk P w K mg base (L2.CX P w) (k + 1) f fd ps (SpP mg t ρ fm) := by
  refine Fn.okX S (fun vs H Q E ⟨F, a, _, r, _⟩ => ?_) (fun cdv A outer s H vs Q E hr ⟨F, a, sF, r, hw⟩ => ?_)
  · rw [← hn]
    exact (ar.out a F vs r).1
  · obtain ⟨h1, h2, h3⟩ := ar.out a F vs r
    refine ⟨_, wSs_pss, ?_⟩
    have hst : ∀ (i : Nat) v, vs[i]? = some v → (L2.start N vs)[i]? = some (some v) := fun i v e => by
      unfold L2.start
      have hl : i < vs.length := (List.getElem?_eq_some_iff.mp e).1
      rw [List.getElem?_append_left (by rw [List.length_map]; exact hl), List.getElem?_map, e] <;> rfl
    have im0 : ∀ (i : Nat) x, (Γ0 a)[i]? = some x → x = .any ∨ ∃ P v, x = .imm P ∧ vs[i]? = some v ∧ P.p F v := fun i x hx => by
      rw [hΓ] at hx
      by_cases hl : i < (sl a).length
      · rw [List.getElem?_append_left hl] at hx
        exact .inr (h3 i x hx)
      · rw [List.getElem?_append_right (by omega), List.getElem?_replicate] at hx
        split at hx
        · exact .inl (Option.some.inj hx).symm
        · cases hx
    have sa : SA ⟨F, H, fun _ => False⟩ (Γ0 a) F (L2.start N vs) H := by
      refine ⟨?_, sF, Same.refl F, fun _ _ h _ => h, fun _ h => h, fun _ _ h _ => .inl h, fun i Q hi => ?_, fun i b Q hi => ?_, fun i j b c Q Q' p _ hi => ?_⟩
      · rw [hΓ, List.length_append, List.length_replicate, h2]
        unfold L2.start
        rw [List.length_append, List.length_map, List.length_replicate, h1]
        exact Nat.le_refl _
      · rcases im0 i _ hi with z | ⟨Q', v, z, hv, hq⟩
        · cases z
        · injection z with z
          subst z
          exact ⟨v, hst i v hv, hq⟩
      · rcases im0 i _ hi with z | ⟨Q', v, z, hv, hq⟩
        · cases z
        · cases z
      · rcases im0 i _ hi with z | ⟨Q', v, z, hv, hq⟩
        · cases z
        · cases z
    have fin : ∀ {F' : Hp} {σ' : L2.St} {H' : Hp}, Same F F' → SA ⟨F, H, fun _ => False⟩ [] F' σ' H' → Ext F H F' H' := fun {F' σ' H'} e s' => ⟨e, fun p o h => s'.old p o h (fun z => z), s'.sub, fun p h hf => s'.frz p h hf fun z => z⟩
    refine (body cdv A outer s H E hr (takes_of rfl rfl rfl rfl) (passes_of rfl) a).out ⟨F, H, fun _ => False⟩ F _ H _ sa (wpR_mono hw (fun z k => ⟨fun v F' σ' H' e s' rv => k v F' H' (fin e s') rv, fun F' σ' H' e s' rv => k .non F' H' (fin e s') rv⟩) fun r z cls d F' σ' H' e s' o => z cls d F' H' (fin e s') o)
end

/-! ### ints -/
theorem dI0 {f : Int → Int → Int} : D2 (rI0 fun i j => .int (f i j)) rI rI rI fun x y => .ok (f x y) := fun x y v w F H Q e rv rw h => ⟨x, y, rv, rw, h _ F H (Ext.refl e) rfl⟩
theorem dIb {f : Int → Int → Bool} : D2 (rI0 fun i j => .bl (f i j)) rI rI rB fun x y => .ok (f x y) := fun x y v w F H Q e rv rw h => ⟨x, y, rv, rw, h _ F H (Ext.refl e) rfl⟩
theorem dIc {C : Int → Int → Prop} [∀ i j, Decidable (C i j)] {f : Int → Int → Int} : D2 (L2.rI C fun i j => .int (f i j)) Py.rI Py.rI Py.rI fun x y => chk (C x y) (f x y) := fun x y v w F H Q e rv rw h => by
  obtain ⟨hc, k⟩ := wpR_chk h
  exact ⟨x, y, rv, rw, hc, k _ F H (Ext.refl e) rfl⟩
instance (i j : Int) : Decidable (CMulW i j) := inferInstanceAs (Decidable (_ < _))
instance (i j : Int) : Decidable (CDivW i j) := inferInstanceAs (Decidable (_ ∧ _))
instance (i j : Int) : Decidable (CPow i j) := inferInstanceAs (Decidable (_ ∧ _ ∧ _))
section
variable {X : Cx} {U : Wi} {Γ : List Sl} {a b e : Expr} {es : List Expr} {pos : Pos} {m1 m2 : R Int}
theorem x_add (ha : EX X U Γ a rI m1) (hb : EX X U Γ b rI m2) : EX X U Γ (.BinOp a .Add b pos) rI (m1.bind fun x => m2.bind fun y => .ok (x + y)) := x_bin op_add dI0 ha hb
theorem x_sub (ha : EX X U Γ a rI m1) (hb : EX X U Γ b rI m2) : EX X U Γ (.BinOp a .Sub b pos) rI (m1.bind fun x => m2.bind fun y => .ok (x - y)) := x_bin op_sub dI0 ha hb
theorem chk_calm {c : Prop} [Decidable c] {α : Type} {a : α} : ((chk c a).calm.bind fun z => .ok z) = chk c a := by
  unfold chk
  by_cases h : c
  · rw [if_pos h] <;> rfl
  · rw [if_neg h] <;> rfl
theorem opt_calm {α : Type} {o : Option α} : ((ofOpt o).calm.bind fun z => .ok z) = ofOpt o := by cases o <;> rfl
theorem x_mul (ha : EX X U Γ a rI m1) (hb : EX X U Γ b rI m2) : EX X U Γ (.BinOp a .Mult b pos) rI (m1.bind fun x => m2.bind fun y => chk (CMulW x y) (x * y)) := by
  have h := x_bin (pos := pos) op_mulW (dIc (C := CMulW) (f := fun i j => i * j)) ha hb
  simp only [chk_calm] at h
  exact h
theorem x_fdiv (ha : EX X U Γ a rI m1) (hb : EX X U Γ b rI m2) : EX X U Γ (.BinOp a .FloorDiv b pos) rI (m1.bind fun x => m2.bind fun y => chk (CDivW x y) (x / y)) := by
  have h := x_bin (pos := pos) op_fdivW (dIc (C := CDivW) (f := fun i j => i / j)) ha hb
  simp only [chk_calm] at h
  exact h
theorem x_mod (ha : EX X U Γ a rI m1) (hb : EX X U Γ b rI m2) : EX X U Γ (.BinOp a .Mod b pos) rI (m1.bind fun x => m2.bind fun y => chk (0 < y) (x % y)) := by
  have h := x_bin (pos := pos) op_mod (dIc (C := fun _ j => 0 < j) (f := fun i j => i % j)) ha hb
  simp only [chk_calm] at h
  exact h
/-- by written numbers -/
theorem x_mulC {i : Int} {j} {p : Pos} (ha : EX X U Γ a rI m1) (hi : -(2 ^ 64) < i ∧ i < 2 ^ 64 := by decide) : EX X U Γ (.BinOp a .Mult (.Constant (.int i) j p) pos) rI (m1.bind fun x => .ok (x * i)) :=
  ⟨fun en F σ H Q s h => wE_of (pe_op op_mul wE_pe pe_int) (ha.out en F σ H _ s (wpR_mono (wpR_bind h) (fun x k v F1 H1 e1 s1 r1 => ⟨x, i, r1, rfl, .inr hi, k _ F1 H1 e1 s1 rfl⟩) fun _ z => z))⟩
theorem x_mulCl {i : Int} {j} {p : Pos} (ha : EX X U Γ a rI m1) (hi : -(2 ^ 64) < i ∧ i < 2 ^ 64 := by decide) : EX X U Γ (.BinOp (.Constant (.int i) j p) .Mult a pos) rI (m1.bind fun x => .ok (i * x)) :=
  ⟨fun en F σ H Q s h => wE_of (pe_op op_mul pe_int wE_pe) (ha.out en F σ H _ s (wpR_mono (wpR_bind h) (fun x k v F1 H1 e1 s1 r1 => ⟨i, x, rfl, r1, .inl hi, k _ F1 H1 e1 s1 rfl⟩) fun _ z => z))⟩
theorem x_modC {i : Int} {j} {p : Pos} (ha : EX X U Γ a rI m1) (hi : 0 < i := by decide) : EX X U Γ (.BinOp a .Mod (.Constant (.int i) j p) pos) rI (m1.bind fun x => .ok (x % i)) :=
  ⟨fun en F σ H Q s h => wE_of (pe_op op_mod wE_pe pe_int) (ha.out en F σ H _ s (wpR_mono (wpR_bind h) (fun x k v F1 H1 e1 s1 r1 => ⟨x, i, r1, rfl, hi, k _ F1 H1 e1 s1 rfl⟩) fun _ z => z))⟩
theorem x_fdivC {i : Int} {j} {p : Pos} (ha : EX X U Γ a rI m1) (hi : CDivW 0 i := by decide) : EX X U Γ (.BinOp a .FloorDiv (.Constant (.int i) j p) pos) rI (m1.bind fun x => .ok (x / i)) :=
  ⟨fun en F σ H Q s h => wE_of (pe_op op_fdivW wE_pe pe_int) (ha.out en F σ H _ s (wpR_mono (wpR_bind h) (fun x k v F1 H1 e1 s1 r1 => ⟨x, i, r1, rfl, hi, k _ F1 H1 e1 s1 rfl⟩) fun _ z => z))⟩
theorem x_powC {i j : Int} {k1 k2} {p1 p2 : Pos} (v : Int) (hi : CPow i j := by decide) (hv : i ^ j.toNat = v := by decide) : EX X U Γ (.BinOp (.Constant (.int i) k1 p1) .Pow (.Constant (.int j) k2 p2) pos) rI (.ok v) :=
  ⟨fun en F σ H Q s h => wE_of (pe_op op_pow pe_int pe_int) ⟨i, j, rfl, rfl, hi, by show Q (V.int (i ^ j.toNat)) H; rw [hv]; exact h _ F H (Same.refl F) s rfl⟩⟩
theorem x_neg (ha : EX X U Γ a rI m1) : EX X U Γ (.UnaryOp .USub a pos) rI (m1.bind fun x => .ok (-x)) := x_un un_neg (fun x v F H Q e rv h => ⟨x, rv, h _ F H (Ext.refl e) rfl⟩ : D1 (rU fun i => .int (-i)) rI rI fun x => .ok (-x)) ha
theorem dEqI : D2 rEq rI rI rB fun x y => .ok (decide (x = y)) := fun x y v w F H Q e rv rw h => by
  subst rv rw
  refine ⟨rfl, ?_⟩
  rw [dec_int, Bool.beq_eq_decide_eq]
  exact h _ F H (Ext.refl e) rfl
theorem dNeB : D2 rNe rB rB rB fun x y => .ok (!decide (x = y)) := fun x y v w F H Q e rv rw h => by
  subst rv rw
  refine ⟨rfl, ?_⟩
  rw [dec_bl, Bool.beq_eq_decide_eq]
  exact h _ F H (Ext.refl e) rfl
end

/-! ### data at any depth: equality -/
structure Dt {α : Type} [DecidableEq α] (ρ : Rp α) where
  dat : α → PyData
  dep : Nat
  dp : ∀ K H a v, ρ.rep a H v → Dp K H v (dat a)
  lay : ∀ a, (dat a).canLay0 = true
  dle : ∀ a, (dat a).depth ≤ dep
  eqv : ∀ a b, PyData.eqv (dat a) (dat b) = decide (a = b)
structure Dts {τ : Type} [DecidableEq τ] (t : Tr τ) where
  dat : τ → List PyData
  dep : Nat
  dp : ∀ K H a vs, t.rep a H vs → DpAll K H vs (dat a)
  lay : ∀ a, PyData.canLayAll0 (dat a) = true
  dle : ∀ a, PyData.depthAll (dat a) ≤ dep
  eqv : ∀ a b, PyData.eqvAll (dat a) (dat b) = decide (a = b)
def kI : Dt rI := ⟨fun i => .int i, 0, fun K H a v r => by rw [show v = V.int a from r]; exact .int a, fun _ => by simp [PyData.canLay0], fun _ => by simp [PyData.depth], fun a b => by simp [PyData.eqv, Bool.beq_eq_decide_eq]⟩
def k1 {α : Type} [DecidableEq α] {ρ : Rp α} (d : Dt ρ) : Dts (t1 ρ) where
  dat := fun a => [d.dat a]
  dep := d.dep
  dp := fun K H a vs ⟨v, e, r⟩ => by
    rw [e]
    exact .cons (d.dp K H a v r) .nil
  lay := fun a => by simp [PyData.canLayAll0, d.lay]
  dle := fun a => by
    have := d.dle a
    simp [PyData.depthAll]
    exact this
  eqv := fun a b => by simp [PyData.eqvAll, d.eqv]
def kc {α τ : Type} [DecidableEq α] [DecidableEq τ] {ρ : Rp α} {t : Tr τ} (d : Dt ρ) (ds : Dts t) : Dts (tc ρ t) where
  dat := fun a => d.dat a.1 :: ds.dat a.2
  dep := max d.dep ds.dep
  dp := fun K H a vs ⟨v, ws, e, r, q⟩ => by
    rw [e]
    exact .cons (d.dp K H a.1 v r) (ds.dp K H a.2 ws q)
  lay := fun a => by simp [PyData.canLayAll0, d.lay, ds.lay]
  dle := fun a => by
    have h1 := d.dle a.1
    have h2 := ds.dle a.2
    simp only [PyData.depthAll]
    omega
  eqv := fun a b => by
    obtain ⟨a1, a2⟩ := a
    obtain ⟨b1, b2⟩ := b
    simp only [PyData.eqvAll, d.eqv, ds.eqv, Prod.mk.injEq]
    rw [Bool.eq_iff_iff]
    simp
def kl {α : Type} [DecidableEq α] {ρ : Rp α} (d : Dt ρ) : Dts (tl ρ) where
  dat := fun as => as.map d.dat
  dep := d.dep
  dp := fun K H as vs r => by
    have r' : RepL ρ H as vs := r
    induction r' with
    | nil => exact .nil
    | cons h t ih => exact .cons (d.dp K H _ _ h) (ih t)
  lay := fun as => by
    induction as with
    | nil => simp [PyData.canLayAll0]
    | cons a r ih => simp [PyData.canLayAll0, d.lay, ih]
  dle := fun as => by
    induction as with
    | nil => simp [PyData.depthAll]
    | cons a r ih =>
      have h1 := d.dle a
      simp only [List.map_cons, PyData.depthAll]
      omega
  eqv := fun as => by
    induction as with
    | nil =>
      intro bs
      cases bs <;> simp [PyData.eqvAll]
    | cons a r ih =>
      intro bs
      cases bs with
      | nil => simp [PyData.eqvAll]
      | cons b s =>
        simp only [List.map_cons, PyData.eqvAll, d.eqv, ih, List.cons.injEq]
        rw [Bool.eq_iff_iff]
        simp
def kTu {τ : Type} [DecidableEq τ] {t : Tr τ} (d : Dts t) : Dt (rTu t) where
  dat := fun a => .tuple (d.dat a)
  dep := d.dep + 1
  dp := fun K H a v ⟨p, vs, e, h, r⟩ => by
    rw [e]
    exact .tup (.inl (.inl h)) (d.dp K H a vs r)
  lay := fun a => by simp [PyData.canLay0, d.lay]
  dle := fun a => by
    have := d.dle a
    simp only [PyData.depth]
    omega
  eqv := fun a b => by simp [PyData.eqv, d.eqv]
abbrev kP {α β : Type} [DecidableEq α] [DecidableEq β] {ρ : Rp α} {π : Rp β} (d : Dt ρ) (e : Dt π) : Dt (rP ρ π) := kTu (kc d (k1 e))
abbrev kC : Dt rC := kP kI kI
theorem Dt.shp {α : Type} [DecidableEq α] {ρ : Rp α} (d : Dt ρ) (h : d.dep ≤ 64) (a : α) : SeqAt.shaped (d.dat a) = true := by
  unfold SeqAt.shaped
  rw [Bool.and_eq_true, decide_eq_true_eq]
  exact ⟨d.lay a, Nat.le_trans (d.dle a) h⟩
theorem any_dat {α : Type} [DecidableEq α] {ρ : Rp α} (d : Dt ρ) (x : α) : ∀ xs : List α, ((xs.map d.dat).any fun z => PyData.eqv z (d.dat x)) = decide (x ∈ xs)
  | [] => by simp
  | y :: r => by
    rw [List.map_cons, List.any_cons, any_dat d x r, d.eqv]
    by_cases h : y = x
    · subst h
      simp
    · have h' : ¬ x = y := fun z => h z.symm
      simp [h, h']
theorem kl_lay {α : Type} [DecidableEq α] {ρ : Rp α} (d : Dt ρ) (xs : List α) : PyData.canLayAll0 (xs.map d.dat) = true := (kl d).lay xs
/-- x in t, t a tuple -/
def rInU (K : PySem.W.Frag) (neg : Bool) : R2 := fun x y H Q => ∃ d ds, Dp K H x d ∧ Dp K H y (.tuple ds) ∧ SeqAt.shaped d = true ∧ PyData.canLayAll0 ds = true ∧ Q (.bl (if neg = true then !(ds.any fun z => PyData.eqv z d) else ds.any fun z => PyData.eqv z d)) H
theorem op_ninU {X : Cx} (hu : X.A.units + 65 < cLine) : OpR X (compareOp .NotIn) (rInU X.K true) := by
  intro pins s σ H x y v u Q I rx ry ⟨d, ds, hd, he, sd, se, q⟩
  obtain ⟨as, r1⟩ := Dp.reads I d x v hd rx
  obtain ⟨bs, r2⟩ := Dp.reads I (.tuple ds) y u he ry
  exact SeqAt.notIn_tuple_reads r2 r1 se (SeqAt.canLay_of_shaped sd) (room_in_shaped sd hu) ⟨.bl _, H, I, rfl, q⟩
/-- x in xs, answered -/
def hasB {α : Type} [DecidableEq α] (x : α) (xs : List α) : Bool := decide (x ∈ xs)
theorem hasB_iff {α : Type} [DecidableEq α] {x : α} {xs : List α} : hasB x xs = true ↔ x ∈ xs := decide_eq_true_iff
theorem dNinU {K : PySem.W.Frag} {α : Type} [DecidableEq α] {ρ : Rp α} (d : Dt ρ) (h : d.dep ≤ 64 := by decide) : D2 (rInU K true) ρ (rT ρ) rB fun x xs => .ok (!hasB x xs) := fun x xs v w F H Q e rv rw q => by
  obtain ⟨p, vs, ew, hp, r⟩ := (rT ρ).mono e rw
  refine ⟨_, xs.map d.dat, d.dp K H x v (ρ.mono e rv), by rw [ew]; exact .tup (.inl (.inl hp)) ((kl d).dp K H xs vs r), d.shp h x, kl_lay d xs, ?_⟩
  rw [any_dat]
  exact q _ F H (Ext.refl e) rfl
/-! ### items -/
/-- the j-th of a row of unlike types -/
structure Pj {τ β : Type} (t : Tr τ) (j : Nat) (ρ : Rp β) (f : τ → β) : Prop where
  out : ∀ a F vs, t.rep a F vs → ∃ v, vs[j]? = some v ∧ ρ.rep (f a) F v
theorem pj1 {α : Type} {ρ : Rp α} : Pj (t1 ρ) 0 ρ fun a => a := ⟨fun a F vs ⟨v, e, r⟩ => ⟨v, by rw [e] <;> rfl, r⟩⟩
theorem pj0 {α τ : Type} {ρ : Rp α} {t : Tr τ} : Pj (tc ρ t) 0 ρ fun a => a.1 := ⟨fun a F vs ⟨v, ws, e, r, _⟩ => ⟨v, by rw [e] <;> rfl, r⟩⟩
theorem pjs {α β τ : Type} {ρ : Rp α} {π : Rp β} {t : Tr τ} {j : Nat} {f : τ → β} (h : Pj t j π f) : Pj (tc ρ t) (j + 1) π fun a => f a.2 := ⟨fun a F vs ⟨v, ws, e, r, q⟩ => by
  obtain ⟨u, h1, h2⟩ := h.out a.2 F ws q
  exact ⟨u, by rw [e]; simpa using h1, h2⟩⟩
section
variable {X : Cx} {U : Wi} {Γ : List Sl} {a b e : Expr} {es : List Expr} {pos : Pos} {α β γ τ ω : Type} {ρ : Rp α}
theorem g_pj {t : Tr τ} {π : Rp β} {f : τ → β} {m : R ω} {val : ω → τ} {Γ' : ω → List Sl} {j : Nat} {p2 : Pos} {jj} (hj : Pj t j π f) (ha : EG X U Γ a (rTu t) m val Γ') : EG X U Γ (.Subscript a (.Constant (.int (j : Nat)) jj p2) pos) π m (fun w => f (val w)) Γ' :=
  ⟨fun en F σ H Q s h => wE_of (pe_ix (hs := fun _ _ => rfl) ix_tup wE_pe pe_int) (ha.out en F σ H _ s (wpR_mono h (fun w k v F1 H1 e1 s1 ⟨p, vs, ev, hp, r⟩ => by
    obtain ⟨u, h1, h2⟩ := hj.out _ F1 vs r
    exact ⟨p, vs, (j : Nat), u, ev, rfl, .inl (.inl (s1.sub p _ hp)), atI_nat h1, k u F1 H1 e1 s1 h2⟩) fun _ z => z))⟩
/-- t[0], t[1] .. -/
theorem x_pj {t : Tr τ} {π : Rp β} {f : τ → β} {m : R τ} {p2 : Pos} {jj} (j : Nat) (hj : Pj t j π f) (ha : EX X U Γ a (rTu t) m) : EX X U Γ (.Subscript a (.Constant (.int (j : Nat)) jj p2) pos) π (m.bind fun x => .ok (f x)) :=
  ⟨fun en F σ H Q s h => (g_pj (pos := pos) (p2 := p2) (jj := jj) hj ha).out en F σ H Q s (wpR_mono (wpR_bind h) (fun w k => k) fun _ z => z)⟩
theorem atI_rep {F : Hp} {xs : List α} {vs : List V} {i : Int} {x : α} (r : RepL ρ F xs vs) (h : atI xs i = some x) : ∃ v, atI vs i = some v ∧ ρ.rep x F v := by
  unfold atI at h ⊢
  rw [← r.length]
  cases hi : ixN xs.length i with
  | none => rw [hi] at h; cases h
  | some j =>
    rw [hi] at h
    exact r.got h
theorem dIxT {K : PySem.W.Frag} : D2 (rIxT K) (rT ρ) rI ρ fun xs i => ofOpt (atI xs i) := fun xs i v w F H Q e ⟨p, vs, ev, hp, r⟩ rw h => by
  obtain ⟨x, hx, k⟩ := wpR_opt h
  obtain ⟨u, hu, ru⟩ := atI_rep r hx
  exact ⟨p, vs, i, u, ev, rw, .inl (.inl (e p _ hp)), hu, k u F H (Ext.refl e) ru⟩
theorem dIxL {K : PySem.W.Frag} : D2 (rIxL K) (rL ρ) rI ρ fun xs i => ofOpt (atI xs i) := fun xs i v w F H Q e ⟨p, vs, ev, hp, r⟩ rw h => by
  obtain ⟨x, hx, k⟩ := wpR_opt h
  obtain ⟨u, hu, ru⟩ := atI_rep r hx
  exact ⟨p, vs, i, u, ev, rw, .inl (.inl (e p _ hp)), hu, k u F H (Ext.refl e) ru⟩
theorem x_ixT {m1 : R (List α)} {m2 : R Int} (ha : EX X U Γ a (rT ρ) m1) (hb : EX X U Γ b rI m2) (hs : PlainIx b := by exact fun _ _ => rfl) : EX X U Γ (.Subscript a b pos) ρ (m1.bind fun x => m2.bind fun y => ofOpt (atI x y)) := by
  have h := x_ix (pos := pos) ix_tup dIxT ha hb hs
  simp only [opt_calm] at h
  exact h
theorem x_ixL {m1 : R (List α)} {m2 : R Int} (ha : EX X U Γ a (rL ρ) m1) (hb : EX X U Γ b rI m2) (hs : PlainIx b := by exact fun _ _ => rfl) : EX X U Γ (.Subscript a b pos) ρ (m1.bind fun x => m2.bind fun y => ofOpt (atI x y)) := by
  have h := x_ix (pos := pos) ix_list dIxL ha hb hs
  simp only [opt_calm] at h
  exact h
/-! ### built-ins -/
def rLen (K : PySem.W.Frag) : List V → Hp → VK → Prop := fun xs H Q => ∃ x n, xs = [x] ∧ LenV K x H n ∧ Q (.int n) H
theorem dLenT {K : PySem.W.Frag} : DC (rLen K) (t1 (rT ρ)) rI fun xs => .ok (xs.length : Nat) := fun xs vs F H Q e ⟨v, ev, p, ws, e2, hp, r⟩ h =>
  ⟨v, xs.length, ev, by rw [e2]; exact .inr ⟨ws, .inl (.inl (e p _ hp)), r.length⟩, h _ F H (Ext.refl e) rfl⟩
theorem x_len {t : Tr τ} {mr : τ → R Int} {m : R τ} {p : Pos} (hd : DC (rLen X.K) t rI mr) (hm : X.mg "len" = none) (ha : AX X U Γ (a :: es) t m) (hg : Gl X "len" := by rfl)
    (he : starEach (a :: es) X.env = (false, eval a X.env) :: starEach es X.env := by rfl) (hpl : (backTo pos (starEach es X.env)).any (·.1) = false := by rfl) :
    EX X U Γ (.Call (.Name "len" p) (a :: es) [] pos) rI (m.bind fun x => (mr x).calm.bind fun z => .ok z) := x_callB call_len hd hm boot_len ha hg (by decide) (by decide) he hpl
theorem bl_rep : ∀ {bs : List Bool} {F : Hp} {vs : List V}, RepL rB F bs vs → vs = bs.map V.bl
  | _, _, _, .nil => rfl
  | _, _, _, .cons r t => by rw [bl_rep t, show _ = V.bl _ from r, List.map_cons]
theorem dAll {K : PySem.W.Frag} : DC (rAll K) (t1 (rL rB)) rB fun bs => .ok (bs.all id) := fun bs vs F H Q e ⟨v, ev, p, ws, e2, hp, r⟩ h =>
  ⟨p, bs, by rw [ev, e2], by rw [← bl_rep r]; exact .inl (.inl (e p _ hp)), h _ F H (Ext.refl e) rfl⟩
def CDv (j : Int) : Prop := 0 < j ∧ j.natAbs.log2 < 8900
instance (j : Int) : Decidable (CDv j) := inferInstanceAs (Decidable (_ ∧ _))
theorem rep_int (F : Hp) : ∀ ns : List Int, RepL rI F ns (ns.map V.int)
  | [] => .nil
  | n :: r => .cons rfl (rep_int F r)
def rTup1 (K : PySem.W.Frag) : List V → Hp → VK → Prop := fun xs H Q => ∃ p ys, xs = [.ref p] ∧ ((SqL K H p ys ∧ ∀ l, H l = none → Q (.ref l) (upd H l (.tup ys))) ∨ (SqT K H p ys ∧ Q (.ref p) H))
theorem dTupL {K : PySem.W.Frag} : DC (rTup1 K) (t1 (rL ρ)) (rT ρ) fun xs => .ok xs := fun xs vs F H Q e ⟨v, ev, p, ws, e2, hp, r⟩ h =>
  ⟨p, ws, by rw [ev, e2], .inl ⟨.inl (.inl (e p _ hp)), fun l hl => by
    have x := Ext.new (o := .tup ws) e hl
    exact h _ _ _ x ⟨l, ws, rfl, upd_same, r.mono x.f⟩⟩⟩
/-- t + u -/
theorem dCatT {K : PySem.W.Frag} : D2 (rCatA K) (rT ρ) (rT ρ) (rT ρ) fun xs ys => chk (xs.length + ys.length ≤ sizeLine) (xs ++ ys) := fun xs ys v w F H Q e ⟨p, vs, ev, hp, r⟩ ⟨q, ws, ew, hq, r2⟩ h => by
  obtain ⟨hl, k⟩ := wpR_chk h
  refine ⟨p, q, vs, ws, ev, ew, .inl (.inl (e p _ hp)), .inl (.inl (e q _ hq)), by rw [← r.length, ← r2.length]; exact hl, fun z => ?_, fun z1 z2 => ?_, fun z1 z2 l hl => ?_⟩
  · subst z
    cases r
    exact k _ F H (Ext.refl e) ⟨q, ws, rfl, hq, r2⟩
  · subst z2
    cases r2
    exact k _ F H (Ext.refl e) ⟨p, vs, rfl, hp, by rw [List.append_nil]; exact r⟩
  · have x := Ext.new (o := .tup (vs ++ ws)) e hl
    exact k _ _ _ x ⟨l, _, rfl, upd_same, (r.append r2).mono x.f⟩
theorem x_catT {m1 m2 : R (List α)} (ha : EX X U Γ a (rT ρ) m1) (hb : EX X U Γ b (rT ρ) m2) : EX X U Γ (.BinOp a .Add b pos) (rT ρ) (m1.bind fun x => m2.bind fun y => chk (x.length + y.length ≤ sizeLine) (x ++ y)) := by
  have h := x_bin (pos := pos) op_catA dCatT ha hb
  simp only [chk_calm] at h
  exact h
/-- xs + ys, a new list -/
theorem f_catL {m1 m2 : R (List α)} (ha : EX X U Γ a (rL ρ) m1) (hb : EX X U Γ b (rL ρ) m2) : FX X U Γ (.BinOp a .Add b pos) (fun ys => oLi (tl ρ) ys) (m1.bind fun x => m2.bind fun y => chk (x.length + y.length ≤ sizeLine) (x ++ y)) :=
  ⟨fun en F σ H Q s h => wE_of (pe_op op_cat wE_pe wE_pe) (ha.out en F σ H _ s (wpR_mono (wpR_bind h) (fun x k v F1 H1 e1 s1 ⟨p, vs, ev, hp, r⟩ =>
    hb.out en F1 σ H1 _ s1 (wpR_mono (wpR_bind k) (fun y k2 u F2 H2 e2 s2 ⟨q, ws, eu, hq, r2⟩ => by
      obtain ⟨hl, k2⟩ := wpR_chk k2
      refine ⟨p, q, vs, ws, ev, eu, s2.sub p _ (e2 p _ hp), s2.sub q _ hq, by rw [← r.length, ← r2.length]; exact hl, fun l hl => ?_⟩
      exact k2 l _ F2 _ (e1.trans e2) (s2.lay hl).1 (s2.lay hl).2 ⟨_, rfl, (r.mono e2).append r2⟩) fun _ z => z.up e1)) fun _ z => z))⟩
/-- xs[lo:hi] -/
def cutL (xs : List α) (lo hi : Option Int) : List α := (xs.drop (HT.sIx xs.length 0 lo)).take (HT.sIx xs.length xs.length hi - HT.sIx xs.length 0 lo)
/-- a part of a slice -/
structure OG (X : Cx) (U : Wi) (Γ : List Sl) (e : Option Expr) (m : R (Option Int)) : Prop where
  out : ∀ en F σ H (Q : Option Int → Hp → Prop), SA en Γ F σ H → wpR m (fun w => ∀ F' H', Same F F' → SA en Γ F' σ H' → Q w H') (U.ok X.mg en F) → ∃ t, PO X e t ∧ t σ H Q
def wO (X : Cx) (e : Option Expr) : TO := fun σ H Q => ∃ t, PO X e t ∧ t σ H Q
theorem wO_po {e : Option Expr} : PO X e (wO X e) := ⟨fun pins s σ H Q I ⟨t, h, q⟩ => h.run pins s σ H Q I q⟩
theorem o_none : OG X U Γ none (.ok none) := ⟨fun en F σ H Q s h => ⟨_, po_none, h F H (Same.refl F) s⟩⟩
theorem o_some {m : R Int} (h : EX X U Γ e rI m) : OG X U Γ (some e) (m.bind fun x => .ok (some x)) :=
  ⟨fun en F σ H Q s q => ⟨_, po_some wE_pe, h.out en F σ H _ s (wpR_mono (wpR_bind q) (fun x k v F1 H1 e1 s1 r1 => ⟨x, r1, k F1 H1 e1 s1⟩) fun _ z => z)⟩⟩
theorem cut_int (xs : List Int) (lo hi : Option Int) : cutV (xs.map V.int) lo hi = (cutL xs lo hi).map V.int := by
  unfold cutV cutL
  rw [List.length_map, List.map_take, List.map_drop]
theorem f_slS {lo hi : Option Expr} {p2 : Pos} {m : R (List Int)} {ml mh : R (Option Int)} (ha : EX X U Γ a (rScr X.K) m) (hl : OG X U Γ lo ml) (hh : OG X U Γ hi mh) :
    FX X U Γ (.Subscript a (.Slice lo hi none p2) pos) (fun ys => oLi (tl rI) ys) (m.bind fun xs => ml.bind fun l => mh.bind fun h => .ok (cutL xs l h)) :=
  ⟨fun en F σ H Q s h => wE_of (pe_slice sl_list wE_pe wO_po wO_po) (ha.out en F σ H _ s (wpR_mono (wpR_bind h) (fun x k v F1 H1 e1 s1 ⟨p, ev, hp⟩ =>
    hl.out en F1 σ H1 _ s1 (wpR_mono (wpR_bind k) (fun l k2 F2 H2 e2 s2 => hh.out en F2 σ H2 _ s2 (wpR_mono (wpR_bind k2) (fun hi k3 F3 H3 e3 s3 =>
      ⟨p, _, ev, Same.seq (e2.trans (e3.trans s3.sub)) hp, fun q hq => k3 q _ F3 _ (e1.trans (e2.trans e3)) (s3.lay hq).1 (s3.lay hq).2 ⟨_, rfl, by rw [cut_int]; exact rep_int F3 _⟩⟩) fun _ z => z.up (e1.trans e2))) fun _ z => z.up e1)) fun _ z => z))⟩

/-! ### isinstance with a built-in class -/
/-- the class of what stands for a value of ρ -/
structure Ty {α : Type} (ρ : Rp α) (c : α → String) : Prop where
  out : ∀ K H x v, ρ.rep x H v → TyX K H v (.type (c x))
theorem nnTu {τ : Type} {t : Tr τ} (x : τ) (F : Hp) : ¬ (rTu t).rep x F .non := fun ⟨_, _, h, _⟩ => nomatch h
theorem x_isi {m : R α} {c : α → String} {T : String} {n : Str} {p p2 : Pos} (f : α → Bool) (ht : Ty ρ c) (hf : ∀ x, kitB (c x) T = some (f x)) (hm : X.mg "isinstance" = none) (hn : X.mg n = none) (hv : bootBuiltins n = some (.type T)) (ha : EX X U Γ a ρ m)
    (hg : Gl X "isinstance" := by rfl) (hg2 : Gl X n := by rfl) (hnn : n ≠ "__name__" := by decide) (hnd : (n == ("__debug__" : Str)) = false := by decide)
    (he : starEach [a, .Name n p2] X.env = (false, eval a X.env) :: starEach [.Name n p2] X.env := by rfl) (he2 : starEach [.Name n p2] X.env = (false, eval (.Name n p2) X.env) :: starEach [] X.env := by rfl) (hpl : (backTo pos (starEach [.Name n p2] X.env)).any (·.1) = false := by rfl) :
    EX X U Γ (.Call (.Name "isinstance" p) [a, .Name n p2] [] pos) rB (m.bind fun x => .ok (f x)) :=
  ⟨fun en F σ H Q s h => wE_of (pe_callB call_isi hg hm boot_isinstance (pa_cons wE_pe (pa_cons (pe_bltn (v := .ty T) hg2 hn hv rfl hnn hnd) pa_nil he2) he) (by decide) (by decide) he hpl) (ha.out en F σ H _ s (wpR_mono (wpR_bind h) (fun x k v F1 H1 e1 s1 r1 =>
    ⟨v, .ty T, _, _, f x, rfl, .ty T, ht.out X.K H1 x v (ρ.mono s1.sub r1), kit_ty (hf x), k _ F1 H1 e1 s1 rfl⟩) fun _ z => z))⟩

/-! ### own lists -/
variable {ω' : Type} {I : ω → Kd} {rest : List Stmt} {n : Str}
/-- xs.append(e), xs in slot i -/
theorem s_append {a0 : Option Addr} {p ap cp : Pos} {xs : List α} {m : R α} {k : α → R ω} (i : Nat) (he : EX X U Γ e ρ m) (hr : ∀ y, SX X U (Γ.set i (.own a0 (oLi (tl ρ) (xs ++ [y])))) rest I (k y)) (hΓ : Γ[i]? = some (.own a0 (oLi (tl ρ) xs)) := by rfl) (hN : X.N[i]? = some n := by rfl)
    (hv : Vis X.env.scope n := by first | exact Or.inl rfl | exact Or.inr (Or.inl rfl) | exact Or.inr (Or.inr rfl)) (hd : (n == ("__debug__" : Str)) = false := by decide) (hcd : (n == ("__classdict__" : Str)) = false := by decide)
    (h1 : starEach [e] X.env = (false, eval e X.env) :: starEach [] X.env := by rfl)
    (hpe : ∀ to t, PE X (.Name n p) to → PA X [e] t → PE X (.Call (.Attribute (.Name n p) "append" ap) [e] [] cp) (tBM X.K "list" rAppend to t) := by exact fun _ _ ho ha => pe_bm PySem.F.plainAttrs_list PySem.F.slot_list_append PySem.F.type_list_append mt_append ho ha)
    (hs : swapsWith (.Call (.Attribute (.Name n p) "append" ap) [e] [] cp) none pos.line X.env = pure false := by rfl) :
    SX X U Γ (.Expr (.Call (.Attribute (.Name n p) "append" ap) [e] [] cp) pos :: rest) I (m.bind fun y => (chk (xs.length < sizeLine) ()).bind fun _ => k y) :=
  ⟨fun en F σ H D s h => wSs_of (pss_cons (ps_expr (hpe _ _ (pe_var hN hv hd hcd) (pa_cons wE_pe pa_nil h1)) hs) wSs_pss) (by
    obtain ⟨p, o, g1, g2, g3, ⟨vs, eo, rl⟩, g5, g6⟩ := s.own i _ _ hΓ
    subst eo
    refine ⟨.ref p, g1, .inl ⟨rfl, _, .inl (.inl g3)⟩, ?_⟩
    refine he.out en F σ H _ s (wpR_mono (wpR_bind h) (fun y q u F1 H1 e1 s1 ry => ?_) fun _ z => z)
    obtain ⟨p1, o1, f1, f2, f3, ⟨ws, eo, rl1⟩, f5, f6⟩ := s1.own i _ _ hΓ
    subst eo
    have ep : p1 = p := by
      rw [g1] at f1
      injection f1 with f1
      injection f1 with f1
      injection f1 with f1
      exact f1.symm
    subst ep
    obtain ⟨hl, q⟩ := wpR_chk (wpR_bind q)
    refine ⟨p1, ws, u, rfl, rfl, f3, by rw [← rl1.length]; exact hl, ?_⟩
    exact (hr y).out en F1 σ _ D (s1.mut hΓ f1 ⟨ws ++ [u], rfl, rl1.append (.cons ry .nil)⟩) (wpR_mono q (fun o z => z.up e1) fun _ z => z.up e1))⟩
end
end Py

/-! Own layer, part E: the rules where nothing but slots changes; raise; dicts keyed by tuples. -/
namespace Py
open PySem PySem.Spec PyProof.Rows L2
section
variable {X : Cx} {U : Wi} {Γ : List Sl} {a b c e : Expr} {es : List Expr} {A B sts rest : List Stmt} {pos : Pos} {α β γ τ ω ω' : Type} {ρ : Rp α} {π : Rp β} {I : ω → Kd} {I' : ω' → Kd} {n : Str}

theorem SX.cv {m m' : R ω} (h : SX X U Γ sts I m) (e : m = m') : SX X U Γ sts I m' := by
  rw [← e]
  exact h
theorem FG.cv {P : α → ORp} {m m' : R α} (h : FX X U Γ e P m) (q : m = m') : FX X U Γ e P m' := by
  subst q
  exact h
theorem EG.cv {ρ : Rp α} {m m' : R α} (h : EX X U Γ e ρ m) (q : m = m') : EX X U Γ e ρ m' := by
  rw [← q]
  exact h
/-! ### and, or where the right side can't fail -/
theorem x_and2 {m1 : R Bool} {y : Bool} {r : List Expr} (ha : EX X U Γ a rB m1) (hb : EX X U Γ (.BoolOp .And (b :: r) pos) rB (.ok y)) : EX X U Γ (.BoolOp .And (a :: b :: r) pos) rB (m1.bind fun x => .ok (x && y)) := by
  have h := x_and ha hb
  have e : (fun x : Bool => if x = true then R.ok y else .ok false) = fun x => .ok (x && y) := by
    funext x
    cases x <;> rfl
  rw [e] at h
  exact h
theorem w_and2 {m1 : R Bool} {y : Bool} {r : List Expr} (ha : BX X U Γ a m1) (hb : WG X U Γ (.BoolOp .And (b :: r) pos) (.ok y)) : WG X U Γ (.BoolOp .And (a :: b :: r) pos) (m1.bind fun x => .ok (x && y)) := by
  have h := w_and ha hb
  have e : (fun x : Bool => if x = true then R.ok y else .ok false) = fun x => .ok (x && y) := by
    funext x
    cases x <;> rfl
  rw [e] at h
  exact h
theorem w_or2 {m1 : R Bool} {y : Bool} {r : List Expr} (ha : BX X U Γ a m1) (hb : WG X U Γ (.BoolOp .Or (b :: r) pos) (.ok y)) : WG X U Γ (.BoolOp .Or (a :: b :: r) pos) (m1.bind fun x => .ok (x || y)) := by
  have h := w_or ha hb
  have e : (fun x : Bool => if x = true then R.ok true else .ok y) = fun x => .ok (x || y) := by
    funext x
    cases x <;> rfl
  rw [e] at h
  exact h
theorem x_test {m : R Bool} (h : EX X U Γ e rB m) (he : ∀ whole, isTrue e X.env whole = (do let v ← whole; standAt e.pos; holding [v] (truthy v)) := by intro _; rfl) : BX X U Γ e m := g_test h he
theorem x_tup {t : Tr τ} {m : R τ} {k : Nat} (h : AX X U Γ es t m) (hn : ∀ w F vs, t.rep w F vs → vs.length ≤ sizeLine) : EX X U Γ (.Tuple es k pos) (rTu t) m := g_tup h hn
theorem f_list {t : Tr τ} {m : R τ} (h : AX X U Γ es t m) (hn : ∀ w F vs, t.rep w F vs → vs.length ≤ sizeLine) : FX X U Γ (.List es pos) (fun w => oLi t w) m := f_lst h hn
theorem x_frzE {t : Tr τ} {m : R τ} (h : FX X U Γ e (fun w => oLi t w) m) : EX X U Γ e (rLi t) m := x_frz (val := fun w => w) h
theorem n1 {ρ : Rp α} {w : α} {F : Hp} {vs : List V} (h : (t1 ρ).rep w F vs) : vs.length = 1 := by
  obtain ⟨v, e, _⟩ := h
  rw [e] <;> rfl
theorem nc {ρ : Rp α} {t : Tr τ} {w : α × τ} {F : Hp} {vs : List V} {k : Nat} (hk : ∀ w F vs, t.rep w F vs → vs.length = k) (h : (tc ρ t).rep w F vs) : vs.length = k + 1 := by
  obtain ⟨v, ws, e, _, q⟩ := h
  rw [e, List.length_cons, hk _ _ _ q]
theorem sz {k m : Nat} (h : k = m) (hm : m ≤ 1000) : k ≤ sizeLine := by
  subst h
  exact Nat.le_of_lt (small1000 hm)

/-! ### statements -/
theorem p_set {p' : Pos} {m : R α} {k : α → R ω} (i : Nat) (hN : X.N.Nodup) (he : EX X U Γ e ρ m) (hr : ∀ w, SX X U (Γ.set i (im ρ w)) rest I (k w)) (hn : X.N[i]? = some n := by rfl)
    (hx : Loc X.env.scope n := by first | exact Or.inl rfl | exact Or.inr rfl) (hs : swapsWith e (some (.Name n p')) pos.line X.env = pure false := by rfl) (hf : X.fn n = true ∨ X.env.scope.names.lookup n = some .local := by first | exact .inl rfl | exact .inr rfl) :
    SX X U Γ (.Assign [.Name n p'] e pos :: rest) I (m.bind k) := s_set i hN he hr hn hx hs hf
theorem p_own {P : ω' → ORp} {p' : Pos} {m : R ω'} {k : ω' → R ω} (i : Nat) (hN : X.N.Nodup) (he : FX X U Γ e P m) (hr : ∀ w, SX X U (Γ.set i (.own none (P w))) rest I (k w)) (hn : X.N[i]? = some n := by rfl)
    (hx : Loc X.env.scope n := by first | exact Or.inl rfl | exact Or.inr rfl) (hs : swapsWith e (some (.Name n p')) pos.line X.env = pure false := by rfl) (hf : X.fn n = true ∨ X.env.scope.names.lookup n = some .local := by first | exact .inl rfl | exact .inr rfl) :
    SX X U Γ (.Assign [.Name n p'] e pos :: rest) I (m.bind k) := s_own i hN he hr hn hx hs hf
theorem p_asg {tg : Expr} {vs : List Nat} {g : α → List Sl → List Sl} {m : R α} {k : α → R ω} (hg : GT X tg ρ vs g) (he : EX X U Γ e ρ m) (hr : ∀ w, SX X U (g w Γ) rest I (k w))
    (hs : swapsWithSole [tg] e pos.line X.env = pure false := by rfl) (hw : swappedStores [tg] e X.env = pure none := by rfl) (h1 : (assignEach [tg] X.env).map (·.2) = [assign tg X.env] := by rfl) :
    SX X U Γ (.Assign [tg] e pos :: rest) I (m.bind k) := s_asg hg he hr hs hw h1
theorem p_expr {m : R α} {k : α → R ω} (he : EX X U Γ e ρ m) (hr : ∀ w, SX X U Γ rest I (k w)) (hs : swapsWith e none pos.line X.env = pure false := by rfl) : SX X U Γ (.Expr e pos :: rest) I (m.bind k) := s_expr he hr hs
theorem p_ret {m : R α} (mk : α → ω) (Γr : List Sl) (e1 : ∀ w, (I (mk w)).cut = .rt ⟨fun H v => ρ.rep w H v, fun e h => ρ.mono e h⟩ Γr) (l : Le Γr Γ) (he : EX X U Γ e ρ m) : SX X U Γ (.Return (some e) pos :: rest) I (m.bind fun w => .ok (mk w)) :=
  s_last (g_ret mk (fun _ => Γr) e1 (fun _ => l) he)
theorem p_retf {I : α → Kd} {m : R α} (Γr : List Sl) (e1 : ∀ w, (I w).cut = .rt ⟨fun H v => ρ.rep w H v, fun e h => ρ.mono e h⟩ Γr) (l : Le Γr Γ) (he : EX X U Γ e ρ m) : SX X U Γ (.Return (some e) pos :: rest) I m := by
  have h := p_ret (rest := rest) (pos := pos) (fun w => w) Γr e1 l he
  rw [R.bind_pure] at h
  exact h
theorem p_ifT {mc : R Bool} {mA mR : R ω} (hc : BX X U Γ c mc) (hA : SX X U Γ A (fun o => (I o).cut) mA) (hR : SX X U Γ rest I mR) : SX X U Γ (.If c A [] pos :: rest) I (mc.bind fun t => if t = true then mA else mR) :=
  s_ifT hc (fun _ => hA) fun _ => hR
theorem p_if2 {mc : R Bool} {mA mB : R ω} (hc : BX X U Γ c mc) (hA : SX X U Γ A I mA) (hB : SX X U Γ B I mB) : SX X U Γ [.If c A B pos] I (mc.bind fun t => if t = true then mA else mB) :=
  s_one (g_if hc (fun _ => hA) fun _ => hB)
/-- if c: A else: B, then the rest: s is what both leave -/
theorem p_ifJ {mc : R Bool} {mA mB : R τ} {k : τ → R ω} (Γs : τ → List Sl) (hc : BX X U Γ c mc) (hA : SX X U Γ A (fun s => .nx (Γs s)) mA) (hB : SX X U Γ B (fun s => .nx (Γs s)) mB) (hr : ∀ s, SX X U (Γs s) rest I (k s)) :
    SX X U Γ (.If c A B pos :: rest) I (mc.bind fun t => (if t = true then mA else mB).bind k) := by
  have h := s_cons (g_if (pos := pos) (I := fun s : τ => Kd.nx (Γs s)) hc (fun _ => hA) fun _ => hB) (fun s => Cont.nx (hr s))
  exact h.cv (by cases mc <;> rfl)
theorem p_for {tg iter : Expr} {body : List Stmt} {m : R (List α)} {vs : List Nat} {g : α → List Sl → List Sl} {k : τ → R ω} (Γs : τ → List Sl) (f : τ → α → R τ) (s0 : τ) (hp : PassesOwn (model X.prog X.w) X.A X.env X.xe) (hi : IX X U Γ tg iter ρ m) (hg : GT X tg ρ vs g)
    (hb : ∀ s x, SX X U (g x (Γs s)) body (fun s' => .go (Γs s')) (f s x)) (h0 : Le (Γs s0) Γ) (hr : ∀ s, SX X U (Γs s) rest I (k s)) (hc : X.calm = true := by rfl) (hs : ∀ x, foldedSetIterable iter X.env x = pure x := by intro _; rfl) :
    SX X U Γ (.For tg iter body [] pos :: rest) I (m.bind fun xs => (forR f xs s0).bind k) := by
  have h := s_cons (g_forR (pos := pos) Γs (fun _ => f) (fun _ => s0) hi hg (fun _ => hb) (fun _ => h0) hp hc hs) (fun s => Cont.nx (hr s))
  exact h.cv (by cases m <;> rfl)
theorem p_forO {tg iter : Expr} {body : List Stmt} {m : R (List α)} {vs : List Nat} {g : α → List Sl → List Sl} {k : τ → R ω} (Γs : τ → List Sl) (P : γ → PRp × List Sl) (mk : γ → ω) (f : τ → α → R (Stp τ γ)) (s0 : τ) (hp : PassesOwn (model X.prog X.w) X.A X.env X.xe) (hi : IX X U Γ tg iter ρ m) (hg : GT X tg ρ vs g)
    (hb : ∀ s x, SX X U (g x (Γs s)) body (Stp.kd Γs P) (f s x)) (h0 : Le (Γs s0) Γ) (hk : ∀ a, Cont X U rest I (.rt (P a).1 (P a).2) (.ok (mk a))) (hr : ∀ s, SX X U (Γs s) rest I (k s)) (hc : X.calm = true := by rfl) (hs : ∀ x, foldedSetIterable iter X.env x = pure x := by intro _; rfl) :
    SX X U Γ (.For tg iter body [] pos :: rest) I (m.bind fun xs => (forS f xs s0).bind (outK k mk)) := by
  have h := s_cons (rest := rest) (I := I) (k := outK k mk) (g_forS (pos := pos) Γs P (fun _ => f) (fun _ => s0) hi hg (fun _ => hb) (fun _ => h0) hp hc hs) (fun o => by
    cases o with
    | nx s => exact Cont.nx (hr s)
    | rt a => exact hk a)
  exact h.cv (by cases m <;> rfl)
/-- raise C('..') -/
theorem p_raise {C : Addr} {cls : Str} {x : Expr} (tk : Takes X U.W) (hk : PMk X x (fun _ H Q => Q (.ref C) none H)) (hm : X.mg cls = some (.ref C)) (l : Le U.Γ Γ) (hc : X.calm = true := by rfl) : SX X U Γ (.Raise (some x) none pos :: rest) I (.er ⟨cls, none⟩) :=
  ⟨fun en F σ H D s h => wSs_of (pss_cons (ps_raise hc tk hk) wSs_pss) (h (.ref C) none F σ H (Same.refl F) (s.le l) ⟨C, hm, rfl, rfl⟩)⟩

end
end Py

/-! Own layer, part F: what the printed proofs name besides: constants, displays, dicts keyed by tuples, own lists read, mixed ifs. -/
namespace Py
open PySem PySem.Spec PyProof.Rows L2

theorem u1 {k : Nat} {A : Around} (hr : Room k A) : A.units + 1 < cLine := hu_of hr
theorem u64 {k : Nat} {A : Around} (hr : Room k A) : A.units + 64 < cLine := hr.units
theorem u65 {k : Nat} {A : Around} (hr : Room k A) : A.units + 65 < cLine := by
  have := hr.un
  unfold cLine at *
  omega
abbrev rtP {γ : Type} (ρ : Rp γ) : γ → PRp × List Sl := fun z => (⟨fun H v => ρ.rep z H v, fun e h => ρ.mono e h⟩, [])
/-- so many of one type -/
def tn {α : Type} (ρ : Rp α) (k : Nat) : Tr (List α) := ⟨fun a H vs => RepL ρ H a vs ∧ vs.length = k, fun e h => ⟨h.1.mono e, h.2⟩⟩

/-! ### dicts keyed by tuples -/
structure Ky {κ : Type} (ρ : Rp κ) where
  enc : κ → List Key
  inj : ∀ a b, enc a = enc b → a = b
  rep : ∀ a H v, ρ.rep a H v → ∃ p, v = .ref p ∧ H p = some (.tup ((enc a).map kV))
def kyC : Ky rC where
  enc := fun a => [.inl a.1, .inl a.2]
  inj := fun a b h => by
    injection h with h1 h2
    injection h2 with h2 _
    injection h1 with h1
    injection h2 with h2
    exact Prod.ext h1 h2
  rep := fun a H v ⟨p, vs, e, h, v1, ws, e1, r1, v2, e2, r2⟩ => ⟨p, e, by
    rw [h, e1, e2, show v1 = V.int a.1 from r1, show v2 = V.int a.2 from r2]
    rfl⟩
section
variable {κ ν : Type} [DecidableEq κ]
def dGet (xs : List (κ × ν)) (k : κ) : Option ν := (xs.find? fun q => decide (q.1 = k)).map (·.2)
def dPut (xs : List (κ × ν)) (k : κ) (v : ν) : List (κ × ν) :=
  if (xs.any fun q => decide (q.1 = k)) = true then xs.map (fun q => if q.1 = k then (q.1, v) else q) else xs ++ [(k, v)]
end
inductive RepD {κ ν : Type} {ρ : Rp κ} (ky : Ky ρ) (π : Rp ν) (H : Hp) : List (κ × ν) → List (List Key × V) → Prop
  | nil : RepD ky π H [] []
  | cons {k : κ} {x : ν} {xs : List (κ × ν)} {v : V} {kvs : List (List Key × V)} : π.rep x H v → RepD ky π H xs kvs → RepD ky π H ((k, x) :: xs) ((ky.enc k, v) :: kvs)
section
variable {κ ν : Type} {ρ : Rp κ} {ky : Ky ρ} {π : Rp ν} {H H' : Hp}
theorem RepD.mono (e : Same H H') : ∀ {xs : List (κ × ν)} {kvs : List (List Key × V)}, RepD ky π H xs kvs → RepD ky π H' xs kvs
  | _, _, .nil => .nil
  | _, _, .cons r t => .cons (π.mono e r) (RepD.mono e t)
theorem RepD.length : ∀ {xs : List (κ × ν)} {kvs : List (List Key × V)}, RepD ky π H xs kvs → xs.length = kvs.length
  | _, _, .nil => rfl
  | _, _, .cons r t => congrArg (· + 1) (RepD.length t)
variable [DecidableEq κ]
theorem Ky.dec (ky : Ky ρ) (a b : κ) : decide (ky.enc a = ky.enc b) = decide (a = b) := by
  by_cases h : a = b
  · subst h
    simp
  · have h' : ¬ ky.enc a = ky.enc b := fun z => h (ky.inj a b z)
    simp [h, h']
theorem RepD.get : ∀ {xs : List (κ × ν)} {kvs : List (List Key × V)} (k : κ), RepD ky π H xs kvs → match dGet xs k with | none => valV kvs (ky.enc k) = none | some x => ∃ v, valV kvs (ky.enc k) = some v ∧ π.rep x H v
  | _, _, k, .nil => rfl
  | _, _, k, .cons (k := k') (x := x) (v := v) r t => by
    by_cases h : k' = k
    · subst h
      have e : ∀ ys : List (κ × ν), dGet ((k', x) :: ys) k' = some x := fun ys => by simp [dGet]
      rw [e]
      exact ⟨v, valV_pos rfl, r⟩
    · have h' : ¬ ky.enc k' = ky.enc k := fun z => h (ky.inj _ _ z)
      have ih := RepD.get k t
      have e : ∀ ys : List (κ × ν), dGet ((k', x) :: ys) k = dGet ys k := fun ys => by simp [dGet, h]
      rw [e, valV_neg (p := (ky.enc k', v)) h']
      exact ih
theorem RepD.any : ∀ {xs : List (κ × ν)} {kvs : List (List Key × V)} (k : κ), RepD ky π H xs kvs → (kvs.any fun q => decide (q.1 = ky.enc k)) = xs.any fun q => decide (q.1 = k)
  | _, _, k, .nil => rfl
  | _, _, k, .cons (k := k') r t => by
    rw [List.any_cons, List.any_cons, RepD.any k t]
    show (decide (ky.enc k' = ky.enc k) || _) = _
    rw [ky.dec]
theorem RepD.map {x : ν} {v : V} (r : π.rep x H v) : ∀ {xs : List (κ × ν)} {kvs : List (List Key × V)} (k : κ), RepD ky π H xs kvs →
    RepD ky π H (xs.map fun q => if q.1 = k then (q.1, x) else q) (kvs.map fun q => if q.1 = ky.enc k then (q.1, v) else q)
  | _, _, k, .nil => .nil
  | _, _, k, .cons (k := k') (x := x') (v := v') r' t => by
    rw [List.map_cons, List.map_cons]
    by_cases h : k' = k
    · subst h
      simp only [if_pos]
      exact .cons r (RepD.map r k' t)
    · have h' : ¬ ky.enc k' = ky.enc k := fun z => h (ky.inj _ _ z)
      simp only [if_neg h, if_neg h']
      exact .cons r' (RepD.map r k t)
theorem RepD.snoc {k : κ} {x : ν} {v : V} (r : π.rep x H v) : ∀ {xs : List (κ × ν)} {kvs : List (List Key × V)}, RepD ky π H xs kvs → RepD ky π H (xs ++ [(k, x)]) (kvs ++ [(ky.enc k, v)])
  | _, _, .nil => .cons r .nil
  | _, _, .cons r' t => .cons r' (RepD.snoc r t)
theorem RepD.put {xs : List (κ × ν)} {kvs : List (List Key × V)} {k : κ} {x : ν} {v : V} (h : RepD ky π H xs kvs) (r : π.rep x H v) : RepD ky π H (dPut xs k x) (putK kvs (ky.enc k) v) := by
  unfold dPut putK
  rw [h.any k]
  by_cases z : (xs.any fun q => decide (q.1 = k)) = true
  · rw [if_pos z, if_pos z]
    exact h.map r k
  · rw [if_neg z, if_neg z]
    exact h.snoc r
end
abbrev oD {κ ν : Type} {ρ : Rp κ} (ky : Ky ρ) (π : Rp ν) (xs : List (κ × ν)) : ORp := ⟨fun F o => ∃ kvs, o = .dT kvs ∧ RepD ky π F xs kvs, fun e ⟨kvs, h, r⟩ => ⟨kvs, h, RepD.mono e r⟩, fun ⟨vs, h, _⟩ ws z => by rw [h] at z; cases z⟩
/-- a dict that is known: it is locked -/
def rD {κ ν : Type} {ρ : Rp κ} (ky : Ky ρ) (π : Rp ν) : Rp (List (κ × ν)) := ⟨fun xs F v => ∃ p kvs, v = .ref p ∧ (∃ od, F p = some (.frz od (.dT kvs))) ∧ RepD ky π F xs kvs, fun e ⟨p, kvs, h, ⟨od, q⟩, r⟩ => ⟨p, kvs, h, ⟨od, e p _ q⟩, RepD.mono e r⟩⟩

section
variable {X : Cx} {U : Wi} {Γ : List Sl} {a b c e : Expr} {es : List Expr} {A B sts rest : List Stmt} {pos : Pos} {α β γ κ ν τ ω ω' : Type} {ρ : Rp α} {π : Rp β} {I : ω → Kd} {I' : ω' → Kd} {n : Str}

/-! ### constants, displays -/
theorem x_globI {i : Int} (h : ∃ t, X.mg n = some (.int i t)) (hg : Gl X n := by rfl) (hd : (n == ("__debug__" : Str)) = false := by decide) : EX X U Γ (.Name n pos) rI (.ok i) := by
  obtain ⟨t, h⟩ := h
  exact x_glob (v := .int i) h ⟨t, rfl⟩ (fun _ => rfl) hg hd
theorem ln_nil : AX X U Γ [] (tn ρ 0) (.ok []) := a_nil fun _ => ⟨.nil, rfl⟩
theorem ln_cons {k : Nat} {m1 : R α} {m2 : R (List α)} (ha : EX X U Γ a ρ m1) (hb : AX X U Γ es (tn ρ k) m2) (hs : starEach (a :: es) X.env = (false, eval a X.env) :: starEach es X.env := by rfl) : AX X U Γ (a :: es) (tn ρ (k + 1)) (m1.bind fun x => m2.bind fun y => .ok (x :: y)) :=
  g_acons (t' := tn ρ (k + 1)) (val := fun z => z) (fun x y => x :: y) (fun x y F v vs (r : ρ.rep x F v) (q : (tn ρ k).rep y F vs) => ⟨.cons r q.1, congrArg (· + 1) q.2⟩) (fun _ _ => rfl) ha (fun _ => hb) hs
theorem f_listN {k : Nat} {m : R (List α)} (h : AX X U Γ es (tn ρ k) m) (hk : k ≤ 1000 := by decide) : FX X U Γ (.List es pos) (fun w => oLi (tl ρ) w) m :=
  ⟨fun en F σ H Q s q => (f_list (t := tn ρ k) h (fun w F vs r => sz r.2 hk)).out en F σ H Q s (wpR_mono q (fun w kk p o F' H' e1 s1 fr ⟨vs, e, r⟩ => kk p o F' H' e1 s1 fr ⟨vs, e, r.1⟩) fun _ z => z)⟩
theorem x_tupN {j k : Nat} {m : R (List α)} (h : AX X U Γ es (tn ρ k) m) (hk : k ≤ 1000 := by decide) : EX X U Γ (.Tuple es j pos) (rT ρ) m :=
  ⟨fun en F σ H Q s q => (x_tup (t := tn ρ k) h (fun w F vs r => sz r.2 hk)).out en F σ H Q s (wpR_mono q (fun w kk v F' H' e1 s1 ⟨p, vs, ev, hp, r⟩ => kk v F' H' e1 s1 ⟨p, vs, ev, hp, r.1⟩) fun _ z => z)⟩
theorem f_nil {ρ : Rp α} : FX X U Γ (.List [] pos) (fun w => oLi (tl ρ) w) (.ok []) := f_listN ln_nil
theorem x_tup0 {j : Nat} {ρ : Rp α} : EX X U Γ (.Tuple [] j pos) (rT ρ) (.ok []) := x_tupN ln_nil
/-- a comprehension without a test -/
theorem f_lcM {tg iter elt : Expr} {scope : Scope} {own : List (Str × Nat)} {m : R (List α)} {g : α → List Sl → List Sl} {f : α → R β} (hN : X.N.Nodup) (hi : IX X U Γ tg iter ρ m) (ok : BlkOk X.N X.env.scope scope own)
    (hg : ∀ (s : Shared) (H : Hp) (C : Addr) (cl : List (Str × Addr)) (fp : List Addr), GT (X.blk s H scope (compEnvC scope cl C X.env) fp) tg ρ (own.map (·.2)) g)
    (he : ∀ (s : Shared) (H : Hp) (C : Addr) (cl : List (Str × Addr)) (fp : List Addr) (x : α), EX (X.blk s H scope (compEnvC scope cl C X.env) fp) U0 (g x (wipeΓ Γ (own.map (·.2)))) elt π (f x))
    (hno : noOwn Γ (own.map (·.2)) = true := by rfl) (hc : X.calm = true := by rfl) (hs : ∀ x, foldedSetIterable iter X.env x = pure x := by intro _; rfl) :
    FX X U Γ (.ListComp elt [⟨tg, iter, [], 0⟩] scope pos) (fun ys => oLi (tl π) ys) (m.bind fun xs => (mapR f xs).bind fun ys => chk (ys.length ≤ sizeLine) ys) := by
  have h := f_lcF (pos := pos) (c := fun _ => .ok true) hN hi ok hg (fun _ _ _ _ _ _ => ts_nil) he hno hc hs
  simp only [fm_map] at h
  exact h
/-! ### calls with defaults -/
/-! ### own lists read -/
theorem x_ixO {a0 : Option Addr} {xs : List α} {m : R Int} {p2 : Pos} (i : Nat) (hΓ : Γ[i]? = some (.own a0 (oLi (tl ρ) xs))) (hb : EX X U Γ b rI m) (hN : X.N[i]? = some n := by rfl) (hv : Vis X.env.scope n := by first | exact Or.inl rfl | exact Or.inr (Or.inl rfl) | exact Or.inr (Or.inr rfl))
    (hd : (n == ("__debug__" : Str)) = false := by decide) (hcd : (n == ("__classdict__" : Str)) = false := by decide) (hs : PlainIx b := by exact fun _ _ => rfl) : EX X U Γ (.Subscript (.Name n p2) b pos) ρ (m.bind fun y => ofOpt (atI xs y)) :=
  ⟨fun en F σ H Q s h => wE_of (pe_ix ix_list (pe_var hN hv hd hcd) wE_pe hs) (by
    obtain ⟨p, o, g1, g2, g3, ⟨vs, eo, rl⟩, g5, g6⟩ := s.own i _ _ hΓ
    refine ⟨.ref p, g1, hb.out en F σ H _ s (wpR_mono (wpR_bind h) (fun y q u F1 H1 e1 s1 ry => ?_) fun _ z => z)⟩
    obtain ⟨p1, o1, f1, f2, f3, ⟨ws, eo1, rl1⟩, f5, f6⟩ := s1.own i _ _ hΓ
    subst eo1
    rw [g1] at f1
    injection f1 with f1
    injection f1 with f1
    injection f1 with f1
    subst f1
    obtain ⟨x, hx, q⟩ := wpR_opt q
    obtain ⟨v, hv1, rv⟩ := atI_rep rl1 hx
    exact ⟨p, ws, y, v, rfl, ry, .inl (.inl f3), hv1, q v F1 H1 e1 s1 rv⟩)⟩
/-- xs.extend(ys), xs in slot i -/
theorem s_extend {a0 : Option Addr} {p ap cp : Pos} {xs : List α} {m : R (List α)} {k : List α → R ω} (i : Nat) (he : EX X U Γ e (rL ρ) m) (hr : ∀ ys, SX X U (Γ.set i (.own a0 (oLi (tl ρ) (xs ++ ys)))) rest I (k ys)) (hΓ : Γ[i]? = some (.own a0 (oLi (tl ρ) xs)) := by rfl) (hN : X.N[i]? = some n := by rfl)
    (hv : Vis X.env.scope n := by first | exact Or.inl rfl | exact Or.inr (Or.inl rfl) | exact Or.inr (Or.inr rfl)) (hd : (n == ("__debug__" : Str)) = false := by decide) (hcd : (n == ("__classdict__" : Str)) = false := by decide)
    (h1 : starEach [e] X.env = (false, eval e X.env) :: starEach [] X.env := by rfl)
    (hpe : ∀ to t, PE X (.Name n p) to → PA X [e] t → PE X (.Call (.Attribute (.Name n p) "extend" ap) [e] [] cp) (tBM X.K "list" rExtend to t) := by exact fun _ _ ho ha => pe_bm PySem.F.plainAttrs_list PySem.F.slot_list_extend PySem.F.type_list_extend mt_extend ho ha)
    (hs : swapsWith (.Call (.Attribute (.Name n p) "extend" ap) [e] [] cp) none pos.line X.env = pure false := by rfl) :
    SX X U Γ (.Expr (.Call (.Attribute (.Name n p) "extend" ap) [e] [] cp) pos :: rest) I (m.bind fun ys => (chk (xs.length + ys.length ≤ sizeLine) ()).bind fun _ => k ys) :=
  ⟨fun en F σ H D s h => wSs_of (pss_cons (ps_expr (hpe _ _ (pe_var hN hv hd hcd) (pa_cons wE_pe pa_nil h1)) hs) wSs_pss) (by
    obtain ⟨p, o, g1, g2, g3, ⟨vs, eo, rl⟩, g5, g6⟩ := s.own i _ _ hΓ
    subst eo
    refine ⟨.ref p, g1, .inl ⟨rfl, _, .inl (.inl g3)⟩, ?_⟩
    refine he.out en F σ H _ s (wpR_mono (wpR_bind h) (fun ys q u F1 H1 e1 s1 ry => ?_) fun _ z => z)
    obtain ⟨p1, o1, f1, f2, f3, ⟨ws, eo, rl1⟩, f5, f6⟩ := s1.own i _ _ hΓ
    subst eo
    have ep : p1 = p := by
      rw [g1] at f1
      injection f1 with f1
      injection f1 with f1
      injection f1 with f1
      exact f1.symm
    subst ep
    obtain ⟨q0, us, eu, hq0, ru⟩ := ry
    subst eu
    obtain ⟨hl, q⟩ := wpR_chk (wpR_bind q)
    refine ⟨p1, q0, ws, us, rfl, rfl, f3, s1.sub q0 _ hq0, by rw [← rl1.length, ← ru.length]; exact hl, ?_⟩
    exact (hr ys).out en F1 σ _ D (s1.mut hΓ f1 ⟨ws ++ us, rfl, rl1.append ru⟩) (wpR_mono q (fun o z => z.up e1) fun _ z => z.up e1))⟩
/-- .. gives up a dict -/
theorem s_giveD {ρ : Rp κ} {ky : Ky ρ} {π : Rp ν} {x : List (κ × ν)} {m : R ω} {a0 : Option Addr} (i : Nat) (hΓ : Γ[i]? = some (.own a0 (oD ky π x))) (hr : SX X U (Γ.set i (im (rD ky π) x)) sts I m) : SX X U Γ sts I m :=
  ⟨fun en F σ H D s h => by
    obtain ⟨p, o, h1, h2, h3, h4, h5, h6⟩ := s.own i _ _ hΓ
    obtain ⟨vs, e, r⟩ := h4
    subst e
    refine wSs_lock h3 trivial fun od => ?_
    have hi : i < Γ.length := (List.getElem?_eq_some_iff.mp hΓ).1
    have s1 := s.mut (o' := .frz od (.dT vs)) (P' := ⟨fun _ o => o = .frz od (.dT vs), fun _ h => h, fun h ws z => by rw [h] at z; cases z⟩) hΓ h1 rfl
    have g := s1.give (List.getElem?_set_self hi) h1 upd_same
    rw [List.set_set] at g
    have sf : Same F (upd F p (.frz od (.dT vs))) := Same.upd h2
    have hl : i < σ.length := by
      by_cases z : i < σ.length
      · exact z
      · rw [List.getElem?_eq_none (by omega)] at h1
        cases h1
    have rr : (rD ky π).rep x (upd F p (.frz od (.dT vs))) (.ref p) := ⟨p, vs, rfl, ⟨od, upd_same⟩, RepD.mono sf r⟩
    have g2 := SA.put (i := i) (P := ⟨fun H v => (rD ky π).rep x H v, fun e h => (rD ky π).mono e h⟩) (v := .ref p) g rr
    rw [List.set_set] at g2
    have e2 : σ.set i (some (.ref p)) = σ := by
      apply List.ext_getElem?
      intro j
      by_cases ej : i = j
      · subst ej
        rw [List.getElem?_set_self hl, h1]
      · rw [List.getElem?_set_ne ej]
    rw [e2] at g2
    exact hr.out en _ σ _ D g2 (wpR_mono h (fun o z => z.up sf) fun _ z => z.up sf)⟩

/-! ### dicts -/
theorem f_dict {ρ : Rp κ} {ky : Ky ρ} {π : Rp ν} : FX X U Γ (.Dict [] [] pos) (fun _ : Unit => oD ky π []) (.ok ()) :=
  ⟨fun en F σ H Q s h => wE_of pe_dnewT fun p hp => h p (.dT []) F _ (Same.refl F) (s.lay hp).1 (s.lay hp).2 ⟨[], rfl, .nil⟩⟩
/-- where a dict is read: in a slot of one's own, or known -/
structure DG (X : Cx) (U : Wi) (Γ : List Sl) (e : Expr) {κ ν : Type} {ρ : Rp κ} (ky : Ky ρ) (π : Rp ν) (m : R (List (κ × ν))) : Prop where
  out : ∀ en F σ H Q, SA en Γ F σ H → wpR m (fun w => ∀ p kvs F' H', Same F F' → SA en Γ F' σ H' → Rd H' p (.dT kvs) → RepD ky π F' w kvs → (∀ F2 H2, Same F' F2 → SA en Γ F2 σ H2 → ∃ kvs, Rd H2 p (.dT kvs) ∧ RepD ky π F2 w kvs) → Q (.ref p) H') (U.ok X.mg en F) → wE X e σ H Q
theorem d_imm {ρ : Rp κ} {ky : Ky ρ} {π : Rp ν} {m : R (List (κ × ν))} (h : EX X U Γ e (rD ky π) m) : DG X U Γ e ky π m :=
  ⟨fun en F σ H Q s q => h.out en F σ H Q s (wpR_mono q (fun w k v F' H' e1 s1 ⟨p, kvs, ev, ⟨od, hp⟩, r⟩ => by
    subst ev
    exact k p kvs F' H' e1 s1 (.inr ⟨od, s1.sub p _ hp⟩) r fun F2 H2 e2 s2 => ⟨kvs, .inr ⟨od, s2.sub p _ (e2 p _ hp)⟩, RepD.mono e2 r⟩) fun _ z => z)⟩
/-- a comparison by a rule of its own -/
structure CG (X : Cx) (U : Wi) (Γ : List Sl) (op : CmpOp) (a b : Expr) (m : R Bool) : Prop where
  out : ∃ t, PC X op a b t ∧ ∀ en F σ H Q, SA en Γ F σ H → wpR m (fun w => ∀ F' H', Same F F' → SA en Γ F' σ H' → Q (.bl w) H') (U.ok X.mg en F) → t σ H Q
theorem c_val {op : CmpOp} {m : R Bool} (h : CG X U Γ op a b m) (hm : behindInMarks op b = false := by first | exact nomark _ | rfl) : EX X U Γ (.Compare a [op] [b] pos) rB m := by
  obtain ⟨t, h1, h2⟩ := h.out
  exact ⟨fun en F σ H Q s q => wE_of (pe_cmp h1 hm) (h2 en F σ H Q s (wpR_mono q (fun w k F' H' e1 s1 => k _ F' H' e1 s1 rfl) fun _ z => z))⟩
theorem c_tst {op : CmpOp} {m : R Bool} (h : CG X U Γ op a b m) (hm : behindInMarks op b = false := by first | exact nomark _ | rfl) : BX X U Γ (.Compare a [op] [b] pos) m := by
  obtain ⟨t, h1, h2⟩ := h.out
  exact ⟨fun en F σ H Q s q => wT_of (pt_cmp h1 hm) (h2 en F σ H _ s (wpR_mono q (fun w k F' H' e1 s1 => ⟨w, rfl, k F' H' e1 s1⟩) fun _ z => z))⟩
theorem c_isN {α : Type} {ρ : Rp α} {m : R (Option α)} {j} {pos' : Pos} (hr : ∀ x F, ¬ ρ.rep x F .non) (ha : EX X U Γ a (rO ρ) m) : CG X U Γ .Is a (.Constant .none j pos') (m.bind fun x => .ok x.isNone) :=
  ⟨_, pc_isN wE_pe, fun en F σ H Q s h => ha.out en F σ H _ s (wpR_mono (wpR_bind h) (fun x k v F1 H1 e1 s1 r1 => by
    have k' := k F1 H1 e1 s1
    cases x with
    | none =>
      rw [show v = .non from r1]
      exact k'
    | some x =>
      have : v ≠ .non := fun z => hr x F1 (by rw [← z]; exact r1)
      show Q (V.bl (decide (v = .non))) H1
      rw [decide_eq_false this]
      exact k') fun _ z => z)⟩
theorem c_notN {α : Type} {ρ : Rp α} {m : R (Option α)} {j} {pos' : Pos} (hr : ∀ x F, ¬ ρ.rep x F .non) (ha : EX X U Γ a (rO ρ) m) : CG X U Γ .IsNot a (.Constant .none j pos') (m.bind fun x => .ok x.isSome) :=
  ⟨_, pc_notN wE_pe, fun en F σ H Q s h => ha.out en F σ H _ s (wpR_mono (wpR_bind h) (fun x k v F1 H1 e1 s1 r1 => by
    have k' := k F1 H1 e1 s1
    cases x with
    | none =>
      rw [show v = .non from r1]
      exact k'
    | some x =>
      have : v ≠ .non := fun z => hr x F1 (by rw [← z]; exact r1)
      show Q (V.bl (!decide (v = .non))) H1
      rw [decide_eq_false this]
      exact k') fun _ z => z)⟩
theorem dget_ok [DecidableEq κ] {ρ : Rp κ} {ky : Ky ρ} {π : Rp ν} {x : List (κ × ν)} {kvs : List (List Key × V)} {k : κ} {v : V} {p : Addr} {F H : Hp} (hp : Rd H p (.dT kvs)) (r : RepD ky π F x kvs) (rk : ρ.rep k H v) :
    ∃ o, DGet H p v o ∧ o.isSome = (dGet x k).isSome ∧ ∀ y, dGet x k = some y → ∃ w, o = some w ∧ π.rep y F w := by
  obtain ⟨b, ev, hb⟩ := ky.rep k H v rk
  subst ev
  refine ⟨_, .inr ⟨kvs, _, b, hp, rfl, hb, rfl⟩, ?_, ?_⟩
  · have g := r.get k
    cases h : dGet x k with
    | none =>
      rw [h] at g
      rw [g] <;> rfl
    | some y =>
      rw [h] at g
      obtain ⟨w, hw, _⟩ := g
      rw [hw] <;> rfl
  · intro y h
    have g := r.get k
    rw [h] at g
    exact g
theorem c_in [DecidableEq κ] {ρ : Rp κ} {ky : Ky ρ} {π : Rp ν} {mk : R κ} {md : R (List (κ × ν))} (hu : X.A.units + 1 < cLine) (ha : EX X U Γ a ρ mk) (hd : DG X U Γ b ky π md) : CG X U Γ .In a b (mk.bind fun k => md.bind fun d => .ok (dGet d k).isSome) :=
  ⟨_, pc_din hu wE_pe wE_pe, fun en F σ H Q s h => ha.out en F σ H _ s (wpR_mono (wpR_bind h) (fun k q v F1 H1 e1 s1 r1 => hd.out en F1 σ H1 _ s1 (wpR_mono (wpR_bind q) (fun d q p kvs F2 H2 e2 s2 hp r2 _ => by
    obtain ⟨o, g1, g2, _⟩ := dget_ok hp r2 (ρ.mono (e2.trans s2.sub) r1)
    exact ⟨p, o, rfl, g1, by rw [g2]; exact q F2 H2 (e1.trans e2) s2⟩) fun _ z => z.up e1)) fun _ z => z)⟩
theorem c_nin [DecidableEq κ] {ρ : Rp κ} {ky : Ky ρ} {π : Rp ν} {mk : R κ} {md : R (List (κ × ν))} (hu : X.A.units + 1 < cLine) (ha : EX X U Γ a ρ mk) (hd : DG X U Γ b ky π md) : CG X U Γ .NotIn a b (mk.bind fun k => md.bind fun d => .ok !(dGet d k).isSome) :=
  ⟨_, pc_dnotin hu wE_pe wE_pe, fun en F σ H Q s h => ha.out en F σ H _ s (wpR_mono (wpR_bind h) (fun k q v F1 H1 e1 s1 r1 => hd.out en F1 σ H1 _ s1 (wpR_mono (wpR_bind q) (fun d q p kvs F2 H2 e2 s2 hp r2 _ => by
    obtain ⟨o, g1, g2, _⟩ := dget_ok hp r2 (ρ.mono (e2.trans s2.sub) r1)
    exact ⟨p, o, rfl, g1, by rw [g2]; exact q F2 H2 (e1.trans e2) s2⟩) fun _ z => z.up e1)) fun _ z => z)⟩
/-- d[k] = v, d in slot i -/
theorem s_dput [DecidableEq κ] {ρ : Rp κ} {ky : Ky ρ} {π : Rp ν} {x : List (κ × ν)} {mk : R κ} {mv : R ν} {k : ν → κ → R ω} {p p' : Pos} (i : Nat) (hu : X.A.units + 1 < cLine) (hv : EX X U Γ e π mv) (hk : EX X U Γ a ρ mk)
    (hr : ∀ v y, SX X U (Γ.set i (.own a0 (oD ky π (dPut x y v)))) rest I (k v y)) (hΓ : Γ[i]? = some (.own a0 (oD ky π x)) := by rfl) (hN : X.N[i]? = some n := by rfl) (hvi : Vis X.env.scope n := by first | exact Or.inl rfl | exact Or.inr (Or.inl rfl) | exact Or.inr (Or.inr rfl))
    (hd : (n == ("__debug__" : Str)) = false := by decide) (hcd : (n == ("__classdict__" : Str)) = false := by decide) (hs : swapsWith e (some (.Subscript (.Name n p) a p')) pos.line X.env = pure false := by rfl) :
    SX X U Γ (.Assign [.Subscript (.Name n p) a p'] e pos :: rest) I (mv.bind fun v => mk.bind fun y => (chk (x.length < sizeLine) ()).bind fun _ => k v y) :=
  ⟨fun en F σ H D s h => wSs_of (pss_cons (ps_dput hu (pe_var hN hvi hd hcd) wE_pe wE_pe hs) wSs_pss) (hv.out en F σ H _ s (wpR_mono (wpR_bind h) (fun v q w F1 H1 e1 s1 r1 => by
    obtain ⟨p, o, g1, g2, g3, ⟨kvs, eo, r⟩, g5, g6⟩ := s1.own i _ _ hΓ
    refine ⟨.ref p, g1, hk.out en F1 σ H1 _ s1 (wpR_mono (wpR_bind q) (fun y q u F2 H2 e2 s2 r2 => ?_) fun _ z => z.up e1)⟩
    obtain ⟨p2, o2, f1, f2, f3, ⟨kvs2, eo2, r3⟩, f5, f6⟩ := s2.own i _ _ hΓ
    subst eo2
    rw [g1] at f1
    injection f1 with f1
    injection f1 with f1
    injection f1 with f1
    subst f1
    obtain ⟨hl, q⟩ := wpR_chk (wpR_bind q)
    obtain ⟨b, eu, hb⟩ := ky.rep y H2 u (ρ.mono s2.sub r2)
    subst eu
    refine ⟨p, _, rfl, DPut.t f3 hb (by rw [← r3.length]; exact hl), ?_⟩
    exact (hr v y).out en F2 σ _ D (s2.mut hΓ g1 ⟨_, rfl, r3.put (π.mono e2 r1)⟩) (wpR_mono q (fun o z => z.up (e1.trans e2)) fun _ z => z.up (e1.trans e2))) fun _ z => z))⟩
end

/-! ### sorted(set(..)) of cells: see the part on sets -/
/-- the order of cells -/
def ltC (a b : Int × Int) : Bool := decide (a.1 < b.1 ∨ (a.1 = b.1 ∧ a.2 < b.2))
/-- put in its place, once -/
def insC (x : Int × Int) : List (Int × Int) → List (Int × Int)
  | [] => [x]
  | y :: r => if ltC x y = true then x :: y :: r else if x = y then y :: r else y :: insC x r
/-- the rising list of these cells -/
def rise (xs : List (Int × Int)) : List (Int × Int) := xs.foldr insC []
end Py

/-! Own layer, part S: sets of tuples of ints of any size below 9800, of a list or a tuple. The library's own rule ends at 64; here the table may have any power of two of slots. -/
namespace Py
open PySem PySem.Spec PyProof.Rows L2

/-! ### i -> 5 i + 1 meets every slot of a table of 2^k -/
def sN : Nat → Nat
  | 0 => 0
  | b + 1 => 5 * sN b + 1
theorem sN_add (a : Nat) : ∀ b, sN (a + b) = 5 ^ b * sN a + sN b
  | 0 => by simp [sN]
  | b + 1 => by
    show 5 * sN (a + b) + 1 = 5 ^ (b + 1) * sN a + (5 * sN b + 1)
    rw [sN_add a b, Nat.pow_succ, Nat.mul_add, Nat.mul_comm (5 ^ b) 5, Nat.mul_assoc, Nat.add_assoc]
theorem sN_four : ∀ a, 5 ^ a = 4 * sN a + 1
  | 0 => rfl
  | a + 1 => by
    rw [Nat.pow_succ, sN_four a]
    show (4 * sN a + 1) * 5 = 4 * (5 * sN a + 1) + 1
    omega
theorem sN_pow : ∀ k, ∃ q, sN (2 ^ k) = 2 ^ k * (2 * q + 1)
  | 0 => ⟨0, rfl⟩
  | k + 1 => by
    obtain ⟨q, e⟩ := sN_pow k
    have h : sN (2 ^ (k + 1)) = (2 * sN (2 ^ k)) * (2 * sN (2 ^ k) + 1) := by
      rw [Nat.pow_succ, Nat.mul_two, sN_add, sN_four]
      generalize sN (2 ^ k) = x
      rw [Nat.mul_add, Nat.add_mul, Nat.mul_one, Nat.one_mul, show 2 * x * (2 * x) = 4 * x * x by rw [← Nat.mul_assoc, Nat.mul_comm (2 * x) 2, ← Nat.mul_assoc]]
      omega
    refine ⟨2 * (2 ^ k * (2 * q + 1)) * q + 2 ^ k * (2 * q + 1) + q, ?_⟩
    rw [h, e]
    generalize hr : 2 ^ k * (2 * q + 1) = r
    have e1 : 2 * r = 2 ^ (k + 1) * (2 * q + 1) := by rw [← hr, Nat.pow_succ, Nat.mul_comm (2 ^ k) 2, Nat.mul_assoc]
    rw [e1, Nat.mul_assoc]
    congr 1
    rw [← e1, Nat.mul_add, Nat.mul_one, Nat.add_mul, Nat.one_mul]
    have e2 : 2 * q * (2 * r) = 2 * (2 * r * q) := by rw [Nat.mul_comm (2 * q), Nat.mul_left_comm]
    omega
theorem mod_two {M y j : Nat} (h : j < M) : (M * y + j) % (2 * M) = M * (y % 2) + j := by
  have e : M * y + j = (2 * M) * (y / 2) + (M * (y % 2) + j) := by
    have d := Nat.div_add_mod y 2
    have e1 : M * y = M * (2 * (y / 2)) + M * (y % 2) := by rw [← Nat.mul_add, d]
    rw [e1, show M * (2 * (y / 2)) = 2 * M * (y / 2) by rw [Nat.mul_comm 2 M, Nat.mul_assoc], Nat.add_assoc]
  rw [e, Nat.mul_add_mod]
  refine Nat.mod_eq_of_lt ?_
  have z : y % 2 < 2 := Nat.mod_lt _ (by decide)
  rcases (show y % 2 = 0 ∨ y % 2 = 1 by omega) with q | q <;> rw [q] <;> omega
theorem sN_hit : ∀ k j, j < 2 ^ k → ∃ b, b < 2 ^ k ∧ sN b % 2 ^ k = j
  | 0, j, h => ⟨0, Nat.one_pos, by
    have : j = 0 := Nat.lt_one_iff.mp h
    rw [this] <;> rfl⟩
  | k + 1, j, h => by
    have M0 : 0 < 2 ^ k := Nat.pow_pos (by decide)
    obtain ⟨b, hb, e⟩ := sN_hit k (j % 2 ^ k) (Nat.mod_lt _ M0)
    obtain ⟨q, eq⟩ := sN_pow k
    have hp : 2 ^ (k + 1) = 2 * 2 ^ k := by rw [Nat.pow_succ, Nat.mul_comm]
    rw [hp] at h ⊢
    generalize hM : 2 ^ k = M at *
    have jlt : j % M < M := Nat.mod_lt _ M0
    have ej : j = M * (j / M) + j % M := (Nat.div_add_mod j M).symm
    have jd : j / M < 2 := Nat.div_lt_of_lt_mul (by rw [Nat.mul_comm]; exact h)
    have ex : sN b = M * (sN b / M) + j % M := by
      have z := Nat.div_add_mod (sN b) M
      rw [e] at z
      exact z.symm
    by_cases c : (sN b / M) % 2 = j / M
    · refine ⟨b, by omega, ?_⟩
      rw [ex, mod_two jlt, c, ← ej]
    · refine ⟨M + b, by omega, ?_⟩
      have odd : sN (M + b) = M * ((4 * sN b + 1) * (2 * q + 1) + sN b / M) + j % M := by
        rw [sN_add, sN_four, eq, Nat.mul_left_comm, Nat.mul_add M, Nat.add_assoc, ← ex]
      rw [odd, mod_two jlt]
      have o2 : ((4 * sN b + 1) * (2 * q + 1) + sN b / M) % 2 = j / M := by
        have o1 : ((4 * sN b + 1) * (2 * q + 1)) % 2 = 1 := by
          rw [Nat.mul_mod]
          have a1 : (4 * sN b + 1) % 2 = 1 := by omega
          have a2 : (2 * q + 1) % 2 = 1 := by omega
          rw [a1, a2]
        generalize (4 * sN b + 1) * (2 * q + 1) = u at o1 ⊢
        generalize sN b / M = v at c ⊢
        generalize j / M = y at c jd ⊢
        omega
      rw [o2, ← ej]
theorem lcg_sN (m : Nat) : ∀ b, lcgN m b = sN b % (m + 1)
  | 0 => rfl
  | b + 1 => by
    show (lcgN m b * 5 + 1) % (m + 1) = (5 * sN b + 1) % (m + 1)
    rw [lcg_sN m b, Nat.mul_comm, Nat.add_mod, Nat.mul_mod, Nat.mod_mod, ← Nat.mul_mod, ← Nat.add_mod]
/-- the masks of tables of up to 32768 slots -/
def MB (m : Nat) : Prop := ∃ k, (k = 3 ∨ k = 5 ∨ k = 7 ∨ k = 9 ∨ k = 11 ∨ k = 13 ∨ k = 15) ∧ m + 1 = 2 ^ k
theorem MB.le {m : Nat} (h : MB m) : 7 ≤ m ∧ m ≤ 32767 ∧ m % 2 = 1 := by
  obtain ⟨k, c, e⟩ := h
  rcases c with c | c | c | c | c | c | c <;> subst c <;> simp at e <;> omega
theorem MB.cases {m : Nat} (h : MB m) : m = 7 ∨ m = 31 ∨ m = 127 ∨ m = 511 ∨ m = 2047 ∨ m = 8191 ∨ m = 32767 := by
  obtain ⟨k, c, e⟩ := h
  rcases c with c | c | c | c | c | c | c <;> subst c <;> simp at e <;> omega
theorem mb7 : MB 7 := ⟨3, by decide, rfl⟩
theorem mb31 : MB 31 := ⟨5, by decide, rfl⟩
theorem mb127 : MB 127 := ⟨7, by decide, rfl⟩
theorem mb511 : MB 511 := ⟨9, by decide, rfl⟩
theorem mb2047 : MB 2047 := ⟨11, by decide, rfl⟩
theorem mb8191 : MB 8191 := ⟨13, by decide, rfl⟩
theorem mb32767 : MB 32767 := ⟨15, by decide, rfl⟩
/-- a table that becomes too full is made four times as large -/
theorem grows {m n : Nat} (h : MB m) (h1 : m * 3 ≤ (n + 1) * 5) (h2 : n * 5 < m * 3) (h3 : n < 9800) : ∃ M, SetTable.sizeAbove (SetTable.grown (n + 1)) = M + 1 ∧ MB M ∧ (n + 1) * 5 < M * 3 := by
  rcases h.cases with e | e | e | e | e | e | e <;> subst e
  · obtain rfl : n = 4 := by omega
    exact ⟨31, by decide +kernel, mb31, by decide⟩
  · obtain rfl : n = 18 := by omega
    exact ⟨127, by decide +kernel, mb127, by decide⟩
  · obtain rfl : n = 76 := by omega
    exact ⟨511, by decide +kernel, mb511, by decide⟩
  · obtain rfl : n = 306 := by omega
    exact ⟨2047, by decide +kernel, mb2047, by decide⟩
  · obtain rfl : n = 1228 := by omega
    exact ⟨8191, by decide +kernel, mb8191, by decide⟩
  · obtain rfl : n = 4914 := by omega
    exact ⟨32767, by decide +kernel, mb32767, by decide⟩
  · omega
theorem lcg_turn {m : Nat} (hm : MB m) (b : Nat) : lcgN m (m + 1 + b) = lcgN m b := by
  obtain ⟨k, _, e⟩ := hm
  obtain ⟨q, eq⟩ := sN_pow k
  rw [lcg_sN, lcg_sN, sN_add, e, eq, Nat.mul_left_comm, Nat.mul_add_mod]
theorem lcg_meets {m i j : Nat} (hm : MB m) (hi : i ≤ m) (hj : j ≤ m) : ∃ n, n ≤ m ∧ lcgI m i n = j := by
  have hm' := hm
  obtain ⟨k, _, e⟩ := hm
  obtain ⟨a, ha, ea⟩ := sN_hit k i (by omega)
  obtain ⟨b, hb, eb⟩ := sN_hit k j (by omega)
  rw [← e] at ha ea hb eb
  rw [← lcg_sN] at ea eb
  subst ea
  by_cases c : a ≤ b
  · exact ⟨b - a, by omega, by rw [lcgN_add, Nat.add_sub_cancel' c, eb]⟩
  · exact ⟨b + (m + 1) - a, by omega, by rw [lcgN_add, show a + (b + (m + 1) - a) = m + 1 + b by omega, lcg_turn hm', eb]⟩
theorem slot_run {m j : Nat} (hm : MB m) (h : Int) (hj : j ≤ m) : ∃ n, n ≤ m + 12 ∧ runI m (SetTable.bits h) n = j := by
  obtain ⟨n, hn, e⟩ := lcg_meets hm (runI_le m (SetTable.bits h) 12) hj
  exact ⟨12 + n, Nat.add_comm m 12 ▸ Nat.add_le_add_left hn 12, (runI_tail (bits_lt h) n).trans e⟩
theorem way_in (m : Nat) (h : Int) (k : Nat) : way m h k ≤ m := by
  have i0 : SetTable.bits h % (m + 1) ≤ m := Nat.le_of_lt_succ (Nat.mod_lt _ (Nat.succ_pos _))
  have z : (runAt m (SetTable.bits h % (m + 1)) (SetTable.bits h)).j + (runAt m (SetTable.bits h % (m + 1)) (SetTable.bits h)).more ≤ m := by
    have r := runEnd_bd i0
    simp only [runAt]
    omega
  have q := nth_in k _ z
  exact Nat.le_trans (Nat.le_add_right _ _) q
theorem way_meets {m j : Nat} (hm : MB m) (h : Int) (hj : j ≤ m) : ∃ k, k < 10 * SetTable.turns m ∧ way m h k = j := by
  obtain ⟨n, hn, e⟩ := slot_run hm h hj
  obtain ⟨k, hk, e2⟩ := run_nth m (SetTable.bits h) n
  exact ⟨k, by simp only [SetTable.turns]; omega, (congrArg SetTable.Probe.j e2).trans e⟩
theorem lcg_inj {m a b : Nat} (hm : MB m) (ha : a ≤ m) (hb : b ≤ m) (e : lcgN m a = lcgN m b) : a = b := by
  obtain ⟨k, _, em⟩ := hm
  have pl : ((List.range (m + 1)).map (lcgN m)).Perm (List.range (m + 1)) := perm_range (m + 1) _ (by simp) fun j hj => by
    obtain ⟨x, hx, ex⟩ := sN_hit k j (by omega)
    exact List.mem_map.mpr ⟨x, List.mem_range.mpr (by omega), by rw [lcg_sN, em, ex]⟩
  have nd : ((List.range (m + 1)).map (lcgN m)).Nodup := pl.nodup_iff.mpr List.nodup_range
  have pw : ∀ x y, x < y → y ≤ m → lcgN m x ≠ lcgN m y := fun x y h1 h2 => by
    have z := List.pairwise_iff_getElem.mp nd x y (by simp; omega) (by simp; omega) h1
    simpa using z
  rcases Nat.lt_trichotomy a b with c | c | c
  · exact absurd e (pw a b c hb)
  · exact c
  · exact absurd e.symm (pw b a c ha)
theorem lcg_off {m i x y : Nat} (hm : MB m) (hi : i ≤ m) (hx : x ≤ m) (hy : y ≤ m) (e : lcgI m i x = lcgI m i y) : x = y := by
  have hm' := hm
  obtain ⟨k, _, em⟩ := hm
  obtain ⟨a, ha, ea⟩ := sN_hit k i (by omega)
  rw [← em] at ha ea
  rw [← lcg_sN] at ea
  subst ea
  rw [lcgN_add, lcgN_add] at e
  have r : ∀ z, z ≤ m → ∃ w, w ≤ m ∧ lcgN m (a + z) = lcgN m w ∧ (w = a + z ∨ w + (m + 1) = a + z) := fun z hz => by
    by_cases c : a + z ≤ m
    · exact ⟨a + z, c, rfl, .inl rfl⟩
    · refine ⟨a + z - (m + 1), by omega, ?_, .inr (by omega)⟩
      have t := lcg_turn hm' (a + z - (m + 1))
      rw [show m + 1 + (a + z - (m + 1)) = a + z by omega] at t
      exact t
  obtain ⟨u, u1, u2, u3⟩ := r x hx
  obtain ⟨v, v1, v2, v3⟩ := r y hy
  have := lcg_inj hm' u1 v1 (by rw [← u2, ← v2, e])
  omega
/-- few slots taken: few steps -/
theorem few_steps {m K : Nat} (hm : MB m) (h : Int) {ps : List Nat} (hl : ps.length ≤ m) (full : ∀ k, k < K → way m h k ∈ ps) : K ≤ 10 * (12 + ps.length) := by
  refine Classical.byContradiction fun no => ?_
  have i12 := runI_le m (SetTable.bits h) 12
  have nd : ((List.range (ps.length + 1)).map fun n => runI m (SetTable.bits h) (12 + n)).Nodup := by
    rw [List.Nodup, List.pairwise_map, List.pairwise_iff_getElem]
    intro x y hx hy lt z
    simp only [List.length_range] at hx hy
    rw [List.getElem_range, List.getElem_range, runI_tail (bits_lt h), runI_tail (bits_lt h)] at z
    have := lcg_off hm i12 (by omega) (by omega) z
    omega
  have z := nat_nodup_len _ ps nd fun x hx => by
    obtain ⟨n, hn, rfl⟩ := List.mem_map.mp hx
    have hn := List.mem_range.mp hn
    obtain ⟨k, hk, e2⟩ := run_nth m (SetTable.bits h) (12 + n)
    have w : way m h k = runI m (SetTable.bits h) (12 + n) := congrArg SetTable.Probe.j e2
    rw [← w]
    exact full k (by omega)
  rw [List.length_map, List.length_range] at z
  omega

/-! ### a table in which each hash finds its slot again -/
structure TB (t : SetTable) (hs : List Int) : Prop where
  up : Ris t.place.toList
  nod : t.dummies = #[]
  len : t.place.size = hs.length
  msk : MB t.mask
  low : ∀ x ∈ t.place.toList, x ≤ t.mask
  met : ∀ (i : Nat) (h : Int) (j : Nat), hs[i]? = some h → t.place.toList[i]? = some j → ∃ k, way t.mask h k = j ∧ ∀ n, n < k → way t.mask h n ∈ t.place.toList
/-- the way of h ends at step K, the first that is free -/
structure Ends (t : SetTable) (h : Int) (K : Nat) : Prop where
  free : way t.mask h K ∉ t.place.toList
  full : ∀ k, k < K → way t.mask h k ∈ t.place.toList
theorem TB.ends {t : SetTable} {hs : List Int} (T : TB t hs) (hl : hs.length ≤ t.mask) (h : Int) : ∃ K, K < 10 * SetTable.turns t.mask ∧ Ends t h K := by
  obtain ⟨j, j1, j2⟩ := st_missing t.place.toList (t.mask + 1) (by rw [Array.length_toList, T.len]; omega)
  obtain ⟨k, k1, rfl⟩ := way_meets T.msk h (Nat.le_of_lt_succ j1)
  obtain ⟨K, a, b, c⟩ := st_least (p := fun k => way t.mask h k ∉ t.place.toList) k j2
  exact ⟨K, Nat.lt_of_le_of_lt a k1, b, fun n hn => Classical.byContradiction fun z => c n hn z⟩
theorem TB.ahead {t : SetTable} {hs : List Int} (T : TB t hs) {h : Int} {K i j : Nat} (e : Ends t h K) (hi : hs[i]? = some h) (hj : t.place.toList[i]? = some j) : ∃ k, k < K ∧ way t.mask h k = j := by
  obtain ⟨k, rfl, q⟩ := T.met i h j hi hj
  refine ⟨k, Classical.byContradiction fun z => ?_, rfl⟩
  rcases Nat.lt_or_eq_of_le (Nat.not_lt.mp z) with c | c
  · exact e.free (q K c)
  · exact e.free (c ▸ List.mem_of_getElem? hj)
/-- where in a row of slots j would stand -/
abbrev bel (t : SetTable) (j : Nat) : Nat := SetTable.below t.place j
structure PutOk (t : SetTable) (hs : List Int) (h : Int) (j : Nat) : Prop where
  at_ : (t.put j).2 = bel t j
  le : bel t j ≤ hs.length
  tab : TB (t.put j).1 (hs.take (bel t j) ++ h :: hs.drop (bel t j))
  msk : (t.put j).1.mask = t.mask
  led : (t.put j).1.led = t.led
  pla : (t.put j).1.plain = t.plain
  fil : (t.put j).1.fill = hs.length + 1
theorem TB.put {t : SetTable} {hs : List Int} (T : TB t hs) {h : Int} {K : Nat} (e : Ends t h K) : PutOk t hs h (way t.mask h K) := by
  have jm := way_in t.mask h K
  generalize ej : way t.mask h K = j at jm
  have free : j ∉ t.place.toList := ej ▸ e.free
  have cut := (below_cut T.up j).1
  have l1 : bel t j ≤ t.place.toList.length := by rw [Array.length_toList]; exact cut
  have l2 : bel t j ≤ hs.length := T.len ▸ cut
  have len : t.place.toList.length = hs.length := (Array.length_toList).trans T.len
  have pl := put_place t j
  have size : (t.put j).1.place.size = hs.length + 1 := by
    have z := congrArg List.length pl
    rw [len_ins _ l1, len, Array.length_toList] at z
    exact z
  have keep : ∀ x, x ∈ t.place.toList → x ∈ (t.put j).1.place.toList := fun x hx => pl ▸ mem_ins.2 (.inr hx)
  refine ⟨rfl, l2, ⟨ris_insert T.up fun z => free (List.mem_of_getElem? ((Array.getElem?_toList ..).trans z)), put_dm T.nod j, size.trans (len_ins _ l2 h).symm, T.msk, ?_, ?_⟩, rfl, rfl, rfl, ?_⟩
  · intro x hx
    rw [pl] at hx
    exact (mem_ins.1 hx).elim (fun z => z ▸ jm) (T.low x)
  · intro i g y g1 g2
    rw [tins_get hs l2] at g1
    rw [pl, tins_get _ l1] at g2
    have old : ∀ i', hs[i']? = some g → t.place.toList[i']? = some y → ∃ k, way t.mask g k = y ∧ ∀ n, n < k → way t.mask g n ∈ (t.put j).1.place.toList := fun i' a b => by
      obtain ⟨k, c, d⟩ := T.met i' g y a b
      exact ⟨k, c, fun n hn => keep _ (d n hn)⟩
    split at g1 <;> rename_i c
    · rw [if_pos c] at g2
      exact old i g1 g2
    · rw [if_neg c] at g2
      split at g1 <;> rename_i d
      · rw [if_pos d] at g2
        cases g1
        cases g2
        exact ⟨K, ej, fun n hn => keep _ (e.full n hn)⟩
      · rw [if_neg d] at g2
        exact old (i - 1) g1 g2
  · show (t.put j).1.place.size + (t.put j).1.dummies.size = _
    rw [put_dm T.nod j, size]
    rfl

/-! ### the table laid anew -/
theorem free_way {m j : Nat} (hm : MB m) (owner : Array (Option Nat)) (h : Int) (hj : j ≤ m) (hf : oAt owner j = none) :
    ∃ K, SetTable.layClean.free m owner (SetTable.turns m) (SetTable.bits h % (m + 1)) (SetTable.bits h) = some (way m h K) ∧ oAt owner (way m h K) = none ∧ ∀ k, k < K → oAt owner (way m h k) ≠ none := by
  obtain ⟨n, n1, rfl⟩ := slot_run hm h hj
  have e : way m h (off m (SetTable.bits h % (m + 1)) (SetTable.bits h) n) = runI m (SetTable.bits h) n := by
    show (nth m _ _).j = _
    rw [nth_off, itL_run]
    rfl
  obtain ⟨K, a, b, c⟩ := st_least (p := fun k => oAt owner (way m h k) = none) _ (e ▸ hf : oAt owner (way m h (off m (SetTable.bits h % (m + 1)) (SetTable.bits h) n)) = none)
  refine ⟨K, free_spec m owner (SetTable.turns m) n _ _ K (by simp only [SetTable.turns]; omega) a (fun k hk => ?_) ?_, b, c⟩
  · have z := c k hk
    cases y : oAt owner (way m h k) with
    | none => exact absurd y z
    | some v => rfl
  · exact (congrArg Option.isNone b : _)
theorem own_step {m : Nat} (hm : MB m) {done : List Int} {owner : Array (Option Nat)} (W : Own m done owner) (hl : done.length ≤ m) (h : Int) :
    ∃ j, SetTable.layClean.free m owner (SetTable.turns m) (SetTable.bits h % (m + 1)) (SetTable.bits h) = some j ∧ Own m (done ++ [h]) (owner.setIfInBounds j (some done.length)) := by
  obtain ⟨ps, p1, p2⟩ := W.ps
  obtain ⟨i, i1, i2⟩ := st_missing ps (m + 1) (p1 ▸ Nat.lt_succ_of_le hl)
  have hi : oAt owner i = none := Classical.byContradiction fun z => i2 (p2 i (Nat.le_of_lt_succ i1) z)
  obtain ⟨K, a, b, c⟩ := free_way hm owner h (Nat.le_of_lt_succ i1) hi
  have jm := way_in m h K
  refine ⟨_, a, ?_⟩
  generalize ej : way m h K = j at b jm
  have new : oAt (owner.setIfInBounds j (some done.length)) j = some done.length := oAt_set_self _ (by rw [W.sz]; omega)
  have old : ∀ x, x ≠ j → oAt (owner.setIfInBounds j (some done.length)) x = oAt owner x := fun x hx => oAt_set_ne _ hx
  have still : ∀ x, oAt owner x ≠ none → oAt (owner.setIfInBounds j (some done.length)) x ≠ none := fun x hx => by
    rw [old x fun z => hx (z ▸ b)]
    exact hx
  constructor
  · simpa using W.sz
  · intro x k hx e
    by_cases q : x = j
    · subst q
      rw [new] at e
      cases e
      exact ⟨h, K, by simp, ej, fun n hn => still _ (c n hn)⟩
    · rw [old x q] at e
      obtain ⟨g, G, g1, g2, g3⟩ := W.at_ x k hx e
      exact ⟨g, G, by rw [List.getElem?_append_left (List.getElem?_eq_some_iff.mp g1).1, g1], g2, fun n hn => still _ (g3 n hn)⟩
  · intro k hk
    rcases Nat.lt_or_ge k done.length with q | q
    · obtain ⟨x, x1, x2⟩ := W.all k q
      exact ⟨x, x1, by rw [old x fun z => (by rw [z, b] at x2; cases x2)]; exact x2⟩
    · simp at hk
      exact ⟨j, jm, by rw [new, show k = done.length by omega]⟩
  · refine ⟨j :: ps, by simp [p1], fun x hx e => ?_⟩
    by_cases q : x = j
    · exact q ▸ List.mem_cons_self
    · rw [old x q] at e
      exact List.mem_cons_of_mem _ (p2 x hx e)
theorem own_fold {m : Nat} (hm : MB m) : ∀ (rest done : List Int) (owner : Array (Option Nat)), Own m done owner → done.length + rest.length ≤ m →
    ∃ o2, rest.foldl (stepF m) (some (owner, done.length)) = some (o2, done.length + rest.length) ∧ Own m (done ++ rest) o2
  | [], done, owner, W, _ => ⟨owner, rfl, (List.append_nil done).symm ▸ W⟩
  | h :: rest, done, owner, W, hl => by
    simp only [List.length_cons] at hl ⊢
    obtain ⟨j, a, W2⟩ := own_step hm W (by omega) h
    have z := own_fold hm rest _ _ W2 (by simp; omega)
    obtain ⟨o2, b, c⟩ := z
    simp only [List.length_append, List.length_cons, List.length_nil, Nat.zero_add, List.append_assoc, List.cons_append, List.nil_append] at b c
    refine ⟨o2, ?_, c⟩
    rw [List.foldl_cons, stepF_some a, b, show done.length + 1 + rest.length = done.length + (rest.length + 1) by omega]
theorem own_clean {m : Nat} (hm : MB m) {hs : Array Int} (hn : hs.size ≤ m) : ∃ owner, SetTable.layClean m hs = some owner ∧ Own m hs.toList owner := by
  obtain ⟨o, a, b⟩ := own_fold hm hs.toList [] _ (Own.init m) (by simpa using hn)
  refine ⟨o, ?_, b⟩
  rw [layClean_eq]
  exact congrArg (Option.map Prod.fst) a
structure Relaid (t : SetTable) (hs : Array Int) (wanted M : Nat) (t2 : SetTable) (ord : Array Nat) : Prop where
  eq : t.relaid hs wanted = some (t2, ord)
  perm : ord.toList.Perm (List.range hs.size)
  tab : TB t2 (ord.toList.map fun i => hs.getD i 0)
  msk : t2.mask = M
  led : t2.led = t.led
  pla : t2.plain = t.plain
theorem relaid_tb (t : SetTable) {hs : Array Int} {wanted M : Nat} (hw : SetTable.sizeAbove wanted - 1 = M) (hM : MB M) (hn : hs.size ≤ M) : ∃ t2 ord, Relaid t hs wanted M t2 ord := by
  obtain ⟨owner, a, W⟩ := own_clean hM hn
  have ris := ris_live (fun j => owner.getD j none) (List.range (M + 1)) (show List.Pairwise _ _ from List.pairwise_lt_range)
  have r1 : Ris ((liveOf M owner).map Prod.fst) := ris.1
  have nd : ((liveOf M owner).map Prod.fst).Nodup := r1.imp Nat.ne_of_lt
  have inl : ∀ j k, (j, k) ∈ liveOf M owner ↔ j ≤ M ∧ oAt owner j = some k := fun j k => mem_live W.sz
  have all2 : ∀ k, k < hs.size → k ∈ (liveOf M owner).map Prod.snd := fun k hk => by
    obtain ⟨j, j1, j2⟩ := W.all k (by simpa using hk)
    exact List.mem_map.mpr ⟨_, (inl j k).2 ⟨j1, j2⟩, rfl⟩
  have len : (liveOf M owner).length = hs.size := by
    obtain ⟨ps, p1, p2⟩ := W.ps
    have u := nat_nodup_len _ ps nd fun x hx => by
      obtain ⟨⟨y, k⟩, q, rfl⟩ := List.mem_map.mp hx
      have z := (inl y k).1 q
      exact p2 y z.1 (by rw [z.2]; exact fun h => nomatch h)
    have v := nat_nodup_len (List.range hs.size) _ List.nodup_range fun k hk => all2 k (List.mem_range.mp hk)
    simp only [List.length_map, List.length_range] at u v
    have e : hs.toList.length = hs.size := Array.length_toList
    omega
  refine ⟨tabOf t M owner, ((liveOf M owner).map Prod.snd).toArray, ?_, ?_, ⟨r1, rfl, ?_, hM, ?_, ?_⟩, rfl, rfl, rfl⟩
  · rw [relaid_eq, hw, a]
    rfl
  · exact perm_range hs.size _ (by rw [List.length_map, len]) all2
  · simp [tabOf]
  · intro x hx
    exact Nat.le_of_lt_succ (List.mem_range.mp (ris.2 x hx))
  · intro i h j g1 g2
    change (((liveOf M owner).map Prod.snd).map fun i => hs.getD i 0)[i]? = some h at g1
    change ((liveOf M owner).map Prod.fst)[i]? = some j at g2
    rw [List.getElem?_map, List.getElem?_map] at g1
    rw [List.getElem?_map] at g2
    cases q : (liveOf M owner)[i]? with
    | none => rw [q] at g2; cases g2
    | some y =>
      obtain ⟨y, k⟩ := y
      rw [q] at g1 g2
      cases g2
      have z := (inl y k).1 (List.mem_of_getElem? q)
      obtain ⟨g, G, w1, w2, w3⟩ := W.at_ y k z.1 z.2
      have eg : hs.getD k 0 = g := by
        have : hs[k]? = some g := by rw [← Array.getElem?_toList]; exact w1
        simp [Array.getD_eq_getD_getElem?, this]
      have eh : g = h := eg.symm.trans (Option.some.inj g1)
      subst eh
      refine ⟨G, w2, fun n hn => ?_⟩
      cases v : oAt owner (way M g n) with
      | none => exact absurd v (w3 n hn)
      | some k2 => exact List.mem_map.mpr ⟨(_, k2), (inl _ _).2 ⟨way_in M g n, v⟩, rfl⟩

/-! ### the set -/
section
variable {P : Program} {w : World} {A : Around} {E : Value → Shared → Prop} {s : Shared}
/-- at a stands the set of the rows L -/
structure SB (P : Program) (w : World) (h : Heap) (a : Addr) (L : List (Addr × List Int)) (es : Array (Int × Value)) (ep : Nat) (t : SetTable) : Prop where
  obj : ∃ o, h.get? a = some o ∧ o.ExactSet ∧ o.data = .set es ep t
  row : es.toList = rowsOf P w L
  tab : TB t (L.map fun p => thash P w p.2)
  dif : (L.map Prod.snd).Nodup
  tup : ∀ p ∈ L, L2.IsT P w h p.2 p.1
  pla : t.plain = true
  led : w.params.followText "set-order" = true ∨ t.led = true
  gap : L.length * 5 < t.mask * 3
  few : L.length ≤ 9800
variable {a : Addr} {L : List (Addr × List Int)} {es : Array (Int × Value)} {ep : Nat} {t : SetTable}
theorem SB.size (R : SB P w s.heap a L es ep t) : es.size = L.length := by
  rw [← Array.length_toList, R.row]
  simp [rowsOf]
theorem SB.fits (R : SB P w s.heap a L es ep t) : t.fits es.size = true := by
  have q1 := R.tab.len
  have q2 := R.gap
  have q3 := R.size
  simp only [List.length_map] at q1
  simp only [SetTable.fits, SetTable.fill, R.tab.nod, Bool.and_eq_true, beq_iff_eq, decide_eq_true_eq]
  constructor
  · exact q1.trans q3.symm
  · show t.place.size + 0 ≤ t.mask
    omega
theorem SB.at_ (R : SB P w s.heap a L es ep t) {i : Nat} {p : Addr × List Int} (h : L[i]? = some p) : es[i]? = some (thash P w p.2, Value.ref p.1) := by
  have z : es.toList[i]? = some (thash P w p.2, Value.ref p.1) := by rw [R.row, rowsOf, List.getElem?_map, h]; rfl
  exact (Array.getElem?_toList ..).symm.trans z
theorem SB.goes (R : SB P w s.heap a L es ep t) : t.gaveWay = true → False := by
  simp only [SetTable.gaveWay, R.tab.msk.le.2.2]
  decide
abbrev prb (m : Nat) (h : Int) (c : Nat) : SetTable.Probe := nth m (runAt m (SetTable.bits h % (m + 1)) (SetTable.bits h)) c
theorem prb_add (m : Nat) (h : Int) (c n : Nat) : nth m (prb m h c) n = prb m h (c + n) := (nth_add m c _ n).symm
theorem nth_dummy (m : Nat) : ∀ (n : Nat) (p : SetTable.Probe), p.dummy = none → (nth m p n).dummy = none
  | 0, _, h => h
  | n + 1, p, h => nth_dummy m n (adv m p) (by unfold adv; split <;> exact h)
/-- looking for k from step c of its way on -/
theorem look (R : SB P w s.heap a L es ep t) {x : Addr} {k : List Int} {h : Int} (eh : h = thash P w k) (hx : L2.IsT P w s.heap k x) (hu : A.units < cLine) {K : Nat} (hK : K < 10 * SetTable.turns t.mask) (en : Ends t h K) {Q : SetFound → Shared → Prop}
    (yes : k ∈ L.map Prod.snd → Q (.there none) s) (no : k ∉ L.map Prod.snd → Q (.free (way t.mask h K) false) s) :
    ∀ (f c : Nat) (from_ : Option SetTable.Probe), from_.getD (t.probeStart h) = prb t.mask h c → c ≤ K → K - c < f →
      (∀ (i : Nat) (p : Addr × List Int), L[i]? = some p → p.2 = k → ∃ n, c ≤ n ∧ n < K ∧ t.place.toList[i]? = some (way t.mask h n)) →
      wpAny (model P w) A (setSearchFrom a (.ref x) h true f from_) Q E s := by
  intro f
  induction f with
  | zero => intro c _ _ _ z _; exact absurd z (Nat.not_lt_zero _)
  | succ f ih =>
    intro c from_ hs hc hf hn
    obtain ⟨o, o1, _, o3⟩ := R.obj
    have hash : ∀ (i : Nat) (p : Addr × List Int), L[i]? = some p → (fun i => (es[i]?.map Prod.fst).getD 0) i = thash P w p.2 := fun i p hp => by
      show (es[i]?.map Prod.fst).getD 0 = _
      rw [R.at_ hp]
      rfl
    rw [setSearchFrom_succ]
    refine wpAny_bind (wpAny_setState_of o1 o3 R.fits (wp_if_neg R.goes ?_))
    have spec := go_spec t R.tab.up R.tab.nod (fun i => (es[i]?.map Prod.fst).getD 0) h (10 * SetTable.turns t.mask) (K - c) (prb t.mask h c) (nth_dummy _ c _ rfl) (by omega)
      (fun q hq => by rw [prb_add]; exact en.full (c + q) (by omega)) (by rw [prb_add, Nat.add_sub_cancel' hc]; exact en.free)
    rw [hs]
    rcases spec with ⟨q, i, q1, q2, q3, q4, q5⟩ | ⟨q4, q5⟩
    · have q5' : t.probe (fun i => (es[i]?.map Prod.fst).getD 0) h (prb t.mask h c) = some (.candidate (way t.mask h (c + q)) i (prb t.mask h (c + (q + 1)))) := by
        refine q5.trans ?_
        rw [prb_add, prb_add]
      rw [prb_add] at q2
      rw [q5']
      have il : i < L.length := by
        have z := (List.getElem?_eq_some_iff.mp q2).1
        have z2 := R.tab.len
        simp only [List.length_map] at z2
        rw [Array.length_toList] at z
        omega
      obtain ⟨p, hp⟩ : ∃ p, L[i]? = some p := ⟨_, List.getElem?_eq_getElem il⟩
      have pm := List.mem_of_getElem? hp
      have goal : wpAny (model P w) A (searchRest a (.ref x) h true f es t (way t.mask h (c + q)) i (prb t.mask h (c + (q + 1)))) Q E s := by
        have live := slot_live R.tab.up q2
        unfold searchRest
        rw [R.at_ hp]
        refine wpAny_bind (wpAny_holding (wpAny_eqBool_tuple hu (R.tup p pm) hx (wpAny_bind (wpAny_setState_of o1 o3 R.fits ?_))))
        by_cases e : p.2 = k
        · exact wp_if_pos (by simp [e]) (wpAny_pure (yes (List.mem_map.mpr ⟨p, pm, e⟩)))
        · refine wp_if_neg (by simp [e]) ?_
          try refine wpAny_bind (wpAny_pure ?_)
          rw [sameMem]
          dsimp only
          simp only [if_true, live, R.at_ hp]
          refine wpAny_bind (wpAny_isSame_ref_self (wpAny_bind (wpAny_pure ?_)))
          simp only [if_true]
          refine wp_if_neg (by simp [e]) (ih (c + (q + 1)) _ rfl (by omega) (by omega) fun i2 p2 g1 g2 => ?_)
          obtain ⟨n, n1, n2, n3⟩ := hn i2 p2 g1 g2
          refine ⟨n, ?_, n2, n3⟩
          refine Classical.byContradiction fun z => ?_
          rcases Nat.lt_or_eq_of_le (show n ≤ c + q by omega) with y | y
          · refine q4 (n - c) i2 (by omega) (by rw [prb_add, Nat.add_sub_cancel' n1]; exact n3) ?_
            exact (hash i2 p2 g1).trans (by rw [g2, eh])
          · rw [y] at n3
            have l2 := slot_live R.tab.up n3
            rw [live] at l2
            cases l2
            rw [hp] at g1
            cases g1
            exact e g2
      by_cases l : t.led = true
      · refine wp_if_neg (by simp [l]) ?_
        try refine wpAny_bind (wpAny_pure ?_)
        exact goal
      · refine wp_if_pos (by simp [l]) (wpAny_bind (seen_tup hx (fun y hy => ?_) ?_))
        · obtain ⟨e, he, rfl⟩ := List.mem_map.mp hy
          have e1 : e ∈ es.toList := by simp at he; simpa using he.1
          rw [R.row] at e1
          obtain ⟨p2, g1, rfl⟩ := List.mem_map.mp e1
          exact ⟨p2.2, p2.1, rfl, R.tup p2 g1⟩
        · refine wp_if_neg (by decide) ?_
          try refine wpAny_bind (wpAny_pure ?_)
          exact goal
    · have q5' : t.probe (fun i => (es[i]?.map Prod.fst).getD 0) h (prb t.mask h c) = some (.empty (way t.mask h K) none) := by
        refine q5.trans ?_
        rw [prb_add, Nat.add_sub_cancel' hc]
      rw [q5']
      refine wpAny_pure (no fun hm => ?_)
      obtain ⟨p, pm, e⟩ := List.mem_map.mp hm
      obtain ⟨i, il, ei⟩ := List.getElem_of_mem pm
      have hp : L[i]? = some p := by rw [List.getElem?_eq_getElem il, ei]
      obtain ⟨n, n1, n2, n3⟩ := hn i p hp e
      refine q4 (n - c) i (by omega) (by rw [prb_add, Nat.add_sub_cancel' n1]; exact n3) ?_
      exact (hash i p hp).trans (by rw [e, eh])
theorem look_all (R : SB P w s.heap a L es ep t) {x : Addr} {k : List Int} (hx : L2.IsT P w s.heap k x) (hu : A.units < cLine) {Q : SetFound → Shared → Prop}
    (yes : k ∈ L.map Prod.snd → Q (.there none) s) (no : ∀ K, k ∉ L.map Prod.snd → Ends t (thash P w k) K → Q (.free (way t.mask (thash P w k) K) false) s) :
    wpAny (model P w) A (setSearch a (.ref x) (thash P w k) true) Q E s := by
  have g := R.gap
  have m := R.tab.msk.le
  obtain ⟨K, hK, en⟩ := R.tab.ends (by rw [List.length_map]; omega) (thash P w k)
  have fw := R.few
  have ln := R.tab.len
  simp only [List.length_map] at ln
  have big : K < 100000 := by
    have z := few_steps (ps := t.place.toList) R.tab.msk (thash P w k) (by rw [Array.length_toList, ln]; omega) en.full
    rw [Array.length_toList, ln] at z
    omega
  unfold setSearch
  refine look R rfl hx hu hK en yes (fun z => no K z en) 100000 0 none rfl (Nat.zero_le _) (by omega) fun i p hp e => ?_
  have il : i < t.place.toList.length := by
    have z1 := (List.getElem?_eq_some_iff.mp hp).1
    have z2 := R.tab.len
    simp only [List.length_map] at z2
    rw [Array.length_toList]
    omega
  have g1 : (L.map fun p => thash P w p.2)[i]? = some (thash P w k) := by
    rw [List.getElem?_map, hp, ← e]
    rfl
  obtain ⟨n, n1, n2⟩ := R.tab.ahead en g1 (List.getElem?_eq_getElem il)
  exact ⟨n, Nat.zero_le _, n1, by rw [List.getElem?_eq_getElem il, n2]⟩

theorem rows_size {L : List (Addr × List Int)} {es : Array (Int × Value)} (h : es.toList = rowsOf P w L) : es.size = L.length := by
  rw [← Array.length_toList, h]
  simp [rowsOf]
/-- the set as it is between the putting and the making larger -/
structure Loose (P : Program) (w : World) (h : Heap) (a : Addr) (L : List (Addr × List Int)) (es : Array (Int × Value)) (ep : Nat) (t : SetTable) : Prop where
  obj : ∃ o, h.get? a = some o ∧ o.ExactSet ∧ o.data = .set es ep t
  row : es.toList = rowsOf P w L
  tab : TB t (L.map fun p => thash P w p.2)
  dif : (L.map Prod.snd).Nodup
  tup : ∀ p ∈ L, L2.IsT P w h p.2 p.1
  pla : t.plain = true
  led : w.params.followText "set-order" = true ∨ t.led = true
  fit : L.length ≤ t.mask
  few : L.length ≤ 9800
theorem grow (R : Loose P w s.heap a L es ep t) {wanted M : Nat} (hw : SetTable.sizeAbove wanted = M + 1) (hM : MB M) (hn : L.length * 5 < M * 3) {Q : Unit → Shared → Prop}
    (hQ : ∀ h2 L2 es2 ep2 t2, Heap.SameBut a s.heap h2 → SB P w h2 a L2 es2 ep2 t2 → L2.Perm L → Q () { s with heap := h2 }) : wpAny (model P w) A (setRelay a wanted) Q E s := by
  obtain ⟨o, o1, o2, o3⟩ := R.obj
  have sz := rows_size R.row
  have z := R.tab.len
  simp only [List.length_map] at z
  have fit := R.fit
  have few := R.few
  have fits : t.fits es.size = true := by
    simp only [SetTable.fits, SetTable.fill, R.tab.nod, Bool.and_eq_true, beq_iff_eq, decide_eq_true_eq]
    exact ⟨z.trans sz.symm, show t.place.size + 0 ≤ t.mask by omega⟩
  have hM2 := hM.le
  obtain ⟨t2, ord, rl⟩ := relaid_tb t (hs := es.map Prod.fst) (wanted := wanted) (M := M) (by rw [hw]; rfl) hM (by rw [Array.size_map]; omega)
  have pm := rl.perm
  rw [Array.size_map, sz] at pm
  obtain ⟨L2, r1, r2, r3⟩ := order_rows L es ord R.row pm
  have T := rl.tab
  rw [← r3] at T
  have sz2 : (ord.filterMap fun i => es[i]?).size = es.size := by rw [rows_size r1, r2.length_eq, sz]
  rw [setRelay_eq]
  refine wpAny_bind (wpAny_setState_of o1 o3 fits (wp_if_neg (by rw [sizeLine_eq, hw]; omega) ?_))
  try refine wpAny_bind (wpAny_pure ?_)
  rw [rl.eq]
  refine wpAny_bind (wp_if_neg (by rw [sz2]; simp) ?_)
  try refine wpAny_bind (wpAny_pure ?_)
  refine wpAny_pure (wpAny_storeSet_of o1 o3 ?_ (by rw [sz2, sz, sizeLine_eq]; omega))
  have same := Heap.SameBut.update s.heap a (Obj.putSet (ord.filterMap fun i => es[i]?) t2)
  exact hQ _ L2 _ (ep + 1) t2 same ⟨⟨_, store_at o1 o3, o2, rfl⟩, r1, T, (r2.map _).nodup_iff.mpr R.dif, fun p hp => isT_same (R.tup p (r2.mem_iff.mp hp)) o1 o3 same, rl.pla.trans R.pla,
    R.led.imp id fun z => rl.led.trans z, by rw [r2.length_eq, rl.msk]; exact hn, by rw [r2.length_eq]; exact few⟩ r2
/-- one more is put in -/
theorem add_cell (R : SB P w s.heap a L es ep t) {x : Addr} {k : List Int} (hx : L2.IsT P w s.heap k x) (hu : A.units < cLine) (few : k ∉ L.map Prod.snd → L.length < 9800) {Q : Bool → Shared → Prop}
    (hQ : ∀ b h2 L2 es2 ep2 t2, Heap.SameBut a s.heap h2 → SB P w h2 a L2 es2 ep2 t2 → (k ∈ L.map Prod.snd → L2 = L) → (k ∉ L.map Prod.snd → L2.Perm ((x, k) :: L)) → Q b { s with heap := h2 }) :
    wpAny (model P w) A (setAddHashed a (.ref x) (thash P w k)) Q E s := by
  obtain ⟨o, o1, o2, o3⟩ := R.obj
  unfold setAddHashed
  rw [show (100000 : Nat) = 99999 + 1 from rfl, setAddHashedIn_succ]
  refine wpAny_holding (wpAny_bind (wpAny_setState_of o1 o3 R.fits (wp_if_neg (by simp [byScan, Value.scannable]) ?_)))
  try refine wpAny_bind (wpAny_pure ?_)
  refine wpAny_bind (look_all R hx hu (fun z => wpAny_pure (hQ false s.heap L es ep t (Heap.SameBut.refl a s.heap) R (fun _ => rfl) fun y => absurd z y)) fun K new en => ?_)
  have few := few new
  refine wpAny_bind (wpAny_setState_of o1 o3 R.fits ?_)
  dsimp only
  have pt := R.tab.put en
  generalize way t.mask (thash P w k) K = j at pt
  have e1 : t.put j = ((t.put j).1, bel t j) := Prod.ext rfl pt.at_
  rw [e1]
  have pla : (t.put j).1.plain = true := pt.pla.trans R.pla
  have tab := pt.tab
  have msk := pt.msk
  have led := pt.led
  have fil := pt.fil
  have row2 : (SetTable.insertAt es (bel t j) (thash P w k, Value.ref x)).toList = rowsOf P w (L.take (bel t j) ++ (x, k) :: L.drop (bel t j)) := (SetTable.toList_insertAt ..).trans (by rw [rows_put, R.row])
  have hash2 : (L.take (bel t j) ++ (x, k) :: L.drop (bel t j)).map (fun p => thash P w p.2) = (L.map fun p => thash P w p.2).take (bel t j) ++ thash P w k :: (L.map fun p => thash P w p.2).drop (bel t j) := by
    simp [List.map_take, List.map_drop]
  rw [← hash2] at tab
  have pm := put_perm L (bel t j) (x, k)
  simp only [List.length_map] at fil
  generalize (t.put j).1 = t1 at tab pla msk led fil ⊢
  generalize hpos : bel t j = pos at row2 tab pm ⊢
  generalize SetTable.insertAt es pos (thash P w k, Value.ref x) = es1 at row2 ⊢
  generalize L.take pos ++ (x, k) :: L.drop pos = L1 at row2 tab pm
  have len1 : L1.length = L.length + 1 := pm.length_eq
  have sz1 : es1.size = L.length + 1 := (rows_size row2).trans len1
  have gap := R.gap
  have tail : ∀ t1', t1' = t1 → wpAny (model P w) A (storeSet a es1 t1') (fun _ s2 => wpAny (model P w) A (if (!false && t1'.tooFull) = true then (do setRelay a (SetTable.grown (es.size + 1)); pure true) else pure true) Q E s2) E s := by
    intro t1' et
    subst et
    refine wpAny_storeSet_of o1 o3 ?_ (by rw [sz1, sizeLine_eq]; omega)
    have same := Heap.SameBut.update s.heap a (Obj.putSet es1 t1')
    have at1 := store_at (es' := es1) (t' := t1') o1 o3
    generalize s.heap.update a (Obj.putSet es1 t1') = h1 at same at1 ⊢
    have loose : Loose P w h1 a L1 es1 (ep + 1) t1' := ⟨⟨_, at1, o2, rfl⟩, row2, tab, (pm.map Prod.snd).nodup_iff.mpr (List.nodup_cons.mpr ⟨new, R.dif⟩), fun p hp => by
      rcases List.mem_cons.mp (pm.mem_iff.mp hp) with e | hp
      · exact e ▸ isT_same hx o1 o3 same
      · exact isT_same (R.tup p hp) o1 o3 same, pla, R.led.imp id fun z => led.trans z, by rw [len1, msk]; omega, by omega⟩
    by_cases full : t1'.tooFull = true
    · rw [if_pos (by simp [full])]
      have f2 : t.mask * 3 ≤ (L.length + 1) * 5 := by
        have z := full
        simp only [SetTable.tooFull, decide_eq_true_eq, fil, msk] at z
        exact z
      obtain ⟨M, m1, m2, m3⟩ := grows R.tab.msk f2 gap few
      rw [R.size]
      refine wpAny_bind (grow (s := { s with heap := h1 }) loose m1 m2 (by rw [len1]; exact m3) fun h2 L2 es2 ep2 t2 same2 R2 pm2 => ?_)
      exact wpAny_pure (hQ true h2 L2 es2 ep2 t2 (same.trans same2) R2 (fun z => absurd z new) fun _ => pm2.trans pm)
    · rw [if_neg (by simp [full])]
      refine wpAny_pure (hQ true h1 L1 es1 (ep + 1) t1' same ⟨loose.obj, row2, tab, loose.dif, loose.tup, pla, loose.led, ?_, loose.few⟩ (fun z => absurd z new) fun _ => pm)
      have z : ¬ t1'.fill * 5 ≥ t1'.mask * 3 := by simpa [SetTable.tooFull] using full
      rw [fil] at z
      omega
  first
    | (refine wpAny_bind ?_; refine wp_if_pos pla ?_; refine hashBy_tup hx ?_)
    | refine wp_if_pos pla (wpAny_bind (hashBy_tup hx ?_))
  simp only [if_true]
  refine wpAny_bind ?_
  refine wpAny_mono (tail t1 rfl) (fun u s2 z => ?_) fun _ _ z => z
  first
    | exact z
    | (simp only [Bool.not_false, Bool.true_and] at z ⊢
       by_cases full : t1.tooFull = true
       · rw [if_pos full] at z ⊢
         exact z
       · rw [if_neg full] at z ⊢
         exact z)

theorem SB.move {h h2 : Heap} {a : Addr} {L : List (Addr × List Int)} {es : Array (Int × Value)} {ep : Nat} {t : SetTable} (R : SB P w h a L es ep t) (ha : ∀ o, h.get? a = some o → h2.get? a = some o) (ht : ∀ p ∈ L, L2.IsT P w h2 p.2 p.1) : SB P w h2 a L es ep t := by
  obtain ⟨o, o1, o2⟩ := R.obj
  exact { R with obj := ⟨o, ha o o1, o2⟩, tup := ht }
abbrev emptySet (w : World) : Obj := { cls := .type "set", dict := none, data := .set #[] 0 (.fresh 0 0 (!w.params.followText "set-order")) }
theorem sb_empty {h : Heap} {a : Addr} (ho : h.get? a = some (emptySet w)) : SB P w h a [] #[] 0 (.fresh 0 0 (!w.params.followText "set-order")) where
  obj := ⟨_, ho, ⟨rfl, rfl, rfl⟩, rfl⟩
  row := rfl
  tab := ⟨.nil, rfl, rfl, mb7, (fun _ h => nomatch h), fun i h j e => (nomatch e)⟩
  dif := .nil
  tup := fun _ h => nomatch h
  pla := rfl
  led := by
    show _ ∨ (!w.params.followText "set-order") = true
    cases w.params.followText "set-order"
    · exact .inr rfl
    · exact .inl rfl
  gap := by show 0 * 5 < 7 * 3; decide
  few := Nat.zero_le _
/-- at most so many unlike rows -/
def Few (ks : List (Addr × List Int)) : Prop := ∀ L : List (Addr × List Int), (∀ p ∈ L, p ∈ ks) → (L.map Prod.snd).Nodup → L.length ≤ 9800
/-- the rows taken so far: each is in the set by its ints, and nothing else -/
structure Taken (ks : List (Addr × List Int)) (h : Heap) (S : Addr) (P : Program) (w : World) (i : Nat) : Prop where
  ex : ∃ L es ep t, SB P w h S L es ep t ∧ Got ks i L
/-- set.update's loop over rows -/
theorem fill {I : Addr} {fp wr : List Addr} {G : Array GenState → Array GenState → Prop} {n : Nat} {Pv : Nat → Value → Prop} {St : Nat → Shared → Prop} {R : Result → Shared → Prop}
    (W : WalksS P w A.in1 I fp wr G n Pv St) {S : Addr} (hS : S ∉ fp) {ks : List (Addr × List Int)} (hn : n = ks.length) (few : Few ks) (val : ∀ i v, Pv i v → ∃ p, ks[i]? = some p ∧ v = .ref p.1)
    {h0 : Heap} (tup : ∀ p ∈ ks, L2.IsT P w h0 p.2 p.1) (S0 : h0.get? S = none) (w0 : ∀ b ∈ wr, h0.get? b = none) (hu : A.in1.units < cLine) :
    ∀ (m i : Nat) (s : Shared), i + m = n → St i s → (∀ b o, h0.get? b = some o → s.heap.get? b = some o) → Taken ks s.heap S P w i →
      (∀ s2, Moved (S :: wr) G s s2 → Taken ks s2.heap S P w n → (∀ b o, h0.get? b = some o → s2.heap.get? b = some o) → R (.ok (.ret .none)) s2) →
      codeAny (model P w) A (.builtin "set.update.loop" ⟨[.ref S, .ref I], []⟩) R s := by
  have Sw : S ∉ wr := fun z => hS (W.sub _ z)
  have up : ∀ {s s2 : Shared}, Moved wr G s s2 → Moved (S :: wr) G s s2 := fun hm => hm.mono fun b hb => List.mem_cons_of_mem _ hb
  have old : ∀ {s s2 : Shared}, Moved wr G s s2 → (∀ b o, h0.get? b = some o → s.heap.get? b = some o) → ∀ b o, h0.get? b = some o → s2.heap.get? b = some o := fun hm k b o e =>
    hm.heap b o (fun hb => by rw [w0 b hb] at e; cases e) (k b o e)
  have stays : ∀ {s s2 : Shared} {i : Nat}, Moved wr G s s2 → (∀ b o, h0.get? b = some o → s2.heap.get? b = some o) → Taken ks s.heap S P w i → Taken ks s2.heap S P w i := fun hm k ⟨L, es, ep, t, R, g⟩ =>
    ⟨L, es, ep, t, R.move (fun o e => hm.heap S o Sw e) fun p hp => isT_keep (tup p (List.mem_of_mem_take (g.sub p hp))) k, g⟩
  intro m
  induction m with
  | zero =>
    intro i s e st k T hR
    obtain rfl : i = n := e
    refine codeAny_builtin F.entry_set_update_loop (?_ : _)
    rw [Around.under_plainId F.plain_set_update_loop]
    refine wpAny_bind (m := pyNext (.ref I)) (W.done s _ _ st fun s2 hm => ?_)
    have k2 := old hm k
    exact wpAny_pure (hR s2 (up hm) (stays hm k2 T) k2)
  | succ m ih =>
    intro i s e st k T hR
    refine codeAny_builtin F.entry_set_update_loop (?_ : _)
    rw [Around.under_plainId F.plain_set_update_loop]
    refine wpAny_bind (m := pyNext (.ref I)) (W.item i s _ _ (by omega) st fun v s2 hv st2 hm => ?_)
    obtain ⟨p, hp, rfl⟩ := val i v hv
    have k2 := old hm k
    obtain ⟨L, es, ep, t, SR, g⟩ := stays hm k2 T
    have hx : L2.IsT P w s2.heap p.2 p.1 := isT_keep (tup p (List.mem_of_getElem? hp)) k2
    have il : i < ks.length := (List.getElem?_eq_some_iff.mp hp).1
    refine wpAny_bind (m := holding [Value.ref p.1] (setAdd S (.ref p.1))) (wpAny_holding ?_)
    unfold setAdd
    refine wpAny_holding (wpAny_bind (wpAny_pyHash_tuple hu hx ?_))
    refine add_cell (s := { s2 with toks := s2.toks + (p.2.length + 1) }) SR hx hu (fun new => Nat.lt_of_succ_le (few (p :: L) (fun q hq => (List.mem_cons.mp hq).elim (fun z => z ▸ List.mem_of_getElem? hp) fun z => List.mem_of_mem_take (g.sub q z)) (List.nodup_cons.mpr ⟨new, SR.dif⟩))) fun b h3 L3 es3 ep3 t3 same SR3 c1 c2 => ?_
    have g3 : Got ks (i + 1) L3 := by
      by_cases c : p.2 ∈ L.map Prod.snd
      · exact c1 c ▸ g.same hp c
      · exact g.more hp (c2 c)
    have k3 : ∀ b o, h0.get? b = some o → h3.get? b = some o := fun b o q => (same.2 b fun z => by rw [z, S0] at q; cases q).trans (k2 b o q)
    refine wpAny_pure ⟨plainId_quiet F.plain_set_update_loop _, ih (i + 1) _ (by omega) (W.frame _ s2 _ _ st2 (Nat.le_add_right _ _) fun b hb o q => (same.2 b fun z => hS (z ▸ hb)).trans q) k3 ⟨L3, es3, ep3, t3, SR3, g3⟩ fun s4 hm4 T4 k4 => ?_⟩
    exact hR s4 (Moved.trans W.gtrans ((up hm).then_heap (Nat.le_add_right _ _) fun b o hb q => (same.2 b fun z => hb (z ▸ List.mem_cons_self)).trans q) hm4) T4 k4

abbrev withEmpty (w : World) (s : Shared) : Shared := { s with heap := s.heap.push (emptySet w) }
theorem emptyAt (w : World) (s : Shared) : (withEmpty w s).heap.get? s.heap.objs.size = some (emptySet w) := Heap.get?_push_size _ rfl
/-- what set.__init__ leaves of the new set -/
def Made (P : Program) (w : World) (s : Shared) (ks : List (Addr × List Int)) (r : Value) (s2 : Shared) : Prop :=
  r = .none ∧ ∃ h2 tk, s2 = { s with heap := h2, toks := tk } ∧ Taken ks h2 s.heap.objs.size P w ks.length ∧ ∀ b o, s.heap.get? b = some o → h2.get? b = some o
/-- the loop from the new iterator I over l on -/
theorem fill_new {A : Around} {h1 : Heap} {tk1 : Nat} {I l : Addr} {Pv : Nat → Value → Prop} {St : Nat → Shared → Prop} {G : Array GenState → Array GenState → Prop} {ks : List (Addr × List Int)} {n : Nat} (W : WalksS P w A.in1 I [I, l] [I] G n Pv St) (hG : ∀ g g2, G g g2 → g2 = g)
    (hI : I = (withEmpty w s).heap.objs.size) (hl : l < s.heap.objs.size) (hn : n = ks.length) (few : Few ks) (val : ∀ i v, Pv i v → ∃ p, ks[i]? = some p ∧ v = .ref p.1) (tup : ∀ p ∈ ks, L2.IsT P w s.heap p.2 p.1) (hu : A.in1.units < cLine)
    (k1 : ∀ b o, (withEmpty w s).heap.get? b = some o → h1.get? b = some o) (st : St 0 { s with heap := h1, toks := tk1 }) :
    codeAny (model P w) A (.builtin "set.update.loop" ⟨[.ref s.heap.objs.size, .ref I], []⟩) (fun r s2 => r = .ok (.ret .none) ∧ Made P w s ks .none s2) { s with heap := h1, toks := tk1 } := by
  have sz : (withEmpty w s).heap.objs.size = s.heap.objs.size + 1 := Heap.size_push ..
  have nil : ∀ b, s.heap.objs.size ≤ b → s.heap.get? b = none := fun b hb => by
    cases q : s.heap.get? b with
    | none => rfl
    | some o => exact absurd (Nat.lt_of_lt_of_le (Heap.lt_size q) hb) (Nat.lt_irrefl _)
  have S1 : s.heap.objs.size ∉ [I, l] := by
    simp only [List.mem_cons, List.not_mem_nil, or_false, not_or]
    exact ⟨fun z => Nat.lt_irrefl _ (Nat.lt_of_lt_of_eq (Nat.lt_succ_self s.heap.objs.size) ((hI.trans sz).symm.trans z.symm)), Nat.ne_of_gt hl⟩
  refine fill W S1 hn few val tup (nil _ (Nat.le_refl _)) (fun b hb => nil b (by rw [List.mem_singleton.mp hb, hI, sz]; exact Nat.le_succ _)) hu n 0 { s with heap := h1, toks := tk1 } (Nat.zero_add n) st (fun b o e => k1 b o (Heap.get?_push_of_some _ e))
    ⟨[], #[], 0, _, sb_empty (k1 _ _ (emptyAt w s)), Got.zero ks⟩ fun s2 hm T k => ⟨rfl, rfl, s2.heap, s2.toks, ?_, hn ▸ T, k⟩
  have e1 := hG _ _ hm.gens
  have e2 := hm.drawn
  have e3 := hm.os
  obtain ⟨a1, a2, a3, a4, a5⟩ := s2
  simp only at e1 e2 e3
  rw [e1, e2, e3]
end

section
variable {P : Program} {w : World} {A : Around} {E : Value → Shared → Prop} {s : Shared}
set_option maxHeartbeats 3200000 in
/-- set(xs), xs a list or a tuple of tuples of ints -/
theorem call_setB {l : Addr} {items : Array Value} (ks : List (Addr × List Int)) {Q : Value → Shared → Prop} (hh : A.handled = none) (hl : s.heap.IsList l items ∨ s.heap.IsTuple l items) (hit : items.toList = ks.map fun p => Value.ref p.1)
    (hk : ∀ p ∈ ks, L2.IsT P w s.heap p.2 p.1) (few : Few ks) (hu : A.units + 3 < cLine)
    (h : ∀ (h2 : Heap) (tk : Nat), Taken ks h2 s.heap.objs.size P w ks.length → (∀ b o, s.heap.get? b = some o → h2.get? b = some o) → Q (.ref s.heap.objs.size) { s with heap := h2, toks := tk }) :
    wpAny (model P w) A (call (.type "set") [.ref l]) Q E s := by
  have isz : items.size = ks.length := by
    have q := congrArg List.length hit
    simpa using q
  have val : ∀ (i : Nat) (v : Value), items[i]? = some v → ∃ p, ks[i]? = some p ∧ v = .ref p.1 := fun i v hv => by
    have q : items.toList[i]? = some v := (Array.getElem?_toList ..).trans hv
    rw [hit, List.getElem?_map] at q
    obtain ⟨p, p1, p2⟩ := Option.map_eq_some_iff.mp q
    exact ⟨p, p1, p2.symm⟩
  have pack := And.intro val (And.intro hk (And.intro h (And.intro hit (And.intro isz few))))
  clear val hk h hit isz few
  obtain ⟨c, tl, hmro⟩ := F.called_set.mro
  have c1 := F.called_set.made
  have c2 := F.called_set.sub
  have c3 := F.called_set.notType
  have c4 := F.called_set.canCreate
  have c5 := F.typeCall_set_1 (.ref l)
  refine wpAny_call (codeAny_of_tree (?_ : _))
  refine wpAny_pure ⟨Code.quiet_builtin _ (by decide +kernel), codeAny_builtin F.entry_type_call (?_ : _)⟩
  rw [Around.under_plain (weight_type_call_type "set" [.ref l] []) rfl]
  repeat (any_goals (first | assumption | wp_step))
  refine codeAny_mono (code_set_led1 (.ref l) (E := E) (Q₁ := fun obj s1 => obj = .ref s.heap.objs.size ∧ s1 = withEmpty w s) ⟨rfl, rfl⟩) (fun r s1 hr => ?_)
  cases r with
  | error e => exact hr
  | ok fl =>
    cases fl with
    | ret obj =>
      obtain ⟨rfl, rfl⟩ := hr
      have hS := emptyAt w s
      have hT : Shared.TypeIs (withEmpty w s) (.ref s.heap.objs.size) "set" := ⟨_, hS, rfl⟩
      have c6 := F.called_set.init.lookup
      have c7 := F.called_set.init.bind (.ref s.heap.objs.size)
      repeat (any_goals (first | assumption | wp_step))
      refine codeAny_mono (codeAny_call_builtin (R := wants (Made P w s ks) E) F.called_set.init.plain F.entry_set_init (check_set_init_1 hT ?_)) (fun r2 s2 hr2 => ?_)
      · have hh3 : A.in1.in1.in1.handled = none := by simp [hh]
        have new : s.heap.objs.size ≠ (withEmpty w s).heap.objs.size := Nat.ne_of_lt (by rw [Heap.size_push]; exact Nat.lt_succ_self _)
        rcases hl with hl | hl
        · obtain ⟨⟨ocls, odict, odata, oslots⟩, g1, g2, n, g3⟩ := hl
          simp only at g2 g3
          subst g2 g3
          have lS : l < s.heap.objs.size := Heap.lt_size g1
          have g4 : (withEmpty w s).heap.get? l = some { cls := .type "list", dict := odict, data := .seq items n, slots := oslots } := Heap.get?_push_of_some _ g1
          have d1 := F.sub_list_set
          have d2 := F.sub_list_frozenset
          have d3 : (Value.type "list" == Value.type "dict") = false := by decide
          have hl1 : (withEmpty w s).heap.IsList l items := ⟨_, g4, rfl, n, rfl⟩
          have ne : l ≠ (withEmpty w s).heap.objs.size := Nat.ne_of_lt (Nat.lt_of_lt_of_le lS (by rw [Heap.size_push]; exact Nat.le_succ _))
          unfold Builtin.«set.__init__» noKeywords Builtin.Frozenset.updateFrom
          generalize hPI : pyIter = PI
          wp_walk
          subst hPI
          obtain ⟨val, hk, h, hit, isz, few⟩ := pack
          refine wpAny_pyIter_list hl1 (wpAny_bind (wpAny_runValue (?_ : _)))
          have z := fill_new (A := A.in1.in1) (P := P) (tk1 := (withEmpty w s).toks) (h1 := (withEmpty w s).heap.push { cls := .type "list_iterator", data := .fields #[.ref l, .int 0 0] }) (Walks.list (prog := P) (w := w) hh3 _ l ne items).toS (fun _ _ q => q) rfl lS isz few val hk hu (fun b o e => Heap.get?_push_of_some _ e) ⟨⟨_, Heap.get?_push_size _ rfl, rfl, rfl⟩, hl1.push _⟩
          refine codeAny_mono z fun r s2 ⟨e, m⟩ => ?_
          subst e
          obtain ⟨_, h2, tk, e, T, k⟩ := m
          subst e
          exact wpAny_pure (wpAny_pure ⟨rfl, h2, tk, rfl, T, k⟩)
        · obtain ⟨⟨ocls, odict, odata, oslots⟩, g1, g2, n, g3⟩ := hl
          simp only at g2 g3
          subst g2 g3
          have lS : l < s.heap.objs.size := Heap.lt_size g1
          have g4 : (withEmpty w s).heap.get? l = some { cls := .type "tuple", dict := odict, data := .seq items n, slots := oslots } := Heap.get?_push_of_some _ g1
          have d1 := F.sub_tuple_set
          have d2 := F.sub_tuple_frozenset
          have d3 : (Value.type "tuple" == Value.type "dict") = false := by decide
          have hl1 : (withEmpty w s).heap.IsTuple l items := ⟨_, g4, rfl, n, rfl⟩
          have ne : l ≠ (withEmpty w s).heap.objs.size := Nat.ne_of_lt (Nat.lt_of_lt_of_le lS (by rw [Heap.size_push]; exact Nat.le_succ _))
          unfold Builtin.«set.__init__» noKeywords Builtin.Frozenset.updateFrom
          generalize hPI : pyIter = PI
          wp_walk
          subst hPI
          obtain ⟨val, hk, h, hit, isz, few⟩ := pack
          refine wpAny_pyIter_tuple hl1 (wpAny_bind (wpAny_runValue (?_ : _)))
          have z := fill_new (A := A.in1.in1) (P := P) (tk1 := (withEmpty w s).toks) (h1 := (withEmpty w s).heap.push { cls := .type "tuple_iterator", data := .fields #[.ref l, .int 0 0] }) (Walks.tuple (prog := P) (w := w) hh3 _ l ne items).toS (fun _ _ q => q) rfl lS isz few val hk hu (fun b o e => Heap.get?_push_of_some _ e) ⟨⟨_, Heap.get?_push_size _ rfl, rfl, rfl⟩, hl1.push _⟩
          refine codeAny_mono z fun r s2 ⟨e, m⟩ => ?_
          subst e
          obtain ⟨_, h2, tk, e, T, k⟩ := m
          subst e
          exact wpAny_pure (wpAny_pure ⟨rfl, h2, tk, rfl, T, k⟩)
      · cases r2 with
        | error e => exact hr2
        | ok fl2 =>
          cases fl2 with
          | ret r =>
            obtain ⟨rfl, h2, tk, rfl, T, k⟩ := hr2
            repeat (any_goals (first | assumption | wp_step))
            exact pack.2.2.1 _ _ T k
          | _ => exact hr2.elim
    | _ => exact hr.elim
end
end Py

/-! Own layer, part G: sets of cells, and sorted lists of cells, of any ints. -/
namespace Py
open PySem PySem.Spec PyProof.Rows L2 SrtO

/-- two ints as a cell -/
def cel (l : List Int) : Int × Int := (l.getD 0 0, l.getD 1 0)
/-- the row of a set at an address -/
def rowAt (L : List (Addr × List Int)) : Value → Addr × List Int
  | .ref a => (L.find? fun p => decide (p.1 = a)).getD (0, [])
  | _ => (0, [])
theorem rowAt_mem {L : List (Addr × List Int)} (one : ∀ p ∈ L, ∀ r ∈ L, p.1 = r.1 → p = r) {p : Addr × List Int} (hp : p ∈ L) : rowAt L (.ref p.1) = p := by
  show (L.find? fun q => decide (q.1 = p.1)).getD (0, []) = p
  cases e : L.find? fun q => decide (q.1 = p.1) with
  | none => exact absurd (List.find?_eq_none.mp e p hp) (by simp)
  | some q =>
    have e1 : q.1 = p.1 := of_decide_eq_true (List.find?_some (p := fun q : Addr × List Int => decide (q.1 = p.1)) e)
    exact one q (List.mem_of_find?_eq_some e) p hp e1
theorem pair_of_row {P : Program} {w : World} {h : Heap} {p : Addr × List Int} (t : L2.IsT P w h p.2 p.1) (hl : p.2.length = 2) : Srt.IsPair h (.ref p.1) (cel p.2).1 (cel p.2).2 := by
  obtain ⟨a, k⟩ := p
  match k, hl with
  | [x, y], _ =>
    obtain ⟨o, items, n, ho, hc, hd, hi⟩ := t
    generalize e : items.toList = vs at hi
    cases hi with
    | cons h1 hi =>
      cases hi with
      | cons h2 hi =>
        cases hi with
        | nil =>
          obtain ⟨t1, e1⟩ := Value.isInt_shape h1
          obtain ⟨t2, e2⟩ := Value.isInt_shape h2
          subst e1 e2
          refine ⟨a, o, t1, t2, n, rfl, ho, hc, ?_⟩
          have e3 : items = #[.int x t1, .int y t2] := by
            rw [← Array.toList_inj, e]
          rw [hd, e3]
          rfl
section
variable {P : Program} {w : World} {A : Around} {E : Value → Shared → Prop} {s : Shared} {a : Addr} {es : Array (Int × Value)} {ep : Nat} {t : SetTable}
/-! a set of any size walked (as the library's walk of a set of fewer than 4096) -/
theorem iter_big {Q : Value → Shared → Prop} (sat : SetAt s.heap a es ep t) (fit : t.fits es.size = true) (sml : es.size ≤ sizeLine) (r : Ris t.place.toList)
    (ldd : w.params.followText "set-order" = true ∨ t.led = true) (kk : ∀ s₂ I, SetIt P w s a es s₂ I → Q (.ref I) s₂) : wpAny (model P w) A (pyIter (.ref a)) Q E s := by
  obtain ⟨o, o1, ocl, o3⟩ := id sat
  have ty : s.TypeIs (.ref a) "set" := ⟨o, o1, ocl⟩
  have alt : a < s.heap.objs.size := Heap.lt_size o1
  refine wpAny_pyIter_slot ty F.slot_set_iter (wpAny_call_entry F.slot_set_iter ty entry_s_iter ?_ (F.args_set_iter_1 _))
  unfold Builtin.«frozenset.__iter__»
  refine wpAny_bind (m := Builtin.Frozenset.slot0 "__iter__" _) (wpAny_of_eq (a := a) (by rfl) ?_)
  refine wpAny_bind (m := Builtin.Frozenset.sizeOf a) ?_
  unfold Builtin.Frozenset.sizeOf
  refine wpAny_bind (wpAny_setEntries_of o1 o3 fit (wpAny_pure ?_))
  first | refine wpAny_bind (setDrawn_at sat fit ?_) | refine wpAny_bind (wpAny_bind (setDrawn_at sat fit ?_))
  cases eb : w.params.followText "set-order" with
  | true =>
    refine wp_if_neg (by simp) ?_
    first | refine wpAny_bind (wpAny_pure ?_) | refine wpAny_pure ?_
    refine wpAny_bind (wpAny_setEpoch_of o1 o3 fit ?_)
    refine wpAny_bind (wpAny_newObj_type (wpAny_pure ⟨_, rfl, "set_iterator", _, ⟨_, Heap.get?_push_size _ rfl, rfl⟩, slot_si_next.lookup, ?_⟩))
    have nea : a ≠ s.heap.objs.size := Nat.ne_of_lt alt
    have jp := pick_perm (w.params.setOrder a ep) es
    have le1 : ((pickOrder (w.params.setOrder a ep) es).toList.map (·.2)).length = (pickOrder (w.params.setOrder a ep) es).size := by rw [List.length_map, Array.length_toList]
    refine kk _ _ (SetIt.of (fun A' hA' => walks_text (P := P) (ep := ep) hA' nea fit eb) le1 (fun b u e => Heap.get?_push_of_some _ e) rfl rfl rfl (Nat.le_refl _) (fun b hb' => ?_) (jp.map _)
      (fun j v q => ?_) ⟨⟨_, Heap.get?_push_size _ rfl, rfl, rfl⟩, sat.at fun u e => Heap.get?_push_of_some _ e⟩)
    · rcases List.mem_cons.mp hb' with z | z
      · exact .inr (Nat.le_of_eq z.symm)
      · exact .inl (List.mem_singleton.mp z)
    · rw [List.getElem?_map, Array.getElem?_toList]; exact q
  | false =>
    have ledt : t.led = true := ldd.resolve_left (by rw [eb]; exact Bool.false_ne_true)
    cases edr : (!t.plain && decide (es.size > 1)) with
    | false =>
      refine wp_if_neg (by simp) ?_
      first | refine wpAny_bind (wpAny_pure ?_) | refine wpAny_pure ?_
      refine wpAny_bind (wpAny_setEpoch_of o1 o3 fit ?_)
      refine wpAny_bind (wpAny_newObj_type (wpAny_pure ⟨_, rfl, "set_iterator", _, ⟨_, Heap.get?_push_size _ rfl, rfl⟩, slot_si_next.lookup, ?_⟩))
      have nea : a ≠ s.heap.objs.size := Nat.ne_of_lt alt
      have le1 : (es.toList.map (·.2)).length = es.size := by rw [List.length_map, Array.length_toList]
      refine kk _ _ (SetIt.of (fun A' hA' => walks_led (P := P) (ep := ep) hA' nea fit r eb edr ledt) le1 (fun b u e => Heap.get?_push_of_some _ e) rfl rfl rfl (Nat.le_refl _) (fun b hb' => ?_) (List.Perm.refl _)
        (fun j v q => ?_) ⟨⟨_, Heap.get?_push_size _ rfl, rfl, rfl⟩, sat.at fun u e => Heap.get?_push_of_some _ e⟩)
      · rcases List.mem_cons.mp hb' with z | z
        · exact .inr (Nat.le_of_eq z.symm)
        · exact .inl (List.mem_singleton.mp z)
      · rw [List.getElem?_map, Array.getElem?_toList]; exact q
    | true =>
      refine wp_if_pos rfl ?_
      refine wpAny_bind (drawOrder_at _ _ _ _ (Nat.le_of_eq List.length_range) fun ys d jp => ?_)
      have hyl : ys.length = es.size := by rw [jp.length_eq, List.length_range]
      have hsl : (ys.map fun (k : Nat) => rawInt (k : Int)).length ≤ sizeLine := by rw [List.length_map, hyl]; exact sml
      first | refine wpAny_bind (wpAny_newTuple ?_ hsl) | refine wpAny_newTuple ?_ hsl
      have o1b : (s.heap.push { cls := .type "tuple", data := .seq (ys.map fun (k : Nat) => rawInt (k : Int)).toArray }).get? a = some o := Heap.get?_push_of_some _ o1
      refine wpAny_bind (wpAny_setEpoch_of o1b o3 fit ?_)
      refine wpAny_bind (wpAny_newObj_type (wpAny_pure ⟨_, rfl, "set_iterator", _, ⟨_, Heap.get?_push_size _ rfl, rfl⟩, slot_si_next.lookup, ?_⟩))
      have hsz2 : (s.heap.push { cls := .type "tuple", data := .seq (ys.map fun (k : Nat) => rawInt (k : Int)).toArray }).objs.size = s.heap.objs.size + 1 := size_push' _ _
      have nea : a ≠ (s.heap.push { cls := .type "tuple", data := .seq (ys.map fun (k : Nat) => rawInt (k : Int)).toArray }).objs.size := by rw [hsz2]; exact Nat.ne_of_lt (Nat.lt_succ_of_lt (Heap.lt_size o1))
      have hpe : s.heap.objs.size ≠ (s.heap.push { cls := .type "tuple", data := .seq (ys.map fun (k : Nat) => rawInt (k : Int)).toArray }).objs.size := by rw [hsz2]; omega
      have hys : ∀ j ∈ ys, j < es.size := fun j hj => List.mem_range.mp (jp.mem_iff.mp hj)
      have le1 : (ys.map fun q => ((es[q]?).map (·.2)).getD Value.none).length = ys.length := List.length_map _
      have hpm : (ys.map fun q => ((es[q]?).map (·.2)).getD Value.none).Perm (es.toList.map (·.2)) := by
        rw [← range_map es]
        exact jp.map _
      refine kk _ _ (SetIt.of (fun A' hA' => walks_drawn (P := P) (w := w) (ep := ep) (t := t) hA' nea hpe fit hys) le1 (fun b u e => Heap.get?_push_of_some _ (Heap.get?_push_of_some _ e)) rfl rfl rfl ?_ (fun b hb' => ?_) hpm
        (fun j v q => ?_) ⟨⟨_, Heap.get?_push_size _ rfl, rfl, rfl⟩, sat.at fun u e => Heap.get?_push_of_some _ (Heap.get?_push_of_some _ e), Heap.get?_push_of_some _ (Heap.get?_push_size _ rfl)⟩)
      · rw [hsz2]; exact Nat.le_succ _
      · rcases List.mem_cons.mp hb' with z | z
        · exact .inr (by rw [z, hsz2]; exact Nat.le_succ _)
        · rcases List.mem_cons.mp z with z | z
          · exact .inl z
          · exact .inr (Nat.le_of_eq (List.mem_singleton.mp z).symm)
      · rw [List.getElem?_map]
        cases hy : ys[j]? with
        | none => rw [hy] at q; cases q
        | some k =>
          rw [hy] at q
          have q' : (es[k]?).map (·.2) = some v := q
          show some (((es[k]?).map (·.2)).getD Value.none) = some v
          rw [q'] <;> rfl

theorem collect_big {Q : List Value → Shared → Prop} (nh : A.handled = none) (sat : SetAt s.heap a es ep t) (fit : t.fits es.size = true) (sml : es.size ≤ sizeLine) (r : Ris t.place.toList)
    (ldd : w.params.followText "set-order" = true ∨ t.led = true)
    (kk : ∀ s' out, (∀ b o, s.heap.get? b = some o → s'.heap.get? b = some o) → s.heap.objs.size ≤ s'.heap.objs.size → s'.gens = s.gens → s'.os = s.os → out.Perm (es.toList.map (·.2)) → Q out s') :
    wpAny (model P w) A (collect (.ref a)) Q E s := by
  obtain ⟨o, o1, ocl, o3⟩ := id sat
  have alt : a < s.heap.objs.size := Heap.lt_size o1
  have sna : s.heap.objs.size ≠ a := Nat.ne_of_gt alt
  unfold collect
  refine wpAny_bind (wpAny_runValue (codeAny_builtin F.entry_proto_collect ?_))
  rw [Around.under_plainId F.plain_proto_collect _]
  show wpAny _ A.in1 (newList [] >>= fun l => again (.builtin "list.__iadd__" ⟨[l, .ref a], []⟩)) _ _ s
  refine wpAny_bind (wpAny_newObj_type ?_)
  refine wpAny_pure ⟨plainId_quiet F.plain_list_iadd _, codeAny_builtin F.entry_list_iadd ?_⟩
  rw [Around.under_plainId F.plain_list_iadd _]
  have sat0 : (s.heap.push { cls := .type "list", data := .seq ([] : List Value).toArray }).get? s.heap.objs.size = some { cls := .type "list", data := .seq ([] : List Value).toArray } := Heap.get?_push_size _ rfl
  have sat1 : SetAt (s.heap.push { cls := .type "list", data := .seq ([] : List Value).toArray }) a es ep t := sat.at fun u e => Heap.get?_push_of_some _ e
  have zz1 : (s.heap.push { cls := .type "list", data := .seq ([] : List Value).toArray }).objs.size = s.heap.objs.size + 1 := size_push' _ _
  show wpAny _ A.in1 (Builtin.List.listExtendWith (.ref s.heap.objs.size) (.ref a) (.ref s.heap.objs.size)) _ _ _
  unfold Builtin.List.listExtendWith
  refine wpAny_bind (wpAny_typeOf (T := "set") ⟨o, Heap.get?_push_of_some _ o1, ocl⟩ ?_)
  have q1 : Builtin.List.listSameRef (.ref s.heap.objs.size) (.ref a) = false := by simp [Builtin.List.listSameRef, sna]
  have q2 : (Value.type "set" == Value.type "list") = false := by decide
  have q3 : (Value.type "set" == Value.type "tuple") = false := by decide
  simp only [q1, q2, q3, Bool.or_false, Bool.false_eq_true, if_false]
  refine wpAny_bind (iter_big (s := { s with heap := s.heap.push { cls := .type "list", data := .seq ([] : List Value).toArray } }) sat1 fit sml r ldd fun s₂ I itt => ?_)
  obtain ⟨fp, St, out, Pv, k2, g2, o2, t2, jI, jfp, jp, jW, jPv, jst⟩ := itt
  have jI2 : s.heap.objs.size + 1 ≤ I := by rw [← zz1]; exact jI
  have sNf : s.heap.objs.size ∉ fp := fun mm => by
    rcases jfp _ mm with z | z
    · exact sna z
    · have z' : s.heap.objs.size + 1 ≤ s.heap.objs.size := by rw [← zz1]; exact z
      omega
  have o1b := k2 a o (Heap.get?_push_of_some _ o1)
  have ty2 : s₂.TypeIs (.ref a) "set" := ⟨o, o1b, ocl⟩
  refine wpAny_bind (wpAny_holding ?_)
  unfold Builtin.List.listLengthHint
  refine wpAny_bind (wpAny_specialOf ty2 F.slot_set_len.lookup ?_)
  (generalize eid : ("set.__len__" : String) = idz; (fail_if_success (clear eid idz)); wp_delta; rw [show splitId idz = some ("set", "__len__") from by subst eid; decide +kernel]; subst eid)
  refine wpAny_bind (wpAny_isInstance (b := true) ty2 sub_set_self ?_)
  show wpAny _ A.in1 (typeOf (.ref a) >>= _) _ _ _
  refine wpAny_bind (wpAny_typeOf ty2 ?_)
  refine wpAny_pure ?_
  show wpAny _ A.in1 (rule "list.extend.makes-room" >>= fun _ => Builtin.List.listTouch (.ref s.heap.objs.size) >>= fun _ =>
    again (.builtin "list.extend.loop" ⟨[.ref s.heap.objs.size, .ref I, .ref s.heap.objs.size], []⟩)) _ _ _
  refine wpAny_bind (wpAny_rule ?_)
  have sat2 := k2 _ _ sat0
  refine wpAny_bind ?_
  show wpAny _ A.in1 (updateSeq s.heap.objs.size (·.push .none) >>= fun _ => updateSeq s.heap.objs.size (·.pop)) _ _ _
  refine wpAny_bind (wpAny_updateSeq sat2 rfl ?_)
  have sat3 := Heap.get?_update_self (Obj.mapSeq (·.push Value.none)) sat2 rfl
  refine wpAny_updateSeq sat3 rfl ?_
  have sat4 := Heap.get?_update_self (Obj.mapSeq (·.pop)) sat3 rfl
  have others : ∀ b u, b ≠ s.heap.objs.size → s₂.heap.get? b = some u → ((s₂.heap.update s.heap.objs.size (Obj.mapSeq (·.push Value.none))).update s.heap.objs.size (Obj.mapSeq (·.pop))).get? b = some u :=
    fun b u eb e => (Heap.get?_update_other _ _ (Ne.symm eb)).trans ((Heap.get?_update_other _ _ (Ne.symm eb)).trans e)
  have small : out.length ≤ sizeLine := by
    rw [jp.length_eq, List.length_map, Array.length_toList]
    exact sml
  have WW := jW A.in1 nh
  have jst2 : St 0 ((s₂.heap.update s.heap.objs.size (Obj.mapSeq (·.push Value.none))).update s.heap.objs.size (Obj.mapSeq (·.pop))) :=
    WW.frame 0 _ _ jst fun b eb u e => others b u (fun z => sNf (z ▸ eb)) e
  refine wpAny_pure ⟨plainId_quiet F.plain_extend_loop _, codeAny_extend_loopS WW.toS small _ sNf _ out.length 0 _ _ _ rfl (Nat.zero_le _) jst2 sat4 (ItemsOf.nil Pv) fun s' acc' c' mm satE acce => ?_⟩
  show wpAny _ A (load s.heap.objs.size >>= _) _ _ s'
  refine wpAny_bind (wpAny_load satE ?_)
  have eout := items_out acce jPv
  refine wpAny_pure ?_
  show Q acc'.toList s'
  rw [eout]
  refine kk s' out (fun b u e => ?_) (Nat.le_of_lt (Heap.lt_size satE)) (Eq.trans mm.gens g2) (Eq.trans mm.os o2) jp
  have bl1 : b < s.heap.objs.size := Heap.lt_size e
  refine mm.heap b u (fun z => ?_) (others b u (Nat.ne_of_lt bl1) (k2 b u (Heap.get?_push_of_some _ e)))
  rcases List.mem_cons.mp z with z | z
  · first
      | exact absurd bl1 (by rw [z]; exact Nat.lt_irrefl _)
      | exact absurd bl1 (by rw [z]; exact Nat.not_lt_of_le (Nat.le_of_succ_le jI2))
  · have z := List.mem_singleton.mp z
    first
      | exact absurd bl1 (by rw [z]; exact Nat.lt_irrefl _)
      | exact absurd bl1 (by rw [z]; exact Nat.not_lt_of_le (Nat.le_of_succ_le jI2))

end
section
variable {P : Program} {w : World} {A : Around} {E : Value → Shared → Prop} {s : Shared}
/-- sorted(a set of cells) -/
theorem sorted_cells {a : Addr} {L : List (Addr × List Int)} {es : Array (Int × Value)} {ep : Nat} {t : SetTable} {Q : Value → Shared → Prop} (R : SB P w s.heap a L es ep t) (hh : A.handled = none) (h2 : ∀ p ∈ L, p.2.length = 2)
    (hQ : ∀ (h' : Heap) (g : Array GenState) (d : Drawn) (tk : Nat) (q : Addr) (out : List (Addr × List Int)), (∀ b o, s.heap.get? b = some o → h'.get? b = some o) → g = s.gens → s.heap.objs.size ≤ q →
      (∃ c, h'.get? q = some (seqObj "list" (out.map fun p => Value.ref p.1).toArray c)) → out.Perm L → out.Pairwise (fun p r => lexB (cel r.2) (cel p.2) = false) → Q (.ref q) { s with heap := h', gens := g, drawn := d, toks := tk }) :
    wpAny (model P w) A (call (.builtin "sorted") [.ref a]) Q E s := by
  obtain ⟨ob, hob, hex, hda⟩ := R.obj
  have nsz := R.size
  have nfew := R.few
  have uniq : ∀ p ∈ L, ∀ r ∈ L, p.1 = r.1 → p = r := by
    intro p hp r hr e
    have tp := R.tup p hp
    rw [e] at tp
    exact Prod.ext e (tp.inj (R.tup r hr))
  refine Calls.call_function_entry kind_sorted plain_sorted entry_sorted (args_sorted1 _) ?_
  unfold Builtin.«sorted»
  refine wpAny_bind (m := checkCount "sorted" 1 1 _) (wpAny_pure ?_)
  refine wpAny_bind (collect_big (A := A.in1) hh ⟨ob, hob, hex.1, hda⟩ R.fits (by rw [sizeLine_eq]; omega) R.tab.up R.led ?_)
  intro s1 met kp szle gens1 os1 perm1
  have perm2 : met.Perm (L.map fun p => Value.ref p.1) := by
    refine perm1.trans (List.Perm.of_eq ?_)
    rw [R.row]
    simp only [rowsOf, List.map_map]
    rfl
  have len : met.length = L.length := by rw [perm2.length_eq, List.length_map]
  have isp : ∀ h', (∀ b o, s.heap.get? b = some o → h'.get? b = some o) → ∀ v ∈ met, Srt.IsPair h' v (cel (rowAt L v).2).1 (cel (rowAt L v).2).2 := by
    intro h' kh v hv
    obtain ⟨p, hp, rfl⟩ := List.mem_map.mp (perm2.mem_iff.mp hv)
    rw [rowAt_mem uniq hp]
    exact pair_of_row (isT_keep (R.tup p hp) kh) (h2 p hp)
  have bound : met.length ≤ sizeLine := by rw [sizeLine_eq]; omega
  refine wpAny_bind (wpAny_newList ?_ bound)
  have hnew : (s1.heap.push (seqObj "list" met.toArray 0)).get? s1.heap.objs.size = some (seqObj "list" met.toArray 0) := Heap.get?_push_size _ rfl
  have kp2 : ∀ b o, s.heap.get? b = some o → (s1.heap.push (seqObj "list" met.toArray 0)).get? b = some o := fun b o e => Heap.get?_push_of_some _ (kp b o e)
  refine wpAny_bind (wpAny_holding (wpAny_call_entry slot_list_sort ⟨_, hnew, rfl⟩ entry_list_sort
    (list_sort_ord (s := { s1 with heap := s1.heap.push (seqObj "list" met.toArray 0) }) (swo_lex fun v => cel (rowAt L v).2) hnew bound (fun two => pairs_sortableO (k := fun v => cel (rowAt L v).2) (by omega) (fun v hv => isp _ kp2 v hv) fun o e c => ?_) fun out hs hb => ⟨_, rfl, ?_⟩) (args_list_sort _)))
  · have e' := e.symm.trans hnew
    cases e'
    exact absurd (Value.type.inj c) (by decide)
  · have perm3 : out.Perm met := hb.perm
    have e1 : (out.map (rowAt L)).map (fun p => Value.ref p.1) = out := by
      rw [List.map_map]
      refine (List.map_congr_left fun v hv => ?_).trans (List.map_id out)
      obtain ⟨p, hp, rfl⟩ := List.mem_map.mp (perm2.mem_iff.mp (perm3.mem_iff.mp hv))
      show Value.ref (rowAt L (.ref p.1)).1 = _
      rw [rowAt_mem uniq hp] <;> rfl
    have e2 : (L.map fun p => Value.ref p.1).map (rowAt L) = L := by
      rw [List.map_map]
      refine (List.map_congr_left fun p hp => ?_).trans (List.map_id L)
      exact rowAt_mem uniq hp
    obtain ⟨c, hc⟩ := sortedHeap_at (vs := met) (out := out.toArray) hnew
    refine wpAny_pure ⟨_, rfl, ?_⟩
    have eq : ({ s1 with heap := sortedHeap (s1.heap.push (seqObj "list" met.toArray 0)) s1.heap.objs.size met out.toArray } : Shared) = { s with heap := sortedHeap (s1.heap.push (seqObj "list" met.toArray 0)) s1.heap.objs.size met out.toArray, gens := s1.gens, drawn := s1.drawn, toks := s1.toks } := by
      cases s1
      cases s
      cases os1
      rfl
    rw [eq]
    refine hQ _ s1.gens s1.drawn s1.toks s1.heap.objs.size (out.map (rowAt L)) (fun b o e => ?_) gens1 szle ⟨c, by rw [e1]; exact hc⟩ ?_ ?_
    · have lt := Heap.lt_size (kp b o e)
      rw [sortedHeap_old (Nat.ne_of_lt lt) (by rw [size_push']; exact Nat.lt_succ_of_lt lt)]
      exact kp2 b o e
    · have z := (perm3.trans perm2).map (rowAt L)
      rw [e2] at z
      exact z
    · rw [List.pairwise_map]
      exact hs.imp fun h => h
end
/-- the set at a, without the tuples themselves -/
structure SB0 (P : Program) (w : World) (h : Heap) (a : Addr) (L : List (Addr × List Int)) : Prop where
  ex : ∃ (es : Array (Int × Value)) (ep : Nat) (t : SetTable), ∀ h2 : Heap, (∀ o, h.get? a = some o → h2.get? a = some o) → (∀ p ∈ L, L2.IsT P w h2 p.2 p.1) → SB P w h2 a L es ep t
  th : ∃ o, h.get? a = some o
  few : L.length ≤ 9800
  dif : (L.map Prod.snd).Nodup
def SetBO (P : Program) (w : World) (a : Addr) (L : List (Addr × List Int)) : HO := .ext fun h => SB0 P w h a L
theorem SB.low {P : Program} {w : World} {h : Heap} {a : Addr} {L : List (Addr × List Int)} {es : Array (Int × Value)} {ep : Nat} {t : SetTable} (R : SB P w h a L es ep t) : SB0 P w h a L :=
  ⟨⟨es, ep, t, fun _ ha ht => R.move ha ht⟩, (by
    obtain ⟨o, o1, _⟩ := R.obj
    exact ⟨o, o1⟩), R.few, R.dif⟩
theorem setBO_new {P : Program} {w : World} {H : Hp} {h : Heap} {a : Addr} {L : List (Addr × List Int)} (R : SB0 P w h a L) : ObjOk P w H h a (SetBO P w a L) := by
  refine ⟨R, R.th, fun h1 h2 p k => ?_⟩
  have p' : SB0 P w h1 a L := p
  obtain ⟨es, ep, t, f⟩ := p'.ex
  obtain ⟨o, o1⟩ := p'.th
  exact ⟨⟨es, ep, t, fun h3 ha ht => f h3 (fun o e => ha o (k o e)) ht⟩, ⟨o, k o o1⟩, p'.few, p'.dif⟩
/-- set(xs) -/
def rSetB (K : PySem.W.Frag) (P : Program) (w : World) : List V → Hp → VK → Prop := fun xs H Q => ∃ (l : Addr) (ks : List (Addr × List Int)), xs = [V.ref l] ∧ (SqL K H l (ks.map fun p => V.ref p.1) ∨ SqT K H l (ks.map fun p => V.ref p.1)) ∧ (∀ p ∈ ks, SqT K H p.1 (p.2.map V.int)) ∧ Few ks ∧
  ∀ a L, H a = none → (∀ p ∈ L, p ∈ ks) → (∀ p ∈ ks, p.2 ∈ L.map Prod.snd) → (L.map Prod.snd).Nodup → Q (.ref a) (upd H a (SetBO P w a L))
theorem cr_setB {X : Cx} (hc : X.calm = true) (hu : X.A.units + 64 < cLine) : CallR X (.type "set") (rSetB X.K X.prog X.w) := by
  intro pins s σ H xs us Q I r ⟨l, ks, e, hl, hk, hf, q⟩
  subst e
  rw [Vals.ref1 r]
  have src : ∃ items : Array Value, (s.heap.IsList l items ∨ s.heap.IsTuple l items) ∧ items.toList = ks.map fun p => Value.ref p.1 := by
    rcases hl with hl | hl
    · obtain ⟨its, rv, pl, _⟩ := I.list hl
      exact ⟨its.toArray, .inl pl.isList, by simpa using refs_of_vals rv⟩
    · obtain ⟨its, rv, pl, _⟩ := I.tuple hl
      exact ⟨its.toArray, .inr pl, by simpa using refs_of_vals rv⟩
  obtain ⟨items, src, hit⟩ := src
  have hn : H s.heap.objs.size = none := I.hok.fresh (Nat.le_refl _)
  refine call_setB (P := X.prog) (w := X.w) ks (I.ok.hd hc) src hit (fun p hp => I.isT (hk p hp)) hf (by omega) fun h2 tk ⟨L, es, ep, t, R, g⟩ k => ?_
  refine ⟨.ref s.heap.objs.size, upd H s.heap.objs.size (SetBO X.prog X.w s.heap.objs.size L), I.laid (t' := tk) k (Nat.le_refl _) (setBO_new R.low), rfl, q _ L hn (fun p hp => List.mem_of_mem_take (g.sub p hp)) (fun p hp => g.all p ?_) R.dif⟩
  rw [List.take_length]
  exact hp
/-- sorted(set(..)) -/
def rSortSetC (K : PySem.W.Frag) (P : Program) (w : World) : List V → Hp → VK → Prop := fun vs H Q => ∃ a L, vs = [V.ref a] ∧ H a = some (SetBO P w a L) ∧ (∀ p ∈ L, SqT K H p.1 (p.2.map V.int) ∧ p.2.length = 2) ∧
  ∀ (out : List (Addr × List Int)) (q : Addr), out.Perm L → (out.map (·.2)).Nodup → out.Pairwise (fun p r => lexB (cel r.2) (cel p.2) = false) → H q = none → Q (.ref q) (upd H q (.lst (out.map fun p => V.ref p.1)))
theorem cr_sortSetC {X : Cx} (hc : X.calm = true) : CallR X (.builtin "sorted") (rSortSetC X.K X.prog X.w) := by
  intro pins s σ H vs us Q I r ⟨a, L, e, ha, hk, q⟩
  subst e
  have R0 : SB0 X.prog X.w s.heap a L := (I.hok a _ ha).1
  obtain ⟨es, ep, t, R1⟩ := R0.ex
  have R := R1 s.heap (fun _ e => e) fun p hp => I.isT (hk p hp).1
  rw [Vals.ref1 r]
  refine sorted_cells R (I.ok.hd hc) (fun p hp => (hk p hp).2) fun h' g d tk p out kp eg hp ⟨c, hg⟩ pm pw => ?_
  have hn : H p = none := I.hok.fresh hp
  have hz : (out.map fun p => V.ref p.1).length ≤ sizeLine := by
    rw [List.length_map, pm.length_eq, sizeLine_eq]
    have := R.few
    omega
  refine ⟨.ref p, upd H p (.lst (out.map fun p => V.ref p.1)), ?_, rfl, q out p pm ((pm.map _).nodup_iff.mpr R.dif) pw hn⟩
  exact I.call (ch := []) (Un.laid kp hp hn) (I.hok.laid kp hp ⟨hz, _, c, vals_of_refs out, hg⟩) (by rw [eg]; exact I.bare) (fun _ z => nomatch z)

/-! ### rising lists -/
theorem ltC_iff {a b : Int × Int} : ltC a b = true ↔ (a.1 < b.1 ∨ (a.1 = b.1 ∧ a.2 < b.2)) := decide_eq_true_iff
theorem ltC_tri (a b : Int × Int) : ltC a b = true ∨ a = b ∨ ltC b a = true := by
  rw [ltC_iff, ltC_iff, Prod.ext_iff]
  omega
theorem ltC_trans {a b c : Int × Int} (h1 : ltC a b = true) (h2 : ltC b c = true) : ltC a c = true := by
  rw [ltC_iff] at *
  omega
theorem ltC_irrefl (a : Int × Int) : ¬ ltC a a = true := by
  rw [ltC_iff]
  omega
theorem lexB_ltC {a b : Int × Int} (h : lexB b a = false) (ne : a ≠ b) : ltC a b = true := by
  have h1 := lexB_no.mp h
  rcases ltC_tri a b with z | z | z
  · exact z
  · exact absurd z ne
  · exact absurd (ltC_iff.mp z) h1
/-- strictly rising -/
abbrev Up (xs : List (Int × Int)) : Prop := xs.Pairwise fun a b => ltC a b = true
theorem mem_insC (x c : Int × Int) : ∀ xs, c ∈ insC x xs ↔ c = x ∨ c ∈ xs
  | [] => by simp [insC]
  | y :: r => by
    unfold insC
    split
    · simp
    · split
      · next e => subst e; simp
      · rw [List.mem_cons, mem_insC x c r, List.mem_cons]
        constructor
        · rintro (h | h | h)
          · exact .inr (.inl h)
          · exact .inl h
          · exact .inr (.inr h)
        · rintro (h | h | h)
          · exact .inr (.inl h)
          · exact .inl h
          · exact .inr (.inr h)
theorem up_insC (x : Int × Int) : ∀ xs, Up xs → Up (insC x xs)
  | [], _ => List.pairwise_singleton _ _
  | y :: r, h => by
    obtain ⟨h1, h2⟩ := List.pairwise_cons.mp h
    unfold insC
    split
    · next lt =>
      refine List.pairwise_cons.mpr ⟨fun z hz => ?_, h⟩
      rcases List.mem_cons.mp hz with e | e
      · rw [e]; exact lt
      · exact ltC_trans lt (h1 z e)
    · next lt =>
      split
      · exact h
      · next ne =>
        refine List.pairwise_cons.mpr ⟨fun z hz => ?_, up_insC x r h2⟩
        rcases (mem_insC x z r).mp hz with e | e
        · rw [e]
          rcases ltC_tri y x with q | q | q
          · exact q
          · exact absurd q.symm ne
          · exact absurd q lt
        · exact h1 z e
theorem mem_rise (c : Int × Int) : ∀ xs, c ∈ rise xs ↔ c ∈ xs
  | [] => Iff.rfl
  | x :: xs => by
    show c ∈ insC x (rise xs) ↔ _
    rw [mem_insC, mem_rise c xs, List.mem_cons]
theorem up_rise : ∀ xs, Up (rise xs)
  | [] => .nil
  | x :: xs => up_insC x _ (up_rise xs)
theorem up_eq : ∀ {a b : List (Int × Int)}, Up a → Up b → (∀ c, c ∈ a ↔ c ∈ b) → a = b
  | [], [], _, _, _ => rfl
  | [], y :: b, _, _, h => absurd ((h y).mpr List.mem_cons_self) (by simp)
  | x :: a, [], _, _, h => absurd ((h x).mp List.mem_cons_self) (by simp)
  | x :: a, y :: b, ha, hb, h => by
    obtain ⟨a1, a2⟩ := List.pairwise_cons.mp ha
    obtain ⟨b1, b2⟩ := List.pairwise_cons.mp hb
    have e : x = y := by
      rcases List.mem_cons.mp ((h x).mp List.mem_cons_self) with z | z
      · exact z
      · rcases List.mem_cons.mp ((h y).mpr List.mem_cons_self) with q | q
        · exact q.symm
        · exact absurd (ltC_trans (a1 y q) (b1 x z)) (ltC_irrefl x)
    subst e
    refine congrArg _ (up_eq a2 b2 fun c => ⟨fun hc => ?_, fun hc => ?_⟩)
    · rcases List.mem_cons.mp ((h c).mp (List.mem_cons_of_mem _ hc)) with z | z
      · rw [z] at hc
        exact absurd (a1 x hc) (ltC_irrefl x)
      · exact z
    · rcases List.mem_cons.mp ((h c).mpr (List.mem_cons_of_mem _ hc)) with z | z
      · rw [z] at hc
        exact absurd (b1 x hc) (ltC_irrefl x)
      · exact z
theorem len_insC (x : Int × Int) : ∀ xs, (insC x xs).length ≤ xs.length + 1
  | [] => Nat.le_refl _
  | y :: r => by
    unfold insC
    split
    · exact Nat.le_refl _
    · split
      · exact Nat.le_succ _
      · exact Nat.succ_le_succ (len_insC x r)
theorem len_rise : ∀ xs, (rise xs).length ≤ xs.length
  | [] => Nat.le_refl _
  | x :: xs => Nat.le_trans (len_insC x _) (Nat.succ_le_succ (len_rise xs))

/-! ### the set as a value: its cells, rising -/
def RowOk (H : Hp) (p : Addr × List Int) : Prop := H p.1 = some (.tup (p.2.map V.int)) ∧ p.2.length = 2
def SetRep (P : Program) (w : World) (a : List (Int × Int)) (H : Hp) (v : V) : Prop := Up a ∧ ∃ (p : Addr) (L : List (Addr × List Int)), v = .ref p ∧ H p = some (SetBO P w p L) ∧ (∀ q ∈ L, RowOk H q) ∧ ∀ c, c ∈ a ↔ c ∈ L.map fun q => cel q.2
def rSet (P : Program) (w : World) : Rp (List (Int × Int)) where
  rep a H v := SetRep P w a H v
  mono e := fun ⟨u, p, L, h, q, r, m⟩ => ⟨u, p, L, h, e p _ q, fun x hx => ⟨e _ _ (r x hx).1, (r x hx).2⟩, m⟩
theorem rows_of {F : Hp} : ∀ {xs : List (Int × Int)} {vs : List V}, RepL rC F xs vs → ∃ ks : List (Addr × List Int), vs = ks.map (fun p => V.ref p.1) ∧ xs = ks.map (fun p => cel p.2) ∧ ∀ p ∈ ks, RowOk F p
  | _, _, .nil => ⟨[], rfl, rfl, fun _ h => absurd h (by simp)⟩
  | _, _, .cons (a := a) (v := v) ⟨p, ws, e, h, v1, ws2, e1, r1, v2, e2, r2⟩ t => by
    obtain ⟨ks, f1, f2, f3⟩ := rows_of t
    refine ⟨(p, [a.1, a.2]) :: ks, by rw [e, f1] <;> rfl, by rw [f2] <;> rfl, fun q hq => ?_⟩
    rcases List.mem_cons.mp hq with z | z
    · subst z
      refine ⟨?_, rfl⟩
      show F p = _
      rw [h, e1, e2, show v1 = V.int a.1 from r1, show v2 = V.int a.2 from r2] <;> rfl
    · exact f3 q z
theorem rows_rep {F : Hp} : ∀ (ks : List (Addr × List Int)), (∀ p ∈ ks, RowOk F p) → RepL rC F (ks.map fun p => cel p.2) (ks.map fun p => V.ref p.1)
  | [], _ => .nil
  | (a, l) :: ks, h => .cons (by
    obtain ⟨h1, h2⟩ := h _ List.mem_cons_self
    match l, h1, h2 with
    | [x, y], h1, _ => exact ⟨a, _, rfl, h1, .int x, _, rfl, rfl, .int y, rfl, rfl⟩) (rows_rep ks fun p hp => h p (List.mem_cons_of_mem _ hp))
theorem cel_inj {a b : List Int} (ha : a.length = 2) (hb : b.length = 2) (h : cel a = cel b) : a = b := by
  match a, b, ha, hb with
  | [x, y], [z, t], _, _ =>
    have h1 : x = z := congrArg Prod.fst h
    have h2 : y = t := congrArg Prod.snd h
    rw [h1, h2]
theorem nodup_len {α : Type} [DecidableEq α] : ∀ {l m : List α}, l.Nodup → (∀ x ∈ l, x ∈ m) → l.length ≤ m.length
  | [], _, _, _ => Nat.zero_le _
  | x :: l, m, h, k => by
    obtain ⟨h1, h2⟩ := List.nodup_cons.mp h
    have hx := k x List.mem_cons_self
    have z := nodup_len (m := m.erase x) h2 fun y hy => (List.mem_erase_of_ne fun e => h1 (by rw [← e]; exact hy)).mpr (k y (List.mem_cons_of_mem _ hy))
    rw [List.length_erase_of_mem hx] at z
    have := List.length_pos_of_mem hx
    rw [List.length_cons]
    omega
theorem few_of {ks : List (Addr × List Int)} (h : (rise (ks.map fun p => cel p.2)).length ≤ 9800) (two : ∀ p ∈ ks, p.2.length = 2) : Few ks := fun L sub nd => by
  have n1 : (L.map fun p => cel p.2).Nodup := by
    have n2 : L.Pairwise fun p r => p.2 ≠ r.2 := List.pairwise_map.mp nd
    exact List.pairwise_map.mpr (n2.imp_of_mem fun {p r} hp hr z e => z (cel_inj (two p (sub p hp)) (two r (sub r hr)) e))
  have s1 : (L.map fun p => cel p.2) ⊆ rise (ks.map fun p => cel p.2) := fun c hc => by
    obtain ⟨p, hp, e⟩ := List.mem_map.mp hc
    exact (mem_rise c _).mpr (List.mem_map.mpr ⟨p, sub p hp, e⟩)
  have z := nodup_len n1 s1
  rw [List.length_map] at z
  omega
theorem dSetG {K : PySem.W.Frag} {P : Program} {w : World} {xs : List (Int × Int)} {p : Addr} {ws : List V} {F H : Hp} {Q : VK} (hl : (rise xs).length ≤ 9800) (e : Same F H) (hp : SqL K H p ws ∨ SqT K H p ws) (r : RepL rC F xs ws)
    (h : ∀ v F' H', Ext F H F' H' → (rSet P w).rep (rise xs) F' v → Q v H') : rSetB K P w [.ref p] H Q := by
  obtain ⟨ks, f1, f2, f3⟩ := rows_of r
  refine ⟨p, ks, rfl, f1 ▸ hp, fun q hq => .inl (.inl (e _ _ (f3 q hq).1)), few_of (f2 ▸ hl) (fun q hq => (f3 q hq).2), fun a L hn hs hall _ => ?_⟩
  have x := Ext.new (o := SetBO P w a L) e hn
  refine h _ _ _ x ⟨up_rise xs, a, L, rfl, upd_same, fun q hq => ⟨x.f _ _ (f3 q (hs q hq)).1, (f3 q (hs q hq)).2⟩, fun c => ?_⟩
  rw [mem_rise, f2]
  constructor
  · intro hc
    obtain ⟨q, hq, e3⟩ := List.mem_map.mp hc
    obtain ⟨q2, hq2, e4⟩ := List.mem_map.mp (hall q hq)
    exact List.mem_map.mpr ⟨q2, hq2, by rw [← e3]; exact congrArg cel e4⟩
  · intro hc
    obtain ⟨q, hq, e3⟩ := List.mem_map.mp hc
    exact List.mem_map.mpr ⟨q, hs q hq, e3⟩
theorem dSetL {K : PySem.W.Frag} {P : Program} {w : World} : DC (rSetB K P w) (t1 (rL rC)) (rSet P w) fun xs => chk ((rise xs).length ≤ 9800) (rise xs) := fun xs vs F H Q e ⟨v, ev, p, ws, e2, hp, r⟩ h => by
  obtain ⟨hl, h⟩ := wpR_chk h
  rw [ev, e2]
  exact dSetG hl e (.inl (.inl (.inl (e p _ hp)))) r h
theorem dSetT {K : PySem.W.Frag} {P : Program} {w : World} : DC (rSetB K P w) (t1 (rT rC)) (rSet P w) fun xs => chk ((rise xs).length ≤ 9800) (rise xs) := fun xs vs F H Q e ⟨v, ev, p, ws, e2, hp, r⟩ h => by
  obtain ⟨hl, h⟩ := wpR_chk h
  rw [ev, e2]
  exact dSetG hl e (.inr (.inl (.inl (e p _ hp)))) r h
theorem dSortSet {K : PySem.W.Frag} {P : Program} {w : World} : DF (rSortSetC K P w) (t1 (rSet P w)) (fun ys => oLi (tl rC) ys) fun a => .ok a := fun a vs F H Q e ⟨v, ev, u, p, L, e2, hp, hr, hm⟩ h => by
  refine ⟨p, L, by rw [ev, e2], e p _ hp, fun q hq => ⟨.inl (.inl (e _ _ (hr q hq).1)), (hr q hq).2⟩, fun out q pm nd pw hn => ?_⟩
  refine h q _ hn ⟨_, rfl, ?_⟩
  have ok : ∀ p ∈ out, RowOk F p := fun p hp => hr p (pm.mem_iff.mp hp)
  have e3 : a = out.map fun p => cel p.2 := by
    refine up_eq u ?_ fun c => ?_
    · rw [Up, List.pairwise_map]
      have nd2 : out.Pairwise fun p r => p.2 ≠ r.2 := List.pairwise_map.mp nd
      refine (List.Pairwise.and pw nd2).imp_of_mem fun {p r} hp hr z => lexB_ltC z.1 fun e => z.2 (cel_inj (ok p hp).2 (ok r hr).2 e)
    · rw [hm]
      exact ((pm.map fun p : Addr × List Int => cel p.2).mem_iff (a := c)).symm
  rw [e3]
  exact rows_rep out ok

/-- set(xs) -/
def sortSet (xs : List (Int × Int)) : R (List (Int × Int)) := chk ((rise xs).length ≤ 9800) (rise xs)
section
variable {X : Cx} {U : Wi} {Γ : List Sl} {e : Expr} {pos p2 p3 p4 : Pos}
theorem x_setL {m : R (List (Int × Int))} (hu : X.A.units + 64 < cLine) (hm : X.mg "set" = none) (he : EX X U Γ e (rL rC) m) (hc : X.calm = true := by rfl) (hg : Gl X "set" := by rfl)
    (h1 : starEach [e] X.env = (false, eval e X.env) :: starEach [] X.env := by rfl) (h2 : (backTo pos (starEach [] X.env)).any (·.1) = false := by rfl) :
    EX X U Γ (.Call (.Name "set" p2) [e] [] pos) (rSet X.prog X.w) (m.bind sortSet) :=
  (x_callTy (cr_setB hc hu) dSetL hm (by decide +kernel) (a_one he h1) hg (by decide) (by decide) h1 h2).cv (by
    cases m with
    | ok x => show ((chk _ _).calm.bind fun z => R.ok z) = _; rw [chk_calm] <;> rfl
    | er r => rfl
    | bad => rfl)
theorem x_setT {m : R (List (Int × Int))} (hu : X.A.units + 64 < cLine) (hm : X.mg "set" = none) (he : EX X U Γ e (rT rC) m) (hc : X.calm = true := by rfl) (hg : Gl X "set" := by rfl)
    (h1 : starEach [e] X.env = (false, eval e X.env) :: starEach [] X.env := by rfl) (h2 : (backTo pos (starEach [] X.env)).any (·.1) = false := by rfl) :
    EX X U Γ (.Call (.Name "set" p2) [e] [] pos) (rSet X.prog X.w) (m.bind sortSet) :=
  (x_callTy (cr_setB hc hu) dSetT hm (by decide +kernel) (a_one he h1) hg (by decide) (by decide) h1 h2).cv (by
    cases m with
    | ok x => show ((chk _ _).calm.bind fun z => R.ok z) = _; rw [chk_calm] <;> rfl
    | er r => rfl
    | bad => rfl)
theorem f_sortset {m : R (List (Int × Int))} (hm : X.mg "sorted" = none) (he : EX X U Γ e (rSet X.prog X.w) m) (hc : X.calm = true := by rfl) (hg : Gl X "sorted" := by rfl)
    (h1 : starEach [e] X.env = (false, eval e X.env) :: starEach [] X.env := by rfl) (h2 : (backTo pos (starEach [] X.env)).any (·.1) = false := by rfl) :
    FX X U Γ (.Call (.Name "sorted" p2) [e] [] pos) (fun ys => oLi (tl rC) ys) m := by
  have h := f_callB (p := p2) (pos := pos) (cr_sortSetC hc) dSortSet hm (by decide +kernel) (a_one he h1) hg (by decide) (by decide) h1 h2
  refine h.cv ?_
  cases m <;> rfl
end

/-! ### sorted lists of cells and of ints -/
def inO {α : Type} (lt : α → α → Bool) (x : α) : List α → List α
  | [] => [x]
  | y :: r => if lt y x = true then y :: inO lt x r else x :: y :: r
def srt {α : Type} (lt : α → α → Bool) (xs : List α) : List α := xs.foldr (inO lt) []
/-- the order is one of values: what neither is below the other is the same -/
structure Tot {α : Type} (lt : α → α → Bool) : Prop where
  asym : ∀ a b, lt a b = true → lt b a = false
  tran : ∀ a b c, lt b a = false → lt c b = false → lt c a = false
  same : ∀ a b, lt a b = false → lt b a = false → a = b
section
variable {α : Type} {lt : α → α → Bool}
abbrev Asc (lt : α → α → Bool) (xs : List α) : Prop := xs.Pairwise fun a b => lt b a = false
theorem perm_inO (x : α) : ∀ xs, (inO lt x xs).Perm (x :: xs)
  | [] => .refl _
  | y :: r => by
    unfold inO
    split
    · exact ((perm_inO x r).cons y).trans (.swap x y r)
    · exact .refl _
theorem perm_srt : ∀ xs : List α, (srt lt xs).Perm xs
  | [] => .refl _
  | x :: xs => (perm_inO x _).trans ((perm_srt xs).cons x)
theorem asc_inO (T : Tot lt) (x : α) : ∀ xs, Asc lt xs → Asc lt (inO lt x xs)
  | [], _ => List.pairwise_singleton _ _
  | y :: r, h => by
    obtain ⟨h1, h2⟩ := List.pairwise_cons.mp h
    unfold inO
    split
    · next c =>
      refine List.pairwise_cons.mpr ⟨fun z hz => ?_, asc_inO T x r h2⟩
      rcases List.mem_cons.mp ((perm_inO x r).mem_iff.mp hz) with e | e
      · rw [e]; exact T.asym y x c
      · exact h1 z e
    · next c =>
      have c' : lt y x = false := by simpa using c
      refine List.pairwise_cons.mpr ⟨fun z hz => ?_, h⟩
      rcases List.mem_cons.mp hz with e | e
      · rw [e]; exact c'
      · exact T.tran x y z c' (h1 z e)
theorem asc_srt (T : Tot lt) : ∀ xs : List α, Asc lt (srt lt xs)
  | [] => .nil
  | x :: xs => asc_inO T x _ (asc_srt T xs)
theorem asc_eq (T : Tot lt) : ∀ {xs ys : List α}, Asc lt xs → Asc lt ys → xs.Perm ys → xs = ys
  | [], ys, _, _, p => p.nil_eq
  | x :: xs, [], _, _, p => absurd p.length_eq (by simp)
  | x :: xs, y :: ys, hx, hy, p => by
    obtain ⟨x1, x2⟩ := List.pairwise_cons.mp hx
    obtain ⟨y1, y2⟩ := List.pairwise_cons.mp hy
    have irr : ∀ a : α, lt a a = false := fun a => by
      cases e : lt a a with
      | false => rfl
      | true => exact (T.asym a a e).symm.trans e |>.symm ▸ rfl
    have a1 : lt y x = false := by
      rcases List.mem_cons.mp (p.mem_iff.mpr (List.mem_cons_self (a := y) (l := ys))) with e | e
      · rw [e]; exact irr x
      · exact x1 y e
    have a2 : lt x y = false := by
      rcases List.mem_cons.mp (p.mem_iff.mp (List.mem_cons_self (a := x) (l := xs))) with e | e
      · rw [e]; exact irr y
      · exact y1 x e
    have e := T.same x y a2 a1
    subst e
    rw [asc_eq T x2 y2 p.cons_inv]
end
theorem ltC_no {a b : Int × Int} : ltC a b = false ↔ ¬ (a.1 < b.1 ∨ (a.1 = b.1 ∧ a.2 < b.2)) := decide_eq_false_iff_not
theorem totC : Tot ltC := ⟨fun a b h => by rw [ltC_iff] at h; rw [ltC_no]; omega, fun a b c h1 h2 => by rw [ltC_no] at *; omega, fun a b h1 h2 => by rw [ltC_no] at *; rw [Prod.ext_iff]; omega⟩
/-- sorted(xs) of cells -/
abbrev sortC (xs : List (Int × Int)) : List (Int × Int) := srt ltC xs
theorem up_asc {xs : List (Int × Int)} (h : Up xs) : Asc ltC xs := h.imp fun {a b} z => totC.asym a b z
/-- the cell of a value, by the rows that were told -/
def celOf (ks : List (Addr × List Int)) : V → Int × Int
  | .ref a => cel ((ks.find? fun p => decide (p.1 = a)).getD (0, [])).2
  | _ => (0, 0)
theorem celOf_mem {H : Hp} {ks : List (Addr × List Int)} (hk : ∀ p ∈ ks, RowOk H p) {p : Addr × List Int} (hp : p ∈ ks) : celOf ks (.ref p.1) = cel p.2 := by
  show cel ((ks.find? fun q => decide (q.1 = p.1)).getD (0, [])).2 = _
  cases e : ks.find? fun q => decide (q.1 = p.1) with
  | none => exact absurd (List.find?_eq_none.mp e p hp) (by simp)
  | some q =>
    have e1 : q.1 = p.1 := of_decide_eq_true (List.find?_some (p := fun q : Addr × List Int => decide (q.1 = p.1)) e)
    have a1 := (hk q (List.mem_of_find?_eq_some e)).1
    have a2 := (hk p hp).1
    rw [e1, a2] at a1
    have a3 : p.2.map V.int = q.2.map V.int := by injection a1 with z; injection z
    have a4 : p.2 = q.2 := by
      have inj : ∀ l m : List Int, l.map V.int = m.map V.int → l = m := by
        intro l
        induction l with
        | nil => intro m hm; cases m with
          | nil => rfl
          | cons => cases hm
        | cons x l ih => intro m hm; cases m with
          | nil => cases hm
          | cons y m =>
            injection hm with h1 h2
            injection h1 with h1
            rw [h1, ih m h2]
      exact inj _ _ a3
    show cel q.2 = _
    rw [a4]
theorem dSortC {K : PySem.W.Frag} : DF (rSortedPO K) (t1 (rL rC)) (fun ys => oLi (tl rC) ys) fun xs => .ok (sortC xs) := fun xs vs F H Q e ⟨v, ev, p, ws, e2, hp, r⟩ h => by
  obtain ⟨ks, f1, f2, f3⟩ := rows_of r
  have f4 : ∀ p ∈ ks, RowOk H p := fun p hp => ⟨e _ _ (f3 p hp).1, (f3 p hp).2⟩
  refine ⟨p, ws, celOf ks, by rw [ev, e2], .inl (.inl (e p _ hp)), fun x hx => ?_, fun ys q st sb hn => ?_⟩
  · rw [f1] at hx
    obtain ⟨r0, r1, rfl⟩ := List.mem_map.mp hx
    refine ⟨r0.1, rfl, ?_⟩
    rw [celOf_mem f4 r1, (f4 r0 r1).1]
    obtain ⟨a, l⟩ := r0
    have z := (f3 _ r1).2
    match l, z with
    | [x, y], _ => rfl
  · refine h q _ hn ⟨_, rfl, ?_⟩
    have mem : ∀ y ∈ ys, ∃ p ∈ ks, y = V.ref p.1 := fun y hy => by
      have z := sb.perm.mem_iff.mp hy
      rw [f1] at z
      obtain ⟨p, hp, e⟩ := List.mem_map.mp z
      exact ⟨p, hp, e.symm⟩
    have rep : ∀ zs : List V, (∀ y ∈ zs, ∃ p ∈ ks, y = V.ref p.1) → RepL rC F (zs.map (celOf ks)) zs := by
      intro zs
      induction zs with
      | nil => intro _; exact .nil
      | cons y zs ih =>
        intro hz
        obtain ⟨p, hp, rfl⟩ := hz y List.mem_cons_self
        refine .cons ?_ (ih fun u hu => hz u (List.mem_cons_of_mem _ hu))
        rw [celOf_mem f4 hp]
        have one := rows_rep (F := F) [p] fun q hq => by rw [List.mem_singleton.mp hq]; exact f3 p hp
        cases one with
        | cons r _ => exact r
    have e3 : sortC xs = ys.map (celOf ks) := by
      refine asc_eq totC (asc_srt totC xs) ?_ ((perm_srt xs).trans ?_)
      · rw [Asc, List.pairwise_map]
        refine st.imp fun {a b} z => ?_
        have z' := lexB_no.mp (show lexB (celOf ks b) (celOf ks a) = false from z)
        exact ltC_no.mpr z'
      · have z := (sb.perm.map (celOf ks)).symm
        refine List.Perm.trans (List.Perm.of_eq ?_) z
        rw [f2, f1, List.map_map]
        exact List.map_congr_left fun p hp => (celOf_mem f4 hp).symm
    rw [e3]
    exact rep ys mem
section
variable {X : Cx} {U : Wi} {Γ : List Sl} {e : Expr} {pos p2 p3 p4 : Pos}
theorem f_sortC {m : R (List (Int × Int))} (hm : X.mg "sorted" = none) (he : EX X U Γ e (rL rC) m) (hg : Gl X "sorted" := by rfl)
    (h1 : starEach [e] X.env = (false, eval e X.env) :: starEach [] X.env := by rfl) (h2 : (backTo pos (starEach [] X.env)).any (·.1) = false := by rfl) :
    FX X U Γ (.Call (.Name "sorted" p2) [e] [] pos) (fun ys => oLi (tl rC) ys) (m.bind fun xs => .ok (sortC xs)) :=
  (f_callB cr_sortedPO dSortC hm (by decide +kernel) (a_one he h1) hg (by decide) (by decide) h1 h2).cv (by cases m <;> rfl)
end
end Py

/-! Own layer, part H: how a law ends; plain words about mirrors. -/
namespace Py
open PySem PySem.Spec PyProof.Rows L2
section
variable {X : Cx} {U : Wi} {Γ : List Sl} {e : Expr} {α ω : Type} {ρ : Rp α} {sts : List Stmt} {I : ω → Kd}
/-- where the law never comes -/
theorem s_bad : SX X U Γ sts I .bad := ⟨fun en F σ H D s h => h.elim⟩
/-- a value that may be None, where it is none of those -/
theorem x_some {m : R (Option α)} (h : EX X U Γ e (rO ρ) m) : EX X U Γ e ρ (m.bind ofOpt) :=
  ⟨fun en F σ H Q s q => h.out en F σ H Q s (wpR_mono (wpR_bind q) (fun x k v F1 H1 e1 s1 r1 => by
    cases x with
    | none => exact k.elim
    | some y => exact k v F1 H1 e1 s1 r1) fun _ z => z)⟩
end
/-- what a law is asked -/
def SpL (K : PySem.W.Frag) : Sp := fun vs H Q _ => ∃ (a : Addr) (ns : List Int), vs = [.ref a] ∧ SqL K H a (ns.map V.int) ∧ ns.length ≤ 63 ∧ (∀ z ∈ ns, Builtin.Int.intBits z ≤ 1048576) ∧ ∀ H', Q (.bl true) H'
theorem law_fn {P : Program} {w : World} {K : PySem.W.Frag} {mg : Str → Option Value} {base : Heap} {CX : CXT} {k : Nat} {f : Addr} {fd : FuncData} {ps : List Str} {g : List Int → R Bool} (F : FnOk P w K mg base CX k f fd ps (SpP mg (t1 (rScr K)) rB g))
    (h : ∀ ns : List Int, ns.length ≤ 63 → (∀ z ∈ ns, Builtin.Int.intBits z ≤ 1048576) → g ns = .ok true) : FnOk P w K mg base CX k f fd ps (SpL K) :=
  F.imp fun vs H Q E ⟨a, ns, e, hS, hl, hb, q⟩ => by
    subst e
    refine ⟨H, ns, Same.refl H, ⟨.ref a, rfl, a, rfl, hS⟩, ?_⟩
    rw [h ns hl hb]
    exact fun v F' H' _ r => by
      rw [show v = .bl true from r]
      exact q H'
theorem cx_end {P : Program} {w : World} {H : Hp} {s : Shared} {e : Value} {s' : Shared} (h : L2.CX P w [] H s (fun _ _ _ => False) e s') : False := by
  obtain ⟨_, _, _, _, _, _, _, _, _, _, _, _, f⟩ := h
  exact f

/-! ### a mirror that ends well -/
/-- it gives something of which P is true -/
def Gd {α : Type} (m : R α) (P : α → Prop) : Prop := ∃ a, m = .ok a ∧ P a
section
variable {α β γ τ : Type} {P : α → Prop} {Q : β → Prop}
theorem Gd.eq {m : R α} {a : α} (h : Gd m (· = a)) : m = .ok a := by
  obtain ⟨b, e, rfl⟩ := h
  exact e
theorem Gd.of {m : R α} {a : α} (h : m = .ok a) (p : P a) : Gd m P := ⟨a, h, p⟩
theorem Gd.ok {a : α} (p : P a) : Gd (.ok a) P := ⟨a, rfl, p⟩
theorem Gd.mono {m : R α} {P' : α → Prop} (h : Gd m P) (k : ∀ a, P a → P' a) : Gd m P' := by
  obtain ⟨a, e, p⟩ := h
  exact ⟨a, e, k a p⟩
theorem Gd.bind {m : R α} {f : α → R β} (h : Gd m P) (k : ∀ a, P a → Gd (f a) Q) : Gd (m.bind f) Q := by
  obtain ⟨a, e, p⟩ := h
  subst e
  exact k a p
theorem Gd.eqB {m : R α} {a : α} {f : α → R β} (h : m = .ok a) (k : Gd (f a) Q) : Gd (m.bind f) Q := by
  subst h
  exact k
theorem Gd.chk {c : Prop} [Decidable c] {a : α} (hc : c) (p : P a) : Gd (Py.chk c a) P := ⟨a, by unfold Py.chk; rw [if_pos hc], p⟩
theorem Gd.chkB {c : Prop} [Decidable c] {a : α} {f : α → R β} (hc : c) (k : Gd (f a) Q) : Gd ((Py.chk c a).bind f) Q := (Gd.chk (P := fun b => b = a) hc rfl).bind fun b e => by rw [e]; exact k
theorem Gd.optB {o : Option α} {a : α} {f : α → R β} (h : o = some a) (k : Gd (f a) Q) : Gd ((ofOpt o).bind f) Q := by
  subst h
  exact k
theorem Gd.ite {c : Prop} [Decidable c] {m1 m2 : R α} (h1 : c → Gd m1 P) (h2 : ¬ c → Gd m2 P) : Gd (if c then m1 else m2) P := by
  split
  · exact h1 ‹_›
  · exact h2 ‹_›
theorem Gd.forR {I : τ → Prop} {f : τ → α → R τ} : ∀ {xs : List α} {s : τ}, (∀ s x, x ∈ xs → I s → Gd (f s x) I) → I s → Gd (Py.forR f xs s) I
  | [], _, _, h0 => ⟨_, rfl, h0⟩
  | x :: xs, s, h, h0 => (h s x List.mem_cons_self h0).bind fun s' h1 => Gd.forR (fun s y hy => h s y (List.mem_cons_of_mem _ hy)) h1
/-- what is known of what was passed -/
theorem Gd.forRp {I : List α → τ → Prop} {f : τ → α → R τ} : ∀ {pre xs : List α} {s : τ}, (∀ p x q s, xs = p ++ x :: q → I (pre ++ p) s → Gd (f s x) (I (pre ++ p ++ [x]))) → I pre s → Gd (Py.forR f xs s) (I (pre ++ xs))
  | pre, [], s, _, h0 => ⟨_, rfl, by rw [List.append_nil]; exact h0⟩
  | pre, x :: xs, s, h, h0 => by
    refine Gd.bind (P := I (pre ++ [x])) ?_ fun s' h1 => ?_
    · have z := h [] x xs s rfl (by rw [List.append_nil]; exact h0)
      rw [List.append_nil] at z
      exact z
    · have z := Gd.forRp (I := I) (f := f) (pre := pre ++ [x]) (xs := xs) (s := s') (fun p y q s e hi => ?_) h1
      · rw [List.append_assoc] at z
        exact z
      · have k := h (x :: p) y q s (by rw [e] <;> rfl) (by
          have e2 : pre ++ x :: p = pre ++ [x] ++ p := by rw [List.append_assoc] <;> rfl
          rw [e2]
          exact hi)
        have e2 : pre ++ x :: p ++ [y] = pre ++ [x] ++ p ++ [y] := by simp
        rw [e2] at k
        exact k
theorem Gd.forRl {I : List α → τ → Prop} {f : τ → α → R τ} {xs : List α} {s : τ} (h : ∀ p x q s, xs = p ++ x :: q → I p s → Gd (f s x) (I (p ++ [x]))) (h0 : I [] s) : Gd (Py.forR f xs s) (I xs) :=
  Gd.forRp (pre := []) h h0
/-- it goes on -/
abbrev On (I : τ → Prop) : Stp τ γ → Prop := fun o => ∃ s, o = .nx s ∧ I s
abbrev Done (I : τ → Prop) : Out τ γ → Prop := fun o => ∃ s, o = .nx s ∧ I s
theorem Gd.forS {I : τ → Prop} {f : τ → α → R (Stp τ γ)} : ∀ {xs : List α} {s : τ}, (∀ s x, x ∈ xs → I s → Gd (f s x) (On I)) → I s → Gd (Py.forS f xs s) (Done I)
  | [], _, _, h0 => ⟨_, rfl, _, rfl, h0⟩
  | x :: xs, s, h, h0 => (h s x List.mem_cons_self h0).bind fun o h1 => by
    obtain ⟨s', e, h2⟩ := h1
    subst e
    exact Gd.forS (fun s y hy => h s y (List.mem_cons_of_mem _ hy)) h2
theorem Gd.forSB {δ : Type} {I : τ → Prop} {f : τ → α → R (Stp τ γ)} {xs : List α} {s : τ} {k : τ → R δ} {mk : γ → δ} {Q : δ → Prop} (h : ∀ s x, x ∈ xs → I s → Gd (f s x) (On I)) (h0 : I s) (hk : ∀ s, I s → Gd (k s) Q) : Gd ((Py.forS f xs s).bind (outK k mk)) Q :=
  (Gd.forS h h0).bind fun o ⟨s', e, h2⟩ => by
    subst e
    exact hk s' h2
theorem Gd.nx {I : τ → Prop} {s : τ} (h : I s) : Gd (R.ok (Stp.nx s : Stp τ γ)) (On I) := ⟨_, rfl, s, rfl, h⟩
theorem mapR_ok {f : α → R β} {g : α → β} : ∀ {xs : List α}, (∀ x ∈ xs, f x = .ok (g x)) → mapR f xs = .ok (xs.map g)
  | [], _ => rfl
  | x :: xs, h => by
    show (f x).calm.bind _ = _
    rw [h x List.mem_cons_self]
    show (mapR f xs).bind _ = _
    rw [mapR_ok fun y hy => h y (List.mem_cons_of_mem _ hy)]
    rfl
theorem Gd.mapRB {f : α → R β} {g : α → β} {xs : List α} {k : List β → R γ} {Q : γ → Prop} (h : ∀ x ∈ xs, f x = .ok (g x)) (hk : Gd (k (xs.map g)) Q) : Gd ((mapR f xs).bind k) Q := by
  rw [mapR_ok h]
  exact hk
end
/-- bits -/
theorem log2_lt {x : Int} {k : Nat} (h : x.natAbs < 2 ^ k) (hk : 0 < k) : x.natAbs.log2 < k := by
  by_cases z : x.natAbs = 0
  · rw [z]
    exact hk
  · exact (Nat.log2_lt z).mpr h
theorem mulW_ok {i j : Int} (k : Nat) (hk : 0 < k ∧ k ≤ 500000) (hi : i.natAbs < 2 ^ k) (hj : j.natAbs < 2 ^ k) : CMulW i j := by
  have a := log2_lt hi hk.1
  have b := log2_lt hj hk.1
  unfold CMulW
  omega
theorem dv_ok {j : Int} (h : 0 < j) (k : Nat) (hk : 0 < k ∧ k ≤ 8900) (hj : j.natAbs < 2 ^ k) : CDv j := ⟨h, by
  have a := log2_lt hj hk.1
  omega⟩
theorem small_size {n : Nat} (h : n ≤ 100000) : n ≤ sizeLine := by
  rw [sizeLine_eq]
  omega
theorem small_lt {n : Nat} (h : n < 100000) : n < sizeLine := by
  rw [sizeLine_eq]
  omega
theorem mem_rangeI {lo hi x : Int} : x ∈ rangeI lo hi ↔ lo ≤ x ∧ x < hi := by
  unfold rangeI
  rw [List.mem_map]
  constructor
  · rintro ⟨i, hi2, rfl⟩
    have := List.mem_range.mp hi2
    omega
  · rintro ⟨h1, h2⟩
    exact ⟨(x - lo).toNat, List.mem_range.mpr (by omega), by omega⟩
theorem len_rangeI (lo hi : Int) : (rangeI lo hi).length = (hi - lo).toNat := by
  unfold rangeI
  rw [List.length_map, List.length_range]

/-! ### dicts -/
section
variable {κ ν : Type} [DecidableEq κ]
theorem find_map_same (k y : κ) (v : ν) (h : y ≠ k) : ∀ d : List (κ × ν), ((d.map fun q => if q.1 = k then (q.1, v) else q).find? fun q => decide (q.1 = y)).map Prod.snd = (d.find? fun q => decide (q.1 = y)).map Prod.snd
  | [] => rfl
  | q :: d => by
    rw [List.map_cons, List.find?_cons, List.find?_cons]
    by_cases c : q.1 = k
    · rw [if_pos c]
      have n : decide (q.1 = y) = false := decide_eq_false fun z => h (z.symm.trans c)
      simp only [n]
      exact find_map_same k y v h d
    · rw [if_neg c]
      by_cases e : q.1 = y
      · simp [e]
      · simp only [decide_eq_false e]
        exact find_map_same k y v h d
theorem find_map_new (k : κ) (v : ν) : ∀ d : List (κ × ν), (d.any fun q => decide (q.1 = k)) = true → ((d.map fun q => if q.1 = k then (q.1, v) else q).find? fun q => decide (q.1 = k)).map Prod.snd = some v
  | [], h => by simp at h
  | q :: d, h => by
    rw [List.map_cons, List.find?_cons]
    by_cases c : q.1 = k
    · rw [if_pos c]
      simp [c]
    · rw [if_neg c]
      simp only [decide_eq_false c]
      refine find_map_new k v d ?_
      simpa [c] using h
theorem dGet_dPut (d : List (κ × ν)) (k y : κ) (v : ν) : dGet (dPut d k v) y = if y = k then some v else dGet d y := by
  unfold dGet dPut
  split
  · next h =>
    by_cases c : y = k
    · subst c
      rw [if_pos rfl]
      exact find_map_new y v d h
    · rw [if_neg c]
      exact find_map_same k y v c d
  · next h =>
    rw [List.find?_append]
    by_cases c : y = k
    · subst c
      have n : (d.find? fun q => decide (q.1 = y)) = none := by
        rw [List.find?_eq_none]
        intro q hq z
        exact h (List.any_eq_true.mpr ⟨q, hq, z⟩)
      rw [n, if_pos rfl]
      simp
    · rw [if_neg c]
      have n : ([(k, v)].find? fun q => decide (q.1 = y)) = none := by
        simp [Ne.symm c]
      rw [n, Option.or_none]
theorem len_dPut (d : List (κ × ν)) (k : κ) (v : ν) : (dPut d k v).length ≤ d.length + 1 := by
  unfold dPut
  split
  · rw [List.length_map]
    exact Nat.le_succ _
  · simp
/-- a dict of what was passed -/
def SeenBy (p : List κ) (d : List (κ × Bool)) : Prop := d.length ≤ p.length ∧ ∀ y, (dGet d y).isSome = hasB y p
theorem SeenBy.nil : SeenBy ([] : List κ) [] := ⟨Nat.le_refl _, fun y => rfl⟩
theorem SeenBy.put {p : List κ} {d : List (κ × Bool)} (h : SeenBy p d) (k : κ) (v : Bool) : SeenBy (p ++ [k]) (dPut d k v) := by
  refine ⟨?_, fun y => ?_⟩
  · have := len_dPut d k v
    have := h.1
    simp
    omega
  · rw [dGet_dPut]
    by_cases c : y = k
    · rw [if_pos c]
      show true = hasB y (p ++ [k])
      rw [eq_comm, hasB_iff, c]
      simp
    · rw [if_neg c, h.2, Bool.eq_iff_iff, hasB_iff, hasB_iff]
      simp [c]
end
section
variable {α β γ τ : Type}
theorem fmR_ok {c : α → R Bool} {f : α → R β} {p : α → Bool} {g : α → β} : ∀ {xs : List α}, (∀ x ∈ xs, c x = .ok (p x)) → (∀ x ∈ xs, f x = .ok (g x)) → fmR c f xs = .ok ((xs.filter p).map g)
  | [], _, _ => rfl
  | x :: xs, h1, h2 => by
    have ih := fmR_ok (c := c) (f := f) (fun y hy => h1 y (List.mem_cons_of_mem _ hy)) (fun y hy => h2 y (List.mem_cons_of_mem _ hy))
    show (c x).calm.bind _ = _
    rw [h1 x List.mem_cons_self]
    show (if p x = true then _ else _) = _
    by_cases e : p x = true
    · rw [if_pos e, h2 x List.mem_cons_self]
      show (fmR c f xs).bind _ = _
      rw [ih, List.filter_cons_of_pos e]
      rfl
    · rw [if_neg e, ih, List.filter_cons_of_neg e]
theorem Gd.fmRB {c : α → R Bool} {f : α → R β} {p : α → Bool} {g : α → β} {xs : List α} {k : List β → R γ} {Q : γ → Prop} (h1 : ∀ x ∈ xs, c x = .ok (p x)) (h2 : ∀ x ∈ xs, f x = .ok (g x)) (hk : Gd (k ((xs.filter p).map g)) Q) : Gd ((fmR c f xs).bind k) Q := by
  rw [fmR_ok h1 h2]
  exact hk
end
theorem cut_len {α : Type} {xs : List α} {lo hi : Option Int} : (cutL xs lo hi).length ≤ xs.length := by
  unfold cutL
  rw [List.length_take, List.length_drop]
  omega
/-! ### shapes -/
abbrev Shp : Type := List (Int × Int) × Bool
/-- has it the cell -/
def hasS (s : Shp) (c : Int × Int) : Bool := hasB c s.1 != s.2
theorem hasS_neg (s : Shp) (c : Int × Int) : hasS (s.1, !s.2) c = !hasS s c := by
  unfold hasS
  cases hasB c s.1 <;> cases s.2 <;> rfl
theorem shp_eq {a b : Shp} (ha : Up a.1) (hb : Up b.1) (hr : a.2 = b.2) (h : ∀ c, hasS a c = hasS b c) : a = b := by
  refine Prod.ext (up_eq ha hb fun c => ?_) hr
  have z := h c
  unfold hasS at z
  rw [hr] at z
  have y : hasB c a.1 = hasB c b.1 := by
    revert z
    cases hasB c a.1 <;> cases hasB c b.1 <;> cases b.2 <;> decide
  rw [← hasB_iff, ← hasB_iff, y]
theorem up_filter {p : Int × Int → Bool} {xs : List (Int × Int)} (h : Up xs) : Up (xs.filter p) := List.Pairwise.filter _ h
end Py

/-! Own layer, part I: more displays of ranges. -/
namespace Py
open PySem PySem.Spec PyProof.Rows L2
/-- the same words, to be rewritten by step for step -/
theorem ok_bindP {α β : Type} (a : α) (f : α → R β) : (R.ok a).bind f = f a := Eq.trans (R.ok_bind a f) rfl
theorem ok_calmP {α : Type} (a : α) : (R.ok a).calm = R.ok a := Eq.trans (R.ok_calm a) rfl
section
variable {X : Cx} {U : Wi} {Γ : List Sl} {a : Expr} {pos p p2 p3 : Pos}
end
end Py

/-! Own layer, part J: sorted of whatever gives cells: a dict keyed by cells, a tuple of cells. -/
namespace Py
open PySem PySem.Spec PyProof.Rows L2 SrtO
section
variable {P : Program} {w : World} {A : Around} {E : Value → Shared → Prop} {s : Shared}
end

section
variable {X : Cx} {U : Wi} {Γ : List Sl} {e : Expr} {pos p2 : Pos}
end

/-! ### + of lists that are read alone -/
section
variable {X : Cx} {U : Wi} {Γ : List Sl} {a b : Expr} {pos : Pos}
end
end Py

/-! Own layer, part K: a list that is lent to a callee, which changes it. -/
namespace Py
open PySem PySem.Spec PyProof.Rows L2

/-- all is kept but the object at p -/
structure ExtM (p : Addr) (F H F' H' : Hp) : Prop where
  f : Same F F'
  h : ∀ q o, q ≠ p → H q = some o → H' q = some o
  s : Same F' H'
  n : ∀ q, q ≠ p → H q ≠ none → F q = none → F' q = none ∨ ∃ vs, F' q = some (.tup vs)
/-- the promise of a def whose first parameter is a lent list: it gives a value, and the list as it is then -/
def SpM {α τ γ : Type} (ρl : Rp α) (t : Tr τ) (ρ : Rp γ) (f : List α → τ → R (γ × List α)) : Sp := fun vs H Q _ => ∃ (F : Hp) (p : Addr) (l : List α) (ws : List V) (x : τ) (us : List V), Same F H ∧ F p = none ∧ H p = some (.lst ws) ∧ RepL ρl F l ws ∧ vs = .ref p :: us ∧ t.rep x F us ∧
  wpR (f l x) (fun z => ∀ v F' H' ws', ExtM p F H F' H' → F' p = none → H' p = some (.lst ws') → RepL ρl F' z.2 ws' → ρ.rep z.1 F' v → Q v H') fun _ => False
section
variable {P : Program} {w : World} {K : PySem.W.Frag} {mg : Str → Option Value} {base : Heap}
theorem f_okM {x qual : Str} {st : Stmt} {f : Addr} {fd : FuncData} {N ps : List Str} {k n : Nat} {α τ γ : Type} {ρl : Rp α} {t : Tr τ} {ρ : Rp γ} {fm : List α → τ → R (γ × List α)} {sl : τ → List Sl} (Γ0 : Addr → List α → τ → List Sl) (Fn : FunZ K x qual st f fd) (S : FnScope N ps (defScope st)) (ar : Ar t n sl) (hn : n + 1 = ps.length) (hN : n + 1 ≤ N.length)
    (hΓ : ∀ p l a, Γ0 p l a = .own (some p) (oLi (tl ρl) l) :: (sl a ++ List.replicate (N.length - (n + 1)) .any))
    (body : ∀ cdv A outer s H E (hr : Room k (A.deeper (envOfC qual (defScope st) s.heap.objs.size f cdv))) (tk : Takes (CxF P w K mg base N qual st f cdv A outer s H E) (UF E).W) (hp : PassesOwn (model P w) (A.deeper (envOfC qual (defScope st) s.heap.objs.size f cdv)) (envOfC qual (defScope st) s.heap.objs.size f cdv) (CxF P w K mg base N qual st f cdv A outer s H E).xe) (p : Addr) (l : List α) (a : τ),
      SX (CxF P w K mg base N qual st f cdv A outer s H E) (UF E) (Γ0 p l a) (defBody st) (fun z : γ × List α => .fn ⟨fun H v => ρ.rep z.1 H v, fun e h => ρ.mono e h⟩ [.own (some p) (oLi (tl ρl) z.2)]) (fm l a)) :
    FnOk P w K mg base (L2.CX P w) (k + 1) f fd ps (SpM ρl t ρ fm) := by
  refine Fn.okX S (fun vs H Q E ⟨F, p, l, ws, a, us, _, _, _, _, ev, r, _⟩ => ?_) (fun cdv A outer s H vs Q E hr ⟨F, p, l, ws, a, us, sF, fp, hp, rl, ev, r, hw⟩ => ?_)
  · rw [ev, List.length_cons, (ar.out a F us r).1]
    exact hn
  · obtain ⟨h1, h2, h3⟩ := ar.out a F us r
    subst ev
    refine ⟨_, wSs_pss, ?_⟩
    have hst : ∀ (i : Nat) v, (V.ref p :: us)[i]? = some v → (L2.start N (.ref p :: us))[i]? = some (some v) := fun i v e => by
      unfold L2.start
      have hl : i < (V.ref p :: us).length := (List.getElem?_eq_some_iff.mp e).1
      rw [List.getElem?_append_left (by rw [List.length_map]; exact hl), List.getElem?_map, e] <;> rfl
    have im0 : ∀ (i : Nat) x, (Γ0 p l a)[i + 1]? = some x → x = .any ∨ ∃ P v, x = .imm P ∧ us[i]? = some v ∧ P.p F v := fun i x hx => by
      rw [hΓ, List.getElem?_cons_succ] at hx
      by_cases hl : i < (sl a).length
      · rw [List.getElem?_append_left hl] at hx
        exact .inr (h3 i x hx)
      · rw [List.getElem?_append_right (by omega), List.getElem?_replicate] at hx
        split at hx
        · exact .inl (Option.some.inj hx).symm
        · cases hx
    have z0 : (Γ0 p l a)[0]? = some (.own (some p) (oLi (tl ρl) l)) := by rw [hΓ] <;> rfl
    have sa : SA ⟨F, H, fun q => q = p⟩ (Γ0 p l a) F (L2.start N (.ref p :: us)) H := by
      refine ⟨?_, sF, Same.refl F, fun _ _ h _ => h, fun _ h => h, fun _ _ h _ => .inl h, fun i Q hi => ?_, fun i b Q hi => ?_, fun i j b c Q Q' q hij hi hj => ?_⟩
      · rw [hΓ, List.length_cons, List.length_append, List.length_replicate, h2]
        unfold L2.start
        rw [List.length_append, List.length_map, List.length_replicate, List.length_cons, h1]
        omega
      · cases i with
        | zero => rw [z0] at hi; cases hi
        | succ i =>
          rcases im0 i _ hi with z | ⟨Q', v, z, hv, hq⟩
          · cases z
          · injection z with z
            subst z
            exact ⟨v, hst (i + 1) v (by simpa using hv), hq⟩
      · cases i with
        | zero =>
          rw [z0] at hi
          injection hi with hi
          injection hi with e1 e2
          subst e1 e2
          exact ⟨p, _, hst 0 _ rfl, fp, hp, ⟨ws, rfl, rl⟩, .inr rfl, fun q z => Option.some.inj z⟩
        | succ i =>
          rcases im0 i _ hi with z | ⟨Q', v, z, hv, hq⟩ <;> cases z
      · cases i with
        | zero =>
          cases j with
          | zero => exact absurd rfl hij
          | succ j => rcases im0 j _ hj with z | ⟨Q', v, z, hv, hq⟩ <;> cases z
        | succ i => rcases im0 i _ hi with z | ⟨Q', v, z, hv, hq⟩ <;> cases z
    refine (body cdv A outer s H E hr (takes_of rfl rfl rfl rfl) (passes_of rfl) p l a).out ⟨F, H, fun q => q = p⟩ F _ H _ sa (wpR_mono hw (fun z k => ?_) fun r z => z.elim)
    have fin : ∀ {F' : Hp} {σ' : L2.St} {H' : Hp} {v : V}, Same F F' → SA ⟨F, H, fun q => q = p⟩ [.own (some p) (oLi (tl ρl) z.2)] F' σ' H' → ρ.rep z.1 F' v → Q v H' := fun {F' σ' H' v} e s' rv => by
      obtain ⟨q, o, g1, g2, g3, ⟨ws', g4, g5⟩, _, g7⟩ := s'.own 0 _ _ rfl
      obtain rfl : q = p := g7 p rfl
      subst g4
      exact k v F' H' ws' ⟨e, fun b o hb h => s'.old b o h hb, s'.sub, fun b hb h hf => s'.frz b h hf hb⟩ g2 g3 g5 rv
    exact ⟨fun v F' σ' H' e s' rv => fin e s' rv, fun F' σ' H' e s' rv => fin e s' rv⟩
end

section
variable {en : En} {Γ : List Sl} {F F' H H' : Hp} {σ : L2.St}
/-- behind a callee that changed an own list -/
theorem SA.lent {α : Type} {ρl : Rp α} {l l' : List α} {a0 : Option Addr} {i : Nat} {p : Addr} {ws : List V} (s : SA en Γ F σ H) (hi : Γ[i]? = some (.own a0 (oLi (tl ρl) l))) (hp : σ[i]? = some (some (.ref p))) (x : ExtM p F H F' H') (hf : F' p = none) (ho : H' p = some (.lst ws)) (r : RepL ρl F' l' ws) :
    SA en (Γ.set i (.own a0 (oLi (tl ρl) l'))) F' σ H' := by
  have s1 := s.mut (o' := .lst ws) (P' := ⟨fun _ o => ∃ vs, o = .lst vs, fun _ h => h, fun ⟨vs, h⟩ ws z => by rw [h] at z; cases z⟩) hi hp ⟨ws, rfl⟩
  have e : Ext F (upd H p (.lst ws)) F' H' := by
    refine ⟨x.f, fun q o h => ?_, x.s, fun q h hq => ?_⟩
    · by_cases z : q = p
      · subst z
        rw [upd_same] at h
        rw [ho, ← h]
      · rw [upd_ne z] at h
        exact x.h q o z h
    · by_cases z : q = p
      · subst z
        exact .inl hf
      · rw [upd_ne z] at h
        exact x.n q z h hq
  have s2 := s1.ext e
  have il : i < Γ.length := (List.getElem?_eq_some_iff.mp hi).1
  have hi2 : (Γ.set i (.own a0 ⟨fun _ o => ∃ vs, o = .lst vs, fun _ h => h, fun ⟨vs, h⟩ ws z => by rw [h] at z; cases z⟩))[i]? = some (.own a0 ⟨fun _ o => ∃ vs, o = .lst vs, fun _ h => h, fun ⟨vs, h⟩ ws z => by rw [h] at z; cases z⟩) := List.getElem?_set_self il
  have s3 := s2.mut (o' := .lst ws) (P' := oLi (tl ρl) l') hi2 hp ⟨ws, rfl, r⟩
  rw [List.set_set] at s3
  have e2 : upd H' p (.lst ws) = H' := funext fun q => by
    by_cases z : q = p
    · subst z
      rw [upd_same, ho]
    · rw [upd_ne z]
  rw [e2] at s3
  exact s3
end
section
variable {X : Cx} {U : Wi} {Γ : List Sl} {es : List Expr} {pos p p2 : Pos} {α τ γ : Type} {ρl : Rp α} {ρ : Rp γ} {t : Tr τ} {k : Nat} {f : Addr} {fd : FuncData} {ps : List Str} {n nf : Str}
end

section
variable {X : Cx} {U : Wi} {Γ : List Sl} {e : Expr} {rest : List Stmt} {pos p2 p3 p4 p5 p6 : Pos} {α ω : Type} {ρ : Rp α} {I : ω → Kd} {n d : Str}
theorem ixN0 {m : Nat} (h : 0 < m) : ixN m 0 = some 0 := by
  unfold ixN
  rw [if_pos (Int.le_refl 0), if_pos (by omega)]
  rfl
/-- x[0] = e, x an own list -/
theorem s_st0 {l : List α} {m : R α} {k : α → R ω} {a0 : Option Addr} {j : Nat} (i : Nat) (he : EX X U Γ e ρ m) (hr : ∀ y, SX X U (Γ.set i (.own a0 (oLi (tl ρ) (l.set 0 y)))) rest I (k y)) (hΓ : Γ[i]? = some (.own a0 (oLi (tl ρ) l)) := by rfl) (hN : X.N[i]? = some n := by rfl)
    (hv : Vis X.env.scope n := by first | exact Or.inl rfl | exact Or.inr (Or.inl rfl) | exact Or.inr (Or.inr rfl)) (hd : (n == ("__debug__" : Str)) = false := by decide) (hcd : (n == ("__classdict__" : Str)) = false := by decide)
    (hs : swapsWithSole [.Subscript (.Name n p2) (.Constant (.int 0) j p3) p4] e pos.line X.env = pure false := by rfl) (hw : swappedStores [.Subscript (.Name n p2) (.Constant (.int 0) j p3) p4] e X.env = pure none := by rfl) (h1 : (assignEach [.Subscript (.Name n p2) (.Constant (.int 0) j p3) p4] X.env).map (·.2) = [assign (.Subscript (.Name n p2) (.Constant (.int 0) j p3) p4) X.env] := by rfl) :
    SX X U Γ (.Assign [.Subscript (.Name n p2) (.Constant (.int 0) j p3) p4] e pos :: rest) I (m.bind fun y => (chk (0 < l.length) ()).bind fun _ => k y) :=
  ⟨fun en F σ H D s h => wSs_of (pss_cons (ps_asg wE_pe (pg_sub (pe_var hN hv hd hcd) pe_int set_list) hs hw h1) wSs_pss) (he.out en F σ H _ s (wpR_mono (wpR_bind h) (fun y q v F' H' e' s' r => by
    obtain ⟨pos0, q⟩ := wpR_chk (wpR_bind q)
    obtain ⟨p, o, g1, g2, g3, ⟨ws, eo, rl⟩, g5, g6⟩ := s'.own i _ _ hΓ
    subst eo
    refine ⟨.ref p, g1, p, ws, 0, 0, rfl, rfl, g3, ixN0 (by rw [← rl.length]; exact pos0), ?_⟩
    exact (hr y).out en F' σ _ D (s'.mut hΓ g1 ⟨_, rfl, RepL.set r 0 rl⟩) (wpR_mono q (fun o z => z.up e') fun _ z => z.up e')) fun _ z => z))⟩
end
end Py

/-! Own layer, part L: expressions that change a state on the way (a lent list). m : R (value × state). -/
namespace Py
open PySem PySem.Spec PyProof.Rows L2
section
variable {X : Cx} {U : Wi} {S : Type} {α β γ τ : Type} {ρ1 : Rp α} {ρ2 : Rp β} {ρ : Rp γ} {t : Tr τ} {a b e : Expr} {es : List Expr} {pos p : Pos}
abbrev ES (X : Cx) (U : Wi) {S : Type} (Γs : S → List Sl) (s : S) (e : Expr) {α : Type} (ρ : Rp α) (m : R (α × S)) : Prop := EG X U (Γs s) e ρ m (fun w => w.1) fun w => Γs w.2
abbrev BS (X : Cx) (U : Wi) {S : Type} (Γs : S → List Sl) (s : S) (e : Expr) (m : R (Bool × S)) : Prop := BG X U (Γs s) e m (fun w => w.1) fun w => Γs w.2
abbrev AS (X : Cx) (U : Wi) {S : Type} (Γs : S → List Sl) (s : S) (es : List Expr) {τ : Type} (t : Tr τ) (m : R (τ × S)) : Prop := AG X U (Γs s) es t m (fun w => w.1) fun w => Γs w.2
variable {Γs : S → List Sl} {s : S}
theorem es_of {m : R γ} (h : EX X U (Γs s) e ρ m) : ES X U Γs s e ρ (m.bind fun x => .ok (x, s)) :=
  ⟨fun en F σ H Q sa q => h.out en F σ H Q sa (wpR_mono (wpR_bind q) (fun x k => k) fun _ z => z)⟩
theorem bs_of {m : R Bool} (h : BX X U (Γs s) e m) : BS X U Γs s e (m.bind fun x => .ok (x, s)) :=
  ⟨fun en F σ H Q sa q => h.out en F σ H Q sa (wpR_mono (wpR_bind q) (fun x k => k) fun _ z => z)⟩
theorem es_bin {op : Operator} {r : R2} {mr : α → β → R γ} (ho : OpR X (binaryOp op) r) (hd : D2 r ρ1 ρ2 ρ mr) {m1 : R (α × S)} {m2 : S → R (β × S)} (ha : ES X U Γs s a ρ1 m1) (hb : ∀ s', ES X U Γs s' b ρ2 (m2 s')) :
    ES X U Γs s (.BinOp a op b pos) ρ (m1.bind fun w1 => (m2 w1.2).bind fun w2 => (mr w1.1 w2.1).calm.bind fun z => .ok (z, w2.2)) :=
  g_bin ho hd (fun _ w2 z => (z, w2.2)) (fun _ _ _ => rfl) (fun _ _ _ => rfl) ha fun w1 => hb w1.2
theorem es_cmp {op : CmpOp} {r : R2} {mr : α → β → R γ} (ho : OpR X (compareOp op) r) (hd : D2 r ρ1 ρ2 ρ mr) {m1 : R (α × S)} {m2 : S → R (β × S)} (ha : ES X U Γs s a ρ1 m1) (hb : ∀ s', ES X U Γs s' b ρ2 (m2 s')) (hm : behindInMarks op b = false := by first | exact nomark _ | rfl) :
    ES X U Γs s (.Compare a [op] [b] pos) ρ (m1.bind fun w1 => (m2 w1.2).bind fun w2 => (mr w1.1 w2.1).calm.bind fun z => .ok (z, w2.2)) :=
  g_cmp ho hd hm (fun _ w2 z => (z, w2.2)) (fun _ _ _ => rfl) (fun _ _ _ => rfl) ha fun w1 => hb w1.2
theorem bs_cmp {op : CmpOp} {r : R2} {mr : α → β → R Bool} (ho : OpR X (compareOp op) r) (hd : D2 r ρ1 ρ2 rB mr) {m1 : R (α × S)} {m2 : S → R (β × S)} (ha : ES X U Γs s a ρ1 m1) (hb : ∀ s', ES X U Γs s' b ρ2 (m2 s')) (hm : behindInMarks op b = false := by first | exact nomark _ | rfl) :
    BS X U Γs s (.Compare a [op] [b] pos) (m1.bind fun w1 => (m2 w1.2).bind fun w2 => (mr w1.1 w2.1).calm.bind fun z => .ok (z, w2.2)) :=
  g_tcmp ho hd hm (fun _ w2 z => (z, w2.2)) (fun _ _ _ => rfl) (fun _ _ _ => rfl) ha fun w1 => hb w1.2
theorem es_ix {r : R2} {mr : α → β → R γ} (hr : IxR X r) (hd : D2 r ρ1 ρ2 ρ mr) {m1 : R (α × S)} {m2 : S → R (β × S)} (ha : ES X U Γs s a ρ1 m1) (hb : ∀ s', ES X U Γs s' b ρ2 (m2 s')) (hs : PlainIx b := by exact fun _ _ => rfl) :
    ES X U Γs s (.Subscript a b pos) ρ (m1.bind fun w1 => (m2 w1.2).bind fun w2 => (mr w1.1 w2.1).calm.bind fun z => .ok (z, w2.2)) :=
  g_ix hr hd hs (fun _ w2 z => (z, w2.2)) (fun _ _ _ => rfl) (fun _ _ _ => rfl) ha fun w1 => hb w1.2
theorem as_one {m : R (α × S)} (ha : ES X U Γs s a ρ1 m) (hs : starEach [a] X.env = (false, eval a X.env) :: starEach [] X.env := by rfl) : AS X U Γs s [a] (t1 ρ1) m :=
  ⟨fun en F σ H Q sa h => wA_of (pa_cons wE_pe pa_nil hs) (ha.out en F σ H _ sa (wpR_mono h (fun w k v F1 H1 e1 s1 r1 => k [v] F1 H1 e1 s1 ⟨v, rfl, r1⟩) fun _ z => z))⟩
theorem as_cons {m1 : R (α × S)} {m2 : S → R (τ × S)} (ha : ES X U Γs s a ρ1 m1) (hb : ∀ s', AS X U Γs s' es t (m2 s')) (hs : starEach (a :: es) X.env = (false, eval a X.env) :: starEach es X.env := by rfl) :
    AS X U Γs s (a :: es) (tc ρ1 t) (m1.bind fun w1 => (m2 w1.2).bind fun w2 => .ok ((w1.1, w2.1), w2.2)) :=
  g_acons (t' := tc ρ1 t) (ω2 := τ × S) (val := fun w : (α × τ) × S => w.1) (v2 := fun _ w => w.1) (Γ' := fun w => Γs w.2) (pk := fun (w1 : α × S) (w2 : τ × S) => ((w1.1, w2.1), w2.2)) (fun w1 w2 F v vs r q => ⟨v, vs, rfl, r, q⟩) (fun _ _ => rfl) ha (fun w1 => hb w1.2) hs
theorem es_tup {m : R (τ × S)} {k : Nat} (h : AS X U Γs s es t m) (hn : ∀ w F vs, t.rep w F vs → vs.length ≤ sizeLine) : ES X U Γs s (.Tuple es k pos) (rTu t) m := g_tup h fun w => hn w.1
theorem bs_val {m : R (Bool × S)} (h : ES X U Γs s e rB m) (he : ∀ whole, isTrue e X.env whole = (do let v ← whole; standAt e.pos; holding [v] (truthy v)) := by intro _; rfl) : BS X U Γs s e m := g_test h he
variable {k : Nat} {f : Addr} {fd : FuncData} {ps : List Str} {n nf : Str} {p2 : Pos}
/-- a call of a def that changes nothing, its arguments may -/
theorem es_call {fm : τ → R γ} {m : R (τ × S)} (G : FnOk X.prog X.w X.K X.mg X.base (L2.CX X.prog X.w) k f fd ps (SpP X.mg t ρ fm)) (hr : Room k X.A) (hm : X.mg n = some (.ref f)) (hk : PySem.W.keepIn X.K (.ref f) = true) (hb : Binds X.K fd ps []) (tk : Takes X U.W) (hle : ∀ s, Le U.Γ (Γs s))
    (ha : AS X U Γs s (a :: es) t m) (hg : Gl X n := by rfl) (hdb : (n == ("__debug__" : Str)) = false := by decide) (he : starEach (a :: es) X.env = (false, eval a X.env) :: starEach es X.env := by rfl) (hpl : (backTo pos (starEach es X.env)).any (·.1) = false := by rfl) :
    ES X U Γs s (.Call (.Name n p) (a :: es) [] pos) ρ (m.bind fun w => (fm w.1).bind fun z => .ok (z, w.2)) :=
  g_call (v1 := fun w : τ × S => w.1) (Γ1 := fun w => Γs w.2) (val := fun w : γ × S => w.1) (Γ' := fun w => Γs w.2) (fun x => x) (fun (w : τ × S) z => (z, w.2)) (fun _ z => rfl) (fun _ _ => rfl) (fun x F vs r => by rw [List.append_nil]; exact r) (fun w => hle w.2) G hr hm hk hb .nil tk ha hg hdb he hpl
/-- a call that changes the list in slot i -/
theorem es_callM {σl : Type} {ρl : Rp σl} {fm : List σl → τ → R (γ × List σl)} {m : R (τ × S)} {a0 : Option Addr} (i : Nat) (get : S → List σl) (put : S → List σl → S) (G : FnOk X.prog X.w X.K X.mg X.base (L2.CX X.prog X.w) k f fd ps (SpM ρl t ρ fm)) (hr : Room k X.A) (hm : X.mg nf = some (.ref f)) (hk : PySem.W.keepIn X.K (.ref f) = true) (hb : Binds X.K fd ps []) (tk : Takes X U.W)
    (ha : AS X U Γs s es t m) (hΓ : ∀ s, (Γs s)[i]? = some (.own a0 (oLi (tl ρl) (get s)))) (hp : ∀ s l, (Γs s).set i (.own a0 (oLi (tl ρl) l)) = Γs (put s l)) (hN : X.N[i]? = some n := by rfl) (hv : Vis X.env.scope n := by first | exact Or.inl rfl | exact Or.inr (Or.inl rfl) | exact Or.inr (Or.inr rfl)) (hd : (n == ("__debug__" : Str)) = false := by decide) (hcd : (n == ("__classdict__" : Str)) = false := by decide)
    (hg : Gl X nf := by rfl) (hdb : (nf == ("__debug__" : Str)) = false := by decide) (he : starEach (.Name n p2 :: es) X.env = (false, eval (.Name n p2) X.env) :: starEach es X.env := by rfl) (hpl : (backTo pos (starEach es X.env)).any (·.1) = false := by rfl) :
    ES X U Γs s (.Call (.Name nf p) (.Name n p2 :: es) [] pos) ρ (m.bind fun w => (fm (get w.2) w.1).calm.bind fun z => .ok (z.1, put w.2 z.2)) :=
  ⟨fun en F σ H Q sa h => wE_of (pe_callSD G hr hg hm hk hb .nil (fun σ => passAt tk σ) (pa_cons (pe_var hN hv hd hcd) wA_pa he) hdb he hpl) (by
    obtain ⟨q, o, g1, g2, g3, ⟨ws, eo, rl⟩, g5, g6⟩ := sa.own i _ _ (hΓ s)
    refine ⟨.ref q, g1, ha.out en F σ H _ sa (wpR_mono (wpR_bind h) (fun w kk us F1 H1 e1 s1 r1 => ?_) fun _ z => z)⟩
    obtain ⟨q1, o1, f1, f2, f3, ⟨ws1, eo1, rl1⟩, f5, f6⟩ := s1.own i _ _ (hΓ w.2)
    rw [g1] at f1
    injection f1 with f1
    injection f1 with f1
    injection f1 with f1
    subst f1
    subst eo1
    refine ⟨F1, q, get w.2, ws1, w.1, us, s1.sub, f2, f3, rl1, by rw [List.append_nil], r1, wpR_mono (wpR_calm (wpR_bind kk)) (fun z k v F' H' ws' ex hf ho rr rv => ?_) fun _ z => z⟩
    have s2 := s1.lent (hΓ w.2) g1 ex hf ho rr
    rw [hp] at s2
    exact k v F' H' (e1.trans ex.f) s2 rv)⟩
end
end Py

/-! Own layer, part M: statements whose expression changes a state on the way. -/
namespace Py
open PySem PySem.Spec PyProof.Rows L2
section
variable {X : Cx} {U : Wi} {S : Type} {α β γ τ ω κ ν : Type} {ρ : Rp α} {π : Rp β} {t : Tr τ} {a b e c : Expr} {es : List Expr} {rest A B : List Stmt} {pos : Pos} {I : ω → Kd} {n : Str} {Γs : S → List Sl} {s : S}
theorem p_setS {p' : Pos} {m : R (α × S)} {k : α × S → R ω} (i : Nat) (hN : X.N.Nodup) (he : ES X U Γs s e ρ m) (hr : ∀ w, SX X U ((Γs w.2).set i (im ρ w.1)) rest I (k w)) (hn : X.N[i]? = some n := by rfl)
    (hx : Loc X.env.scope n := by first | exact Or.inl rfl | exact Or.inr rfl) (hs : swapsWith e (some (.Name n p')) pos.line X.env = pure false := by rfl) (hf : X.fn n = true ∨ X.env.scope.names.lookup n = some .local := by first | exact .inl rfl | exact .inr rfl) :
    SX X U (Γs s) (.Assign [.Name n p'] e pos :: rest) I (m.bind k) := s_set i hN he hr hn hx hs hf
theorem p_retS {m : R (α × S)} (mk : α × S → ω) (P : α × S → List Sl) (e1 : ∀ w, (I (mk w)).cut = .rt ⟨fun H v => ρ.rep w.1 H v, fun e h => ρ.mono e h⟩ (P w)) (l : ∀ w, Le (P w) (Γs w.2)) (he : ES X U Γs s e ρ m) :
    SX X U (Γs s) (.Return (some e) pos :: rest) I (m.bind fun w => .ok (mk w)) := s_last (g_ret mk P e1 l he)
theorem p_ifTS {m : R (Bool × S)} {mA mR : S → R ω} (hc : BS X U Γs s c m) (hA : ∀ s', SX X U (Γs s') A (fun o => (I o).cut) (mA s')) (hR : ∀ s', SX X U (Γs s') rest I (mR s')) :
    SX X U (Γs s) (.If c A [] pos :: rest) I (m.bind fun w => if w.1 = true then mA w.2 else mR w.2) := s_ifT hc (fun w => hA w.2) fun w => hR w.2
theorem s_appendS {ρl : Rp α} {a0 : Option Addr} {p ap cp : Pos} {xs : List α} {m : R (α × S)} {k : α × S → R ω} (i : Nat) (he : ES X U Γs s e ρl m) (hr : ∀ w, SX X U ((Γs w.2).set i (.own a0 (oLi (tl ρl) (xs ++ [w.1])))) rest I (k w)) (hΓ : ∀ s, (Γs s)[i]? = some (.own a0 (oLi (tl ρl) xs)) := by exact fun _ => rfl) (hN : X.N[i]? = some n := by rfl)
    (hv : Vis X.env.scope n := by first | exact Or.inl rfl | exact Or.inr (Or.inl rfl) | exact Or.inr (Or.inr rfl)) (hd : (n == ("__debug__" : Str)) = false := by decide) (hcd : (n == ("__classdict__" : Str)) = false := by decide)
    (h1 : starEach [e] X.env = (false, eval e X.env) :: starEach [] X.env := by rfl)
    (hpe : ∀ to t, PE X (.Name n p) to → PA X [e] t → PE X (.Call (.Attribute (.Name n p) "append" ap) [e] [] cp) (tBM X.K "list" rAppend to t) := by exact fun _ _ ho ha => pe_bm PySem.F.plainAttrs_list PySem.F.slot_list_append PySem.F.type_list_append mt_append ho ha)
    (hs : swapsWith (.Call (.Attribute (.Name n p) "append" ap) [e] [] cp) none pos.line X.env = pure false := by rfl) :
    SX X U (Γs s) (.Expr (.Call (.Attribute (.Name n p) "append" ap) [e] [] cp) pos :: rest) I (m.bind fun w => (chk (xs.length < sizeLine) ()).bind fun _ => k w) :=
  ⟨fun en F σ H D sa h => wSs_of (pss_cons (ps_expr (hpe _ _ (pe_var hN hv hd hcd) (pa_cons wE_pe pa_nil h1)) hs) wSs_pss) (by
    obtain ⟨p, o, g1, g2, g3, ⟨vs, eo, rl⟩, g5, g6⟩ := sa.own i _ _ (hΓ s)
    subst eo
    refine ⟨.ref p, g1, .inl ⟨rfl, _, .inl (.inl g3)⟩, he.out en F σ H _ sa (wpR_mono (wpR_bind h) (fun w q u F1 H1 e1 s1 ry => ?_) fun _ z => z)⟩
    obtain ⟨p1, o1, f1, f2, f3, ⟨ws, eo, rl1⟩, f5, f6⟩ := s1.own i _ _ (hΓ w.2)
    subst eo
    have ep : p1 = p := by
      rw [g1] at f1
      injection f1 with f1
      injection f1 with f1
      injection f1 with f1
      exact f1.symm
    subst ep
    obtain ⟨hl, q⟩ := wpR_chk (wpR_bind q)
    refine ⟨p1, ws, u, rfl, rfl, f3, by rw [← rl1.length]; exact hl, ?_⟩
    exact (hr w).out en F1 σ _ D (s1.mut (P' := oLi (tl ρl) (xs ++ [w.1])) (hΓ w.2) f1 ⟨ws ++ [u], rfl, rl1.append (.cons ry .nil)⟩) (wpR_mono q (fun o z => z.up e1) fun _ z => z.up e1))⟩
/-- range(e), e changing a state -/
theorem i_range1S {tg : Expr} {p : Pos} {m : R (Int × S)} (hm : X.mg "range" = none) (h : AS X U Γs s [a] (t1 rI) m) (hg : Gl X "range" := by rfl) (hs : starEach [a] X.env = [(false, eval a X.env)] := by rfl) :
    IG X U (Γs s) tg (.Call (.Name "range" p) [a] [] pos) rI (m.bind fun w => chk (-(2 ^ 62) ≤ w.1 ∧ w.1 < 2 ^ 62) (rangeI 0 w.1, w.2)) (fun w => w.1) fun w => Γs w.2 :=
  ⟨fun en F σ H R sa q => wI_of (pi_range1 hg hm wA_pa hs) (h.out en F σ H _ sa (wpR_mono (wpR_bind q) (fun n k vs F' H' e1 s1 ⟨v, ev, r⟩ => by
    obtain ⟨⟨b1, b2⟩, k⟩ := wpR_chk k
    refine ⟨n.1, by rw [ev, show v = V.int n.1 from r], b1, b2, k _ F' H' e1 s1 ?_⟩
    have w := wk_range (F := F') (lo := 0) (hi := n.1)
    rw [Int.sub_zero] at w
    exact w) fun _ z => z))⟩
theorem p_forSt {σt : Type} {Γ : List Sl} {tg iter : Expr} {body : List Stmt} {m : R (List α × S)} {vs : List Nat} {g : α → List Sl → List Sl} {k : σt → R ω} (Γl : σt → List Sl) (f : σt → α → R σt) (s0 : S → σt) (hp : PassesOwn (model X.prog X.w) X.A X.env X.xe) (hi : IG X U Γ tg iter ρ m (fun w => w.1) fun w => Γs w.2) (hg : GT X tg ρ vs g)
    (hb : ∀ st x, SX X U (g x (Γl st)) body (fun s' => .go (Γl s')) (f st x)) (h0 : ∀ s, Le (Γl (s0 s)) (Γs s)) (hr : ∀ st, SX X U (Γl st) rest I (k st)) (hc : X.calm = true := by rfl) (hs : ∀ x, foldedSetIterable iter X.env x = pure x := by intro _; rfl) :
    SX X U Γ (.For tg iter body [] pos :: rest) I (m.bind fun w => (forR f w.1 (s0 w.2)).bind k) := by
  have h := s_cons (g_forR (pos := pos) Γl (fun _ => f) (fun w : List α × S => s0 w.2) hi hg (fun _ => hb) (fun w => h0 w.2) hp hc hs) (fun s => Cont.nx (hr s))
  exact h.cv (by cases m <;> rfl)
end
end Py

/-! Own layer, part N: defs that give a new object; more expressions and statements with a state. -/
namespace Py
open PySem PySem.Spec PyProof.Rows L2

/-! ### a def that gives a new object -/
section
variable {X : Cx} {U : Wi} {Γ : List Sl} {e : Expr} {rest : List Stmt} {pos p : Pos} {α ω : Type} {I : ω → Kd} {n : Str}
end
section
variable {P : Program} {w : World} {K : PySem.W.Frag} {mg : Str → Option Value} {base : Heap}
end
section
variable {X : Cx} {U : Wi} {Γ : List Sl} {a : Expr} {es : List Expr} {pos p : Pos} {τ γ : Type} {t : Tr τ} {k : Nat} {f : Addr} {fd : FuncData} {ps : List Str} {n : Str}
end

/-! ### more expressions with a state -/
section
variable {X : Cx} {U : Wi} {S : Type} {α β γ τ ω ω' : Type} {ρ1 : Rp α} {ρ2 : Rp β} {ρ : Rp γ} {t : Tr τ} {a b c e : Expr} {es : List Expr} {A B rest : List Stmt} {pos p : Pos} {Γs : S → List Sl} {s : S} {I : ω → Kd} {I' : ω' → Kd} {n : Str}
theorem as_nil : AS X U Γs s [] t0 (.ok ((), s)) := ⟨fun en F σ H Q sa h => wA_of pa_nil (h [] F H (Same.refl F) sa rfl)⟩
theorem bs_not {m : R (Bool × S)} (ha : BS X U Γs s a m) : BS X U Γs s (.UnaryOp .Not a pos) (m.bind fun w => .ok (!w.1, w.2)) :=
  ⟨fun en F σ H Q sa h => wT_of (pt_not wT_pt) (ha.out en F σ H _ sa (wpR_mono (wpR_bind h) (fun x k F1 H1 e1 s1 => k F1 H1 e1 s1) fun _ z => z))⟩
/-- chains of tests with a state -/
structure WS (X : Cx) (U : Wi) {S : Type} (Γs : S → List Sl) (s : S) (e : Expr) (m : R (Bool × S)) : Prop where
  out : ∀ en F σ H (Q : Bool → Hp → Prop), SA en (Γs s) F σ H → wpR m (fun w => ∀ F' H', Same F F' → SA en (Γs w.2) F' σ H' → Q w.1 H') (U.ok X.mg en F) →
    ∀ (whole : Sem Value) pins s, Inv X pins σ H s → wpAny (model X.prog X.w) X.A (isTrue e X.env whole) (TP X pins σ Q) X.xe s
theorem bs_w {m : R (Bool × S)} (h : WS X U Γs s e m) : BS X U Γs s e m := ⟨fun en F σ H Q s q whole pins s' hw I => by
  subst hw
  exact h.out en F σ H Q s q _ pins s' I⟩
theorem ws_or1 {m : R (Bool × S)} (ha : BS X U Γs s a m) : WS X U Γs s (.BoolOp .Or [a] pos) m :=
  ⟨fun en F σ H Q s h wh pins s' I => (pw_or1 (pos := pos) wT_pt).run wh pins s' σ H Q I (ha.out en F σ H Q s h)⟩
theorem ws_or {m1 : R (Bool × S)} {m2 : S → R (Bool × S)} {rest : List Expr} (ha : BS X U Γs s a m1) (hb : ∀ s', WS X U Γs s' (.BoolOp .Or (b :: rest) pos) (m2 s')) : WS X U Γs s (.BoolOp .Or (a :: b :: rest) pos) (m1.bind fun w => if w.1 = true then .ok (true, w.2) else m2 w.2) :=
  ⟨fun en F σ H Q s h wh pins s' I => (pw_or (pos := pos) wT_pt wW_pw).run wh pins s' σ H Q I (ha.out en F σ H _ s (wpR_mono (wpR_bind h) (fun x k F1 H1 e1 s1 => by
    obtain ⟨x, s2⟩ := x
    cases x with
    | false => exact (hb s2).out en F1 σ H1 Q s1 (wpR_mono k (fun w k F' H' e' => k F' H' (e1.trans e')) fun _ z => z.up e1)
    | true => exact k F1 H1 e1 s1) fun _ z => z))⟩
theorem es_map {π : Rp β} {m : R (γ × S)} (f : γ → β) (hf : ∀ x F v, ρ.rep x F v → π.rep (f x) F v) (h : ES X U Γs s e ρ m) : ES X U Γs s e π (m.bind fun w => .ok (f w.1, w.2)) :=
  ⟨fun en F σ H Q sa q => h.out en F σ H Q sa (wpR_mono (wpR_bind q) (fun w k v F' H' e1 s1 r => k v F' H' e1 s1 (hf _ _ _ r)) fun _ z => z)⟩
variable {id T : String} {r : List V → Hp → VK → Prop}
/-! ### more statements with a state -/
theorem p_ifJS {m : R (Bool × S)} {mA mB : S → R τ} {k : τ → R ω} (Γt : τ → List Sl) (hc : BS X U Γs s c m) (hA : ∀ s', SX X U (Γs s') A (fun s => .nx (Γt s)) (mA s')) (hB : ∀ s', SX X U (Γs s') B (fun s => .nx (Γt s)) (mB s')) (hr : ∀ s, SX X U (Γt s) rest I (k s)) :
    SX X U (Γs s) (.If c A B pos :: rest) I (m.bind fun w => (if w.1 = true then mA w.2 else mB w.2).bind k) := by
  have h := s_cons (g_if (pos := pos) (I := fun s : τ => Kd.nx (Γt s)) hc (fun w => hA w.2) fun w => hB w.2) (fun s => Cont.nx (hr s))
  exact h.cv (by cases m <;> rfl)
end
end Py
namespace Py
open PySem PySem.Spec PyProof.Rows L2
theorem chk_calmP {c : Prop} [Decidable c] {α : Type} {a : α} : (chk c a).calm = chk c a := by
  unfold chk
  by_cases h : c
  · rw [if_pos h] <;> rfl
  · rw [if_neg h] <;> rfl
theorem opt_calmP {α : Type} {o : Option α} : (ofOpt o).calm = ofOpt o := by cases o <;> rfl
section
variable {X : Cx} {U : Wi} {S : Type} {α ω : Type} {ρ : Rp α} {a b : Expr} {rest : List Stmt} {pos : Pos} {Γs : S → List Sl} {s : S} {Γ : List Sl} {I : ω → Kd} {n : Str}
end
end Py
namespace Py
open PySem PySem.Spec PyProof.Rows L2
section
variable {X : Cx} {U : Wi} {Γ : List Sl} {α : Type} {ρ : Rp α} {a : Expr} {pos : Pos}
/-- isinstance(a, (T1, T2)), built-in classes -/
theorem x_isi2 {m : R α} {c : α → String} {T1 T2 : String} {n1 n2 : Str} {p p2 p3 tp : Pos} {kk : Nat} (f1 f2 : α → Bool) (ht : Ty ρ c) (hf1 : ∀ x, kitB (c x) T1 = some (f1 x)) (hf2 : ∀ x, kitB (c x) T2 = some (f2 x)) (hm : X.mg "isinstance" = none) (hn1 : X.mg n1 = none) (hn2 : X.mg n2 = none) (hv1 : bootBuiltins n1 = some (.type T1)) (hv2 : bootBuiltins n2 = some (.type T2)) (ha : EX X U Γ a ρ m)
    (hg : Gl X "isinstance" := by rfl) (hg1 : Gl X n1 := by rfl) (hg2 : Gl X n2 := by rfl) (hnn1 : n1 ≠ "__name__" := by decide) (hnd1 : (n1 == ("__debug__" : Str)) = false := by decide) (hnn2 : n2 ≠ "__name__" := by decide) (hnd2 : (n2 == ("__debug__" : Str)) = false := by decide)
    (hs1 : starEach [.Name n1 p2, .Name n2 p3] X.env = (false, eval (.Name n1 p2) X.env) :: starEach [.Name n2 p3] X.env := by rfl) (hs2 : starEach [.Name n2 p3] X.env = (false, eval (.Name n2 p3) X.env) :: starEach [] X.env := by rfl)
    (he : starEach [a, .Tuple [.Name n1 p2, .Name n2 p3] kk tp] X.env = (false, eval a X.env) :: starEach [.Tuple [.Name n1 p2, .Name n2 p3] kk tp] X.env := by rfl) (he2 : starEach [.Tuple [.Name n1 p2, .Name n2 p3] kk tp] X.env = (false, eval (.Tuple [.Name n1 p2, .Name n2 p3] kk tp) X.env) :: starEach [] X.env := by rfl) (hpl : (backTo pos (starEach [.Tuple [.Name n1 p2, .Name n2 p3] kk tp] X.env)).any (·.1) = false := by rfl) :
    EX X U Γ (.Call (.Name "isinstance" p) [a, .Tuple [.Name n1 p2, .Name n2 p3] kk tp] [] pos) rB (m.bind fun x => .ok (f1 x || f2 x)) :=
  ⟨fun en F σ H Q s h => wE_of (pe_callB call_isiT hg hm boot_isinstance (pa_cons wE_pe (pa_cons (pe_tup (pa_cons (pe_bltn (v := .ty T1) hg1 hn1 hv1 rfl hnn1 hnd1) (pa_cons (pe_bltn (v := .ty T2) hg2 hn2 hv2 rfl hnn2 hnd2) pa_nil hs2) hs1)) pa_nil he2) he) (by decide) (by decide) he hpl) (ha.out en F σ H _ s (wpR_mono (wpR_bind h) (fun x k v F1 H1 e1 s1 r1 =>
    ⟨by show (2 : Nat) ≤ sizeLine; rw [sizeLine_eq]; decide, fun q hq => ⟨v, q, [.ty T1, .ty T2], _, [.type T1, .type T2], f1 x || f2 x, rfl, upd_same, .cons (.ty T1) (.cons (.ty T2) .nil), (ht.out X.K _ x v (ρ.mono (s1.sub.trans (Same.upd hq)) r1)), (by
      show PySem.W.kitAny X.K (.type (c x)) [.type T1, .type T2] = _
      unfold PySem.W.kitAny
      rw [kit_ty (hf1 x)]
      cases f1 x with
      | true => rfl
      | false =>
        simp only [PySem.W.kitAny]
        rw [kit_ty (hf2 x)]
        cases f2 x <;> rfl), k _ F1 _ e1 (s1.ext (Ext.lay s1.sub hq)) rfl⟩⟩) fun _ z => z))⟩
end
end Py

/-! Own layer, part O: an own list or dict is read as a whole, while it stays one's own. -/
namespace Py
open PySem PySem.Spec PyProof.Rows L2
/-- what of it looks at tuples alone -/
structure TO {α : Type} (ρ : Rp α) : Prop where
  out : ∀ a (F F' : Hp) v, (∀ q vs, F q = some (.tup vs) → F' q = some (.tup vs)) → ρ.rep a F v → ρ.rep a F' v
section
variable {en : En} {Γ : List Sl} {F H : Hp} {σ : L2.St} {i : Nat} {a0 : Option Addr} {P : ORp} {Q : PRp}
/-- p is forgotten -/
def less (F : Hp) (p : Addr) : Hp := fun q => if q = p then none else F q
end
section
variable {X : Cx} {U : Wi} {Γ : List Sl} {e : Expr} {α τ : Type} {ρ : Rp α} {t : Tr τ} {a0 : Option Addr} {P : ORp} {Q : PRp}
end
end Py

/-! Own layer, part P: slices of tuples. -/
namespace Py
open PySem PySem.Spec PyProof.Rows L2
section
variable {X : Cx} {U : Wi} {S : Type} {Γ : List Sl} {Γs : S → List Sl} {s : S} {α : Type} {ρ : Rp α} {a b : Expr} {pos : Pos}
end
end Py
namespace Py
open PySem PySem.Spec PyProof.Rows L2
/-! ### the keys of a new dict are walked: it is locked for good -/
section
variable {X : Cx} {U : Wi} {Γ : List Sl} {tg e : Expr} {κ ν : Type} {ρ : Rp κ} {ky : Ky ρ} {π : Rp ν}
variable {n : Str} {pos p p2 : Pos}
end
end Py
namespace Py
open PySem PySem.Spec PyProof.Rows L2
section
variable {X : Cx} {U : Wi} {Γ : List Sl} {γ : Type} {ρ : Rp γ} {n : Str} {pos p : Pos} {k : Nat} {f : Addr} {fd : FuncData} {ps : List Str}
end
end Py

/-! Own layer, part Q: own exception classes: raise, try .. except C as e, isinstance(e, ..). -/
namespace Py
open PySem PySem.Spec PyProof.Rows L2
/-- what a raised class must say -/
structure ExX (K : PySem.W.Frag) (mg : Str → Option Value) (n : Str) (C : Addr) : Prop where
  g : mg n = some (.ref C)
  k : PySem.W.keepIn K (.ref C) = true
  ex : PySem.W.excIn K C [.type "ValueError", .type "Exception", .type "BaseException", .type "object"] "ValueError.__new__" = true
  ty : PySem.W.typeIn K (.ref C) = some (.type "type")
  c : ExcC K C
section
variable {X : Cx} {U : Wi} {Γ : List Sl} {rest : List Stmt} {pos pos2 p p2 : Pos} {ω : Type} {I : ω → Kd} {n m : Str} {C : Addr} {j : Nat}
/-- raise C('..') -/
theorem p_raiseX (T : ExX X.K X.mg n C) (tk : Takes X U.W) (l : Le U.Γ Γ) (hg : Gl X n := by rfl) (hdb : (n == ("__debug__" : Str)) = false := by decide) (hc : X.calm = true := by rfl) :
    SX X U Γ (.Raise (some (.Call (.Name n p) [.Constant (.str m) j p2] [] pos2)) none pos :: rest) I (.er ⟨n, none⟩) :=
  p_raise tk (pmk_own PySem.F.excBase_ValueError T.ex T.g T.k (raises_own T.c.hs T.ty) hg hdb) T.g l hc
end
/-- an exception that is at hand -/
def rExc (a : Addr) : Rp Unit := ⟨fun _ _ v => v = .ref a, fun _ h => h⟩
def catchR {τ : Type} (ct : Str → Option Bool) (mh : Er → R τ) : R τ → R τ
  | .er r => match ct r.cls with
    | some true => if r.fld.isNone = true then (mh r).calm else .bad
    | some false => .er r
    | none => .bad
  | m => m
/-- what is known of the classes of a table -/
structure Ct (mg : Str → Option Value) (ct : Str → Option Bool) (P : Addr → Bool → Prop) : Prop where
  out : ∀ cl b C, ct cl = some b → mg cl = some (.ref C) → P C b
theorem ct_nil {mg : Str → Option Value} {P : Addr → Bool → Prop} : Ct mg (fun _ => none) P := ⟨fun _ _ _ h => nomatch h⟩
theorem ct_cons {mg : Str → Option Value} {P : Addr → Bool → Prop} {n : Str} {C0 : Addr} {b0 : Bool} {ct : Str → Option Bool} (hg : mg n = some (.ref C0)) (h : P C0 b0) (k : Ct mg ct P) : Ct mg (fun s => if s = n then some b0 else ct s) P :=
  ⟨fun cl b C e q => by
    by_cases z : cl = n
    · subst z
      rw [if_pos rfl] at e
      injection e with e
      subst e
      rw [hg] at q
      injection q with q
      injection q with q
      subst q
      exact h
    · rw [if_neg z] at e
      exact k.out cl b C e q⟩
theorem SA.forget {en : En} {Γ : List Sl} {F H : Hp} {σ : L2.St} {i : Nat} (s : SA en Γ F σ H) (hi : ∀ x, Γ[i]? = some x → x = .any) : SA en Γ F (σ.set i none) H := by
  have ne : ∀ {j : Nat} {x : Sl}, Γ[j]? = some x → x ≠ .any → i ≠ j := fun {j x} h k e => by
    subst e
    exact k (hi x h)
  refine ⟨by rw [List.length_set]; exact s.len, s.sub, s.grow, s.old, s.there, s.frz, fun j P h => ?_, fun j a P h => ?_, fun j k a b P Q q hjk hj hk => ?_⟩
  · rw [List.getElem?_set_ne (ne h (fun z => nomatch z))]
    exact s.val j P h
  · rw [List.getElem?_set_ne (ne h (fun z => nomatch z))]
    exact s.own j a P h
  · rw [List.getElem?_set_ne (ne hj (fun z => nomatch z)), List.getElem?_set_ne (ne hk (fun z => nomatch z))]
    exact s.dis j k a b P Q q hjk hj hk
section
variable {X : Cx} {U : Wi} {Γ Γ0 : List Sl} {body suite rest : List Stmt} {b0 : Stmt} {x n : Str} {c : Value} {np pos pos' : Pos} {τ ω : Type} {I : ω → Kd}
/-- try: body except x as n: suite -/
theorem p_tryAs {mb : R τ} {mh : Er → R τ} {k : τ → R ω} (i : Nat) (ct : Str → Option Bool) (Γ0 : List Sl) (Γs : τ → List Sl) (hN : X.N.Nodup) (hcx : X.mg x = some c) (tk : Takes X U.W) (hle : Le U.Γ Γ0) (hct : Ct X.mg ct fun C b => PySem.W.exmOne X.K (.ref C) c = some b)
    (hb : ∀ (W : WX) (pn : List (Addr × Obj)) (xe : Value → Shared → Prop), Takes (X.tr pn xe) W → PassesOwn (model X.prog X.w) X.A X.env xe → SX (X.tr pn xe) ⟨W, Γ0⟩ Γ body (fun s => .nx (Γs s)) mb)
    (hsu : ∀ (a : Addr) (oe : Obj) (cls : Value) (d : Option Addr) (pn : List (Addr × Obj)) (r : Er), Zc cls d oe → (∃ vs, oe.data = .fields vs) → (∃ C, X.mg r.cls = some (.ref C) ∧ cls = .ref C) → d = none → SX (X.suite a ((a, oe) :: pn)) U0 (Γ0.set i (im (rExc a) ())) (b0 :: suite) (fun s => .nx (Γs s)) (mh r))
    (hΓi : ∀ s x, (Γs s)[i]? = some x → x = .any) (hr : ∀ s, SX X U (Γs s) rest I (k s)) (hi : X.N[i]? = some n := by rfl) (hs : X.stack = X.env :: X.outer := by rfl) (hf : X.env.frame = some X.env.locals := by rfl) (hln : X.env.kindOf n = some .local := by rfl) (hg : Gl X x := by rfl) (hdb : (x == ("__debug__" : Str)) = false := by decide) :
    SX X U Γ (.Try body [.ExceptHandler (some (.Name x np)) (some n) (b0 :: suite) pos'] [] [] pos :: rest) I ((catchR ct mh mb).bind k) :=
  ⟨fun en F σ H D s h => wSs_of (pss_cons (ps_try_as (tb := fun W => fun D σ H => ∀ pn xe, Takes (X.tr pn xe) W → PassesOwn (model X.prog X.w) X.A X.env xe → wSs (X.tr pn xe) body D σ H)
      (ts := fun a cls d => fun D σ H => ∀ oe pn, Zc cls d oe → (∃ vs, oe.data = .fields vs) → wSs (X.suite a ((a, oe) :: pn)) (b0 :: suite) D σ H) (Wout := U.W) hs hf hN hi hln ⟨hg, hdb, .inl hcx⟩ tk
      (fun W pn xe tk' hp' => ⟨fun pins s σ H D I h => h pn xe tk' hp' pins s I⟩) (fun a oe cls d pn hz hf => ⟨fun pins s σ H D I h => h oe pn hz hf pins s I⟩)) wSs_pss) (by
    intro pn xe tkW hp
    refine (hb _ pn xe tkW hp).out en F σ H { D with nx := wSs X rest D } s ?_
    cases mb with
    | bad => exact h.elim
    | ok s' => exact fun F' σ' H' e sa => (hr s').out en F' σ' H' D sa (wpR_mono h (fun o z => z.up e) fun _ z => z.up e)
    | er r =>
      refine fun cls d F' σ' H' e sa ho => ?_
      obtain ⟨C, c1, c2, c3⟩ := ho
      show wAs X.K c i (fun a cls d => fun D σ H => ∀ oe pn, Zc cls d oe → (∃ vs, oe.data = .fields vs) → wSs (X.suite a ((a, oe) :: pn)) (b0 :: suite) D σ H) U.W { D with nx := wSs X rest D } cls d σ' H'
      have h' : wpR ((match ct r.cls with | some true => if r.fld.isNone = true then (mh r).calm else .bad | some false => .er r | none => .bad).bind k) (fun o => (I o).sat en F D) (U.ok X.mg en F) := h
      cases hc : ct r.cls with
      | none =>
        rw [hc] at h'
        exact h'.elim
      | some b =>
        have ex := hct.out r.cls b C hc c1
        rw [← c2] at ex
        rw [hc] at h'
        cases b with
        | false =>
          refine ⟨false, ex, (fun z => nomatch z), fun _ => ?_⟩
          have h2 : U.ok X.mg en F r := h'
          exact h2 cls d F' σ' H' e (sa.le hle) ⟨C, c1, c2, c3⟩
        | true =>
          have h3 : wpR ((if r.fld.isNone = true then (mh r).calm else .bad).bind k) (fun o => (I o).sat en F D) (U.ok X.mg en F) := h'
          by_cases hn : r.fld.isNone = true
          case neg =>
            rw [if_neg hn] at h3
            exact h3.elim
          rw [if_pos hn] at h3
          have h' := h3
          have hn' : r.fld = none := by simpa using hn
          refine ⟨true, ex, fun _ a ha oe pn hz hfl => ?_, fun z => nomatch z⟩
          have sa2 := SA.put (i := i) (P := ⟨fun H v => (rExc a).rep () H v, fun e h => (rExc a).mono e h⟩) (v := .ref a) sa rfl
          refine (hsu a oe cls d pn r hz hfl ⟨C, c1, c2⟩ ?_).out en F' _ H' _ sa2 (wpR_mono (wpR_calm (wpR_bind h')) (fun s' q F'' σ'' H'' e' sa' => ?_) fun _ z => z.elim)
          · rw [hn'] at c3
            exact c3
          · show wSs X rest D (σ''.set i none) H''
            exact (hr s').out en F'' _ H'' D (sa'.forget (hΓi s')) (wpR_mono q (fun o z => z.up (e.trans e')) fun _ z => z.up (e.trans e')))⟩
end

/-! ### isinstance(e, ..) -/
theorem call_isET {X : Cx} {a D : Addr} {oe : Obj} {pn : List (Addr × Obj)} (C : ExcC X.K D) (hz : Zc (.ref D) none oe) (hf : ∃ vs, oe.data = .fields vs) :
    CallR (X.suite a ((a, oe) :: pn)) (.builtin "isinstance") (fun xs H Q => ∃ (tp : Addr) (cs : List V) (us : List Value) (b : Bool), xs = [.ref a, .ref tp] ∧ H tp = some (.tup cs) ∧ Paired ClsV cs us ∧ PySem.W.kitAny X.K (.ref D) us = some b ∧ Q (.bl b) H) := by
  intro pins s σ H xs us Q I r h
  obtain ⟨tp, cs, ws, b, rfl, hT, k, e, q⟩ := h
  obtain ⟨u1, u2, rfl, r1, r2⟩ := vals2 r
  cases (show u1 = Value.ref a from r1)
  cases (show u2 = Value.ref tp from r2)
  obtain ⟨hget, _⟩ := I.pin (a, oe) (List.mem_append.mpr (.inl List.mem_cons_self))
  obtain ⟨vs, hv⟩ := hf
  have J : PySem.W.InstAt s.heap a oe D none := by
    obtain ⟨oc, od, oda, osl⟩ := oe
    obtain ⟨h1, h2⟩ := hz
    dsimp only at h1 h2 hv
    subst h1 h2 hv
    exact ⟨hget, rfl, rfl, trivial⟩
  obtain ⟨_, its, rv, o, h1, h2, n, h3⟩ := (show ObjOk X.prog X.w H s.heap tp (.tup cs) from I.hok tp _ hT)
  have e3 := ClsV.all k rv
  subst e3
  obtain ⟨oc, od, dt, sl⟩ := o
  simp only at h2 h3
  subst h2 h3
  exact PySem.W.kia_tup (PySem.W.handS_kitx_exc C.hg C.hk C.hs C.hd C.ha C.hn C.ht C.hm) I.kIn J h1 e (fun z => nomatch z) fun tk => ⟨.bl b, H, I.kept (t' := tk) fun _ _ z => z, rfl, q⟩
section
variable {X : Cx} {U : Wi} {Γ : List Sl} {a : Addr} {oe : Obj} {cls : Value} {d : Option Addr} {pn : List (Addr × Obj)} {r : Er} {n T : Str} {pos p p2 p3 : Pos}
/-- a class's name: a global of the program's or a built-in one -/
structure NmC (X : Cx) (e : Expr) (v : V) (u : Value) : Prop where
  pe : PE X e (tC v)
  cv : ClsV v u
theorem nm_own {C : Addr} (hm : X.mg T = some (.ref C)) (hg : Gl X T := by rfl) (hd : (T == ("__debug__" : Str)) = false := by decide) : NmC X (.Name T p) (.ref C) (.ref C) := ⟨pe_glob hg hm rfl hd, .own C⟩
theorem nm_blt {t : String} (hm : X.mg T = none) (hv : bootBuiltins T = some (.type t)) (hg : Gl X T := by rfl) (hn : T ≠ "__name__" := by decide) (hd : (T == ("__debug__" : Str)) = false := by decide) : NmC X (.Name T p) (.ty t) (.type t) := ⟨pe_bltn (v := .ty t) hg hm hv rfl hn hd, .ty t⟩
inductive NmCs (X : Cx) : List Expr → List V → List Value → Prop
  | nil : NmCs X [] [] []
  | cons {e : Expr} {es : List Expr} {v : V} {vs : List V} {u : Value} {us : List Value} (h : NmC X e v u) (t : NmCs X es vs us) (hs : starEach (e :: es) X.env = (false, eval e X.env) :: starEach es X.env) : NmCs X (e :: es) (v :: vs) (u :: us)
theorem NmCs.pa {X : Cx} : ∀ {es : List Expr} {vs : List V} {us : List Value}, NmCs X es vs us → PA X es (fun σ H Q => Q vs H)
  | _, _, _, .nil => ⟨fun pos pins s σ H Q I h => pa_nil.run pos pins s σ H Q I h⟩
  | _, _, _, .cons h t hs => ⟨fun pos pins s σ H Q I q => (pa_cons h.pe t.pa hs).run pos pins s σ H Q I q⟩
theorem NmCs.clv {X : Cx} : ∀ {es : List Expr} {vs : List V} {us : List Value}, NmCs X es vs us → Paired ClsV vs us
  | _, _, _, .nil => .nil
  | _, _, _, .cons h t _ =>   .cons h.cv t.clv
theorem x_isE (i : Nat) (tb : Str → Option Bool) {v : V} {u : Value} {e : Expr} (hz : Zc cls d oe) (hf : ∃ vs, oe.data = .fields vs) (hcl : ∃ C, X.mg r.cls = some (.ref C) ∧ cls = .ref C) (hd : d = none) (hm : X.mg "isinstance" = none) (hT : NmC (X.suite a ((a, oe) :: pn)) e v u)
    (htb : Ct X.mg tb fun C b => ExcC X.K C ∧ PySem.W.kitOne X.K (.ref C) u = some b) (hΓ : Γ[i]? = some (im (rExc a) ()) := by rfl) (hN : X.N[i]? = some n := by rfl) (hv : Vis X.env.scope n := by first | exact Or.inl rfl | exact Or.inr (Or.inl rfl) | exact Or.inr (Or.inr rfl))
    (hd1 : (n == ("__debug__" : Str)) = false := by decide) (hd2 : (n == ("__classdict__" : Str)) = false := by decide) (hg : Gl X "isinstance" := by rfl)
    (he : starEach [.Name n p2, e] X.env = (false, eval (.Name n p2) X.env) :: starEach [e] X.env := by rfl) (he2 : starEach [e] X.env = (false, eval e X.env) :: starEach [] X.env := by rfl) (hpl : (backTo pos (starEach [e] X.env)).any (·.1) = false := by rfl) :
    EX (X.suite a ((a, oe) :: pn)) U Γ (.Call (.Name "isinstance" p) [.Name n p2, e] [] pos) rB (ofOpt (tb r.cls)) :=
  ⟨fun en F σ H Q s h => by
    obtain ⟨C, c1, c2⟩ := hcl
    obtain ⟨b, hb, q⟩ := wpR_opt h
    obtain ⟨hC, hk⟩ := htb.out r.cls b C hb c1
    subst c2 hd
    have pv : PE (X.suite a ((a, oe) :: pn)) (.Name n p2) _ := pe_var (X := X.suite a ((a, oe) :: pn)) hN hv hd1 hd2
    refine wE_of (pe_callB (X := X.suite a ((a, oe) :: pn)) (call_isE hC hz hf) hg hm boot_isinstance (pa_cons pv (pa_cons hT.pe pa_nil he2) he) (by decide) (by decide) he hpl) ?_
    obtain ⟨w, e1, r1⟩ := s.val i _ hΓ
    obtain rfl : w = .ref a := r1
    exact ⟨.ref a, e1, v, u, b, rfl, fun u' ru => hT.cv.eq ru, hk, q _ F H (Same.refl F) s rfl⟩⟩
theorem x_isET (i : Nat) (tb : Str → Option Bool) {vs : List V} {us : List Value} {es : List Expr} {kk : Nat} {tp : Pos} (hz : Zc cls d oe) (hf : ∃ vs, oe.data = .fields vs) (hcl : ∃ C, X.mg r.cls = some (.ref C) ∧ cls = .ref C) (hd : d = none) (hm : X.mg "isinstance" = none) (hT : NmCs (X.suite a ((a, oe) :: pn)) es vs us)
    (hlen : us.length ≤ 1000) (htb : Ct X.mg tb fun C b => ExcC X.K C ∧ PySem.W.kitAny X.K (.ref C) us = some b) (hΓ : Γ[i]? = some (im (rExc a) ()) := by rfl) (hN : X.N[i]? = some n := by rfl) (hv : Vis X.env.scope n := by first | exact Or.inl rfl | exact Or.inr (Or.inl rfl) | exact Or.inr (Or.inr rfl))
    (hd1 : (n == ("__debug__" : Str)) = false := by decide) (hd2 : (n == ("__classdict__" : Str)) = false := by decide) (hg : Gl X "isinstance" := by rfl)
    (he : starEach [.Name n p2, .Tuple es kk tp] X.env = (false, eval (.Name n p2) X.env) :: starEach [.Tuple es kk tp] X.env := by rfl) (he2 : starEach [.Tuple es kk tp] X.env = (false, eval (.Tuple es kk tp) X.env) :: starEach [] X.env := by rfl) (hpl : (backTo pos (starEach [.Tuple es kk tp] X.env)).any (·.1) = false := by rfl) :
    EX (X.suite a ((a, oe) :: pn)) U Γ (.Call (.Name "isinstance" p) [.Name n p2, .Tuple es kk tp] [] pos) rB (ofOpt (tb r.cls)) :=
  ⟨fun en F σ H Q s h => by
    obtain ⟨C, c1, c2⟩ := hcl
    obtain ⟨b, hb, q⟩ := wpR_opt h
    obtain ⟨hC, hk⟩ := htb.out r.cls b C hb c1
    subst c2 hd
    have pv : PE (X.suite a ((a, oe) :: pn)) (.Name n p2) _ := pe_var (X := X.suite a ((a, oe) :: pn)) hN hv hd1 hd2
    refine wE_of (pe_callB (X := X.suite a ((a, oe) :: pn)) (call_isET hC hz hf) hg hm boot_isinstance (pa_cons pv (pa_cons (pe_tup hT.pa) pa_nil he2) he) (by decide) (by decide) he hpl) ?_
    obtain ⟨w, e1, r1⟩ := s.val i _ hΓ
    obtain rfl : w = .ref a := r1
    have l1 := Paired.length hT.clv
    refine ⟨.ref a, e1, by rw [l1]; exact Nat.le_of_lt (small1000 hlen), fun q' hq => ?_⟩
    exact ⟨q', vs, us, b, rfl, upd_same, hT.clv, hk, q _ F _ (Same.refl F) (s.ext (Ext.lay s.sub hq)) rfl⟩⟩
end
end Py

/-! Own layer, part R: list(reversed(t)). -/
namespace RT
open PySem PySem.Spec PyProof.Rows
section
variable {prog : Program} {w : World} {A : Around} {E : Value → Shared → Prop} {s : Shared}
end
end RT
namespace RT
open PySem PySem.Spec PyProof.Rows L2
section
variable {X : Cx}
end
end RT
namespace Py
open PySem PySem.Spec PyProof.Rows L2
section
variable {X : Cx} {U : Wi} {Γ : List Sl} {a : Expr} {pos p p2 p3 : Pos} {α : Type} {ρ : Rp α}
end
/-! ### defaults -/
end Py

/-! Own layer, part T: values of any kind (numbers, truths, texts, None, tuples and lists of such), zip, min of cells, pop of a dict. -/
namespace Py
open PySem PySem.Spec PyProof.Rows L2
inductive Dy where
  | non
  | int (i : Int)
  | bl (b : Bool)
  | str (s : Str)
  | tup (l : List Dy)
  | lst (l : List Dy)
mutual
def Dy.rp : Dy → Hp → V → Prop
  | .non, _, v => v = .non
  | .int i, _, v => v = .int i
  | .bl b, _, v => v = .bl b
  | .str s, _, v => v = .str s
  | .tup l, H, v => ∃ p ws, v = .ref p ∧ H p = some (.tup ws) ∧ Dy.rps l H ws
  | .lst l, H, v => ∃ p ws, v = .ref p ∧ H p = some (.lst ws) ∧ Dy.rps l H ws
def Dy.rps : List Dy → Hp → List V → Prop
  | [], _, ws => ws = []
  | d :: l, H, ws => ∃ v vs, ws = v :: vs ∧ Dy.rp d H v ∧ Dy.rps l H vs
end
mutual
theorem Dy.rp_mono {H H' : Hp} (e : Same H H') : ∀ {d : Dy} {v : V}, d.rp H v → d.rp H' v
  | .non, _, h => by rw [Dy.rp] at *; exact h
  | .int i, _, h => by rw [Dy.rp] at *; exact h
  | .bl b, _, h => by rw [Dy.rp] at *; exact h
  | .str s, _, h => by rw [Dy.rp] at *; exact h
  | .tup l, v, h => by
    rw [Dy.rp] at *
    obtain ⟨p, ws, e1, e2, e3⟩ := h
    exact ⟨p, ws, e1, e p _ e2, Dy.rps_mono e e3⟩
  | .lst l, v, h => by
    rw [Dy.rp] at *
    obtain ⟨p, ws, e1, e2, e3⟩ := h
    exact ⟨p, ws, e1, e p _ e2, Dy.rps_mono e e3⟩
theorem Dy.rps_mono {H H' : Hp} (e : Same H H') : ∀ {l : List Dy} {ws : List V}, Dy.rps l H ws → Dy.rps l H' ws
  | [], _, h => by rw [Dy.rps] at *; exact h
  | d :: l, ws, h => by
    rw [Dy.rps] at *
    obtain ⟨v, vs, e1, e2, e3⟩ := h
    exact ⟨v, vs, e1, Dy.rp_mono e e2, Dy.rps_mono e e3⟩
end
def rY : Rp Dy := ⟨fun d H v => d.rp H v, fun e h => Dy.rp_mono e h⟩
theorem rps_of {F : Hp} : ∀ {l : List Dy} {ws : List V}, RepL rY F l ws → Dy.rps l F ws
  | _, _, .nil => by rw [Dy.rps]
  | _, _, .cons h t => by
    rw [Dy.rps]
    exact ⟨_, _, rfl, h, rps_of t⟩
theorem of_rps {F : Hp} : ∀ {l : List Dy} {ws : List V}, Dy.rps l F ws → RepL rY F l ws
  | [], ws, h => by
    rw [Dy.rps] at h
    rw [h]
    exact .nil
  | d :: l, ws, h => by
    rw [Dy.rps] at h
    obtain ⟨v, vs, e1, e2, e3⟩ := h
    rw [e1]
    exact .cons e2 (of_rps e3)
theorem yTup_iff {l : List Dy} {F : Hp} {v : V} : rY.rep (.tup l) F v ↔ (rT rY).rep l F v := by
  show Dy.rp (.tup l) F v ↔ _
  rw [Dy.rp]
  exact ⟨fun ⟨p, ws, h1, h2, h3⟩ => ⟨p, ws, h1, h2, of_rps h3⟩, fun ⟨p, ws, h1, h2, h3⟩ => ⟨p, ws, h1, h2, rps_of h3⟩⟩
theorem yLst_iff {l : List Dy} {F : Hp} {v : V} : rY.rep (.lst l) F v ↔ (rL rY).rep l F v := by
  show Dy.rp (.lst l) F v ↔ _
  rw [Dy.rp]
  exact ⟨fun ⟨p, ws, h1, h2, h3⟩ => ⟨p, ws, h1, h2, of_rps h3⟩, fun ⟨p, ws, h1, h2, h3⟩ => ⟨p, ws, h1, h2, rps_of h3⟩⟩
/-! ### into it -/
/-- f tells what a typed thing is as one of any kind -/
structure Yn {α : Type} (ρ : Rp α) (f : α → Dy) : Prop where
  out : ∀ x F v, ρ.rep x F v → rY.rep (f x) F v
structure Yns {τ : Type} (t : Tr τ) (f : τ → List Dy) : Prop where
  out : ∀ x F vs, t.rep x F vs → RepL rY F (f x) vs
theorem yI : Yn rI Dy.int := ⟨fun x F v h => by show Dy.rp _ F v; rw [Dy.rp]; exact h⟩
theorem yB : Yn rB Dy.bl := ⟨fun x F v h => by show Dy.rp _ F v; rw [Dy.rp]; exact h⟩
theorem yS : Yn rS Dy.str := ⟨fun x F v h => by show Dy.rp _ F v; rw [Dy.rp]; exact h⟩
theorem yY : Yn rY fun d => d := ⟨fun x F v h => h⟩
def dyO {α : Type} (f : α → Dy) : Option α → Dy
  | none => .non
  | some x => f x
theorem yO {α : Type} {ρ : Rp α} {f : α → Dy} (h : Yn ρ f) : Yn (rO ρ) (dyO f) := ⟨fun x F v r => by
  cases x with
  | none =>
    show Dy.rp .non F v
    rw [Dy.rp]
    exact r
  | some x => exact h.out x F v r⟩
theorem repL_map {α : Type} {ρ : Rp α} {f : α → Dy} (h : Yn ρ f) {F : Hp} : ∀ {xs : List α} {vs : List V}, RepL ρ F xs vs → RepL rY F (xs.map f) vs
  | _, _, .nil => .nil
  | _, _, .cons r t => .cons (h.out _ _ _ r) (repL_map h t)
theorem yT {α : Type} {ρ : Rp α} {f : α → Dy} (h : Yn ρ f) : Yn (rT ρ) fun xs => .tup (xs.map f) := ⟨fun x F v ⟨p, vs, e1, e2, e3⟩ => yTup_iff.mpr ⟨p, vs, e1, e2, repL_map h e3⟩⟩
theorem yL {α : Type} {ρ : Rp α} {f : α → Dy} (h : Yn ρ f) : Yn (rL ρ) fun xs => .lst (xs.map f) := ⟨fun x F v ⟨p, vs, e1, e2, e3⟩ => yLst_iff.mpr ⟨p, vs, e1, e2, repL_map h e3⟩⟩
theorem y1 {α : Type} {ρ : Rp α} {f : α → Dy} (h : Yn ρ f) : Yns (t1 ρ) fun x => [f x] := ⟨fun x F vs ⟨v, e, r⟩ => by rw [e]; exact .cons (h.out x F v r) .nil⟩
theorem yc {α τ : Type} {ρ : Rp α} {t : Tr τ} {f : α → Dy} {g : τ → List Dy} (h : Yn ρ f) (k : Yns t g) : Yns (tc ρ t) fun x => f x.1 :: g x.2 := ⟨fun x F vs ⟨v, ws, e, r, q⟩ => by rw [e]; exact .cons (h.out _ F v r) (k.out _ F ws q)⟩
theorem yTu {τ : Type} {t : Tr τ} {g : τ → List Dy} (k : Yns t g) : Yn (rTu t) fun x => .tup (g x) := ⟨fun x F v ⟨p, vs, e1, e2, e3⟩ => yTup_iff.mpr ⟨p, vs, e1, e2, k.out x F vs e3⟩⟩
/-! ### out of it -/
structure Yo {α : Type} (ρ : Rp α) (f : Dy → Option α) : Prop where
  out : ∀ d x F v, f d = some x → rY.rep d F v → ρ.rep x F v
structure Yos {τ : Type} (t : Tr τ) (f : List Dy → Option τ) : Prop where
  out : ∀ d x F vs, f d = some x → RepL rY F d vs → t.rep x F vs
def asI : Dy → Option Int
  | .int i => some i
  | _ => none
def asB : Dy → Option Bool
  | .bl i => some i
  | _ => none
def asS : Dy → Option Str
  | .str i => some i
  | _ => none
def allM {α : Type} (f : Dy → Option α) : List Dy → Option (List α)
  | [] => some []
  | d :: l => (f d).bind fun x => (allM f l).map fun r => x :: r
def asT {α : Type} (f : Dy → Option α) : Dy → Option (List α)
  | .tup l => allM f l
  | _ => none
def asL {α : Type} (f : Dy → Option α) : Dy → Option (List α)
  | .lst l => allM f l
  | _ => none
def as1 {α : Type} (f : Dy → Option α) : List Dy → Option α
  | [d] => f d
  | _ => none
def asc {α τ : Type} (f : Dy → Option α) (g : List Dy → Option τ) : List Dy → Option (α × τ)
  | d :: l => (f d).bind fun x => (g l).map fun r => (x, r)
  | _ => none
def asTu {τ : Type} (g : List Dy → Option τ) : Dy → Option τ
  | .tup l => g l
  | _ => none
theorem ouI : Yo rI asI := ⟨fun d x F v e h => by
  cases d <;> simp [asI] at e
  subst e
  have h' : Dy.rp _ F v := h
  rw [Dy.rp] at h'
  exact h'⟩
theorem ouS : Yo rS asS := ⟨fun d x F v e h => by
  cases d <;> simp [asS] at e
  subst e
  have h' : Dy.rp _ F v := h
  rw [Dy.rp] at h'
  exact h'⟩
theorem oall {α : Type} {ρ : Rp α} {f : Dy → Option α} (h : Yo ρ f) {F : Hp} : ∀ {l : List Dy} {xs : List α} {vs : List V}, allM f l = some xs → RepL rY F l vs → RepL ρ F xs vs
  | [], xs, _, e, .nil => by
    injection e with e
    rw [← e]
    exact .nil
  | d :: l, xs, _, e, .cons r t => by
    unfold allM at e
    cases e1 : f d with
    | none => rw [e1] at e; cases e
    | some x =>
      rw [e1] at e
      cases e2 : allM f l with
      | none =>
        have e' : ((allM f l).map fun r => x :: r) = some xs := e
        rw [e2] at e'
        cases e'
      | some r2 =>
        have e' : ((allM f l).map fun r => x :: r) = some xs := e
        rw [e2] at e'
        injection e' with e'
        rw [← e']
        exact .cons (h.out _ _ _ _ e1 r) (oall h e2 t)
theorem ouT {α : Type} {ρ : Rp α} {f : Dy → Option α} (h : Yo ρ f) : Yo (rT ρ) (asT f) := ⟨fun d x F v e r => by
  cases d with
  | tup l =>
    obtain ⟨p, ws, h1, h2, h3⟩ := yTup_iff.mp r
    exact ⟨p, ws, h1, h2, oall h e h3⟩
  | _ => cases e⟩
theorem ou1 {α : Type} {ρ : Rp α} {f : Dy → Option α} (h : Yo ρ f) : Yos (t1 ρ) (as1 f) := ⟨fun d x F vs e r => by
  cases r with
  | nil => cases e
  | cons r t =>
    cases t with
    | nil => exact ⟨_, rfl, h.out _ _ _ _ e r⟩
    | cons _ _ => cases e⟩
theorem ouc {α τ : Type} {ρ : Rp α} {t : Tr τ} {f : Dy → Option α} {g : List Dy → Option τ} (h : Yo ρ f) (k : Yos t g) : Yos (tc ρ t) (asc f g) := ⟨fun d x F vs e r => by
  cases r with
  | nil => cases e
  | @cons a as v vs r t =>
    have e0 : ((f a).bind fun y => (g as).map fun r => (y, r)) = some x := e
    cases e1 : f a with
    | none => rw [e1] at e0; cases e0
    | some y =>
      rw [e1] at e0
      have e' : ((g as).map fun r => (y, r)) = some x := e0
      cases e2 : g as with
      | none => rw [e2] at e'; cases e'
      | some z =>
        rw [e2] at e'
        injection e' with e'
        rw [← e']
        exact ⟨_, _, rfl, h.out _ _ _ _ e1 r, k.out _ _ _ _ e2 t⟩⟩
theorem ouTu {τ : Type} {t : Tr τ} {g : List Dy → Option τ} (k : Yos t g) : Yo (rTu t) (asTu g) := ⟨fun d x F v e r => by
  cases d with
  | tup l =>
    obtain ⟨p, ws, h1, h2, h3⟩ := yTup_iff.mp r
    exact ⟨p, ws, h1, h2, k.out _ _ _ _ e h3⟩
  | _ => cases e⟩
section
variable {X : Cx} {U : Wi} {Γ : List Sl} {a b e e2 : Expr} {es : List Expr} {pos p p2 : Pos} {α β : Type} {ρ : Rp α} {π : Rp β}
theorem x_out {f : Dy → Option α} {m : R Dy} (h : Yo ρ f) (ha : EX X U Γ e rY m) : EX X U Γ e ρ (m.bind fun d => ofOpt (f d)) :=
  ⟨fun en F σ H Q s q => ha.out en F σ H Q s (wpR_mono (wpR_bind q) (fun d k v F1 H1 e1 s1 r1 => by
    obtain ⟨x, ex, k⟩ := wpR_opt k
    exact k v F1 H1 e1 s1 (h.out d x F1 v ex r1)) fun _ z => z)⟩
end
/-! ### what may be asked of it -/
def Dy.isN : Dy → Bool
  | .non => true
  | _ => false
def Dy.tag : Dy → String
  | .non => "NoneType"
  | .int _ => "int"
  | .bl _ => "bool"
  | .str _ => "str"
  | .tup _ => "tuple"
  | .lst _ => "list"
def Dy.isInt : Dy → Bool
  | .int _ => true
  | .bl _ => true
  | _ => false
def Dy.isBl : Dy → Bool
  | .bl _ => true
  | _ => false
def Dy.isStr : Dy → Bool
  | .str _ => true
  | _ => false
def Dy.isTup : Dy → Bool
  | .tup _ => true
  | _ => false
def Dy.isLst : Dy → Bool
  | .lst _ => true
  | _ => false
def Dy.len : Dy → Option Int
  | .tup l => some (l.length : Nat)
  | .lst l => some (l.length : Nat)
  | _ => none
def Dy.at : Dy → Int → Option Dy
  | .tup l, i => atI l i
  | .lst l, i => atI l i
  | _, _ => none
def Dy.row : Dy → Option (List Dy)
  | .tup l => some l
  | .lst l => some l
  | _ => none
def Dy.zip : Dy → Dy → Option (List (Dy × Dy))
  | .tup l, .tup m => some (l.zip m)
  | .lst l, .lst m => some (l.zip m)
  | _, _ => none
theorem ky_int (d : Dy) : kitB d.tag "int" = some d.isInt := by cases d <;> (dsimp only [Dy.tag, Dy.isInt]; decide +kernel)
theorem ky_bool (d : Dy) : kitB d.tag "bool" = some d.isBl := by cases d <;> (dsimp only [Dy.tag, Dy.isBl]; decide +kernel)
theorem ky_str (d : Dy) : kitB d.tag "str" = some d.isStr := by cases d <;> (dsimp only [Dy.tag, Dy.isStr]; decide +kernel)
theorem ky_tuple (d : Dy) : kitB d.tag "tuple" = some d.isTup := by cases d <;> (dsimp only [Dy.tag, Dy.isTup]; decide +kernel)
theorem ky_list (d : Dy) : kitB d.tag "list" = some d.isLst := by cases d <;> (dsimp only [Dy.tag, Dy.isLst]; decide +kernel)
theorem tyY : Ty rY Dy.tag := ⟨fun K H d v r => by
  have r' : Dy.rp d H v := r
  cases d with
  | non => rw [Dy.rp] at r'; rw [r']; exact .base .non
  | int i => rw [Dy.rp] at r'; rw [r']; exact .base (.int i)
  | bl i => rw [Dy.rp] at r'; rw [r']; exact .base (.bl i)
  | str i => rw [Dy.rp] at r'; rw [r']; exact .base (.str i)
  | tup l =>
    obtain ⟨p, ws, h1, h2, _⟩ := yTup_iff.mp r
    rw [h1]
    exact .base (.tup h2)
  | lst l =>
    obtain ⟨p, ws, h1, h2, _⟩ := yLst_iff.mp r
    rw [h1]
    exact .base (.lst h2)⟩
theorem dLenY {K : PySem.W.Frag} : DC (rLen K) (t1 rY) rI fun d => ofOpt d.len := fun d vs F H Q e ⟨v, ev, r⟩ h => by
  obtain ⟨n, en, h⟩ := wpR_opt h
  cases d with
  | tup l =>
    obtain ⟨p, ws, e2, hp, rr⟩ := yTup_iff.mp r
    have en' : ((l.length : Nat) : Int) = n := Option.some.inj en
    subst en'
    exact ⟨v, l.length, ev, by rw [e2]; exact .inr ⟨ws, .inl (.inl (e p _ hp)), rr.length⟩, h _ F H (Ext.refl e) rfl⟩
  | lst l =>
    obtain ⟨p, ws, e2, hp, rr⟩ := yLst_iff.mp r
    have en' : ((l.length : Nat) : Int) = n := Option.some.inj en
    subst en'
    exact ⟨v, l.length, ev, by rw [e2]; exact .inl ⟨ws, .inl (.inl (e p _ hp)), rr.length⟩, h _ F H (Ext.refl e) rfl⟩
  | _ => cases en
theorem ix_any {X : Cx} : IxR X (fun x y H Q => rIxT X.K x y H Q ∨ rIxL X.K x y H Q) := fun value slice pins s σ H x y v u Q I rx ry h hs =>
  h.elim (fun h => ix_tup value slice pins s σ H x y v u Q I rx ry h hs) fun h => ix_list value slice pins s σ H x y v u Q I rx ry h hs
theorem dIxY {K : PySem.W.Frag} : D2 (fun x y H Q => rIxT K x y H Q ∨ rIxL K x y H Q) rY rI rY fun d i => ofOpt (d.at i) := fun d i v w F H Q e r rw h => by
  obtain ⟨x, hx, k⟩ := wpR_opt h
  cases d with
  | tup l =>
    obtain ⟨p, vs, ev, hp, rr⟩ := yTup_iff.mp r
    obtain ⟨u, hu, ru⟩ := atI_rep rr hx
    exact .inl ⟨p, vs, i, u, ev, rw, .inl (.inl (e p _ hp)), hu, k u F H (Ext.refl e) ru⟩
  | lst l =>
    obtain ⟨p, vs, ev, hp, rr⟩ := yLst_iff.mp r
    obtain ⟨u, hu, ru⟩ := atI_rep rr hx
    exact .inr ⟨p, vs, i, u, ev, rw, .inl (.inl (e p _ hp)), hu, k u F H (Ext.refl e) ru⟩
  | _ => cases hx
mutual
def Dy.dat : Dy → PyData
  | .non => .none
  | .int i => .int i
  | .bl b => .bool b
  | .str s => .str s
  | .tup l => .tuple (Dy.dats l)
  | .lst l => .list (Dy.dats l)
def Dy.dats : List Dy → List PyData
  | [] => []
  | d :: l => Dy.dat d :: Dy.dats l
end
mutual
theorem Dy.dp {K : PySem.W.Frag} {H : Hp} : ∀ {d : Dy} {v : V}, d.rp H v → Dp K H v d.dat
  | .non, _, h => by rw [Dy.rp] at h; rw [h, Dy.dat]; exact .non
  | .int i, _, h => by rw [Dy.rp] at h; rw [h, Dy.dat]; exact .int i
  | .bl b, _, h => by rw [Dy.rp] at h; rw [h, Dy.dat]; exact .bl b
  | .str s, _, h => by rw [Dy.rp] at h; rw [h, Dy.dat]; exact .str s
  | .tup l, v, h => by
    rw [Dy.rp] at h
    obtain ⟨p, ws, e1, e2, e3⟩ := h
    rw [e1, Dy.dat]
    exact .tup (.inl (.inl e2)) (Dy.dps e3)
  | .lst l, v, h => by
    rw [Dy.rp] at h
    obtain ⟨p, ws, e1, e2, e3⟩ := h
    rw [e1, Dy.dat]
    exact .lst (.inl (.inl e2)) (Dy.dps e3)
theorem Dy.dps {K : PySem.W.Frag} {H : Hp} : ∀ {l : List Dy} {ws : List V}, Dy.rps l H ws → DpAll K H ws (Dy.dats l)
  | [], _, h => by rw [Dy.rps] at h; rw [h, Dy.dats]; exact .nil
  | d :: l, ws, h => by
    rw [Dy.rps] at h
    obtain ⟨v, vs, e1, e2, e3⟩ := h
    rw [e1, Dy.dats]
    exact .cons (Dy.dp e2) (Dy.dps e3)
end
/-- x == y, as Python tells it -/
def Dy.eqv (x y : Dy) : Bool := PyData.eqv x.dat y.dat
def Dy.shp (x : Dy) : Bool := SeqAt.shaped x.dat
theorem dEqY {K : PySem.W.Frag} : D2 (rEqD K) rY rY rB fun x y => chk (x.shp = true ∧ y.shp = true) (x.eqv y) := fun x y v w F H Q e rv rw q => by
  obtain ⟨⟨s1, s2⟩, q⟩ := wpR_chk q
  exact ⟨_, _, Dy.dp (Dy.rp_mono e rv), Dy.dp (Dy.rp_mono e rw), s1, s2, q _ F H (Ext.refl e) rfl⟩
theorem dNeY {K : PySem.W.Frag} : D2 (rNeD K) rY rY rB fun x y => chk (x.shp = true ∧ y.shp = true) (!x.eqv y) := fun x y v w F H Q e rv rw q => by
  obtain ⟨⟨s1, s2⟩, q⟩ := wpR_chk q
  exact ⟨_, _, Dy.dp (Dy.rp_mono e rv), Dy.dp (Dy.rp_mono e rw), s1, s2, q _ F H (Ext.refl e) rfl⟩
/-! ### zip -/
theorem zip_get {α β : Type} : ∀ {xs : List α} {ys : List β} {i : Nat} {z : α × β}, (xs.zip ys)[i]? = some z → xs[i]? = some z.1 ∧ ys[i]? = some z.2
  | [], _, _, _, h => by simp at h
  | _ :: _, [], _, _, h => by simp at h
  | x :: xs, y :: ys, 0, z, h => by
    have h' : some (x, y) = some z := by simpa using h
    injection h' with h'
    rw [← h']
    exact ⟨rfl, rfl⟩
  | x :: xs, y :: ys, i + 1, z, h => by
    have h' : (xs.zip ys)[i]? = some z := by simpa using h
    have := zip_get h'
    simpa using this
theorem wk_zip {K : PySem.W.Frag} {F : Hp} {α β : Type} {ρ : Rp α} {π : Rp β} {xs : List α} {ys : List β} {a b : Addr} {vs ws : List V} (h : F a = some (.lst vs)) (r : RepL ρ F xs vs) (h2 : F b = some (.lst ws)) (r2 : RepL π F ys ws) : Wk (Itz K a b) F (rP ρ π) (xs.zip ys) where
  go := fun F1 H i z e1 e2 hx => by
    have hp : H a = some (.lst vs) := e2 a _ (e1 a _ h)
    have hq : H b = some (.lst ws) := e2 b _ (e1 b _ h2)
    obtain ⟨hxi, hyi⟩ := zip_get hx
    obtain ⟨v, hv, rv⟩ := r.got hxi
    obtain ⟨w, hw, rw'⟩ := r2.got hyi
    exact ⟨⟨vs, ws, v, w, .inl (.inl hp), .inl (.inl hq), hv, hw⟩, fun u H' ⟨T, x, y, eu, hT, eH, zx, zy⟩ => by
      subst eu eH
      have ex : x = v := Option.some.inj ((zx vs (.inl (.inl hp))).symm.trans hv)
      have ey : y = w := Option.some.inj ((zy ws (.inl (.inl hq))).symm.trans hw)
      subst ex ey
      have xx := Ext.new (o := .tup [x, y]) e2 hT
      exact ⟨_, xx, T, _, rfl, upd_same, x, [y], rfl, ρ.mono (e1.trans xx.f) rv, y, rfl, π.mono (e1.trans xx.f) rw'⟩⟩
  stop := fun H i e hi => by
    rw [List.length_zip] at hi
    exact ⟨vs, ws, .inl (.inl (e a _ h)), .inl (.inl (e b _ h2)), by rw [← r.length, ← r2.length]; omega⟩
theorem wk_zipT {K : PySem.W.Frag} {F : Hp} {α β : Type} {ρ : Rp α} {π : Rp β} {xs : List α} {ys : List β} {a b : Addr} {vs ws : List V} (h : F a = some (.tup vs)) (r : RepL ρ F xs vs) (h2 : F b = some (.tup ws)) (r2 : RepL π F ys ws) : Wk (RZ.ItzT K a b) F (rP ρ π) (xs.zip ys) where
  go := fun F1 H i z e1 e2 hx => by
    have hp : H a = some (.tup vs) := e2 a _ (e1 a _ h)
    have hq : H b = some (.tup ws) := e2 b _ (e1 b _ h2)
    obtain ⟨hxi, hyi⟩ := zip_get hx
    obtain ⟨v, hv, rv⟩ := r.got hxi
    obtain ⟨w, hw, rw'⟩ := r2.got hyi
    exact ⟨⟨vs, ws, v, w, .inl (.inl hp), .inl (.inl hq), hv, hw⟩, fun u H' ⟨T, x, y, eu, hT, eH, zx, zy⟩ => by
      subst eu eH
      have ex : x = v := Option.some.inj ((zx vs (.inl (.inl hp))).symm.trans hv)
      have ey : y = w := Option.some.inj ((zy ws (.inl (.inl hq))).symm.trans hw)
      subst ex ey
      have xx := Ext.new (o := .tup [x, y]) e2 hT
      exact ⟨_, xx, T, _, rfl, upd_same, x, [y], rfl, ρ.mono (e1.trans xx.f) rv, y, rfl, π.mono (e1.trans xx.f) rw'⟩⟩
  stop := fun H i e hi => by
    rw [List.length_zip] at hi
    exact ⟨vs, ws, .inl (.inl (e a _ h)), .inl (.inl (e b _ h2)), by rw [← r.length, ← r2.length]; omega⟩
section
variable {X : Cx} {U : Wi} {Γ : List Sl} {a b e e2 : Expr} {es : List Expr} {pos p p2 : Pos} {α β : Type} {ρ : Rp α} {π : Rp β}
theorem i_zipY {elts : List Expr} {kk : Nat} {tpos : Pos} {m : R (Dy × Dy)} (hm : X.mg "zip" = none) (h : AX X U Γ [e, e2] (tc rY (t1 rY)) m) (hg : Gl X "zip" := by rfl) (hs : starEach [e, e2] X.env = (false, eval e X.env) :: starEach [e2] X.env := by rfl) (hpl : (backTo pos (starEach [e2] X.env)).any (·.1) = false := by rfl) :
    IX X U Γ (.Tuple elts kk tpos) (.Call (.Name "zip" p) [e, e2] [] pos) (rP rY rY) (m.bind fun q => ofOpt (q.1.zip q.2)) :=
  ⟨fun en F σ H R s q => wI_of (RZ.pi_zipA hg hm wA_pa hs hpl) (h.out en F σ H _ s (wpR_mono (wpR_bind q) (fun xs k vs F' H' e1 s1 ⟨v, ws, ev, r1, w, ew, r2⟩ => by
    subst ev ew
    obtain ⟨zs, ez, k⟩ := wpR_opt k
    obtain ⟨x, y⟩ := xs
    cases x with
    | tup l =>
      cases y with
      | tup l' =>
        obtain ⟨p1, l1, f1, f2, f3⟩ := yTup_iff.mp r1
        obtain ⟨p2, l2, g1, g2, g3⟩ := yTup_iff.mp r2
        subst f1 g1
        have ez' : l.zip l' = zs := Option.some.inj ez
        subst ez'
        exact ⟨p1, p2, l1, l2, rfl, .inr ⟨.inl (.inl (s1.sub p1 _ f2)), .inl (.inl (s1.sub p2 _ g2)), k _ F' H' e1 s1 (wk_zipT f2 f3 g2 g3)⟩⟩
      | _ => cases ez
    | lst l =>
      cases y with
      | lst l' =>
        obtain ⟨p1, l1, f1, f2, f3⟩ := yLst_iff.mp r1
        obtain ⟨p2, l2, g1, g2, g3⟩ := yLst_iff.mp r2
        subst f1 g1
        have ez' : l.zip l' = zs := Option.some.inj ez
        subst ez'
        exact ⟨p1, p2, l1, l2, rfl, .inl ⟨.inl (.inl (s1.sub p1 _ f2)), .inl (.inl (s1.sub p2 _ g2)), k _ F' H' e1 s1 (wk_zip f2 f3 g2 g3)⟩⟩
      | _ => cases ez
    | _ => cases ez) fun _ z => z))⟩
end
end Py

/-! Own layer, part U: pop of a dict by a tuple, min and max of cells. -/
namespace DT
open PySem PySem.W PySem.Calls PyProof.Rows PyProof.V PySem.Spec
section
variable {prog : Program} {w : World} {K : Type} [DecidableEq K] {knd : HeapKind prog w K}
end
end DT
namespace L2.DX
open PySem PySem.Spec PyProof.Rows
section
variable {X : Cx}
end
end L2.DX
namespace Py
open PySem PySem.Spec PyProof.Rows L2
section
variable {X : Cx} {U : Wi} {Γ : List Sl} {a b c e : Expr} {es : List Expr} {rest : List Stmt} {pos p ap cp : Pos} {κ ν ω : Type} {I : ω → Kd} {n : Str}
end
/-! ### min and max of cells -/
end Py

/-! Own layer, part V: one type seen as another. -/
namespace Py
open PySem PySem.Spec PyProof.Rows L2
structure Cv {α β : Type} (ρ : Rp α) (π : Rp β) (f : α → β) : Prop where
  out : ∀ x F v, ρ.rep x F v → π.rep (f x) F v
section
variable {α β σ τ : Type} {ρ : Rp α} {π : Rp β} {s : Tr σ} {t : Tr τ} {f : α → β} {g : σ → τ}
theorem cvY {f : α → Dy} (h : Yn ρ f) : Cv ρ rY f := ⟨h.out⟩
end
section
variable {X : Cx} {U : Wi} {Γ : List Sl} {e : Expr} {α β : Type} {ρ : Rp α} {π : Rp β}
theorem x_cv {f : α → β} {m : R α} (h : Cv ρ π f) (ha : EX X U Γ e ρ m) : EX X U Γ e π (m.bind fun x => .ok (f x)) := x_map (ρ' := π) f (fun x F v r => h.out x F v r) ha
end
end Py

/-! Own layer, part W: stores at a computed place, the greatest and the least of whole numbers. -/
namespace Py
open PySem PySem.Spec PyProof.Rows L2
section
variable {X : Cx} {U : Wi} {Γ : List Sl} {a b e : Expr} {rest : List Stmt} {pos p2 p4 : Pos} {α ω : Type} {ρ : Rp α} {I : ω → Kd} {n : Str}
end
end Py

/-! Own layer, part X: zip of rows of unlike kinds (a tuple and a list). -/
namespace ZG
open PySem PySem.Spec PyProof.Rows L2
/-- what the iterator at `it` over the row at `l` does: `xs` are the items, `St` tells how far it is -/
structure Nx (it l : Addr) (St : Nat → Heap → Prop) (xs : Array Value) : Prop where
  some : ∀ {prog : Program} {w : World} {A : Around} {E : Value → Shared → Prop} {s : Shared} {i : Nat} {x : Value} {Q : Value → Shared → Prop}, St i s.heap → xs[i]? = .some x → (∀ h', St (i + 1) h' → Heap.SameBut it s.heap h' → Q x { s with heap := h' }) →
    wpAny (model prog w) A (Builtin.SmallTypes.nextOf (.ref it)) Q E s
  none : ∀ {prog : Program} {w : World} {A : Around} {E : Value → Shared → Prop} {s : Shared} {i : Nat} {Q : Value → Shared → Prop}, A.handled = .none → St i s.heap → xs[i]? = .none →
    (∀ h' e, Heap.ExtBut it s.heap h' → (∃ o, h'.get? e = .some o ∧ o.cls = .type "StopIteration") → E (.ref e) { s with heap := h' }) → wpAny (model prog w) A (Builtin.SmallTypes.nextOf (.ref it)) Q E s
  keep : ∀ {i : Nat} {h h' : Heap}, St i h → (∀ o, h.get? it = .some o → h'.get? it = .some o) → (∀ o, h.get? l = .some o → h'.get? l = .some o) → St i h'
section
variable {prog : Program} {w : World} {A : Around} {E : Value → Shared → Prop} {s : Shared} {z TI TO i1 i2 l1 l2 : Addr} {k1 k2 : Nat} {xs ys : Array Value} {S1 S2 : Nat → Heap → Prop}
end
end ZG
namespace ZG
open PySem PySem.Spec PyProof.Rows L2
section
variable {prog : Program} {w : World} {A : Around} {E : Value → Shared → Prop} {s : Shared}
end
end ZG
namespace Py
open PySem PySem.Spec PyProof.Rows L2
end Py

/-! Own layer, part Y: rows of any kind, list and tuple of them. -/
namespace Py
open PySem PySem.Spec PyProof.Rows L2
end Py

/-! Own layer, part Z: a dict of tuples compared with an empty one. -/
namespace Py
open PySem PySem.Spec PyProof.Rows L2
section
variable {P : Program} {w : World} {A : Around} {E : Value → Shared → Prop} {s : Shared}
end
section
variable {X : Cx} {U : Wi} {Γ : List Sl} {a : Expr} {κ ν : Type} {pos' : Pos}
end
end Py

/-! Own layer, part Aa: a caught exception that is kept: try .. except C as e: kind = e; isinstance(kind, ..) later on. -/
namespace Py
open PySem PySem.Spec PyProof.Rows L2
section
variable {X : Cx} {pins : List (Addr × Obj)} {σ : L2.St} {H : Hp} {s : Shared} {a : Addr} {o : HO} {oe : Obj}
end
section
variable {X : Cx} {x n : Str} {c : Value} {i : Nat} {body suite : List Stmt} {b0 : Stmt} {np pos pos' : Pos} {tb : WX → TS} {ts : Addr → Value → Option Addr → TS} {Wout : WX}
end
section
variable {X : Cx} {U : Wi} {Γ Γ0 : List Sl} {body rest : List Stmt} {x n y : Str} {c : Value} {np pos pos' py pn2 spos : Pos} {τ ω : Type} {I : ω → Kd}
end
/-! ### isinstance of what was kept -/
section
variable {X : Cx} {a D : Addr} {s : Shared} {H : Hp} {σ : L2.St} {pins : List (Addr × Obj)}
end
section
variable {X : Cx} {U : Wi} {Γ : List Sl} {e0 : Expr} {pos p p2 : Pos} {m : R (Option Str)}
end
end Py

/-! Own layer, part Ab: d.setdefault(k, []).append(x) over a dict of one's own with tuple keys: lists that no slot holds. -/
namespace L2.DX
open PySem PySem.Spec PyProof.Rows
section
variable {X : Cx}
end
end L2.DX
namespace Py
open PySem PySem.Spec PyProof.Rows L2
section
variable {κ ν : Type} {ρ : Rp κ} {ky : Ky ρ} {π : Rp ν} {en : En} {F F' H H' : Hp}
variable [DecidableEq κ]
end
section
variable {en : En} {Γ Γ2 : List Sl} {F F' H H' : Hp} {σ σ' : L2.St} {q : Addr} {o : HO}
end
section
variable {κ ν : Type} {ρ : Rp κ} {ky : Ky ρ} {π : Rp ν} {en : En} {Γ Γ2 : List Sl} {F F' H H' : Hp} {σ σ' : L2.St} {i : Nat} {m : List (κ × List ν)}
variable [DecidableEq κ] {X : Cx} {ways cell mark : Str} {p1 p2 p3 p4 a1 a2 c1 c2 spos : Pos} {jc jm : Nat} {D : L2.Ends} {x : ν} {y : κ}
end
/-! ### the two loops -/
section
variable {κ ν : Type} [DecidableEq κ] {ρ : Rp κ} {ky : Ky ρ} {π : Rp ν} {X : Cx} {ways cell mark : Str} {p1 p2 p3 p4 a1 a2 c1 c2 spos cp mp pos1 pos2 : Pos} {i jc jm : Nat} {itc itm : Expr}
variable {U : Wi} {Γ : List Sl} {rest : List Stmt} {ω : Type} {I : ω → Kd} {a0 : Option Addr}
end
end Py

/-! Own layer, part Ac: d.setdefault(k, x) as a statement, d of one's own with tuple keys. -/
namespace Py
open PySem PySem.Spec PyProof.Rows L2
section
variable {X : Cx} {U : Wi} {Γ : List Sl} {a b : Expr} {rest : List Stmt} {pos p ap cp : Pos} {κ ν ω : Type} {I : ω → Kd} {n : Str}
end
/-! ### texts put together -/
end Py

/-! Own layer, part Ad: an exception that leaves a list comprehension. -/
namespace Py
open PySem PySem.Spec PyProof.Rows L2

/-- only the frame is asked -/
theorem note_frame {e : Value} {env env' : Env} (h : env.frame = env'.frame) : noteFrame e env = noteFrame e env' := by
  unfold noteFrame PySem.frameOf
  rw [h]

section
variable {M : Model} {A : Around} {E : Value → Shared → Prop} {s : Shared} {Z : Obj → Prop} {gr : Heap} {env : Env} {outer : List Env} {L a C : Addr}
/-- noted by another one before -/
theorem note_other {fl : Value} {Q : Unit → Shared → Prop} (hZ : HandSPX.Steady Z) (fr : A.frames = some (env :: outer)) (hf : env.frame = some L) (k1 : gr.StaysIn s.heap) (k2 : gr.get? a = none) (k3 : s.heap.FunFrames gr (env :: outer)) (k4 : HandSPX.TracedZ s.heap gr a Z fl) (hne : (fl == rawInt L) = false)
    (hQ : ∀ h', HandSPX.HeldZ gr (env :: outer) a Z L h' → s.heap.UpToSlots h' → Q () { s with heap := h' }) : wpAny M A (noteFrame (.ref a) env) Q E s := by
  obtain ⟨ob, xs, T, oT, ys, ge, gz, gd, g1, gn, gne, gT, gdT, g3⟩ := k4
  have ot : ∀ b, b ≠ T → (s.heap.update T (Obj.mapFields (·.setIfInBounds 3 Value.none))).get? b = s.heap.get? b := fun b q => Heap.get?_update_other _ _ (Ne.symm q)
  have nr : ∀ b o, s.heap.get? b = some o → (∀ zs, o.data ≠ .fields zs) → b ≠ T := fun b o hb nf q => by
    subst q
    rw [gT] at hb
    cases hb
    exact nf ys gdT
  unfold noteFrame
  simp only [hf]
  refine wpAny_bind (wpAny_field ge gd g1 ?_)
  rw [if_pos (show (Value.ref T != Value.none) = true by simp)]
  refine wpAny_bind (wpAny_field gT gdT g3 ?_)
  rw [if_neg (by rw [hne]; decide)]
  refine wpAny_bind (wpAny_setField gT gdT (Array.getElem?_eq_some_iff.mp g3).1 ?_)
  refine HandSPX.wpAny_entryZ hZ fr (k3.of_keeps fun b o hb nf => ⟨o, (ot b (nr b o hb nf)).trans hb, rfl⟩) hf ((ot a (Ne.symm gne)).trans ge) (fun b o hb => (ot b fun q => by rw [q, gn] at hb; cases hb).trans (k1 b o hb)) k2 gd (Array.getElem?_eq_some_iff.mp g1).1 gz fun h' hN => ?_
  obtain ⟨y1, y2, y3, y4⟩ := hN
  exact hQ h' ⟨y1, k2, y2, y3⟩ fun b o hb nf => y4 b o ((ot b (nr b o hb nf)).trans hb) nf
theorem sky_held {Q : Unit → Shared → Prop} (hZ : HandSPX.Steady Z) (fr : A.frames = some (env :: outer)) (hf : env.frame = some L) (hne : (rawInt C == rawInt L) = false) (x : Sky gr (env :: outer) a Z C s.heap)
    (hQ : ∀ h', HandSPX.HeldZ gr (env :: outer) a Z L h' → s.heap.UpToSlots h' → Q () { s with heap := h' }) : wpAny M A (noteFrame (.ref a) env) Q E s := by
  rcases x with ⟨x1, x2, x3, ob, xs, x4, x5, x6, x7⟩ | x | ⟨x1, x2, x3, x4⟩
  · exact HandSPX.look_newZ hZ fr x3 hf x4 x1 x2 x6 x7 x5 hQ
  · exact HandSPX.looks_onZ hZ fr hf x hQ
  · exact note_other hZ fr hf x1 x2 x3 x4 hne hQ
theorem frames_but {h h' : Heap} (sb : Heap.SameBut C h h') : ∀ {l : List Env}, C ∉ frs l → h.FunFrames gr l → h'.FunFrames gr l
  | [], _, _ => trivial
  | e :: l, hn, ⟨k, ⟨F, o, f1, f2, f3, f4⟩, r⟩ => by
    have m : F ∈ frs (e :: l) := List.mem_filterMap.mpr ⟨e, List.mem_cons_self, f1⟩
    refine ⟨k, ⟨F, o, f1, f2, (sb.2 F fun z => hn (z ▸ m)).trans f3, f4⟩, frames_but sb (fun z => hn ?_) r⟩
    obtain ⟨e', q1, q2⟩ := List.mem_filterMap.mp z
    exact List.mem_filterMap.mpr ⟨e', List.mem_cons_of_mem _ q1, q2⟩
end

/-- what a comprehension's block leaves -/
def cPost (M : Model) (A : Around) (E : Value → Shared → Prop) (use : Option (Value → Sem Unit)) (Q : Value → Shared → Prop) (acc : Value) (ce : Env) (r : Result) (s' : Shared) : Prop :=
  match r with
  | .ok f => compPost M A E use Q acc ce.locals (.ok f) s'
  | .error x => ∃ m, s'.heap.Ns ce.locals m ∧ ∀ h', Heap.SameBut ce.locals s'.heap h' → wpAny M A (PySem.passOn "comprehension.variables-let-go" x ce : Sem Value) (fun _ _ => False) E { s' with heap := h' }

theorem comp_any {M : Model} {A : Around} {E : Value → Shared → Prop} {s : Shared} {env : Env} {e : Expr} {scope : Scope} {pos : Pos} {newAcc first : Sem Value} {g : Comprehension} {gs : List Comprehension} {cl : List (Str × Addr)} {use : Option (Value → Sem Unit)}
    {Q : Value → Shared → Prop} (hcl : clausesOf e = g :: gs) (hs : ∀ x, foldedSetIterable g.iter env x = pure x) (hclos : closureFor scope env = pure cl) (hkind : scope.kind = .function) (hnames : ∀ x ∈ scope.names, x.2 = .local → scope.names.lookup x.1 = some .local)
    (h : wpAny M A first (fun x s₁ => wpAny M A (pyIter x) (fun it s₂ => wpAny M A newAcc (fun acc s₃ => wpAny M A (newFunctionEnv scope env.globals cl [] env.qual none .none (some env)) (fun cenv s₄ =>
        codeAny M A (.compStart e 0 it acc { cenv with scope := relabel scope env }) (cPost M A E use Q acc { cenv with scope := relabel scope env }) s₄) E s₃) E s₂) E s₁) E s) : wpAny M A (comprehension e scope env pos newAcc false first use) Q E s := by
  unfold comprehension
  rw [hclos, hcl]
  refine wpAny_bind (wpAny_mono h (fun x t₁ k₁ => wpAny_bind (wpAny_standAt (wpAny_bind (wpAny_of_eq (hs x) (wpAny_bind (wpAny_holding (wpAny_mono k₁ (fun it t₂ k₂ => wpAny_standIf (wpAny_bind (wpAny_mono k₂ (fun acc t₃ k₃ => wpAny_bind (wpAny_pure (wpAny_bind (wpAny_mono k₃ (fun ce t₄ k₄ => ?_) fun _ _ z => z)))) fun _ _ z => z))) fun _ _ z => z))))))) fun _ _ z => z)
  dsimp only
  have v1 : ∀ x ∈ (scope.names.filter fun x => (x.2 == .local || x.2 == .cell) && x.1 != (".0" : Str)).reverse, x.2 = .local → Env.kindOf { ce with scope := relabel scope env } x.1 = some .local := fun x hx hl => lookup_relabel_local (hnames x (List.mem_filter.mp (List.mem_reverse.mp hx)).1 hl)
  have v2 : ∀ x ∈ (scope.names.filter fun x => (x.2 == .local || x.2 == .cell) && x.1 != (".0" : Str)).reverse.drop 1 ++ (scope.names.filter fun x => (x.2 == .local || x.2 == .cell) && x.1 != (".0" : Str)).reverse.take 1, x.2 = .local → Env.kindOf { ce with scope := relabel scope env } x.1 = some .local := fun x hx hl =>
    (List.mem_append.mp hx).elim (fun z => v1 x (List.mem_of_mem_drop z) hl) fun z => v1 x (List.mem_of_mem_take z) hl
  refine wpAny_holding (wpAny_bind (wpAny_attempt (wpAny_holding (wpAny_run (codeAny_mono k₄ fun r t' hr => ?_)))))
  cases r with
  | ok f =>
    cases use with
    | none =>
      obtain ⟨m, hn, hr⟩ := hr
      exact wpAny_bind (wpAny_holding (wpAny_comp_letGo (cenv := { ce with scope := relabel scope env }) hkind _ t' m v1 hn fun h' _ _ z => wpAny_pure (hr h' z)))
    | some u =>
      refine wpAny_bind (wpAny_rule (wpAny_bind (wpAny_holding (wpAny_mono hr (fun _ t'' hr' => ?_) fun _ _ z => z))))
      obtain ⟨m, hn, hr'⟩ := hr'
      exact wpAny_bind (wpAny_comp_letGo (cenv := { ce with scope := relabel scope env }) hkind _ t'' m v2 hn fun h' _ _ z => wpAny_pure (hr' h' z))
  | error x =>
    obtain ⟨m, hn, hr⟩ := hr
    cases use with
    | none => exact wpAny_bind (wpAny_holding (wpAny_comp_letGo (cenv := { ce with scope := relabel scope env }) hkind _ t' m v1 hn fun h' _ _ z => wpAny_mono (hr h' z) (fun _ _ q => q.elim) fun _ _ y => y))
    | some u => exact wpAny_bind (wpAny_holding (wpAny_comp_letGo (cenv := { ce with scope := relabel scope env }) hkind _ t' m v1 hn fun h' _ _ z => wpAny_mono (hr h' z) (fun _ _ q => q.elim) fun _ _ y => y))

/-- a block that may let an exception out -/
abbrev blk2 (X : Cx) (s : Shared) (H : Hp) (scope : Scope) (cenv : Env) (fp : List Addr) (xe : Value → Shared → Prop) : Cx := (X.blk s H scope cenv fp).tr [] xe
section
variable {X : Cx} {pins : List (Addr × Obj)} {σ : L2.St} {H : Hp} {s : Shared}
/-- the exception goes on in the def's own air -/
theorem comp_out {H3 : Hp} {s3 s5 : Shared} {scope : Scope} {ce : Env} {fp : List Addr} {xb : Value → Shared → Prop} {W WO : WX} {use : Option (Value → Sem Unit)} {Qf : Value → Shared → Prop} {acc u : Value}
    (hst : X.stack = X.env :: X.outer) (hf : X.env.frame = some X.env.locals) (hcf : ce.frame = X.env.frame) (hcl : ce.locals = s3.heap.objs.size) (I3 : Inv X pins σ H3 s3) (f3 : ∀ b ∈ fp, FpOk X pins H3 b ∧ b < s3.heap.objs.size) (tk : Takes X WO) (hW : ∀ cls d σ' H', W cls d σ' H' → WO cls d σ H')
    (x : XE (blk2 X s3 H3 scope ce fp xb) W u s5) : notedBy (model X.prog X.w) X.A ce (fun e s' => cPost (model X.prog X.w) X.A X.xe use Qf acc ce (.error e) s') u s5 := by
  obtain ⟨a, B, sI, pins', σ', H', cls, d, rfl, I, nb, up, sky, na, os, ag, w⟩ := x
  have IX : Inv X pins σ H' sI := I3.call' (ch := fp) I.os I.base I.hok I.bare fun b hb => ⟨(f3 b hb).1.2.2.2.1, (f3 b hb).1.2.1, (f3 b hb).1.2.2.2.2.1, (f3 b hb).1.2.2.2.2.2⟩
  have nC : H' s3.heap.objs.size = none := by
    have z : H' ce.locals = none := I.free
    rw [hcl] at z
    exact z
  obtain ⟨c0, c1, c2, c3, c4, c5⟩ := I3.fpOk (Nat.le_refl _) nC
  obtain ⟨m, hn, _⟩ := I.loc
  have hn : sI.heap.Ns ce.locals m := hn
  obtain ⟨C, hC⟩ : ∃ C, C = s3.heap.objs.size := ⟨_, rfl⟩
  rw [hcl, ← hC] at hn
  rw [← hC] at c0 c1 c2 c3 c4 c5 hcl
  have nF : C ∉ frs X.stack := fun hm => by
    rcases List.mem_cons.mp (IX.stkSub C hm) with z | z
    · exact c1 z
    · exact c2 z
  have J : Inv X pins σ H' { sI with heap := PySem.W.hideAll sI.heap [C] } := IX.turned (t' := sI.toks) (fun b o hb e => PySem.W.hideAll_get _ e (by simpa using hb)) c0 c1 c3 c4 c5
  have fr : X.A.frames = some (X.env :: X.outer) := by rw [IX.ok.frames, hst]
  obtain ⟨oB, eB⟩ : ∃ o, B.get? C = some o := by
    obtain ⟨o, _, _, ho, _⟩ := id hn
    exact ⟨o, nb C o ho nF⟩
  have sky2 : Sky B (X.env :: X.outer) a (Zc cls d) C s5.heap := by
    rw [← hst, ← hcl]
    exact sky
  have hne : (rawInt C == rawInt X.env.locals) = false := by
    rw [beq_eq_false_iff_ne]
    intro z
    unfold rawInt at z
    injection z with z
    exact c1 (by exact_mod_cast z)
  have nF2 : C ∉ frs (X.env :: X.outer) := by rw [← hst]; exact nF
  show wpAny _ X.A (noteFrame (.ref a) ce) _ _ _
  rw [note_frame hcf]
  refine sky_held Zc.steady fr hf hne sky2 fun h1 hh up1 => ?_
  obtain ⟨k1, k2, k3, k4⟩ := hh
  refine ⟨m, ?_, fun h2 sb => ?_⟩
  · rw [hcl]
    exact hn.at' fun o e => k1 C o (nb C o e nF)
  rw [hcl] at sb
  have nB : ∀ b, B.get? b = none → b ≠ C := fun b e z => by
    rw [z, eB] at e
    cases e
  have hid : ∀ {h : Heap}, (PySem.W.hideAll h [C]).get? C = none := fun {h} => PySem.W.hideAll_none [C] (List.mem_singleton.mpr rfl)
  have out : ∀ {h : Heap} {b : Addr} {o : Obj}, (PySem.W.hideAll h [C]).get? b = some o → b ≠ C ∧ h.get? b = some o := fun {h b o} e => ⟨fun z => (by
    rw [z, hid] at e
    cases e), PySem.W.of_hideAll _ e⟩
  have gone : ∀ b, B.get? b = none → (PySem.W.hideAll B [C]).get? b = none := fun b e => by
    cases q : (PySem.W.hideAll B [C]).get? b with
    | none => rfl
    | some o =>
      rw [(out q).2] at e
      cases e
  have st2 : (PySem.W.hideAll B [C]).StaysIn h2 := fun b o e => (sb.2 b (out e).1).trans (k1 b o (out e).2)
  have fun2 : h2.FunFrames (PySem.W.hideAll B [C]) (X.env :: X.outer) := funFrames_none (frames_but sb nF2 k3) fun b hb => gone b (by
    obtain ⟨z, _⟩ := k3.mem hb
    exact z)
  obtain ⟨ob, xs, T, oT, ys, ge, gz, gd, g1, gn, gne, gT, gdT, g3⟩ := k4
  have ge2 := (sb.2 a (nB a k2)).trans ge
  have tr2 : HandSPX.TracedZ h2 (PySem.W.hideAll B [C]) a (Zc cls d) (rawInt X.env.locals) := ⟨ob, xs, T, oT, ys, ge2, gz, gd, g1, gone T gn, gne, (sb.2 T (nB T gn)).trans gT, gdT, g3⟩
  unfold PySem.passOn
  refine wpAny_bind (wpAny_field ge2 gd g1 ?_)
  rw [if_neg (by simp)]
  rw [hcf, hf]
  refine wpAny_bind (HandSPX.setFlight_anyZ st2 fun2 tr2 fun h3 q1 q2 q3 q4 => wpAny_throw (tk _ _ ?_))
  refine ⟨a, PySem.W.hideAll B [C], { sI with heap := PySem.W.hideAll sI.heap [C] }, pins, σ, H', cls, d, rfl, J, fun b o e hb => PySem.W.hideAll_get _ (nb b o (out e).2 hb) (by simpa using (out e).1), fun b o e nf => ?_, ?_, na, os, ag, hW _ _ _ _ w⟩
  · obtain ⟨sl, e1⟩ := up b o (out e).2 nf
    obtain ⟨sl1, e2⟩ := up1 b _ e1 nf
    exact q4 b { o with slots := sl1 } ((sb.2 b (out e).1).trans e2) nf
  · rw [hst]
    exact .inr (.inr ⟨q1, gone a k2, q2, q3⟩)
/-- the core, as for a block that lets nothing out (HandS/Comp), with the exception's way -/
theorem lcx_core {Q : VK} {elt tg iter : Expr} {ifs : List Expr} {scope : Scope} {own : List (Str × Nat)} {pos pos' : Pos} {wi : TI} {g : TG} {tt : TT} {te : TE} {use : Option (Value → Sem Unit)} {Qf : Value → Shared → Prop} {W1 WO : WX}
    (hst : X.stack = X.env :: X.outer) (hfm : X.env.frame = some X.env.locals) (tk : Takes X WO) (hW : ∀ cls d σ' H', W1 cls d σ' H' → WO cls d σ H')
    (hc : X.calm = true) (hN : X.N.Nodup) (I : Inv X pins σ H s) (hi : PI X tg iter wi) (ok : BlkOk X.N X.env.scope scope own)
    (hg : ∀ s H C cl fp xe, PG (blk2 X s H scope (compEnvC scope cl C X.env) fp xe) tg g) (ht : ∀ s H C cl fp xe, PTs (blk2 X s H scope (compEnvC scope cl C X.env) fp xe) ifs tt)
    (he : ∀ s H C cl fp xe, Takes (blk2 X s H scope (compEnvC scope cl C X.env) fp xe) W1 → PE (blk2 X s H scope (compEnvC scope cl C X.env) fp xe) elt te) (hs : ∀ x, foldedSetIterable iter X.env x = pure x)
    (h : tLc wi g tt te (own.map (·.2)) σ H Q)
    (hRR : ∀ D C s' m H', Inv X pins σ H' s' → Q (.ref D) H' → s'.heap.Ns C m → FpOk X pins H' C → compPost (model X.prog X.w) X.A X.xe use Qf (.ref D) C (.ok .next) s') :
    wpAny (model X.prog X.w) X.A (comprehension (.ListComp elt [⟨tg, iter, ifs, 0⟩] scope pos) scope X.env pos' (newList []) false (eval iter X.env) use) Qf X.xe s := by
  have frees : ∀ y ∈ scope.names, y.2 = .free → ∃ c, X.env.cells.lookup y.1 = some c := fun y hy e => by
    rcases ok.free y hy e with k | k
    · exact I.ok.has _ (.inl k)
    · exact I.ok.has _ (.inr k)
  refine comp_any (use := use) rfl hs (closure_ok frees) ok.kind (fun y hy e => by rw [ok.uniq y hy, e])
    (thn (hi.run pins s σ H _ I h) fun xv s1 hx => thn hx fun itv sz h2 => ?_)
  obtain ⟨it, fp, tn, J, Hz, e, Iz, T, sz2, fz2, q⟩ := h2
  subst e
  refine wpAny_newObj_type (newEnv_comp ?_) (by show 0 ≤ sizeLine; decide)
  generalize eD : sz.heap.objs.size = D
  have dn : Hz D = none := Iz.hok.fresh (Nat.le_of_eq eD)
  obtain ⟨W, ⟨mm0, ww0⟩, trn⟩ := q D dn
  -- the new list
  generalize es3 : ({ sz with heap := sz.heap.push { cls := .type "list", data := .seq ([] : List Value).toArray } } : Shared) = sa
  have Ia : Inv X pins σ (upd Hz D (.lst [])) sa := by
    rw [← es3]
    refine Iz.laid (t' := sz.toks) (fun b o e => Heap.get?_push_of_some _ e) (Nat.le_of_eq eD) ⟨Nat.zero_le _, [], 0, .nil, ?_⟩
    rw [← eD]
    exact Heap.get?_push_size _ rfl
  have hh3 : sa.heap = sz.heap.push { cls := .type "list", data := .seq ([] : List Value).toArray } := by rw [← es3]
  have szs : ∀ b ∈ fp, b < sz.heap.objs.size := fun b hb => by
    obtain ⟨o, e, _⟩ := T.obj _ _ sz2 b hb
    exact Heap.lt_size e
  have ff3 : ∀ b ∈ fp, FpOk X pins (upd Hz D (.lst [])) b ∧ b < sa.heap.objs.size := fun b hb => by
    have hlt := szs b hb
    refine ⟨⟨?_, (fz2 b hb).2⟩, by rw [hh3, Heap.size_push]; exact Nat.lt_succ_of_lt hlt⟩
    rw [upd_ne (by rw [← eD]; exact Nat.ne_of_lt hlt)]
    exact (fz2 b hb).1
  have sst3 : tn 0 sa.heap := T.keep _ _ _ sz2 fun b _ o e => by rw [hh3]; exact Heap.get?_push_of_some _ e
  have Ib := block_start Ia ok hN ff3
  have qg := hg sa (upd Hz D (.lst [])) sa.heap.objs.size (cellsFrom (sa.heap.objs.size + 1) scope.names (cloFrom X.env.cells scope.names [])) fp
  have qt := ht sa (upd Hz D (.lst [])) sa.heap.objs.size (cellsFrom (sa.heap.objs.size + 1) scope.names (cloFrom X.env.cells scope.names [])) fp
  have qe := he sa (upd Hz D (.lst [])) sa.heap.objs.size (cellsFrom (sa.heap.objs.size + 1) scope.names (cloFrom X.env.cells scope.names [])) fp
  show codeAny _ _ (.compStart (.ListComp elt [⟨tg, iter, ifs, 0⟩] scope pos) 0 (.ref it) (.ref D) (compEnvC scope (cellsFrom (sa.heap.objs.size + 1) scope.names (cloFrom X.env.cells scope.names [])) sa.heap.objs.size X.env)) (cPost (model X.prog X.w) X.A X.xe use Qf (.ref D) (compEnvC scope (cellsFrom (sa.heap.objs.size + 1) scope.names (cloFrom X.env.cells scope.names [])) sa.heap.objs.size X.env)) { sa with heap := pushCells (sa.heap.push { cls := .type "dict", data := .dict #[] }) scope.names }
  have nofp : ∀ b ∈ fp, (upd Hz D (.lst [])) b = none := fun b hb => (ff3 b hb).1.1
  generalize ece : compEnvC scope (cellsFrom (sa.heap.objs.size + 1) scope.names (cloFrom X.env.cells scope.names [])) sa.heap.objs.size X.env = ce at Ib qg qt qe ⊢
  have cLo : ce.locals = sa.heap.objs.size := by subst ece; rfl
  have cFr : ce.frame = X.env.frame := by subst ece; rfl
  generalize eHa : upd Hz D (.lst []) = Ha at Ia Ib qg qt qe ww0 nofp ff3
  generalize es4 : ({ sa with heap := pushCells (sa.heap.push { cls := .type "dict", data := .dict #[] }) scope.names } : Shared) = sb at Ib ⊢
  obtain ⟨xb, exb⟩ : ∃ xb : Value → Shared → Prop, xb = notedBy (model X.prog X.w) X.A ce fun e s' => cPost (model X.prog X.w) X.A X.xe use Qf (.ref D) ce (.error e) s' := ⟨_, rfl⟩
  have tkb : Takes (blk2 X sa Ha scope ce fp xb) W1 := fun u s5 x => by
    show xb u s5
    have z := comp_out (use := use) (Qf := Qf) (acc := .ref D) hst hfm cFr cLo Ia ff3 tk hW x
    rw [exb]
    exact z
  have qg := qg xb
  have qt := qt xb
  have qe := qe xb tkb
  have Ib : Inv (blk2 X sa Ha scope ce fp xb) [] (wipe σ (own.map (·.2))) Ha sb := Ib.toTry xb
  have sst4 : tn 0 sb.heap := T.keep _ _ _ sst3 fun b _ o e => by rw [← es4]; exact pushCells_keeps _ _ _ _ (Heap.get?_push_of_some _ e)
  have sta : ∀ {σ' : L2.St} {H' : Hp} {s' : Shared}, Inv (blk2 X sa Ha scope ce fp xb) [] σ' H' s' → (∀ b ∈ fp, H' b = none) → ∀ b ∈ fp, FpOk (blk2 X sa Ha scope ce fp xb) [] H' b := fun {σ' H' s'} I' hn b hb =>
    ⟨hn b hb, (I'.ok.exf b hb).1, I'.ok.exfs b hb, .inl hb, fun x c e => (I'.ok.exf b hb).2 x c e, fun p hp => absurd (show p ∈ ([] : List (Addr × Obj)) ++ [] from hp) (by simp)⟩
  have lp : codeAny (model X.prog X.w) X.A (.compLoop (.ListComp elt [⟨tg, iter, ifs, 0⟩] scope pos) 0 (.ref it) (.ref D) ce) (cPost (model X.prog X.w) X.A X.xe use Qf (.ref D) ce) sb := by
    have eN : (notedBy (model X.prog X.w) X.A ce fun e s' => cPost (model X.prog X.w) X.A X.xe use Qf (.ref D) ce (.error e) s') = xb := exb.symm
    refine compLoop_any (fun n s' => ∃ i H', Inv (blk2 X sa Ha scope ce fp xb) [] (wipe σ (own.map (·.2))) H' s' ∧ tn i s'.heap ∧ (∀ b ∈ fp, H' b = none) ∧ W i n H') ?_ mm0 ⟨0, Ha, Ib, sst4, nofp, ww0⟩
    rw [eN]
    rintro n s5 ⟨i, K5, J5, st5, n5, w5⟩
    rcases trn i n K5 w5 with ⟨stop, qq⟩ | ⟨go, Nx, hNx, step⟩
    · have td := T.done (blk2 X sa Ha scope ce fp xb) rfl rfl rfl hc i [] s5 _ K5 (fun _ _ => False) J5 (sta J5 n5) st5 stop
      refine thnF td fun r s6 ⟨hr, J6⟩ => ?_
      subst hr
      -- back in the def's context
      have J7 : Inv X pins σ K5 s6 := Ia.call' (ch := fp) J6.os J6.base J6.hok J6.bare fun b hb => ⟨(ff3 b hb).1.2.2.2.1, (ff3 b hb).1.2.1, (ff3 b hb).1.2.2.2.2.1, (ff3 b hb).1.2.2.2.2.2⟩
      have nC : K5 sa.heap.objs.size = none := by
        have z : K5 ce.locals = none := J6.free
        rw [cLo] at z
        exact z
      obtain ⟨m, hn, _⟩ := J6.loc
      have hn : s6.heap.Ns ce.locals m := hn
      rw [cLo] at hn
      show compPost _ _ _ _ _ _ ce.locals _ _
      rw [cLo]
      exact hRR D sa.heap.objs.size s6 m K5 J7 qq hn (Ia.fpOk (Nat.le_refl _) nC)
    · have ti := T.item (blk2 X sa Ha scope ce fp xb) rfl rfl rfl hc i [] s5 _ K5 (fun _ _ => False) J5 (sta J5 n5) st5 go
      refine thnF ti fun r s6 ⟨u, hr, h6⟩ => ?_
      subst hr
      refine thnF h6 fun _ s7 ⟨x, K7, J7, r7, y7, st7, n7⟩ => ?_
      have J7' := J7.pinned (sta J7 n7) (T.obj _ _ st7)
      refine thn (qg.run _ s7 _ K7 x u _ J7' r7 (step x K7 y7)) fun _ s8 ⟨σ8, K8, J8, hw8, q8⟩ => ?_
      refine thn (qt.run _ s8 σ8 K8 _ J8 q8) fun b s9 ⟨K9, J9, q9⟩ => ?_
      -- the turn's end
      have fin : ∀ {s' : Shared} {H' : Hp}, Inv (blk2 X sa Ha scope ce fp xb) ([] ++ pinsAt fp s7.heap) σ8 H' s' → Nx H' → ∃ m, m < n ∧ ∃ i H', Inv (blk2 X sa Ha scope ce fp xb) [] (wipe σ (own.map (·.2))) H' s' ∧ tn i s'.heap ∧ (∀ b ∈ fp, H' b = none) ∧ W i m H' := fun {s' H'} I' nx => by
        obtain ⟨m', hm, w'⟩ := hNx H' nx
        have pin' : ∀ b ∈ fp, ∀ o, s7.heap.get? b = some o → s'.heap.get? b = some o ∧ H' b = none := fun b hb o e =>
          let z := I'.pin (b, o) (List.mem_append_right _ (List.mem_append_right _ (mem_pinsAt hb e)))
          ⟨z.1, z.2.1⟩
        have hl : (wipe σ (own.map (·.2))).length = σ8.length := by rw [← hw8, wipe_length]
        refine ⟨m', hm, i + 1, H', (I'.unpinned (pins := [])).weak hl (fun j v e => ?_), T.keep _ _ _ st7 fun b hb o e => (pin' b hb o e).1, fun b hb => ?_, w'⟩
        · rw [← hw8] at e
          exact (wipe_some e).1
        · obtain ⟨o, e, _⟩ := T.obj _ _ st7 b hb
          exact (pin' b hb o e).2
      cases b with
      | false =>
        simp only [Bool.false_eq_true, if_false] at q9 ⊢
        exact fin J9 q9
      | true =>
        simp only [if_true] at q9 ⊢
        refine thn (qe.run _ s9 σ8 K9 _ J9 q9) fun z s10 ⟨yv, K10, J10, r10, acc, hD10, hz10, nx⟩ => ?_
        exact app_ok (X := blk2 X sa Ha scope ce fp xb) J10 hD10 hz10 r10 fun s11 J11 => fin J11 nx
  exact codeAny_compStart_list lp (T.self X.A 0 _ _ _ sst4 lp)

end

def fmX {α β : Type} (c : α → R Bool) (f : α → R β) : List α → R (List β)
  | [] => .ok []
  | x :: xs => (c x).calm.bind fun b => if b = true then (f x).bind fun y => (fmX c f xs).bind fun ys => .ok (y :: ys) else fmX c f xs
def mapX {α β : Type} (f : α → R β) : List α → R (List β)
  | [] => .ok []
  | x :: xs => (f x).bind fun y => (mapX f xs).bind fun ys => .ok (y :: ys)
theorem fmX_map {α β : Type} {f : α → R β} : ∀ xs : List α, fmX (fun _ => .ok true) f xs = mapX f xs
  | [] => rfl
  | x :: xs => by
    unfold fmX mapX
    show (f x).bind (fun y => (fmX (fun _ => R.ok true) f xs).bind fun ys => .ok (y :: ys)) = _
    rw [fmX_map xs]
theorem SA.blkU {en : En} {Γ Γ3 Γ' : List Sl} {F2 F3 H2 H3 : Hp} {σ σ2 : L2.St} (s : SA en Γ F2 σ H2) (s3 : SA ⟨F2, H2, Ows Γ σ⟩ Γ3 F3 σ2 H3) (e3 : Same F2 F3) (hle : Le Γ' Γ) (hn : ∀ (j : Nat) a P, Γ'[j]? ≠ some (.own a P)) : SA en Γ' F3 σ H3 where
  len := Nat.le_trans hle.len s.len
  sub := s3.sub
  grow := s.grow.trans e3
  old := fun p o e hp => s3.old p o (s.old p o e hp) fun ⟨i, a, P, hi, hs⟩ => by
    obtain ⟨q, x, h1, _, _, _, h5, _⟩ := s.own i a P hi
    rw [hs] at h1
    injection h1 with h1
    injection h1 with h1
    injection h1 with h1
    subst h1
    rcases h5 with z | z
    · rw [z] at e
      cases e
    · exact hp z
  there := fun p hp => s3.there p (s.there p hp)
  frz := fun p hp hf hps => (s.frz p hp hf hps).elim (fun q => s3.frz p (s.there p hp) q fun z => (s.ows z).elim (fun y => hp y) hps) fun ⟨vs, z⟩ => .inr ⟨vs, e3 p _ z⟩
  val := fun i P hi => by
    rcases hle.get hi with z | z
    · cases z
    · obtain ⟨v, h1, h2⟩ := s.val i P z
      exact ⟨v, h1, P.m e3 h2⟩
  own := fun i a P hi => absurd hi (hn i a P)
  dis := fun i j a b P Q p hij hi => absurd hi (hn i a P)
section
variable {X : Cx} {U : Wi} {Γ : List Sl} {tg iter elt : Expr} {ifs : List Expr} {scope : Scope} {own : List (Str × Nat)} {pos : Pos} {α β : Type} {ρ : Rp α} {π : Rp β}
def lG2 (X : Cx) (scope : Scope) (tg : Expr) : L2.TG := fun v σ H Q => ∀ s H0 C cl fp xe, wG (blk2 X s H0 scope (compEnvC scope cl C X.env) fp xe) tg v σ H Q
def lT2 (X : Cx) (scope : Scope) (ifs : List Expr) : TT := fun σ H Q => ∀ s H0 C cl fp xe, wTs (blk2 X s H0 scope (compEnvC scope cl C X.env) fp xe) ifs σ H Q
def lE2 (X : Cx) (scope : Scope) (elt : Expr) (W : WX) : TE := fun σ H Q => ∀ s H0 C cl fp xe, Takes (blk2 X s H0 scope (compEnvC scope cl C X.env) fp xe) W → wE (blk2 X s H0 scope (compEnvC scope cl C X.env) fp xe) elt σ H Q
theorem lcx_red {m : R (List α)} {g : α → List Sl → List Sl} {c : α → R Bool} {f : α → R β} (hi : IX X U Γ tg iter ρ m) (hle : Le U.Γ Γ) (hnu : ∀ (j : Nat) a P, U.Γ[j]? ≠ some (.own a P))
    (hg : ∀ s H C cl fp xe, GT (blk2 X s H scope (compEnvC scope cl C X.env) fp xe) tg ρ (own.map (·.2)) g)
    (ht : ∀ s H C cl fp xe (x : α), TsG (blk2 X s H scope (compEnvC scope cl C X.env) fp xe) U0 (g x (wipeΓ Γ (own.map (·.2)))) ifs (c x))
    (he : ∀ s H C cl fp xe W, Takes (blk2 X s H scope (compEnvC scope cl C X.env) fp xe) W → ∀ x : α, EX (blk2 X s H scope (compEnvC scope cl C X.env) fp xe) ⟨W, []⟩ (g x (wipeΓ Γ (own.map (·.2)))) elt π (f x))
    (hno : noOwn Γ (own.map (·.2)) = true := by rfl)
    {en : En} {F : Hp} {σ : L2.St} {H : Hp} {Q : VK} (s : SA en Γ F σ H)
    (h : wpR (m.bind fun xs => (chk (xs.length ≤ sizeLine) xs).bind (fmX c f)) (fun ys => ∀ p o F' H', Same F F' → SA en Γ F' σ H' → Fresh en Γ F' σ H' p o → (oLi (tl π) ys).p F' o → Q (.ref p) H') (U.ok X.mg en F)) :
    tLc (wI X tg iter) (lG2 X scope tg) (lT2 X scope ifs) (lE2 X scope elt fun cls d _ H' => U.W cls d σ H') (own.map (·.2)) σ H Q := by
  refine hi.out en F σ H _ s (wpR_mono (wpR_bind h) (fun xs k J F1 H1 e1 s1 wk => fun D hD => ?_) fun _ z => z)
  -- the list, turn by turn
  generalize hvs : own.map (·.2) = vs at *
  have l0 := s1.lay (o := .lst []) hD
  obtain ⟨hz, k2⟩ := wpR_chk (wpR_bind k)
  obtain ⟨res, hall⟩ : ∃ res, fmX c f xs = res := ⟨_, rfl⟩
  rw [hall] at k2
  have nb : res ≠ .bad := fun z => by
    rw [z] at k2
    exact k2.elim
  refine ⟨fun i m H => m = xs.length - i ∧ i ≤ xs.length ∧ ∃ (ys : List β) (ws : List V) (F' : Hp), Same F1 F' ∧ SA en Γ F' σ H ∧ Fresh en Γ F' σ H D (.lst ws) ∧ RepL π F' ys ws ∧ ys.length ≤ i ∧ ((fmX c f (xs.drop i)).bind fun r => .ok (ys ++ r)) = res,
    ⟨_, rfl, Nat.zero_le _, [], [], F1, Same.refl F1, l0.1, l0.2, .nil, Nat.le_refl _, by rw [List.drop_zero, hall]; cases res <;> rfl⟩, ?_⟩
  rintro i m H ⟨rfl, hil, ys, ws, F', eF, sa, fr, rl, hyl, heq⟩
  by_cases hlt : i < xs.length
  · have hd : xs.drop i = xs[i] :: xs.drop (i + 1) := List.drop_eq_getElem_cons hlt
    have hx : xs[i]? = some xs[i] := List.getElem?_eq_getElem hlt
    obtain ⟨go, yl⟩ := wk.go F' H i _ eF sa.sub hx
    rw [hd] at heq
    unfold fmX at heq
    refine .inr ⟨go, fun H => i + 1 ≤ xs.length ∧ ∃ (ys : List β) (ws : List V) (F' : Hp), Same F1 F' ∧ SA en Γ F' σ H ∧ Fresh en Γ F' σ H D (.lst ws) ∧ RepL π F' ys ws ∧ ys.length ≤ i + 1 ∧ ((fmX c f (xs.drop (i + 1))).bind fun r => .ok (ys ++ r)) = res, fun H' ⟨a1, a2⟩ => ⟨_, by omega, rfl, a1, a2⟩, fun v H' y => ?_⟩
    obtain ⟨F2, xx, rv⟩ := yl v H' y
    have sa2 := sa.ext xx
    have fr2 : Fresh en Γ F2 σ H' D (.lst ws) := ⟨no_tup xx.s (xx.n D (by rw [fr.h]; exact fun z => nomatch z) fr.f) (xx.h D _ fr.h) (fun _ z => nomatch z), fr.e, fr.n, xx.h D _ fr.h⟩
    -- the block's own entry
    let en2 : En := ⟨F2, H', Ows Γ σ⟩
    have sw : SA en2 (wipeΓ Γ vs) F2 (wipe σ vs) H' := (sa2.re).wipe
    intro s' H0 C cl fp xe
    refine (hg s' H0 C cl fp xe).out en2 _ F2 _ H' v _ _ sw rv fun σ2 s2 ch => ⟨?_, ?_⟩
    · have hw := ch.wipe
      have hi2 : wipe (wipe σ vs) vs = wipe σ vs := by
        apply List.ext_getElem?
        intro j
        by_cases hj : j ∈ vs
        · by_cases hl : j < σ.length
          · rw [wipe_in hj (by rw [wipe_length]; exact hl), wipe_in hj hl]
          · rw [List.getElem?_eq_none (by rw [wipe_length, wipe_length]; omega), List.getElem?_eq_none (by rw [wipe_length]; omega)]
        · rw [wipe_out hj]
      exact hw.trans hi2
    · -- behind a pure evaluation of the block
      have bk : ∀ {F3 H3 : Hp}, SA en2 (g xs[i] (wipeΓ Γ vs)) F3 σ2 H3 → Same F2 F3 → SA en Γ F3 σ H3 ∧ Fresh en Γ F3 σ H3 D (.lst ws) := fun {F3 H3} s3 e3 =>
        ⟨sa2.blk s3 e3 ch (fun j hj => by
          rw [(hg s' H0 C cl fp xe).keep _ _ j hj]
          exact wipeΓ_out hj) (noOwn_of hno),
        ⟨no_tup s3.sub (s3.frz D (by show H' D ≠ none; rw [fr2.h]; exact fun z => nomatch z) fr2.f (fun ⟨j, a, P, hj, hs⟩ => fr2.n j a P hj hs)) (s3.old D _ fr2.h fun ⟨j, a, P, hj, hs⟩ => fr2.n j a P hj hs) (fun _ z => nomatch z), fr2.e, fr2.n, s3.old D _ fr2.h fun ⟨j, a, P, hj, hs⟩ => fr2.n j a P hj hs⟩⟩
      have hq := heq
      intro s'' H0' C' cl' fp' xe'
      cases hcv : c xs[i] with
      | er z =>
        rw [hcv] at hq
        exact absurd hq.symm nb
      | bad =>
        rw [hcv] at hq
        exact absurd hq.symm nb
      | ok b =>
        rw [hcv] at hq
        refine (ht s'' H0' C' cl' fp' xe' xs[i]).out en2 F2 σ2 H' _ s2 ?_
        rw [hcv]
        intro F3 H3 e3 s3
        obtain ⟨sa3, fr3⟩ := bk s3 e3
        cases b with
        | false =>
          rw [if_neg Bool.false_ne_true]
          exact ⟨hlt, ys, ws, F3, eF.trans (xx.f.trans e3), sa3, fr3, (rl.mono (xx.f.trans e3)), Nat.le_succ_of_le hyl, hq⟩
        | true =>
          rw [if_pos rfl]
          have hq' : (((f xs[i]).bind fun y => (fmX c f (xs.drop (i + 1))).bind fun ys => R.ok (y :: ys)).bind fun r => R.ok (ys ++ r)) = res := hq
          intro s4 H04 C4 cl4 fp4 xe4 tk4
          refine (he s4 H04 C4 cl4 fp4 xe4 _ tk4 xs[i]).out en2 F3 σ2 H3 _ s3 ?_
          cases hfv : f xs[i] with
          | er z =>
            rw [hfv] at hq'
            have hr' : res = .er z := hq'.symm
            rw [hr'] at k2
            have k3 : U.ok X.mg en F z := k2
            exact fun cls d F5 σ5 H5 e5 s5 ho => k3 cls d F5 σ H5 (e1.trans (eF.trans (xx.f.trans (e3.trans e5)))) (SA.blkU sa2 s5 (e3.trans e5) hle hnu) ho
          | bad =>
            rw [hfv] at hq'
            exact absurd hq'.symm nb
          | ok y =>
            rw [hfv] at hq'
            have hq2 : (((fmX c f (xs.drop (i + 1))).bind fun ys => R.ok (y :: ys)).bind fun r => R.ok (ys ++ r)) = res := hq'
            intro u F4 H4 e4 s4' ru
            obtain ⟨sa4, fr4⟩ := bk s4' (e3.trans e4)
            have hq3 : ((fmX c f (xs.drop (i + 1))).bind fun r => R.ok ((ys ++ [y]) ++ r)) = res := by
              rw [← hq2]
              cases hr : fmX c f (xs.drop (i + 1)) with
              | ok r =>
                show R.ok ((ys ++ [y]) ++ r) = R.ok (ys ++ (y :: r))
                rw [List.append_assoc]
                rfl
              | er z => rfl
              | bad => rfl
            have hlen : ys.length < sizeLine := Nat.lt_of_le_of_lt hyl (Nat.lt_of_lt_of_le hlt hz)
            have ot := sa4.other (o' := .lst (ws ++ [u])) fr4
            have rl4 : RepL π F4 ys ws := rl.mono ((xx.f.trans e3).trans e4)
            exact ⟨ws, fr4.h, by rw [← rl4.length]; exact hlen, hlt, ys ++ [y], ws ++ [u], F4, eF.trans ((xx.f.trans e3).trans e4), ot.1, ot.2, rl4.append (.cons ru .nil), by rw [List.length_append]; exact Nat.succ_le_succ hyl, hq3⟩
  · have e : i = xs.length := by omega
    subst e
    rw [List.drop_length] at heq
    have heq' : R.ok (ys ++ []) = res := heq
    rw [List.append_nil] at heq'
    rw [← heq'] at k2
    exact .inl ⟨wk.stop H _ (eF.trans sa.sub) (Nat.le_refl _), k2 D _ F' H (e1.trans eF) sa fr ⟨ws, rfl, rl⟩⟩

/-- [elt for tg in iter if ..], elt may raise -/
theorem f_lcX {m : R (List α)} {g : α → List Sl → List Sl} {c : α → R Bool} {f : α → R β} (hN : X.N.Nodup) (tk : Takes X U.W) (hle : Le U.Γ Γ) (hi : IX X U Γ tg iter ρ m) (ok : BlkOk X.N X.env.scope scope own)
    (hg : ∀ s H C cl fp xe, GT (blk2 X s H scope (compEnvC scope cl C X.env) fp xe) tg ρ (own.map (·.2)) g)
    (ht : ∀ s H C cl fp xe (x : α), TsG (blk2 X s H scope (compEnvC scope cl C X.env) fp xe) U0 (g x (wipeΓ Γ (own.map (·.2)))) ifs (c x))
    (he : ∀ s H C cl fp xe W, Takes (blk2 X s H scope (compEnvC scope cl C X.env) fp xe) W → ∀ x : α, EX (blk2 X s H scope (compEnvC scope cl C X.env) fp xe) ⟨W, []⟩ (g x (wipeΓ Γ (own.map (·.2)))) elt π (f x))
    (hno : noOwn Γ (own.map (·.2)) = true := by rfl) (hnu : ∀ (j : Nat) a P, U.Γ[j]? ≠ some (.own a P) := by exact fun _ _ _ h => nomatch h) (hst : X.stack = X.env :: X.outer := by rfl) (hfm : X.env.frame = some X.env.locals := by rfl)
    (hc : X.calm = true := by rfl) (hs : ∀ x, foldedSetIterable iter X.env x = pure x := by intro _; rfl) :
    FX X U Γ (.ListComp elt [⟨tg, iter, ifs, 0⟩] scope pos) (fun ys => oLi (tl π) ys) (m.bind fun xs => (chk (xs.length ≤ sizeLine) xs).bind (fmX c f)) :=
  ⟨fun en F σ H Q s h => fun pins st I => by
    rw [eval_ListComp]
    refine lcx_core (wi := wI X tg iter) (g := lG2 X scope tg) (tt := lT2 X scope ifs) (te := lE2 X scope elt fun cls d _ H' => U.W cls d σ H') (W1 := fun cls d _ H' => U.W cls d σ H') hst hfm tk (fun _ _ _ _ z => z) hc hN I wI_pi ok
      (fun s H C cl fp xe => ⟨fun pins s' σ H' v u Q I r h => (h s H C cl fp xe) pins s' u I r⟩) (fun s H C cl fp xe => ⟨fun pins s' σ H' Q I h => (h s H C cl fp xe) pins s' I⟩) (fun s H C cl fp xe tkb => ⟨fun pins s' σ H' Q I h => (h s H C cl fp xe tkb) pins s' I⟩) hs (lcx_red hi hle hnu hg ht he hno s h) fun D C s' m H' I' q hn f => ⟨m, hn, fun h'' sb => ?_⟩
    obtain ⟨f0, f1, f2, f3, f4, f5⟩ := f
    exact ⟨.ref D, H', I'.turned (t' := s'.toks) (fun b o hb e => (sb.2 b hb).trans e) f0 f1 f3 f4 f5, rfl, q⟩⟩
/-- without a test -/
theorem f_lcXM {m : R (List α)} {g : α → List Sl → List Sl} {f : α → R β} (hN : X.N.Nodup) (tk : Takes X U.W) (hle : Le U.Γ Γ) (hi : IX X U Γ tg iter ρ m) (ok : BlkOk X.N X.env.scope scope own)
    (hg : ∀ s H C cl fp xe, GT (blk2 X s H scope (compEnvC scope cl C X.env) fp xe) tg ρ (own.map (·.2)) g)
    (he : ∀ s H C cl fp xe W, Takes (blk2 X s H scope (compEnvC scope cl C X.env) fp xe) W → ∀ x : α, EX (blk2 X s H scope (compEnvC scope cl C X.env) fp xe) ⟨W, []⟩ (g x (wipeΓ Γ (own.map (·.2)))) elt π (f x))
    (hno : noOwn Γ (own.map (·.2)) = true := by rfl) (hnu : ∀ (j : Nat) a P, U.Γ[j]? ≠ some (.own a P) := by exact fun _ _ _ h => nomatch h) (hst : X.stack = X.env :: X.outer := by rfl) (hfm : X.env.frame = some X.env.locals := by rfl)
    (hc : X.calm = true := by rfl) (hs : ∀ x, foldedSetIterable iter X.env x = pure x := by intro _; rfl) :
    FX X U Γ (.ListComp elt [⟨tg, iter, [], 0⟩] scope pos) (fun ys => oLi (tl π) ys) (m.bind fun xs => (chk (xs.length ≤ sizeLine) xs).bind (mapX f)) := by
  have h := f_lcX (pos := pos) (c := fun _ => .ok true) (ifs := []) hN tk hle hi ok hg (fun _ _ _ _ _ _ _ => ts_nil) he hno hnu hst hfm hc hs
  have e : fmX (fun _ : α => R.ok true) f = mapX f := funext fmX_map
  rw [e] at h
  exact h

end
end Py

/-! Own layer, part Ae: xs.count(x), xs.index(x) of flat things. -/
namespace Py
open PySem PySem.Spec PyProof.Rows L2
section
variable {X : Cx} {U : Wi} {Γ : List Sl} {l a : Expr} {p ap cp : Pos} {n : Str} {α : Type} [DecidableEq α] {ρ : Rp α} {enc : α → V}
end
end Py

/-! Own layer, part Af: plans, the program's eight classes of objects that never change: data, fields, making, methods by the class, isinstance. -/
namespace Py
open PySem PySem.Spec PyProof.Rows L2
inductive Pl where
  | keep | nothing | everything
  | move (s : Int × Int) (p : Pl)
  | eat (s : List (Int × Int)) (p : Pl)
  | grow (s : List (Int × Int)) (p : Pl)
  | both (a b : Pl)
  | either (a b : Pl)
inductive PK where
  | Keep | Nothing | Everything | Move | Eat | Grow | Both | Either
  deriving DecidableEq
def Pl.kd : Pl → PK
  | .keep => .Keep
  | .nothing => .Nothing
  | .everything => .Everything
  | .move _ _ => .Move
  | .eat _ _ => .Eat
  | .grow _ _ => .Grow
  | .both _ _ => .Both
  | .either _ _ => .Either
def Pl.fStep : Pl → Option (Int × Int)
  | .move s _ => some s
  | _ => none
def Pl.fPiece : Pl → Option (List (Int × Int))
  | .eat s _ => some s
  | .grow s _ => some s
  | _ => none
def Pl.fPlan : Pl → Option Pl
  | .move _ p => some p
  | .eat _ p => some p
  | .grow _ p => some p
  | _ => none
def Pl.fOne : Pl → Option Pl
  | .both a _ => some a
  | .either a _ => some a
  | _ => none
def Pl.fOther : Pl → Option Pl
  | .both _ b => some b
  | .either _ b => some b
  | _ => none
/-- the names of the fields -/
abbrev PFs : List Str := ["step", "plan", "piece", "one", "other"]
abbrev CsL := List (PK × Addr)
def Ob (cs : CsL) (k : PK) (H : Hp) (v : V) (fs : List (Str × V)) : Prop := ∃ C a dx, (k, C) ∈ cs ∧ v = .ref a ∧ H a = some (.ins C dx fs)
theorem Ob.mono {cs : CsL} {k : PK} {H H' : Hp} {v : V} {fs : List (Str × V)} (e : Same H H') : Ob cs k H v fs → Ob cs k H' v fs := fun ⟨C, a, dx, h1, h2, h3⟩ => ⟨C, a, dx, h1, h2, e a _ h3⟩
def repPl (cs : CsL) : Pl → Hp → V → Prop
  | .keep, H, v => Ob cs .Keep H v []
  | .nothing, H, v => Ob cs .Nothing H v []
  | .everything, H, v => Ob cs .Everything H v []
  | .move s p, H, v => ∃ x y, Ob cs .Move H v [("step", x), ("plan", y)] ∧ rC.rep s H x ∧ repPl cs p H y
  | .eat s p, H, v => ∃ x y, Ob cs .Eat H v [("piece", x), ("plan", y)] ∧ (rT rC).rep s H x ∧ repPl cs p H y
  | .grow s p, H, v => ∃ x y, Ob cs .Grow H v [("piece", x), ("plan", y)] ∧ (rT rC).rep s H x ∧ repPl cs p H y
  | .both a b, H, v => ∃ x y, Ob cs .Both H v [("one", x), ("other", y)] ∧ repPl cs a H x ∧ repPl cs b H y
  | .either a b, H, v => ∃ x y, Ob cs .Either H v [("one", x), ("other", y)] ∧ repPl cs a H x ∧ repPl cs b H y
theorem repPl_mono {cs : CsL} {H H' : Hp} (e : Same H H') : ∀ {p : Pl} {v : V}, repPl cs p H v → repPl cs p H' v
  | .keep, _, h => Ob.mono e h
  | .nothing, _, h => Ob.mono e h
  | .everything, _, h => Ob.mono e h
  | .move _ _, _, ⟨x, y, h1, h2, h3⟩ => ⟨x, y, h1.mono e, rC.mono e h2, repPl_mono e h3⟩
  | .eat _ _, _, ⟨x, y, h1, h2, h3⟩ => ⟨x, y, h1.mono e, (rT rC).mono e h2, repPl_mono e h3⟩
  | .grow _ _, _, ⟨x, y, h1, h2, h3⟩ => ⟨x, y, h1.mono e, (rT rC).mono e h2, repPl_mono e h3⟩
  | .both _ _, _, ⟨x, y, h1, h2, h3⟩ => ⟨x, y, h1.mono e, repPl_mono e h2, repPl_mono e h3⟩
  | .either _ _, _, ⟨x, y, h1, h2, h3⟩ => ⟨x, y, h1.mono e, repPl_mono e h2, repPl_mono e h3⟩
def rPl (cs : CsL) : Rp Pl := ⟨repPl cs, fun e h => repPl_mono e h⟩
/-- the fields of a class's objects -/
def PK.flds : PK → List Str
  | .Keep => []
  | .Nothing => []
  | .Everything => []
  | .Move => ["step", "plan"]
  | .Eat => ["piece", "plan"]
  | .Grow => ["piece", "plan"]
  | .Both => ["one", "other"]
  | .Either => ["one", "other"]
theorem rep_ob {cs : CsL} {p : Pl} {H : Hp} {v : V} (h : repPl cs p H v) : ∃ fs, Ob cs p.kd H v fs ∧ fs.map Prod.fst = p.kd.flds := by
  cases p with
  | keep => exact ⟨[], h, rfl⟩
  | nothing => exact ⟨[], h, rfl⟩
  | everything => exact ⟨[], h, rfl⟩
  | move s p => obtain ⟨x, y, h1, _⟩ := h; exact ⟨_, h1, rfl⟩
  | eat s p => obtain ⟨x, y, h1, _⟩ := h; exact ⟨_, h1, rfl⟩
  | grow s p => obtain ⟨x, y, h1, _⟩ := h; exact ⟨_, h1, rfl⟩
  | both s p => obtain ⟨x, y, h1, _⟩ := h; exact ⟨_, h1, rfl⟩
  | either s p => obtain ⟨x, y, h1, _⟩ := h; exact ⟨_, h1, rfl⟩
theorem look_none {m : Str} : ∀ {fs : List (Str × V)}, m ∉ fs.map Prod.fst → fs.lookup m = none
  | [], _ => rfl
  | (f, v) :: fs, h => by
    have h1 : (m == f) = false := beq_eq_false_iff_ne.mpr fun z => h (by rw [z]; exact List.mem_cons_self)
    simp only [List.lookup, h1]
    exact look_none fun z => h (List.mem_cons_of_mem _ z)
theorem no_fld {m : Str} (h : m ∉ PFs) (k : PK) : m ∉ k.flds := fun z => h (by
  cases k <;> simp only [PK.flds, List.not_mem_nil, List.mem_cons, or_false] at z ⊢ <;> rcases z with rfl | rfl <;> simp [PFs])
theorem lk_1 {f g : Str} {x y : V} : ([(f, x), (g, y)] : List (Str × V)).lookup f = some x := by simp [List.lookup]
theorem lk_2 {f g : Str} {x y : V} (h : ¬ g = f) : ([(f, x), (g, y)] : List (Str × V)).lookup g = some y := by
  have h1 : (g == f) = false := beq_eq_false_iff_ne.mpr h
  simp [List.lookup, h1]
theorem putF_two {f g : Str} {x y : V} (h : ¬ f = g) : putF g y (putF f x []) = ([(f, x), (g, y)] : List (Str × V)) := by
  show (if f = g then (f, y) :: [] else (f, x) :: putF g y []) = _
  rw [if_neg h]
  rfl
/-- the facts of the classes -/
structure PlC (K : PySem.W.Frag) (cs : CsL) : Prop where
  cl : ∀ k C, (k, C) ∈ cs → Cls K C
  nf : ∀ k C f, (k, C) ∈ cs → f ∈ PFs → NoAttr K C f
  ca : ∀ k C, (k, C) ∈ cs → PySem.W.findIn K (.ref C) "__class__" = some (some (.builtin "object.__class__"))
  gn : PySem.W.specialIn K (.builtin "object.__class__") "__get__" = some (some (.builtin "getset_descriptor.__get__"))
  gt : PySem.W.takesIn K (.builtin "object.__class__") = some true
  mo : ∀ k C, (k, C) ∈ cs → PySem.W.mroIn K C (.type "object") = some true
theorem pl_nil {P : PK → Addr → Prop} : ∀ k C, (k, C) ∈ ([] : CsL) → P k C := fun _ _ h => nomatch h
theorem pl_cons {P : PK → Addr → Prop} {k0 : PK} {C0 : Addr} {cs : CsL} (h0 : P k0 C0) (h : ∀ k C, (k, C) ∈ cs → P k C) : ∀ k C, (k, C) ∈ (k0, C0) :: cs → P k C := fun k C hm => by
  rcases List.mem_cons.mp hm with e | e
  · injection e with e1 e2
    subst e1 e2
    exact h0
  · exact h k C e
theorem pl_nil3 {P : PK → Addr → Str → Prop} : ∀ k C f, (k, C) ∈ ([] : CsL) → f ∈ PFs → P k C f := fun _ _ _ h => nomatch h
theorem pl_cons3 {P : PK → Addr → Str → Prop} {k0 : PK} {C0 : Addr} {cs : CsL} (h1 : P k0 C0 "step") (h2 : P k0 C0 "plan") (h3 : P k0 C0 "piece") (h4 : P k0 C0 "one") (h5 : P k0 C0 "other") (h : ∀ k C f, (k, C) ∈ cs → f ∈ PFs → P k C f) :
    ∀ k C f, (k, C) ∈ (k0, C0) :: cs → f ∈ PFs → P k C f := fun k C f hm hf => by
  rcases List.mem_cons.mp hm with e | e
  · injection e with e1 e2
    subst e1 e2
    simp only [PFs, List.mem_cons, List.not_mem_nil, or_false] at hf
    rcases hf with rfl | rfl | rfl | rfl | rfl
    · exact h1
    · exact h2
    · exact h3
    · exact h4
    · exact h5
  · exact h k C f e hf

/-! ### fields -/
structure Fld {α : Type} (cs : CsL) (f : Str) (ρ : Rp α) (get : Pl → Option α) : Prop where
  mem : f ∈ PFs
  out : ∀ p x H v, get p = some x → repPl cs p H v → ∃ k fs u, Ob cs k H v fs ∧ fs.lookup f = some u ∧ ρ.rep x H u
theorem ne_ps : ¬ ("plan" : Str) = "step" := by decide +kernel
theorem ne_pp : ¬ ("plan" : Str) = "piece" := by decide +kernel
theorem ne_oo : ¬ ("other" : Str) = "one" := by decide +kernel
theorem fldStep (cs : CsL) : Fld cs "step" rC Pl.fStep := ⟨by simp [PFs], fun p x H v e h => by
  cases p <;> first | cases e | skip
  obtain ⟨u, w, h1, h2, h3⟩ := h
  exact ⟨_, _, u, h1, lk_1, h2⟩⟩
theorem fldPiece (cs : CsL) : Fld cs "piece" (rT rC) Pl.fPiece := ⟨by simp [PFs], fun p x H v e h => by
  cases p <;> first | cases e | skip
  all_goals
    obtain ⟨u, w, h1, h2, h3⟩ := h
    exact ⟨_, _, u, h1, lk_1, h2⟩⟩
theorem fldPlan (cs : CsL) : Fld cs "plan" (rPl cs) Pl.fPlan := ⟨by simp [PFs], fun p x H v e h => by
  cases p <;> first | (cases e; done) | skip
  all_goals
    obtain rfl := Option.some.inj e
    obtain ⟨u, w, h1, h2, h3⟩ := h
    first
      | exact ⟨_, _, w, h1, lk_2 ne_ps, h3⟩
      | exact ⟨_, _, w, h1, lk_2 ne_pp, h3⟩⟩
theorem fldOne (cs : CsL) : Fld cs "one" (rPl cs) Pl.fOne := ⟨by simp [PFs], fun p x H v e h => by
  cases p <;> first | (cases e; done) | skip
  all_goals
    obtain rfl := Option.some.inj e
    obtain ⟨u, w, h1, h2, h3⟩ := h
    exact ⟨_, _, u, h1, lk_1, h2⟩⟩
theorem fldOther (cs : CsL) : Fld cs "other" (rPl cs) Pl.fOther := ⟨by simp [PFs], fun p x H v e h => by
  cases p <;> first | (cases e; done) | skip
  all_goals
    obtain rfl := Option.some.inj e
    obtain ⟨u, w, h1, h2, h3⟩ := h
    exact ⟨_, _, w, h1, lk_2 ne_oo, h3⟩⟩
section
variable {X : Cx} {U : Wi} {Γ : List Sl} {a e o : Expr} {es : List Expr} {pos p apos : Pos} {α γ τ : Type} {ρ : Rp α} {π : Rp γ} {t : Tr τ} {cs : CsL}
theorem x_fld {f : Str} {get : Pl → Option α} {m : R Pl} (hf : Fld cs f ρ get) (T : PlC X.K cs) (he : EX X U Γ e (rPl cs) m) (hb : attributeBase e f X.env (eval e X.env) = eval e X.env := by rfl) : EX X U Γ (.Attribute e f pos) ρ (m.bind fun q => ofOpt (get q)) :=
  ⟨fun en F σ H Q s h => wE_of (pe_fld wE_pe hb) (he.out en F σ H _ s (wpR_mono (wpR_bind h) (fun q k v F1 H1 e1 s1 r1 => by
    obtain ⟨x, ex, k⟩ := wpR_opt k
    obtain ⟨kd, fs, u, ⟨C, b, dx, hC, ev, hb⟩, hl, hu⟩ := hf.out q x F1 v ex r1
    exact ⟨b, C, dx, fs, u, ev, s1.sub b _ hb, T.cl kd C hC, T.nf kd C f hC hf.mem, hl, k u F1 H1 e1 s1 hu⟩) fun _ z => z))⟩

/-! ### making -/
def SpIn (C : Addr) (f1 f2 : Str) : Sp := fun vs H Q _ => ∃ x dx v1 v2, vs = [.ref x, v1, v2] ∧ H x = some (.ins C dx []) ∧ Q .non (upd H x (.ins C dx [(f1, v1), (f2, v2)]))
theorem upd_upd {H : Hp} {x : Addr} {o o' : HO} : upd (upd H x o) x o' = upd H x o' := by
  funext b
  by_cases z : b = x
  · subst z
    rw [upd_same, upd_same]
  · rw [upd_ne z, upd_ne z, upd_ne z]
theorem Ext.ins {F H : Hp} (e : Same F H) {x dx : Addr} {o : HO} (nx : H x = none) (ndx : H dx = none) (ne : dx ≠ x) : Ext F H (upd F x o) (upd (upd H dx (.own x)) x o) := by
  have e1 : Ext F H F (upd H dx (.own x)) := Ext.lay e ndx
  exact e1.trans (Ext.new e1.s (by rw [upd_ne (Ne.symm ne)]; exact nx))
/-- how a plan of two fields is made -/
structure MkP {τ : Type} (cs : CsL) (C : Addr) (f1 f2 : Str) (t : Tr τ) (mk : τ → Pl) : Prop where
  out : ∀ x F vs, t.rep x F vs → ∃ v1 v2, vs = [v1, v2] ∧ ∀ F' a dx, Same F F' → F' a = some (.ins C dx [(f1, v1), (f2, v2)]) → repPl cs (mk x) F' (.ref a)
theorem mkMove {C : Addr} (h : (PK.Move, C) ∈ cs) : MkP cs C "step" "plan" (tc rC (t1 (rPl cs))) fun x => .move x.1 x.2 := ⟨fun x F vs ⟨v, ws, e, r, u, e2, r2⟩ => by
  subst e2
  exact ⟨v, u, e, fun F' a dx s ha => ⟨v, u, ⟨C, a, dx, h, rfl, ha⟩, rC.mono s r, repPl_mono s r2⟩⟩⟩
theorem mkEat {C : Addr} (h : (PK.Eat, C) ∈ cs) : MkP cs C "piece" "plan" (tc (rT rC) (t1 (rPl cs))) fun x => .eat x.1 x.2 := ⟨fun x F vs ⟨v, ws, e, r, u, e2, r2⟩ => by
  subst e2
  exact ⟨v, u, e, fun F' a dx s ha => ⟨v, u, ⟨C, a, dx, h, rfl, ha⟩, (rT rC).mono s r, repPl_mono s r2⟩⟩⟩
theorem mkGrow {C : Addr} (h : (PK.Grow, C) ∈ cs) : MkP cs C "piece" "plan" (tc (rT rC) (t1 (rPl cs))) fun x => .grow x.1 x.2 := ⟨fun x F vs ⟨v, ws, e, r, u, e2, r2⟩ => by
  subst e2
  exact ⟨v, u, e, fun F' a dx s ha => ⟨v, u, ⟨C, a, dx, h, rfl, ha⟩, (rT rC).mono s r, repPl_mono s r2⟩⟩⟩
theorem mkBoth {C : Addr} (h : (PK.Both, C) ∈ cs) : MkP cs C "one" "other" (tc (rPl cs) (t1 (rPl cs))) fun x => .both x.1 x.2 := ⟨fun x F vs ⟨v, ws, e, r, u, e2, r2⟩ => by
  subst e2
  exact ⟨v, u, e, fun F' a dx s ha => ⟨v, u, ⟨C, a, dx, h, rfl, ha⟩, repPl_mono s r, repPl_mono s r2⟩⟩⟩
theorem mkEither {C : Addr} (h : (PK.Either, C) ∈ cs) : MkP cs C "one" "other" (tc (rPl cs) (t1 (rPl cs))) fun x => .either x.1 x.2 := ⟨fun x F vs ⟨v, ws, e, r, u, e2, r2⟩ => by
  subst e2
  exact ⟨v, u, e, fun F' a dx s ha => ⟨v, u, ⟨C, a, dx, h, rfl, ha⟩, repPl_mono s r, repPl_mono s r2⟩⟩⟩
theorem x_mk2 {n : Str} {C fI : Addr} {fd : FuncData} {ps : List Str} {f1 f2 : Str} {mk : τ → Pl} {m : R τ} (MP : MkP cs C f1 f2 t mk) (M : Mk X.K C fI) (G : FnOk X.prog X.w X.K X.mg X.base CX0 1 fI fd ps (SpIn C f1 f2)) (hr : Room 2 X.A) (hm : X.mg n = some (.ref C)) (hb : Binds X.K fd ps [])
    (ha : AX X U Γ (a :: es) t m) (hg : Gl X n := by rfl) (hdb : (n == ("__debug__" : Str)) = false := by decide) (he : starEach (a :: es) X.env = (false, eval a X.env) :: starEach es X.env := by rfl) (hpl : (backTo pos (starEach es X.env)).any (·.1) = false := by rfl) :
    EX X U Γ (.Call (.Name n p) (a :: es) [] pos) (rPl cs) (m.bind fun x => .ok (mk x)) :=
  ⟨fun en F σ H Q s h => wE_of (pe_make M G hr hg hm hb .nil pass0 wA_pa hdb he hpl) (ha.out en F σ H _ s (wpR_mono (wpR_bind h) (fun x k vs F1 H1 e1 s1 r1 => fun y dx ny ndx ne => by
    obtain ⟨v1, v2, ev, q⟩ := MP.out x F1 vs r1
    subst ev
    have ex : Ext F1 H1 (upd F1 y (.ins C dx [(f1, v1), (f2, v2)])) (upd (upd H1 dx (.own y)) y (.ins C dx [(f1, v1), (f2, v2)])) := Ext.ins s1.sub ny ndx ne
    refine ⟨y, dx, v1, v2, rfl, upd_same, rfl, ?_⟩
    rw [upd_upd]
    exact k _ _ _ (e1.trans ex.f) (s1.ext ex) (q _ y dx ex.f upd_same)) fun _ z => z))⟩
end
section
open PySem.W
variable {X : Cx} {C : Addr} {pins : List (Addr × Obj)} {σ : L2.St} {H : Hp} {s : Shared} {Q : VK}
/-- what a class without __init__ must have to be made -/
structure Mk0 (K : PySem.W.Frag) (C : Addr) : Prop where
  makes : PySem.W.makesIn K C = true
  init : PySem.W.findIn K (.ref C) "__init__" = some (some (.builtin "object.__init__"))
  top : PySem.W.mroIn K C (.type "object") = some true
  kp : PySem.W.keepIn K (.ref C) = true
theorem run_make0 (M : Mk0 X.K C) (I : Inv X pins σ H s) (h : ∀ x dx, H x = none → H dx = none → dx ≠ x → Q (.ref x) (upd (upd H dx (.own x)) x (.ins C dx []))) :
    wpAny (model X.prog X.w) X.A (PySem.call (.ref C) []) (EP X pins σ Q) X.xe s := by
  have hq := h (s.heap.objs.size + 1) s.heap.objs.size (I.hok.fresh (Nat.le_succ _)) (I.hok.fresh (Nat.le_refl _)) (Nat.ne_of_lt (Nat.lt_succ_self _))
  have I2 := Inv.made (C := C) I
  obtain ⟨o, ho, hc⟩ : ∃ o : Obj, ((s.heap.push PySem.W.emptyDict).push (PySem.W.instObj C s.heap.objs.size)).get? (s.heap.objs.size + 1) = some o ∧ o.cls = .ref C := by
    obtain ⟨_, _, _, ho, _⟩ := (show ObjOk X.prog X.w _ _ (s.heap.objs.size + 1) (.ins C s.heap.objs.size []) from I2.hok _ _ upd_same)
    exact ⟨_, ho, rfl⟩
  refine wpAny_call (make_map0 I.kIn M.makes M.init (fun self => Looks.of_pure (oi_bind _)) ?_)
  have t1 := NwA.type_at (M := model X.prog X.w) ho hc
  refine codeAny_call_builtin oi_plain entry_oi (@check_slot (model X.prog X.w) _ _ _ "object.__init__" "object" "__init__" (.ref (s.heap.objs.size + 1)) [] [] _ oi_kind oi_split (t1.andThen (looks_mroIn I2.kIn M.top)) (NwA.oi_args_any _ [] []) ?_)
  rw [oi_run]
  exact wpAny_pure (And.intro rfl ⟨V.ref (s.heap.objs.size + 1), _, I2, rfl, hq⟩)
end
section
variable {X : Cx} {U : Wi} {Γ : List Sl} {a e o : Expr} {es : List Expr} {pos p apos : Pos} {α γ τ : Type} {ρ : Rp α} {π : Rp γ} {t : Tr τ} {cs : CsL}
theorem pe_mk0 {n : Str} {C : Addr} (M : Mk0 X.K C) (hg : Gl X n) (hm : X.mg n = some (.ref C)) (hdb : (n == ("__debug__" : Str)) = false) : PE X (.Call (.Name n p) [] [] pos) (fun _ H Q => ∀ x dx, H x = none → H dx = none → dx ≠ x → Q (.ref x) (upd (upd H dx (.own x)) x (.ins C dx []))) := by
  refine ⟨fun pins s σ H Q I h => ?_⟩
  refine wpAny_Call_Name_kw (ld_glob I hg hm ?_ hdb)
  exact PySem.W.callWith_K0 I.kIn M.kp (run_make0 M I h)
theorem x_mk0 {n : Str} {C : Addr} {q : Pl} (hq : ∀ F a dx, F a = some (.ins C dx []) → repPl cs q F (.ref a)) (M : Mk0 X.K C) (hm : X.mg n = some (.ref C)) (hg : Gl X n := by rfl) (hdb : (n == ("__debug__" : Str)) = false := by decide) : EX X U Γ (.Call (.Name n p) [] [] pos) (rPl cs) (.ok q) :=
  ⟨fun en F σ H Q s h => wE_of (pe_mk0 M hg hm hdb) fun y dx ny ndx ne => by
    have ex : Ext F H (upd F y (.ins C dx [])) (upd (upd H dx (.own y)) y (.ins C dx [])) := Ext.ins s.sub ny ndx ne
    exact h _ _ _ ex.f (s.ext ex) (hq _ y dx upd_same)⟩
theorem mkKeep {C : Addr} (h : (PK.Keep, C) ∈ cs) : ∀ F a dx, F a = some (.ins C dx []) → repPl cs .keep F (.ref a) := fun _ a dx e => ⟨C, a, dx, h, rfl, e⟩
theorem mkNothing {C : Addr} (h : (PK.Nothing, C) ∈ cs) : ∀ F a dx, F a = some (.ins C dx []) → repPl cs .nothing F (.ref a) := fun _ a dx e => ⟨C, a, dx, h, rfl, e⟩
theorem mkEverything {C : Addr} (h : (PK.Everything, C) ∈ cs) : ∀ F a dx, F a = some (.ins C dx []) → repPl cs .everything F (.ref a) := fun _ a dx e => ⟨C, a, dx, h, rfl, e⟩

/-! ### methods by the class -/
end
section
variable (P : Program) (w : World) (K : PySem.W.Frag) (mg : Str → Option Value) (base : Heap) (cs : CsL)
/-- each class has the method m, of at most that level, and it computes fm -/
structure MethD (m : Str) (L : Nat) {τ γ : Type} (t : Tr τ) (S : (τ → R γ) → Sp) (sf : τ → Pl) (fm : τ → R γ) : Prop where
  out : ∀ k C, (k, C) ∈ cs → ∃ f, Meth K C m f ∧ ((∀ x, (sf x).kd = k → fm x = .bad) ∨ ∃ fd ps lv fk, lv ≤ L ∧ Binds K fd ps [] ∧ FnOk P w K mg base (L2.CX P w) lv f fd ps (S fk) ∧ ∀ x, (sf x).kd = k → fm x = fk x)
end
section
variable {X : Cx} {U : Wi} {Γ : List Sl} {a e o : Expr} {es : List Expr} {pos p apos : Pos} {α γ τ : Type} {ρ : Rp α} {π : Rp γ} {t : Tr τ} {cs : CsL}
/-- o.m(e, ..) -/
theorem x_meth {m : Str} {L : Nat} {fm : Pl × τ → R γ} {m1 : R Pl} {m2 : R τ} {pl : Sem Bool} (M : MethD X.prog X.w X.K X.mg X.base cs m L (tc (rPl cs) t) (SpP X.mg (tc (rPl cs) t) π) (fun x => x.1) fm) (T : PlC X.K cs) (hr : Room L X.A) (tk : Takes X U.W) (hle : Le U.Γ Γ)
    (hmm : m ∉ PFs) (he : EX X U Γ o (rPl cs) m1) (ha : AX X U Γ (a :: es) t m2)
    (hst : starEach (a :: es) X.env = (false, eval a X.env) :: starEach es X.env := by rfl) (hpl : (backTo pos (starEach es X.env)).any (·.1) = false := by rfl)
    (ht : eval (.Call (.Attribute o m apos) (a :: es) [] pos) X.env = (do
      let ov ← eval o X.env
      standAt apos.atName
      let (f, first) ← holding [ov] (getMethod ov m pl)
      callWith pos f first (backTo pos (starEach (a :: es) X.env)) (backToKw pos (keywordEach [] X.env))) := by rfl) :
    EX X U Γ (.Call (.Attribute o m apos) (a :: es) [] pos) π (m1.bind fun q => m2.bind fun x => fm (q, x)) :=
  ⟨fun en F σ H Q s h => by
    have w := he.out en F σ H (fun v H1 => ∃ q F1, Same F F1 ∧ SA en Γ F1 σ H1 ∧ repPl cs q F1 v ∧ wpR (m2.bind fun x => fm (q, x)) (fun w => ∀ v F' H', Same F F' → SA en Γ F' σ H' → π.rep w F' v → Q v H') (U.ok X.mg en F)) s
      (wpR_mono (wpR_bind h) (fun q k v F1 H1 e1 s1 r1 => ⟨q, F1, e1, s1, r1, k⟩) fun _ z => z)
    intro pins s0 I
    refine PySem.W.methodCall_KW (pl := pl) (thn (w pins s0 I) fun u s1 ⟨v, H1, I1, rv, q, F1, e1, sa1, r1, h1⟩ => ?_) ht
    obtain ⟨fs, ⟨C, b, dx, hC, ev, hb⟩, hfs⟩ := rep_ob r1
    subst ev
    obtain rfl : u = Value.ref b := rv
    obtain ⟨f, hm, hd⟩ := M.out q.kd C hC
    refine getmeth_ok I1 (sa1.sub b _ hb) (T.cl _ C hC) hm (look_none (by rw [hfs]; exact no_fld hmm _)) ?_
    rcases hd with bad | ⟨fd, ps, lv, fk, hlv, hbi, G, hfk⟩
    · refine PySem.W.callWith_K (first := [.ref b]) (h₀ := X.base) I.ok.mod.kin hm.kp (thn (ha.out en F1 σ H1 (fun _ _ => False) sa1 (wpR_mono (wpR_bind h1) (fun x k => ?_) fun _ z => z.up e1) pos pins s1 I1) fun us s2 ⟨vs, H2, I2, r, q2⟩ => q2.elim) hst hpl
      rw [bad (q, x) rfl] at k
      exact k.elim
    · refine PySem.W.callWith_K (first := [.ref b]) (h₀ := X.base) I.ok.mod.kin hm.kp (thn (ha.out en F1 σ H1 (fun vs H2 => SpP X.mg (tc (rPl cs) t) π fk (.ref b :: (vs ++ [])) H2 Q (WE U.W σ)) sa1 (wpR_mono (wpR_bind h1) (fun x k vs F2 H2 e2 s2 r2 => ?_) fun _ z => z.up e1) pos pins s1 I1)
        fun us s2 ⟨vs, H2, I2, r, q2⟩ => ⟨I2.kIn, ?_⟩) hst hpl
      · rw [hfk (q, x) rfl] at k
        refine ⟨F2, (q, x), s2.sub, ⟨.ref b, vs, by rw [List.append_nil], repPl_mono e2 r1, r2⟩, wpR_mono k (fun z k v F' H' x ru => k v F' H' (e1.trans (e2.trans x.f)) (s2.ext x) ru) fun r z cls d F' H' x o => z cls d F' σ H' (e1.trans (e2.trans x.f)) ((s2.ext x).le hle) o⟩
      · exact run_fnSD (us := .ref b :: us) (vs := .ref b :: vs) G (hr.mono hlv) hbi .nil (passAt tk σ) I2 (.cons rfl r) q2⟩
/-- o.m() -/
theorem x_meth0 {m : Str} {L : Nat} {fm : Pl → R γ} {m1 : R Pl} {pl : Sem Bool} (M : MethD X.prog X.w X.K X.mg X.base cs m L (t1 (rPl cs)) (SpP X.mg (t1 (rPl cs)) π) (fun x => x) fm) (T : PlC X.K cs) (hr : Room L X.A) (tk : Takes X U.W) (hle : Le U.Γ Γ)
    (hmm : m ∉ PFs) (he : EX X U Γ o (rPl cs) m1)
    (ht : eval (.Call (.Attribute o m apos) [] [] pos) X.env = (do
      let ov ← eval o X.env
      standAt apos.atName
      let (f, first) ← holding [ov] (getMethod ov m pl)
      callWith pos f first (backTo pos (starEach [] X.env)) (backToKw pos (keywordEach [] X.env))) := by rfl) :
    EX X U Γ (.Call (.Attribute o m apos) [] [] pos) π (m1.bind fun q => fm q) :=
  ⟨fun en F σ H Q s h => by
    have w := he.out en F σ H (fun v H1 => ∃ q F1, Same F F1 ∧ SA en Γ F1 σ H1 ∧ repPl cs q F1 v ∧ wpR (fm q) (fun w => ∀ v F' H', Same F F' → SA en Γ F' σ H' → π.rep w F' v → Q v H') (U.ok X.mg en F)) s
      (wpR_mono (wpR_bind h) (fun q k v F1 H1 e1 s1 r1 => ⟨q, F1, e1, s1, r1, k⟩) fun _ z => z)
    intro pins s0 I
    refine PySem.W.methodCall_KW (pl := pl) (thn (w pins s0 I) fun u s1 ⟨v, H1, I1, rv, q, F1, e1, sa1, r1, h1⟩ => ?_) ht
    obtain ⟨fs, ⟨C, b, dx, hC, ev, hb⟩, hfs⟩ := rep_ob r1
    subst ev
    obtain rfl : u = Value.ref b := rv
    obtain ⟨f, hm, hd⟩ := M.out q.kd C hC
    refine getmeth_ok I1 (sa1.sub b _ hb) (T.cl _ C hC) hm (look_none (by rw [hfs]; exact no_fld hmm _)) ?_
    rcases hd with bad | ⟨fd, ps, lv, fk, hlv, hbi, G, hfk⟩
    · rw [bad q rfl] at h1
      exact h1.elim
    · rw [hfk q rfl] at h1
      exact PySem.W.callWith_K0 (first := [.ref b]) I1.kIn hm.kp (run_fnSD (us := [.ref b]) (vs := [.ref b]) G (hr.mono hlv) hbi .nil (passAt tk σ) I1 (.cons rfl .nil)
        ⟨F1, q, sa1.sub, ⟨.ref b, rfl, r1⟩, wpR_mono h1 (fun z k v F' H' x ru => k v F' H' (e1.trans x.f) (sa1.ext x) ru) fun r z cls d F' H' x o => z cls d F' σ H' (e1.trans x.f) ((sa1.ext x).le hle) o⟩)⟩
/-! ### isinstance -/
/-- str(n) -/
theorem dStrI : DC (fun xs H Q => ∃ i : Int, xs = [.int i] ∧ i.natAbs.log2 < 1920 ∧ Q (.str (toString i)) H) (t1 rI) rS fun i => chk (i.natAbs.log2 < 1920) ((toString i : String) : Str) := fun x vs F H Q e ⟨v, ev, r⟩ h => by
  obtain ⟨hc, k⟩ := wpR_chk h
  obtain rfl : v = .int x := r
  exact ⟨x, ev, hc, k _ F H (Ext.refl e) rfl⟩
end
section
variable {X : Cx} {U : Wi} {Γ Γ0 : List Sl} {body suite rest : List Stmt} {b0 : Stmt} {x : Str} {c : Value} {np pos pos' : Pos} {τ ω : Type} {I : ω → Kd}
/-- try: body except x: suite -/
theorem p_tryOnly {mb : R τ} {mh : Er → R τ} {k : τ → R ω} (ct : Str → Option Bool) (Γ0 : List Sl) (Γs : τ → List Sl) (hcx : X.mg x = some c) (tk : Takes X U.W) (hle : Le U.Γ Γ0) (hct : Ct X.mg ct fun C b => PySem.W.exmOne X.K (.ref C) c = some b)
    (hb : ∀ (W : WX) (pn : List (Addr × Obj)) (xe : Value → Shared → Prop), Takes (X.tr pn xe) W → PassesOwn (model X.prog X.w) X.A X.env xe → SX (X.tr pn xe) ⟨W, Γ0⟩ Γ body (fun s => .nx (Γs s)) mb)
    (hsu : ∀ (a : Addr) (oe : Obj) (cls : Value) (d : Option Addr) (pn : List (Addr × Obj)) (r : Er), Zc cls d oe → (∃ vs, oe.data = .fields vs) → (∃ C, X.mg r.cls = some (.ref C) ∧ cls = .ref C) → d = none → SX (X.suite a ((a, oe) :: pn)) U0 Γ0 (b0 :: suite) (fun s => .nx (Γs s)) (mh r))
    (hr : ∀ s, SX X U (Γs s) rest I (k s)) (hs : X.stack = X.env :: X.outer := by rfl) (hf : X.env.frame = some X.env.locals := by rfl) (hg : Gl X x := by rfl) (hdb : (x == ("__debug__" : Str)) = false := by decide) :
    SX X U Γ (.Try body [.ExceptHandler (some (.Name x np)) none (b0 :: suite) pos'] [] [] pos :: rest) I ((catchR ct mh mb).bind k) :=
  ⟨fun en F σ H D s h => wSs_of (pss_cons (ps_try_only (tb := fun W => fun D σ H => ∀ pn xe, Takes (X.tr pn xe) W → PassesOwn (model X.prog X.w) X.A X.env xe → wSs (X.tr pn xe) body D σ H)
      (ts := fun a cls d => fun D σ H => ∀ oe pn, Zc cls d oe → (∃ vs, oe.data = .fields vs) → wSs (X.suite a ((a, oe) :: pn)) (b0 :: suite) D σ H) (Wout := U.W) hs hf ⟨hg, hdb, .inl hcx⟩ tk
      (fun W pn xe tk' hp' => ⟨fun pins s σ H D I h => h pn xe tk' hp' pins s I⟩) (fun a oe cls d pn hz hf => ⟨fun pins s σ H D I h => h oe pn hz hf pins s I⟩)) wSs_pss) (by
    intro pn xe tkW hp
    refine (hb _ pn xe tkW hp).out en F σ H { D with nx := wSs X rest D } s ?_
    cases mb with
    | bad => exact h.elim
    | ok s' => exact fun F' σ' H' e sa => (hr s').out en F' σ' H' D sa (wpR_mono h (fun o z => z.up e) fun _ z => z.up e)
    | er r =>
      refine fun cls d F' σ' H' e sa ho => ?_
      obtain ⟨C, c1, c2, c3⟩ := ho
      show wOnly X.K c (fun a cls d => fun D σ H => ∀ oe pn, Zc cls d oe → (∃ vs, oe.data = .fields vs) → wSs (X.suite a ((a, oe) :: pn)) (b0 :: suite) D σ H) U.W { D with nx := wSs X rest D } cls d σ' H'
      have h' : wpR ((match ct r.cls with | some true => if r.fld.isNone = true then (mh r).calm else .bad | some false => .er r | none => .bad).bind k) (fun o => (I o).sat en F D) (U.ok X.mg en F) := h
      cases hc : ct r.cls with
      | none =>
        rw [hc] at h'
        exact h'.elim
      | some b =>
        have ex := hct.out r.cls b C hc c1
        rw [← c2] at ex
        rw [hc] at h'
        cases b with
        | false =>
          refine ⟨false, ex, (fun z => nomatch z), fun _ => ?_⟩
          have h2 : U.ok X.mg en F r := h'
          exact h2 cls d F' σ' H' e (sa.le hle) ⟨C, c1, c2, c3⟩
        | true =>
          have h3 : wpR ((if r.fld.isNone = true then (mh r).calm else .bad).bind k) (fun o => (I o).sat en F D) (U.ok X.mg en F) := h'
          by_cases hn : r.fld.isNone = true
          case neg =>
            rw [if_neg hn] at h3
            exact h3.elim
          rw [if_pos hn] at h3
          have h' := h3
          have hn' : r.fld = none := by simpa using hn
          refine ⟨true, ex, fun _ a ha oe pn hz hfl => ?_, fun z => nomatch z⟩
          refine (hsu a oe cls d pn r hz hfl ⟨C, c1, c2⟩ ?_).out en F' _ H' _ sa (wpR_mono (wpR_calm (wpR_bind h')) (fun s' q F'' σ'' H'' e' sa' => ?_) fun _ z => z.elim)
          · rw [hn'] at c3
            exact c3
          · show wSs X rest D σ'' H''
            exact (hr s').out en F'' _ H'' D sa' (wpR_mono q (fun o z => z.up (e.trans e')) fun _ z => z.up (e.trans e')))⟩
end
end Py

namespace G
open PySem PySem.Spec PyProof.Rows L2 Py
def topS (i : Nat) : Stmt := PySem.Challenge.pw_edgewide_k45_whole_turned_moved_more.main.body.getD i (.Pass ⟨0, 0, 0, 0⟩)
abbrev s_law_deal : Stmt := topS 45
theorem sc_law_deal : FnScope ["cell", "many", "number", "one", "k", "two"] ["cell", "many"] (defScope s_law_deal) := ⟨rfl, rfl, rfl, by decide +kernel, rfl, by decide +kernel, by decide +kernel⟩
abbrev s_law_take : Stmt := topS 46
theorem sc_law_take : FnScope ["pot", "many", "digit"] ["pot", "many"] (defScope s_law_take) := ⟨rfl, rfl, rfl, by decide +kernel, rfl, by decide +kernel, by decide +kernel⟩
abbrev s_law_step : Stmt := topS 48
theorem sc_law_step : FnScope ["pot", "far", "row"] ["pot"] (defScope s_law_step) := ⟨rfl, rfl, rfl, by decide +kernel, rfl, by decide +kernel, by decide +kernel⟩
abbrev s_law_piece : Stmt := topS 49
theorem sc_law_piece : FnScope ["pot", "most", "steps", "k"] ["pot", "most"] (defScope s_law_piece) := ⟨rfl, rfl, rfl, by decide +kernel, rfl, by decide +kernel, by decide +kernel⟩
abbrev s_law_form : Stmt := topS 50
theorem sc_law_form : FnScope ["pot", "depth", "most", "way", "one", "step", "piece"] ["pot", "depth", "most"] (defScope s_law_form) := ⟨rfl, rfl, rfl, by decide +kernel, rfl, by decide +kernel, by decide +kernel⟩
abbrev s_law_great : Stmt := topS 58
abbrev N_law_great : List Str := ["pot", "form", "k"]
theorem sc_law_great : FnScope ["pot", "form", "k"] ["pot"] (defScope s_law_great) := ⟨rfl, rfl, rfl, by decide +kernel, rfl, by decide +kernel, by decide +kernel⟩
abbrev s_law_plan : Stmt := topS 51
theorem sc_law_plan : FnScope ["form"] ["form"] (defScope s_law_plan) := ⟨rfl, rfl, rfl, by decide +kernel, rfl, by decide +kernel, by decide +kernel⟩
abbrev s_law_shape : Stmt := topS 47
theorem sc_law_shape : FnScope ["pot", "many", "wide", "row", "column", "cells", "k", "place"] ["pot"] (defScope s_law_shape) := ⟨rfl, rfl, rfl, by decide +kernel, rfl, by decide +kernel, by decide +kernel⟩
abbrev slook_at_turn : Stmt := topS 18
theorem sclook_at_turn : FnScope ["turn"] ["turn"] (defScope slook_at_turn) := ⟨rfl, rfl, rfl, by decide +kernel, rfl, by decide +kernel, by decide +kernel⟩
abbrev sKeep_by_turn : Stmt := inClass (topS 35) 1
theorem scKeep_by_turn : FnScope ["self", "turn"] ["self", "turn"] (defScope sKeep_by_turn) := ⟨rfl, rfl, rfl, by decide +kernel, rfl, by decide +kernel, by decide +kernel⟩
abbrev sNothing_by_turn : Stmt := inClass (topS 36) 2
theorem scNothing_by_turn : FnScope ["self", "turn"] ["self", "turn"] (defScope sNothing_by_turn) := ⟨rfl, rfl, rfl, by decide +kernel, rfl, by decide +kernel, by decide +kernel⟩
abbrev sEverything_by_turn : Stmt := inClass (topS 37) 2
theorem scEverything_by_turn : FnScope ["self", "turn"] ["self", "turn"] (defScope sEverything_by_turn) := ⟨rfl, rfl, rfl, by decide +kernel, rfl, by decide +kernel, by decide +kernel⟩
abbrev sturned_cell : Stmt := topS 19
theorem scturned_cell : FnScope ["cell", "turn", "quarter", "row", "column"] ["cell", "turn"] (defScope sturned_cell) := ⟨rfl, rfl, rfl, by decide +kernel, rfl, by decide +kernel, by decide +kernel⟩
abbrev sMove_by_turn : Stmt := inClass (topS 38) 3
theorem scMove_by_turn : FnScope ["self", "turn"] ["self", "turn"] (defScope sMove_by_turn) := ⟨rfl, rfl, rfl, by decide +kernel, rfl, by decide +kernel, by decide +kernel⟩
abbrev srising : Stmt := topS 7
theorem scrising : FnScope ["cells"] ["cells"] (defScope srising) := ⟨rfl, rfl, rfl, by decide +kernel, rfl, by decide +kernel, by decide +kernel⟩
abbrev sturned_piece : Stmt := topS 22
abbrev Nturned_piece : List Str := ["piece", "turn", "step"]
theorem scturned_piece : FnScope ["piece", "turn", "step"] ["piece", "turn"] (defScope sturned_piece) := ⟨rfl, rfl, rfl, by decide +kernel, rfl, by decide +kernel, by decide +kernel⟩
abbrev sEat_by_turn : Stmt := inClass (topS 39) 3
theorem scEat_by_turn : FnScope ["self", "turn"] ["self", "turn"] (defScope sEat_by_turn) := ⟨rfl, rfl, rfl, by decide +kernel, rfl, by decide +kernel, by decide +kernel⟩
abbrev sGrow_by_turn : Stmt := inClass (topS 40) 3
theorem scGrow_by_turn : FnScope ["self", "turn"] ["self", "turn"] (defScope sGrow_by_turn) := ⟨rfl, rfl, rfl, by decide +kernel, rfl, by decide +kernel, by decide +kernel⟩
abbrev sBoth_by_turn : Stmt := inClass (topS 41) 3
theorem scBoth_by_turn : FnScope ["self", "turn"] ["self", "turn"] (defScope sBoth_by_turn) := ⟨rfl, rfl, rfl, by decide +kernel, rfl, by decide +kernel, by decide +kernel⟩
abbrev sEither_by_turn : Stmt := inClass (topS 42) 3
theorem scEither_by_turn : FnScope ["self", "turn"] ["self", "turn"] (defScope sEither_by_turn) := ⟨rfl, rfl, rfl, by decide +kernel, rfl, by decide +kernel, by decide +kernel⟩
abbrev sKeep_words : Stmt := inClass (topS 35) 4
theorem scKeep_words : FnScope ["self"] ["self"] (defScope sKeep_words) := ⟨rfl, rfl, rfl, by decide +kernel, rfl, by decide +kernel, by decide +kernel⟩
abbrev sNothing_words : Stmt := inClass (topS 36) 3
theorem scNothing_words : FnScope ["self"] ["self"] (defScope sNothing_words) := ⟨rfl, rfl, rfl, by decide +kernel, rfl, by decide +kernel, by decide +kernel⟩
abbrev sEverything_words : Stmt := inClass (topS 37) 3
theorem scEverything_words : FnScope ["self"] ["self"] (defScope sEverything_words) := ⟨rfl, rfl, rfl, by decide +kernel, rfl, by decide +kernel, by decide +kernel⟩
abbrev sstep_words : Stmt := topS 32
theorem scstep_words : FnScope ["steps", "words", "row", "column"] ["steps"] (defScope sstep_words) := ⟨rfl, rfl, rfl, by decide +kernel, rfl, by decide +kernel, by decide +kernel⟩
abbrev sMove_words : Stmt := inClass (topS 38) 7
theorem scMove_words : FnScope ["self"] ["self"] (defScope sMove_words) := ⟨rfl, rfl, rfl, by decide +kernel, rfl, by decide +kernel, by decide +kernel⟩
abbrev sEat_words : Stmt := inClass (topS 39) 7
theorem scEat_words : FnScope ["self"] ["self"] (defScope sEat_words) := ⟨rfl, rfl, rfl, by decide +kernel, rfl, by decide +kernel, by decide +kernel⟩
abbrev sGrow_words : Stmt := inClass (topS 40) 7
theorem scGrow_words : FnScope ["self"] ["self"] (defScope sGrow_words) := ⟨rfl, rfl, rfl, by decide +kernel, rfl, by decide +kernel, by decide +kernel⟩
abbrev sBoth_words : Stmt := inClass (topS 41) 7
theorem scBoth_words : FnScope ["self"] ["self"] (defScope sBoth_words) := ⟨rfl, rfl, rfl, by decide +kernel, rfl, by decide +kernel, by decide +kernel⟩
abbrev sEither_words : Stmt := inClass (topS 42) 7
theorem scEither_words : FnScope ["self"] ["self"] (defScope sEither_words) := ⟨rfl, rfl, rfl, by decide +kernel, rfl, by decide +kernel, by decide +kernel⟩
abbrev s_law_turned_cell : Stmt := topS 55
theorem sc_law_turned_cell : FnScope ["cell", "turn", "row", "column"] ["cell", "turn"] (defScope s_law_turned_cell) := ⟨rfl, rfl, rfl, by decide +kernel, rfl, by decide +kernel, by decide +kernel⟩
abbrev s_law_turned_cells : Stmt := topS 56
abbrev N_law_turned_cells : List Str := ["cells", "turn", "cell"]
theorem sc_law_turned_cells : FnScope ["cells", "turn", "cell"] ["cells", "turn"] (defScope s_law_turned_cells) := ⟨rfl, rfl, rfl, by decide +kernel, rfl, by decide +kernel, by decide +kernel⟩
abbrev s_law_turned : Stmt := topS 57
theorem sc_law_turned : FnScope ["form", "turn"] ["form", "turn"] (defScope s_law_turned) := ⟨rfl, rfl, rfl, by decide +kernel, rfl, by decide +kernel, by decide +kernel⟩
abbrev s_law_parts : Stmt := topS 54
theorem sc_law_parts : FnScope ["form"] ["form"] (defScope s_law_parts) := ⟨rfl, rfl, rfl, by decide +kernel, rfl, by decide +kernel, by decide +kernel⟩
abbrev s_law_words : Stmt := topS 53
theorem sc_law_words : FnScope ["form", "words", "steps", "part", "row", "column"] ["form"] (defScope s_law_words) := ⟨rfl, rfl, rfl, by decide +kernel, rfl, by decide +kernel, by decide +kernel⟩
abbrev s_law_same : Stmt := topS 52
abbrev N_law_same : List Str := ["found", "due", "one", "other"]
theorem sc_law_same : FnScope ["found", "due", "one", "other"] ["found", "due"] (defScope s_law_same) := ⟨rfl, rfl, rfl, by decide +kernel, rfl, by decide +kernel, by decide +kernel⟩
abbrev sPlan_made : Stmt := inClass (topS 34) 0
theorem scPlan_made : FnScope ["self", "shape"] ["self", "shape"] (defScope sPlan_made) := ⟨rfl, rfl, rfl, by decide +kernel, rfl, by decide +kernel, by decide +kernel⟩
abbrev sNothing_made : Stmt := inClass (topS 36) 0
theorem scNothing_made : FnScope ["self", "shape"] ["self", "shape"] (defScope sNothing_made) := ⟨rfl, rfl, rfl, by decide +kernel, rfl, by decide +kernel, by decide +kernel⟩
abbrev sEverything_made : Stmt := inClass (topS 37) 0
theorem scEverything_made : FnScope ["self", "shape"] ["self", "shape"] (defScope sEverything_made) := ⟨rfl, rfl, rfl, by decide +kernel, rfl, by decide +kernel, by decide +kernel⟩
abbrev smoved_cell : Stmt := topS 12
theorem scmoved_cell : FnScope ["cell", "step"] ["cell", "step"] (defScope smoved_cell) := ⟨rfl, rfl, rfl, by decide +kernel, rfl, by decide +kernel, by decide +kernel⟩
abbrev smoved : Stmt := topS 14
abbrev Nmoved : List Str := ["shape", "step", "cells", "rest", "cell"]
theorem scmoved : FnScope ["shape", "step", "cells", "rest", "cell"] ["shape", "step"] (defScope smoved) := ⟨rfl, rfl, rfl, by decide +kernel, rfl, by decide +kernel, by decide +kernel⟩
abbrev sMove_made : Stmt := inClass (topS 38) 1
theorem scMove_made : FnScope ["self", "shape"] ["self", "shape"] (defScope sMove_made) := ⟨rfl, rfl, rfl, by decide +kernel, rfl, by decide +kernel, by decide +kernel⟩
abbrev smirrored : Stmt := topS 21
abbrev Nmirrored : List Str := ["piece", "row", "column"]
theorem scmirrored : FnScope ["piece", "row", "column"] ["piece"] (defScope smirrored) := ⟨rfl, rfl, rfl, by decide +kernel, rfl, by decide +kernel, by decide +kernel⟩
abbrev slies_on : Stmt := topS 23
abbrev Nlies_on : List Str := ["piece", "cell", "step"]
theorem sclies_on : FnScope ["piece", "cell", "step"] ["piece", "cell"] (defScope slies_on) := ⟨rfl, rfl, rfl, by decide +kernel, rfl, by decide +kernel, by decide +kernel⟩
abbrev sreached : Stmt := topS 25
theorem screached : FnScope ["cells", "piece", "told", "cell"] ["cells", "piece"] (defScope sreached) := ⟨rfl, rfl, rfl, by decide +kernel, rfl, by decide +kernel, by decide +kernel⟩
abbrev sless_cell : Stmt := topS 13
theorem scless_cell : FnScope ["cell", "step"] ["cell", "step"] (defScope sless_cell) := ⟨rfl, rfl, rfl, by decide +kernel, rfl, by decide +kernel, by decide +kernel⟩
abbrev skept_at : Stmt := topS 26
abbrev Nkept_at : List Str := ["cells", "piece", "held", "cell", "told", "place", "there"]
theorem sckept_at : FnScope ["cells", "piece", "held", "cell", "told", "place", "there"] ["cells", "piece"] (defScope skept_at) := ⟨rfl, rfl, rfl, by decide +kernel, rfl, by decide +kernel, by decide +kernel⟩
abbrev seaten : Stmt := topS 28
theorem sceaten : FnScope ["shape", "piece", "cells", "rest"] ["shape", "piece"] (defScope seaten) := ⟨rfl, rfl, rfl, by decide +kernel, rfl, by decide +kernel, by decide +kernel⟩
abbrev sEat_made : Stmt := inClass (topS 39) 1
theorem scEat_made : FnScope ["self", "shape"] ["self", "shape"] (defScope sEat_made) := ⟨rfl, rfl, rfl, by decide +kernel, rfl, by decide +kernel, by decide +kernel⟩
abbrev sgrown : Stmt := topS 27
theorem scgrown : FnScope ["shape", "piece", "cells", "rest"] ["shape", "piece"] (defScope sgrown) := ⟨rfl, rfl, rfl, by decide +kernel, rfl, by decide +kernel, by decide +kernel⟩
abbrev sGrow_made : Stmt := inClass (topS 40) 1
theorem scGrow_made : FnScope ["self", "shape"] ["self", "shape"] (defScope sGrow_made) := ⟨rfl, rfl, rfl, by decide +kernel, rfl, by decide +kernel, by decide +kernel⟩
abbrev sonly_in : Stmt := topS 8
abbrev Nonly_in : List Str := ["one", "other", "seen", "cell"]
theorem sconly_in : FnScope ["one", "other", "seen", "cell"] ["one", "other"] (defScope sonly_in) := ⟨rfl, rfl, rfl, by decide +kernel, rfl, by decide +kernel, by decide +kernel⟩
abbrev sboth : Stmt := topS 10
theorem scboth : FnScope ["one", "other"] ["one", "other"] (defScope sboth) := ⟨rfl, rfl, rfl, by decide +kernel, rfl, by decide +kernel, by decide +kernel⟩
abbrev sBoth_made : Stmt := inClass (topS 41) 1
theorem scBoth_made : FnScope ["self", "shape"] ["self", "shape"] (defScope sBoth_made) := ⟨rfl, rfl, rfl, by decide +kernel, rfl, by decide +kernel, by decide +kernel⟩
abbrev soutside : Stmt := topS 9
theorem scoutside : FnScope ["shape", "cells", "rest"] ["shape"] (defScope soutside) := ⟨rfl, rfl, rfl, by decide +kernel, rfl, by decide +kernel, by decide +kernel⟩
abbrev seither : Stmt := topS 11
theorem sceither : FnScope ["one", "other"] ["one", "other"] (defScope seither) := ⟨rfl, rfl, rfl, by decide +kernel, rfl, by decide +kernel, by decide +kernel⟩
abbrev sEither_made : Stmt := inClass (topS 42) 1
theorem scEither_made : FnScope ["self", "shape"] ["self", "shape"] (defScope sEither_made) := ⟨rfl, rfl, rfl, by decide +kernel, rfl, by decide +kernel, by decide +kernel⟩
abbrev sPlan_done : Stmt := inClass (topS 34) 1
theorem scPlan_done : FnScope ["self", "shape", "told"] ["self", "shape"] (defScope sPlan_done) := ⟨rfl, rfl, rfl, by decide +kernel, rfl, by decide +kernel, by decide +kernel⟩
abbrev s_law_done : Stmt := topS 59
theorem sc_law_done : FnScope ["plan", "shape", "found"] ["plan", "shape"] (defScope s_law_done) := ⟨rfl, rfl, rfl, by decide +kernel, rfl, by decide +kernel, by decide +kernel⟩
abbrev s_law_turns : Stmt := topS 60
theorem sc_law_turns : FnScope ["form", "plan", "shapes", "turn", "other", "shape", "due", "found"] ["form", "plan", "shapes", "turn"] (defScope s_law_turns) := ⟨rfl, rfl, rfl, by decide +kernel, rfl, by decide +kernel, by decide +kernel⟩
abbrev s_law_moves : Stmt := topS 61
abbrev N_law_moves : List Str := ["plan", "shape", "step", "led", "due", "found", "row", "column"]
theorem sc_law_moves : FnScope ["plan", "shape", "step", "led", "due", "found", "row", "column"] ["plan", "shape", "step"] (defScope s_law_moves) := ⟨rfl, rfl, rfl, by decide +kernel, rfl, by decide +kernel, by decide +kernel⟩
abbrev s_law_noted : Stmt := topS 62
theorem sc_law_noted : FnScope ["cells", "known", "cell"] ["cells"] (defScope s_law_noted) := ⟨rfl, rfl, rfl, by decide +kernel, rfl, by decide +kernel, by decide +kernel⟩
abbrev s_law_more : Stmt := topS 63
abbrev N_law_more : List Str := ["plan", "shape", "other", "cells", "less", "more", "known", "cell"]
theorem sc_law_more : FnScope ["plan", "shape", "other", "cells", "less", "more", "known", "cell"] ["plan", "shape", "other"] (defScope s_law_more) := ⟨rfl, rfl, rfl, by decide +kernel, rfl, by decide +kernel, by decide +kernel⟩
abbrev s_law_refused : Stmt := topS 64
theorem sc_law_refused : FnScope ["plan", "turn", "found", "e"] ["plan", "turn"] (defScope s_law_refused) := ⟨rfl, rfl, rfl, by decide +kernel, rfl, by decide +kernel, by decide +kernel⟩
abbrev slaw : Stmt := topS 65
theorem sclaw : FnScope ["script", "cell", "pot", "form", "plan", "one", "other", "turn", "bad"] ["script"] (defScope slaw) := ⟨rfl, rfl, rfl, by decide +kernel, rfl, by decide +kernel, by decide +kernel⟩
abbrev sMove___init__ : Stmt := inClass (topS 38) 0
theorem scMove___init__ : FnScope ["self", "step", "plan"] ["self", "step", "plan"] (defScope sMove___init__) := ⟨rfl, rfl, rfl, by decide +kernel, rfl, by decide +kernel, by decide +kernel⟩
abbrev sEat___init__ : Stmt := inClass (topS 39) 0
theorem scEat___init__ : FnScope ["self", "piece", "plan"] ["self", "piece", "plan"] (defScope sEat___init__) := ⟨rfl, rfl, rfl, by decide +kernel, rfl, by decide +kernel, by decide +kernel⟩
abbrev sGrow___init__ : Stmt := inClass (topS 40) 0
theorem scGrow___init__ : FnScope ["self", "piece", "plan"] ["self", "piece", "plan"] (defScope sGrow___init__) := ⟨rfl, rfl, rfl, by decide +kernel, rfl, by decide +kernel, by decide +kernel⟩
abbrev sBoth___init__ : Stmt := inClass (topS 41) 0
theorem scBoth___init__ : FnScope ["self", "one", "other"] ["self", "one", "other"] (defScope sBoth___init__) := ⟨rfl, rfl, rfl, by decide +kernel, rfl, by decide +kernel, by decide +kernel⟩
abbrev sEither___init__ : Stmt := inClass (topS 42) 0
theorem scEither___init__ : FnScope ["self", "one", "other"] ["self", "one", "other"] (defScope sEither___init__) := ⟨rfl, rfl, rfl, by decide +kernel, rfl, by decide +kernel, by decide +kernel⟩
/-- where the defs and the classes lie -/
structure Adr where
  f_law_deal : Addr
  f_law_take : Addr
  f_law_step : Addr
  f_law_piece : Addr
  f_law_form : Addr
  f_law_great : Addr
  f_law_plan : Addr
  f_law_shape : Addr
  flook_at_turn : Addr
  fKeep_by_turn : Addr
  fNothing_by_turn : Addr
  fEverything_by_turn : Addr
  fturned_cell : Addr
  fMove_by_turn : Addr
  frising : Addr
  fturned_piece : Addr
  fEat_by_turn : Addr
  fGrow_by_turn : Addr
  fBoth_by_turn : Addr
  fEither_by_turn : Addr
  fKeep_words : Addr
  fNothing_words : Addr
  fEverything_words : Addr
  fstep_words : Addr
  fMove_words : Addr
  fEat_words : Addr
  fGrow_words : Addr
  fBoth_words : Addr
  fEither_words : Addr
  f_law_turned_cell : Addr
  f_law_turned_cells : Addr
  f_law_turned : Addr
  f_law_parts : Addr
  f_law_words : Addr
  f_law_same : Addr
  fPlan_made : Addr
  fNothing_made : Addr
  fEverything_made : Addr
  fmoved_cell : Addr
  fmoved : Addr
  fMove_made : Addr
  fmirrored : Addr
  flies_on : Addr
  freached : Addr
  fless_cell : Addr
  fkept_at : Addr
  featen : Addr
  fEat_made : Addr
  fgrown : Addr
  fGrow_made : Addr
  fonly_in : Addr
  fboth : Addr
  fBoth_made : Addr
  foutside : Addr
  feither : Addr
  fEither_made : Addr
  fPlan_done : Addr
  f_law_done : Addr
  f_law_turns : Addr
  f_law_moves : Addr
  f_law_noted : Addr
  f_law_more : Addr
  f_law_refused : Addr
  flaw : Addr
  fMove___init__ : Addr
  fEat___init__ : Addr
  fGrow___init__ : Addr
  fBoth___init__ : Addr
  fEither___init__ : Addr
  d_law_deal : FuncData
  d_law_take : FuncData
  d_law_step : FuncData
  d_law_piece : FuncData
  d_law_form : FuncData
  d_law_great : FuncData
  d_law_plan : FuncData
  d_law_shape : FuncData
  dlook_at_turn : FuncData
  dKeep_by_turn : FuncData
  dNothing_by_turn : FuncData
  dEverything_by_turn : FuncData
  dturned_cell : FuncData
  dMove_by_turn : FuncData
  drising : FuncData
  dturned_piece : FuncData
  dEat_by_turn : FuncData
  dGrow_by_turn : FuncData
  dBoth_by_turn : FuncData
  dEither_by_turn : FuncData
  dKeep_words : FuncData
  dNothing_words : FuncData
  dEverything_words : FuncData
  dstep_words : FuncData
  dMove_words : FuncData
  dEat_words : FuncData
  dGrow_words : FuncData
  dBoth_words : FuncData
  dEither_words : FuncData
  d_law_turned_cell : FuncData
  d_law_turned_cells : FuncData
  d_law_turned : FuncData
  d_law_parts : FuncData
  d_law_words : FuncData
  d_law_same : FuncData
  dPlan_made : FuncData
  dNothing_made : FuncData
  dEverything_made : FuncData
  dmoved_cell : FuncData
  dmoved : FuncData
  dMove_made : FuncData
  dmirrored : FuncData
  dlies_on : FuncData
  dreached : FuncData
  dless_cell : FuncData
  dkept_at : FuncData
  deaten : FuncData
  dEat_made : FuncData
  dgrown : FuncData
  dGrow_made : FuncData
  donly_in : FuncData
  dboth : FuncData
  dBoth_made : FuncData
  doutside : FuncData
  deither : FuncData
  dEither_made : FuncData
  dPlan_done : FuncData
  d_law_done : FuncData
  d_law_turns : FuncData
  d_law_moves : FuncData
  d_law_noted : FuncData
  d_law_more : FuncData
  d_law_refused : FuncData
  dlaw : FuncData
  dMove___init__ : FuncData
  dEat___init__ : FuncData
  dGrow___init__ : FuncData
  dBoth___init__ : FuncData
  dEither___init__ : FuncData
  c_BadCell : Addr
  c_BadTurn : Addr
  c_Both : Addr
  c_Eat : Addr
  c_Either : Addr
  c_Everything : Addr
  c_Grow : Addr
  c_Keep : Addr
  c_MossError : Addr
  c_Move : Addr
  c_Nothing : Addr
  c_TooMany : Addr
abbrev csl (Ad : Adr) : CsL := [(.Keep, Ad.c_Keep), (.Nothing, Ad.c_Nothing), (.Everything, Ad.c_Everything), (.Move, Ad.c_Move), (.Eat, Ad.c_Eat), (.Grow, Ad.c_Grow), (.Both, Ad.c_Both), (.Either, Ad.c_Either)]
/-! ### the mirrors -/
def m_law_deal (v_cell : Int) (v_many : Int) : R Int :=
  if (decide ((1000000000000000000 : Int) ≤ v_cell)) = true then R.ok (v_cell - (1000000000000000000 : Int)) else let number_5024 : Int := (0 : Int); let one_5025 : Int := ((v_cell % (2147483647 : Int)) + (16807 : Int)); (chk (-(2 ^ 62) ≤ v_many ∧ v_many < 2 ^ 62) (rangeI 0 v_many)).bind fun x_5036 => (forR (τ := (Int × Int)) (fun s_5026 x_5027 => ((((chk (CMulW ((7919 : Int) * x_5027) x_5027) (((7919 : Int) * x_5027) * x_5027)).bind fun x_5028 => R.ok ((s_5026.2 * (48271 : Int)) + x_5028)).bind fun x_5029 => R.ok (x_5029 + (104729 : Int))).bind fun x_5030 => R.ok (x_5030 % (2147483647 : Int))).bind fun one_5031 => ((chk (CMulW one_5031 one_5031) (one_5031 * one_5031)).bind fun x_5032 => R.ok (x_5032 % (2147483629 : Int))).bind fun two_5033 => let number_5034 : Int := ((s_5026.1 * (65536 : Int)) + ((two_5033 / (512 : Int)) % (65536 : Int))); R.ok (number_5034, one_5031)) x_5036 (number_5024, one_5025)).bind fun s_5035 => R.ok s_5035.1
def m_law_take (v_pot : List Int) (v_many : Int) : R (Int × List Int) :=
  ((ofOpt (atI v_pot (0 : Int))).bind fun x_5043 => chk (0 < v_many) (x_5043 % v_many)).bind fun digit_5044 => ((ofOpt (atI v_pot (0 : Int))).bind fun x_5045 => chk (CDivW x_5045 v_many) (x_5045 / v_many)).bind fun v_5046 => (chk (0 < v_pot.length) ()).bind fun _ => R.ok (digit_5044, (v_pot.set 0 v_5046))
def m_law_step (v_pot : List Int)  : R ((Int × Int) × List Int) :=
  ((m_law_take v_pot (4 : Int)).calm.bind fun z_5065 => (ofOpt (atI [(1 : Int), (2 : Int), (3 : Int), (1000000 : Int)] z_5065.1)).bind fun x_5066 => R.ok (x_5066, z_5065.2)).bind fun far_5058 => ((m_law_take far_5058.2 (((2 : Int) * far_5058.1) + (1 : Int))).calm.bind fun z_5063 => R.ok ((z_5063.1 - far_5058.1), z_5063.2)).bind fun row_5059 => (m_law_take row_5059.2 (((2 : Int) * far_5058.1) + (1 : Int))).calm.bind fun z_5060 => R.ok ((row_5059.1, (z_5060.1 - far_5058.1)), z_5060.2)
def m_law_piece (v_pot : List Int) (v_most : Int) : R ((List (Int × Int)) × List Int) :=
  let steps_5084 : List (Int × Int) := ([] : List (Int × Int)); ((m_law_take v_pot v_most).calm.bind fun z_5094 => (chk (-(2 ^ 62) ≤ ((1 : Int) + z_5094.1) ∧ ((1 : Int) + z_5094.1) < 2 ^ 62) (rangeI 0 ((1 : Int) + z_5094.1), z_5094.2)).bind fun x_5095 => R.ok (x_5095.1, x_5095.2)).bind fun w_5091 => (forR (τ := ((List Int) × (List (Int × Int)))) (fun s_5085 x_5086 => (m_law_step s_5085.1).calm.bind fun w_5087 => (chk (s_5085.2.length < sizeLine) ()).bind fun _ => R.ok (w_5087.2, (s_5085.2 ++ [w_5087.1]))) w_5091.1 (w_5091.2, steps_5084)).bind fun s_5088 => ((sortSet s_5088.2).bind fun x_5089 => R.ok x_5089).bind fun x_5090 => R.ok (x_5090, s_5088.1)
def m_law_form : Nat → List Int → Int → Int → R (Dy × List Int)
  | 0, _, _, _ => R.bad
  | fu + 1, v_pot, v_depth, v_most => (m_law_take v_pot (10 : Int)).calm.bind fun way_5109 => if ((decide (v_depth = (0 : Int))) || (decide ((7 : Int) < way_5109.1))) = true then (m_law_take way_5109.2 (5 : Int)).calm.bind fun z_5110 => (ofOpt (atI [("keep" : Str), ("keep" : Str), ("keep" : Str), ("none" : Str), ("all" : Str)] z_5110.1)).bind fun x_5111 => R.ok (((fun x => Dy.tup [Dy.str x]) x_5111), z_5110.2) else if (decide (way_5109.1 < (2 : Int))) = true then (m_law_step way_5109.2).calm.bind fun step_5113 => (m_law_form fu step_5113.2 (v_depth - (1 : Int)) v_most).calm.bind fun z_5114 => R.ok (((fun x => Dy.tup [Dy.str x.1, (fun x => Dy.tup [Dy.int x.1, Dy.int x.2]) x.2.1, (fun d => d) x.2.2]) (("move" : Str), step_5113.1, z_5114.1)), z_5114.2) else if (decide (way_5109.1 < (6 : Int))) = true then (m_law_piece way_5109.2 v_most).calm.bind fun piece_5118 => (ofOpt (atI [("eat" : Str), ("grow" : Str)] (way_5109.1 % (2 : Int)))).bind fun x_5119 => (m_law_form fu piece_5118.2 (v_depth - (1 : Int)) v_most).calm.bind fun z_5120 => R.ok (((fun x => Dy.tup [Dy.str x.1, (fun xs => Dy.tup (List.map (fun x => Dy.tup [Dy.int x.1, Dy.int x.2]) xs)) x.2.1, (fun d => d) x.2.2]) (x_5119, piece_5118.1, z_5120.1)), z_5120.2) else (m_law_form fu way_5109.2 (v_depth - (1 : Int)) v_most).calm.bind fun one_5124 => (ofOpt (atI [("both" : Str), ("either" : Str)] (way_5109.1 % (2 : Int)))).bind fun x_5125 => (m_law_form fu one_5124.2 (v_depth - (1 : Int)) v_most).calm.bind fun z_5126 => R.ok (((fun x => Dy.tup [Dy.str x.1, (fun d => d) x.2.1, (fun d => d) x.2.2]) (x_5125, one_5124.1, z_5126.1)), z_5126.2)
def m_law_great (v_pot : List Int)  : R (Dy × List Int) :=
  ((((((mapR (fun y_5155 => R.ok ((0 : Int), ((1000 : Int) * y_5155))) (rangeI 0 (12 : Int))).bind fun ys => chk (ys.length ≤ sizeLine) ys).bind fun x_5156 => R.ok x_5156).bind fun x_5157 => R.ok (x_5157, ("keep" : Str))).bind fun x_5158 => R.ok (("grow" : Str), x_5158)).bind fun x_5159 => R.ok ((fun x => Dy.tup [Dy.str x.1, (fun xs => Dy.tup (List.map (fun x => Dy.tup [Dy.int x.1, Dy.int x.2]) xs)) x.2.1, (fun x => Dy.tup [Dy.str x]) x.2.2]) x_5159)).bind fun form_5160 => ((m_law_take v_pot (2 : Int)).calm.bind fun z_5167 => (ofOpt (atI [("grow" : Str), ("eat" : Str)] z_5167.1)).bind fun x_5168 => (((mapR (fun y_5169 => R.ok (((40 : Int) * y_5169), (0 : Int))) (rangeI 0 (12 : Int))).bind fun ys => chk (ys.length ≤ sizeLine) ys).bind fun x_5170 => R.ok x_5170).bind fun x_5171 => R.ok (((fun x => Dy.tup [Dy.str x.1, (fun xs => Dy.tup (List.map (fun x => Dy.tup [Dy.int x.1, Dy.int x.2]) xs)) x.2.1, (fun d => d) x.2.2]) (x_5168, x_5171, form_5160)), z_5167.2)).bind fun form_5163 => (m_law_take form_5163.2 (3 : Int)).calm.bind fun z_5164 => (ofOpt (atI [form_5163.1, ((fun x => Dy.tup [Dy.str x.1, (fun x => Dy.tup [Dy.str x]) x.2.1, (fun d => d) x.2.2]) (("either" : Str), ("keep" : Str), form_5163.1)), ((fun x => Dy.tup [Dy.str x.1, (fun d => d) x.2.1, (fun x => Dy.tup [Dy.str x]) x.2.2]) (("both" : Str), form_5163.1, ("none" : Str)))] z_5164.1)).bind fun x_5165 => R.ok (x_5165, z_5164.2)
def m_law_plan : Nat → Dy → R Pl
  | 0, _ => R.bad
  | fu + 1, v_form => ((ofOpt (Dy.at v_form (0 : Int))).bind fun x_5218 => chk (Dy.shp x_5218 = true ∧ Dy.shp (Dy.str ("keep" : Str)) = true) (Dy.eqv x_5218 (Dy.str ("keep" : Str)))).bind fun x_5256 => if x_5256 = true then R.ok Pl.keep else ((ofOpt (Dy.at v_form (0 : Int))).bind fun x_5219 => chk (Dy.shp x_5219 = true ∧ Dy.shp (Dy.str ("none" : Str)) = true) (Dy.eqv x_5219 (Dy.str ("none" : Str)))).bind fun x_5255 => if x_5255 = true then R.ok Pl.nothing else ((ofOpt (Dy.at v_form (0 : Int))).bind fun x_5220 => chk (Dy.shp x_5220 = true ∧ Dy.shp (Dy.str ("all" : Str)) = true) (Dy.eqv x_5220 (Dy.str ("all" : Str)))).bind fun x_5254 => if x_5254 = true then R.ok Pl.everything else ((ofOpt (Dy.at v_form (0 : Int))).bind fun x_5221 => chk (Dy.shp x_5221 = true ∧ Dy.shp (Dy.str ("move" : Str)) = true) (Dy.eqv x_5221 (Dy.str ("move" : Str)))).bind fun x_5253 => if x_5253 = true then (((ofOpt (Dy.at v_form (1 : Int))).bind fun x_5222 => ofOpt ((asTu (asc asI (as1 asI))) x_5222)).bind fun x_5224 => ((ofOpt (Dy.at v_form (2 : Int))).bind fun x_5223 => m_law_plan fu x_5223).bind fun x_5225 => R.ok (x_5224, x_5225)).bind fun x_5226 => R.ok (Pl.move x_5226.1 x_5226.2) else ((ofOpt (Dy.at v_form (0 : Int))).bind fun x_5227 => chk (Dy.shp x_5227 = true ∧ Dy.shp (Dy.str ("eat" : Str)) = true) (Dy.eqv x_5227 (Dy.str ("eat" : Str)))).bind fun x_5252 => if x_5252 = true then (((ofOpt (Dy.at v_form (1 : Int))).bind fun x_5228 => ofOpt ((asT (asTu (asc asI (as1 asI)))) x_5228)).bind fun x_5230 => ((ofOpt (Dy.at v_form (2 : Int))).bind fun x_5229 => m_law_plan fu x_5229).bind fun x_5231 => R.ok (x_5230, x_5231)).bind fun x_5232 => R.ok (Pl.eat x_5232.1 x_5232.2) else ((ofOpt (Dy.at v_form (0 : Int))).bind fun x_5233 => chk (Dy.shp x_5233 = true ∧ Dy.shp (Dy.str ("grow" : Str)) = true) (Dy.eqv x_5233 (Dy.str ("grow" : Str)))).bind fun x_5251 => if x_5251 = true then (((ofOpt (Dy.at v_form (1 : Int))).bind fun x_5234 => ofOpt ((asT (asTu (asc asI (as1 asI)))) x_5234)).bind fun x_5236 => ((ofOpt (Dy.at v_form (2 : Int))).bind fun x_5235 => m_law_plan fu x_5235).bind fun x_5237 => R.ok (x_5236, x_5237)).bind fun x_5238 => R.ok (Pl.grow x_5238.1 x_5238.2) else ((ofOpt (Dy.at v_form (0 : Int))).bind fun x_5239 => chk (Dy.shp x_5239 = true ∧ Dy.shp (Dy.str ("both" : Str)) = true) (Dy.eqv x_5239 (Dy.str ("both" : Str)))).bind fun x_5250 => if x_5250 = true then (((ofOpt (Dy.at v_form (1 : Int))).bind fun x_5240 => m_law_plan fu x_5240).bind fun x_5242 => ((ofOpt (Dy.at v_form (2 : Int))).bind fun x_5241 => m_law_plan fu x_5241).bind fun x_5243 => R.ok (x_5242, x_5243)).bind fun x_5244 => R.ok (Pl.both x_5244.1 x_5244.2) else (((ofOpt (Dy.at v_form (1 : Int))).bind fun x_5245 => m_law_plan fu x_5245).bind fun x_5247 => ((ofOpt (Dy.at v_form (2 : Int))).bind fun x_5246 => m_law_plan fu x_5246).bind fun x_5248 => R.ok (x_5247, x_5248)).bind fun x_5249 => R.ok (Pl.either x_5249.1 x_5249.2)
def m_law_shape (v_pot : List Int)  : R (((List (Int × Int)) × Bool) × List Int) :=
  ((m_law_take v_pot (8 : Int)).calm.bind fun z_5323 => (ofOpt (atI [(0 : Int), (1 : Int), (2 : Int), (3 : Int), (5 : Int), (8 : Int), (12 : Int), (20 : Int)] z_5323.1)).bind fun x_5324 => R.ok (x_5324, z_5323.2)).bind fun many_5289 => ((m_law_take many_5289.2 (4 : Int)).calm.bind fun z_5320 => (ofOpt (atI [(1 : Int), (2 : Int), (3 : Int), (5 : Int)] z_5320.1)).bind fun x_5321 => R.ok (x_5321, z_5320.2)).bind fun wide_5290 => ((m_law_take wide_5290.2 (5 : Int)).calm.bind fun z_5317 => (ofOpt (atI [(0 : Int), (0 : Int), (0 : Int), (100000000000 : Int), ((0 : Int) - (100000000000 : Int))] z_5317.1)).bind fun x_5318 => R.ok (x_5318, z_5317.2)).bind fun row_5291 => ((m_law_take row_5291.2 (5 : Int)).calm.bind fun z_5314 => (ofOpt (atI [(0 : Int), (0 : Int), (0 : Int), (100000000000 : Int), ((0 : Int) - (100000000000 : Int))] z_5314.1)).bind fun x_5315 => R.ok (x_5315, z_5314.2)).bind fun column_5292 => let cells_5293 : List (Int × Int) := ([] : List (Int × Int)); (chk (-(2 ^ 62) ≤ many_5289.1 ∧ many_5289.1 < 2 ^ 62) (rangeI 0 many_5289.1)).bind fun x_5313 => (forR (τ := ((List Int) × (List (Int × Int)))) (fun s_5294 x_5295 => ((m_law_take s_5294.1 (((2 : Int) * wide_5290.1) + (1 : Int))).calm.bind fun z_5302 => R.ok (((row_5291.1 + z_5302.1) - wide_5290.1), z_5302.2)).bind fun place_5296 => ((m_law_take place_5296.2 (((2 : Int) * wide_5290.1) + (1 : Int))).calm.bind fun z_5298 => R.ok ((place_5296.1, ((column_5292.1 + z_5298.1) - wide_5290.1)), z_5298.2)).bind fun w_5297 => (chk (s_5294.2.length < sizeLine) ()).bind fun _ => R.ok (w_5297.2, (s_5294.2 ++ [w_5297.1]))) x_5313 (column_5292.2, cells_5293)).bind fun s_5305 => ((sortSet s_5305.2).bind fun x_5307 => R.ok x_5307).bind fun x_5308 => (m_law_take s_5305.1 (2 : Int)).calm.bind fun z_5309 => R.ok ((x_5308, (decide (z_5309.1 = (1 : Int)))), z_5309.2)
def m_look_at_turn (v_turn : Int) : R Unit :=
  if ((decide (v_turn < (0 : Int))) || (decide ((8 : Int) ≤ v_turn))) = true then R.er ⟨"BadTurn", none⟩ else R.ok ()
def m_Keep_by_turn (v_self : Pl) (v_turn : Int) : R Pl :=
  (m_look_at_turn v_turn).bind fun _ => R.ok Pl.keep
def m_Nothing_by_turn (v_self : Pl) (v_turn : Int) : R Pl :=
  (m_look_at_turn v_turn).bind fun _ => R.ok Pl.nothing
def m_Everything_by_turn (v_self : Pl) (v_turn : Int) : R Pl :=
  (m_look_at_turn v_turn).bind fun _ => R.ok Pl.everything
def m_turned_cell (v_cell : (Int × Int)) (v_turn : Int) : R (Int × Int) :=
  (m_look_at_turn v_turn).bind fun _ => let p_5339 : (Int × Int) := v_cell; ((if (decide ((4 : Int) ≤ v_turn)) = true then let column_5340 : Int := ((0 : Int) - p_5339.2); R.ok column_5340 else R.ok p_5339.2) : R Int).bind fun s_5341 => ((chk (0 < (4 : Int)) (v_turn % (4 : Int))).bind fun x_5342 => chk (-(2 ^ 62) ≤ x_5342 ∧ x_5342 < 2 ^ 62) (rangeI 0 x_5342)).bind fun x_5348 => (forR (τ := (Int × Int)) (fun s_5343 x_5344 => let row_5345 : Int := s_5343.2; let column_5346 : Int := ((0 : Int) - s_5343.1); R.ok (row_5345, column_5346)) x_5348 (p_5339.1, s_5341)).bind fun s_5347 => R.ok (s_5347.1, s_5347.2)
def m_Move_by_turn (D : Pl → Int → R Pl) (v_self : Pl) (v_turn : Int) : R Pl :=
  ((((ofOpt (Pl.fStep v_self)).bind fun x_5355 => R.ok (x_5355, v_turn)).bind fun x_5356 => m_turned_cell x_5356.1 x_5356.2).bind fun x_5358 => ((ofOpt (Pl.fPlan v_self)).bind fun x_5357 => D x_5357 v_turn).bind fun x_5359 => R.ok (x_5358, x_5359)).bind fun x_5360 => R.ok (Pl.move x_5360.1 x_5360.2)
def m_rising (v_cells : List (Int × Int)) : R (List (Int × Int)) :=
  (sortSet v_cells).bind fun x_5364 => R.ok x_5364
def m_turned_piece (v_piece : List (Int × Int)) (v_turn : Int) : R (List (Int × Int)) :=
  ((chk (v_piece.length ≤ sizeLine) v_piece).bind (mapX (fun y_5366 => m_turned_cell y_5366 v_turn))).bind fun x_5368 => m_rising x_5368
def m_Eat_by_turn (D : Pl → Int → R Pl) (v_self : Pl) (v_turn : Int) : R Pl :=
  ((((ofOpt (Pl.fPiece v_self)).bind fun x_5375 => R.ok (x_5375, v_turn)).bind fun x_5376 => m_turned_piece x_5376.1 x_5376.2).bind fun x_5378 => ((ofOpt (Pl.fPlan v_self)).bind fun x_5377 => D x_5377 v_turn).bind fun x_5379 => R.ok (x_5378, x_5379)).bind fun x_5380 => R.ok (Pl.eat x_5380.1 x_5380.2)
def m_Grow_by_turn (D : Pl → Int → R Pl) (v_self : Pl) (v_turn : Int) : R Pl :=
  ((((ofOpt (Pl.fPiece v_self)).bind fun x_5387 => R.ok (x_5387, v_turn)).bind fun x_5388 => m_turned_piece x_5388.1 x_5388.2).bind fun x_5390 => ((ofOpt (Pl.fPlan v_self)).bind fun x_5389 => D x_5389 v_turn).bind fun x_5391 => R.ok (x_5390, x_5391)).bind fun x_5392 => R.ok (Pl.grow x_5392.1 x_5392.2)
def m_Both_by_turn (D : Pl → Int → R Pl) (v_self : Pl) (v_turn : Int) : R Pl :=
  (((ofOpt (Pl.fOne v_self)).bind fun x_5398 => D x_5398 v_turn).bind fun x_5400 => ((ofOpt (Pl.fOther v_self)).bind fun x_5399 => D x_5399 v_turn).bind fun x_5401 => R.ok (x_5400, x_5401)).bind fun x_5402 => R.ok (Pl.both x_5402.1 x_5402.2)
def m_Either_by_turn (D : Pl → Int → R Pl) (v_self : Pl) (v_turn : Int) : R Pl :=
  (((ofOpt (Pl.fOne v_self)).bind fun x_5408 => D x_5408 v_turn).bind fun x_5410 => ((ofOpt (Pl.fOther v_self)).bind fun x_5409 => D x_5409 v_turn).bind fun x_5411 => R.ok (x_5410, x_5411)).bind fun x_5412 => R.ok (Pl.either x_5412.1 x_5412.2)
def m_D_by_turn : Nat → Pl → Int → R Pl
  | 0, _, _ => R.bad
  | fu + 1, x0, x1 => match x0.kd with | .Keep => m_Keep_by_turn x0 x1 | .Nothing => m_Nothing_by_turn x0 x1 | .Everything => m_Everything_by_turn x0 x1 | .Move => m_Move_by_turn (m_D_by_turn fu) x0 x1 | .Eat => m_Eat_by_turn (m_D_by_turn fu) x0 x1 | .Grow => m_Grow_by_turn (m_D_by_turn fu) x0 x1 | .Both => m_Both_by_turn (m_D_by_turn fu) x0 x1 | .Either => m_Either_by_turn (m_D_by_turn fu) x0 x1
def m_Keep_words (v_self : Pl) : R (List Str) :=
  R.ok [("keep" : Str)]
def m_Nothing_words (v_self : Pl) : R (List Str) :=
  R.ok [("none" : Str)]
def m_Everything_words (v_self : Pl) : R (List Str) :=
  R.ok [("all" : Str)]
def m_step_words (v_steps : List (Int × Int)) : R (List Str) :=
  let words_5423 : List Str := ([] : List Str); (forR (τ := List Str) (fun s_5424 x_5425 => ((chk ((x_5425.1).natAbs.log2 < 1920) ((toString (x_5425.1 : Int) : String) : Str)).bind fun x_5427 => ((chk ((x_5425.2).natAbs.log2 < 1920) ((toString (x_5425.2 : Int) : String) : Str)).bind fun x_5426 => R.ok (x_5426 :: [])).bind fun x_5428 => R.ok (x_5427 :: x_5428)).bind fun y_5429 => (chk (s_5424.length + y_5429.length ≤ sizeLine) ()).bind fun _ => R.ok (s_5424 ++ y_5429)) v_steps words_5423).bind fun s_5430 => R.ok s_5430
def m_Move_words (D : Pl → R (List Str)) (v_self : Pl) : R (List Str) :=
  ((((ofOpt (Pl.fStep v_self)).bind fun x_5441 => R.ok (x_5441 :: [])).bind fun x_5442 => m_step_words x_5442).bind fun x_5443 => chk (([("move" : Str)]).length + (x_5443).length ≤ sizeLine) ([("move" : Str)] ++ x_5443)).bind fun x_5446 => ((ofOpt (Pl.fPlan v_self)).bind fun x_5445 => D x_5445).bind fun x_5447 => chk ((x_5446).length + (x_5447).length ≤ sizeLine) (x_5446 ++ x_5447)
def m_step_words_2 (v_steps : List (Int × Int)) : R (List Str) :=
  let words_5462 : List Str := ([] : List Str); (forR (τ := List Str) (fun s_5463 x_5464 => ((chk ((x_5464.1).natAbs.log2 < 1920) ((toString (x_5464.1 : Int) : String) : Str)).bind fun x_5466 => ((chk ((x_5464.2).natAbs.log2 < 1920) ((toString (x_5464.2 : Int) : String) : Str)).bind fun x_5465 => R.ok (x_5465 :: [])).bind fun x_5467 => R.ok (x_5466 :: x_5467)).bind fun y_5468 => (chk (s_5463.length + y_5468.length ≤ sizeLine) ()).bind fun _ => R.ok (s_5463 ++ y_5468)) v_steps words_5462).bind fun s_5469 => R.ok s_5469
def m_Eat_words (D : Pl → R (List Str)) (v_self : Pl) : R (List Str) :=
  ((((((ofOpt (Pl.fPiece v_self)).bind fun x_5480 => R.ok ((x_5480).length : Int)).bind fun x_5481 => chk ((x_5481).natAbs.log2 < 1920) ((toString (x_5481 : Int) : String) : Str)).bind fun x_5482 => R.ok (x_5482 :: [])).bind fun x_5483 => R.ok (("eat" : Str) :: x_5483)).bind fun x_5486 => ((ofOpt (Pl.fPiece v_self)).bind fun x_5485 => m_step_words_2 x_5485).bind fun x_5487 => chk ((x_5486).length + (x_5487).length ≤ sizeLine) (x_5486 ++ x_5487)).bind fun x_5490 => ((ofOpt (Pl.fPlan v_self)).bind fun x_5489 => D x_5489).bind fun x_5491 => chk ((x_5490).length + (x_5491).length ≤ sizeLine) (x_5490 ++ x_5491)
def m_Grow_words (D : Pl → R (List Str)) (v_self : Pl) : R (List Str) :=
  ((((((ofOpt (Pl.fPiece v_self)).bind fun x_5508 => R.ok ((x_5508).length : Int)).bind fun x_5509 => chk ((x_5509).natAbs.log2 < 1920) ((toString (x_5509 : Int) : String) : Str)).bind fun x_5510 => R.ok (x_5510 :: [])).bind fun x_5511 => R.ok (("grow" : Str) :: x_5511)).bind fun x_5514 => ((ofOpt (Pl.fPiece v_self)).bind fun x_5513 => m_step_words_2 x_5513).bind fun x_5515 => chk ((x_5514).length + (x_5515).length ≤ sizeLine) (x_5514 ++ x_5515)).bind fun x_5518 => ((ofOpt (Pl.fPlan v_self)).bind fun x_5517 => D x_5517).bind fun x_5519 => chk ((x_5518).length + (x_5519).length ≤ sizeLine) (x_5518 ++ x_5519)
def m_Both_words (D : Pl → R (List Str)) (v_self : Pl) : R (List Str) :=
  (((ofOpt (Pl.fOne v_self)).bind fun x_5528 => D x_5528).bind fun x_5529 => chk (([("both" : Str)]).length + (x_5529).length ≤ sizeLine) ([("both" : Str)] ++ x_5529)).bind fun x_5532 => ((ofOpt (Pl.fOther v_self)).bind fun x_5531 => D x_5531).bind fun x_5533 => chk ((x_5532).length + (x_5533).length ≤ sizeLine) (x_5532 ++ x_5533)
def m_Either_words (D : Pl → R (List Str)) (v_self : Pl) : R (List Str) :=
  (((ofOpt (Pl.fOne v_self)).bind fun x_5542 => D x_5542).bind fun x_5543 => chk (([("either" : Str)]).length + (x_5543).length ≤ sizeLine) ([("either" : Str)] ++ x_5543)).bind fun x_5546 => ((ofOpt (Pl.fOther v_self)).bind fun x_5545 => D x_5545).bind fun x_5547 => chk ((x_5546).length + (x_5547).length ≤ sizeLine) (x_5546 ++ x_5547)
def m_D_words : Nat → Pl → R (List Str)
  | 0, _ => R.bad
  | fu + 1, x0 => match x0.kd with | .Keep => m_Keep_words x0 | .Nothing => m_Nothing_words x0 | .Everything => m_Everything_words x0 | .Move => m_Move_words (m_D_words fu) x0 | .Eat => m_Eat_words (m_D_words fu) x0 | .Grow => m_Grow_words (m_D_words fu) x0 | .Both => m_Both_words (m_D_words fu) x0 | .Either => m_Either_words (m_D_words fu) x0
def m_law_turned_cell (v_cell : (Int × Int)) (v_turn : Int) : R (Int × Int) :=
  let p_5555 : (Int × Int) := v_cell; ((if (decide ((3 : Int) < v_turn)) = true then let column_5556 : Int := ((0 : Int) - p_5555.2); R.ok column_5556 else R.ok p_5555.2) : R Int).bind fun s_5557 => ofOpt (atI [(p_5555.1, s_5557), (s_5557, ((0 : Int) - p_5555.1)), (((0 : Int) - p_5555.1), ((0 : Int) - s_5557)), (((0 : Int) - s_5557), p_5555.1)] (v_turn % (4 : Int)))
def m_law_turned_cells (v_cells : List (Int × Int)) (v_turn : Int) : R (List (Int × Int)) :=
  (((mapR (fun y_5573 => m_law_turned_cell y_5573 v_turn) v_cells).bind fun ys => chk (ys.length ≤ sizeLine) ys).bind fun x_5574 => R.ok (sortC x_5574)).bind fun x_5575 => R.ok x_5575
def m_law_turned : Nat → Dy → Int → R Dy
  | 0, _, _ => R.bad
  | fu + 1, v_form, v_turn => ((ofOpt (Dy.len v_form)).bind fun x_5597 => R.ok (decide (x_5597 = (1 : Int)))).bind fun x_5632 => if x_5632 = true then R.ok v_form else ((ofOpt (Dy.at v_form (0 : Int))).bind fun x_5598 => chk (Dy.shp x_5598 = true ∧ Dy.shp (Dy.str ("move" : Str)) = true) (Dy.eqv x_5598 (Dy.str ("move" : Str)))).bind fun x_5631 => if x_5631 = true then ((((((ofOpt (Dy.at v_form (1 : Int))).bind fun x_5599 => ofOpt ((asTu (asc asI (as1 asI))) x_5599)).bind fun x_5600 => R.ok (x_5600, v_turn)).bind fun x_5601 => m_law_turned_cell x_5601.1 x_5601.2).bind fun x_5604 => (((ofOpt (Dy.at v_form (2 : Int))).bind fun x_5602 => R.ok (x_5602, v_turn)).bind fun x_5603 => m_law_turned fu x_5603.1 x_5603.2).bind fun x_5605 => R.ok (x_5604, x_5605)).bind fun x_5606 => R.ok (("move" : Str), x_5606)).bind fun x_5607 => R.ok ((fun x => Dy.tup [Dy.str x.1, (fun x => Dy.tup [Dy.int x.1, Dy.int x.2]) x.2.1, (fun d => d) x.2.2]) x_5607) else (((ofOpt (Dy.at v_form (0 : Int))).bind fun x_5608 => chk (Dy.shp x_5608 = true ∧ Dy.shp (Dy.str ("eat" : Str)) = true) (Dy.eqv x_5608 (Dy.str ("eat" : Str)))).bind fun x_5610 => if x_5610 = true then R.ok true else (ofOpt (Dy.at v_form (0 : Int))).bind fun x_5609 => chk (Dy.shp x_5609 = true ∧ Dy.shp (Dy.str ("grow" : Str)) = true) (Dy.eqv x_5609 (Dy.str ("grow" : Str)))).bind fun x_5630 => if x_5630 = true then ((ofOpt (Dy.at v_form (0 : Int))).bind fun x_5618 => (((((ofOpt (Dy.at v_form (1 : Int))).bind fun x_5611 => ofOpt ((asT (asTu (asc asI (as1 asI)))) x_5611)).bind fun x_5612 => R.ok (x_5612, v_turn)).bind fun x_5613 => m_law_turned_cells x_5613.1 x_5613.2).bind fun x_5616 => (((ofOpt (Dy.at v_form (2 : Int))).bind fun x_5614 => R.ok (x_5614, v_turn)).bind fun x_5615 => m_law_turned fu x_5615.1 x_5615.2).bind fun x_5617 => R.ok (x_5616, x_5617)).bind fun x_5619 => R.ok (x_5618, x_5619)).bind fun x_5620 => R.ok ((fun x => Dy.tup [(fun d => d) x.1, (fun xs => Dy.tup (List.map (fun x => Dy.tup [Dy.int x.1, Dy.int x.2]) xs)) x.2.1, (fun d => d) x.2.2]) x_5620) else ((ofOpt (Dy.at v_form (0 : Int))).bind fun x_5627 => ((((ofOpt (Dy.at v_form (1 : Int))).bind fun x_5621 => R.ok (x_5621, v_turn)).bind fun x_5622 => m_law_turned fu x_5622.1 x_5622.2).bind fun x_5625 => (((ofOpt (Dy.at v_form (2 : Int))).bind fun x_5623 => R.ok (x_5623, v_turn)).bind fun x_5624 => m_law_turned fu x_5624.1 x_5624.2).bind fun x_5626 => R.ok (x_5625, x_5626)).bind fun x_5628 => R.ok (x_5627, x_5628)).bind fun x_5629 => R.ok ((fun x => Dy.tup [(fun d => d) x.1, (fun d => d) x.2.1, (fun d => d) x.2.2]) x_5629)
def m_law_parts (v_form : Dy) : R (List Dy) :=
  ((ofOpt (Dy.len v_form)).bind fun x_5667 => R.ok (decide (x_5667 = (1 : Int)))).bind fun x_5676 => if x_5676 = true then R.ok ([] : List Dy) else (((ofOpt (Dy.at v_form (0 : Int))).bind fun x_5668 => chk (Dy.shp x_5668 = true ∧ Dy.shp (Dy.str ("both" : Str)) = true) (Dy.eqv x_5668 (Dy.str ("both" : Str)))).bind fun x_5670 => if x_5670 = true then R.ok true else (ofOpt (Dy.at v_form (0 : Int))).bind fun x_5669 => chk (Dy.shp x_5669 = true ∧ Dy.shp (Dy.str ("either" : Str)) = true) (Dy.eqv x_5669 (Dy.str ("either" : Str)))).bind fun x_5675 => if x_5675 = true then (ofOpt (Dy.at v_form (1 : Int))).bind fun x_5672 => ((ofOpt (Dy.at v_form (2 : Int))).bind fun x_5671 => R.ok (x_5671 :: [])).bind fun x_5673 => R.ok (x_5672 :: x_5673) else (ofOpt (Dy.at v_form (2 : Int))).bind fun x_5674 => R.ok (x_5674 :: [])
def m_law_words : Nat → Dy → R (List Str)
  | 0, _ => R.bad
  | fu + 1, v_form => (((ofOpt (Dy.at v_form (0 : Int))).bind fun x_5686 => ofOpt (asS x_5686)).bind fun x_5687 => R.ok (x_5687 :: [])).bind fun words_5688 => let steps_5689 : Dy := ((fun xs => Dy.tup (List.map Dy.int xs)) ([] : List Int)); ((ofOpt (Dy.at v_form (0 : Int))).bind fun x_5690 => chk (Dy.shp x_5690 = true ∧ Dy.shp (Dy.str ("move" : Str)) = true) (Dy.eqv x_5690 (Dy.str ("move" : Str)))).bind fun x_5716 => ((if x_5716 = true then ((ofOpt (Dy.at v_form (1 : Int))).bind fun x_5691 => R.ok ((fun x => Dy.tup [(fun d => d) x]) x_5691)).bind fun steps_5692 => R.ok steps_5692 else R.ok steps_5689) : R Dy).bind fun s_5693 => (((ofOpt (Dy.at v_form (0 : Int))).bind fun x_5694 => chk (Dy.shp x_5694 = true ∧ Dy.shp (Dy.str ("eat" : Str)) = true) (Dy.eqv x_5694 (Dy.str ("eat" : Str)))).bind fun x_5696 => if x_5696 = true then R.ok true else (ofOpt (Dy.at v_form (0 : Int))).bind fun x_5695 => chk (Dy.shp x_5695 = true ∧ Dy.shp (Dy.str ("grow" : Str)) = true) (Dy.eqv x_5695 (Dy.str ("grow" : Str)))).bind fun x_5715 => ((if x_5715 = true then (((ofOpt (Dy.at v_form (1 : Int))).bind fun x_5697 => ofOpt (Dy.len x_5697)).bind fun x_5698 => chk ((x_5698).natAbs.log2 < 1920) ((toString (x_5698 : Int) : String) : Str)).bind fun y_5699 => (chk (words_5688.length < sizeLine) ()).bind fun _ => (ofOpt (Dy.at v_form (1 : Int))).bind fun steps_5700 => R.ok ((words_5688 ++ [y_5699]), steps_5700) else R.ok (words_5688, s_5693)) : R ((List Str) × Dy)).bind fun s_5701 => (ofOpt ((asT (asTu (asc asI (as1 asI)))) s_5701.2)).bind fun x_5714 => (forR (τ := List Str) (fun s_5702 x_5703 => ((chk ((x_5703.1).natAbs.log2 < 1920) ((toString (x_5703.1 : Int) : String) : Str)).bind fun x_5705 => ((chk ((x_5703.2).natAbs.log2 < 1920) ((toString (x_5703.2 : Int) : String) : Str)).bind fun x_5704 => R.ok (x_5704 :: [])).bind fun x_5706 => R.ok (x_5705 :: x_5706)).bind fun y_5707 => (chk (s_5702.length + y_5707.length ≤ sizeLine) ()).bind fun _ => R.ok (s_5702 ++ y_5707)) x_5714 s_5701.1).bind fun s_5708 => (m_law_parts v_form).bind fun x_5713 => (forR (τ := List Str) (fun s_5709 x_5710 => (m_law_words fu x_5710).bind fun y_5711 => (chk (s_5709.length + y_5711.length ≤ sizeLine) ()).bind fun _ => R.ok (s_5709 ++ y_5711)) x_5713 s_5708).bind fun s_5712 => R.ok s_5712
def m_law_same : Nat → Dy → Dy → R Bool
  | 0, _, _ => R.bad
  | fu + 1, v_found, v_due => if (Dy.isTup v_due || Dy.isLst v_due) = true then if ((!decide ((Dy.isTup v_found) = (Dy.isTup v_due))) || (!(Dy.isTup v_found || Dy.isLst v_found))) = true then R.ok false else ((ofOpt (Dy.len v_found)).bind fun x_5726 => (ofOpt (Dy.len v_due)).bind fun x_5727 => R.ok (decide (x_5726 = x_5727))).bind fun x_5731 => if x_5731 = true then ((ofOpt (Dy.zip v_found v_due)).bind fun x_5729 => (mapR (fun y_5728 => m_law_same fu y_5728.1 y_5728.2) x_5729).bind fun ys => chk (ys.length ≤ sizeLine) ys).bind fun x_5730 => R.ok ((x_5730).all id) else R.ok false else if ((Dy.isBl v_due) || (Dy.isBl v_found)) = true then if (Dy.isBl v_due) = true then if (Dy.isBl v_found) = true then chk (Dy.shp v_found = true ∧ Dy.shp v_due = true) (Dy.eqv v_found v_due) else R.ok false else R.ok false else if (Dy.isStr v_due) = true then if (Dy.isStr v_found) = true then chk (Dy.shp v_found = true ∧ Dy.shp v_due = true) (Dy.eqv v_found v_due) else R.ok false else if (Dy.isInt v_found) = true then chk (Dy.shp v_found = true ∧ Dy.shp v_due = true) (Dy.eqv v_found v_due) else R.ok false
def m_Plan_made (v_self : Pl) (v_shape : ((List (Int × Int)) × Bool)) : R ((List (Int × Int)) × Bool) :=
  R.ok v_shape
def m_Nothing_made (v_self : Pl) (v_shape : ((List (Int × Int)) × Bool)) : R ((List (Int × Int)) × Bool) :=
  R.ok (([] : List (Int × Int)), false)
def m_Everything_made (v_self : Pl) (v_shape : ((List (Int × Int)) × Bool)) : R ((List (Int × Int)) × Bool) :=
  R.ok (([] : List (Int × Int)), true)
def m_moved_cell (v_cell : (Int × Int)) (v_step : (Int × Int)) : R (Int × Int) :=
  R.ok ((v_cell.1 + v_step.1), (v_cell.2 + v_step.2))
def m_moved (v_shape : ((List (Int × Int)) × Bool)) (v_step : (Int × Int)) : R ((List (Int × Int)) × Bool) :=
  let p_5759 : ((List (Int × Int)) × Bool) := v_shape; (((mapR (fun y_5760 => m_moved_cell y_5760 v_step) p_5759.1).bind fun ys => chk (ys.length ≤ sizeLine) ys).bind fun x_5761 => R.ok x_5761).bind fun x_5762 => R.ok (x_5762, p_5759.2)
def m_Move_made (D : Pl → ((List (Int × Int)) × Bool) → R ((List (Int × Int)) × Bool)) (v_self : Pl) (v_shape : ((List (Int × Int)) × Bool)) : R ((List (Int × Int)) × Bool) :=
  (((ofOpt (Pl.fPlan v_self)).bind fun x_5766 => D x_5766 v_shape).bind fun x_5767 => (ofOpt (Pl.fStep v_self)).bind fun x_5768 => R.ok (x_5767, x_5768)).bind fun x_5769 => m_moved x_5769.1 x_5769.2
def m_mirrored (v_piece : List (Int × Int)) : R (List (Int × Int)) :=
  ((mapR (fun y_5774 => R.ok (((0 : Int) - y_5774.1), ((0 : Int) - y_5774.2))) v_piece).bind fun ys => chk (ys.length ≤ sizeLine) ys).bind fun x_5775 => m_rising x_5775
def m_lies_on (v_piece : List (Int × Int)) (v_cell : (Int × Int)) : R (List (Int × Int)) :=
  (mapR (fun y_5780 => m_moved_cell y_5780 v_cell) v_piece).bind fun ys => chk (ys.length ≤ sizeLine) ys
def m_reached (v_cells : List (Int × Int)) (v_piece : List (Int × Int)) : R (List (Int × Int)) :=
  let told_5783 : List (Int × Int) := ([] : List (Int × Int)); (forR (τ := List (Int × Int)) (fun s_5784 x_5785 => (m_lies_on v_piece x_5785).bind fun y_5786 => (chk (s_5784.length + y_5786.length ≤ sizeLine) ()).bind fun _ => R.ok (s_5784 ++ y_5786)) v_cells told_5783).bind fun s_5787 => m_rising s_5787
def m_less_cell (v_cell : (Int × Int)) (v_step : (Int × Int)) : R (Int × Int) :=
  R.ok ((v_cell.1 - v_step.1), (v_cell.2 - v_step.2))
def m_kept_at (v_cells : List (Int × Int)) (v_piece : List (Int × Int)) : R (List (Int × Int)) :=
  (forR (τ := List ((Int × Int) × Bool)) (fun s_5809 x_5810 => let v_5811 : Bool := true; let k_5812 : (Int × Int) := x_5810; (chk (s_5809.length < sizeLine) ()).bind fun _ => let held_5813 : List ((Int × Int) × Bool) := (dPut s_5809 k_5812 v_5811); R.ok held_5813) v_cells ([] : List ((Int × Int) × Bool))).bind fun s_5814 => let told_5815 : List (Int × Int) := ([] : List (Int × Int)); (forR (τ := List (Int × Int)) (fun s_5816 x_5817 => (((ofOpt (atI v_piece (0 : Int))).bind fun x_5818 => R.ok (x_5817, x_5818)).bind fun x_5819 => m_less_cell x_5819.1 x_5819.2).bind fun place_5820 => (((m_lies_on v_piece place_5820).bind fun x_5822 => (mapR (fun y_5821 => R.ok ((dGet s_5814 y_5821).isSome)) x_5822).bind fun ys => chk (ys.length ≤ sizeLine) ys).bind fun x_5823 => R.ok ((x_5823).all id)).bind fun x_5825 => if x_5825 = true then let y_5824 : (Int × Int) := place_5820; (chk (s_5816.length < sizeLine) ()).bind fun _ => R.ok (s_5816 ++ [y_5824]) else R.ok s_5816) v_cells told_5815).bind fun s_5826 => R.ok s_5826
def m_eaten (v_shape : ((List (Int × Int)) × Bool)) (v_piece : List (Int × Int)) : R ((List (Int × Int)) × Bool) :=
  let p_5828 : ((List (Int × Int)) × Bool) := v_shape; if p_5828.2 = true then (((m_mirrored v_piece).bind fun x_5829 => R.ok (p_5828.1, x_5829)).bind fun x_5830 => m_reached x_5830.1 x_5830.2).bind fun x_5831 => R.ok (x_5831, true) else (m_kept_at p_5828.1 v_piece).bind fun x_5832 => R.ok (x_5832, false)
def m_Eat_made (D : Pl → ((List (Int × Int)) × Bool) → R ((List (Int × Int)) × Bool)) (v_self : Pl) (v_shape : ((List (Int × Int)) × Bool)) : R ((List (Int × Int)) × Bool) :=
  (((ofOpt (Pl.fPlan v_self)).bind fun x_5836 => D x_5836 v_shape).bind fun x_5837 => (ofOpt (Pl.fPiece v_self)).bind fun x_5838 => R.ok (x_5837, x_5838)).bind fun x_5839 => m_eaten x_5839.1 x_5839.2
def m_grown (v_shape : ((List (Int × Int)) × Bool)) (v_piece : List (Int × Int)) : R ((List (Int × Int)) × Bool) :=
  let p_5846 : ((List (Int × Int)) × Bool) := v_shape; if p_5846.2 = true then (((m_mirrored v_piece).bind fun x_5847 => R.ok (p_5846.1, x_5847)).bind fun x_5848 => m_kept_at x_5848.1 x_5848.2).bind fun x_5849 => R.ok (x_5849, true) else (m_reached p_5846.1 v_piece).bind fun x_5850 => R.ok (x_5850, false)
def m_Grow_made (D : Pl → ((List (Int × Int)) × Bool) → R ((List (Int × Int)) × Bool)) (v_self : Pl) (v_shape : ((List (Int × Int)) × Bool)) : R ((List (Int × Int)) × Bool) :=
  (((ofOpt (Pl.fPlan v_self)).bind fun x_5854 => D x_5854 v_shape).bind fun x_5855 => (ofOpt (Pl.fPiece v_self)).bind fun x_5856 => R.ok (x_5855, x_5856)).bind fun x_5857 => m_grown x_5857.1 x_5857.2
def m_rising_2 (v_cells : List (Int × Int)) : R (List (Int × Int)) :=
  (sortSet v_cells).bind fun x_5861 => R.ok x_5861
def m_only_in (v_one : List (Int × Int)) (v_other : List (Int × Int)) : R (List (Int × Int)) :=
  (forR (τ := List ((Int × Int) × Bool)) (fun s_5872 x_5873 => let v_5874 : Bool := true; let k_5875 : (Int × Int) := x_5873; (chk (s_5872.length < sizeLine) ()).bind fun _ => let seen_5876 : List ((Int × Int) × Bool) := (dPut s_5872 k_5875 v_5874); R.ok seen_5876) v_other ([] : List ((Int × Int) × Bool))).bind fun s_5877 => ((fmR (fun y_5878 => R.ok (!(dGet s_5877 y_5878).isSome)) (fun y_5878 => R.ok y_5878) v_one).bind fun ys => chk (ys.length ≤ sizeLine) ys).bind fun x_5879 => R.ok x_5879
def m_both (v_one : ((List (Int × Int)) × Bool)) (v_other : ((List (Int × Int)) × Bool)) : R ((List (Int × Int)) × Bool) :=
  if (v_one.2 && v_other.2) = true then ((chk ((v_one.1).length + (v_other.1).length ≤ sizeLine) (v_one.1 ++ v_other.1)).bind fun x_5885 => m_rising_2 x_5885).bind fun x_5886 => R.ok (x_5886, true) else if v_one.2 = true then (m_only_in v_other.1 v_one.1).bind fun x_5887 => R.ok (x_5887, false) else if v_other.2 = true then (m_only_in v_one.1 v_other.1).bind fun x_5888 => R.ok (x_5888, false) else (((m_only_in v_one.1 v_other.1).bind fun x_5889 => R.ok (v_one.1, x_5889)).bind fun x_5890 => m_only_in x_5890.1 x_5890.2).bind fun x_5891 => R.ok (x_5891, false)
def m_Both_made (D : Pl → ((List (Int × Int)) × Bool) → R ((List (Int × Int)) × Bool)) (v_self : Pl) (v_shape : ((List (Int × Int)) × Bool)) : R ((List (Int × Int)) × Bool) :=
  (((ofOpt (Pl.fOne v_self)).bind fun x_5895 => D x_5895 v_shape).bind fun x_5897 => ((ofOpt (Pl.fOther v_self)).bind fun x_5896 => D x_5896 v_shape).bind fun x_5898 => R.ok (x_5897, x_5898)).bind fun x_5899 => m_both x_5899.1 x_5899.2
def m_outside (v_shape : ((List (Int × Int)) × Bool)) : R ((List (Int × Int)) × Bool) :=
  let p_5903 : ((List (Int × Int)) × Bool) := v_shape; R.ok (p_5903.1, (!p_5903.2))
def m_either (v_one : ((List (Int × Int)) × Bool)) (v_other : ((List (Int × Int)) × Bool)) : R ((List (Int × Int)) × Bool) :=
  (((m_outside v_one).bind fun x_5908 => (m_outside v_other).bind fun x_5909 => R.ok (x_5908, x_5909)).bind fun x_5910 => m_both x_5910.1 x_5910.2).bind fun x_5911 => m_outside x_5911
def m_Either_made (D : Pl → ((List (Int × Int)) × Bool) → R ((List (Int × Int)) × Bool)) (v_self : Pl) (v_shape : ((List (Int × Int)) × Bool)) : R ((List (Int × Int)) × Bool) :=
  (((ofOpt (Pl.fOne v_self)).bind fun x_5915 => D x_5915 v_shape).bind fun x_5917 => ((ofOpt (Pl.fOther v_self)).bind fun x_5916 => D x_5916 v_shape).bind fun x_5918 => R.ok (x_5917, x_5918)).bind fun x_5919 => m_either x_5919.1 x_5919.2
def m_D_made (D : Pl → ((List (Int × Int)) × Bool) → R ((List (Int × Int)) × Bool)) (x0 : Pl) (x1 : ((List (Int × Int)) × Bool)) : R ((List (Int × Int)) × Bool) := match x0.kd with | .Keep => m_Plan_made x0 x1 | .Nothing => m_Nothing_made x0 x1 | .Everything => m_Everything_made x0 x1 | .Move => m_Move_made D x0 x1 | .Eat => m_Eat_made D x0 x1 | .Grow => m_Grow_made D x0 x1 | .Both => m_Both_made D x0 x1 | .Either => m_Either_made D x0 x1
def m_Plan_done (D : Pl → ((List (Int × Int)) × Bool) → R ((List (Int × Int)) × Bool)) (v_self : Pl) (v_shape : ((List (Int × Int)) × Bool)) : R ((List (Int × Int)) × Bool) :=
  (m_D_made D v_self v_shape).bind fun told_5921 => if (decide ((2000 : Int) < ((told_5921.1).length : Int))) = true then R.er ⟨"TooMany", none⟩ else R.ok told_5921
def m_D_done : Nat → Pl → ((List (Int × Int)) × Bool) → R ((List (Int × Int)) × Bool)
  | 0, _, _ => R.bad
  | fu + 1, x0, x1 => match x0.kd with | .Keep => m_Plan_done (m_D_done fu) x0 x1 | .Nothing => m_Plan_done (m_D_done fu) x0 x1 | .Everything => m_Plan_done (m_D_done fu) x0 x1 | .Move => m_Plan_done (m_D_done fu) x0 x1 | .Eat => m_Plan_done (m_D_done fu) x0 x1 | .Grow => m_Plan_done (m_D_done fu) x0 x1 | .Both => m_Plan_done (m_D_done fu) x0 x1 | .Either => m_Plan_done (m_D_done fu) x0 x1
def m_law_done (v_plan : Pl) (v_shape : ((List (Int × Int)) × Bool)) : R (Option ((List (Int × Int)) × Bool)) :=
  let found_5926 : Option ((List (Int × Int)) × Bool) := (none : Option ((List (Int × Int)) × Bool)); (catchR (fun s => if s = ("BadTurn" : Str) then some false else if s = ("TooMany" : Str) then some true else none) (fun r_5937 => let found_5944 : Option ((List (Int × Int)) × Bool) := (none : Option ((List (Int × Int)) × Bool)); R.ok found_5944) ((((m_D_done 8 v_plan v_shape).bind fun x_5942 => R.ok (some x_5942)).bind fun found_5943 => R.ok found_5943) : R (Option ((List (Int × Int)) × Bool)))).bind fun s_5945 => R.ok s_5945
def m_law_turns (v_form : Dy) (v_plan : Pl) (v_shapes : List ((List (Int × Int)) × Bool)) (v_turn : Int) : R Bool :=
  (m_D_by_turn 8 v_plan v_turn).bind fun other_5970 => (((((m_D_words 8 other_5970).bind fun x_5971 => R.ok ((fun xs => Dy.lst (List.map Dy.str xs)) x_5971)).bind fun x_5975 => (((m_law_turned 8 v_form v_turn).bind fun x_5973 => m_law_words 8 x_5973).bind fun x_5974 => R.ok ((fun xs => Dy.lst (List.map Dy.str xs)) x_5974)).bind fun x_5976 => R.ok (x_5975, x_5976)).bind fun x_5977 => m_law_same 12 x_5977.1 x_5977.2).bind fun x_5978 => R.ok (!x_5978)).bind fun x_6004 => if x_6004 = true then R.ok false else (forS (τ := Unit) (γ := Bool) (fun s_5979 x_5980 => (m_law_done v_plan x_5980).bind fun due_5981 => ((((m_law_turned_cells x_5980.1 v_turn).bind fun x_5982 => R.ok (x_5982, x_5980.2)).bind fun x_5983 => R.ok (other_5970, x_5983)).bind fun x_5984 => m_law_done x_5984.1 x_5984.2).bind fun found_5985 => if (!decide ((due_5981).isNone = (found_5985).isNone)) = true then R.ok (Stp.rt false) else (if (due_5981).isSome = true then ((((((((ofOpt due_5981).bind fun x_5992 => R.ok x_5992.1).bind fun x_5993 => R.ok (x_5993, v_turn)).bind fun x_5994 => m_law_turned_cells x_5994.1 x_5994.2).bind fun x_5996 => ((ofOpt due_5981).bind fun x_5995 => R.ok x_5995.2).bind fun x_5997 => R.ok (x_5996, x_5997)).bind fun x_5998 => R.ok ((fun x => Dy.tup [(fun xs => Dy.tup (List.map (fun x => Dy.tup [Dy.int x.1, Dy.int x.2]) xs)) x.1, Dy.bl x.2]) x_5998)).bind fun x_5999 => R.ok (((dyO (fun x => Dy.tup [(fun xs => Dy.tup (List.map (fun x => Dy.tup [Dy.int x.1, Dy.int x.2]) xs)) x.1, Dy.bl x.2])) found_5985), x_5999)).bind fun x_6000 => m_law_same 12 x_6000.1 x_6000.2).bind fun x_6001 => R.ok (!x_6001) else R.ok false).bind fun x_6002 => if x_6002 = true then R.ok (Stp.rt false) else R.ok (Stp.nx ())) v_shapes ()).bind (outK (fun s_6003 => R.ok true) (fun a => a))
def m_law_moves (v_plan : Pl) (v_shape : ((List (Int × Int)) × Bool)) (v_step : (Int × Int)) : R Bool :=
  ((((mapR (fun y_6029 => R.ok ((y_6029.1 + v_step.1), (y_6029.2 + v_step.2))) v_shape.1).bind fun ys => chk (ys.length ≤ sizeLine) ys).bind fun x_6030 => R.ok x_6030).bind fun x_6031 => R.ok (x_6031, v_shape.2)).bind fun led_6032 => (m_law_done v_plan v_shape).bind fun due_6033 => (m_law_done v_plan led_6032).bind fun found_6034 => if ((due_6033).isNone || (found_6034).isNone) = true then R.ok ((due_6033).isNone && (found_6034).isNone) else (((((((ofOpt due_6033).bind fun x_6042 => R.ok x_6042.1).bind fun x_6044 => (mapR (fun y_6043 => R.ok ((y_6043.1 + v_step.1), (y_6043.2 + v_step.2))) x_6044).bind fun ys => chk (ys.length ≤ sizeLine) ys).bind fun x_6045 => R.ok x_6045).bind fun x_6047 => ((ofOpt due_6033).bind fun x_6046 => R.ok x_6046.2).bind fun x_6048 => R.ok (x_6047, x_6048)).bind fun x_6049 => R.ok ((fun x => Dy.tup [(fun xs => Dy.tup (List.map (fun x => Dy.tup [Dy.int x.1, Dy.int x.2]) xs)) x.1, Dy.bl x.2]) x_6049)).bind fun x_6050 => R.ok (((dyO (fun x => Dy.tup [(fun xs => Dy.tup (List.map (fun x => Dy.tup [Dy.int x.1, Dy.int x.2]) xs)) x.1, Dy.bl x.2])) found_6034), x_6050)).bind fun x_6051 => m_law_same 12 x_6051.1 x_6051.2
def m_law_noted (v_cells : List (Int × Int)) : R (List ((Int × Int) × Bool)) :=
  (forR (τ := List ((Int × Int) × Bool)) (fun s_6080 x_6081 => let v_6082 : Bool := true; let k_6083 : (Int × Int) := x_6081; (chk (s_6080.length < sizeLine) ()).bind fun _ => let known_6084 : List ((Int × Int) × Bool) := (dPut s_6080 k_6083 v_6082); R.ok known_6084) v_cells ([] : List ((Int × Int) × Bool))).bind fun s_6085 => R.ok s_6085
def m_law_more (v_plan : Pl) (v_shape : ((List (Int × Int)) × Bool)) (v_other : ((List (Int × Int)) × Bool)) : R Bool :=
  (((chk ((v_shape.1).length + (v_other.1).length ≤ sizeLine) (v_shape.1 ++ v_other.1)).bind fun x_6104 => sortSet x_6104).bind fun x_6105 => R.ok x_6105).bind fun cells_6106 => ((if v_shape.2 = true then (((fmR (fun y_6107 => R.ok (!hasB y_6107 v_other.1)) (fun y_6107 => R.ok y_6107) v_shape.1).bind fun ys => chk (ys.length ≤ sizeLine) ys).bind fun x_6108 => R.ok x_6108).bind fun cells_6109 => R.ok cells_6109 else R.ok cells_6106) : R (List (Int × Int))).bind fun s_6110 => (m_law_done v_plan v_shape).bind fun less_6111 => (m_law_done v_plan (s_6110, v_shape.2)).bind fun more_6112 => if ((less_6111).isNone || (more_6112).isNone) = true then R.ok true else ((ofOpt less_6111).bind fun x_6113 => R.ok x_6113.2).bind fun x_6132 => if x_6132 = true then (((ofOpt less_6111).bind fun x_6114 => R.ok x_6114.1).bind fun x_6115 => m_law_noted x_6115).bind fun known_6116 => ((ofOpt more_6112).bind fun x_6117 => R.ok x_6117.2).bind fun x_6122 => if x_6122 = true then (((ofOpt more_6112).bind fun x_6118 => R.ok x_6118.1).bind fun x_6120 => (mapR (fun y_6119 => R.ok ((dGet known_6116 y_6119).isSome)) x_6120).bind fun ys => chk (ys.length ≤ sizeLine) ys).bind fun x_6121 => R.ok ((x_6121).all id) else R.ok false else (((ofOpt more_6112).bind fun x_6123 => R.ok x_6123.1).bind fun x_6124 => m_law_noted x_6124).bind fun known_6125 => (((ofOpt less_6111).bind fun x_6126 => R.ok x_6126.1).bind fun x_6130 => (mapR (fun y_6127 => ((ofOpt more_6112).bind fun x_6128 => R.ok x_6128.2).bind fun x_6129 => R.ok (!decide (((dGet known_6125 y_6127).isSome) = x_6129))) x_6130).bind fun ys => chk (ys.length ≤ sizeLine) ys).bind fun x_6131 => R.ok ((x_6131).all id)
def m_law_refused (v_plan : Pl) (v_turn : Int) : R Bool :=
  let found_6155 : Bool := false; (catchR (fun s => if s = ("BadTurn" : Str) then some true else if s = ("TooMany" : Str) then some true else none) (fun r_6166 => ((ofOpt ((fun s => if s = ("BadTurn" : Str) then some true else if s = ("TooMany" : Str) then some false else none) r_6166.cls)).bind fun x_6173 => if x_6173 = true then (ofOpt ((fun s => if s = ("BadTurn" : Str) then some true else if s = ("TooMany" : Str) then some true else none) r_6166.cls)).bind fun x_6172 => if x_6172 = true then (ofOpt ((fun s => if s = ("BadTurn" : Str) then some false else if s = ("TooMany" : Str) then some true else none) r_6166.cls)).bind fun x_6171 => R.ok (!x_6171) else R.ok false else R.ok false).bind fun found_6174 => R.ok found_6174) (((m_D_by_turn 8 v_plan v_turn).bind fun _ => R.ok found_6155) : R Bool)).bind fun s_6175 => R.ok s_6175
def m_law (v_script : List Int) : R Bool :=
  (chk ((cutL v_script none (some (12 : Int))).length + ([(8 : Int)]).length ≤ sizeLine) (cutL v_script none (some (12 : Int)) ++ [(8 : Int)])).bind fun x_6294 => (forS (τ := Unit) (γ := Bool) (fun s_6223 x_6224 => ((m_law_deal x_6224 (60 : Int)).bind fun x_6225 => R.ok (x_6225 :: [])).bind fun pot_6226 => (m_law_take pot_6226 (4 : Int)).calm.bind fun z_6291 => (m_law_form 6 z_6291.2 z_6291.1 (3 : Int)).calm.bind fun form_6227 => ((m_law_take form_6227.2 (8 : Int)).calm.bind fun z_6289 => R.ok ((decide (z_6289.1 = (0 : Int))), z_6289.2)).bind fun w_6288 => let s_6228 := w_6288.2; ((if w_6288.1 = true then (m_law_great s_6228).calm.bind fun form_6229 => R.ok (form_6229.2, form_6229.1) else R.ok (s_6228, form_6227.1)) : R ((List Int) × Dy)).bind fun s_6230 => (m_law_plan 8 s_6230.2).bind fun plan_6231 => (m_law_shape s_6230.1).calm.bind fun one_6232 => (m_law_shape one_6232.2).calm.bind fun other_6233 => (m_law_take other_6233.2 (8 : Int)).calm.bind fun turn_6234 => ((((m_law_turns s_6230.2 plan_6231 [one_6232.1, other_6233.1, one_6232.1] turn_6234.1).bind fun x_6280 => R.ok (!x_6280)).bind fun x_6281 => if x_6281 = true then R.ok (true, turn_6234.2) else (m_law_step turn_6234.2).calm.bind fun z_6283 => (m_law_moves plan_6231 one_6232.1 z_6283.1).bind fun x_6282 => R.ok ((!x_6282), z_6283.2)).bind fun w_6279 => R.ok (w_6279.1, w_6279.2)).bind fun w_6278 => let s_6236 := w_6278.2; if w_6278.1 = true then R.ok (Stp.rt false) else ((((((chk (0 < (10000000000000000000000000000000000000000 : Int)) (x_6224 % (10000000000000000000000000000000000000000 : Int))).bind fun x_6258 => R.ok ((8 : Int) + x_6258)).bind fun x_6261 => (((chk (0 < (10000000000000000000000000000000000000000 : Int)) (x_6224 % (10000000000000000000000000000000000000000 : Int))).bind fun x_6259 => R.ok ((-(1 : Int)) - x_6259)).bind fun x_6260 => R.ok (x_6260 :: [])).bind fun x_6262 => R.ok (x_6261 :: x_6262)).bind fun x_6263 => R.ok ((-(1 : Int)) :: x_6263)).bind fun x_6264 => R.ok ((8 : Int) :: x_6264)).bind fun x_6265 => (m_law_take s_6236 (4 : Int)).calm.bind fun z_6266 => (ofOpt (atI x_6265 z_6266.1)).bind fun x_6267 => R.ok (x_6267, z_6266.2)).bind fun bad_6246 => (((m_law_more plan_6231 one_6232.1 other_6233.1).bind fun x_6247 => R.ok (!x_6247)).bind fun x_6254 => if x_6254 = true then R.ok true else ((m_law_refused plan_6231 bad_6246.1).bind fun x_6248 => R.ok (!x_6248)).bind fun x_6253 => if x_6253 = true then R.ok true else ((m_law_words 8 s_6230.2).bind fun x_6249 => R.ok ((fun xs => Dy.lst (List.map Dy.str xs)) x_6249)).bind fun x_6251 => ((m_D_words 8 plan_6231).bind fun x_6250 => R.ok ((fun xs => Dy.lst (List.map Dy.str xs)) x_6250)).bind fun x_6252 => chk (Dy.shp x_6251 = true ∧ Dy.shp x_6252 = true) (!Dy.eqv x_6251 x_6252)).bind fun x_6255 => if x_6255 = true then R.ok (Stp.rt false) else R.ok (Stp.nx ())) x_6294 ()).bind (outK (fun s_6293 => R.ok true) (fun a => a))
/-- what stands behind the top -/
structure Txt (K : PySem.W.Frag) (mg : Str → Option Value) (Ad : Adr) : Prop where
  gc_BadCell : mg "BadCell" = some (.ref Ad.c_BadCell)
  gc_BadTurn : mg "BadTurn" = some (.ref Ad.c_BadTurn)
  gc_Both : mg "Both" = some (.ref Ad.c_Both)
  gc_Eat : mg "Eat" = some (.ref Ad.c_Eat)
  gc_Either : mg "Either" = some (.ref Ad.c_Either)
  gc_Everything : mg "Everything" = some (.ref Ad.c_Everything)
  gc_Grow : mg "Grow" = some (.ref Ad.c_Grow)
  gc_Keep : mg "Keep" = some (.ref Ad.c_Keep)
  gc_MossError : mg "MossError" = some (.ref Ad.c_MossError)
  gc_Move : mg "Move" = some (.ref Ad.c_Move)
  gc_Nothing : mg "Nothing" = some (.ref Ad.c_Nothing)
  gc_TooMany : mg "TooMany" = some (.ref Ad.c_TooMany)
  x_BadTurn : ExX K mg "BadTurn" Ad.c_BadTurn
  x_TooMany : ExX K mg "TooMany" Ad.c_TooMany
  e_BadTurn_MossError : PySem.W.exmOne K (.ref Ad.c_BadTurn) (.ref Ad.c_MossError) = some true
  e_BadTurn_TooMany : PySem.W.exmOne K (.ref Ad.c_BadTurn) (.ref Ad.c_TooMany) = some false
  e_TooMany_MossError : PySem.W.exmOne K (.ref Ad.c_TooMany) (.ref Ad.c_MossError) = some true
  e_TooMany_TooMany : PySem.W.exmOne K (.ref Ad.c_TooMany) (.ref Ad.c_TooMany) = some true
  i_BadTurn_BadTurn : PySem.W.kitOne K (.ref Ad.c_BadTurn) (.ref Ad.c_BadTurn) = some true
  i_BadTurn_ValueError : PySem.W.kitOne K (.ref Ad.c_BadTurn) (.type "ValueError") = some true
  i_TooMany_BadTurn : PySem.W.kitOne K (.ref Ad.c_TooMany) (.ref Ad.c_BadTurn) = some false
  i_TooMany_ValueError : PySem.W.kitOne K (.ref Ad.c_TooMany) (.type "ValueError") = some true
  t_BadTurn_BadCell_TooMany : PySem.W.kitAny K (.ref Ad.c_BadTurn) [.ref Ad.c_BadCell, .ref Ad.c_TooMany] = some false
  t_TooMany_BadCell_TooMany : PySem.W.kitAny K (.ref Ad.c_TooMany) [.ref Ad.c_BadCell, .ref Ad.c_TooMany] = some true
  pl : PlC K (csl Ad)
  mk_Keep : Mk0 K Ad.c_Keep
  mk_Nothing : Mk0 K Ad.c_Nothing
  mk_Everything : Mk0 K Ad.c_Everything
  mk_Move : Mk K Ad.c_Move Ad.fMove___init__
  mk_Eat : Mk K Ad.c_Eat Ad.fEat___init__
  mk_Grow : Mk K Ad.c_Grow Ad.fGrow___init__
  mk_Both : Mk K Ad.c_Both Ad.fBoth___init__
  mk_Either : Mk K Ad.c_Either Ad.fEither___init__
  mt_Both_by_turn : Meth K Ad.c_Both "by_turn" Ad.fBoth_by_turn
  mt_Both_done : Meth K Ad.c_Both "done" Ad.fPlan_done
  mt_Both_made : Meth K Ad.c_Both "made" Ad.fBoth_made
  mt_Both_words : Meth K Ad.c_Both "words" Ad.fBoth_words
  mt_Eat_by_turn : Meth K Ad.c_Eat "by_turn" Ad.fEat_by_turn
  mt_Eat_done : Meth K Ad.c_Eat "done" Ad.fPlan_done
  mt_Eat_made : Meth K Ad.c_Eat "made" Ad.fEat_made
  mt_Eat_words : Meth K Ad.c_Eat "words" Ad.fEat_words
  mt_Either_by_turn : Meth K Ad.c_Either "by_turn" Ad.fEither_by_turn
  mt_Either_done : Meth K Ad.c_Either "done" Ad.fPlan_done
  mt_Either_made : Meth K Ad.c_Either "made" Ad.fEither_made
  mt_Either_words : Meth K Ad.c_Either "words" Ad.fEither_words
  mt_Everything_by_turn : Meth K Ad.c_Everything "by_turn" Ad.fEverything_by_turn
  mt_Everything_done : Meth K Ad.c_Everything "done" Ad.fPlan_done
  mt_Everything_made : Meth K Ad.c_Everything "made" Ad.fEverything_made
  mt_Everything_words : Meth K Ad.c_Everything "words" Ad.fEverything_words
  mt_Grow_by_turn : Meth K Ad.c_Grow "by_turn" Ad.fGrow_by_turn
  mt_Grow_done : Meth K Ad.c_Grow "done" Ad.fPlan_done
  mt_Grow_made : Meth K Ad.c_Grow "made" Ad.fGrow_made
  mt_Grow_words : Meth K Ad.c_Grow "words" Ad.fGrow_words
  mt_Keep_by_turn : Meth K Ad.c_Keep "by_turn" Ad.fKeep_by_turn
  mt_Keep_done : Meth K Ad.c_Keep "done" Ad.fPlan_done
  mt_Keep_made : Meth K Ad.c_Keep "made" Ad.fPlan_made
  mt_Keep_words : Meth K Ad.c_Keep "words" Ad.fKeep_words
  mt_Move_by_turn : Meth K Ad.c_Move "by_turn" Ad.fMove_by_turn
  mt_Move_done : Meth K Ad.c_Move "done" Ad.fPlan_done
  mt_Move_made : Meth K Ad.c_Move "made" Ad.fMove_made
  mt_Move_words : Meth K Ad.c_Move "words" Ad.fMove_words
  mt_Nothing_by_turn : Meth K Ad.c_Nothing "by_turn" Ad.fNothing_by_turn
  mt_Nothing_done : Meth K Ad.c_Nothing "done" Ad.fPlan_done
  mt_Nothing_made : Meth K Ad.c_Nothing "made" Ad.fNothing_made
  mt_Nothing_words : Meth K Ad.c_Nothing "words" Ad.fNothing_words
  F__law_deal : FunZ K "_law_deal" "_law_deal" s_law_deal Ad.f_law_deal Ad.d_law_deal
  g__law_deal : mg "_law_deal" = some (.ref Ad.f_law_deal)
  k__law_deal : PySem.W.keepIn K (.ref Ad.f_law_deal) = true
  b__law_deal : Binds K Ad.d_law_deal ["cell", "many"] []
  F__law_take : FunZ K "_law_take" "_law_take" s_law_take Ad.f_law_take Ad.d_law_take
  g__law_take : mg "_law_take" = some (.ref Ad.f_law_take)
  k__law_take : PySem.W.keepIn K (.ref Ad.f_law_take) = true
  b__law_take : Binds K Ad.d_law_take ["pot", "many"] []
  F__law_step : FunZ K "_law_step" "_law_step" s_law_step Ad.f_law_step Ad.d_law_step
  g__law_step : mg "_law_step" = some (.ref Ad.f_law_step)
  k__law_step : PySem.W.keepIn K (.ref Ad.f_law_step) = true
  b__law_step : Binds K Ad.d_law_step ["pot"] []
  F__law_piece : FunZ K "_law_piece" "_law_piece" s_law_piece Ad.f_law_piece Ad.d_law_piece
  g__law_piece : mg "_law_piece" = some (.ref Ad.f_law_piece)
  k__law_piece : PySem.W.keepIn K (.ref Ad.f_law_piece) = true
  b__law_piece : Binds K Ad.d_law_piece ["pot", "most"] []
  F__law_form : FunZ K "_law_form" "_law_form" s_law_form Ad.f_law_form Ad.d_law_form
  g__law_form : mg "_law_form" = some (.ref Ad.f_law_form)
  k__law_form : PySem.W.keepIn K (.ref Ad.f_law_form) = true
  b__law_form : Binds K Ad.d_law_form ["pot", "depth", "most"] []
  F__law_great : FunZ K "_law_great" "_law_great" s_law_great Ad.f_law_great Ad.d_law_great
  g__law_great : mg "_law_great" = some (.ref Ad.f_law_great)
  k__law_great : PySem.W.keepIn K (.ref Ad.f_law_great) = true
  b__law_great : Binds K Ad.d_law_great ["pot"] []
  F__law_plan : FunZ K "_law_plan" "_law_plan" s_law_plan Ad.f_law_plan Ad.d_law_plan
  g__law_plan : mg "_law_plan" = some (.ref Ad.f_law_plan)
  k__law_plan : PySem.W.keepIn K (.ref Ad.f_law_plan) = true
  b__law_plan : Binds K Ad.d_law_plan ["form"] []
  F__law_shape : FunZ K "_law_shape" "_law_shape" s_law_shape Ad.f_law_shape Ad.d_law_shape
  g__law_shape : mg "_law_shape" = some (.ref Ad.f_law_shape)
  k__law_shape : PySem.W.keepIn K (.ref Ad.f_law_shape) = true
  b__law_shape : Binds K Ad.d_law_shape ["pot"] []
  F_look_at_turn : FunZ K "look_at_turn" "look_at_turn" slook_at_turn Ad.flook_at_turn Ad.dlook_at_turn
  g_look_at_turn : mg "look_at_turn" = some (.ref Ad.flook_at_turn)
  k_look_at_turn : PySem.W.keepIn K (.ref Ad.flook_at_turn) = true
  b_look_at_turn : Binds K Ad.dlook_at_turn ["turn"] []
  F_Keep_by_turn : FunZ K "by_turn" "Keep.by_turn" sKeep_by_turn Ad.fKeep_by_turn Ad.dKeep_by_turn
  k_Keep_by_turn : PySem.W.keepIn K (.ref Ad.fKeep_by_turn) = true
  b_Keep_by_turn : Binds K Ad.dKeep_by_turn ["self", "turn"] []
  F_Nothing_by_turn : FunZ K "by_turn" "Nothing.by_turn" sNothing_by_turn Ad.fNothing_by_turn Ad.dNothing_by_turn
  k_Nothing_by_turn : PySem.W.keepIn K (.ref Ad.fNothing_by_turn) = true
  b_Nothing_by_turn : Binds K Ad.dNothing_by_turn ["self", "turn"] []
  F_Everything_by_turn : FunZ K "by_turn" "Everything.by_turn" sEverything_by_turn Ad.fEverything_by_turn Ad.dEverything_by_turn
  k_Everything_by_turn : PySem.W.keepIn K (.ref Ad.fEverything_by_turn) = true
  b_Everything_by_turn : Binds K Ad.dEverything_by_turn ["self", "turn"] []
  F_turned_cell : FunZ K "turned_cell" "turned_cell" sturned_cell Ad.fturned_cell Ad.dturned_cell
  g_turned_cell : mg "turned_cell" = some (.ref Ad.fturned_cell)
  k_turned_cell : PySem.W.keepIn K (.ref Ad.fturned_cell) = true
  b_turned_cell : Binds K Ad.dturned_cell ["cell", "turn"] []
  F_Move_by_turn : FunZ K "by_turn" "Move.by_turn" sMove_by_turn Ad.fMove_by_turn Ad.dMove_by_turn
  k_Move_by_turn : PySem.W.keepIn K (.ref Ad.fMove_by_turn) = true
  b_Move_by_turn : Binds K Ad.dMove_by_turn ["self", "turn"] []
  F_rising : FunZ K "rising" "rising" srising Ad.frising Ad.drising
  g_rising : mg "rising" = some (.ref Ad.frising)
  k_rising : PySem.W.keepIn K (.ref Ad.frising) = true
  b_rising : Binds K Ad.drising ["cells"] []
  F_turned_piece : FunZ K "turned_piece" "turned_piece" sturned_piece Ad.fturned_piece Ad.dturned_piece
  g_turned_piece : mg "turned_piece" = some (.ref Ad.fturned_piece)
  k_turned_piece : PySem.W.keepIn K (.ref Ad.fturned_piece) = true
  b_turned_piece : Binds K Ad.dturned_piece ["piece", "turn"] []
  F_Eat_by_turn : FunZ K "by_turn" "Eat.by_turn" sEat_by_turn Ad.fEat_by_turn Ad.dEat_by_turn
  k_Eat_by_turn : PySem.W.keepIn K (.ref Ad.fEat_by_turn) = true
  b_Eat_by_turn : Binds K Ad.dEat_by_turn ["self", "turn"] []
  F_Grow_by_turn : FunZ K "by_turn" "Grow.by_turn" sGrow_by_turn Ad.fGrow_by_turn Ad.dGrow_by_turn
  k_Grow_by_turn : PySem.W.keepIn K (.ref Ad.fGrow_by_turn) = true
  b_Grow_by_turn : Binds K Ad.dGrow_by_turn ["self", "turn"] []
  F_Both_by_turn : FunZ K "by_turn" "Both.by_turn" sBoth_by_turn Ad.fBoth_by_turn Ad.dBoth_by_turn
  k_Both_by_turn : PySem.W.keepIn K (.ref Ad.fBoth_by_turn) = true
  b_Both_by_turn : Binds K Ad.dBoth_by_turn ["self", "turn"] []
  F_Either_by_turn : FunZ K "by_turn" "Either.by_turn" sEither_by_turn Ad.fEither_by_turn Ad.dEither_by_turn
  k_Either_by_turn : PySem.W.keepIn K (.ref Ad.fEither_by_turn) = true
  b_Either_by_turn : Binds K Ad.dEither_by_turn ["self", "turn"] []
  F_Keep_words : FunZ K "words" "Keep.words" sKeep_words Ad.fKeep_words Ad.dKeep_words
  k_Keep_words : PySem.W.keepIn K (.ref Ad.fKeep_words) = true
  b_Keep_words : Binds K Ad.dKeep_words ["self"] []
  F_Nothing_words : FunZ K "words" "Nothing.words" sNothing_words Ad.fNothing_words Ad.dNothing_words
  k_Nothing_words : PySem.W.keepIn K (.ref Ad.fNothing_words) = true
  b_Nothing_words : Binds K Ad.dNothing_words ["self"] []
  F_Everything_words : FunZ K "words" "Everything.words" sEverything_words Ad.fEverything_words Ad.dEverything_words
  k_Everything_words : PySem.W.keepIn K (.ref Ad.fEverything_words) = true
  b_Everything_words : Binds K Ad.dEverything_words ["self"] []
  F_step_words : FunZ K "step_words" "step_words" sstep_words Ad.fstep_words Ad.dstep_words
  g_step_words : mg "step_words" = some (.ref Ad.fstep_words)
  k_step_words : PySem.W.keepIn K (.ref Ad.fstep_words) = true
  b_step_words : Binds K Ad.dstep_words ["steps"] []
  F_Move_words : FunZ K "words" "Move.words" sMove_words Ad.fMove_words Ad.dMove_words
  k_Move_words : PySem.W.keepIn K (.ref Ad.fMove_words) = true
  b_Move_words : Binds K Ad.dMove_words ["self"] []
  F_Eat_words : FunZ K "words" "Eat.words" sEat_words Ad.fEat_words Ad.dEat_words
  k_Eat_words : PySem.W.keepIn K (.ref Ad.fEat_words) = true
  b_Eat_words : Binds K Ad.dEat_words ["self"] []
  F_Grow_words : FunZ K "words" "Grow.words" sGrow_words Ad.fGrow_words Ad.dGrow_words
  k_Grow_words : PySem.W.keepIn K (.ref Ad.fGrow_words) = true
  b_Grow_words : Binds K Ad.dGrow_words ["self"] []
  F_Both_words : FunZ K "words" "Both.words" sBoth_words Ad.fBoth_words Ad.dBoth_words
  k_Both_words : PySem.W.keepIn K (.ref Ad.fBoth_words) = true
  b_Both_words : Binds K Ad.dBoth_words ["self"] []
  F_Either_words : FunZ K "words" "Either.words" sEither_words Ad.fEither_words Ad.dEither_words
  k_Either_words : PySem.W.keepIn K (.ref Ad.fEither_words) = true
  b_Either_words : Binds K Ad.dEither_words ["self"] []
  F__law_turned_cell : FunZ K "_law_turned_cell" "_law_turned_cell" s_law_turned_cell Ad.f_law_turned_cell Ad.d_law_turned_cell
  g__law_turned_cell : mg "_law_turned_cell" = some (.ref Ad.f_law_turned_cell)
  k__law_turned_cell : PySem.W.keepIn K (.ref Ad.f_law_turned_cell) = true
  b__law_turned_cell : Binds K Ad.d_law_turned_cell ["cell", "turn"] []
  F__law_turned_cells : FunZ K "_law_turned_cells" "_law_turned_cells" s_law_turned_cells Ad.f_law_turned_cells Ad.d_law_turned_cells
  g__law_turned_cells : mg "_law_turned_cells" = some (.ref Ad.f_law_turned_cells)
  k__law_turned_cells : PySem.W.keepIn K (.ref Ad.f_law_turned_cells) = true
  b__law_turned_cells : Binds K Ad.d_law_turned_cells ["cells", "turn"] []
  F__law_turned : FunZ K "_law_turned" "_law_turned" s_law_turned Ad.f_law_turned Ad.d_law_turned
  g__law_turned : mg "_law_turned" = some (.ref Ad.f_law_turned)
  k__law_turned : PySem.W.keepIn K (.ref Ad.f_law_turned) = true
  b__law_turned : Binds K Ad.d_law_turned ["form", "turn"] []
  F__law_parts : FunZ K "_law_parts" "_law_parts" s_law_parts Ad.f_law_parts Ad.d_law_parts
  g__law_parts : mg "_law_parts" = some (.ref Ad.f_law_parts)
  k__law_parts : PySem.W.keepIn K (.ref Ad.f_law_parts) = true
  b__law_parts : Binds K Ad.d_law_parts ["form"] []
  F__law_words : FunZ K "_law_words" "_law_words" s_law_words Ad.f_law_words Ad.d_law_words
  g__law_words : mg "_law_words" = some (.ref Ad.f_law_words)
  k__law_words : PySem.W.keepIn K (.ref Ad.f_law_words) = true
  b__law_words : Binds K Ad.d_law_words ["form"] []
  F__law_same : FunZ K "_law_same" "_law_same" s_law_same Ad.f_law_same Ad.d_law_same
  g__law_same : mg "_law_same" = some (.ref Ad.f_law_same)
  k__law_same : PySem.W.keepIn K (.ref Ad.f_law_same) = true
  b__law_same : Binds K Ad.d_law_same ["found", "due"] []
  F_Plan_made : FunZ K "made" "Plan.made" sPlan_made Ad.fPlan_made Ad.dPlan_made
  k_Plan_made : PySem.W.keepIn K (.ref Ad.fPlan_made) = true
  b_Plan_made : Binds K Ad.dPlan_made ["self", "shape"] []
  F_Nothing_made : FunZ K "made" "Nothing.made" sNothing_made Ad.fNothing_made Ad.dNothing_made
  k_Nothing_made : PySem.W.keepIn K (.ref Ad.fNothing_made) = true
  b_Nothing_made : Binds K Ad.dNothing_made ["self", "shape"] []
  F_Everything_made : FunZ K "made" "Everything.made" sEverything_made Ad.fEverything_made Ad.dEverything_made
  k_Everything_made : PySem.W.keepIn K (.ref Ad.fEverything_made) = true
  b_Everything_made : Binds K Ad.dEverything_made ["self", "shape"] []
  F_moved_cell : FunZ K "moved_cell" "moved_cell" smoved_cell Ad.fmoved_cell Ad.dmoved_cell
  g_moved_cell : mg "moved_cell" = some (.ref Ad.fmoved_cell)
  k_moved_cell : PySem.W.keepIn K (.ref Ad.fmoved_cell) = true
  b_moved_cell : Binds K Ad.dmoved_cell ["cell", "step"] []
  F_moved : FunZ K "moved" "moved" smoved Ad.fmoved Ad.dmoved
  g_moved : mg "moved" = some (.ref Ad.fmoved)
  k_moved : PySem.W.keepIn K (.ref Ad.fmoved) = true
  b_moved : Binds K Ad.dmoved ["shape", "step"] []
  F_Move_made : FunZ K "made" "Move.made" sMove_made Ad.fMove_made Ad.dMove_made
  k_Move_made : PySem.W.keepIn K (.ref Ad.fMove_made) = true
  b_Move_made : Binds K Ad.dMove_made ["self", "shape"] []
  F_mirrored : FunZ K "mirrored" "mirrored" smirrored Ad.fmirrored Ad.dmirrored
  g_mirrored : mg "mirrored" = some (.ref Ad.fmirrored)
  k_mirrored : PySem.W.keepIn K (.ref Ad.fmirrored) = true
  b_mirrored : Binds K Ad.dmirrored ["piece"] []
  F_lies_on : FunZ K "lies_on" "lies_on" slies_on Ad.flies_on Ad.dlies_on
  g_lies_on : mg "lies_on" = some (.ref Ad.flies_on)
  k_lies_on : PySem.W.keepIn K (.ref Ad.flies_on) = true
  b_lies_on : Binds K Ad.dlies_on ["piece", "cell"] []
  F_reached : FunZ K "reached" "reached" sreached Ad.freached Ad.dreached
  g_reached : mg "reached" = some (.ref Ad.freached)
  k_reached : PySem.W.keepIn K (.ref Ad.freached) = true
  b_reached : Binds K Ad.dreached ["cells", "piece"] []
  F_less_cell : FunZ K "less_cell" "less_cell" sless_cell Ad.fless_cell Ad.dless_cell
  g_less_cell : mg "less_cell" = some (.ref Ad.fless_cell)
  k_less_cell : PySem.W.keepIn K (.ref Ad.fless_cell) = true
  b_less_cell : Binds K Ad.dless_cell ["cell", "step"] []
  F_kept_at : FunZ K "kept_at" "kept_at" skept_at Ad.fkept_at Ad.dkept_at
  g_kept_at : mg "kept_at" = some (.ref Ad.fkept_at)
  k_kept_at : PySem.W.keepIn K (.ref Ad.fkept_at) = true
  b_kept_at : Binds K Ad.dkept_at ["cells", "piece"] []
  F_eaten : FunZ K "eaten" "eaten" seaten Ad.featen Ad.deaten
  g_eaten : mg "eaten" = some (.ref Ad.featen)
  k_eaten : PySem.W.keepIn K (.ref Ad.featen) = true
  b_eaten : Binds K Ad.deaten ["shape", "piece"] []
  F_Eat_made : FunZ K "made" "Eat.made" sEat_made Ad.fEat_made Ad.dEat_made
  k_Eat_made : PySem.W.keepIn K (.ref Ad.fEat_made) = true
  b_Eat_made : Binds K Ad.dEat_made ["self", "shape"] []
  F_grown : FunZ K "grown" "grown" sgrown Ad.fgrown Ad.dgrown
  g_grown : mg "grown" = some (.ref Ad.fgrown)
  k_grown : PySem.W.keepIn K (.ref Ad.fgrown) = true
  b_grown : Binds K Ad.dgrown ["shape", "piece"] []
  F_Grow_made : FunZ K "made" "Grow.made" sGrow_made Ad.fGrow_made Ad.dGrow_made
  k_Grow_made : PySem.W.keepIn K (.ref Ad.fGrow_made) = true
  b_Grow_made : Binds K Ad.dGrow_made ["self", "shape"] []
  F_only_in : FunZ K "only_in" "only_in" sonly_in Ad.fonly_in Ad.donly_in
  g_only_in : mg "only_in" = some (.ref Ad.fonly_in)
  k_only_in : PySem.W.keepIn K (.ref Ad.fonly_in) = true
  b_only_in : Binds K Ad.donly_in ["one", "other"] []
  F_both : FunZ K "both" "both" sboth Ad.fboth Ad.dboth
  g_both : mg "both" = some (.ref Ad.fboth)
  k_both : PySem.W.keepIn K (.ref Ad.fboth) = true
  b_both : Binds K Ad.dboth ["one", "other"] []
  F_Both_made : FunZ K "made" "Both.made" sBoth_made Ad.fBoth_made Ad.dBoth_made
  k_Both_made : PySem.W.keepIn K (.ref Ad.fBoth_made) = true
  b_Both_made : Binds K Ad.dBoth_made ["self", "shape"] []
  F_outside : FunZ K "outside" "outside" soutside Ad.foutside Ad.doutside
  g_outside : mg "outside" = some (.ref Ad.foutside)
  k_outside : PySem.W.keepIn K (.ref Ad.foutside) = true
  b_outside : Binds K Ad.doutside ["shape"] []
  F_either : FunZ K "either" "either" seither Ad.feither Ad.deither
  g_either : mg "either" = some (.ref Ad.feither)
  k_either : PySem.W.keepIn K (.ref Ad.feither) = true
  b_either : Binds K Ad.deither ["one", "other"] []
  F_Either_made : FunZ K "made" "Either.made" sEither_made Ad.fEither_made Ad.dEither_made
  k_Either_made : PySem.W.keepIn K (.ref Ad.fEither_made) = true
  b_Either_made : Binds K Ad.dEither_made ["self", "shape"] []
  F_Plan_done : FunZ K "done" "Plan.done" sPlan_done Ad.fPlan_done Ad.dPlan_done
  k_Plan_done : PySem.W.keepIn K (.ref Ad.fPlan_done) = true
  b_Plan_done : Binds K Ad.dPlan_done ["self", "shape"] []
  F__law_done : FunZ K "_law_done" "_law_done" s_law_done Ad.f_law_done Ad.d_law_done
  g__law_done : mg "_law_done" = some (.ref Ad.f_law_done)
  k__law_done : PySem.W.keepIn K (.ref Ad.f_law_done) = true
  b__law_done : Binds K Ad.d_law_done ["plan", "shape"] []
  F__law_turns : FunZ K "_law_turns" "_law_turns" s_law_turns Ad.f_law_turns Ad.d_law_turns
  g__law_turns : mg "_law_turns" = some (.ref Ad.f_law_turns)
  k__law_turns : PySem.W.keepIn K (.ref Ad.f_law_turns) = true
  b__law_turns : Binds K Ad.d_law_turns ["form", "plan", "shapes", "turn"] []
  F__law_moves : FunZ K "_law_moves" "_law_moves" s_law_moves Ad.f_law_moves Ad.d_law_moves
  g__law_moves : mg "_law_moves" = some (.ref Ad.f_law_moves)
  k__law_moves : PySem.W.keepIn K (.ref Ad.f_law_moves) = true
  b__law_moves : Binds K Ad.d_law_moves ["plan", "shape", "step"] []
  F__law_noted : FunZ K "_law_noted" "_law_noted" s_law_noted Ad.f_law_noted Ad.d_law_noted
  g__law_noted : mg "_law_noted" = some (.ref Ad.f_law_noted)
  k__law_noted : PySem.W.keepIn K (.ref Ad.f_law_noted) = true
  b__law_noted : Binds K Ad.d_law_noted ["cells"] []
  F__law_more : FunZ K "_law_more" "_law_more" s_law_more Ad.f_law_more Ad.d_law_more
  g__law_more : mg "_law_more" = some (.ref Ad.f_law_more)
  k__law_more : PySem.W.keepIn K (.ref Ad.f_law_more) = true
  b__law_more : Binds K Ad.d_law_more ["plan", "shape", "other"] []
  F__law_refused : FunZ K "_law_refused" "_law_refused" s_law_refused Ad.f_law_refused Ad.d_law_refused
  g__law_refused : mg "_law_refused" = some (.ref Ad.f_law_refused)
  k__law_refused : PySem.W.keepIn K (.ref Ad.f_law_refused) = true
  b__law_refused : Binds K Ad.d_law_refused ["plan", "turn"] []
  F_law : FunZ K "law" "law" slaw Ad.flaw Ad.dlaw
  g_law : mg "law" = some (.ref Ad.flaw)
  k_law : PySem.W.keepIn K (.ref Ad.flaw) = true
  b_law : Binds K Ad.dlaw ["script"] []
  F_Move___init__ : Fun K "__init__" "Move.__init__" sMove___init__ Ad.fMove___init__ Ad.dMove___init__
  k_Move___init__ : PySem.W.keepIn K (.ref Ad.fMove___init__) = true
  b_Move___init__ : Binds K Ad.dMove___init__ ["self", "step", "plan"] []
  F_Eat___init__ : Fun K "__init__" "Eat.__init__" sEat___init__ Ad.fEat___init__ Ad.dEat___init__
  k_Eat___init__ : PySem.W.keepIn K (.ref Ad.fEat___init__) = true
  b_Eat___init__ : Binds K Ad.dEat___init__ ["self", "piece", "plan"] []
  F_Grow___init__ : Fun K "__init__" "Grow.__init__" sGrow___init__ Ad.fGrow___init__ Ad.dGrow___init__
  k_Grow___init__ : PySem.W.keepIn K (.ref Ad.fGrow___init__) = true
  b_Grow___init__ : Binds K Ad.dGrow___init__ ["self", "piece", "plan"] []
  F_Both___init__ : Fun K "__init__" "Both.__init__" sBoth___init__ Ad.fBoth___init__ Ad.dBoth___init__
  k_Both___init__ : PySem.W.keepIn K (.ref Ad.fBoth___init__) = true
  b_Both___init__ : Binds K Ad.dBoth___init__ ["self", "one", "other"] []
  F_Either___init__ : Fun K "__init__" "Either.__init__" sEither___init__ Ad.fEither___init__ Ad.dEither___init__
  k_Either___init__ : PySem.W.keepIn K (.ref Ad.fEither___init__) = true
  b_Either___init__ : Binds K Ad.dEither___init__ ["self", "one", "other"] []
  n_ValueError : mg "ValueError" = none
  n_all : mg "all" = none
  n_bool : mg "bool" = none
  n_int : mg "int" = none
  n_isinstance : mg "isinstance" = none
  n_len : mg "len" = none
  n_list : mg "list" = none
  n_range : mg "range" = none
  n_set : mg "set" = none
  n_sorted : mg "sorted" = none
  n_str : mg "str" = none
  n_tuple : mg "tuple" = none
  n_zip : mg "zip" = none
  c_ALL_TURNS : ∃ t, mg "ALL_TURNS" = some (.int 8 t)
  c_MOST_MADE : ∃ t, mg "MOST_MADE" = some (.int 2000 t)
  c_QUARTERS : ∃ t, mg "QUARTERS" = some (.int 4 t)
section
variable {P : Program} {w : World} {K : PySem.W.Frag} {mg : Str → Option Value} {base : Heap} {Ad : Adr}
theorem w_init_Move (T : Txt K mg Ad) : FnOk P w K mg base CX0 1 Ad.fMove___init__ Ad.dMove___init__ ["self", "step", "plan"] (SpIn Ad.c_Move "step" "plan") := by
  refine T.F_Move___init__.ok scMove___init__ (fun vs H Q E ⟨x, dx, v1, v2, e, _⟩ => by rw [e]; rfl) (fun cdv A outer s H vs Q E hr ⟨x, dx, v1, v2, e, hx, q⟩ => ?_)
  subst e
  refine ⟨_, pss_cons (ps_fld (pv 0) (pv 1) rfl) (pss_one (ps_fld (pv 0) (pv 2) rfl)), ?_⟩
  have ne : ¬ ("step" : Str) = "plan" := by decide +kernel
  refine ⟨_, rfl, _, rfl, x, Ad.c_Move, dx, [], rfl, hx, T.pl.cl _ _ (List.Mem.tail _ (List.Mem.tail _ (List.Mem.tail _ (List.Mem.head _)))), T.pl.nf _ _ _ (List.Mem.tail _ (List.Mem.tail _ (List.Mem.tail _ (List.Mem.head _)))) (by simp [PFs]), (by decide), _, rfl, _, rfl, x, Ad.c_Move, dx, _, rfl, upd_same, T.pl.cl _ _ (List.Mem.tail _ (List.Mem.tail _ (List.Mem.tail _ (List.Mem.head _)))), T.pl.nf _ _ _ (List.Mem.tail _ (List.Mem.tail _ (List.Mem.tail _ (List.Mem.head _)))) (by simp [PFs]), (by show 1 < 1000; decide), ?_⟩
  rw [Py.upd_upd, putF_two ne]
  exact q
theorem w_init_Eat (T : Txt K mg Ad) : FnOk P w K mg base CX0 1 Ad.fEat___init__ Ad.dEat___init__ ["self", "piece", "plan"] (SpIn Ad.c_Eat "piece" "plan") := by
  refine T.F_Eat___init__.ok scEat___init__ (fun vs H Q E ⟨x, dx, v1, v2, e, _⟩ => by rw [e]; rfl) (fun cdv A outer s H vs Q E hr ⟨x, dx, v1, v2, e, hx, q⟩ => ?_)
  subst e
  refine ⟨_, pss_cons (ps_fld (pv 0) (pv 1) rfl) (pss_one (ps_fld (pv 0) (pv 2) rfl)), ?_⟩
  have ne : ¬ ("piece" : Str) = "plan" := by decide +kernel
  refine ⟨_, rfl, _, rfl, x, Ad.c_Eat, dx, [], rfl, hx, T.pl.cl _ _ (List.Mem.tail _ (List.Mem.tail _ (List.Mem.tail _ (List.Mem.tail _ (List.Mem.head _))))), T.pl.nf _ _ _ (List.Mem.tail _ (List.Mem.tail _ (List.Mem.tail _ (List.Mem.tail _ (List.Mem.head _))))) (by simp [PFs]), (by decide), _, rfl, _, rfl, x, Ad.c_Eat, dx, _, rfl, upd_same, T.pl.cl _ _ (List.Mem.tail _ (List.Mem.tail _ (List.Mem.tail _ (List.Mem.tail _ (List.Mem.head _))))), T.pl.nf _ _ _ (List.Mem.tail _ (List.Mem.tail _ (List.Mem.tail _ (List.Mem.tail _ (List.Mem.head _))))) (by simp [PFs]), (by show 1 < 1000; decide), ?_⟩
  rw [Py.upd_upd, putF_two ne]
  exact q
theorem w_init_Grow (T : Txt K mg Ad) : FnOk P w K mg base CX0 1 Ad.fGrow___init__ Ad.dGrow___init__ ["self", "piece", "plan"] (SpIn Ad.c_Grow "piece" "plan") := by
  refine T.F_Grow___init__.ok scGrow___init__ (fun vs H Q E ⟨x, dx, v1, v2, e, _⟩ => by rw [e]; rfl) (fun cdv A outer s H vs Q E hr ⟨x, dx, v1, v2, e, hx, q⟩ => ?_)
  subst e
  refine ⟨_, pss_cons (ps_fld (pv 0) (pv 1) rfl) (pss_one (ps_fld (pv 0) (pv 2) rfl)), ?_⟩
  have ne : ¬ ("piece" : Str) = "plan" := by decide +kernel
  refine ⟨_, rfl, _, rfl, x, Ad.c_Grow, dx, [], rfl, hx, T.pl.cl _ _ (List.Mem.tail _ (List.Mem.tail _ (List.Mem.tail _ (List.Mem.tail _ (List.Mem.tail _ (List.Mem.head _)))))), T.pl.nf _ _ _ (List.Mem.tail _ (List.Mem.tail _ (List.Mem.tail _ (List.Mem.tail _ (List.Mem.tail _ (List.Mem.head _)))))) (by simp [PFs]), (by decide), _, rfl, _, rfl, x, Ad.c_Grow, dx, _, rfl, upd_same, T.pl.cl _ _ (List.Mem.tail _ (List.Mem.tail _ (List.Mem.tail _ (List.Mem.tail _ (List.Mem.tail _ (List.Mem.head _)))))), T.pl.nf _ _ _ (List.Mem.tail _ (List.Mem.tail _ (List.Mem.tail _ (List.Mem.tail _ (List.Mem.tail _ (List.Mem.head _)))))) (by simp [PFs]), (by show 1 < 1000; decide), ?_⟩
  rw [Py.upd_upd, putF_two ne]
  exact q
theorem w_init_Both (T : Txt K mg Ad) : FnOk P w K mg base CX0 1 Ad.fBoth___init__ Ad.dBoth___init__ ["self", "one", "other"] (SpIn Ad.c_Both "one" "other") := by
  refine T.F_Both___init__.ok scBoth___init__ (fun vs H Q E ⟨x, dx, v1, v2, e, _⟩ => by rw [e]; rfl) (fun cdv A outer s H vs Q E hr ⟨x, dx, v1, v2, e, hx, q⟩ => ?_)
  subst e
  refine ⟨_, pss_cons (ps_fld (pv 0) (pv 1) rfl) (pss_one (ps_fld (pv 0) (pv 2) rfl)), ?_⟩
  have ne : ¬ ("one" : Str) = "other" := by decide +kernel
  refine ⟨_, rfl, _, rfl, x, Ad.c_Both, dx, [], rfl, hx, T.pl.cl _ _ (List.Mem.tail _ (List.Mem.tail _ (List.Mem.tail _ (List.Mem.tail _ (List.Mem.tail _ (List.Mem.tail _ (List.Mem.head _))))))), T.pl.nf _ _ _ (List.Mem.tail _ (List.Mem.tail _ (List.Mem.tail _ (List.Mem.tail _ (List.Mem.tail _ (List.Mem.tail _ (List.Mem.head _))))))) (by simp [PFs]), (by decide), _, rfl, _, rfl, x, Ad.c_Both, dx, _, rfl, upd_same, T.pl.cl _ _ (List.Mem.tail _ (List.Mem.tail _ (List.Mem.tail _ (List.Mem.tail _ (List.Mem.tail _ (List.Mem.tail _ (List.Mem.head _))))))), T.pl.nf _ _ _ (List.Mem.tail _ (List.Mem.tail _ (List.Mem.tail _ (List.Mem.tail _ (List.Mem.tail _ (List.Mem.tail _ (List.Mem.head _))))))) (by simp [PFs]), (by show 1 < 1000; decide), ?_⟩
  rw [Py.upd_upd, putF_two ne]
  exact q
theorem w_init_Either (T : Txt K mg Ad) : FnOk P w K mg base CX0 1 Ad.fEither___init__ Ad.dEither___init__ ["self", "one", "other"] (SpIn Ad.c_Either "one" "other") := by
  refine T.F_Either___init__.ok scEither___init__ (fun vs H Q E ⟨x, dx, v1, v2, e, _⟩ => by rw [e]; rfl) (fun cdv A outer s H vs Q E hr ⟨x, dx, v1, v2, e, hx, q⟩ => ?_)
  subst e
  refine ⟨_, pss_cons (ps_fld (pv 0) (pv 1) rfl) (pss_one (ps_fld (pv 0) (pv 2) rfl)), ?_⟩
  have ne : ¬ ("one" : Str) = "other" := by decide +kernel
  refine ⟨_, rfl, _, rfl, x, Ad.c_Either, dx, [], rfl, hx, T.pl.cl _ _ (List.Mem.tail _ (List.Mem.tail _ (List.Mem.tail _ (List.Mem.tail _ (List.Mem.tail _ (List.Mem.tail _ (List.Mem.tail _ (List.Mem.head _)))))))), T.pl.nf _ _ _ (List.Mem.tail _ (List.Mem.tail _ (List.Mem.tail _ (List.Mem.tail _ (List.Mem.tail _ (List.Mem.tail _ (List.Mem.tail _ (List.Mem.head _)))))))) (by simp [PFs]), (by decide), _, rfl, _, rfl, x, Ad.c_Either, dx, _, rfl, upd_same, T.pl.cl _ _ (List.Mem.tail _ (List.Mem.tail _ (List.Mem.tail _ (List.Mem.tail _ (List.Mem.tail _ (List.Mem.tail _ (List.Mem.tail _ (List.Mem.head _)))))))), T.pl.nf _ _ _ (List.Mem.tail _ (List.Mem.tail _ (List.Mem.tail _ (List.Mem.tail _ (List.Mem.tail _ (List.Mem.tail _ (List.Mem.tail _ (List.Mem.head _)))))))) (by simp [PFs]), (by show 1 < 1000; decide), ?_⟩
  rw [Py.upd_upd, putF_two ne]
  exact q
theorem w_law_deal (T : Txt K mg Ad) : FnOk P w K mg base (L2.CX P w) 1 Ad.f_law_deal Ad.d_law_deal ["cell", "many"] (SpP mg (tc rI (t1 rI)) rI (fun a => m_law_deal a.1 a.2)) :=
  have hnd := sc_law_deal.nd
  f_ok (fun a => [im rI a.1, im rI a.2, .any, .any, .any, .any]) T.F__law_deal sc_law_deal (arc ar1) rfl (by decide) (fun _ => rfl) (fun cdv A outer s H E hr tk hp a => SX.cv (
    (p_ifT (x_tcmp op_ge dIb (x_var 0 rfl) (x_powC 1000000000000000000)) (p_retf [] (fun _ => rfl) .nil (x_sub (x_var 0 rfl) (x_powC 1000000000000000000))) (p_set 2 hnd x_int (fun number_5024 => (p_set 3 hnd (x_add (x_modC (x_var 0 rfl)) x_int) (fun one_5025 => (p_for (vs := [4]) (fun (s : (Int × Int)) => [im rI a.1, im rI a.2, im rI s.1, im rI s.2, .any, .any]) _ (number_5024, one_5025) hp (i_range1 T.n_range (a_one (x_var 1 rfl))) (gt_name 4 (by decide) hnd) (fun s_5026 x_5027 => (p_set 3 hnd (x_modC (x_add (x_add (x_mulC (x_var 3 rfl)) (x_mul (x_mulCl (x_var 4 rfl)) (x_var 4 rfl))) x_int)) (fun one_5031 => (p_set 5 hnd (x_modC (x_mul (x_var 3 rfl) (x_var 3 rfl))) (fun two_5033 => (p_set 2 hnd (x_add (x_mulC (x_var 2 rfl)) (x_modC (x_fdivC (x_var 5 rfl)))) (fun number_5034 => (s_go (o := (number_5034, one_5031)) rfl (.cons .rfl (.cons .rfl (.cons .rfl (.cons .rfl (.cons .any (.cons .any .nil)))))))))))))) (.cons .rfl (.cons .rfl (.cons .rfl (.cons .rfl (.cons .any (.cons .any .nil)))))) (fun s_5035 => (p_retf [] (fun _ => rfl) .nil (x_var 2 rfl)))))))))) (by unfold m_law_deal; simp only [ok_bindP, ok_calmP, chk_calmP, opt_calmP, R.bind_pure, R.bind_assoc] <;> rfl))
theorem w_law_take (T : Txt K mg Ad) : FnOk P w K mg base (L2.CX P w) 1 Ad.f_law_take Ad.d_law_take ["pot", "many"] (SpM rI (t1 rI) rI (fun l a => m_law_take l a)) :=
  have hnd := sc_law_take.nd
  f_okM (fun p l a => [.own (some p) (oLi (tl rI) l), im rI a, .any]) T.F__law_take sc_law_take ar1 rfl (by decide) (fun _ _ _ => rfl) (fun cdv A outer s H E hr tk hp p l a => SX.cv (
    (p_set 2 hnd (x_mod (x_ixO 0 rfl x_int) (x_var 1 rfl)) (fun digit_5044 => (s_st0 0 (x_fdiv (x_ixO 0 rfl x_int) (x_var 1 rfl)) (fun v_5046 => (p_ret (fun w => (w, (l.set 0 v_5046))) [.own (some p) (oLi (tl rI) (l.set 0 v_5046))] (fun _ => rfl) (.cons .rfl .nil) (x_var 2 rfl))))))) (by unfold m_law_take; simp only [ok_bindP, ok_calmP, chk_calmP, opt_calmP, R.bind_pure, R.bind_assoc] <;> rfl))
theorem w_law_step (T : Txt K mg Ad) : FnOk P w K mg base (L2.CX P w) 2 Ad.f_law_step Ad.d_law_step ["pot"] (SpM rI t0 rC (fun l a => m_law_step l )) :=
  have hnd := sc_law_step.nd
  f_okM (fun p l a => [.own (some p) (oLi (tl rI) l), .any, .any]) T.F__law_step sc_law_step ar0 rfl (by decide) (fun _ _ _ => rfl) (fun cdv A outer s H E hr tk hp p l a => SX.cv (
    (p_setS (Γs := fun s => [.own (some p) (oLi (tl rI) s), .any, .any]) (s := l) 1 hnd (es_ix (Γs := fun s => [.own (some p) (oLi (tl rI) s), .any, .any]) (s := l) ix_list dIxL (es_of (Γs := fun s => [.own (some p) (oLi (tl rI) s), .any, .any]) (s := l) (x_frzE (f_listN (k := 4) (ln_cons x_int (ln_cons x_int (ln_cons x_int (ln_cons (x_powC 1000000) ln_nil))))))) (fun s_5067 => (es_callM (Γs := fun s => [.own (some p) (oLi (tl rI) s), .any, .any]) (s := s_5067) 0 (fun s => s) (fun _ l => l) (w_law_take T) (hr.mono (by decide)) T.g__law_take T.k__law_take T.b__law_take tk (as_one (Γs := fun s => [.own (some p) (oLi (tl rI) s), .any, .any]) (s := s_5067) (es_of (Γs := fun s => [.own (some p) (oLi (tl rI) s), .any, .any]) (s := s_5067) x_int)) (fun _ => rfl) (fun _ _ => rfl)))) (fun far_5058 => (p_setS (Γs := fun s => [.own (some p) (oLi (tl rI) s), im rI far_5058.1, .any]) (s := far_5058.2) 2 hnd (es_bin (Γs := fun s => [.own (some p) (oLi (tl rI) s), im rI far_5058.1, .any]) (s := far_5058.2) op_sub (dI0 (f := fun i j => i - j)) (es_callM (Γs := fun s => [.own (some p) (oLi (tl rI) s), im rI far_5058.1, .any]) (s := far_5058.2) 0 (fun s => s) (fun _ l => l) (w_law_take T) (hr.mono (by decide)) T.g__law_take T.k__law_take T.b__law_take tk (as_one (Γs := fun s => [.own (some p) (oLi (tl rI) s), im rI far_5058.1, .any]) (s := far_5058.2) (es_of (Γs := fun s => [.own (some p) (oLi (tl rI) s), im rI far_5058.1, .any]) (s := far_5058.2) (x_add (x_mulCl (x_var 1 rfl)) x_int))) (fun _ => rfl) (fun _ _ => rfl)) (fun s_5064 => (es_of (Γs := fun s => [.own (some p) (oLi (tl rI) s), im rI far_5058.1, .any]) (s := s_5064) (x_var 1 rfl)))) (fun row_5059 => (p_retS (Γs := fun s => [.own (some p) (oLi (tl rI) s), im rI far_5058.1, im rI row_5059.1]) (s := row_5059.2) (fun w => (w.1, w.2)) (fun w => [.own (some p) (oLi (tl rI) w.2)]) (fun _ => rfl) (fun _ => .cons .rfl .nil) (es_tup (Γs := fun s => [.own (some p) (oLi (tl rI) s), im rI far_5058.1, im rI row_5059.1]) (s := row_5059.2) (as_cons (Γs := fun s => [.own (some p) (oLi (tl rI) s), im rI far_5058.1, im rI row_5059.1]) (s := row_5059.2) (es_of (Γs := fun s => [.own (some p) (oLi (tl rI) s), im rI far_5058.1, im rI row_5059.1]) (s := row_5059.2) (x_var 2 rfl)) (fun s_5061 => (as_one (Γs := fun s => [.own (some p) (oLi (tl rI) s), im rI far_5058.1, im rI row_5059.1]) (s := s_5061) (es_bin (Γs := fun s => [.own (some p) (oLi (tl rI) s), im rI far_5058.1, im rI row_5059.1]) (s := s_5061) op_sub (dI0 (f := fun i j => i - j)) (es_callM (Γs := fun s => [.own (some p) (oLi (tl rI) s), im rI far_5058.1, im rI row_5059.1]) (s := s_5061) 0 (fun s => s) (fun _ l => l) (w_law_take T) (hr.mono (by decide)) T.g__law_take T.k__law_take T.b__law_take tk (as_one (Γs := fun s => [.own (some p) (oLi (tl rI) s), im rI far_5058.1, im rI row_5059.1]) (s := s_5061) (es_of (Γs := fun s => [.own (some p) (oLi (tl rI) s), im rI far_5058.1, im rI row_5059.1]) (s := s_5061) (x_add (x_mulCl (x_var 1 rfl)) x_int))) (fun _ => rfl) (fun _ _ => rfl)) (fun s_5062 => (es_of (Γs := fun s => [.own (some p) (oLi (tl rI) s), im rI far_5058.1, im rI row_5059.1]) (s := s_5062) (x_var 1 rfl))))))) (fun _ _ _ h => sz ((nc (fun _ _ _ h => n1 h)) h) (by decide))))))))) (by unfold m_law_step; simp only [ok_bindP, ok_calmP, chk_calmP, opt_calmP, R.bind_pure, R.bind_assoc] <;> rfl))
theorem w_law_piece (T : Txt K mg Ad) : FnOk P w K mg base (L2.CX P w) 3 Ad.f_law_piece Ad.d_law_piece ["pot", "most"] (SpM rI (t1 rI) (rT rC) (fun l a => m_law_piece l a)) :=
  have hnd := sc_law_piece.nd
  f_okM (fun p l a => [.own (some p) (oLi (tl rI) l), im rI a, .any, .any]) T.F__law_piece sc_law_piece ar1 rfl (by decide) (fun _ _ _ => rfl) (fun cdv A outer s H E hr tk hp p l a => SX.cv (
    (p_own 2 hnd (f_nil (ρ := rC)) (fun steps_5084 => (p_forSt (Γs := fun s => [.own (some p) (oLi (tl rI) s), im rI a, .own none (oLi (tl rC) steps_5084), .any]) (vs := [3]) (fun (s : ((List Int) × (List (Int × Int)))) => [.own (some p) (oLi (tl rI) s.1), im rI a, .own none (oLi (tl rC) s.2), .any]) _ (fun s_5092 => (s_5092, steps_5084)) hp (i_range1S (Γs := fun s => [.own (some p) (oLi (tl rI) s), im rI a, .own none (oLi (tl rC) steps_5084), .any]) (s := l) T.n_range (as_one (Γs := fun s => [.own (some p) (oLi (tl rI) s), im rI a, .own none (oLi (tl rC) steps_5084), .any]) (s := l) (es_bin (Γs := fun s => [.own (some p) (oLi (tl rI) s), im rI a, .own none (oLi (tl rC) steps_5084), .any]) (s := l) op_add (dI0 (f := fun i j => i + j)) (es_of (Γs := fun s => [.own (some p) (oLi (tl rI) s), im rI a, .own none (oLi (tl rC) steps_5084), .any]) (s := l) x_int) (fun s_5093 => (es_callM (Γs := fun s => [.own (some p) (oLi (tl rI) s), im rI a, .own none (oLi (tl rC) steps_5084), .any]) (s := s_5093) 0 (fun s => s) (fun _ l => l) (w_law_take T) (hr.mono (by decide)) T.g__law_take T.k__law_take T.b__law_take tk (as_one (Γs := fun s => [.own (some p) (oLi (tl rI) s), im rI a, .own none (oLi (tl rC) steps_5084), .any]) (s := s_5093) (es_of (Γs := fun s => [.own (some p) (oLi (tl rI) s), im rI a, .own none (oLi (tl rC) steps_5084), .any]) (s := s_5093) (x_var 1 rfl))) (fun _ => rfl) (fun _ _ => rfl)))))) (gt_name 3 (by decide) hnd) (fun s_5085 x_5086 => (s_appendS (Γs := fun s => [.own (some p) (oLi (tl rI) s), im rI a, .own none (oLi (tl rC) s_5085.2), im rI x_5086]) (s := s_5085.1) 2 (es_callM (Γs := fun s => [.own (some p) (oLi (tl rI) s), im rI a, .own none (oLi (tl rC) s_5085.2), im rI x_5086]) (s := s_5085.1) 0 (fun s => s) (fun _ l => l) (w_law_step T) (hr.mono (by decide)) T.g__law_step T.k__law_step T.b__law_step tk (as_nil (Γs := fun s => [.own (some p) (oLi (tl rI) s), im rI a, .own none (oLi (tl rC) s_5085.2), im rI x_5086]) (s := s_5085.1)) (fun _ => rfl) (fun _ _ => rfl)) (fun w_5087 => (s_go (o := (w_5087.2, (s_5085.2 ++ [w_5087.1]))) rfl (.cons .rfl (.cons .rfl (.cons .rfl (.cons .any .nil)))))))) (fun _ => (.cons .rfl (.cons .rfl (.cons .rfl (.cons .any .nil))))) (fun s_5088 => (s_give 2 rfl (p_ret (fun w => (w, s_5088.1)) [.own (some p) (oLi (tl rI) s_5088.1)] (fun _ => rfl) (.cons .rfl .nil) (x_callTy call_tuple_of dTupL T.n_tuple (by decide +kernel) (a_one (x_frzE (f_sortset T.n_sorted (x_setL (u64 hr) T.n_set (x_var 2 rfl))))))))))))) (by unfold m_law_piece; simp only [ok_bindP, ok_calmP, chk_calmP, opt_calmP, R.bind_pure, R.bind_assoc] <;> rfl))
theorem w_law_form (T : Txt K mg Ad) (fu : Nat) : FnOk P w K mg base (L2.CX P w) (4 + fu) Ad.f_law_form Ad.d_law_form ["pot", "depth", "most"] (SpM rI (tc rI (t1 rI)) rY (fun l a => m_law_form fu l a.1 a.2)) := by
  have hnd := sc_law_form.nd
  induction fu with
  | zero => exact f_okM (fun p l a => [.own (some p) (oLi (tl rI) l), im rI a.1, im rI a.2, .any, .any, .any, .any]) T.F__law_form sc_law_form (arc ar1) rfl (by decide) (fun _ _ _ => rfl) (fun cdv A outer s H E hr tk hp p l a => SX.cv (s_bad) (by simp only [m_law_form]))
  | succ fu ih => exact f_okM (fun p l a => [.own (some p) (oLi (tl rI) l), im rI a.1, im rI a.2, .any, .any, .any, .any]) T.F__law_form sc_law_form (arc ar1) rfl (by decide) (fun _ _ _ => rfl) (fun cdv A outer s H E hr tk hp p l a => SX.cv (
    (p_setS (Γs := fun s => [.own (some p) (oLi (tl rI) s), im rI a.1, im rI a.2, .any, .any, .any, .any]) (s := l) 3 hnd (es_callM (Γs := fun s => [.own (some p) (oLi (tl rI) s), im rI a.1, im rI a.2, .any, .any, .any, .any]) (s := l) 0 (fun s => s) (fun _ l => l) (w_law_take T) (hr.mono (Nat.le_add_right_of_le (by decide))) T.g__law_take T.k__law_take T.b__law_take tk (as_one (Γs := fun s => [.own (some p) (oLi (tl rI) s), im rI a.1, im rI a.2, .any, .any, .any, .any]) (s := l) (es_of (Γs := fun s => [.own (some p) (oLi (tl rI) s), im rI a.1, im rI a.2, .any, .any, .any, .any]) (s := l) x_int)) (fun _ => rfl) (fun _ _ => rfl)) (fun way_5109 => (p_ifT (x_w (w_or2 (x_tcmp op_eq dEqI (x_var 1 rfl) x_int) (w_or1 (x_tcmp op_gt dIb (x_var 3 rfl) x_int)))) (p_retS (Γs := fun s => [.own (some p) (oLi (tl rI) s), im rI a.1, im rI a.2, im rI way_5109.1, .any, .any, .any]) (s := way_5109.2) (fun w => (w.1, w.2)) (fun w => [.own (some p) (oLi (tl rI) w.2)]) (fun _ => rfl) (fun _ => .cons .rfl .nil) (es_map (π := rY) (fun x => Dy.tup [Dy.str x]) (yTu (y1 yS)).out (es_ix (Γs := fun s => [.own (some p) (oLi (tl rI) s), im rI a.1, im rI a.2, im rI way_5109.1, .any, .any, .any]) (s := way_5109.2) ix_list dIxL (es_of (Γs := fun s => [.own (some p) (oLi (tl rI) s), im rI a.1, im rI a.2, im rI way_5109.1, .any, .any, .any]) (s := way_5109.2) (x_frzE (f_listN (k := 5) (ln_cons (x_tup (a_one x_str) (fun _ _ _ h => sz (n1 h) (by decide))) (ln_cons (x_tup (a_one x_str) (fun _ _ _ h => sz (n1 h) (by decide))) (ln_cons (x_tup (a_one x_str) (fun _ _ _ h => sz (n1 h) (by decide))) (ln_cons (x_tup (a_one x_str) (fun _ _ _ h => sz (n1 h) (by decide))) (ln_cons (x_tup (a_one x_str) (fun _ _ _ h => sz (n1 h) (by decide))) ln_nil)))))))) (fun s_5112 => (es_callM (Γs := fun s => [.own (some p) (oLi (tl rI) s), im rI a.1, im rI a.2, im rI way_5109.1, .any, .any, .any]) (s := s_5112) 0 (fun s => s) (fun _ l => l) (w_law_take T) (hr.mono (Nat.le_add_right_of_le (by decide))) T.g__law_take T.k__law_take T.b__law_take tk (as_one (Γs := fun s => [.own (some p) (oLi (tl rI) s), im rI a.1, im rI a.2, im rI way_5109.1, .any, .any, .any]) (s := s_5112) (es_of (Γs := fun s => [.own (some p) (oLi (tl rI) s), im rI a.1, im rI a.2, im rI way_5109.1, .any, .any, .any]) (s := s_5112) x_int)) (fun _ => rfl) (fun _ _ => rfl)))))) (p_ifT (x_tcmp op_lt dIb (x_var 3 rfl) x_int) (p_setS (Γs := fun s => [.own (some p) (oLi (tl rI) s), im rI a.1, im rI a.2, im rI way_5109.1, .any, .any, .any]) (s := way_5109.2) 5 hnd (es_callM (Γs := fun s => [.own (some p) (oLi (tl rI) s), im rI a.1, im rI a.2, im rI way_5109.1, .any, .any, .any]) (s := way_5109.2) 0 (fun s => s) (fun _ l => l) (w_law_step T) (hr.mono (Nat.le_add_right_of_le (by decide))) T.g__law_step T.k__law_step T.b__law_step tk (as_nil (Γs := fun s => [.own (some p) (oLi (tl rI) s), im rI a.1, im rI a.2, im rI way_5109.1, .any, .any, .any]) (s := way_5109.2)) (fun _ => rfl) (fun _ _ => rfl)) (fun step_5113 => (p_retS (Γs := fun s => [.own (some p) (oLi (tl rI) s), im rI a.1, im rI a.2, im rI way_5109.1, .any, im rC step_5113.1, .any]) (s := step_5113.2) (fun w => (w.1, w.2)) (fun w => [.own (some p) (oLi (tl rI) w.2)]) (fun _ => rfl) (fun _ => .cons .rfl .nil) (es_map (π := rY) (fun x => Dy.tup [Dy.str x.1, (fun x => Dy.tup [Dy.int x.1, Dy.int x.2]) x.2.1, (fun d => d) x.2.2]) (yTu (yc yS (yc (yTu (yc yI (y1 yI))) (y1 yY)))).out (es_tup (Γs := fun s => [.own (some p) (oLi (tl rI) s), im rI a.1, im rI a.2, im rI way_5109.1, .any, im rC step_5113.1, .any]) (s := step_5113.2) (as_cons (Γs := fun s => [.own (some p) (oLi (tl rI) s), im rI a.1, im rI a.2, im rI way_5109.1, .any, im rC step_5113.1, .any]) (s := step_5113.2) (es_of (Γs := fun s => [.own (some p) (oLi (tl rI) s), im rI a.1, im rI a.2, im rI way_5109.1, .any, im rC step_5113.1, .any]) (s := step_5113.2) x_str) (fun s_5115 => (as_cons (Γs := fun s => [.own (some p) (oLi (tl rI) s), im rI a.1, im rI a.2, im rI way_5109.1, .any, im rC step_5113.1, .any]) (s := s_5115) (es_of (Γs := fun s => [.own (some p) (oLi (tl rI) s), im rI a.1, im rI a.2, im rI way_5109.1, .any, im rC step_5113.1, .any]) (s := s_5115) (x_var 5 rfl)) (fun s_5116 => (as_one (Γs := fun s => [.own (some p) (oLi (tl rI) s), im rI a.1, im rI a.2, im rI way_5109.1, .any, im rC step_5113.1, .any]) (s := s_5116) (es_callM (Γs := fun s => [.own (some p) (oLi (tl rI) s), im rI a.1, im rI a.2, im rI way_5109.1, .any, im rC step_5113.1, .any]) (s := s_5116) 0 (fun s => s) (fun _ l => l) ih (hr.mono (Nat.le_refl _)) T.g__law_form T.k__law_form T.b__law_form tk (as_cons (Γs := fun s => [.own (some p) (oLi (tl rI) s), im rI a.1, im rI a.2, im rI way_5109.1, .any, im rC step_5113.1, .any]) (s := s_5116) (es_of (Γs := fun s => [.own (some p) (oLi (tl rI) s), im rI a.1, im rI a.2, im rI way_5109.1, .any, im rC step_5113.1, .any]) (s := s_5116) (x_sub (x_var 1 rfl) x_int)) (fun s_5117 => (as_one (Γs := fun s => [.own (some p) (oLi (tl rI) s), im rI a.1, im rI a.2, im rI way_5109.1, .any, im rC step_5113.1, .any]) (s := s_5117) (es_of (Γs := fun s => [.own (some p) (oLi (tl rI) s), im rI a.1, im rI a.2, im rI way_5109.1, .any, im rC step_5113.1, .any]) (s := s_5117) (x_var 2 rfl))))) (fun _ => rfl) (fun _ _ => rfl))))))) (fun _ _ _ h => sz ((nc (fun _ _ _ h => (nc (fun _ _ _ h => n1 h)) h)) h) (by decide))))))) (p_ifT (x_tcmp op_lt dIb (x_var 3 rfl) x_int) (p_setS (Γs := fun s => [.own (some p) (oLi (tl rI) s), im rI a.1, im rI a.2, im rI way_5109.1, .any, .any, .any]) (s := way_5109.2) 6 hnd (es_callM (Γs := fun s => [.own (some p) (oLi (tl rI) s), im rI a.1, im rI a.2, im rI way_5109.1, .any, .any, .any]) (s := way_5109.2) 0 (fun s => s) (fun _ l => l) (w_law_piece T) (hr.mono (Nat.le_add_right_of_le (by decide))) T.g__law_piece T.k__law_piece T.b__law_piece tk (as_one (Γs := fun s => [.own (some p) (oLi (tl rI) s), im rI a.1, im rI a.2, im rI way_5109.1, .any, .any, .any]) (s := way_5109.2) (es_of (Γs := fun s => [.own (some p) (oLi (tl rI) s), im rI a.1, im rI a.2, im rI way_5109.1, .any, .any, .any]) (s := way_5109.2) (x_var 2 rfl))) (fun _ => rfl) (fun _ _ => rfl)) (fun piece_5118 => (p_retS (Γs := fun s => [.own (some p) (oLi (tl rI) s), im rI a.1, im rI a.2, im rI way_5109.1, .any, .any, im (rT rC) piece_5118.1]) (s := piece_5118.2) (fun w => (w.1, w.2)) (fun w => [.own (some p) (oLi (tl rI) w.2)]) (fun _ => rfl) (fun _ => .cons .rfl .nil) (es_map (π := rY) (fun x => Dy.tup [Dy.str x.1, (fun xs => Dy.tup (List.map (fun x => Dy.tup [Dy.int x.1, Dy.int x.2]) xs)) x.2.1, (fun d => d) x.2.2]) (yTu (yc yS (yc (yT (yTu (yc yI (y1 yI)))) (y1 yY)))).out (es_tup (Γs := fun s => [.own (some p) (oLi (tl rI) s), im rI a.1, im rI a.2, im rI way_5109.1, .any, .any, im (rT rC) piece_5118.1]) (s := piece_5118.2) (as_cons (Γs := fun s => [.own (some p) (oLi (tl rI) s), im rI a.1, im rI a.2, im rI way_5109.1, .any, .any, im (rT rC) piece_5118.1]) (s := piece_5118.2) (es_of (Γs := fun s => [.own (some p) (oLi (tl rI) s), im rI a.1, im rI a.2, im rI way_5109.1, .any, .any, im (rT rC) piece_5118.1]) (s := piece_5118.2) (x_ixL (x_frzE (f_listN (k := 2) (ln_cons x_str (ln_cons x_str ln_nil)))) (x_modC (x_var 3 rfl)))) (fun s_5121 => (as_cons (Γs := fun s => [.own (some p) (oLi (tl rI) s), im rI a.1, im rI a.2, im rI way_5109.1, .any, .any, im (rT rC) piece_5118.1]) (s := s_5121) (es_of (Γs := fun s => [.own (some p) (oLi (tl rI) s), im rI a.1, im rI a.2, im rI way_5109.1, .any, .any, im (rT rC) piece_5118.1]) (s := s_5121) (x_var 6 rfl)) (fun s_5122 => (as_one (Γs := fun s => [.own (some p) (oLi (tl rI) s), im rI a.1, im rI a.2, im rI way_5109.1, .any, .any, im (rT rC) piece_5118.1]) (s := s_5122) (es_callM (Γs := fun s => [.own (some p) (oLi (tl rI) s), im rI a.1, im rI a.2, im rI way_5109.1, .any, .any, im (rT rC) piece_5118.1]) (s := s_5122) 0 (fun s => s) (fun _ l => l) ih (hr.mono (Nat.le_refl _)) T.g__law_form T.k__law_form T.b__law_form tk (as_cons (Γs := fun s => [.own (some p) (oLi (tl rI) s), im rI a.1, im rI a.2, im rI way_5109.1, .any, .any, im (rT rC) piece_5118.1]) (s := s_5122) (es_of (Γs := fun s => [.own (some p) (oLi (tl rI) s), im rI a.1, im rI a.2, im rI way_5109.1, .any, .any, im (rT rC) piece_5118.1]) (s := s_5122) (x_sub (x_var 1 rfl) x_int)) (fun s_5123 => (as_one (Γs := fun s => [.own (some p) (oLi (tl rI) s), im rI a.1, im rI a.2, im rI way_5109.1, .any, .any, im (rT rC) piece_5118.1]) (s := s_5123) (es_of (Γs := fun s => [.own (some p) (oLi (tl rI) s), im rI a.1, im rI a.2, im rI way_5109.1, .any, .any, im (rT rC) piece_5118.1]) (s := s_5123) (x_var 2 rfl))))) (fun _ => rfl) (fun _ _ => rfl))))))) (fun _ _ _ h => sz ((nc (fun _ _ _ h => (nc (fun _ _ _ h => n1 h)) h)) h) (by decide))))))) (p_setS (Γs := fun s => [.own (some p) (oLi (tl rI) s), im rI a.1, im rI a.2, im rI way_5109.1, .any, .any, .any]) (s := way_5109.2) 4 hnd (es_callM (Γs := fun s => [.own (some p) (oLi (tl rI) s), im rI a.1, im rI a.2, im rI way_5109.1, .any, .any, .any]) (s := way_5109.2) 0 (fun s => s) (fun _ l => l) ih (hr.mono (Nat.le_refl _)) T.g__law_form T.k__law_form T.b__law_form tk (as_cons (Γs := fun s => [.own (some p) (oLi (tl rI) s), im rI a.1, im rI a.2, im rI way_5109.1, .any, .any, .any]) (s := way_5109.2) (es_of (Γs := fun s => [.own (some p) (oLi (tl rI) s), im rI a.1, im rI a.2, im rI way_5109.1, .any, .any, .any]) (s := way_5109.2) (x_sub (x_var 1 rfl) x_int)) (fun s_5130 => (as_one (Γs := fun s => [.own (some p) (oLi (tl rI) s), im rI a.1, im rI a.2, im rI way_5109.1, .any, .any, .any]) (s := s_5130) (es_of (Γs := fun s => [.own (some p) (oLi (tl rI) s), im rI a.1, im rI a.2, im rI way_5109.1, .any, .any, .any]) (s := s_5130) (x_var 2 rfl))))) (fun _ => rfl) (fun _ _ => rfl)) (fun one_5124 => (p_retS (Γs := fun s => [.own (some p) (oLi (tl rI) s), im rI a.1, im rI a.2, im rI way_5109.1, im rY one_5124.1, .any, .any]) (s := one_5124.2) (fun w => (w.1, w.2)) (fun w => [.own (some p) (oLi (tl rI) w.2)]) (fun _ => rfl) (fun _ => .cons .rfl .nil) (es_map (π := rY) (fun x => Dy.tup [Dy.str x.1, (fun d => d) x.2.1, (fun d => d) x.2.2]) (yTu (yc yS (yc yY (y1 yY)))).out (es_tup (Γs := fun s => [.own (some p) (oLi (tl rI) s), im rI a.1, im rI a.2, im rI way_5109.1, im rY one_5124.1, .any, .any]) (s := one_5124.2) (as_cons (Γs := fun s => [.own (some p) (oLi (tl rI) s), im rI a.1, im rI a.2, im rI way_5109.1, im rY one_5124.1, .any, .any]) (s := one_5124.2) (es_of (Γs := fun s => [.own (some p) (oLi (tl rI) s), im rI a.1, im rI a.2, im rI way_5109.1, im rY one_5124.1, .any, .any]) (s := one_5124.2) (x_ixL (x_frzE (f_listN (k := 2) (ln_cons x_str (ln_cons x_str ln_nil)))) (x_modC (x_var 3 rfl)))) (fun s_5127 => (as_cons (Γs := fun s => [.own (some p) (oLi (tl rI) s), im rI a.1, im rI a.2, im rI way_5109.1, im rY one_5124.1, .any, .any]) (s := s_5127) (es_of (Γs := fun s => [.own (some p) (oLi (tl rI) s), im rI a.1, im rI a.2, im rI way_5109.1, im rY one_5124.1, .any, .any]) (s := s_5127) (x_var 4 rfl)) (fun s_5128 => (as_one (Γs := fun s => [.own (some p) (oLi (tl rI) s), im rI a.1, im rI a.2, im rI way_5109.1, im rY one_5124.1, .any, .any]) (s := s_5128) (es_callM (Γs := fun s => [.own (some p) (oLi (tl rI) s), im rI a.1, im rI a.2, im rI way_5109.1, im rY one_5124.1, .any, .any]) (s := s_5128) 0 (fun s => s) (fun _ l => l) ih (hr.mono (Nat.le_refl _)) T.g__law_form T.k__law_form T.b__law_form tk (as_cons (Γs := fun s => [.own (some p) (oLi (tl rI) s), im rI a.1, im rI a.2, im rI way_5109.1, im rY one_5124.1, .any, .any]) (s := s_5128) (es_of (Γs := fun s => [.own (some p) (oLi (tl rI) s), im rI a.1, im rI a.2, im rI way_5109.1, im rY one_5124.1, .any, .any]) (s := s_5128) (x_sub (x_var 1 rfl) x_int)) (fun s_5129 => (as_one (Γs := fun s => [.own (some p) (oLi (tl rI) s), im rI a.1, im rI a.2, im rI way_5109.1, im rY one_5124.1, .any, .any]) (s := s_5129) (es_of (Γs := fun s => [.own (some p) (oLi (tl rI) s), im rI a.1, im rI a.2, im rI way_5109.1, im rY one_5124.1, .any, .any]) (s := s_5129) (x_var 2 rfl))))) (fun _ => rfl) (fun _ _ => rfl))))))) (fun _ _ _ h => sz ((nc (fun _ _ _ h => (nc (fun _ _ _ h => n1 h)) h)) h) (by decide))))))))))))) (by simp only [m_law_form, ok_bindP, ok_calmP, chk_calmP, opt_calmP, R.bind_pure, R.bind_assoc] <;> rfl))
theorem w_law_great (T : Txt K mg Ad) : FnOk P w K mg base (L2.CX P w) 2 Ad.f_law_great Ad.d_law_great ["pot"] (SpM rI t0 rY (fun l a => m_law_great l )) :=
  have hnd := sc_law_great.nd
  f_okM (fun p l a => [.own (some p) (oLi (tl rI) l), .any, .any]) T.F__law_great sc_law_great ar0 rfl (by decide) (fun _ _ _ => rfl) (fun cdv A outer s H E hr tk hp p l a => SX.cv (
    (p_set 1 hnd (x_cv (cvY (yTu (yc yS (yc (yT (yTu (yc yI (y1 yI)))) (y1 (yTu (y1 yS))))))) (x_tup (a_cons x_str (a_cons (x_callTy call_tuple_of dTupL T.n_tuple (by decide +kernel) (a_one (x_frzE (f_lcM (own := [("k", 2)]) hnd (i_rangeC T.n_range) (blkOk_by (N := N_law_great) (sc := defScope s_law_great) (by decide +kernel)) (fun _ _ _ _ _ => (gt_name 2 (by decide) hnd)) (fun _ _ _ _ _ y_5155 => (x_tup (a_cons x_int (a_one (x_mulCl (x_var 2 rfl)))) (fun _ _ _ h => sz ((nc (fun _ _ _ h => n1 h)) h) (by decide)))))))) (a_one (x_tup (a_one x_str) (fun _ _ _ h => sz (n1 h) (by decide)))))) (fun _ _ _ h => sz ((nc (fun _ _ _ h => (nc (fun _ _ _ h => n1 h)) h)) h) (by decide)))) (fun form_5160 => (p_setS (Γs := fun s => [.own (some p) (oLi (tl rI) s), im rY form_5160, .any]) (s := l) 1 hnd (es_map (π := rY) (fun x => Dy.tup [Dy.str x.1, (fun xs => Dy.tup (List.map (fun x => Dy.tup [Dy.int x.1, Dy.int x.2]) xs)) x.2.1, (fun d => d) x.2.2]) (yTu (yc yS (yc (yT (yTu (yc yI (y1 yI)))) (y1 yY)))).out (es_tup (Γs := fun s => [.own (some p) (oLi (tl rI) s), im rY form_5160, .any]) (s := l) (as_cons (Γs := fun s => [.own (some p) (oLi (tl rI) s), im rY form_5160, .any]) (s := l) (es_ix (Γs := fun s => [.own (some p) (oLi (tl rI) s), im rY form_5160, .any]) (s := l) ix_list dIxL (es_of (Γs := fun s => [.own (some p) (oLi (tl rI) s), im rY form_5160, .any]) (s := l) (x_frzE (f_listN (k := 2) (ln_cons x_str (ln_cons x_str ln_nil))))) (fun s_5173 => (es_callM (Γs := fun s => [.own (some p) (oLi (tl rI) s), im rY form_5160, .any]) (s := s_5173) 0 (fun s => s) (fun _ l => l) (w_law_take T) (hr.mono (by decide)) T.g__law_take T.k__law_take T.b__law_take tk (as_one (Γs := fun s => [.own (some p) (oLi (tl rI) s), im rY form_5160, .any]) (s := s_5173) (es_of (Γs := fun s => [.own (some p) (oLi (tl rI) s), im rY form_5160, .any]) (s := s_5173) x_int)) (fun _ => rfl) (fun _ _ => rfl)))) (fun s_5172 => (as_cons (Γs := fun s => [.own (some p) (oLi (tl rI) s), im rY form_5160, .any]) (s := s_5172) (es_of (Γs := fun s => [.own (some p) (oLi (tl rI) s), im rY form_5160, .any]) (s := s_5172) (x_callTy call_tuple_of dTupL T.n_tuple (by decide +kernel) (a_one (x_frzE (f_lcM (own := [("k", 2)]) hnd (i_rangeC T.n_range) (blkOk_by (N := N_law_great) (sc := defScope s_law_great) (by decide +kernel)) (fun _ _ _ _ _ => (gt_name 2 (by decide) hnd)) (fun _ _ _ _ _ y_5175 => (x_tup (a_cons (x_mulCl (x_var 2 rfl)) (a_one x_int)) (fun _ _ _ h => sz ((nc (fun _ _ _ h => n1 h)) h) (by decide))))))))) (fun s_5174 => (as_one (Γs := fun s => [.own (some p) (oLi (tl rI) s), im rY form_5160, .any]) (s := s_5174) (es_of (Γs := fun s => [.own (some p) (oLi (tl rI) s), im rY form_5160, .any]) (s := s_5174) (x_var 1 rfl))))))) (fun _ _ _ h => sz ((nc (fun _ _ _ h => (nc (fun _ _ _ h => n1 h)) h)) h) (by decide)))) (fun form_5163 => (p_retS (Γs := fun s => [.own (some p) (oLi (tl rI) s), im rY form_5163.1, .any]) (s := form_5163.2) (fun w => (w.1, w.2)) (fun w => [.own (some p) (oLi (tl rI) w.2)]) (fun _ => rfl) (fun _ => .cons .rfl .nil) (es_ix (Γs := fun s => [.own (some p) (oLi (tl rI) s), im rY form_5163.1, .any]) (s := form_5163.2) ix_list dIxL (es_of (Γs := fun s => [.own (some p) (oLi (tl rI) s), im rY form_5163.1, .any]) (s := form_5163.2) (x_frzE (f_listN (k := 3) (ln_cons (x_var 1 rfl) (ln_cons (x_cv (cvY (yTu (yc yS (yc (yTu (y1 yS)) (y1 yY))))) (x_tup (a_cons x_str (a_cons (x_tup (a_one x_str) (fun _ _ _ h => sz (n1 h) (by decide))) (a_one (x_var 1 rfl)))) (fun _ _ _ h => sz ((nc (fun _ _ _ h => (nc (fun _ _ _ h => n1 h)) h)) h) (by decide)))) (ln_cons (x_cv (cvY (yTu (yc yS (yc yY (y1 (yTu (y1 yS))))))) (x_tup (a_cons x_str (a_cons (x_var 1 rfl) (a_one (x_tup (a_one x_str) (fun _ _ _ h => sz (n1 h) (by decide)))))) (fun _ _ _ h => sz ((nc (fun _ _ _ h => (nc (fun _ _ _ h => n1 h)) h)) h) (by decide)))) ln_nil)))))) (fun s_5166 => (es_callM (Γs := fun s => [.own (some p) (oLi (tl rI) s), im rY form_5163.1, .any]) (s := s_5166) 0 (fun s => s) (fun _ l => l) (w_law_take T) (hr.mono (by decide)) T.g__law_take T.k__law_take T.b__law_take tk (as_one (Γs := fun s => [.own (some p) (oLi (tl rI) s), im rY form_5163.1, .any]) (s := s_5166) (es_of (Γs := fun s => [.own (some p) (oLi (tl rI) s), im rY form_5163.1, .any]) (s := s_5166) x_int)) (fun _ => rfl) (fun _ _ => rfl)))))))))) (by unfold m_law_great; simp only [ok_bindP, ok_calmP, chk_calmP, opt_calmP, R.bind_pure, R.bind_assoc] <;> rfl))
theorem w_law_plan (T : Txt K mg Ad) (fu : Nat) : FnOk P w K mg base (L2.CX P w) (3 + fu) Ad.f_law_plan Ad.d_law_plan ["form"] (SpP mg (t1 rY) (rPl (csl Ad)) (fun a => m_law_plan fu a)) := by
  have hnd := sc_law_plan.nd
  induction fu with
  | zero => exact f_ok (fun a => [im rY a]) T.F__law_plan sc_law_plan ar1 rfl (by decide) (fun _ => rfl) (fun cdv A outer s H E hr tk hp a => SX.cv (s_bad) (by simp only [m_law_plan]))
  | succ fu ih => exact f_ok (fun a => [im rY a]) T.F__law_plan sc_law_plan ar1 rfl (by decide) (fun _ => rfl) (fun cdv A outer s H E hr tk hp a => SX.cv (
    (p_ifT (x_tcmp (op_eqD (u64 hr)) dEqY (x_ix ix_any dIxY (x_var 0 rfl) x_int) (x_cv (cvY yS) x_str)) (p_retf [] (fun _ => rfl) .nil (x_mk0 (mkKeep (List.Mem.head _)) T.mk_Keep T.gc_Keep)) (p_ifT (x_tcmp (op_eqD (u64 hr)) dEqY (x_ix ix_any dIxY (x_var 0 rfl) x_int) (x_cv (cvY yS) x_str)) (p_retf [] (fun _ => rfl) .nil (x_mk0 (mkNothing (List.Mem.tail _ (List.Mem.head _))) T.mk_Nothing T.gc_Nothing)) (p_ifT (x_tcmp (op_eqD (u64 hr)) dEqY (x_ix ix_any dIxY (x_var 0 rfl) x_int) (x_cv (cvY yS) x_str)) (p_retf [] (fun _ => rfl) .nil (x_mk0 (mkEverything (List.Mem.tail _ (List.Mem.tail _ (List.Mem.head _)))) T.mk_Everything T.gc_Everything)) (p_ifT (x_tcmp (op_eqD (u64 hr)) dEqY (x_ix ix_any dIxY (x_var 0 rfl) x_int) (x_cv (cvY yS) x_str)) (p_retf [] (fun _ => rfl) .nil (x_mk2 (mkMove (List.Mem.tail _ (List.Mem.tail _ (List.Mem.tail _ (List.Mem.head _))))) T.mk_Move (w_init_Move T) (hr.mono (Nat.le_add_right_of_le (by decide))) T.gc_Move T.b_Move___init__ (a_cons (x_out (ouTu (ouc ouI (ou1 ouI))) (x_ix ix_any dIxY (x_var 0 rfl) x_int)) (a_one (x_call ih (hr.mono (Nat.le_refl _)) T.g__law_plan T.k__law_plan T.b__law_plan tk .nil (a_one (x_ix ix_any dIxY (x_var 0 rfl) x_int))))))) (p_ifT (x_tcmp (op_eqD (u64 hr)) dEqY (x_ix ix_any dIxY (x_var 0 rfl) x_int) (x_cv (cvY yS) x_str)) (p_retf [] (fun _ => rfl) .nil (x_mk2 (mkEat (List.Mem.tail _ (List.Mem.tail _ (List.Mem.tail _ (List.Mem.tail _ (List.Mem.head _)))))) T.mk_Eat (w_init_Eat T) (hr.mono (Nat.le_add_right_of_le (by decide))) T.gc_Eat T.b_Eat___init__ (a_cons (x_out (ouT (ouTu (ouc ouI (ou1 ouI)))) (x_ix ix_any dIxY (x_var 0 rfl) x_int)) (a_one (x_call ih (hr.mono (Nat.le_refl _)) T.g__law_plan T.k__law_plan T.b__law_plan tk .nil (a_one (x_ix ix_any dIxY (x_var 0 rfl) x_int))))))) (p_ifT (x_tcmp (op_eqD (u64 hr)) dEqY (x_ix ix_any dIxY (x_var 0 rfl) x_int) (x_cv (cvY yS) x_str)) (p_retf [] (fun _ => rfl) .nil (x_mk2 (mkGrow (List.Mem.tail _ (List.Mem.tail _ (List.Mem.tail _ (List.Mem.tail _ (List.Mem.tail _ (List.Mem.head _))))))) T.mk_Grow (w_init_Grow T) (hr.mono (Nat.le_add_right_of_le (by decide))) T.gc_Grow T.b_Grow___init__ (a_cons (x_out (ouT (ouTu (ouc ouI (ou1 ouI)))) (x_ix ix_any dIxY (x_var 0 rfl) x_int)) (a_one (x_call ih (hr.mono (Nat.le_refl _)) T.g__law_plan T.k__law_plan T.b__law_plan tk .nil (a_one (x_ix ix_any dIxY (x_var 0 rfl) x_int))))))) (p_ifT (x_tcmp (op_eqD (u64 hr)) dEqY (x_ix ix_any dIxY (x_var 0 rfl) x_int) (x_cv (cvY yS) x_str)) (p_retf [] (fun _ => rfl) .nil (x_mk2 (mkBoth (List.Mem.tail _ (List.Mem.tail _ (List.Mem.tail _ (List.Mem.tail _ (List.Mem.tail _ (List.Mem.tail _ (List.Mem.head _)))))))) T.mk_Both (w_init_Both T) (hr.mono (Nat.le_add_right_of_le (by decide))) T.gc_Both T.b_Both___init__ (a_cons (x_call ih (hr.mono (Nat.le_refl _)) T.g__law_plan T.k__law_plan T.b__law_plan tk .nil (a_one (x_ix ix_any dIxY (x_var 0 rfl) x_int))) (a_one (x_call ih (hr.mono (Nat.le_refl _)) T.g__law_plan T.k__law_plan T.b__law_plan tk .nil (a_one (x_ix ix_any dIxY (x_var 0 rfl) x_int))))))) (p_retf [] (fun _ => rfl) .nil (x_mk2 (mkEither (List.Mem.tail _ (List.Mem.tail _ (List.Mem.tail _ (List.Mem.tail _ (List.Mem.tail _ (List.Mem.tail _ (List.Mem.tail _ (List.Mem.head _))))))))) T.mk_Either (w_init_Either T) (hr.mono (Nat.le_add_right_of_le (by decide))) T.gc_Either T.b_Either___init__ (a_cons (x_call ih (hr.mono (Nat.le_refl _)) T.g__law_plan T.k__law_plan T.b__law_plan tk .nil (a_one (x_ix ix_any dIxY (x_var 0 rfl) x_int))) (a_one (x_call ih (hr.mono (Nat.le_refl _)) T.g__law_plan T.k__law_plan T.b__law_plan tk .nil (a_one (x_ix ix_any dIxY (x_var 0 rfl) x_int))))))))))))))) (by simp only [m_law_plan, ok_bindP, ok_calmP, chk_calmP, opt_calmP, R.bind_pure, R.bind_assoc] <;> rfl))
theorem w_law_shape (T : Txt K mg Ad) : FnOk P w K mg base (L2.CX P w) 2 Ad.f_law_shape Ad.d_law_shape ["pot"] (SpM rI t0 (rTu (tc (rT rC) (t1 rB))) (fun l a => m_law_shape l )) :=
  have hnd := sc_law_shape.nd
  f_okM (fun p l a => [.own (some p) (oLi (tl rI) l), .any, .any, .any, .any, .any, .any, .any]) T.F__law_shape sc_law_shape ar0 rfl (by decide) (fun _ _ _ => rfl) (fun cdv A outer s H E hr tk hp p l a => SX.cv (
    (p_setS (Γs := fun s => [.own (some p) (oLi (tl rI) s), .any, .any, .any, .any, .any, .any, .any]) (s := l) 1 hnd (es_ix (Γs := fun s => [.own (some p) (oLi (tl rI) s), .any, .any, .any, .any, .any, .any, .any]) (s := l) ix_list dIxL (es_of (Γs := fun s => [.own (some p) (oLi (tl rI) s), .any, .any, .any, .any, .any, .any, .any]) (s := l) (x_frzE (f_listN (k := 8) (ln_cons x_int (ln_cons x_int (ln_cons x_int (ln_cons x_int (ln_cons x_int (ln_cons x_int (ln_cons x_int (ln_cons x_int ln_nil))))))))))) (fun s_5325 => (es_callM (Γs := fun s => [.own (some p) (oLi (tl rI) s), .any, .any, .any, .any, .any, .any, .any]) (s := s_5325) 0 (fun s => s) (fun _ l => l) (w_law_take T) (hr.mono (by decide)) T.g__law_take T.k__law_take T.b__law_take tk (as_one (Γs := fun s => [.own (some p) (oLi (tl rI) s), .any, .any, .any, .any, .any, .any, .any]) (s := s_5325) (es_of (Γs := fun s => [.own (some p) (oLi (tl rI) s), .any, .any, .any, .any, .any, .any, .any]) (s := s_5325) x_int)) (fun _ => rfl) (fun _ _ => rfl)))) (fun many_5289 => (p_setS (Γs := fun s => [.own (some p) (oLi (tl rI) s), im rI many_5289.1, .any, .any, .any, .any, .any, .any]) (s := many_5289.2) 2 hnd (es_ix (Γs := fun s => [.own (some p) (oLi (tl rI) s), im rI many_5289.1, .any, .any, .any, .any, .any, .any]) (s := many_5289.2) ix_list dIxL (es_of (Γs := fun s => [.own (some p) (oLi (tl rI) s), im rI many_5289.1, .any, .any, .any, .any, .any, .any]) (s := many_5289.2) (x_frzE (f_listN (k := 4) (ln_cons x_int (ln_cons x_int (ln_cons x_int (ln_cons x_int ln_nil))))))) (fun s_5322 => (es_callM (Γs := fun s => [.own (some p) (oLi (tl rI) s), im rI many_5289.1, .any, .any, .any, .any, .any, .any]) (s := s_5322) 0 (fun s => s) (fun _ l => l) (w_law_take T) (hr.mono (by decide)) T.g__law_take T.k__law_take T.b__law_take tk (as_one (Γs := fun s => [.own (some p) (oLi (tl rI) s), im rI many_5289.1, .any, .any, .any, .any, .any, .any]) (s := s_5322) (es_of (Γs := fun s => [.own (some p) (oLi (tl rI) s), im rI many_5289.1, .any, .any, .any, .any, .any, .any]) (s := s_5322) x_int)) (fun _ => rfl) (fun _ _ => rfl)))) (fun wide_5290 => (p_setS (Γs := fun s => [.own (some p) (oLi (tl rI) s), im rI many_5289.1, im rI wide_5290.1, .any, .any, .any, .any, .any]) (s := wide_5290.2) 3 hnd (es_ix (Γs := fun s => [.own (some p) (oLi (tl rI) s), im rI many_5289.1, im rI wide_5290.1, .any, .any, .any, .any, .any]) (s := wide_5290.2) ix_list dIxL (es_of (Γs := fun s => [.own (some p) (oLi (tl rI) s), im rI many_5289.1, im rI wide_5290.1, .any, .any, .any, .any, .any]) (s := wide_5290.2) (x_frzE (f_listN (k := 5) (ln_cons x_int (ln_cons x_int (ln_cons x_int (ln_cons (x_powC 100000000000) (ln_cons (x_sub x_int (x_powC 100000000000)) ln_nil)))))))) (fun s_5319 => (es_callM (Γs := fun s => [.own (some p) (oLi (tl rI) s), im rI many_5289.1, im rI wide_5290.1, .any, .any, .any, .any, .any]) (s := s_5319) 0 (fun s => s) (fun _ l => l) (w_law_take T) (hr.mono (by decide)) T.g__law_take T.k__law_take T.b__law_take tk (as_one (Γs := fun s => [.own (some p) (oLi (tl rI) s), im rI many_5289.1, im rI wide_5290.1, .any, .any, .any, .any, .any]) (s := s_5319) (es_of (Γs := fun s => [.own (some p) (oLi (tl rI) s), im rI many_5289.1, im rI wide_5290.1, .any, .any, .any, .any, .any]) (s := s_5319) x_int)) (fun _ => rfl) (fun _ _ => rfl)))) (fun row_5291 => (p_setS (Γs := fun s => [.own (some p) (oLi (tl rI) s), im rI many_5289.1, im rI wide_5290.1, im rI row_5291.1, .any, .any, .any, .any]) (s := row_5291.2) 4 hnd (es_ix (Γs := fun s => [.own (some p) (oLi (tl rI) s), im rI many_5289.1, im rI wide_5290.1, im rI row_5291.1, .any, .any, .any, .any]) (s := row_5291.2) ix_list dIxL (es_of (Γs := fun s => [.own (some p) (oLi (tl rI) s), im rI many_5289.1, im rI wide_5290.1, im rI row_5291.1, .any, .any, .any, .any]) (s := row_5291.2) (x_frzE (f_listN (k := 5) (ln_cons x_int (ln_cons x_int (ln_cons x_int (ln_cons (x_powC 100000000000) (ln_cons (x_sub x_int (x_powC 100000000000)) ln_nil)))))))) (fun s_5316 => (es_callM (Γs := fun s => [.own (some p) (oLi (tl rI) s), im rI many_5289.1, im rI wide_5290.1, im rI row_5291.1, .any, .any, .any, .any]) (s := s_5316) 0 (fun s => s) (fun _ l => l) (w_law_take T) (hr.mono (by decide)) T.g__law_take T.k__law_take T.b__law_take tk (as_one (Γs := fun s => [.own (some p) (oLi (tl rI) s), im rI many_5289.1, im rI wide_5290.1, im rI row_5291.1, .any, .any, .any, .any]) (s := s_5316) (es_of (Γs := fun s => [.own (some p) (oLi (tl rI) s), im rI many_5289.1, im rI wide_5290.1, im rI row_5291.1, .any, .any, .any, .any]) (s := s_5316) x_int)) (fun _ => rfl) (fun _ _ => rfl)))) (fun column_5292 => (p_own 5 hnd (f_nil (ρ := rC)) (fun cells_5293 => (p_for (vs := [6]) (fun (s : ((List Int) × (List (Int × Int)))) => [.own (some p) (oLi (tl rI) s.1), im rI many_5289.1, im rI wide_5290.1, im rI row_5291.1, im rI column_5292.1, .own none (oLi (tl rC) s.2), .any, .any]) _ (column_5292.2, cells_5293) hp (i_range1 T.n_range (a_one (x_var 1 rfl))) (gt_name 6 (by decide) hnd) (fun s_5294 x_5295 => (p_setS (Γs := fun s => [.own (some p) (oLi (tl rI) s), im rI many_5289.1, im rI wide_5290.1, im rI row_5291.1, im rI column_5292.1, .own none (oLi (tl rC) s_5294.2), im rI x_5295, .any]) (s := s_5294.1) 7 hnd (es_bin (Γs := fun s => [.own (some p) (oLi (tl rI) s), im rI many_5289.1, im rI wide_5290.1, im rI row_5291.1, im rI column_5292.1, .own none (oLi (tl rC) s_5294.2), im rI x_5295, .any]) (s := s_5294.1) op_sub (dI0 (f := fun i j => i - j)) (es_bin (Γs := fun s => [.own (some p) (oLi (tl rI) s), im rI many_5289.1, im rI wide_5290.1, im rI row_5291.1, im rI column_5292.1, .own none (oLi (tl rC) s_5294.2), im rI x_5295, .any]) (s := s_5294.1) op_add (dI0 (f := fun i j => i + j)) (es_of (Γs := fun s => [.own (some p) (oLi (tl rI) s), im rI many_5289.1, im rI wide_5290.1, im rI row_5291.1, im rI column_5292.1, .own none (oLi (tl rC) s_5294.2), im rI x_5295, .any]) (s := s_5294.1) (x_var 3 rfl)) (fun s_5304 => (es_callM (Γs := fun s => [.own (some p) (oLi (tl rI) s), im rI many_5289.1, im rI wide_5290.1, im rI row_5291.1, im rI column_5292.1, .own none (oLi (tl rC) s_5294.2), im rI x_5295, .any]) (s := s_5304) 0 (fun s => s) (fun _ l => l) (w_law_take T) (hr.mono (by decide)) T.g__law_take T.k__law_take T.b__law_take tk (as_one (Γs := fun s => [.own (some p) (oLi (tl rI) s), im rI many_5289.1, im rI wide_5290.1, im rI row_5291.1, im rI column_5292.1, .own none (oLi (tl rC) s_5294.2), im rI x_5295, .any]) (s := s_5304) (es_of (Γs := fun s => [.own (some p) (oLi (tl rI) s), im rI many_5289.1, im rI wide_5290.1, im rI row_5291.1, im rI column_5292.1, .own none (oLi (tl rC) s_5294.2), im rI x_5295, .any]) (s := s_5304) (x_add (x_mulCl (x_var 2 rfl)) x_int))) (fun _ => rfl) (fun _ _ => rfl)))) (fun s_5303 => (es_of (Γs := fun s => [.own (some p) (oLi (tl rI) s), im rI many_5289.1, im rI wide_5290.1, im rI row_5291.1, im rI column_5292.1, .own none (oLi (tl rC) s_5294.2), im rI x_5295, .any]) (s := s_5303) (x_var 2 rfl)))) (fun place_5296 => (s_appendS (Γs := fun s => [.own (some p) (oLi (tl rI) s), im rI many_5289.1, im rI wide_5290.1, im rI row_5291.1, im rI column_5292.1, .own none (oLi (tl rC) s_5294.2), im rI x_5295, im rI place_5296.1]) (s := place_5296.2) 5 (es_tup (Γs := fun s => [.own (some p) (oLi (tl rI) s), im rI many_5289.1, im rI wide_5290.1, im rI row_5291.1, im rI column_5292.1, .own none (oLi (tl rC) s_5294.2), im rI x_5295, im rI place_5296.1]) (s := place_5296.2) (as_cons (Γs := fun s => [.own (some p) (oLi (tl rI) s), im rI many_5289.1, im rI wide_5290.1, im rI row_5291.1, im rI column_5292.1, .own none (oLi (tl rC) s_5294.2), im rI x_5295, im rI place_5296.1]) (s := place_5296.2) (es_of (Γs := fun s => [.own (some p) (oLi (tl rI) s), im rI many_5289.1, im rI wide_5290.1, im rI row_5291.1, im rI column_5292.1, .own none (oLi (tl rC) s_5294.2), im rI x_5295, im rI place_5296.1]) (s := place_5296.2) (x_var 7 rfl)) (fun s_5299 => (as_one (Γs := fun s => [.own (some p) (oLi (tl rI) s), im rI many_5289.1, im rI wide_5290.1, im rI row_5291.1, im rI column_5292.1, .own none (oLi (tl rC) s_5294.2), im rI x_5295, im rI place_5296.1]) (s := s_5299) (es_bin (Γs := fun s => [.own (some p) (oLi (tl rI) s), im rI many_5289.1, im rI wide_5290.1, im rI row_5291.1, im rI column_5292.1, .own none (oLi (tl rC) s_5294.2), im rI x_5295, im rI place_5296.1]) (s := s_5299) op_sub (dI0 (f := fun i j => i - j)) (es_bin (Γs := fun s => [.own (some p) (oLi (tl rI) s), im rI many_5289.1, im rI wide_5290.1, im rI row_5291.1, im rI column_5292.1, .own none (oLi (tl rC) s_5294.2), im rI x_5295, im rI place_5296.1]) (s := s_5299) op_add (dI0 (f := fun i j => i + j)) (es_of (Γs := fun s => [.own (some p) (oLi (tl rI) s), im rI many_5289.1, im rI wide_5290.1, im rI row_5291.1, im rI column_5292.1, .own none (oLi (tl rC) s_5294.2), im rI x_5295, im rI place_5296.1]) (s := s_5299) (x_var 4 rfl)) (fun s_5301 => (es_callM (Γs := fun s => [.own (some p) (oLi (tl rI) s), im rI many_5289.1, im rI wide_5290.1, im rI row_5291.1, im rI column_5292.1, .own none (oLi (tl rC) s_5294.2), im rI x_5295, im rI place_5296.1]) (s := s_5301) 0 (fun s => s) (fun _ l => l) (w_law_take T) (hr.mono (by decide)) T.g__law_take T.k__law_take T.b__law_take tk (as_one (Γs := fun s => [.own (some p) (oLi (tl rI) s), im rI many_5289.1, im rI wide_5290.1, im rI row_5291.1, im rI column_5292.1, .own none (oLi (tl rC) s_5294.2), im rI x_5295, im rI place_5296.1]) (s := s_5301) (es_of (Γs := fun s => [.own (some p) (oLi (tl rI) s), im rI many_5289.1, im rI wide_5290.1, im rI row_5291.1, im rI column_5292.1, .own none (oLi (tl rC) s_5294.2), im rI x_5295, im rI place_5296.1]) (s := s_5301) (x_add (x_mulCl (x_var 2 rfl)) x_int))) (fun _ => rfl) (fun _ _ => rfl)))) (fun s_5300 => (es_of (Γs := fun s => [.own (some p) (oLi (tl rI) s), im rI many_5289.1, im rI wide_5290.1, im rI row_5291.1, im rI column_5292.1, .own none (oLi (tl rC) s_5294.2), im rI x_5295, im rI place_5296.1]) (s := s_5300) (x_var 2 rfl))))))) (fun _ _ _ h => sz ((nc (fun _ _ _ h => n1 h)) h) (by decide))) (fun w_5297 => (s_go (o := (w_5297.2, (s_5294.2 ++ [w_5297.1]))) rfl (.cons .rfl (.cons .rfl (.cons .rfl (.cons .rfl (.cons .rfl (.cons .rfl (.cons .any (.cons .any .nil)))))))))))))) (.cons .rfl (.cons .rfl (.cons .rfl (.cons .rfl (.cons .rfl (.cons .rfl (.cons .any (.cons .any .nil)))))))) (fun s_5305 => (s_give 5 rfl (p_retS (Γs := fun s => [.own (some p) (oLi (tl rI) s), im rI many_5289.1, im rI wide_5290.1, im rI row_5291.1, im rI column_5292.1, im (rL rC) s_5305.2, .any, .any]) (s := s_5305.1) (fun w => (w.1, w.2)) (fun w => [.own (some p) (oLi (tl rI) w.2)]) (fun _ => rfl) (fun _ => .cons .rfl .nil) (es_tup (Γs := fun s => [.own (some p) (oLi (tl rI) s), im rI many_5289.1, im rI wide_5290.1, im rI row_5291.1, im rI column_5292.1, im (rL rC) s_5305.2, .any, .any]) (s := s_5305.1) (as_cons (Γs := fun s => [.own (some p) (oLi (tl rI) s), im rI many_5289.1, im rI wide_5290.1, im rI row_5291.1, im rI column_5292.1, im (rL rC) s_5305.2, .any, .any]) (s := s_5305.1) (es_of (Γs := fun s => [.own (some p) (oLi (tl rI) s), im rI many_5289.1, im rI wide_5290.1, im rI row_5291.1, im rI column_5292.1, im (rL rC) s_5305.2, .any, .any]) (s := s_5305.1) (x_callTy call_tuple_of dTupL T.n_tuple (by decide +kernel) (a_one (x_frzE (f_sortset T.n_sorted (x_setL (u64 hr) T.n_set (x_var 5 rfl))))))) (fun s_5310 => (as_one (Γs := fun s => [.own (some p) (oLi (tl rI) s), im rI many_5289.1, im rI wide_5290.1, im rI row_5291.1, im rI column_5292.1, im (rL rC) s_5305.2, .any, .any]) (s := s_5310) (es_cmp (Γs := fun s => [.own (some p) (oLi (tl rI) s), im rI many_5289.1, im rI wide_5290.1, im rI row_5291.1, im rI column_5292.1, im (rL rC) s_5305.2, .any, .any]) (s := s_5310) op_eq dEqI (es_callM (Γs := fun s => [.own (some p) (oLi (tl rI) s), im rI many_5289.1, im rI wide_5290.1, im rI row_5291.1, im rI column_5292.1, im (rL rC) s_5305.2, .any, .any]) (s := s_5310) 0 (fun s => s) (fun _ l => l) (w_law_take T) (hr.mono (by decide)) T.g__law_take T.k__law_take T.b__law_take tk (as_one (Γs := fun s => [.own (some p) (oLi (tl rI) s), im rI many_5289.1, im rI wide_5290.1, im rI row_5291.1, im rI column_5292.1, im (rL rC) s_5305.2, .any, .any]) (s := s_5310) (es_of (Γs := fun s => [.own (some p) (oLi (tl rI) s), im rI many_5289.1, im rI wide_5290.1, im rI row_5291.1, im rI column_5292.1, im (rL rC) s_5305.2, .any, .any]) (s := s_5310) x_int)) (fun _ => rfl) (fun _ _ => rfl)) (fun s_5312 => (es_of (Γs := fun s => [.own (some p) (oLi (tl rI) s), im rI many_5289.1, im rI wide_5290.1, im rI row_5291.1, im rI column_5292.1, im (rL rC) s_5305.2, .any, .any]) (s := s_5312) x_int)))))) (fun _ _ _ h => sz ((nc (fun _ _ _ h => n1 h)) h) (by decide)))))))))))))))))) (by unfold m_law_shape; simp only [ok_bindP, ok_calmP, chk_calmP, opt_calmP, R.bind_pure, R.bind_assoc] <;> rfl))
theorem w_look_at_turn (T : Txt K mg Ad) : FnOk P w K mg base (L2.CX P w) 1 Ad.flook_at_turn Ad.dlook_at_turn ["turn"] (SpP mg (t1 rI) rN (fun a => m_look_at_turn a)) :=
  have hnd := sclook_at_turn.nd
  f_ok (fun a => [im rI a]) T.F_look_at_turn sclook_at_turn ar1 rfl (by decide) (fun _ => rfl) (fun cdv A outer s H E hr tk hp a => SX.cv (
    (p_ifT (x_w (w_or2 (x_tcmp op_lt dIb (x_var 0 rfl) x_int) (w_or1 (x_tcmp op_ge dIb (x_var 0 rfl) (x_globI T.c_ALL_TURNS))))) (p_raiseX T.x_BadTurn tk .nil) (s_endN rfl .nil (fun _ => rfl)))) (by unfold m_look_at_turn; simp only [ok_bindP, ok_calmP, chk_calmP, opt_calmP, R.bind_pure, R.bind_assoc] <;> rfl))
theorem w_Keep_by_turn (T : Txt K mg Ad) : FnOk P w K mg base (L2.CX P w) 2 Ad.fKeep_by_turn Ad.dKeep_by_turn ["self", "turn"] (SpP mg (tc (rPl (csl Ad)) (t1 rI)) (rPl (csl Ad)) (fun a => m_Keep_by_turn a.1 a.2)) :=
  have hnd := scKeep_by_turn.nd
  f_ok (fun a => [im (rPl (csl Ad)) a.1, im rI a.2]) T.F_Keep_by_turn scKeep_by_turn (arc ar1) rfl (by decide) (fun _ => rfl) (fun cdv A outer s H E hr tk hp a => SX.cv (
    (p_expr (x_call (w_look_at_turn T) (hr.mono (by decide)) T.g_look_at_turn T.k_look_at_turn T.b_look_at_turn tk .nil (a_one (x_var 1 rfl))) (fun _ => (p_retf [] (fun _ => rfl) .nil (x_mk0 (mkKeep (List.Mem.head _)) T.mk_Keep T.gc_Keep))))) (by unfold m_Keep_by_turn; simp only [ok_bindP, ok_calmP, chk_calmP, opt_calmP, R.bind_pure, R.bind_assoc] <;> rfl))
theorem w_Nothing_by_turn (T : Txt K mg Ad) : FnOk P w K mg base (L2.CX P w) 2 Ad.fNothing_by_turn Ad.dNothing_by_turn ["self", "turn"] (SpP mg (tc (rPl (csl Ad)) (t1 rI)) (rPl (csl Ad)) (fun a => m_Nothing_by_turn a.1 a.2)) :=
  have hnd := scNothing_by_turn.nd
  f_ok (fun a => [im (rPl (csl Ad)) a.1, im rI a.2]) T.F_Nothing_by_turn scNothing_by_turn (arc ar1) rfl (by decide) (fun _ => rfl) (fun cdv A outer s H E hr tk hp a => SX.cv (
    (p_expr (x_call (w_look_at_turn T) (hr.mono (by decide)) T.g_look_at_turn T.k_look_at_turn T.b_look_at_turn tk .nil (a_one (x_var 1 rfl))) (fun _ => (p_retf [] (fun _ => rfl) .nil (x_mk0 (mkNothing (List.Mem.tail _ (List.Mem.head _))) T.mk_Nothing T.gc_Nothing))))) (by unfold m_Nothing_by_turn; simp only [ok_bindP, ok_calmP, chk_calmP, opt_calmP, R.bind_pure, R.bind_assoc] <;> rfl))
theorem w_Everything_by_turn (T : Txt K mg Ad) : FnOk P w K mg base (L2.CX P w) 2 Ad.fEverything_by_turn Ad.dEverything_by_turn ["self", "turn"] (SpP mg (tc (rPl (csl Ad)) (t1 rI)) (rPl (csl Ad)) (fun a => m_Everything_by_turn a.1 a.2)) :=
  have hnd := scEverything_by_turn.nd
  f_ok (fun a => [im (rPl (csl Ad)) a.1, im rI a.2]) T.F_Everything_by_turn scEverything_by_turn (arc ar1) rfl (by decide) (fun _ => rfl) (fun cdv A outer s H E hr tk hp a => SX.cv (
    (p_expr (x_call (w_look_at_turn T) (hr.mono (by decide)) T.g_look_at_turn T.k_look_at_turn T.b_look_at_turn tk .nil (a_one (x_var 1 rfl))) (fun _ => (p_retf [] (fun _ => rfl) .nil (x_mk0 (mkEverything (List.Mem.tail _ (List.Mem.tail _ (List.Mem.head _)))) T.mk_Everything T.gc_Everything))))) (by unfold m_Everything_by_turn; simp only [ok_bindP, ok_calmP, chk_calmP, opt_calmP, R.bind_pure, R.bind_assoc] <;> rfl))
theorem w_turned_cell (T : Txt K mg Ad) : FnOk P w K mg base (L2.CX P w) 2 Ad.fturned_cell Ad.dturned_cell ["cell", "turn"] (SpP mg (tc rC (t1 rI)) rC (fun a => m_turned_cell a.1 a.2)) :=
  have hnd := scturned_cell.nd
  f_ok (fun a => [im rC a.1, im rI a.2, .any, .any, .any]) T.F_turned_cell scturned_cell (arc ar1) rfl (by decide) (fun _ => rfl) (fun cdv A outer s H E hr tk hp a => SX.cv (
    (p_expr (x_call (w_look_at_turn T) (hr.mono (by decide)) T.g_look_at_turn T.k_look_at_turn T.b_look_at_turn tk .nil (a_one (x_var 1 rfl))) (fun _ => (p_asg (vs := [4, 3]) (gt_tup rfl (gts_cons (gt_name 3 (by decide) hnd) (gts_one (gt_name 4 (by decide) hnd)))) (x_var 0 rfl) (fun p_5339 => (p_ifJ (fun (s : Int) => [im rC a.1, im rI a.2, .any, im rI p_5339.1, im rI s]) (x_tcmp op_ge dIb (x_var 1 rfl) (x_globI T.c_QUARTERS)) (p_set 4 hnd (x_sub x_int (x_var 4 rfl)) (fun column_5340 => (s_nx (o := column_5340) rfl (.cons .rfl (.cons .rfl (.cons .any (.cons .rfl (.cons .rfl .nil)))))))) (s_nx (o := p_5339.2) rfl (.cons .rfl (.cons .rfl (.cons .any (.cons .rfl (.cons .rfl .nil)))))) (fun s_5341 => (p_for (vs := [2]) (fun (s : (Int × Int)) => [im rC a.1, im rI a.2, .any, im rI s.1, im rI s.2]) _ (p_5339.1, s_5341) hp (i_range1 T.n_range (a_one (x_mod (x_var 1 rfl) (x_globI T.c_QUARTERS)))) (gt_name 2 (by decide) hnd) (fun s_5343 x_5344 => (s_par 3 4 hnd (x_var 4 rfl) (x_sub x_int (x_var 3 rfl)) (fun row_5345 column_5346 => (s_go (o := (row_5345, column_5346)) rfl (.cons .rfl (.cons .rfl (.cons .any (.cons .rfl (.cons .rfl .nil))))))))) (.cons .rfl (.cons .rfl (.cons .any (.cons .rfl (.cons .rfl .nil))))) (fun s_5347 => (p_retf [] (fun _ => rfl) .nil (x_tup (a_cons (x_var 3 rfl) (a_one (x_var 4 rfl))) (fun _ _ _ h => sz ((nc (fun _ _ _ h => n1 h)) h) (by decide))))))))))))) (by unfold m_turned_cell; simp only [ok_bindP, ok_calmP, chk_calmP, opt_calmP, R.bind_pure, R.bind_assoc] <;> rfl))
theorem w_Move_by_turn (T : Txt K mg Ad) {L : Nat} (hL : 3 ≤ L) {D : Pl → Int → R Pl} (ih : MethD P w K mg base (csl Ad) "by_turn" L (tc (rPl (csl Ad)) (t1 rI)) (SpP mg (tc (rPl (csl Ad)) (t1 rI)) (rPl (csl Ad))) (fun x => x.1) (fun a => D a.1 a.2)) : FnOk P w K mg base (L2.CX P w) (L + 1) Ad.fMove_by_turn Ad.dMove_by_turn ["self", "turn"] (SpP mg (tc (rPl (csl Ad)) (t1 rI)) (rPl (csl Ad)) (fun a => m_Move_by_turn D a.1 a.2)) :=
  have hnd := scMove_by_turn.nd
  f_ok (fun a => [im (rPl (csl Ad)) a.1, im rI a.2]) T.F_Move_by_turn scMove_by_turn (arc ar1) rfl (by decide) (fun _ => rfl) (fun cdv A outer s H E hr tk hp a => SX.cv (
    (p_retf [] (fun _ => rfl) .nil (x_mk2 (mkMove (List.Mem.tail _ (List.Mem.tail _ (List.Mem.tail _ (List.Mem.head _))))) T.mk_Move (w_init_Move T) (hr.mono (by omega)) T.gc_Move T.b_Move___init__ (a_cons (x_call (w_turned_cell T) (hr.mono (by omega)) T.g_turned_cell T.k_turned_cell T.b_turned_cell tk .nil (a_cons (x_fld (fldStep _) T.pl (x_var 0 rfl)) (a_one (x_var 1 rfl)))) (a_one (x_meth ih T.pl (hr.mono (by omega)) tk .nil (by decide +kernel) (x_fld (fldPlan _) T.pl (x_var 0 rfl)) (a_one (x_var 1 rfl)))))))) (by unfold m_Move_by_turn; simp only [ok_bindP, ok_calmP, chk_calmP, opt_calmP, R.bind_pure, R.bind_assoc] <;> rfl))
theorem w_rising (T : Txt K mg Ad) : FnOk P w K mg base (L2.CX P w) 1 Ad.frising Ad.drising ["cells"] (SpP mg (t1 (rL rC)) (rT rC) (fun a => m_rising a)) :=
  have hnd := scrising.nd
  f_ok (fun a => [im (rL rC) a]) T.F_rising scrising ar1 rfl (by decide) (fun _ => rfl) (fun cdv A outer s H E hr tk hp a => SX.cv (
    (p_retf [] (fun _ => rfl) .nil (x_callTy call_tuple_of dTupL T.n_tuple (by decide +kernel) (a_one (x_frzE (f_sortset T.n_sorted (x_setL (u64 hr) T.n_set (x_var 0 rfl)))))))) (by unfold m_rising; simp only [ok_bindP, ok_calmP, chk_calmP, opt_calmP, R.bind_pure, R.bind_assoc] <;> rfl))
theorem w_turned_piece (T : Txt K mg Ad) : FnOk P w K mg base (L2.CX P w) 3 Ad.fturned_piece Ad.dturned_piece ["piece", "turn"] (SpP mg (tc (rT rC) (t1 rI)) (rT rC) (fun a => m_turned_piece a.1 a.2)) :=
  have hnd := scturned_piece.nd
  f_ok (fun a => [im (rT rC) a.1, im rI a.2, .any]) T.F_turned_piece scturned_piece (arc ar1) rfl (by decide) (fun _ => rfl) (fun cdv A outer s H E hr tk hp a => SX.cv (
    (p_retf [] (fun _ => rfl) .nil (x_call (w_rising T) (hr.mono (by decide)) T.g_rising T.k_rising T.b_rising tk .nil (a_one (x_frzE (f_lcXM (own := [("step", 2)]) hnd tk .nil (i_tup (x_var 0 rfl)) (blkOk_by (N := Nturned_piece) (sc := defScope sturned_piece) (by decide +kernel)) (fun _ _ _ _ _ _ => (gt_name 2 (by decide) hnd)) (fun _ _ _ _ _ _ _ tk_5367 y_5366 => (x_call (w_turned_cell T) (hr.mono (by decide)) T.g_turned_cell T.k_turned_cell T.b_turned_cell tk_5367 .nil (a_cons (x_var 2 rfl) (a_one (x_var 1 rfl))))))))))) (by unfold m_turned_piece; simp only [ok_bindP, ok_calmP, chk_calmP, opt_calmP, R.bind_pure, R.bind_assoc] <;> rfl))
theorem w_Eat_by_turn (T : Txt K mg Ad) {L : Nat} (hL : 3 ≤ L) {D : Pl → Int → R Pl} (ih : MethD P w K mg base (csl Ad) "by_turn" L (tc (rPl (csl Ad)) (t1 rI)) (SpP mg (tc (rPl (csl Ad)) (t1 rI)) (rPl (csl Ad))) (fun x => x.1) (fun a => D a.1 a.2)) : FnOk P w K mg base (L2.CX P w) (L + 1) Ad.fEat_by_turn Ad.dEat_by_turn ["self", "turn"] (SpP mg (tc (rPl (csl Ad)) (t1 rI)) (rPl (csl Ad)) (fun a => m_Eat_by_turn D a.1 a.2)) :=
  have hnd := scEat_by_turn.nd
  f_ok (fun a => [im (rPl (csl Ad)) a.1, im rI a.2]) T.F_Eat_by_turn scEat_by_turn (arc ar1) rfl (by decide) (fun _ => rfl) (fun cdv A outer s H E hr tk hp a => SX.cv (
    (p_retf [] (fun _ => rfl) .nil (x_mk2 (mkEat (List.Mem.tail _ (List.Mem.tail _ (List.Mem.tail _ (List.Mem.tail _ (List.Mem.head _)))))) T.mk_Eat (w_init_Eat T) (hr.mono (by omega)) T.gc_Eat T.b_Eat___init__ (a_cons (x_call (w_turned_piece T) (hr.mono (by omega)) T.g_turned_piece T.k_turned_piece T.b_turned_piece tk .nil (a_cons (x_fld (fldPiece _) T.pl (x_var 0 rfl)) (a_one (x_var 1 rfl)))) (a_one (x_meth ih T.pl (hr.mono (by omega)) tk .nil (by decide +kernel) (x_fld (fldPlan _) T.pl (x_var 0 rfl)) (a_one (x_var 1 rfl)))))))) (by unfold m_Eat_by_turn; simp only [ok_bindP, ok_calmP, chk_calmP, opt_calmP, R.bind_pure, R.bind_assoc] <;> rfl))
theorem w_Grow_by_turn (T : Txt K mg Ad) {L : Nat} (hL : 3 ≤ L) {D : Pl → Int → R Pl} (ih : MethD P w K mg base (csl Ad) "by_turn" L (tc (rPl (csl Ad)) (t1 rI)) (SpP mg (tc (rPl (csl Ad)) (t1 rI)) (rPl (csl Ad))) (fun x => x.1) (fun a => D a.1 a.2)) : FnOk P w K mg base (L2.CX P w) (L + 1) Ad.fGrow_by_turn Ad.dGrow_by_turn ["self", "turn"] (SpP mg (tc (rPl (csl Ad)) (t1 rI)) (rPl (csl Ad)) (fun a => m_Grow_by_turn D a.1 a.2)) :=
  have hnd := scGrow_by_turn.nd
  f_ok (fun a => [im (rPl (csl Ad)) a.1, im rI a.2]) T.F_Grow_by_turn scGrow_by_turn (arc ar1) rfl (by decide) (fun _ => rfl) (fun cdv A outer s H E hr tk hp a => SX.cv (
    (p_retf [] (fun _ => rfl) .nil (x_mk2 (mkGrow (List.Mem.tail _ (List.Mem.tail _ (List.Mem.tail _ (List.Mem.tail _ (List.Mem.tail _ (List.Mem.head _))))))) T.mk_Grow (w_init_Grow T) (hr.mono (by omega)) T.gc_Grow T.b_Grow___init__ (a_cons (x_call (w_turned_piece T) (hr.mono (by omega)) T.g_turned_piece T.k_turned_piece T.b_turned_piece tk .nil (a_cons (x_fld (fldPiece _) T.pl (x_var 0 rfl)) (a_one (x_var 1 rfl)))) (a_one (x_meth ih T.pl (hr.mono (by omega)) tk .nil (by decide +kernel) (x_fld (fldPlan _) T.pl (x_var 0 rfl)) (a_one (x_var 1 rfl)))))))) (by unfold m_Grow_by_turn; simp only [ok_bindP, ok_calmP, chk_calmP, opt_calmP, R.bind_pure, R.bind_assoc] <;> rfl))
theorem w_Both_by_turn (T : Txt K mg Ad) {L : Nat} (hL : 3 ≤ L) {D : Pl → Int → R Pl} (ih : MethD P w K mg base (csl Ad) "by_turn" L (tc (rPl (csl Ad)) (t1 rI)) (SpP mg (tc (rPl (csl Ad)) (t1 rI)) (rPl (csl Ad))) (fun x => x.1) (fun a => D a.1 a.2)) : FnOk P w K mg base (L2.CX P w) (L + 1) Ad.fBoth_by_turn Ad.dBoth_by_turn ["self", "turn"] (SpP mg (tc (rPl (csl Ad)) (t1 rI)) (rPl (csl Ad)) (fun a => m_Both_by_turn D a.1 a.2)) :=
  have hnd := scBoth_by_turn.nd
  f_ok (fun a => [im (rPl (csl Ad)) a.1, im rI a.2]) T.F_Both_by_turn scBoth_by_turn (arc ar1) rfl (by decide) (fun _ => rfl) (fun cdv A outer s H E hr tk hp a => SX.cv (
    (p_retf [] (fun _ => rfl) .nil (x_mk2 (mkBoth (List.Mem.tail _ (List.Mem.tail _ (List.Mem.tail _ (List.Mem.tail _ (List.Mem.tail _ (List.Mem.tail _ (List.Mem.head _)))))))) T.mk_Both (w_init_Both T) (hr.mono (by omega)) T.gc_Both T.b_Both___init__ (a_cons (x_meth ih T.pl (hr.mono (by omega)) tk .nil (by decide +kernel) (x_fld (fldOne _) T.pl (x_var 0 rfl)) (a_one (x_var 1 rfl))) (a_one (x_meth ih T.pl (hr.mono (by omega)) tk .nil (by decide +kernel) (x_fld (fldOther _) T.pl (x_var 0 rfl)) (a_one (x_var 1 rfl)))))))) (by unfold m_Both_by_turn; simp only [ok_bindP, ok_calmP, chk_calmP, opt_calmP, R.bind_pure, R.bind_assoc] <;> rfl))
theorem w_Either_by_turn (T : Txt K mg Ad) {L : Nat} (hL : 3 ≤ L) {D : Pl → Int → R Pl} (ih : MethD P w K mg base (csl Ad) "by_turn" L (tc (rPl (csl Ad)) (t1 rI)) (SpP mg (tc (rPl (csl Ad)) (t1 rI)) (rPl (csl Ad))) (fun x => x.1) (fun a => D a.1 a.2)) : FnOk P w K mg base (L2.CX P w) (L + 1) Ad.fEither_by_turn Ad.dEither_by_turn ["self", "turn"] (SpP mg (tc (rPl (csl Ad)) (t1 rI)) (rPl (csl Ad)) (fun a => m_Either_by_turn D a.1 a.2)) :=
  have hnd := scEither_by_turn.nd
  f_ok (fun a => [im (rPl (csl Ad)) a.1, im rI a.2]) T.F_Either_by_turn scEither_by_turn (arc ar1) rfl (by decide) (fun _ => rfl) (fun cdv A outer s H E hr tk hp a => SX.cv (
    (p_retf [] (fun _ => rfl) .nil (x_mk2 (mkEither (List.Mem.tail _ (List.Mem.tail _ (List.Mem.tail _ (List.Mem.tail _ (List.Mem.tail _ (List.Mem.tail _ (List.Mem.tail _ (List.Mem.head _))))))))) T.mk_Either (w_init_Either T) (hr.mono (by omega)) T.gc_Either T.b_Either___init__ (a_cons (x_meth ih T.pl (hr.mono (by omega)) tk .nil (by decide +kernel) (x_fld (fldOne _) T.pl (x_var 0 rfl)) (a_one (x_var 1 rfl))) (a_one (x_meth ih T.pl (hr.mono (by omega)) tk .nil (by decide +kernel) (x_fld (fldOther _) T.pl (x_var 0 rfl)) (a_one (x_var 1 rfl)))))))) (by unfold m_Either_by_turn; simp only [ok_bindP, ok_calmP, chk_calmP, opt_calmP, R.bind_pure, R.bind_assoc] <;> rfl))
theorem w_D_by_turn (T : Txt K mg Ad) (fu : Nat) : MethD P w K mg base (csl Ad) "by_turn" (3 + 1 * fu) (tc (rPl (csl Ad)) (t1 rI)) (SpP mg (tc (rPl (csl Ad)) (t1 rI)) (rPl (csl Ad))) (fun x => x.1) (fun a => m_D_by_turn fu a.1 a.2) := by
  induction fu with
  | zero => exact ⟨(pl_cons ⟨_, T.mt_Keep_by_turn, .inl fun x _ => by simp only [m_D_by_turn]⟩ (pl_cons ⟨_, T.mt_Nothing_by_turn, .inl fun x _ => by simp only [m_D_by_turn]⟩ (pl_cons ⟨_, T.mt_Everything_by_turn, .inl fun x _ => by simp only [m_D_by_turn]⟩ (pl_cons ⟨_, T.mt_Move_by_turn, .inl fun x _ => by simp only [m_D_by_turn]⟩ (pl_cons ⟨_, T.mt_Eat_by_turn, .inl fun x _ => by simp only [m_D_by_turn]⟩ (pl_cons ⟨_, T.mt_Grow_by_turn, .inl fun x _ => by simp only [m_D_by_turn]⟩ (pl_cons ⟨_, T.mt_Both_by_turn, .inl fun x _ => by simp only [m_D_by_turn]⟩ (pl_cons ⟨_, T.mt_Either_by_turn, .inl fun x _ => by simp only [m_D_by_turn]⟩ pl_nil))))))))⟩
  | succ fu ih => exact ⟨(pl_cons ⟨_, T.mt_Keep_by_turn, .inr ⟨_, _, _, _, (by omega), T.b_Keep_by_turn, w_Keep_by_turn T, fun x hx => by simp only [m_D_by_turn, hx]⟩⟩ (pl_cons ⟨_, T.mt_Nothing_by_turn, .inr ⟨_, _, _, _, (by omega), T.b_Nothing_by_turn, w_Nothing_by_turn T, fun x hx => by simp only [m_D_by_turn, hx]⟩⟩ (pl_cons ⟨_, T.mt_Everything_by_turn, .inr ⟨_, _, _, _, (by omega), T.b_Everything_by_turn, w_Everything_by_turn T, fun x hx => by simp only [m_D_by_turn, hx]⟩⟩ (pl_cons ⟨_, T.mt_Move_by_turn, .inr ⟨_, _, _, _, (by omega), T.b_Move_by_turn, w_Move_by_turn T (Nat.le_add_right _ _) ih, fun x hx => by simp only [m_D_by_turn, hx]⟩⟩ (pl_cons ⟨_, T.mt_Eat_by_turn, .inr ⟨_, _, _, _, (by omega), T.b_Eat_by_turn, w_Eat_by_turn T (Nat.le_add_right _ _) ih, fun x hx => by simp only [m_D_by_turn, hx]⟩⟩ (pl_cons ⟨_, T.mt_Grow_by_turn, .inr ⟨_, _, _, _, (by omega), T.b_Grow_by_turn, w_Grow_by_turn T (Nat.le_add_right _ _) ih, fun x hx => by simp only [m_D_by_turn, hx]⟩⟩ (pl_cons ⟨_, T.mt_Both_by_turn, .inr ⟨_, _, _, _, (by omega), T.b_Both_by_turn, w_Both_by_turn T (Nat.le_add_right _ _) ih, fun x hx => by simp only [m_D_by_turn, hx]⟩⟩ (pl_cons ⟨_, T.mt_Either_by_turn, .inr ⟨_, _, _, _, (by omega), T.b_Either_by_turn, w_Either_by_turn T (Nat.le_add_right _ _) ih, fun x hx => by simp only [m_D_by_turn, hx]⟩⟩ pl_nil))))))))⟩
theorem w_Keep_words (T : Txt K mg Ad) : FnOk P w K mg base (L2.CX P w) 1 Ad.fKeep_words Ad.dKeep_words ["self"] (SpP mg (t1 (rPl (csl Ad))) (rL rS) (fun a => m_Keep_words a)) :=
  have hnd := scKeep_words.nd
  f_ok (fun a => [im (rPl (csl Ad)) a]) T.F_Keep_words scKeep_words ar1 rfl (by decide) (fun _ => rfl) (fun cdv A outer s H E hr tk hp a => SX.cv (
    (p_retf [] (fun _ => rfl) .nil (x_frzE (f_listN (k := 1) (ln_cons x_str ln_nil))))) (by unfold m_Keep_words; simp only [ok_bindP, ok_calmP, chk_calmP, opt_calmP, R.bind_pure, R.bind_assoc] <;> rfl))
theorem w_Nothing_words (T : Txt K mg Ad) : FnOk P w K mg base (L2.CX P w) 1 Ad.fNothing_words Ad.dNothing_words ["self"] (SpP mg (t1 (rPl (csl Ad))) (rL rS) (fun a => m_Nothing_words a)) :=
  have hnd := scNothing_words.nd
  f_ok (fun a => [im (rPl (csl Ad)) a]) T.F_Nothing_words scNothing_words ar1 rfl (by decide) (fun _ => rfl) (fun cdv A outer s H E hr tk hp a => SX.cv (
    (p_retf [] (fun _ => rfl) .nil (x_frzE (f_listN (k := 1) (ln_cons x_str ln_nil))))) (by unfold m_Nothing_words; simp only [ok_bindP, ok_calmP, chk_calmP, opt_calmP, R.bind_pure, R.bind_assoc] <;> rfl))
theorem w_Everything_words (T : Txt K mg Ad) : FnOk P w K mg base (L2.CX P w) 1 Ad.fEverything_words Ad.dEverything_words ["self"] (SpP mg (t1 (rPl (csl Ad))) (rL rS) (fun a => m_Everything_words a)) :=
  have hnd := scEverything_words.nd
  f_ok (fun a => [im (rPl (csl Ad)) a]) T.F_Everything_words scEverything_words ar1 rfl (by decide) (fun _ => rfl) (fun cdv A outer s H E hr tk hp a => SX.cv (
    (p_retf [] (fun _ => rfl) .nil (x_frzE (f_listN (k := 1) (ln_cons x_str ln_nil))))) (by unfold m_Everything_words; simp only [ok_bindP, ok_calmP, chk_calmP, opt_calmP, R.bind_pure, R.bind_assoc] <;> rfl))
theorem w_step_words (T : Txt K mg Ad) : FnOk P w K mg base (L2.CX P w) 1 Ad.fstep_words Ad.dstep_words ["steps"] (SpP mg (t1 (rL rC)) (rL rS) (fun a => m_step_words a)) :=
  have hnd := scstep_words.nd
  f_ok (fun a => [im (rL rC) a, .any, .any, .any]) T.F_step_words scstep_words ar1 rfl (by decide) (fun _ => rfl) (fun cdv A outer s H E hr tk hp a => SX.cv (
    (p_own 1 hnd (f_nil (ρ := rS)) (fun words_5423 => (p_for (vs := [3, 2]) (fun (s : List Str) => [im (rL rC) a, .own none (oLi (tl rS) s), .any, .any]) _ words_5423 hp (i_list (x_var 0 rfl)) (gt_tup rfl (gts_cons (gt_name 2 (by decide) hnd) (gts_one (gt_name 3 (by decide) hnd)))) (fun s_5424 x_5425 => (s_extend 1 (x_frzE (f_listN (k := 2) (ln_cons (x_callTy call_str_int dStrI T.n_str (by decide +kernel) (a_one (x_var 2 rfl))) (ln_cons (x_callTy call_str_int dStrI T.n_str (by decide +kernel) (a_one (x_var 3 rfl))) ln_nil)))) (fun y_5429 => (s_go (o := (s_5424 ++ y_5429)) rfl (.cons .rfl (.cons .rfl (.cons .any (.cons .any .nil)))))))) (.cons .rfl (.cons .rfl (.cons .any (.cons .any .nil)))) (fun s_5430 => (s_give 1 rfl (p_retf [] (fun _ => rfl) .nil (x_var 1 rfl)))))))) (by unfold m_step_words; simp only [ok_bindP, ok_calmP, chk_calmP, opt_calmP, R.bind_pure, R.bind_assoc] <;> rfl))
theorem w_Move_words (T : Txt K mg Ad) {L : Nat} (hL : 1 ≤ L) {D : Pl → R (List Str)} (ih : MethD P w K mg base (csl Ad) "words" L (t1 (rPl (csl Ad))) (SpP mg (t1 (rPl (csl Ad))) (rL rS)) (fun x => x) (fun a => D a)) : FnOk P w K mg base (L2.CX P w) (L + 1) Ad.fMove_words Ad.dMove_words ["self"] (SpP mg (t1 (rPl (csl Ad))) (rL rS) (fun a => m_Move_words D a)) :=
  have hnd := scMove_words.nd
  f_ok (fun a => [im (rPl (csl Ad)) a]) T.F_Move_words scMove_words ar1 rfl (by decide) (fun _ => rfl) (fun cdv A outer s H E hr tk hp a => SX.cv (
    (p_retf [] (fun _ => rfl) .nil (x_frzE (f_catL (x_frzE (f_catL (x_frzE (f_listN (k := 1) (ln_cons x_str ln_nil))) (x_call (w_step_words T) (hr.mono (by omega)) T.g_step_words T.k_step_words T.b_step_words tk .nil (a_one (x_frzE (f_listN (k := 1) (ln_cons (x_fld (fldStep _) T.pl (x_var 0 rfl)) ln_nil))))))) (x_meth0 ih T.pl (hr.mono (by omega)) tk .nil (by decide +kernel) (x_fld (fldPlan _) T.pl (x_var 0 rfl))))))) (by unfold m_Move_words; simp only [ok_bindP, ok_calmP, chk_calmP, opt_calmP, R.bind_pure, R.bind_assoc] <;> rfl))
theorem w_step_words_2 (T : Txt K mg Ad) : FnOk P w K mg base (L2.CX P w) 1 Ad.fstep_words Ad.dstep_words ["steps"] (SpP mg (t1 (rT rC)) (rL rS) (fun a => m_step_words_2 a)) :=
  have hnd := scstep_words.nd
  f_ok (fun a => [im (rT rC) a, .any, .any, .any]) T.F_step_words scstep_words ar1 rfl (by decide) (fun _ => rfl) (fun cdv A outer s H E hr tk hp a => SX.cv (
    (p_own 1 hnd (f_nil (ρ := rS)) (fun words_5462 => (p_for (vs := [3, 2]) (fun (s : List Str) => [im (rT rC) a, .own none (oLi (tl rS) s), .any, .any]) _ words_5462 hp (i_tup (x_var 0 rfl)) (gt_tup rfl (gts_cons (gt_name 2 (by decide) hnd) (gts_one (gt_name 3 (by decide) hnd)))) (fun s_5463 x_5464 => (s_extend 1 (x_frzE (f_listN (k := 2) (ln_cons (x_callTy call_str_int dStrI T.n_str (by decide +kernel) (a_one (x_var 2 rfl))) (ln_cons (x_callTy call_str_int dStrI T.n_str (by decide +kernel) (a_one (x_var 3 rfl))) ln_nil)))) (fun y_5468 => (s_go (o := (s_5463 ++ y_5468)) rfl (.cons .rfl (.cons .rfl (.cons .any (.cons .any .nil)))))))) (.cons .rfl (.cons .rfl (.cons .any (.cons .any .nil)))) (fun s_5469 => (s_give 1 rfl (p_retf [] (fun _ => rfl) .nil (x_var 1 rfl)))))))) (by unfold m_step_words_2; simp only [ok_bindP, ok_calmP, chk_calmP, opt_calmP, R.bind_pure, R.bind_assoc] <;> rfl))
theorem w_Eat_words (T : Txt K mg Ad) {L : Nat} (hL : 1 ≤ L) {D : Pl → R (List Str)} (ih : MethD P w K mg base (csl Ad) "words" L (t1 (rPl (csl Ad))) (SpP mg (t1 (rPl (csl Ad))) (rL rS)) (fun x => x) (fun a => D a)) : FnOk P w K mg base (L2.CX P w) (L + 1) Ad.fEat_words Ad.dEat_words ["self"] (SpP mg (t1 (rPl (csl Ad))) (rL rS) (fun a => m_Eat_words D a)) :=
  have hnd := scEat_words.nd
  f_ok (fun a => [im (rPl (csl Ad)) a]) T.F_Eat_words scEat_words ar1 rfl (by decide) (fun _ => rfl) (fun cdv A outer s H E hr tk hp a => SX.cv (
    (p_retf [] (fun _ => rfl) .nil (x_frzE (f_catL (x_frzE (f_catL (x_frzE (f_listN (k := 2) (ln_cons x_str (ln_cons (x_callTy call_str_int dStrI T.n_str (by decide +kernel) (a_one (x_len dLenT T.n_len (a_one (x_fld (fldPiece _) T.pl (x_var 0 rfl)))))) ln_nil)))) (x_call (w_step_words_2 T) (hr.mono (by omega)) T.g_step_words T.k_step_words T.b_step_words tk .nil (a_one (x_fld (fldPiece _) T.pl (x_var 0 rfl)))))) (x_meth0 ih T.pl (hr.mono (by omega)) tk .nil (by decide +kernel) (x_fld (fldPlan _) T.pl (x_var 0 rfl))))))) (by unfold m_Eat_words; simp only [ok_bindP, ok_calmP, chk_calmP, opt_calmP, R.bind_pure, R.bind_assoc] <;> rfl))
theorem w_Grow_words (T : Txt K mg Ad) {L : Nat} (hL : 1 ≤ L) {D : Pl → R (List Str)} (ih : MethD P w K mg base (csl Ad) "words" L (t1 (rPl (csl Ad))) (SpP mg (t1 (rPl (csl Ad))) (rL rS)) (fun x => x) (fun a => D a)) : FnOk P w K mg base (L2.CX P w) (L + 1) Ad.fGrow_words Ad.dGrow_words ["self"] (SpP mg (t1 (rPl (csl Ad))) (rL rS) (fun a => m_Grow_words D a)) :=
  have hnd := scGrow_words.nd
  f_ok (fun a => [im (rPl (csl Ad)) a]) T.F_Grow_words scGrow_words ar1 rfl (by decide) (fun _ => rfl) (fun cdv A outer s H E hr tk hp a => SX.cv (
    (p_retf [] (fun _ => rfl) .nil (x_frzE (f_catL (x_frzE (f_catL (x_frzE (f_listN (k := 2) (ln_cons x_str (ln_cons (x_callTy call_str_int dStrI T.n_str (by decide +kernel) (a_one (x_len dLenT T.n_len (a_one (x_fld (fldPiece _) T.pl (x_var 0 rfl)))))) ln_nil)))) (x_call (w_step_words_2 T) (hr.mono (by omega)) T.g_step_words T.k_step_words T.b_step_words tk .nil (a_one (x_fld (fldPiece _) T.pl (x_var 0 rfl)))))) (x_meth0 ih T.pl (hr.mono (by omega)) tk .nil (by decide +kernel) (x_fld (fldPlan _) T.pl (x_var 0 rfl))))))) (by unfold m_Grow_words; simp only [ok_bindP, ok_calmP, chk_calmP, opt_calmP, R.bind_pure, R.bind_assoc] <;> rfl))
theorem w_Both_words (T : Txt K mg Ad) {L : Nat} (hL : 1 ≤ L) {D : Pl → R (List Str)} (ih : MethD P w K mg base (csl Ad) "words" L (t1 (rPl (csl Ad))) (SpP mg (t1 (rPl (csl Ad))) (rL rS)) (fun x => x) (fun a => D a)) : FnOk P w K mg base (L2.CX P w) (L + 1) Ad.fBoth_words Ad.dBoth_words ["self"] (SpP mg (t1 (rPl (csl Ad))) (rL rS) (fun a => m_Both_words D a)) :=
  have hnd := scBoth_words.nd
  f_ok (fun a => [im (rPl (csl Ad)) a]) T.F_Both_words scBoth_words ar1 rfl (by decide) (fun _ => rfl) (fun cdv A outer s H E hr tk hp a => SX.cv (
    (p_retf [] (fun _ => rfl) .nil (x_frzE (f_catL (x_frzE (f_catL (x_frzE (f_listN (k := 1) (ln_cons x_str ln_nil))) (x_meth0 ih T.pl (hr.mono (by omega)) tk .nil (by decide +kernel) (x_fld (fldOne _) T.pl (x_var 0 rfl))))) (x_meth0 ih T.pl (hr.mono (by omega)) tk .nil (by decide +kernel) (x_fld (fldOther _) T.pl (x_var 0 rfl))))))) (by unfold m_Both_words; simp only [ok_bindP, ok_calmP, chk_calmP, opt_calmP, R.bind_pure, R.bind_assoc] <;> rfl))
theorem w_Either_words (T : Txt K mg Ad) {L : Nat} (hL : 1 ≤ L) {D : Pl → R (List Str)} (ih : MethD P w K mg base (csl Ad) "words" L (t1 (rPl (csl Ad))) (SpP mg (t1 (rPl (csl Ad))) (rL rS)) (fun x => x) (fun a => D a)) : FnOk P w K mg base (L2.CX P w) (L + 1) Ad.fEither_words Ad.dEither_words ["self"] (SpP mg (t1 (rPl (csl Ad))) (rL rS) (fun a => m_Either_words D a)) :=
  have hnd := scEither_words.nd
  f_ok (fun a => [im (rPl (csl Ad)) a]) T.F_Either_words scEither_words ar1 rfl (by decide) (fun _ => rfl) (fun cdv A outer s H E hr tk hp a => SX.cv (
    (p_retf [] (fun _ => rfl) .nil (x_frzE (f_catL (x_frzE (f_catL (x_frzE (f_listN (k := 1) (ln_cons x_str ln_nil))) (x_meth0 ih T.pl (hr.mono (by omega)) tk .nil (by decide +kernel) (x_fld (fldOne _) T.pl (x_var 0 rfl))))) (x_meth0 ih T.pl (hr.mono (by omega)) tk .nil (by decide +kernel) (x_fld (fldOther _) T.pl (x_var 0 rfl))))))) (by unfold m_Either_words; simp only [ok_bindP, ok_calmP, chk_calmP, opt_calmP, R.bind_pure, R.bind_assoc] <;> rfl))
theorem w_D_words (T : Txt K mg Ad) (fu : Nat) : MethD P w K mg base (csl Ad) "words" (1 + 1 * fu) (t1 (rPl (csl Ad))) (SpP mg (t1 (rPl (csl Ad))) (rL rS)) (fun x => x) (fun a => m_D_words fu a) := by
  induction fu with
  | zero => exact ⟨(pl_cons ⟨_, T.mt_Keep_words, .inl fun x _ => by simp only [m_D_words]⟩ (pl_cons ⟨_, T.mt_Nothing_words, .inl fun x _ => by simp only [m_D_words]⟩ (pl_cons ⟨_, T.mt_Everything_words, .inl fun x _ => by simp only [m_D_words]⟩ (pl_cons ⟨_, T.mt_Move_words, .inl fun x _ => by simp only [m_D_words]⟩ (pl_cons ⟨_, T.mt_Eat_words, .inl fun x _ => by simp only [m_D_words]⟩ (pl_cons ⟨_, T.mt_Grow_words, .inl fun x _ => by simp only [m_D_words]⟩ (pl_cons ⟨_, T.mt_Both_words, .inl fun x _ => by simp only [m_D_words]⟩ (pl_cons ⟨_, T.mt_Either_words, .inl fun x _ => by simp only [m_D_words]⟩ pl_nil))))))))⟩
  | succ fu ih => exact ⟨(pl_cons ⟨_, T.mt_Keep_words, .inr ⟨_, _, _, _, (by omega), T.b_Keep_words, w_Keep_words T, fun x hx => by simp only [m_D_words, hx]⟩⟩ (pl_cons ⟨_, T.mt_Nothing_words, .inr ⟨_, _, _, _, (by omega), T.b_Nothing_words, w_Nothing_words T, fun x hx => by simp only [m_D_words, hx]⟩⟩ (pl_cons ⟨_, T.mt_Everything_words, .inr ⟨_, _, _, _, (by omega), T.b_Everything_words, w_Everything_words T, fun x hx => by simp only [m_D_words, hx]⟩⟩ (pl_cons ⟨_, T.mt_Move_words, .inr ⟨_, _, _, _, (by omega), T.b_Move_words, w_Move_words T (Nat.le_add_right _ _) ih, fun x hx => by simp only [m_D_words, hx]⟩⟩ (pl_cons ⟨_, T.mt_Eat_words, .inr ⟨_, _, _, _, (by omega), T.b_Eat_words, w_Eat_words T (Nat.le_add_right _ _) ih, fun x hx => by simp only [m_D_words, hx]⟩⟩ (pl_cons ⟨_, T.mt_Grow_words, .inr ⟨_, _, _, _, (by omega), T.b_Grow_words, w_Grow_words T (Nat.le_add_right _ _) ih, fun x hx => by simp only [m_D_words, hx]⟩⟩ (pl_cons ⟨_, T.mt_Both_words, .inr ⟨_, _, _, _, (by omega), T.b_Both_words, w_Both_words T (Nat.le_add_right _ _) ih, fun x hx => by simp only [m_D_words, hx]⟩⟩ (pl_cons ⟨_, T.mt_Either_words, .inr ⟨_, _, _, _, (by omega), T.b_Either_words, w_Either_words T (Nat.le_add_right _ _) ih, fun x hx => by simp only [m_D_words, hx]⟩⟩ pl_nil))))))))⟩
theorem w_law_turned_cell (T : Txt K mg Ad) : FnOk P w K mg base (L2.CX P w) 1 Ad.f_law_turned_cell Ad.d_law_turned_cell ["cell", "turn"] (SpP mg (tc rC (t1 rI)) rC (fun a => m_law_turned_cell a.1 a.2)) :=
  have hnd := sc_law_turned_cell.nd
  f_ok (fun a => [im rC a.1, im rI a.2, .any, .any]) T.F__law_turned_cell sc_law_turned_cell (arc ar1) rfl (by decide) (fun _ => rfl) (fun cdv A outer s H E hr tk hp a => SX.cv (
    (p_asg (vs := [3, 2]) (gt_tup rfl (gts_cons (gt_name 2 (by decide) hnd) (gts_one (gt_name 3 (by decide) hnd)))) (x_var 0 rfl) (fun p_5555 => (p_ifJ (fun (s : Int) => [im rC a.1, im rI a.2, im rI p_5555.1, im rI s]) (x_tcmp op_gt dIb (x_var 1 rfl) x_int) (p_set 3 hnd (x_sub x_int (x_var 3 rfl)) (fun column_5556 => (s_nx (o := column_5556) rfl (.cons .rfl (.cons .rfl (.cons .rfl (.cons .rfl .nil))))))) (s_nx (o := p_5555.2) rfl (.cons .rfl (.cons .rfl (.cons .rfl (.cons .rfl .nil))))) (fun s_5557 => (p_retf [] (fun _ => rfl) .nil (x_ixL (x_frzE (f_listN (k := 4) (ln_cons (x_tup (a_cons (x_var 2 rfl) (a_one (x_var 3 rfl))) (fun _ _ _ h => sz ((nc (fun _ _ _ h => n1 h)) h) (by decide))) (ln_cons (x_tup (a_cons (x_var 3 rfl) (a_one (x_sub x_int (x_var 2 rfl)))) (fun _ _ _ h => sz ((nc (fun _ _ _ h => n1 h)) h) (by decide))) (ln_cons (x_tup (a_cons (x_sub x_int (x_var 2 rfl)) (a_one (x_sub x_int (x_var 3 rfl)))) (fun _ _ _ h => sz ((nc (fun _ _ _ h => n1 h)) h) (by decide))) (ln_cons (x_tup (a_cons (x_sub x_int (x_var 3 rfl)) (a_one (x_var 2 rfl))) (fun _ _ _ h => sz ((nc (fun _ _ _ h => n1 h)) h) (by decide))) ln_nil)))))) (x_modC (x_var 1 rfl))))))))) (by unfold m_law_turned_cell; simp only [ok_bindP, ok_calmP, chk_calmP, opt_calmP, R.bind_pure, R.bind_assoc] <;> rfl))
theorem w_law_turned_cells (T : Txt K mg Ad) : FnOk P w K mg base (L2.CX P w) 2 Ad.f_law_turned_cells Ad.d_law_turned_cells ["cells", "turn"] (SpP mg (tc (rT rC) (t1 rI)) (rT rC) (fun a => m_law_turned_cells a.1 a.2)) :=
  have hnd := sc_law_turned_cells.nd
  f_ok (fun a => [im (rT rC) a.1, im rI a.2, .any]) T.F__law_turned_cells sc_law_turned_cells (arc ar1) rfl (by decide) (fun _ => rfl) (fun cdv A outer s H E hr tk hp a => SX.cv (
    (p_retf [] (fun _ => rfl) .nil (x_callTy call_tuple_of dTupL T.n_tuple (by decide +kernel) (a_one (x_frzE (f_sortC T.n_sorted (x_frzE (f_lcM (own := [("cell", 2)]) hnd (i_tup (x_var 0 rfl)) (blkOk_by (N := N_law_turned_cells) (sc := defScope s_law_turned_cells) (by decide +kernel)) (fun _ _ _ _ _ => (gt_name 2 (by decide) hnd)) (fun _ _ _ _ _ y_5573 => (x_call (w_law_turned_cell T) (hr.mono (by decide)) T.g__law_turned_cell T.k__law_turned_cell T.b__law_turned_cell takes0 .nil (a_cons (x_var 2 rfl) (a_one (x_var 1 rfl))))))))))))) (by unfold m_law_turned_cells; simp only [ok_bindP, ok_calmP, chk_calmP, opt_calmP, R.bind_pure, R.bind_assoc] <;> rfl))
theorem w_law_turned (T : Txt K mg Ad) (fu : Nat) : FnOk P w K mg base (L2.CX P w) (3 + fu) Ad.f_law_turned Ad.d_law_turned ["form", "turn"] (SpP mg (tc rY (t1 rI)) rY (fun a => m_law_turned fu a.1 a.2)) := by
  have hnd := sc_law_turned.nd
  induction fu with
  | zero => exact f_ok (fun a => [im rY a.1, im rI a.2]) T.F__law_turned sc_law_turned (arc ar1) rfl (by decide) (fun _ => rfl) (fun cdv A outer s H E hr tk hp a => SX.cv (s_bad) (by simp only [m_law_turned]))
  | succ fu ih => exact f_ok (fun a => [im rY a.1, im rI a.2]) T.F__law_turned sc_law_turned (arc ar1) rfl (by decide) (fun _ => rfl) (fun cdv A outer s H E hr tk hp a => SX.cv (
    (p_ifT (x_tcmp op_eq dEqI (x_len dLenY T.n_len (a_one (x_var 0 rfl))) x_int) (p_retf [] (fun _ => rfl) .nil (x_var 0 rfl)) (p_ifT (x_tcmp (op_eqD (u64 hr)) dEqY (x_ix ix_any dIxY (x_var 0 rfl) x_int) (x_cv (cvY yS) x_str)) (p_retf [] (fun _ => rfl) .nil (x_cv (cvY (yTu (yc yS (yc (yTu (yc yI (y1 yI))) (y1 yY))))) (x_tup (a_cons x_str (a_cons (x_call (w_law_turned_cell T) (hr.mono (Nat.le_add_right_of_le (by decide))) T.g__law_turned_cell T.k__law_turned_cell T.b__law_turned_cell tk .nil (a_cons (x_out (ouTu (ouc ouI (ou1 ouI))) (x_ix ix_any dIxY (x_var 0 rfl) x_int)) (a_one (x_var 1 rfl)))) (a_one (x_call ih (hr.mono (Nat.le_refl _)) T.g__law_turned T.k__law_turned T.b__law_turned tk .nil (a_cons (x_ix ix_any dIxY (x_var 0 rfl) x_int) (a_one (x_var 1 rfl))))))) (fun _ _ _ h => sz ((nc (fun _ _ _ h => (nc (fun _ _ _ h => n1 h)) h)) h) (by decide))))) (p_ifT (x_w (w_or (x_tcmp (op_eqD (u64 hr)) dEqY (x_ix ix_any dIxY (x_var 0 rfl) x_int) (x_cv (cvY yS) x_str)) (w_or1 (x_tcmp (op_eqD (u64 hr)) dEqY (x_ix ix_any dIxY (x_var 0 rfl) x_int) (x_cv (cvY yS) x_str))))) (p_retf [] (fun _ => rfl) .nil (x_cv (cvY (yTu (yc yY (yc (yT (yTu (yc yI (y1 yI)))) (y1 yY))))) (x_tup (a_cons (x_ix ix_any dIxY (x_var 0 rfl) x_int) (a_cons (x_call (w_law_turned_cells T) (hr.mono (Nat.le_add_right_of_le (by decide))) T.g__law_turned_cells T.k__law_turned_cells T.b__law_turned_cells tk .nil (a_cons (x_out (ouT (ouTu (ouc ouI (ou1 ouI)))) (x_ix ix_any dIxY (x_var 0 rfl) x_int)) (a_one (x_var 1 rfl)))) (a_one (x_call ih (hr.mono (Nat.le_refl _)) T.g__law_turned T.k__law_turned T.b__law_turned tk .nil (a_cons (x_ix ix_any dIxY (x_var 0 rfl) x_int) (a_one (x_var 1 rfl))))))) (fun _ _ _ h => sz ((nc (fun _ _ _ h => (nc (fun _ _ _ h => n1 h)) h)) h) (by decide))))) (p_retf [] (fun _ => rfl) .nil (x_cv (cvY (yTu (yc yY (yc yY (y1 yY))))) (x_tup (a_cons (x_ix ix_any dIxY (x_var 0 rfl) x_int) (a_cons (x_call ih (hr.mono (Nat.le_refl _)) T.g__law_turned T.k__law_turned T.b__law_turned tk .nil (a_cons (x_ix ix_any dIxY (x_var 0 rfl) x_int) (a_one (x_var 1 rfl)))) (a_one (x_call ih (hr.mono (Nat.le_refl _)) T.g__law_turned T.k__law_turned T.b__law_turned tk .nil (a_cons (x_ix ix_any dIxY (x_var 0 rfl) x_int) (a_one (x_var 1 rfl))))))) (fun _ _ _ h => sz ((nc (fun _ _ _ h => (nc (fun _ _ _ h => n1 h)) h)) h) (by decide))))))))) (by simp only [m_law_turned, ok_bindP, ok_calmP, chk_calmP, opt_calmP, R.bind_pure, R.bind_assoc] <;> rfl))
theorem w_law_parts (T : Txt K mg Ad) : FnOk P w K mg base (L2.CX P w) 1 Ad.f_law_parts Ad.d_law_parts ["form"] (SpP mg (t1 rY) (rL rY) (fun a => m_law_parts a)) :=
  have hnd := sc_law_parts.nd
  f_ok (fun a => [im rY a]) T.F__law_parts sc_law_parts ar1 rfl (by decide) (fun _ => rfl) (fun cdv A outer s H E hr tk hp a => SX.cv (
    (p_ifT (x_tcmp op_eq dEqI (x_len dLenY T.n_len (a_one (x_var 0 rfl))) x_int) (p_retf [] (fun _ => rfl) .nil (x_frzE (f_nil (ρ := rY)))) (p_ifT (x_w (w_or (x_tcmp (op_eqD (u64 hr)) dEqY (x_ix ix_any dIxY (x_var 0 rfl) x_int) (x_cv (cvY yS) x_str)) (w_or1 (x_tcmp (op_eqD (u64 hr)) dEqY (x_ix ix_any dIxY (x_var 0 rfl) x_int) (x_cv (cvY yS) x_str))))) (p_retf [] (fun _ => rfl) .nil (x_frzE (f_listN (k := 2) (ln_cons (x_ix ix_any dIxY (x_var 0 rfl) x_int) (ln_cons (x_ix ix_any dIxY (x_var 0 rfl) x_int) ln_nil))))) (p_retf [] (fun _ => rfl) .nil (x_frzE (f_listN (k := 1) (ln_cons (x_ix ix_any dIxY (x_var 0 rfl) x_int) ln_nil))))))) (by unfold m_law_parts; simp only [ok_bindP, ok_calmP, chk_calmP, opt_calmP, R.bind_pure, R.bind_assoc] <;> rfl))
theorem w_law_words (T : Txt K mg Ad) (fu : Nat) : FnOk P w K mg base (L2.CX P w) (2 + fu) Ad.f_law_words Ad.d_law_words ["form"] (SpP mg (t1 rY) (rL rS) (fun a => m_law_words fu a)) := by
  have hnd := sc_law_words.nd
  induction fu with
  | zero => exact f_ok (fun a => [im rY a, .any, .any, .any, .any, .any]) T.F__law_words sc_law_words ar1 rfl (by decide) (fun _ => rfl) (fun cdv A outer s H E hr tk hp a => SX.cv (s_bad) (by simp only [m_law_words]))
  | succ fu ih => exact f_ok (fun a => [im rY a, .any, .any, .any, .any, .any]) T.F__law_words sc_law_words ar1 rfl (by decide) (fun _ => rfl) (fun cdv A outer s H E hr tk hp a => SX.cv (
    (p_own 1 hnd (f_listN (k := 1) (ln_cons (x_out ouS (x_ix ix_any dIxY (x_var 0 rfl) x_int)) ln_nil)) (fun words_5688 => (p_set 2 hnd (x_cv (cvY (yT yI)) (x_tup0 (ρ := rI))) (fun steps_5689 => (p_ifJ (fun (s : Dy) => [im rY a, .own none (oLi (tl rS) words_5688), im rY s, .any, .any, .any]) (x_tcmp (op_eqD (u64 hr)) dEqY (x_ix ix_any dIxY (x_var 0 rfl) x_int) (x_cv (cvY yS) x_str)) (p_set 2 hnd (x_cv (cvY (yTu (y1 yY))) (x_tup (a_one (x_ix ix_any dIxY (x_var 0 rfl) x_int)) (fun _ _ _ h => sz (n1 h) (by decide)))) (fun steps_5692 => (s_nx (o := steps_5692) rfl (.cons .rfl (.cons .rfl (.cons .rfl (.cons .any (.cons .any (.cons .any .nil))))))))) (s_nx (o := steps_5689) rfl (.cons .rfl (.cons .rfl (.cons .rfl (.cons .any (.cons .any (.cons .any .nil))))))) (fun s_5693 => (p_ifJ (fun (s : ((List Str) × Dy)) => [im rY a, .own none (oLi (tl rS) s.1), im rY s.2, .any, .any, .any]) (x_w (w_or (x_tcmp (op_eqD (u64 hr)) dEqY (x_ix ix_any dIxY (x_var 0 rfl) x_int) (x_cv (cvY yS) x_str)) (w_or1 (x_tcmp (op_eqD (u64 hr)) dEqY (x_ix ix_any dIxY (x_var 0 rfl) x_int) (x_cv (cvY yS) x_str))))) (s_append 1 (x_callTy call_str_int dStrI T.n_str (by decide +kernel) (a_one (x_len dLenY T.n_len (a_one (x_ix ix_any dIxY (x_var 0 rfl) x_int))))) (fun y_5699 => (p_set 2 hnd (x_ix ix_any dIxY (x_var 0 rfl) x_int) (fun steps_5700 => (s_nx (o := ((words_5688 ++ [y_5699]), steps_5700)) rfl (.cons .rfl (.cons .rfl (.cons .rfl (.cons .any (.cons .any (.cons .any .nil))))))))))) (s_nx (o := (words_5688, s_5693)) rfl (.cons .rfl (.cons .rfl (.cons .rfl (.cons .any (.cons .any (.cons .any .nil))))))) (fun s_5701 => (p_for (vs := [5, 4]) (fun (s : List Str) => [im rY a, .own none (oLi (tl rS) s), im rY s_5701.2, .any, .any, .any]) _ s_5701.1 hp (i_tup (x_out (ouT (ouTu (ouc ouI (ou1 ouI)))) (x_var 2 rfl))) (gt_tup rfl (gts_cons (gt_name 4 (by decide) hnd) (gts_one (gt_name 5 (by decide) hnd)))) (fun s_5702 x_5703 => (s_extend 1 (x_frzE (f_listN (k := 2) (ln_cons (x_callTy call_str_int dStrI T.n_str (by decide +kernel) (a_one (x_var 4 rfl))) (ln_cons (x_callTy call_str_int dStrI T.n_str (by decide +kernel) (a_one (x_var 5 rfl))) ln_nil)))) (fun y_5707 => (s_go (o := (s_5702 ++ y_5707)) rfl (.cons .rfl (.cons .rfl (.cons .rfl (.cons .any (.cons .any (.cons .any .nil)))))))))) (.cons .rfl (.cons .rfl (.cons .rfl (.cons .any (.cons .any (.cons .any .nil)))))) (fun s_5708 => (p_for (vs := [3]) (fun (s : List Str) => [im rY a, .own none (oLi (tl rS) s), im rY s_5701.2, .any, .any, .any]) _ s_5708 hp (i_list (x_call (w_law_parts T) (hr.mono (Nat.le_add_right_of_le (by decide))) T.g__law_parts T.k__law_parts T.b__law_parts tk .nil (a_one (x_var 0 rfl)))) (gt_name 3 (by decide) hnd) (fun s_5709 x_5710 => (s_extend 1 (x_call ih (hr.mono (Nat.le_refl _)) T.g__law_words T.k__law_words T.b__law_words tk .nil (a_one (x_var 3 rfl))) (fun y_5711 => (s_go (o := (s_5709 ++ y_5711)) rfl (.cons .rfl (.cons .rfl (.cons .rfl (.cons .any (.cons .any (.cons .any .nil)))))))))) (.cons .rfl (.cons .rfl (.cons .rfl (.cons .any (.cons .any (.cons .any .nil)))))) (fun s_5712 => (s_give 1 rfl (p_retf [] (fun _ => rfl) .nil (x_var 1 rfl)))))))))))))))) (by simp only [m_law_words, ok_bindP, ok_calmP, chk_calmP, opt_calmP, R.bind_pure, R.bind_assoc] <;> rfl))
theorem w_law_same (T : Txt K mg Ad) (fu : Nat) : FnOk P w K mg base (L2.CX P w) (1 + fu) Ad.f_law_same Ad.d_law_same ["found", "due"] (SpP mg (tc rY (t1 rY)) rB (fun a => m_law_same fu a.1 a.2)) := by
  have hnd := sc_law_same.nd
  induction fu with
  | zero => exact f_ok (fun a => [im rY a.1, im rY a.2, .any, .any]) T.F__law_same sc_law_same (arc ar1) rfl (by decide) (fun _ => rfl) (fun cdv A outer s H E hr tk hp a => SX.cv (s_bad) (by simp only [m_law_same]))
  | succ fu ih => exact f_ok (fun a => [im rY a.1, im rY a.2, .any, .any]) T.F__law_same sc_law_same (arc ar1) rfl (by decide) (fun _ => rfl) (fun cdv A outer s H E hr tk hp a => SX.cv (
    (p_ifT (x_test (x_isi2 (T1 := "tuple") (T2 := "list") Dy.isTup Dy.isLst tyY ky_tuple ky_list T.n_isinstance T.n_tuple T.n_list (by decide +kernel) (by decide +kernel) (x_var 1 rfl))) (p_ifT (x_w (w_or2 (x_tcmp op_ne dNeB (x_isi (T := "tuple") Dy.isTup tyY ky_tuple T.n_isinstance T.n_tuple (by decide +kernel) (x_var 0 rfl)) (x_isi (T := "tuple") Dy.isTup tyY ky_tuple T.n_isinstance T.n_tuple (by decide +kernel) (x_var 1 rfl))) (w_or1 (x_tnot (x_test (x_isi2 (T1 := "tuple") (T2 := "list") Dy.isTup Dy.isLst tyY ky_tuple ky_list T.n_isinstance T.n_tuple T.n_list (by decide +kernel) (by decide +kernel) (x_var 0 rfl))))))) (p_retf [] (fun _ => rfl) .nil x_bl) (p_retf [] (fun _ => rfl) .nil (x_and (x_cmp op_eq dEqI (x_len dLenY T.n_len (a_one (x_var 0 rfl))) (x_len dLenY T.n_len (a_one (x_var 1 rfl)))) (x_one (x_callB (cr_all rfl) dAll T.n_all (by decide +kernel) (a_one (x_frzE (f_lcM (own := [("one", 2), ("other", 3)]) hnd (i_zipY T.n_zip (a_cons (x_var 0 rfl) (a_one (x_var 1 rfl)))) (blkOk_by (N := N_law_same) (sc := defScope s_law_same) (by decide +kernel)) (fun _ _ _ _ _ => (gt_tup rfl (gts_cons (gt_name 2 (by decide) hnd) (gts_one (gt_name 3 (by decide) hnd))))) (fun _ _ _ _ _ y_5728 => (x_call ih (hr.mono (Nat.le_refl _)) T.g__law_same T.k__law_same T.b__law_same takes0 .nil (a_cons (x_var 2 rfl) (a_one (x_var 3 rfl))))))))))))) (p_ifT (x_w (w_or2 (x_test (x_isi (T := "bool") Dy.isBl tyY ky_bool T.n_isinstance T.n_bool (by decide +kernel) (x_var 1 rfl))) (w_or1 (x_test (x_isi (T := "bool") Dy.isBl tyY ky_bool T.n_isinstance T.n_bool (by decide +kernel) (x_var 0 rfl)))))) (p_retf [] (fun _ => rfl) .nil (x_and (x_isi (T := "bool") Dy.isBl tyY ky_bool T.n_isinstance T.n_bool (by decide +kernel) (x_var 1 rfl)) (x_and (x_isi (T := "bool") Dy.isBl tyY ky_bool T.n_isinstance T.n_bool (by decide +kernel) (x_var 0 rfl)) (x_one (x_cmp (op_eqD (u64 hr)) dEqY (x_var 0 rfl) (x_var 1 rfl)))))) (p_ifT (x_test (x_isi (T := "str") Dy.isStr tyY ky_str T.n_isinstance T.n_str (by decide +kernel) (x_var 1 rfl))) (p_retf [] (fun _ => rfl) .nil (x_and (x_isi (T := "str") Dy.isStr tyY ky_str T.n_isinstance T.n_str (by decide +kernel) (x_var 0 rfl)) (x_one (x_cmp (op_eqD (u64 hr)) dEqY (x_var 0 rfl) (x_var 1 rfl))))) (p_retf [] (fun _ => rfl) .nil (x_and (x_isi (T := "int") Dy.isInt tyY ky_int T.n_isinstance T.n_int (by decide +kernel) (x_var 0 rfl)) (x_one (x_cmp (op_eqD (u64 hr)) dEqY (x_var 0 rfl) (x_var 1 rfl))))))))) (by simp only [m_law_same, ok_bindP, ok_calmP, chk_calmP, opt_calmP, R.bind_pure, R.bind_assoc] <;> rfl))
theorem w_Plan_made (T : Txt K mg Ad) : FnOk P w K mg base (L2.CX P w) 1 Ad.fPlan_made Ad.dPlan_made ["self", "shape"] (SpP mg (tc (rPl (csl Ad)) (t1 (rTu (tc (rT rC) (t1 rB))))) (rTu (tc (rT rC) (t1 rB))) (fun a => m_Plan_made a.1 a.2)) :=
  have hnd := scPlan_made.nd
  f_ok (fun a => [im (rPl (csl Ad)) a.1, im (rTu (tc (rT rC) (t1 rB))) a.2]) T.F_Plan_made scPlan_made (arc ar1) rfl (by decide) (fun _ => rfl) (fun cdv A outer s H E hr tk hp a => SX.cv (
    (p_retf [] (fun _ => rfl) .nil (x_var 1 rfl))) (by unfold m_Plan_made; simp only [ok_bindP, ok_calmP, chk_calmP, opt_calmP, R.bind_pure, R.bind_assoc] <;> rfl))
theorem w_Nothing_made (T : Txt K mg Ad) : FnOk P w K mg base (L2.CX P w) 1 Ad.fNothing_made Ad.dNothing_made ["self", "shape"] (SpP mg (tc (rPl (csl Ad)) (t1 (rTu (tc (rT rC) (t1 rB))))) (rTu (tc (rT rC) (t1 rB))) (fun a => m_Nothing_made a.1 a.2)) :=
  have hnd := scNothing_made.nd
  f_ok (fun a => [im (rPl (csl Ad)) a.1, im (rTu (tc (rT rC) (t1 rB))) a.2]) T.F_Nothing_made scNothing_made (arc ar1) rfl (by decide) (fun _ => rfl) (fun cdv A outer s H E hr tk hp a => SX.cv (
    (p_retf [] (fun _ => rfl) .nil (x_tup (a_cons (x_tup0 (ρ := rC)) (a_one x_bl)) (fun _ _ _ h => sz ((nc (fun _ _ _ h => n1 h)) h) (by decide))))) (by unfold m_Nothing_made; simp only [ok_bindP, ok_calmP, chk_calmP, opt_calmP, R.bind_pure, R.bind_assoc] <;> rfl))
theorem w_Everything_made (T : Txt K mg Ad) : FnOk P w K mg base (L2.CX P w) 1 Ad.fEverything_made Ad.dEverything_made ["self", "shape"] (SpP mg (tc (rPl (csl Ad)) (t1 (rTu (tc (rT rC) (t1 rB))))) (rTu (tc (rT rC) (t1 rB))) (fun a => m_Everything_made a.1 a.2)) :=
  have hnd := scEverything_made.nd
  f_ok (fun a => [im (rPl (csl Ad)) a.1, im (rTu (tc (rT rC) (t1 rB))) a.2]) T.F_Everything_made scEverything_made (arc ar1) rfl (by decide) (fun _ => rfl) (fun cdv A outer s H E hr tk hp a => SX.cv (
    (p_retf [] (fun _ => rfl) .nil (x_tup (a_cons (x_tup0 (ρ := rC)) (a_one x_bl)) (fun _ _ _ h => sz ((nc (fun _ _ _ h => n1 h)) h) (by decide))))) (by unfold m_Everything_made; simp only [ok_bindP, ok_calmP, chk_calmP, opt_calmP, R.bind_pure, R.bind_assoc] <;> rfl))
theorem w_moved_cell (T : Txt K mg Ad) : FnOk P w K mg base (L2.CX P w) 1 Ad.fmoved_cell Ad.dmoved_cell ["cell", "step"] (SpP mg (tc rC (t1 rC)) rC (fun a => m_moved_cell a.1 a.2)) :=
  have hnd := scmoved_cell.nd
  f_ok (fun a => [im rC a.1, im rC a.2]) T.F_moved_cell scmoved_cell (arc ar1) rfl (by decide) (fun _ => rfl) (fun cdv A outer s H E hr tk hp a => SX.cv (
    (p_retf [] (fun _ => rfl) .nil (x_tup (a_cons (x_add (x_pj 0 pj0 (x_var 0 rfl)) (x_pj 0 pj0 (x_var 1 rfl))) (a_one (x_add (x_pj 1 (pjs pj1) (x_var 0 rfl)) (x_pj 1 (pjs pj1) (x_var 1 rfl))))) (fun _ _ _ h => sz ((nc (fun _ _ _ h => n1 h)) h) (by decide))))) (by unfold m_moved_cell; simp only [ok_bindP, ok_calmP, chk_calmP, opt_calmP, R.bind_pure, R.bind_assoc] <;> rfl))
theorem w_moved (T : Txt K mg Ad) : FnOk P w K mg base (L2.CX P w) 2 Ad.fmoved Ad.dmoved ["shape", "step"] (SpP mg (tc (rTu (tc (rT rC) (t1 rB))) (t1 rC)) (rTu (tc (rT rC) (t1 rB))) (fun a => m_moved a.1 a.2)) :=
  have hnd := scmoved.nd
  f_ok (fun a => [im (rTu (tc (rT rC) (t1 rB))) a.1, im rC a.2, .any, .any, .any]) T.F_moved scmoved (arc ar1) rfl (by decide) (fun _ => rfl) (fun cdv A outer s H E hr tk hp a => SX.cv (
    (p_asg (vs := [2, 3]) (gt_tup rfl (gts_cons (gt_name 2 (by decide) hnd) (gts_one (gt_name 3 (by decide) hnd)))) (x_var 0 rfl) (fun p_5759 => (p_retf [] (fun _ => rfl) .nil (x_tup (a_cons (x_callTy call_tuple_of dTupL T.n_tuple (by decide +kernel) (a_one (x_frzE (f_lcM (own := [("cell", 4)]) hnd (i_tup (x_var 2 rfl)) (blkOk_by (N := Nmoved) (sc := defScope smoved) (by decide +kernel)) (fun _ _ _ _ _ => (gt_name 4 (by decide) hnd)) (fun _ _ _ _ _ y_5760 => (x_call (w_moved_cell T) (hr.mono (by decide)) T.g_moved_cell T.k_moved_cell T.b_moved_cell takes0 .nil (a_cons (x_var 4 rfl) (a_one (x_var 1 rfl))))))))) (a_one (x_var 3 rfl))) (fun _ _ _ h => sz ((nc (fun _ _ _ h => n1 h)) h) (by decide))))))) (by unfold m_moved; simp only [ok_bindP, ok_calmP, chk_calmP, opt_calmP, R.bind_pure, R.bind_assoc] <;> rfl))
theorem w_Move_made (T : Txt K mg Ad) {L : Nat} (hL : 4 ≤ L) {D : Pl → ((List (Int × Int)) × Bool) → R ((List (Int × Int)) × Bool)} (ih : MethD P w K mg base (csl Ad) "done" L (tc (rPl (csl Ad)) (t1 (rTu (tc (rT rC) (t1 rB))))) (SpP mg (tc (rPl (csl Ad)) (t1 (rTu (tc (rT rC) (t1 rB))))) (rTu (tc (rT rC) (t1 rB)))) (fun x => x.1) (fun a => D a.1 a.2)) : FnOk P w K mg base (L2.CX P w) (L + 1) Ad.fMove_made Ad.dMove_made ["self", "shape"] (SpP mg (tc (rPl (csl Ad)) (t1 (rTu (tc (rT rC) (t1 rB))))) (rTu (tc (rT rC) (t1 rB))) (fun a => m_Move_made D a.1 a.2)) :=
  have hnd := scMove_made.nd
  f_ok (fun a => [im (rPl (csl Ad)) a.1, im (rTu (tc (rT rC) (t1 rB))) a.2]) T.F_Move_made scMove_made (arc ar1) rfl (by decide) (fun _ => rfl) (fun cdv A outer s H E hr tk hp a => SX.cv (
    (p_retf [] (fun _ => rfl) .nil (x_call (w_moved T) (hr.mono (by omega)) T.g_moved T.k_moved T.b_moved tk .nil (a_cons (x_meth ih T.pl (hr.mono (by omega)) tk .nil (by decide +kernel) (x_fld (fldPlan _) T.pl (x_var 0 rfl)) (a_one (x_var 1 rfl))) (a_one (x_fld (fldStep _) T.pl (x_var 0 rfl))))))) (by unfold m_Move_made; simp only [ok_bindP, ok_calmP, chk_calmP, opt_calmP, R.bind_pure, R.bind_assoc] <;> rfl))
theorem w_mirrored (T : Txt K mg Ad) : FnOk P w K mg base (L2.CX P w) 2 Ad.fmirrored Ad.dmirrored ["piece"] (SpP mg (t1 (rT rC)) (rT rC) (fun a => m_mirrored a)) :=
  have hnd := scmirrored.nd
  f_ok (fun a => [im (rT rC) a, .any, .any]) T.F_mirrored scmirrored ar1 rfl (by decide) (fun _ => rfl) (fun cdv A outer s H E hr tk hp a => SX.cv (
    (p_retf [] (fun _ => rfl) .nil (x_call (w_rising T) (hr.mono (by decide)) T.g_rising T.k_rising T.b_rising tk .nil (a_one (x_frzE (f_lcM (own := [("row", 1), ("column", 2)]) hnd (i_tup (x_var 0 rfl)) (blkOk_by (N := Nmirrored) (sc := defScope smirrored) (by decide +kernel)) (fun _ _ _ _ _ => (gt_tup rfl (gts_cons (gt_name 1 (by decide) hnd) (gts_one (gt_name 2 (by decide) hnd))))) (fun _ _ _ _ _ y_5774 => (x_tup (a_cons (x_sub x_int (x_var 1 rfl)) (a_one (x_sub x_int (x_var 2 rfl)))) (fun _ _ _ h => sz ((nc (fun _ _ _ h => n1 h)) h) (by decide)))))))))) (by unfold m_mirrored; simp only [ok_bindP, ok_calmP, chk_calmP, opt_calmP, R.bind_pure, R.bind_assoc] <;> rfl))
theorem w_lies_on (T : Txt K mg Ad) : FnOk P w K mg base (L2.CX P w) 2 Ad.flies_on Ad.dlies_on ["piece", "cell"] (SpP mg (tc (rT rC) (t1 rC)) (rL rC) (fun a => m_lies_on a.1 a.2)) :=
  have hnd := sclies_on.nd
  f_ok (fun a => [im (rT rC) a.1, im rC a.2, .any]) T.F_lies_on sclies_on (arc ar1) rfl (by decide) (fun _ => rfl) (fun cdv A outer s H E hr tk hp a => SX.cv (
    (p_retf [] (fun _ => rfl) .nil (x_frzE (f_lcM (own := [("step", 2)]) hnd (i_tup (x_var 0 rfl)) (blkOk_by (N := Nlies_on) (sc := defScope slies_on) (by decide +kernel)) (fun _ _ _ _ _ => (gt_name 2 (by decide) hnd)) (fun _ _ _ _ _ y_5780 => (x_call (w_moved_cell T) (hr.mono (by decide)) T.g_moved_cell T.k_moved_cell T.b_moved_cell takes0 .nil (a_cons (x_var 2 rfl) (a_one (x_var 1 rfl))))))))) (by unfold m_lies_on; simp only [ok_bindP, ok_calmP, chk_calmP, opt_calmP, R.bind_pure, R.bind_assoc] <;> rfl))
theorem w_reached (T : Txt K mg Ad) : FnOk P w K mg base (L2.CX P w) 3 Ad.freached Ad.dreached ["cells", "piece"] (SpP mg (tc (rT rC) (t1 (rT rC))) (rT rC) (fun a => m_reached a.1 a.2)) :=
  have hnd := screached.nd
  f_ok (fun a => [im (rT rC) a.1, im (rT rC) a.2, .any, .any]) T.F_reached screached (arc ar1) rfl (by decide) (fun _ => rfl) (fun cdv A outer s H E hr tk hp a => SX.cv (
    (p_own 2 hnd (f_nil (ρ := rC)) (fun told_5783 => (p_for (vs := [3]) (fun (s : List (Int × Int)) => [im (rT rC) a.1, im (rT rC) a.2, .own none (oLi (tl rC) s), .any]) _ told_5783 hp (i_tup (x_var 0 rfl)) (gt_name 3 (by decide) hnd) (fun s_5784 x_5785 => (s_extend 2 (x_call (w_lies_on T) (hr.mono (by decide)) T.g_lies_on T.k_lies_on T.b_lies_on tk .nil (a_cons (x_var 1 rfl) (a_one (x_var 3 rfl)))) (fun y_5786 => (s_go (o := (s_5784 ++ y_5786)) rfl (.cons .rfl (.cons .rfl (.cons .rfl (.cons .any .nil)))))))) (.cons .rfl (.cons .rfl (.cons .rfl (.cons .any .nil)))) (fun s_5787 => (s_give 2 rfl (p_retf [] (fun _ => rfl) .nil (x_call (w_rising T) (hr.mono (by decide)) T.g_rising T.k_rising T.b_rising tk .nil (a_one (x_var 2 rfl)))))))))) (by unfold m_reached; simp only [ok_bindP, ok_calmP, chk_calmP, opt_calmP, R.bind_pure, R.bind_assoc] <;> rfl))
theorem w_less_cell (T : Txt K mg Ad) : FnOk P w K mg base (L2.CX P w) 1 Ad.fless_cell Ad.dless_cell ["cell", "step"] (SpP mg (tc rC (t1 rC)) rC (fun a => m_less_cell a.1 a.2)) :=
  have hnd := scless_cell.nd
  f_ok (fun a => [im rC a.1, im rC a.2]) T.F_less_cell scless_cell (arc ar1) rfl (by decide) (fun _ => rfl) (fun cdv A outer s H E hr tk hp a => SX.cv (
    (p_retf [] (fun _ => rfl) .nil (x_tup (a_cons (x_sub (x_pj 0 pj0 (x_var 0 rfl)) (x_pj 0 pj0 (x_var 1 rfl))) (a_one (x_sub (x_pj 1 (pjs pj1) (x_var 0 rfl)) (x_pj 1 (pjs pj1) (x_var 1 rfl))))) (fun _ _ _ h => sz ((nc (fun _ _ _ h => n1 h)) h) (by decide))))) (by unfold m_less_cell; simp only [ok_bindP, ok_calmP, chk_calmP, opt_calmP, R.bind_pure, R.bind_assoc] <;> rfl))
theorem w_kept_at (T : Txt K mg Ad) : FnOk P w K mg base (L2.CX P w) 3 Ad.fkept_at Ad.dkept_at ["cells", "piece"] (SpP mg (tc (rT rC) (t1 (rT rC))) (rT rC) (fun a => m_kept_at a.1 a.2)) :=
  have hnd := sckept_at.nd
  f_ok (fun a => [im (rT rC) a.1, im (rT rC) a.2, .any, .any, .any, .any, .any]) T.F_kept_at sckept_at (arc ar1) rfl (by decide) (fun _ => rfl) (fun cdv A outer s H E hr tk hp a => SX.cv (
    (p_own 2 hnd (f_dict (ky := kyC) (π := rB)) (fun _ => (p_for (vs := [3]) (fun (s : List ((Int × Int) × Bool)) => [im (rT rC) a.1, im (rT rC) a.2, .own none (oD kyC rB s), .any, .any, .any, .any]) _ ([] : List ((Int × Int) × Bool)) hp (i_tup (x_var 0 rfl)) (gt_name 3 (by decide) hnd) (fun s_5809 x_5810 => (s_dput 2 (u1 hr) x_bl (x_var 3 rfl) (fun v_5811 k_5812 => (let held_5813 : List ((Int × Int) × Bool) := (dPut s_5809 k_5812 v_5811); (s_go (o := held_5813) rfl (.cons .rfl (.cons .rfl (.cons .rfl (.cons .any (.cons .any (.cons .any (.cons .any .nil)))))))))))) (.cons .rfl (.cons .rfl (.cons .rfl (.cons .any (.cons .any (.cons .any (.cons .any .nil))))))) (fun s_5814 => (p_own 4 hnd (f_nil (ρ := rC)) (fun told_5815 => (s_giveD 2 rfl (p_for (vs := [3]) (fun (s : List (Int × Int)) => [im (rT rC) a.1, im (rT rC) a.2, im (rD kyC rB) s_5814, .any, .own none (oLi (tl rC) s), .any, .any]) _ told_5815 hp (i_tup (x_var 0 rfl)) (gt_name 3 (by decide) hnd) (fun s_5816 x_5817 => (p_set 5 hnd (x_call (w_less_cell T) (hr.mono (by decide)) T.g_less_cell T.k_less_cell T.b_less_cell tk .nil (a_cons (x_var 3 rfl) (a_one (x_ixT (x_var 1 rfl) x_int)))) (fun place_5820 => (p_if2 (x_test (x_callB (cr_all rfl) dAll T.n_all (by decide +kernel) (a_one (x_frzE (f_lcM (own := [("there", 6)]) hnd (i_list (x_call (w_lies_on T) (hr.mono (by decide)) T.g_lies_on T.k_lies_on T.b_lies_on tk .nil (a_cons (x_var 1 rfl) (a_one (x_var 5 rfl))))) (blkOk_by (N := Nkept_at) (sc := defScope skept_at) (by decide +kernel)) (fun _ _ _ _ _ => (gt_name 6 (by decide) hnd)) (fun _ _ _ _ _ y_5821 => (c_val (c_in (u1 hr) (x_var 6 rfl) (d_imm (x_var 2 rfl)))))))))) (s_append 4 (x_var 5 rfl) (fun y_5824 => (s_go (o := (s_5816 ++ [y_5824])) rfl (.cons .rfl (.cons .rfl (.cons .rfl (.cons .any (.cons .rfl (.cons .any (.cons .any .nil)))))))))) (s_go (o := s_5816) rfl (.cons .rfl (.cons .rfl (.cons .rfl (.cons .any (.cons .rfl (.cons .any (.cons .any .nil)))))))))))) (.cons .rfl (.cons .rfl (.cons .rfl (.cons .any (.cons .rfl (.cons .any (.cons .any .nil))))))) (fun s_5826 => (s_give 4 rfl (p_retf [] (fun _ => rfl) .nil (x_callTy call_tuple_of dTupL T.n_tuple (by decide +kernel) (a_one (x_var 4 rfl))))))))))))))) (by unfold m_kept_at; simp only [ok_bindP, ok_calmP, chk_calmP, opt_calmP, R.bind_pure, R.bind_assoc] <;> rfl))
theorem w_eaten (T : Txt K mg Ad) : FnOk P w K mg base (L2.CX P w) 4 Ad.featen Ad.deaten ["shape", "piece"] (SpP mg (tc (rTu (tc (rT rC) (t1 rB))) (t1 (rT rC))) (rTu (tc (rT rC) (t1 rB))) (fun a => m_eaten a.1 a.2)) :=
  have hnd := sceaten.nd
  f_ok (fun a => [im (rTu (tc (rT rC) (t1 rB))) a.1, im (rT rC) a.2, .any, .any]) T.F_eaten sceaten (arc ar1) rfl (by decide) (fun _ => rfl) (fun cdv A outer s H E hr tk hp a => SX.cv (
    (p_asg (vs := [2, 3]) (gt_tup rfl (gts_cons (gt_name 2 (by decide) hnd) (gts_one (gt_name 3 (by decide) hnd)))) (x_var 0 rfl) (fun p_5828 => (p_ifT (x_test (x_var 3 rfl)) (p_retf [] (fun _ => rfl) .nil (x_tup (a_cons (x_call (w_reached T) (hr.mono (by decide)) T.g_reached T.k_reached T.b_reached tk .nil (a_cons (x_var 2 rfl) (a_one (x_call (w_mirrored T) (hr.mono (by decide)) T.g_mirrored T.k_mirrored T.b_mirrored tk .nil (a_one (x_var 1 rfl)))))) (a_one x_bl)) (fun _ _ _ h => sz ((nc (fun _ _ _ h => n1 h)) h) (by decide)))) (p_retf [] (fun _ => rfl) .nil (x_tup (a_cons (x_call (w_kept_at T) (hr.mono (by decide)) T.g_kept_at T.k_kept_at T.b_kept_at tk .nil (a_cons (x_var 2 rfl) (a_one (x_var 1 rfl)))) (a_one x_bl)) (fun _ _ _ h => sz ((nc (fun _ _ _ h => n1 h)) h) (by decide)))))))) (by unfold m_eaten; simp only [ok_bindP, ok_calmP, chk_calmP, opt_calmP, R.bind_pure, R.bind_assoc] <;> rfl))
theorem w_Eat_made (T : Txt K mg Ad) {L : Nat} (hL : 4 ≤ L) {D : Pl → ((List (Int × Int)) × Bool) → R ((List (Int × Int)) × Bool)} (ih : MethD P w K mg base (csl Ad) "done" L (tc (rPl (csl Ad)) (t1 (rTu (tc (rT rC) (t1 rB))))) (SpP mg (tc (rPl (csl Ad)) (t1 (rTu (tc (rT rC) (t1 rB))))) (rTu (tc (rT rC) (t1 rB)))) (fun x => x.1) (fun a => D a.1 a.2)) : FnOk P w K mg base (L2.CX P w) (L + 1) Ad.fEat_made Ad.dEat_made ["self", "shape"] (SpP mg (tc (rPl (csl Ad)) (t1 (rTu (tc (rT rC) (t1 rB))))) (rTu (tc (rT rC) (t1 rB))) (fun a => m_Eat_made D a.1 a.2)) :=
  have hnd := scEat_made.nd
  f_ok (fun a => [im (rPl (csl Ad)) a.1, im (rTu (tc (rT rC) (t1 rB))) a.2]) T.F_Eat_made scEat_made (arc ar1) rfl (by decide) (fun _ => rfl) (fun cdv A outer s H E hr tk hp a => SX.cv (
    (p_retf [] (fun _ => rfl) .nil (x_call (w_eaten T) (hr.mono (by omega)) T.g_eaten T.k_eaten T.b_eaten tk .nil (a_cons (x_meth ih T.pl (hr.mono (by omega)) tk .nil (by decide +kernel) (x_fld (fldPlan _) T.pl (x_var 0 rfl)) (a_one (x_var 1 rfl))) (a_one (x_fld (fldPiece _) T.pl (x_var 0 rfl))))))) (by unfold m_Eat_made; simp only [ok_bindP, ok_calmP, chk_calmP, opt_calmP, R.bind_pure, R.bind_assoc] <;> rfl))
theorem w_grown (T : Txt K mg Ad) : FnOk P w K mg base (L2.CX P w) 4 Ad.fgrown Ad.dgrown ["shape", "piece"] (SpP mg (tc (rTu (tc (rT rC) (t1 rB))) (t1 (rT rC))) (rTu (tc (rT rC) (t1 rB))) (fun a => m_grown a.1 a.2)) :=
  have hnd := scgrown.nd
  f_ok (fun a => [im (rTu (tc (rT rC) (t1 rB))) a.1, im (rT rC) a.2, .any, .any]) T.F_grown scgrown (arc ar1) rfl (by decide) (fun _ => rfl) (fun cdv A outer s H E hr tk hp a => SX.cv (
    (p_asg (vs := [2, 3]) (gt_tup rfl (gts_cons (gt_name 2 (by decide) hnd) (gts_one (gt_name 3 (by decide) hnd)))) (x_var 0 rfl) (fun p_5846 => (p_ifT (x_test (x_var 3 rfl)) (p_retf [] (fun _ => rfl) .nil (x_tup (a_cons (x_call (w_kept_at T) (hr.mono (by decide)) T.g_kept_at T.k_kept_at T.b_kept_at tk .nil (a_cons (x_var 2 rfl) (a_one (x_call (w_mirrored T) (hr.mono (by decide)) T.g_mirrored T.k_mirrored T.b_mirrored tk .nil (a_one (x_var 1 rfl)))))) (a_one x_bl)) (fun _ _ _ h => sz ((nc (fun _ _ _ h => n1 h)) h) (by decide)))) (p_retf [] (fun _ => rfl) .nil (x_tup (a_cons (x_call (w_reached T) (hr.mono (by decide)) T.g_reached T.k_reached T.b_reached tk .nil (a_cons (x_var 2 rfl) (a_one (x_var 1 rfl)))) (a_one x_bl)) (fun _ _ _ h => sz ((nc (fun _ _ _ h => n1 h)) h) (by decide)))))))) (by unfold m_grown; simp only [ok_bindP, ok_calmP, chk_calmP, opt_calmP, R.bind_pure, R.bind_assoc] <;> rfl))
theorem w_Grow_made (T : Txt K mg Ad) {L : Nat} (hL : 4 ≤ L) {D : Pl → ((List (Int × Int)) × Bool) → R ((List (Int × Int)) × Bool)} (ih : MethD P w K mg base (csl Ad) "done" L (tc (rPl (csl Ad)) (t1 (rTu (tc (rT rC) (t1 rB))))) (SpP mg (tc (rPl (csl Ad)) (t1 (rTu (tc (rT rC) (t1 rB))))) (rTu (tc (rT rC) (t1 rB)))) (fun x => x.1) (fun a => D a.1 a.2)) : FnOk P w K mg base (L2.CX P w) (L + 1) Ad.fGrow_made Ad.dGrow_made ["self", "shape"] (SpP mg (tc (rPl (csl Ad)) (t1 (rTu (tc (rT rC) (t1 rB))))) (rTu (tc (rT rC) (t1 rB))) (fun a => m_Grow_made D a.1 a.2)) :=
  have hnd := scGrow_made.nd
  f_ok (fun a => [im (rPl (csl Ad)) a.1, im (rTu (tc (rT rC) (t1 rB))) a.2]) T.F_Grow_made scGrow_made (arc ar1) rfl (by decide) (fun _ => rfl) (fun cdv A outer s H E hr tk hp a => SX.cv (
    (p_retf [] (fun _ => rfl) .nil (x_call (w_grown T) (hr.mono (by omega)) T.g_grown T.k_grown T.b_grown tk .nil (a_cons (x_meth ih T.pl (hr.mono (by omega)) tk .nil (by decide +kernel) (x_fld (fldPlan _) T.pl (x_var 0 rfl)) (a_one (x_var 1 rfl))) (a_one (x_fld (fldPiece _) T.pl (x_var 0 rfl))))))) (by unfold m_Grow_made; simp only [ok_bindP, ok_calmP, chk_calmP, opt_calmP, R.bind_pure, R.bind_assoc] <;> rfl))
theorem w_rising_2 (T : Txt K mg Ad) : FnOk P w K mg base (L2.CX P w) 1 Ad.frising Ad.drising ["cells"] (SpP mg (t1 (rT rC)) (rT rC) (fun a => m_rising_2 a)) :=
  have hnd := scrising.nd
  f_ok (fun a => [im (rT rC) a]) T.F_rising scrising ar1 rfl (by decide) (fun _ => rfl) (fun cdv A outer s H E hr tk hp a => SX.cv (
    (p_retf [] (fun _ => rfl) .nil (x_callTy call_tuple_of dTupL T.n_tuple (by decide +kernel) (a_one (x_frzE (f_sortset T.n_sorted (x_setT (u64 hr) T.n_set (x_var 0 rfl)))))))) (by unfold m_rising_2; simp only [ok_bindP, ok_calmP, chk_calmP, opt_calmP, R.bind_pure, R.bind_assoc] <;> rfl))
theorem w_only_in (T : Txt K mg Ad) : FnOk P w K mg base (L2.CX P w) 1 Ad.fonly_in Ad.donly_in ["one", "other"] (SpP mg (tc (rT rC) (t1 (rT rC))) (rT rC) (fun a => m_only_in a.1 a.2)) :=
  have hnd := sconly_in.nd
  f_ok (fun a => [im (rT rC) a.1, im (rT rC) a.2, .any, .any]) T.F_only_in sconly_in (arc ar1) rfl (by decide) (fun _ => rfl) (fun cdv A outer s H E hr tk hp a => SX.cv (
    (p_own 2 hnd (f_dict (ky := kyC) (π := rB)) (fun _ => (p_for (vs := [3]) (fun (s : List ((Int × Int) × Bool)) => [im (rT rC) a.1, im (rT rC) a.2, .own none (oD kyC rB s), .any]) _ ([] : List ((Int × Int) × Bool)) hp (i_tup (x_var 1 rfl)) (gt_name 3 (by decide) hnd) (fun s_5872 x_5873 => (s_dput 2 (u1 hr) x_bl (x_var 3 rfl) (fun v_5874 k_5875 => (let seen_5876 : List ((Int × Int) × Bool) := (dPut s_5872 k_5875 v_5874); (s_go (o := seen_5876) rfl (.cons .rfl (.cons .rfl (.cons .rfl (.cons .any .nil))))))))) (.cons .rfl (.cons .rfl (.cons .rfl (.cons .any .nil)))) (fun s_5877 => (s_giveD 2 rfl (p_retf [] (fun _ => rfl) .nil (x_callTy call_tuple_of dTupL T.n_tuple (by decide +kernel) (a_one (x_frzE (f_lcF (own := [("cell", 3)]) hnd (i_tup (x_var 0 rfl)) (blkOk_by (N := Nonly_in) (sc := defScope sonly_in) (by decide +kernel)) (fun _ _ _ _ _ => (gt_name 3 (by decide) hnd)) (fun _ _ _ _ _ y_5878 => (ts_one (c_tst (c_nin (u1 hr) (x_var 3 rfl) (d_imm (x_var 2 rfl)))))) (fun _ _ _ _ _ y_5878 => (x_var 3 rfl))))))))))))) (by unfold m_only_in; simp only [ok_bindP, ok_calmP, chk_calmP, opt_calmP, R.bind_pure, R.bind_assoc] <;> rfl))
theorem w_both (T : Txt K mg Ad) : FnOk P w K mg base (L2.CX P w) 2 Ad.fboth Ad.dboth ["one", "other"] (SpP mg (tc (rTu (tc (rT rC) (t1 rB))) (t1 (rTu (tc (rT rC) (t1 rB))))) (rTu (tc (rT rC) (t1 rB))) (fun a => m_both a.1 a.2)) :=
  have hnd := scboth.nd
  f_ok (fun a => [im (rTu (tc (rT rC) (t1 rB))) a.1, im (rTu (tc (rT rC) (t1 rB))) a.2]) T.F_both scboth (arc ar1) rfl (by decide) (fun _ => rfl) (fun cdv A outer s H E hr tk hp a => SX.cv (
    (p_ifT (x_w (w_and2 (x_test (x_pj 1 (pjs pj1) (x_var 0 rfl))) (w_and1 (x_test (x_pj 1 (pjs pj1) (x_var 1 rfl)))))) (p_retf [] (fun _ => rfl) .nil (x_tup (a_cons (x_call (w_rising_2 T) (hr.mono (by decide)) T.g_rising T.k_rising T.b_rising tk .nil (a_one (x_catT (x_pj 0 pj0 (x_var 0 rfl)) (x_pj 0 pj0 (x_var 1 rfl))))) (a_one x_bl)) (fun _ _ _ h => sz ((nc (fun _ _ _ h => n1 h)) h) (by decide)))) (p_ifT (x_test (x_pj 1 (pjs pj1) (x_var 0 rfl))) (p_retf [] (fun _ => rfl) .nil (x_tup (a_cons (x_call (w_only_in T) (hr.mono (by decide)) T.g_only_in T.k_only_in T.b_only_in tk .nil (a_cons (x_pj 0 pj0 (x_var 1 rfl)) (a_one (x_pj 0 pj0 (x_var 0 rfl))))) (a_one x_bl)) (fun _ _ _ h => sz ((nc (fun _ _ _ h => n1 h)) h) (by decide)))) (p_ifT (x_test (x_pj 1 (pjs pj1) (x_var 1 rfl))) (p_retf [] (fun _ => rfl) .nil (x_tup (a_cons (x_call (w_only_in T) (hr.mono (by decide)) T.g_only_in T.k_only_in T.b_only_in tk .nil (a_cons (x_pj 0 pj0 (x_var 0 rfl)) (a_one (x_pj 0 pj0 (x_var 1 rfl))))) (a_one x_bl)) (fun _ _ _ h => sz ((nc (fun _ _ _ h => n1 h)) h) (by decide)))) (p_retf [] (fun _ => rfl) .nil (x_tup (a_cons (x_call (w_only_in T) (hr.mono (by decide)) T.g_only_in T.k_only_in T.b_only_in tk .nil (a_cons (x_pj 0 pj0 (x_var 0 rfl)) (a_one (x_call (w_only_in T) (hr.mono (by decide)) T.g_only_in T.k_only_in T.b_only_in tk .nil (a_cons (x_pj 0 pj0 (x_var 0 rfl)) (a_one (x_pj 0 pj0 (x_var 1 rfl)))))))) (a_one x_bl)) (fun _ _ _ h => sz ((nc (fun _ _ _ h => n1 h)) h) (by decide)))))))) (by unfold m_both; simp only [ok_bindP, ok_calmP, chk_calmP, opt_calmP, R.bind_pure, R.bind_assoc] <;> rfl))
theorem w_Both_made (T : Txt K mg Ad) {L : Nat} (hL : 4 ≤ L) {D : Pl → ((List (Int × Int)) × Bool) → R ((List (Int × Int)) × Bool)} (ih : MethD P w K mg base (csl Ad) "done" L (tc (rPl (csl Ad)) (t1 (rTu (tc (rT rC) (t1 rB))))) (SpP mg (tc (rPl (csl Ad)) (t1 (rTu (tc (rT rC) (t1 rB))))) (rTu (tc (rT rC) (t1 rB)))) (fun x => x.1) (fun a => D a.1 a.2)) : FnOk P w K mg base (L2.CX P w) (L + 1) Ad.fBoth_made Ad.dBoth_made ["self", "shape"] (SpP mg (tc (rPl (csl Ad)) (t1 (rTu (tc (rT rC) (t1 rB))))) (rTu (tc (rT rC) (t1 rB))) (fun a => m_Both_made D a.1 a.2)) :=
  have hnd := scBoth_made.nd
  f_ok (fun a => [im (rPl (csl Ad)) a.1, im (rTu (tc (rT rC) (t1 rB))) a.2]) T.F_Both_made scBoth_made (arc ar1) rfl (by decide) (fun _ => rfl) (fun cdv A outer s H E hr tk hp a => SX.cv (
    (p_retf [] (fun _ => rfl) .nil (x_call (w_both T) (hr.mono (by omega)) T.g_both T.k_both T.b_both tk .nil (a_cons (x_meth ih T.pl (hr.mono (by omega)) tk .nil (by decide +kernel) (x_fld (fldOne _) T.pl (x_var 0 rfl)) (a_one (x_var 1 rfl))) (a_one (x_meth ih T.pl (hr.mono (by omega)) tk .nil (by decide +kernel) (x_fld (fldOther _) T.pl (x_var 0 rfl)) (a_one (x_var 1 rfl)))))))) (by unfold m_Both_made; simp only [ok_bindP, ok_calmP, chk_calmP, opt_calmP, R.bind_pure, R.bind_assoc] <;> rfl))
theorem w_outside (T : Txt K mg Ad) : FnOk P w K mg base (L2.CX P w) 1 Ad.foutside Ad.doutside ["shape"] (SpP mg (t1 (rTu (tc (rT rC) (t1 rB)))) (rTu (tc (rT rC) (t1 rB))) (fun a => m_outside a)) :=
  have hnd := scoutside.nd
  f_ok (fun a => [im (rTu (tc (rT rC) (t1 rB))) a, .any, .any]) T.F_outside scoutside ar1 rfl (by decide) (fun _ => rfl) (fun cdv A outer s H E hr tk hp a => SX.cv (
    (p_asg (vs := [1, 2]) (gt_tup rfl (gts_cons (gt_name 1 (by decide) hnd) (gts_one (gt_name 2 (by decide) hnd)))) (x_var 0 rfl) (fun p_5903 => (p_retf [] (fun _ => rfl) .nil (x_tup (a_cons (x_var 1 rfl) (a_one (x_not (x_var 2 rfl)))) (fun _ _ _ h => sz ((nc (fun _ _ _ h => n1 h)) h) (by decide))))))) (by unfold m_outside; simp only [ok_bindP, ok_calmP, chk_calmP, opt_calmP, R.bind_pure, R.bind_assoc] <;> rfl))
theorem w_either (T : Txt K mg Ad) : FnOk P w K mg base (L2.CX P w) 3 Ad.feither Ad.deither ["one", "other"] (SpP mg (tc (rTu (tc (rT rC) (t1 rB))) (t1 (rTu (tc (rT rC) (t1 rB))))) (rTu (tc (rT rC) (t1 rB))) (fun a => m_either a.1 a.2)) :=
  have hnd := sceither.nd
  f_ok (fun a => [im (rTu (tc (rT rC) (t1 rB))) a.1, im (rTu (tc (rT rC) (t1 rB))) a.2]) T.F_either sceither (arc ar1) rfl (by decide) (fun _ => rfl) (fun cdv A outer s H E hr tk hp a => SX.cv (
    (p_retf [] (fun _ => rfl) .nil (x_call (w_outside T) (hr.mono (by decide)) T.g_outside T.k_outside T.b_outside tk .nil (a_one (x_call (w_both T) (hr.mono (by decide)) T.g_both T.k_both T.b_both tk .nil (a_cons (x_call (w_outside T) (hr.mono (by decide)) T.g_outside T.k_outside T.b_outside tk .nil (a_one (x_var 0 rfl))) (a_one (x_call (w_outside T) (hr.mono (by decide)) T.g_outside T.k_outside T.b_outside tk .nil (a_one (x_var 1 rfl)))))))))) (by unfold m_either; simp only [ok_bindP, ok_calmP, chk_calmP, opt_calmP, R.bind_pure, R.bind_assoc] <;> rfl))
theorem w_Either_made (T : Txt K mg Ad) {L : Nat} (hL : 4 ≤ L) {D : Pl → ((List (Int × Int)) × Bool) → R ((List (Int × Int)) × Bool)} (ih : MethD P w K mg base (csl Ad) "done" L (tc (rPl (csl Ad)) (t1 (rTu (tc (rT rC) (t1 rB))))) (SpP mg (tc (rPl (csl Ad)) (t1 (rTu (tc (rT rC) (t1 rB))))) (rTu (tc (rT rC) (t1 rB)))) (fun x => x.1) (fun a => D a.1 a.2)) : FnOk P w K mg base (L2.CX P w) (L + 1) Ad.fEither_made Ad.dEither_made ["self", "shape"] (SpP mg (tc (rPl (csl Ad)) (t1 (rTu (tc (rT rC) (t1 rB))))) (rTu (tc (rT rC) (t1 rB))) (fun a => m_Either_made D a.1 a.2)) :=
  have hnd := scEither_made.nd
  f_ok (fun a => [im (rPl (csl Ad)) a.1, im (rTu (tc (rT rC) (t1 rB))) a.2]) T.F_Either_made scEither_made (arc ar1) rfl (by decide) (fun _ => rfl) (fun cdv A outer s H E hr tk hp a => SX.cv (
    (p_retf [] (fun _ => rfl) .nil (x_call (w_either T) (hr.mono (by omega)) T.g_either T.k_either T.b_either tk .nil (a_cons (x_meth ih T.pl (hr.mono (by omega)) tk .nil (by decide +kernel) (x_fld (fldOne _) T.pl (x_var 0 rfl)) (a_one (x_var 1 rfl))) (a_one (x_meth ih T.pl (hr.mono (by omega)) tk .nil (by decide +kernel) (x_fld (fldOther _) T.pl (x_var 0 rfl)) (a_one (x_var 1 rfl)))))))) (by unfold m_Either_made; simp only [ok_bindP, ok_calmP, chk_calmP, opt_calmP, R.bind_pure, R.bind_assoc] <;> rfl))
theorem w_D_made (T : Txt K mg Ad) {L : Nat} (hL : 4 ≤ L) {D : Pl → ((List (Int × Int)) × Bool) → R ((List (Int × Int)) × Bool)} (ih : MethD P w K mg base (csl Ad) "done" L (tc (rPl (csl Ad)) (t1 (rTu (tc (rT rC) (t1 rB))))) (SpP mg (tc (rPl (csl Ad)) (t1 (rTu (tc (rT rC) (t1 rB))))) (rTu (tc (rT rC) (t1 rB)))) (fun x => x.1) (fun a => D a.1 a.2)) : MethD P w K mg base (csl Ad) "made" (L + 1) (tc (rPl (csl Ad)) (t1 (rTu (tc (rT rC) (t1 rB))))) (SpP mg (tc (rPl (csl Ad)) (t1 (rTu (tc (rT rC) (t1 rB))))) (rTu (tc (rT rC) (t1 rB)))) (fun x => x.1) (fun a => m_D_made D a.1 a.2) :=
  ⟨(pl_cons ⟨_, T.mt_Keep_made, .inr ⟨_, _, _, _, (by omega), T.b_Plan_made, w_Plan_made T, fun x hx => by simp only [m_D_made, hx]⟩⟩ (pl_cons ⟨_, T.mt_Nothing_made, .inr ⟨_, _, _, _, (by omega), T.b_Nothing_made, w_Nothing_made T, fun x hx => by simp only [m_D_made, hx]⟩⟩ (pl_cons ⟨_, T.mt_Everything_made, .inr ⟨_, _, _, _, (by omega), T.b_Everything_made, w_Everything_made T, fun x hx => by simp only [m_D_made, hx]⟩⟩ (pl_cons ⟨_, T.mt_Move_made, .inr ⟨_, _, _, _, (by omega), T.b_Move_made, w_Move_made T hL ih, fun x hx => by simp only [m_D_made, hx]⟩⟩ (pl_cons ⟨_, T.mt_Eat_made, .inr ⟨_, _, _, _, (by omega), T.b_Eat_made, w_Eat_made T hL ih, fun x hx => by simp only [m_D_made, hx]⟩⟩ (pl_cons ⟨_, T.mt_Grow_made, .inr ⟨_, _, _, _, (by omega), T.b_Grow_made, w_Grow_made T hL ih, fun x hx => by simp only [m_D_made, hx]⟩⟩ (pl_cons ⟨_, T.mt_Both_made, .inr ⟨_, _, _, _, (by omega), T.b_Both_made, w_Both_made T hL ih, fun x hx => by simp only [m_D_made, hx]⟩⟩ (pl_cons ⟨_, T.mt_Either_made, .inr ⟨_, _, _, _, (by omega), T.b_Either_made, w_Either_made T hL ih, fun x hx => by simp only [m_D_made, hx]⟩⟩ pl_nil))))))))⟩
theorem w_Plan_done (T : Txt K mg Ad) {L : Nat} (hL : 4 ≤ L) {D : Pl → ((List (Int × Int)) × Bool) → R ((List (Int × Int)) × Bool)} (ih : MethD P w K mg base (csl Ad) "done" L (tc (rPl (csl Ad)) (t1 (rTu (tc (rT rC) (t1 rB))))) (SpP mg (tc (rPl (csl Ad)) (t1 (rTu (tc (rT rC) (t1 rB))))) (rTu (tc (rT rC) (t1 rB)))) (fun x => x.1) (fun a => D a.1 a.2)) : FnOk P w K mg base (L2.CX P w) (L + 2) Ad.fPlan_done Ad.dPlan_done ["self", "shape"] (SpP mg (tc (rPl (csl Ad)) (t1 (rTu (tc (rT rC) (t1 rB))))) (rTu (tc (rT rC) (t1 rB))) (fun a => m_Plan_done D a.1 a.2)) :=
  have hnd := scPlan_done.nd
  f_ok (fun a => [im (rPl (csl Ad)) a.1, im (rTu (tc (rT rC) (t1 rB))) a.2, .any]) T.F_Plan_done scPlan_done (arc ar1) rfl (by decide) (fun _ => rfl) (fun cdv A outer s H E hr tk hp a => SX.cv (
    (p_set 2 hnd (x_meth (w_D_made T hL ih) T.pl (hr.mono (by omega)) tk .nil (by decide +kernel) (x_var 0 rfl) (a_one (x_var 1 rfl))) (fun told_5921 => (p_ifT (x_tcmp op_gt dIb (x_len dLenT T.n_len (a_one (x_pj 0 pj0 (x_var 2 rfl)))) (x_globI T.c_MOST_MADE)) (p_raiseX T.x_TooMany tk .nil) (p_retf [] (fun _ => rfl) .nil (x_var 2 rfl)))))) (by unfold m_Plan_done; simp only [ok_bindP, ok_calmP, chk_calmP, opt_calmP, R.bind_pure, R.bind_assoc] <;> rfl))
theorem w_D_done (T : Txt K mg Ad) (fu : Nat) : MethD P w K mg base (csl Ad) "done" (4 + 2 * fu) (tc (rPl (csl Ad)) (t1 (rTu (tc (rT rC) (t1 rB))))) (SpP mg (tc (rPl (csl Ad)) (t1 (rTu (tc (rT rC) (t1 rB))))) (rTu (tc (rT rC) (t1 rB)))) (fun x => x.1) (fun a => m_D_done fu a.1 a.2) := by
  induction fu with
  | zero => exact ⟨(pl_cons ⟨_, T.mt_Keep_done, .inl fun x _ => by simp only [m_D_done]⟩ (pl_cons ⟨_, T.mt_Nothing_done, .inl fun x _ => by simp only [m_D_done]⟩ (pl_cons ⟨_, T.mt_Everything_done, .inl fun x _ => by simp only [m_D_done]⟩ (pl_cons ⟨_, T.mt_Move_done, .inl fun x _ => by simp only [m_D_done]⟩ (pl_cons ⟨_, T.mt_Eat_done, .inl fun x _ => by simp only [m_D_done]⟩ (pl_cons ⟨_, T.mt_Grow_done, .inl fun x _ => by simp only [m_D_done]⟩ (pl_cons ⟨_, T.mt_Both_done, .inl fun x _ => by simp only [m_D_done]⟩ (pl_cons ⟨_, T.mt_Either_done, .inl fun x _ => by simp only [m_D_done]⟩ pl_nil))))))))⟩
  | succ fu ih => exact ⟨(pl_cons ⟨_, T.mt_Keep_done, .inr ⟨_, _, _, _, (by omega), T.b_Plan_done, w_Plan_done T (Nat.le_add_right _ _) ih, fun x hx => by simp only [m_D_done, hx]⟩⟩ (pl_cons ⟨_, T.mt_Nothing_done, .inr ⟨_, _, _, _, (by omega), T.b_Plan_done, w_Plan_done T (Nat.le_add_right _ _) ih, fun x hx => by simp only [m_D_done, hx]⟩⟩ (pl_cons ⟨_, T.mt_Everything_done, .inr ⟨_, _, _, _, (by omega), T.b_Plan_done, w_Plan_done T (Nat.le_add_right _ _) ih, fun x hx => by simp only [m_D_done, hx]⟩⟩ (pl_cons ⟨_, T.mt_Move_done, .inr ⟨_, _, _, _, (by omega), T.b_Plan_done, w_Plan_done T (Nat.le_add_right _ _) ih, fun x hx => by simp only [m_D_done, hx]⟩⟩ (pl_cons ⟨_, T.mt_Eat_done, .inr ⟨_, _, _, _, (by omega), T.b_Plan_done, w_Plan_done T (Nat.le_add_right _ _) ih, fun x hx => by simp only [m_D_done, hx]⟩⟩ (pl_cons ⟨_, T.mt_Grow_done, .inr ⟨_, _, _, _, (by omega), T.b_Plan_done, w_Plan_done T (Nat.le_add_right _ _) ih, fun x hx => by simp only [m_D_done, hx]⟩⟩ (pl_cons ⟨_, T.mt_Both_done, .inr ⟨_, _, _, _, (by omega), T.b_Plan_done, w_Plan_done T (Nat.le_add_right _ _) ih, fun x hx => by simp only [m_D_done, hx]⟩⟩ (pl_cons ⟨_, T.mt_Either_done, .inr ⟨_, _, _, _, (by omega), T.b_Plan_done, w_Plan_done T (Nat.le_add_right _ _) ih, fun x hx => by simp only [m_D_done, hx]⟩⟩ pl_nil))))))))⟩
theorem w_law_done (T : Txt K mg Ad) : FnOk P w K mg base (L2.CX P w) 21 Ad.f_law_done Ad.d_law_done ["plan", "shape"] (SpP mg (tc (rPl (csl Ad)) (t1 (rTu (tc (rT rC) (t1 rB))))) (rO (rTu (tc (rT rC) (t1 rB)))) (fun a => m_law_done a.1 a.2)) :=
  have hnd := sc_law_done.nd
  f_ok (fun a => [im (rPl (csl Ad)) a.1, im (rTu (tc (rT rC) (t1 rB))) a.2, .any]) T.F__law_done sc_law_done (arc ar1) rfl (by decide) (fun _ => rfl) (fun cdv A outer s H E hr tk hp a => SX.cv (
    (p_set 2 hnd (x_nonO (ρ := (rTu (tc (rT rC) (t1 rB))))) (fun found_5926 => (p_tryOnly (fun s => if s = ("BadTurn" : Str) then some false else if s = ("TooMany" : Str) then some true else none) [im (rPl (csl Ad)) a.1, im (rTu (tc (rT rC) (t1 rB))) a.2, im (rO (rTu (tc (rT rC) (t1 rB)))) found_5926] (fun (s : Option ((List (Int × Int)) × Bool)) => [im (rPl (csl Ad)) a.1, im (rTu (tc (rT rC) (t1 rB))) a.2, im (rO (rTu (tc (rT rC) (t1 rB)))) s]) T.gc_TooMany tk .nil (ct_cons T.x_BadTurn.g T.e_BadTurn_TooMany (ct_cons T.x_TooMany.g T.e_TooMany_TooMany ct_nil)) (fun W_5927 pn_5928 xe_5929 tk_5930 hp_5931 => (p_set 2 hnd (x_map (ρ' := (rO (rTu (tc (rT rC) (t1 rB))))) some (fun _ _ _ h => h) (x_meth (w_D_done T 8) T.pl (hr.mono (by decide)) tk_5930 (.cons .rfl (.cons .rfl (.cons .rfl .nil))) (by decide +kernel) (x_var 0 rfl) (a_one (x_var 1 rfl)))) (fun found_5943 => (s_nx (o := found_5943) rfl (.cons .rfl (.cons .rfl (.cons .rfl .nil))))))) (fun a_5932 oe_5933 cl_5934 d_5935 pn_5936 r_5937 hz_5938 hf_5939 hc_5940 hd_5941 => (p_set 2 hnd (x_nonO (ρ := (rTu (tc (rT rC) (t1 rB))))) (fun found_5944 => (s_nx (o := found_5944) rfl (.cons .rfl (.cons .rfl (.cons .rfl .nil))))))) (fun s_5945 => (p_retf [] (fun _ => rfl) .nil (x_var 2 rfl))))))) (by unfold m_law_done; simp only [ok_bindP, ok_calmP, chk_calmP, opt_calmP, R.bind_pure, R.bind_assoc] <;> rfl))
theorem w_law_turns (T : Txt K mg Ad) : FnOk P w K mg base (L2.CX P w) 22 Ad.f_law_turns Ad.d_law_turns ["form", "plan", "shapes", "turn"] (SpP mg (tc rY (tc (rPl (csl Ad)) (tc (rL (rTu (tc (rT rC) (t1 rB)))) (t1 rI)))) rB (fun a => m_law_turns a.1 a.2.1 a.2.2.1 a.2.2.2)) :=
  have hnd := sc_law_turns.nd
  f_ok (fun a => [im rY a.1, im (rPl (csl Ad)) a.2.1, im (rL (rTu (tc (rT rC) (t1 rB)))) a.2.2.1, im rI a.2.2.2, .any, .any, .any, .any]) T.F__law_turns sc_law_turns (arc (arc (arc ar1))) rfl (by decide) (fun _ => rfl) (fun cdv A outer s H E hr tk hp a => SX.cv (
    (p_set 4 hnd (x_meth (w_D_by_turn T 8) T.pl (hr.mono (by decide)) tk .nil (by decide +kernel) (x_var 1 rfl) (a_one (x_var 3 rfl))) (fun other_5970 => (p_ifT (x_tnot (x_test (x_call (w_law_same T 12) (hr.mono (by decide)) T.g__law_same T.k__law_same T.b__law_same tk .nil (a_cons (x_cv (cvY (yL yS)) (x_meth0 (w_D_words T 8) T.pl (hr.mono (by decide)) tk .nil (by decide +kernel) (x_var 4 rfl))) (a_one (x_cv (cvY (yL yS)) (x_call (w_law_words T 8) (hr.mono (by decide)) T.g__law_words T.k__law_words T.b__law_words tk .nil (a_one (x_call (w_law_turned T 8) (hr.mono (by decide)) T.g__law_turned T.k__law_turned T.b__law_turned tk .nil (a_cons (x_var 0 rfl) (a_one (x_var 3 rfl)))))))))))) (p_retf [] (fun _ => rfl) .nil x_bl) (p_forO (vs := [5]) (fun (s : Unit) => [im rY a.1, im (rPl (csl Ad)) a.2.1, im (rL (rTu (tc (rT rC) (t1 rB)))) a.2.2.1, im rI a.2.2.2, im (rPl (csl Ad)) other_5970, .any, .any, .any]) (rtP rB) (fun a => a) _ () hp (i_list (x_var 2 rfl)) (gt_name 5 (by decide) hnd) (fun s_5979 x_5980 => (p_set 6 hnd (x_call (w_law_done T) (hr.mono (by decide)) T.g__law_done T.k__law_done T.b__law_done tk .nil (a_cons (x_var 1 rfl) (a_one (x_var 5 rfl)))) (fun due_5981 => (p_set 7 hnd (x_call (w_law_done T) (hr.mono (by decide)) T.g__law_done T.k__law_done T.b__law_done tk .nil (a_cons (x_var 4 rfl) (a_one (x_tup (a_cons (x_call (w_law_turned_cells T) (hr.mono (by decide)) T.g__law_turned_cells T.k__law_turned_cells T.b__law_turned_cells tk .nil (a_cons (x_pj 0 pj0 (x_var 5 rfl)) (a_one (x_var 3 rfl)))) (a_one (x_pj 1 (pjs pj1) (x_var 5 rfl)))) (fun _ _ _ h => sz ((nc (fun _ _ _ h => n1 h)) h) (by decide)))))) (fun found_5985 => (p_ifT (x_tcmp op_ne dNeB (c_val (c_isN nnTu (x_var 6 rfl))) (c_val (c_isN nnTu (x_var 7 rfl)))) (p_ret (fun w => Stp.rt w) [] (fun _ => rfl) .nil x_bl) (p_ifT (x_w (w_and (c_tst (c_notN nnTu (x_var 6 rfl))) (w_and1 (x_tnot (x_test (x_call (w_law_same T 12) (hr.mono (by decide)) T.g__law_same T.k__law_same T.b__law_same tk .nil (a_cons (x_cv (cvY (yO (yTu (yc (yT (yTu (yc yI (y1 yI)))) (y1 yB))))) (x_var 7 rfl)) (a_one (x_cv (cvY (yTu (yc (yT (yTu (yc yI (y1 yI)))) (y1 yB)))) (x_tup (a_cons (x_call (w_law_turned_cells T) (hr.mono (by decide)) T.g__law_turned_cells T.k__law_turned_cells T.b__law_turned_cells tk .nil (a_cons (x_pj 0 pj0 (x_some (x_var 6 rfl))) (a_one (x_var 3 rfl)))) (a_one (x_pj 1 (pjs pj1) (x_some (x_var 6 rfl))))) (fun _ _ _ h => sz ((nc (fun _ _ _ h => n1 h)) h) (by decide)))))))))))) (p_ret (fun w => Stp.rt w) [] (fun _ => rfl) .nil x_bl) (s_go (o := (Stp.nx ())) rfl (.cons .rfl (.cons .rfl (.cons .rfl (.cons .rfl (.cons .rfl (.cons .any (.cons .any (.cons .any .nil)))))))))))))))) (.cons .rfl (.cons .rfl (.cons .rfl (.cons .rfl (.cons .rfl (.cons .any (.cons .any (.cons .any .nil)))))))) (fun a => .rtf rfl) (fun s_6003 => (p_retf [] (fun _ => rfl) .nil x_bl))))))) (by unfold m_law_turns; simp only [ok_bindP, ok_calmP, chk_calmP, opt_calmP, R.bind_pure, R.bind_assoc] <;> rfl))
theorem w_law_moves (T : Txt K mg Ad) : FnOk P w K mg base (L2.CX P w) 22 Ad.f_law_moves Ad.d_law_moves ["plan", "shape", "step"] (SpP mg (tc (rPl (csl Ad)) (tc (rTu (tc (rT rC) (t1 rB))) (t1 rC))) rB (fun a => m_law_moves a.1 a.2.1 a.2.2)) :=
  have hnd := sc_law_moves.nd
  f_ok (fun a => [im (rPl (csl Ad)) a.1, im (rTu (tc (rT rC) (t1 rB))) a.2.1, im rC a.2.2, .any, .any, .any, .any, .any]) T.F__law_moves sc_law_moves (arc (arc ar1)) rfl (by decide) (fun _ => rfl) (fun cdv A outer s H E hr tk hp a => SX.cv (
    (p_set 3 hnd (x_tup (a_cons (x_callTy call_tuple_of dTupL T.n_tuple (by decide +kernel) (a_one (x_frzE (f_lcM (own := [("row", 6), ("column", 7)]) hnd (i_tup (x_pj 0 pj0 (x_var 1 rfl))) (blkOk_by (N := N_law_moves) (sc := defScope s_law_moves) (by decide +kernel)) (fun _ _ _ _ _ => (gt_tup rfl (gts_cons (gt_name 6 (by decide) hnd) (gts_one (gt_name 7 (by decide) hnd))))) (fun _ _ _ _ _ y_6029 => (x_tup (a_cons (x_add (x_var 6 rfl) (x_pj 0 pj0 (x_var 2 rfl))) (a_one (x_add (x_var 7 rfl) (x_pj 1 (pjs pj1) (x_var 2 rfl))))) (fun _ _ _ h => sz ((nc (fun _ _ _ h => n1 h)) h) (by decide)))))))) (a_one (x_pj 1 (pjs pj1) (x_var 1 rfl)))) (fun _ _ _ h => sz ((nc (fun _ _ _ h => n1 h)) h) (by decide))) (fun led_6032 => (p_set 4 hnd (x_call (w_law_done T) (hr.mono (by decide)) T.g__law_done T.k__law_done T.b__law_done tk .nil (a_cons (x_var 0 rfl) (a_one (x_var 1 rfl)))) (fun due_6033 => (p_set 5 hnd (x_call (w_law_done T) (hr.mono (by decide)) T.g__law_done T.k__law_done T.b__law_done tk .nil (a_cons (x_var 0 rfl) (a_one (x_var 3 rfl)))) (fun found_6034 => (p_ifT (x_w (w_or2 (c_tst (c_isN nnTu (x_var 4 rfl))) (w_or1 (c_tst (c_isN nnTu (x_var 5 rfl)))))) (p_retf [] (fun _ => rfl) .nil (x_and2 (c_val (c_isN nnTu (x_var 4 rfl))) (x_one (c_val (c_isN nnTu (x_var 5 rfl)))))) (p_retf [] (fun _ => rfl) .nil (x_call (w_law_same T 12) (hr.mono (by decide)) T.g__law_same T.k__law_same T.b__law_same tk .nil (a_cons (x_cv (cvY (yO (yTu (yc (yT (yTu (yc yI (y1 yI)))) (y1 yB))))) (x_var 5 rfl)) (a_one (x_cv (cvY (yTu (yc (yT (yTu (yc yI (y1 yI)))) (y1 yB)))) (x_tup (a_cons (x_callTy call_tuple_of dTupL T.n_tuple (by decide +kernel) (a_one (x_frzE (f_lcM (own := [("row", 6), ("column", 7)]) hnd (i_tup (x_pj 0 pj0 (x_some (x_var 4 rfl)))) (blkOk_by (N := N_law_moves) (sc := defScope s_law_moves) (by decide +kernel)) (fun _ _ _ _ _ => (gt_tup rfl (gts_cons (gt_name 6 (by decide) hnd) (gts_one (gt_name 7 (by decide) hnd))))) (fun _ _ _ _ _ y_6043 => (x_tup (a_cons (x_add (x_var 6 rfl) (x_pj 0 pj0 (x_var 2 rfl))) (a_one (x_add (x_var 7 rfl) (x_pj 1 (pjs pj1) (x_var 2 rfl))))) (fun _ _ _ h => sz ((nc (fun _ _ _ h => n1 h)) h) (by decide)))))))) (a_one (x_pj 1 (pjs pj1) (x_some (x_var 4 rfl))))) (fun _ _ _ h => sz ((nc (fun _ _ _ h => n1 h)) h) (by decide)))))))))))))))) (by unfold m_law_moves; simp only [ok_bindP, ok_calmP, chk_calmP, opt_calmP, R.bind_pure, R.bind_assoc] <;> rfl))
theorem w_law_noted (T : Txt K mg Ad) : FnOk P w K mg base (L2.CX P w) 1 Ad.f_law_noted Ad.d_law_noted ["cells"] (SpP mg (t1 (rT rC)) (rD kyC rB) (fun a => m_law_noted a)) :=
  have hnd := sc_law_noted.nd
  f_ok (fun a => [im (rT rC) a, .any, .any]) T.F__law_noted sc_law_noted ar1 rfl (by decide) (fun _ => rfl) (fun cdv A outer s H E hr tk hp a => SX.cv (
    (p_own 1 hnd (f_dict (ky := kyC) (π := rB)) (fun _ => (p_for (vs := [2]) (fun (s : List ((Int × Int) × Bool)) => [im (rT rC) a, .own none (oD kyC rB s), .any]) _ ([] : List ((Int × Int) × Bool)) hp (i_tup (x_var 0 rfl)) (gt_name 2 (by decide) hnd) (fun s_6080 x_6081 => (s_dput 1 (u1 hr) x_bl (x_var 2 rfl) (fun v_6082 k_6083 => (let known_6084 : List ((Int × Int) × Bool) := (dPut s_6080 k_6083 v_6082); (s_go (o := known_6084) rfl (.cons .rfl (.cons .rfl (.cons .any .nil)))))))) (.cons .rfl (.cons .rfl (.cons .any .nil))) (fun s_6085 => (s_giveD 1 rfl (p_retf [] (fun _ => rfl) .nil (x_var 1 rfl)))))))) (by unfold m_law_noted; simp only [ok_bindP, ok_calmP, chk_calmP, opt_calmP, R.bind_pure, R.bind_assoc] <;> rfl))
theorem w_law_more (T : Txt K mg Ad) : FnOk P w K mg base (L2.CX P w) 22 Ad.f_law_more Ad.d_law_more ["plan", "shape", "other"] (SpP mg (tc (rPl (csl Ad)) (tc (rTu (tc (rT rC) (t1 rB))) (t1 (rTu (tc (rT rC) (t1 rB)))))) rB (fun a => m_law_more a.1 a.2.1 a.2.2)) :=
  have hnd := sc_law_more.nd
  f_ok (fun a => [im (rPl (csl Ad)) a.1, im (rTu (tc (rT rC) (t1 rB))) a.2.1, im (rTu (tc (rT rC) (t1 rB))) a.2.2, .any, .any, .any, .any, .any]) T.F__law_more sc_law_more (arc (arc ar1)) rfl (by decide) (fun _ => rfl) (fun cdv A outer s H E hr tk hp a => SX.cv (
    (p_set 3 hnd (x_callTy call_tuple_of dTupL T.n_tuple (by decide +kernel) (a_one (x_frzE (f_sortset T.n_sorted (x_setT (u64 hr) T.n_set (x_catT (x_pj 0 pj0 (x_var 1 rfl)) (x_pj 0 pj0 (x_var 2 rfl)))))))) (fun cells_6106 => (p_ifJ (fun (s : List (Int × Int)) => [im (rPl (csl Ad)) a.1, im (rTu (tc (rT rC) (t1 rB))) a.2.1, im (rTu (tc (rT rC) (t1 rB))) a.2.2, im (rT rC) s, .any, .any, .any, .any]) (x_test (x_pj 1 (pjs pj1) (x_var 1 rfl))) (p_set 3 hnd (x_callTy call_tuple_of dTupL T.n_tuple (by decide +kernel) (a_one (x_frzE (f_lcF (own := [("cell", 7)]) hnd (i_tup (x_pj 0 pj0 (x_var 1 rfl))) (blkOk_by (N := N_law_more) (sc := defScope s_law_more) (by decide +kernel)) (fun _ _ _ _ _ => (gt_name 7 (by decide) hnd)) (fun _ _ _ _ _ y_6107 => (ts_one (x_tcmp (op_ninU (u65 hr)) (dNinU kC) (x_var 7 rfl) (x_pj 0 pj0 (x_var 2 rfl))))) (fun _ _ _ _ _ y_6107 => (x_var 7 rfl)))))) (fun cells_6109 => (s_nx (o := cells_6109) rfl (.cons .rfl (.cons .rfl (.cons .rfl (.cons .rfl (.cons .any (.cons .any (.cons .any (.cons .any .nil))))))))))) (s_nx (o := cells_6106) rfl (.cons .rfl (.cons .rfl (.cons .rfl (.cons .rfl (.cons .any (.cons .any (.cons .any (.cons .any .nil))))))))) (fun s_6110 => (p_set 4 hnd (x_call (w_law_done T) (hr.mono (by decide)) T.g__law_done T.k__law_done T.b__law_done tk .nil (a_cons (x_var 0 rfl) (a_one (x_var 1 rfl)))) (fun less_6111 => (p_set 5 hnd (x_call (w_law_done T) (hr.mono (by decide)) T.g__law_done T.k__law_done T.b__law_done tk .nil (a_cons (x_var 0 rfl) (a_one (x_tup (a_cons (x_var 3 rfl) (a_one (x_pj 1 (pjs pj1) (x_var 1 rfl)))) (fun _ _ _ h => sz ((nc (fun _ _ _ h => n1 h)) h) (by decide)))))) (fun more_6112 => (p_ifT (x_w (w_or2 (c_tst (c_isN nnTu (x_var 4 rfl))) (w_or1 (c_tst (c_isN nnTu (x_var 5 rfl)))))) (p_retf [] (fun _ => rfl) .nil x_bl) (p_ifT (x_test (x_pj 1 (pjs pj1) (x_some (x_var 4 rfl)))) (p_set 6 hnd (x_call (w_law_noted T) (hr.mono (by decide)) T.g__law_noted T.k__law_noted T.b__law_noted tk .nil (a_one (x_pj 0 pj0 (x_some (x_var 4 rfl))))) (fun known_6116 => (p_retf [] (fun _ => rfl) .nil (x_and (x_pj 1 (pjs pj1) (x_some (x_var 5 rfl))) (x_one (x_callB (cr_all rfl) dAll T.n_all (by decide +kernel) (a_one (x_frzE (f_lcM (own := [("cell", 7)]) hnd (i_tup (x_pj 0 pj0 (x_some (x_var 5 rfl)))) (blkOk_by (N := N_law_more) (sc := defScope s_law_more) (by decide +kernel)) (fun _ _ _ _ _ => (gt_name 7 (by decide) hnd)) (fun _ _ _ _ _ y_6119 => (c_val (c_in (u1 hr) (x_var 7 rfl) (d_imm (x_var 6 rfl)))))))))))))) (p_set 6 hnd (x_call (w_law_noted T) (hr.mono (by decide)) T.g__law_noted T.k__law_noted T.b__law_noted tk .nil (a_one (x_pj 0 pj0 (x_some (x_var 5 rfl))))) (fun known_6125 => (p_retf [] (fun _ => rfl) .nil (x_callB (cr_all rfl) dAll T.n_all (by decide +kernel) (a_one (x_frzE (f_lcM (own := [("cell", 7)]) hnd (i_tup (x_pj 0 pj0 (x_some (x_var 4 rfl)))) (blkOk_by (N := N_law_more) (sc := defScope s_law_more) (by decide +kernel)) (fun _ _ _ _ _ => (gt_name 7 (by decide) hnd)) (fun _ _ _ _ _ y_6127 => (x_cmp op_ne dNeB (c_val (c_in (u1 hr) (x_var 7 rfl) (d_imm (x_var 6 rfl)))) (x_pj 1 (pjs pj1) (x_some (x_var 5 rfl))))))))))))))))))))))) (by unfold m_law_more; simp only [ok_bindP, ok_calmP, chk_calmP, opt_calmP, R.bind_pure, R.bind_assoc] <;> rfl))
theorem w_law_refused (T : Txt K mg Ad) : FnOk P w K mg base (L2.CX P w) 12 Ad.f_law_refused Ad.d_law_refused ["plan", "turn"] (SpP mg (tc (rPl (csl Ad)) (t1 rI)) rB (fun a => m_law_refused a.1 a.2)) :=
  have hnd := sc_law_refused.nd
  f_ok (fun a => [im (rPl (csl Ad)) a.1, im rI a.2, .any, .any]) T.F__law_refused sc_law_refused (arc ar1) rfl (by decide) (fun _ => rfl) (fun cdv A outer s H E hr tk hp a => SX.cv (
    (p_set 2 hnd x_bl (fun found_6155 => (p_tryAs 3 (fun s => if s = ("BadTurn" : Str) then some true else if s = ("TooMany" : Str) then some true else none) [im (rPl (csl Ad)) a.1, im rI a.2, im rB found_6155, .any] (fun (s : Bool) => [im (rPl (csl Ad)) a.1, im rI a.2, im rB s, .any]) hnd T.gc_MossError tk .nil (ct_cons T.x_BadTurn.g T.e_BadTurn_MossError (ct_cons T.x_TooMany.g T.e_TooMany_MossError ct_nil)) (fun W_6156 pn_6157 xe_6158 tk_6159 hp_6160 => (p_expr (x_meth (w_D_by_turn T 8) T.pl (hr.mono (by decide)) tk_6159 (.cons .rfl (.cons .rfl (.cons .rfl (.cons .any .nil)))) (by decide +kernel) (x_var 0 rfl) (a_one (x_var 1 rfl))) (fun _ => (s_nx (o := found_6155) rfl (.cons .rfl (.cons .rfl (.cons .rfl (.cons .any .nil)))))))) (fun a_6161 oe_6162 cl_6163 d_6164 pn_6165 r_6166 hz_6167 hf_6168 hc_6169 hd_6170 => (p_set 2 hnd (x_and (x_isE 3 (fun s => if s = ("BadTurn" : Str) then some true else if s = ("TooMany" : Str) then some false else none) hz_6167 hf_6168 hc_6169 hd_6170 T.n_isinstance (nm_own T.gc_BadTurn) (ct_cons T.x_BadTurn.g ⟨T.x_BadTurn.c, T.i_BadTurn_BadTurn⟩ (ct_cons T.x_TooMany.g ⟨T.x_TooMany.c, T.i_TooMany_BadTurn⟩ ct_nil))) (x_and (x_isE 3 (fun s => if s = ("BadTurn" : Str) then some true else if s = ("TooMany" : Str) then some true else none) hz_6167 hf_6168 hc_6169 hd_6170 T.n_isinstance (nm_blt T.n_ValueError (by decide +kernel)) (ct_cons T.x_BadTurn.g ⟨T.x_BadTurn.c, T.i_BadTurn_ValueError⟩ (ct_cons T.x_TooMany.g ⟨T.x_TooMany.c, T.i_TooMany_ValueError⟩ ct_nil))) (x_one (x_not (x_isET 3 (fun s => if s = ("BadTurn" : Str) then some false else if s = ("TooMany" : Str) then some true else none) hz_6167 hf_6168 hc_6169 hd_6170 T.n_isinstance (.cons (nm_own T.gc_BadCell) (.cons (nm_own T.gc_TooMany) .nil rfl) rfl) (Nat.le_of_ble_eq_true rfl) (ct_cons T.x_BadTurn.g ⟨T.x_BadTurn.c, T.t_BadTurn_BadCell_TooMany⟩ (ct_cons T.x_TooMany.g ⟨T.x_TooMany.c, T.t_TooMany_BadCell_TooMany⟩ ct_nil))))))) (fun found_6174 => (s_nx (o := found_6174) rfl (.cons .rfl (.cons .rfl (.cons .rfl (.cons .any .nil)))))))) (fun _ x h => by injection h with h; exact h.symm) (fun s_6175 => (p_retf [] (fun _ => rfl) .nil (x_var 2 rfl))))))) (by unfold m_law_refused; simp only [ok_bindP, ok_calmP, chk_calmP, opt_calmP, R.bind_pure, R.bind_assoc] <;> rfl))
theorem w_law (T : Txt K mg Ad) : FnOk P w K mg base (L2.CX P w) 23 Ad.flaw Ad.dlaw ["script"] (SpP mg (t1 (rScr K)) rB (fun a => m_law a)) :=
  have hnd := sclaw.nd
  f_ok (fun a => [im (rScr K) a, .any, .any, .any, .any, .any, .any, .any, .any]) T.F_law sclaw ar1 rfl (by decide) (fun _ => rfl) (fun cdv A outer s H E hr tk hp a => SX.cv (
    (p_forO (vs := [1]) (fun (s : Unit) => [im (rScr K) a, .any, .any, .any, .any, .any, .any, .any, .any]) (rtP rB) (fun a => a) _ () hp (i_list (x_frzE (f_catL (x_frzE (f_slS (x_var 0 rfl) o_none (o_some x_int))) (x_frzE (f_listN (k := 1) (ln_cons x_int ln_nil)))))) (gt_name 1 (by decide) hnd) (fun s_6223 x_6224 => (p_own 2 hnd (f_listN (k := 1) (ln_cons (x_call (w_law_deal T) (hr.mono (by decide)) T.g__law_deal T.k__law_deal T.b__law_deal tk .nil (a_cons (x_var 1 rfl) (a_one x_int))) ln_nil)) (fun pot_6226 => (p_setS (Γs := fun s => [im (rScr K) a, im rI x_6224, .own none (oLi (tl rI) s), .any, .any, .any, .any, .any, .any]) (s := pot_6226) 3 hnd (es_callM (Γs := fun s => [im (rScr K) a, im rI x_6224, .own none (oLi (tl rI) s), .any, .any, .any, .any, .any, .any]) (s := pot_6226) 2 (fun s => s) (fun _ l => l) (w_law_form T 6) (hr.mono (by decide)) T.g__law_form T.k__law_form T.b__law_form tk (as_cons (Γs := fun s => [im (rScr K) a, im rI x_6224, .own none (oLi (tl rI) s), .any, .any, .any, .any, .any, .any]) (s := pot_6226) (es_callM (Γs := fun s => [im (rScr K) a, im rI x_6224, .own none (oLi (tl rI) s), .any, .any, .any, .any, .any, .any]) (s := pot_6226) 2 (fun s => s) (fun _ l => l) (w_law_take T) (hr.mono (by decide)) T.g__law_take T.k__law_take T.b__law_take tk (as_one (Γs := fun s => [im (rScr K) a, im rI x_6224, .own none (oLi (tl rI) s), .any, .any, .any, .any, .any, .any]) (s := pot_6226) (es_of (Γs := fun s => [im (rScr K) a, im rI x_6224, .own none (oLi (tl rI) s), .any, .any, .any, .any, .any, .any]) (s := pot_6226) x_int)) (fun _ => rfl) (fun _ _ => rfl)) (fun s_6292 => (as_one (Γs := fun s => [im (rScr K) a, im rI x_6224, .own none (oLi (tl rI) s), .any, .any, .any, .any, .any, .any]) (s := s_6292) (es_of (Γs := fun s => [im (rScr K) a, im rI x_6224, .own none (oLi (tl rI) s), .any, .any, .any, .any, .any, .any]) (s := s_6292) x_int)))) (fun _ => rfl) (fun _ _ => rfl)) (fun form_6227 => (p_ifJS (Γs := fun s => [im (rScr K) a, im rI x_6224, .own none (oLi (tl rI) s), im rY form_6227.1, .any, .any, .any, .any, .any]) (s := form_6227.2) (fun (s : ((List Int) × Dy)) => [im (rScr K) a, im rI x_6224, .own none (oLi (tl rI) s.1), im rY s.2, .any, .any, .any, .any, .any]) (bs_cmp (Γs := fun s => [im (rScr K) a, im rI x_6224, .own none (oLi (tl rI) s), im rY form_6227.1, .any, .any, .any, .any, .any]) (s := form_6227.2) op_eq dEqI (es_callM (Γs := fun s => [im (rScr K) a, im rI x_6224, .own none (oLi (tl rI) s), im rY form_6227.1, .any, .any, .any, .any, .any]) (s := form_6227.2) 2 (fun s => s) (fun _ l => l) (w_law_take T) (hr.mono (by decide)) T.g__law_take T.k__law_take T.b__law_take tk (as_one (Γs := fun s => [im (rScr K) a, im rI x_6224, .own none (oLi (tl rI) s), im rY form_6227.1, .any, .any, .any, .any, .any]) (s := form_6227.2) (es_of (Γs := fun s => [im (rScr K) a, im rI x_6224, .own none (oLi (tl rI) s), im rY form_6227.1, .any, .any, .any, .any, .any]) (s := form_6227.2) x_int)) (fun _ => rfl) (fun _ _ => rfl)) (fun s_6290 => (es_of (Γs := fun s => [im (rScr K) a, im rI x_6224, .own none (oLi (tl rI) s), im rY form_6227.1, .any, .any, .any, .any, .any]) (s := s_6290) x_int))) (fun s_6228 => (p_setS (Γs := fun s => [im (rScr K) a, im rI x_6224, .own none (oLi (tl rI) s), im rY form_6227.1, .any, .any, .any, .any, .any]) (s := s_6228) 3 hnd (es_callM (Γs := fun s => [im (rScr K) a, im rI x_6224, .own none (oLi (tl rI) s), im rY form_6227.1, .any, .any, .any, .any, .any]) (s := s_6228) 2 (fun s => s) (fun _ l => l) (w_law_great T) (hr.mono (by decide)) T.g__law_great T.k__law_great T.b__law_great tk (as_nil (Γs := fun s => [im (rScr K) a, im rI x_6224, .own none (oLi (tl rI) s), im rY form_6227.1, .any, .any, .any, .any, .any]) (s := s_6228)) (fun _ => rfl) (fun _ _ => rfl)) (fun form_6229 => (s_nx (o := (form_6229.2, form_6229.1)) rfl (.cons .rfl (.cons .rfl (.cons .rfl (.cons .rfl (.cons .any (.cons .any (.cons .any (.cons .any (.cons .any .nil))))))))))))) (fun s_6228 => (s_nx (o := (s_6228, form_6227.1)) rfl (.cons .rfl (.cons .rfl (.cons .rfl (.cons .rfl (.cons .any (.cons .any (.cons .any (.cons .any (.cons .any .nil))))))))))) (fun s_6230 => (p_set 4 hnd (x_call (w_law_plan T 8) (hr.mono (by decide)) T.g__law_plan T.k__law_plan T.b__law_plan tk .nil (a_one (x_var 3 rfl))) (fun plan_6231 => (p_setS (Γs := fun s => [im (rScr K) a, im rI x_6224, .own none (oLi (tl rI) s), im rY s_6230.2, im (rPl (csl Ad)) plan_6231, .any, .any, .any, .any]) (s := s_6230.1) 5 hnd (es_callM (Γs := fun s => [im (rScr K) a, im rI x_6224, .own none (oLi (tl rI) s), im rY s_6230.2, im (rPl (csl Ad)) plan_6231, .any, .any, .any, .any]) (s := s_6230.1) 2 (fun s => s) (fun _ l => l) (w_law_shape T) (hr.mono (by decide)) T.g__law_shape T.k__law_shape T.b__law_shape tk (as_nil (Γs := fun s => [im (rScr K) a, im rI x_6224, .own none (oLi (tl rI) s), im rY s_6230.2, im (rPl (csl Ad)) plan_6231, .any, .any, .any, .any]) (s := s_6230.1)) (fun _ => rfl) (fun _ _ => rfl)) (fun one_6232 => (p_setS (Γs := fun s => [im (rScr K) a, im rI x_6224, .own none (oLi (tl rI) s), im rY s_6230.2, im (rPl (csl Ad)) plan_6231, im (rTu (tc (rT rC) (t1 rB))) one_6232.1, .any, .any, .any]) (s := one_6232.2) 6 hnd (es_callM (Γs := fun s => [im (rScr K) a, im rI x_6224, .own none (oLi (tl rI) s), im rY s_6230.2, im (rPl (csl Ad)) plan_6231, im (rTu (tc (rT rC) (t1 rB))) one_6232.1, .any, .any, .any]) (s := one_6232.2) 2 (fun s => s) (fun _ l => l) (w_law_shape T) (hr.mono (by decide)) T.g__law_shape T.k__law_shape T.b__law_shape tk (as_nil (Γs := fun s => [im (rScr K) a, im rI x_6224, .own none (oLi (tl rI) s), im rY s_6230.2, im (rPl (csl Ad)) plan_6231, im (rTu (tc (rT rC) (t1 rB))) one_6232.1, .any, .any, .any]) (s := one_6232.2)) (fun _ => rfl) (fun _ _ => rfl)) (fun other_6233 => (p_setS (Γs := fun s => [im (rScr K) a, im rI x_6224, .own none (oLi (tl rI) s), im rY s_6230.2, im (rPl (csl Ad)) plan_6231, im (rTu (tc (rT rC) (t1 rB))) one_6232.1, im (rTu (tc (rT rC) (t1 rB))) other_6233.1, .any, .any]) (s := other_6233.2) 7 hnd (es_callM (Γs := fun s => [im (rScr K) a, im rI x_6224, .own none (oLi (tl rI) s), im rY s_6230.2, im (rPl (csl Ad)) plan_6231, im (rTu (tc (rT rC) (t1 rB))) one_6232.1, im (rTu (tc (rT rC) (t1 rB))) other_6233.1, .any, .any]) (s := other_6233.2) 2 (fun s => s) (fun _ l => l) (w_law_take T) (hr.mono (by decide)) T.g__law_take T.k__law_take T.b__law_take tk (as_one (Γs := fun s => [im (rScr K) a, im rI x_6224, .own none (oLi (tl rI) s), im rY s_6230.2, im (rPl (csl Ad)) plan_6231, im (rTu (tc (rT rC) (t1 rB))) one_6232.1, im (rTu (tc (rT rC) (t1 rB))) other_6233.1, .any, .any]) (s := other_6233.2) (es_of (Γs := fun s => [im (rScr K) a, im rI x_6224, .own none (oLi (tl rI) s), im rY s_6230.2, im (rPl (csl Ad)) plan_6231, im (rTu (tc (rT rC) (t1 rB))) one_6232.1, im (rTu (tc (rT rC) (t1 rB))) other_6233.1, .any, .any]) (s := other_6233.2) x_int)) (fun _ => rfl) (fun _ _ => rfl)) (fun turn_6234 => (p_ifTS (Γs := fun s => [im (rScr K) a, im rI x_6224, .own none (oLi (tl rI) s), im rY s_6230.2, im (rPl (csl Ad)) plan_6231, im (rTu (tc (rT rC) (t1 rB))) one_6232.1, im (rTu (tc (rT rC) (t1 rB))) other_6233.1, im rI turn_6234.1, .any]) (s := turn_6234.2) (bs_w (Γs := fun s => [im (rScr K) a, im rI x_6224, .own none (oLi (tl rI) s), im rY s_6230.2, im (rPl (csl Ad)) plan_6231, im (rTu (tc (rT rC) (t1 rB))) one_6232.1, im (rTu (tc (rT rC) (t1 rB))) other_6233.1, im rI turn_6234.1, .any]) (s := turn_6234.2) (ws_or (Γs := fun s => [im (rScr K) a, im rI x_6224, .own none (oLi (tl rI) s), im rY s_6230.2, im (rPl (csl Ad)) plan_6231, im (rTu (tc (rT rC) (t1 rB))) one_6232.1, im (rTu (tc (rT rC) (t1 rB))) other_6233.1, im rI turn_6234.1, .any]) (s := turn_6234.2) (bs_of (Γs := fun s => [im (rScr K) a, im rI x_6224, .own none (oLi (tl rI) s), im rY s_6230.2, im (rPl (csl Ad)) plan_6231, im (rTu (tc (rT rC) (t1 rB))) one_6232.1, im (rTu (tc (rT rC) (t1 rB))) other_6233.1, im rI turn_6234.1, .any]) (s := turn_6234.2) (x_tnot (x_test (x_call (w_law_turns T) (hr.mono (by decide)) T.g__law_turns T.k__law_turns T.b__law_turns tk .nil (a_cons (x_var 3 rfl) (a_cons (x_var 4 rfl) (a_cons (x_frzE (f_listN (k := 3) (ln_cons (x_var 5 rfl) (ln_cons (x_var 6 rfl) (ln_cons (x_var 5 rfl) ln_nil))))) (a_one (x_var 7 rfl))))))))) (fun s_6284 => (ws_or1 (Γs := fun s => [im (rScr K) a, im rI x_6224, .own none (oLi (tl rI) s), im rY s_6230.2, im (rPl (csl Ad)) plan_6231, im (rTu (tc (rT rC) (t1 rB))) one_6232.1, im (rTu (tc (rT rC) (t1 rB))) other_6233.1, im rI turn_6234.1, .any]) (s := s_6284) (bs_not (Γs := fun s => [im (rScr K) a, im rI x_6224, .own none (oLi (tl rI) s), im rY s_6230.2, im (rPl (csl Ad)) plan_6231, im (rTu (tc (rT rC) (t1 rB))) one_6232.1, im (rTu (tc (rT rC) (t1 rB))) other_6233.1, im rI turn_6234.1, .any]) (s := s_6284) (bs_val (Γs := fun s => [im (rScr K) a, im rI x_6224, .own none (oLi (tl rI) s), im rY s_6230.2, im (rPl (csl Ad)) plan_6231, im (rTu (tc (rT rC) (t1 rB))) one_6232.1, im (rTu (tc (rT rC) (t1 rB))) other_6233.1, im rI turn_6234.1, .any]) (s := s_6284) (es_call (Γs := fun s => [im (rScr K) a, im rI x_6224, .own none (oLi (tl rI) s), im rY s_6230.2, im (rPl (csl Ad)) plan_6231, im (rTu (tc (rT rC) (t1 rB))) one_6232.1, im (rTu (tc (rT rC) (t1 rB))) other_6233.1, im rI turn_6234.1, .any]) (s := s_6284) (w_law_moves T) (hr.mono (by decide)) T.g__law_moves T.k__law_moves T.b__law_moves tk (fun _ => .nil) (as_cons (Γs := fun s => [im (rScr K) a, im rI x_6224, .own none (oLi (tl rI) s), im rY s_6230.2, im (rPl (csl Ad)) plan_6231, im (rTu (tc (rT rC) (t1 rB))) one_6232.1, im (rTu (tc (rT rC) (t1 rB))) other_6233.1, im rI turn_6234.1, .any]) (s := s_6284) (es_of (Γs := fun s => [im (rScr K) a, im rI x_6224, .own none (oLi (tl rI) s), im rY s_6230.2, im (rPl (csl Ad)) plan_6231, im (rTu (tc (rT rC) (t1 rB))) one_6232.1, im (rTu (tc (rT rC) (t1 rB))) other_6233.1, im rI turn_6234.1, .any]) (s := s_6284) (x_var 4 rfl)) (fun s_6286 => (as_cons (Γs := fun s => [im (rScr K) a, im rI x_6224, .own none (oLi (tl rI) s), im rY s_6230.2, im (rPl (csl Ad)) plan_6231, im (rTu (tc (rT rC) (t1 rB))) one_6232.1, im (rTu (tc (rT rC) (t1 rB))) other_6233.1, im rI turn_6234.1, .any]) (s := s_6286) (es_of (Γs := fun s => [im (rScr K) a, im rI x_6224, .own none (oLi (tl rI) s), im rY s_6230.2, im (rPl (csl Ad)) plan_6231, im (rTu (tc (rT rC) (t1 rB))) one_6232.1, im (rTu (tc (rT rC) (t1 rB))) other_6233.1, im rI turn_6234.1, .any]) (s := s_6286) (x_var 5 rfl)) (fun s_6287 => (as_one (Γs := fun s => [im (rScr K) a, im rI x_6224, .own none (oLi (tl rI) s), im rY s_6230.2, im (rPl (csl Ad)) plan_6231, im (rTu (tc (rT rC) (t1 rB))) one_6232.1, im (rTu (tc (rT rC) (t1 rB))) other_6233.1, im rI turn_6234.1, .any]) (s := s_6287) (es_callM (Γs := fun s => [im (rScr K) a, im rI x_6224, .own none (oLi (tl rI) s), im rY s_6230.2, im (rPl (csl Ad)) plan_6231, im (rTu (tc (rT rC) (t1 rB))) one_6232.1, im (rTu (tc (rT rC) (t1 rB))) other_6233.1, im rI turn_6234.1, .any]) (s := s_6287) 2 (fun s => s) (fun _ l => l) (w_law_step T) (hr.mono (by decide)) T.g__law_step T.k__law_step T.b__law_step tk (as_nil (Γs := fun s => [im (rScr K) a, im rI x_6224, .own none (oLi (tl rI) s), im rY s_6230.2, im (rPl (csl Ad)) plan_6231, im (rTu (tc (rT rC) (t1 rB))) one_6232.1, im (rTu (tc (rT rC) (t1 rB))) other_6233.1, im rI turn_6234.1, .any]) (s := s_6287)) (fun _ => rfl) (fun _ _ => rfl)))))))))))))) (fun s_6236 => (p_ret (fun w => Stp.rt w) [] (fun _ => rfl) .nil x_bl)) (fun s_6236 => (p_setS (Γs := fun s => [im (rScr K) a, im rI x_6224, .own none (oLi (tl rI) s), im rY s_6230.2, im (rPl (csl Ad)) plan_6231, im (rTu (tc (rT rC) (t1 rB))) one_6232.1, im (rTu (tc (rT rC) (t1 rB))) other_6233.1, im rI turn_6234.1, .any]) (s := s_6236) 8 hnd (es_ix (Γs := fun s => [im (rScr K) a, im rI x_6224, .own none (oLi (tl rI) s), im rY s_6230.2, im (rPl (csl Ad)) plan_6231, im (rTu (tc (rT rC) (t1 rB))) one_6232.1, im (rTu (tc (rT rC) (t1 rB))) other_6233.1, im rI turn_6234.1, .any]) (s := s_6236) ix_list dIxL (es_of (Γs := fun s => [im (rScr K) a, im rI x_6224, .own none (oLi (tl rI) s), im rY s_6230.2, im (rPl (csl Ad)) plan_6231, im (rTu (tc (rT rC) (t1 rB))) one_6232.1, im (rTu (tc (rT rC) (t1 rB))) other_6233.1, im rI turn_6234.1, .any]) (s := s_6236) (x_frzE (f_listN (k := 4) (ln_cons x_int (ln_cons (x_neg x_int) (ln_cons (x_add x_int (x_mod (x_var 1 rfl) (x_powC 10000000000000000000000000000000000000000))) (ln_cons (x_sub (x_neg x_int) (x_mod (x_var 1 rfl) (x_powC 10000000000000000000000000000000000000000))) ln_nil))))))) (fun s_6268 => (es_callM (Γs := fun s => [im (rScr K) a, im rI x_6224, .own none (oLi (tl rI) s), im rY s_6230.2, im (rPl (csl Ad)) plan_6231, im (rTu (tc (rT rC) (t1 rB))) one_6232.1, im (rTu (tc (rT rC) (t1 rB))) other_6233.1, im rI turn_6234.1, .any]) (s := s_6268) 2 (fun s => s) (fun _ l => l) (w_law_take T) (hr.mono (by decide)) T.g__law_take T.k__law_take T.b__law_take tk (as_one (Γs := fun s => [im (rScr K) a, im rI x_6224, .own none (oLi (tl rI) s), im rY s_6230.2, im (rPl (csl Ad)) plan_6231, im (rTu (tc (rT rC) (t1 rB))) one_6232.1, im (rTu (tc (rT rC) (t1 rB))) other_6233.1, im rI turn_6234.1, .any]) (s := s_6268) (es_of (Γs := fun s => [im (rScr K) a, im rI x_6224, .own none (oLi (tl rI) s), im rY s_6230.2, im (rPl (csl Ad)) plan_6231, im (rTu (tc (rT rC) (t1 rB))) one_6232.1, im (rTu (tc (rT rC) (t1 rB))) other_6233.1, im rI turn_6234.1, .any]) (s := s_6268) x_int)) (fun _ => rfl) (fun _ _ => rfl)))) (fun bad_6246 => (p_ifT (x_w (w_or (x_tnot (x_test (x_call (w_law_more T) (hr.mono (by decide)) T.g__law_more T.k__law_more T.b__law_more tk .nil (a_cons (x_var 4 rfl) (a_cons (x_var 5 rfl) (a_one (x_var 6 rfl))))))) (w_or (x_tnot (x_test (x_call (w_law_refused T) (hr.mono (by decide)) T.g__law_refused T.k__law_refused T.b__law_refused tk .nil (a_cons (x_var 4 rfl) (a_one (x_var 8 rfl)))))) (w_or1 (x_tcmp (op_neD (u64 hr)) dNeY (x_cv (cvY (yL yS)) (x_call (w_law_words T 8) (hr.mono (by decide)) T.g__law_words T.k__law_words T.b__law_words tk .nil (a_one (x_var 3 rfl)))) (x_cv (cvY (yL yS)) (x_meth0 (w_D_words T 8) T.pl (hr.mono (by decide)) tk .nil (by decide +kernel) (x_var 4 rfl)))))))) (p_ret (fun w => Stp.rt w) [] (fun _ => rfl) .nil x_bl) (s_go (o := (Stp.nx ())) rfl (.cons .rfl (.cons .any (.cons .any (.cons .any (.cons .any (.cons .any (.cons .any (.cons .any (.cons .any .nil)))))))))))))))))))))))))))))) (.cons .rfl (.cons .any (.cons .any (.cons .any (.cons .any (.cons .any (.cons .any (.cons .any (.cons .any .nil))))))))) (fun a => .rtf rfl) (fun s_6293 => (p_retf [] (fun _ => rfl) .nil x_bl)))) (by unfold m_law; simp only [ok_bindP, ok_calmP, chk_calmP, opt_calmP, R.bind_pure, R.bind_assoc] <;> rfl))
end
end G

namespace G
open PySem PySem.Spec PyProof.Rows L2 Py
theorem atN {α : Type} {xs : List α} (i : Int) (h0 : 0 ≤ i) (h : i < (xs.length : Nat)) : ∃ x, atI xs i = some x ∧ x ∈ xs := by
  obtain ⟨k, rfl⟩ : ∃ k : Nat, i = (k : Int) := ⟨i.toNat, by omega⟩
  have hk : k < xs.length := by omega
  exact ⟨xs[k], atI_nat (List.getElem?_eq_getElem hk), List.getElem_mem hk⟩
theorem up_nodup {xs : List (Int × Int)} (h : Up xs) : xs.Nodup := (List.Pairwise.imp (fun {a b} (z : ltC a b = true) (e : a = b) => ltC_irrefl a (by rw [← e] at z; exact z)) h : xs.Pairwise (· ≠ ·))
theorem sortC_rise {xs : List (Int × Int)} (h : xs.Nodup) : sortC xs = rise xs := by
  have p : (rise xs).Perm xs := (List.perm_ext_iff_of_nodup (up_nodup (up_rise xs)) h).mpr fun c => mem_rise c xs
  exact asc_eq totC (asc_srt totC xs) (up_asc (up_rise xs)) ((perm_srt xs).trans p.symm)
theorem keys_dPut {κ ν : Type} [DecidableEq κ] (d : List (κ × ν)) (k : κ) (v : ν) : (dPut d k v).map Prod.fst = if k ∈ d.map Prod.fst then d.map Prod.fst else d.map Prod.fst ++ [k] := by
  unfold dPut
  by_cases h : (d.any fun q => decide (q.1 = k)) = true
  · have hm : k ∈ d.map Prod.fst := by
      obtain ⟨q, hq, e⟩ := List.any_eq_true.mp h
      exact List.mem_map.mpr ⟨q, hq, by simpa using e⟩
    rw [if_pos h, if_pos hm, List.map_map]
    refine List.map_congr_left fun q _ => ?_
    by_cases e : q.1 = k <;> simp [e]
  · have hm : k ∉ d.map Prod.fst := fun z => by
      obtain ⟨q, hq, e⟩ := List.mem_map.mp z
      exact h (List.any_eq_true.mpr ⟨q, hq, by simpa using e⟩)
    rw [if_neg h, if_neg hm, List.map_append]
    rfl
/-- a dict's keys, as a set -/
structure Keys {κ ν : Type} (d : List (κ × ν)) (S : κ → Prop) (n : Nat) : Prop where
  nd : (d.map Prod.fst).Nodup
  mem : ∀ c, c ∈ d.map Prod.fst ↔ S c
  len : d.length ≤ n
theorem Keys.nil {κ ν : Type} : Keys ([] : List (κ × ν)) (fun _ => False) 0 := ⟨List.Pairwise.nil, fun c => by simp, Nat.le_refl _⟩
theorem Keys.put {κ ν : Type} [DecidableEq κ] {d : List (κ × ν)} {S : κ → Prop} {n : Nat} (h : Keys d S n) (k : κ) (v : ν) : Keys (dPut d k v) (fun c => S c ∨ c = k) (n + 1) := by
  refine ⟨?_, fun c => ?_, ?_⟩
  · rw [keys_dPut]
    split
    · exact h.nd
    · next hk =>
      exact List.nodup_append.mpr ⟨h.nd, by simp, fun a ha b hb e => by
        rw [List.mem_singleton.mp hb] at e
        exact hk (e ▸ ha)⟩
  · rw [keys_dPut]
    split
    · next hk =>
      rw [h.mem]
      exact ⟨.inl, fun z => z.elim id fun e => by rw [e]; exact (h.mem k).mp hk⟩
    · rw [List.mem_append, h.mem, List.mem_singleton]
  · have := len_dPut d k v
    have := h.len
    omega
theorem Keys.cong {κ ν : Type} {d : List (κ × ν)} {S T : κ → Prop} {n : Nat} (h : Keys d S n) (e : ∀ c, S c ↔ T c) : Keys d T n := ⟨h.nd, fun c => (h.mem c).trans (e c), h.len⟩
theorem Keys.sorted {ν : Type} {d : List ((Int × Int) × ν)} {S : Int × Int → Prop} {n : Nat} (h : Keys d S n) : Up (sortC (d.map Prod.fst)) ∧ (∀ c, c ∈ sortC (d.map Prod.fst) ↔ S c) ∧ (sortC (d.map Prod.fst)).length ≤ n := by
  refine ⟨?_, fun c => ?_, ?_⟩
  · rw [sortC_rise h.nd]
    exact up_rise _
  · rw [sortC_rise h.nd, mem_rise, h.mem]
  · rw [sortC_rise h.nd]
    exact Nat.le_trans (len_rise _) (by rw [List.length_map]; exact h.len)
/-- a list of one number -/
def Sgl (l : List Int) : Prop := ∃ g, l = [g]
theorem gd_calm {α β : Type} {P : α → Prop} {Q : β → Prop} {m : R α} {f : α → R β} (h : Gd m P) (k : ∀ a, P a → Gd (f a) Q) : Gd (m.calm.bind f) Q := by
  obtain ⟨a, e, p⟩ := h
  subst e
  exact k a p
theorem take_ok {l : List Int} (hl : Sgl l) {n : Int} (h0 : 0 < n) (h : n < 2 ^ 62) : Gd (m_law_take l n) fun r => (0 ≤ r.1 ∧ r.1 < n) ∧ Sgl r.2 := by
  obtain ⟨g, rfl⟩ := hl
  unfold m_law_take
  refine Gd.bind (P := fun r => r = g % n) (Gd.optB (a := g) rfl (Gd.chk h0 rfl)) fun r e => ?_
  subst e
  refine Gd.bind (P := fun r => r = g / n) (Gd.optB (a := g) rfl (Gd.chk (⟨h0, Nat.lt_trans (dv_ok h0 62 (by decide) (by omega)).2 (by decide)⟩ : CDivW g n) rfl)) fun r e => ?_
  subst e
  exact Gd.chkB (by simp) (Gd.ok ⟨⟨Int.emod_nonneg _ (Int.ne_of_gt h0), Int.emod_lt_of_pos _ h0⟩, _, rfl⟩)
theorem takeB {β : Type} {Q : β → Prop} {f : Int × List Int → R β} {l : List Int} (hl : Sgl l) {n : Int} (h0 : 0 < n) (h : n < 2 ^ 62) (k : ∀ d l', 0 ≤ d → d < n → Sgl l' → Gd (f (d, l')) Q) : Gd ((m_law_take l n).calm.bind f) Q :=
  gd_calm (take_ok hl h0 h) fun a p => k a.1 a.2 p.1.1 p.1.2 p.2
/-- an item of a short list, by a number taken -/
theorem takeAt {α β : Type} {Q : β → Prop} {f : α × List Int → R β} {l : List Int} {xs : List α} (hl : Sgl l) {n : Int} (h0 : 0 < n) (h : n < 2 ^ 62) (hx : n = (xs.length : Nat)) (k : ∀ x l', x ∈ xs → Sgl l' → Gd (f (x, l')) Q) :
    Gd (((m_law_take l n).calm.bind fun z => (ofOpt (atI xs z.1)).bind fun x => R.ok (x, z.2)).bind f) Q := by
  refine Gd.bind (P := fun r => r.1 ∈ xs ∧ Sgl r.2) (takeB hl h0 h fun d l' d0 d1 hl' => ?_) fun r hr => k r.1 r.2 hr.1 hr.2
  obtain ⟨x, ex, hm⟩ := atN (xs := xs) d d0 (by omega)
  exact Gd.optB ex (Gd.ok ⟨hm, hl'⟩)
theorem deal3_ok (c : Int) {n : Int} (h0 : 0 ≤ n) (h1 : n ≤ 1000) : Gd (m_law_deal c n) fun _ => True := by
  unfold m_law_deal
  refine Gd.ite (fun _ => Gd.ok trivial) fun _ => ?_
  dsimp only
  refine Gd.chkB (by omega) ?_
  refine (Gd.forR (I := fun t : Int × Int => 0 ≤ t.2 ∧ t.2 < 2147500454) (fun t k hk ht => ?_) (by dsimp only; omega)).bind fun _ _ => Gd.ok trivial
  have hk' := mem_rangeI.mp hk
  refine Gd.bind (P := fun x : Int => 0 ≤ x ∧ x < 2147483647) (Gd.bind (P := fun _ => True) (Gd.bind (P := fun _ => True) (Gd.chkB (mulW_ok 40 (by decide) (by omega) (by omega)) (Gd.ok trivial)) fun x _ => Gd.ok trivial) fun x _ => Gd.ok (by omega)) fun x hx => ?_
  refine Gd.bind (P := fun _ => True) (Gd.chkB (mulW_ok 40 (by decide) (by omega) (by omega)) (Gd.ok trivial)) fun y _ => ?_
  exact Gd.ok (by dsimp only; omega)
/-! ### what plans make -/
/-- refused where it is too great -/
def big (r : Shp) : R Shp := if (decide ((2000 : Int) < ((r.1).length : Int))) = true then R.er ⟨"TooMany", none⟩ else R.ok r
theorem big_ok {r : Shp} (h : r.1.length ≤ 2000) : big r = .ok r := if_neg (by simp; omega)
theorem big_er {r : Shp} (h : 2000 < r.1.length) : big r = .er ⟨"TooMany", none⟩ := if_pos (by simp; omega)
theorem done_keep (n : Nat) (s : Shp) : m_D_done (n + 1) .keep s = big s := rfl
theorem done_nothing (n : Nat) (s : Shp) : m_D_done (n + 1) .nothing s = .ok ([], false) := rfl
theorem done_everything (n : Nat) (s : Shp) : m_D_done (n + 1) .everything s = .ok ([], true) := rfl
theorem two_bind {α β γ : Type} (m : R α) (b : β) (k : α → β → R γ) : (m.bind fun x => (R.ok b).bind fun y => (R.ok (x, y) : R (α × β))).bind (fun z => k z.1 z.2) = m.bind fun x => k x b := by cases m <;> rfl
theorem two_bind2 {α β γ : Type} (m : R α) (m2 : R β) (k : α → β → R γ) : (m.bind fun x => m2.bind fun y => (R.ok (x, y) : R (α × β))).bind (fun z => k z.1 z.2) = m.bind fun x => m2.bind fun y => k x y := by cases m <;> cases m2 <;> rfl
theorem done_move (n : Nat) (t : Int × Int) (p : Pl) (s : Shp) : m_D_done (n + 1) (.move t p) s = ((m_D_done n p s).bind fun r => m_moved r t).bind big := by
  show (m_Move_made (m_D_done n) (.move t p) s).bind big = _
  congr 1
  exact two_bind _ t m_moved
theorem done_eat (n : Nat) (t : List (Int × Int)) (p : Pl) (s : Shp) : m_D_done (n + 1) (.eat t p) s = ((m_D_done n p s).bind fun r => m_eaten r t).bind big := by
  show (m_Eat_made (m_D_done n) (.eat t p) s).bind big = _
  congr 1
  exact two_bind _ t m_eaten
theorem done_grow (n : Nat) (t : List (Int × Int)) (p : Pl) (s : Shp) : m_D_done (n + 1) (.grow t p) s = ((m_D_done n p s).bind fun r => m_grown r t).bind big := by
  show (m_Grow_made (m_D_done n) (.grow t p) s).bind big = _
  congr 1
  exact two_bind _ t m_grown
theorem done_both (n : Nat) (p q : Pl) (s : Shp) : m_D_done (n + 1) (.both p q) s = ((m_D_done n p s).bind fun a => (m_D_done n q s).bind fun b => m_both a b).bind big := by
  show (m_Both_made (m_D_done n) (.both p q) s).bind big = _
  congr 1
  exact two_bind2 _ _ m_both
theorem done_either (n : Nat) (p q : Pl) (s : Shp) : m_D_done (n + 1) (.either p q) s = ((m_D_done n p s).bind fun a => (m_D_done n q s).bind fun b => m_either a b).bind big := by
  show (m_Either_made (m_D_done n) (.either p q) s).bind big = _
  congr 1
  exact two_bind2 _ _ m_either
def mvS (s : Shp) (t : Int × Int) : Shp := (s.1.map fun y => (y.1 + t.1, y.2 + t.2), s.2)
theorem len_mvS (s : Shp) (a : Int × Int) : (mvS s a).1.length = s.1.length := List.length_map _
theorem moved_ok (s : Shp) (t : Int × Int) (h : s.1.length ≤ 50000) : m_moved s t = .ok (mvS s t) := by
  refine Gd.eq ?_
  unfold m_moved
  dsimp only
  refine Gd.bind (P := fun r => r = s.1.map fun y => (y.1 + t.1, y.2 + t.2)) (Gd.bind (P := fun r => r = s.1.map fun y => (y.1 + t.1, y.2 + t.2)) (Gd.mapRB (g := fun y => (y.1 + t.1, y.2 + t.2)) (fun _ _ => rfl) (Gd.chk (small_size (by rw [List.length_map]; omega)) rfl)) fun r e => Gd.ok e) fun r e => Gd.ok (by rw [e]; rfl)
theorem rising_ok (xs : List (Int × Int)) (h : xs.length ≤ 9800) : m_rising xs = .ok (rise xs) := by
  refine Gd.eq ?_
  unfold m_rising
  exact Gd.bind (P := fun r => r = rise xs) (Gd.chk (Nat.le_trans (len_rise xs) h) rfl) fun a e => Gd.ok e
/-- .. where the turn is any that puts f x -/
theorem Keys.fillM {α κ : Type} [DecidableEq κ] {d : List (κ × Bool)} {S : κ → Prop} {n : Nat} {xs : List α} (f : α → κ) {g : List (κ × Bool) → α → R (List (κ × Bool))} (h : Keys d S n) (hn : n + xs.length ≤ 90000)
    (hg : ∀ d x, x ∈ xs → d.length ≤ 90000 → g d x = .ok (dPut d (f x) true)) :
    Gd (forR g xs d) fun d' => Keys d' (fun c => S c ∨ ∃ x ∈ xs, c = f x) (n + xs.length) := by
  refine Gd.forRl (I := fun p d' => Keys d' (fun c => S c ∨ ∃ x ∈ p, c = f x) (n + p.length)) (fun p x t s e hi => ?_) (h.cong fun c => by simp)
  have z := congrArg List.length e
  simp only [List.length_append, List.length_cons] at z
  have := hi.len
  refine Gd.of (hg s x (by rw [e]; simp) (by omega)) ?_
  have k := hi.put (f x) true
  rw [List.length_append]
  refine Keys.cong k fun c => ?_
  constructor
  · rintro ((h | ⟨y, hy, e⟩) | h)
    · exact .inl h
    · exact .inr ⟨y, List.mem_append_left _ hy, e⟩
    · exact .inr ⟨x, List.mem_append_right _ List.mem_cons_self, h⟩
  · rintro (h | ⟨y, hy, e⟩)
    · exact .inl (.inl h)
    · rcases List.mem_append.mp hy with q | q
      · exact .inl (.inr ⟨y, q, e⟩)
      · rw [List.mem_singleton.mp q] at e
        exact .inr e
theorem dGet_some {κ ν : Type} [DecidableEq κ] (d : List (κ × ν)) (k : κ) : (dGet d k).isSome = decide (k ∈ d.map Prod.fst) := by
  unfold dGet
  rw [Option.isSome_map, Bool.eq_iff_iff, List.find?_isSome, decide_eq_true_eq, List.mem_map]
  constructor
  · rintro ⟨q, hq, e⟩
    exact ⟨q, hq, by simpa using e⟩
  · rintro ⟨q, hq, e⟩
    exact ⟨q, hq, by simpa using e⟩
theorem Keys.has {κ ν : Type} [DecidableEq κ] {d : List (κ × ν)} {S : κ → Prop} [DecidablePred S] {n : Nat} (h : Keys d S n) (k : κ) : (dGet d k).isSome = decide (S k) := by
  rw [dGet_some, Bool.eq_iff_iff, decide_eq_true_eq, decide_eq_true_eq, h.mem]
theorem lies_ok (p : List (Int × Int)) (c : Int × Int) (h : p.length ≤ 9800) : m_lies_on p c = .ok (p.map fun s => (c.1 + s.1, c.2 + s.2)) := by
  refine Gd.eq ?_
  unfold m_lies_on
  exact Gd.mapRB (g := fun s => (c.1 + s.1, c.2 + s.2)) (fun x _ => by show m_moved_cell x c = _; unfold m_moved_cell; rw [Int.add_comm x.1, Int.add_comm x.2]) (Gd.chk (small_size (by rw [List.length_map]; omega)) rfl)
theorem mirrored_ok (p : List (Int × Int)) (h : p.length ≤ 9800) : m_mirrored p = .ok (rise (p.map fun s => (0 - s.1, 0 - s.2))) := by
  refine Gd.eq ?_
  unfold m_mirrored
  refine Gd.bind (P := fun r => r = p.map fun s => (0 - s.1, 0 - s.2)) (Gd.mapRB (g := fun s => (0 - s.1, 0 - s.2)) (fun x _ => rfl) (Gd.chk (small_size (by rw [List.length_map]; omega)) rfl)) fun r e => ?_
  subst e
  exact Gd.of (rising_ok _ (by rw [List.length_map]; exact h)) rfl
theorem mem_mir (p : List (Int × Int)) (c : Int × Int) : c ∈ rise (p.map fun s => (0 - s.1, 0 - s.2)) ↔ (0 - c.1, 0 - c.2) ∈ p := by
  rw [mem_rise, List.mem_map]
  constructor
  · rintro ⟨a, ha, e⟩
    subst e
    simpa using ha
  · intro h
    exact ⟨_, h, by simp⟩
theorem mir_len (p : List (Int × Int)) : (rise (p.map fun s => (0 - s.1, 0 - s.2))).length ≤ p.length := Nat.le_trans (len_rise _) (by rw [List.length_map]; exact Nat.le_refl _)
theorem mir_ne {p : List (Int × Int)} (h : p ≠ []) : rise (p.map fun s => (0 - s.1, 0 - s.2)) ≠ [] := fun z => by
  obtain ⟨c, hc⟩ := List.exists_mem_of_ne_nil p h
  have := (mem_mir p (0 - c.1, 0 - c.2)).mpr (by simpa using hc)
  rw [z] at this
  cases this
theorem up_shift {xs : List (Int × Int)} (h : Up xs) (s : Int × Int) : Up (xs.map fun c => (c.1 - s.1, c.2 - s.2)) := List.pairwise_map.mpr (List.Pairwise.imp (fun {a b} z => by
  rw [ltC_iff] at *
  simp only
  omega) h)
/-- all the cells on which the piece lies at some cell -/
theorem reached_ok (cs p : List (Int × Int)) (h : cs.length * p.length ≤ 9800) (hp : p.length ≤ 9800) : Gd (m_reached cs p) fun r => Up r ∧ (∀ c, c ∈ r ↔ ∃ x ∈ cs, ∃ s ∈ p, c = (x.1 + s.1, x.2 + s.2)) ∧ r.length ≤ cs.length * p.length := by
  unfold m_reached
  refine (Gd.forRl (I := fun q (t : List (Int × Int)) => (∀ c, c ∈ t ↔ ∃ x ∈ q, ∃ s ∈ p, c = (x.1 + s.1, x.2 + s.2)) ∧ t.length = q.length * p.length) (fun q x r t e hi => ?_) ⟨fun c => by simp, by simp⟩).bind fun t ht => ?_
  · obtain ⟨i1, i2⟩ := hi
    have z := congrArg List.length e
    simp only [List.length_append, List.length_cons] at z
    have z2 : (q.length + 1) * p.length ≤ cs.length * p.length := Nat.mul_le_mul_right _ (by omega)
    rw [Nat.add_mul, Nat.one_mul] at z2
    refine Gd.eqB (lies_ok p x hp) (Gd.chkB (small_size (by rw [List.length_map]; omega)) (Gd.ok ⟨fun c => ?_, ?_⟩))
    · rw [List.mem_append, i1, List.mem_map]
      constructor
      · rintro (⟨y, hy, s, hs, e⟩ | ⟨s, hs, e⟩)
        · exact ⟨y, List.mem_append_left _ hy, s, hs, e⟩
        · exact ⟨x, List.mem_append_right _ List.mem_cons_self, s, hs, e.symm⟩
      · rintro ⟨y, hy, s, hs, e⟩
        rcases List.mem_append.mp hy with w | w
        · exact .inl ⟨y, w, s, hs, e⟩
        · rw [List.mem_singleton.mp w] at e
          exact .inr ⟨s, hs, e.symm⟩
    · rw [List.length_append, i2, List.length_map, List.length_append, List.length_singleton, Nat.add_mul, Nat.one_mul]
  · refine Gd.of (rising_ok t (by omega)) ⟨up_rise _, fun c => by rw [mem_rise, ht.1], Nat.le_trans (len_rise _) (by omega)⟩
/-- all the cells at which the piece lies on cells alone -/
theorem kept_ok (cs p : List (Int × Int)) (hu : Up cs) (hc : cs.length ≤ 9800) (hp : p.length ≤ 9800) (ne : p ≠ []) : Gd (m_kept_at cs p) fun r => Up r ∧ (∀ c, c ∈ r ↔ ∀ s ∈ p, (c.1 + s.1, c.2 + s.2) ∈ cs) ∧ r.length ≤ cs.length := by
  obtain ⟨s0, ps, rfl⟩ := List.exists_cons_of_ne_nil ne
  unfold m_kept_at
  refine (Keys.fillM (xs := cs) (fun c => c) .nil (by omega) fun d x _ hd => ?_).bind fun d hd => ?_
  · exact Gd.eq (Gd.chkB (small_lt (by omega)) (Gd.ok rfl))
  · have hd' : Keys d (fun c => c ∈ cs) (0 + cs.length) := hd.cong fun c => by simp
    refine (Gd.forRl (I := fun q (t : List (Int × Int)) => t = (q.map fun c => (c.1 - s0.1, c.2 - s0.2)).filter fun c => (s0 :: ps).all fun s => decide ((c.1 + s.1, c.2 + s.2) ∈ cs)) (fun q x r t e hi => ?_) rfl).bind fun t ht => Gd.ok ?_
    · have z := congrArg List.length e
      simp only [List.length_append, List.length_cons] at z
      refine Gd.bind (P := fun y => y = (x.1 - s0.1, x.2 - s0.2)) (Gd.bind (P := fun y => y = (x, s0)) (Gd.optB (a := s0) (show atI (s0 :: ps) ((0 : Nat) : Int) = some s0 from atI_nat rfl) (Gd.ok rfl)) fun y e => by subst e; exact Gd.ok rfl) fun y ey => ?_
      subst ey
      refine Gd.bind (P := fun b => b = (s0 :: ps).all fun s => decide ((x.1 - s0.1 + s.1, x.2 - s0.2 + s.2) ∈ cs)) ?_ fun b eb => ?_
      · refine Gd.bind (P := fun ys => ys = (s0 :: ps).map fun s => decide ((x.1 - s0.1 + s.1, x.2 - s0.2 + s.2) ∈ cs)) (Gd.eqB (lies_ok _ _ hp) (Gd.mapRB (g := fun c => decide (c ∈ cs)) (fun y _ => by rw [hd'.has]) (Gd.chk (small_size (by rw [List.length_map, List.length_map]; omega)) (by rw [List.map_map]; rfl)))) fun ys e => Gd.ok ?_
        subst e
        rw [List.all_map]
        rfl
      · have lt : t.length ≤ q.length := by
          rw [hi]
          exact Nat.le_trans (List.length_filter_le ..) (by rw [List.length_map]; exact Nat.le_refl _)
        refine Gd.ite (fun hb => Gd.chkB (small_lt (by omega)) (Gd.ok ?_)) fun hb => Gd.ok ?_
        · rw [hi, List.map_append, List.filter_append]
          congr 1
          rw [eb] at hb
          exact (List.filter_cons_of_pos (p := fun c => (s0 :: ps).all fun s => decide ((c.1 + s.1, c.2 + s.2) ∈ cs)) (a := (x.1 - s0.1, x.2 - s0.2)) (l := []) hb).symm
        · rw [hi, List.map_append, List.filter_append]
          rw [eb] at hb
          have k := List.filter_cons_of_neg (p := fun c => (s0 :: ps).all fun s => decide ((c.1 + s.1, c.2 + s.2) ∈ cs)) (a := (x.1 - s0.1, x.2 - s0.2)) (l := []) hb
          rw [List.map_singleton, k, List.filter_nil, List.append_nil]
    · subst ht
      refine ⟨List.Pairwise.filter _ (up_shift hu s0), fun c => ?_, Nat.le_trans (List.length_filter_le ..) (by rw [List.length_map]; exact Nat.le_refl _)⟩
      rw [List.mem_filter, List.mem_map, List.all_eq_true]
      constructor
      · rintro ⟨_, h⟩ s hs
        simpa using h s hs
      · intro h
        exact ⟨⟨(c.1 + s0.1, c.2 + s0.2), h s0 List.mem_cons_self, by ext <;> simp⟩, fun s hs => by simpa using h s hs⟩
def InDil (cs p : List (Int × Int)) (c : Int × Int) : Prop := ∃ x ∈ cs, ∃ s ∈ p, c = (x.1 + s.1, x.2 + s.2)
def InEro (cs p : List (Int × Int)) (c : Int × Int) : Prop := ∀ s ∈ p, (c.1 + s.1, c.2 + s.2) ∈ cs
/-- with the piece mirrored -/
def InDilM (cs p : List (Int × Int)) (c : Int × Int) : Prop := ∃ x ∈ cs, ∃ s ∈ p, c = (x.1 - s.1, x.2 - s.2)
def InEroM (cs p : List (Int × Int)) (c : Int × Int) : Prop := ∀ s ∈ p, (c.1 - s.1, c.2 - s.2) ∈ cs
theorem dil_mir (cs p : List (Int × Int)) (c : Int × Int) : InDil cs (rise (p.map fun s => (0 - s.1, 0 - s.2))) c ↔ InDilM cs p c := by
  constructor
  · rintro ⟨x, hx, s, hs, e⟩
    exact ⟨x, hx, _, (mem_mir p s).mp hs, by rw [e]; ext <;> simp <;> omega⟩
  · rintro ⟨x, hx, s, hs, e⟩
    exact ⟨x, hx, (0 - s.1, 0 - s.2), (mem_mir p _).mpr (by simpa using hs), by rw [e]; ext <;> simp <;> omega⟩
theorem ero_mir (cs p : List (Int × Int)) (c : Int × Int) : InEro cs (rise (p.map fun s => (0 - s.1, 0 - s.2))) c ↔ InEroM cs p c := by
  constructor
  · intro h s hs
    have := h (0 - s.1, 0 - s.2) ((mem_mir p _).mpr (by simpa using hs))
    have e : (c.1 - s.1, c.2 - s.2) = (c.1 + (0 - s.1), c.2 + (0 - s.2)) := by ext <;> simp <;> omega
    rw [e]
    exact this
  · intro h s hs
    have := h _ ((mem_mir p s).mp hs)
    have e : (c.1 + s.1, c.2 + s.2) = (c.1 - (0 - s.1), c.2 - (0 - s.2)) := by ext <;> simp <;> omega
    rw [e]
    exact this
theorem eaten_ok (s : Shp) (p : List (Int × Int)) (u : Up s.1) (h : s.1.length * p.length ≤ 9800) (hs : s.1.length ≤ 9800) (hp : p.length ≤ 9800) (ne : p ≠ []) :
    Gd (m_eaten s p) fun r => Up r.1 ∧ r.2 = s.2 ∧ (∀ c, c ∈ r.1 ↔ if s.2 = true then InDilM s.1 p c else InEro s.1 p c) ∧ r.1.length ≤ s.1.length * p.length := by
  unfold m_eaten
  have lp : 1 ≤ p.length := List.length_pos_iff.mpr ne
  have ls : s.1.length ≤ s.1.length * p.length := by
    have := Nat.mul_le_mul_left s.1.length lp
    omega
  refine Gd.ite (fun hr => ?_) fun hr => ?_
  · refine Gd.bind (P := fun r => Up r ∧ (∀ c, c ∈ r ↔ InDilM s.1 p c) ∧ r.length ≤ s.1.length * p.length) (Gd.bind (P := fun q => q = (s.1, rise (p.map fun s => (0 - s.1, 0 - s.2)))) (Gd.eqB (mirrored_ok p hp) (Gd.ok rfl)) fun q e => ?_) fun r hr2 => Gd.ok ⟨hr2.1, hr.symm, fun c => ?_, hr2.2.2⟩
    · subst e
      have l2 : s.1.length * (rise (p.map fun s => (0 - s.1, 0 - s.2))).length ≤ s.1.length * p.length := Nat.mul_le_mul_left _ (mir_len p)
      exact (reached_ok s.1 _ (by show s.1.length * _ ≤ _; omega) (Nat.le_trans (mir_len p) hp)).mono fun r h => ⟨h.1, fun c => (h.2.1 c).trans (dil_mir s.1 p c), by have := h.2.2; omega⟩
    · have hr' : s.2 = true := hr
      rw [if_pos hr']
      exact hr2.2.1 c
  · refine (kept_ok s.1 p u hs hp ne).bind fun r hr2 => Gd.ok ⟨hr2.1, ?_, fun c => ?_, by have := hr2.2.2; show r.length ≤ _; omega⟩
    · have hr' : ¬ s.2 = true := hr
      show false = s.2
      simpa using hr'
    · have hr' : ¬ s.2 = true := hr
      rw [if_neg hr']
      exact hr2.2.1 c
theorem grown_c (s : Shp) (p : List (Int × Int)) (u : Up s.1) (h : s.2 = false → s.1.length * p.length ≤ 9800) (hs : s.1.length ≤ 9800) (hp : p.length ≤ 9800) (ne : p ≠ []) :
    Gd (m_grown s p) fun r => Up r.1 ∧ r.2 = s.2 ∧ (∀ c, c ∈ r.1 ↔ if s.2 = true then InEroM s.1 p c else InDil s.1 p c) ∧ r.1.length ≤ 9800 ∧ (s.2 = true → r.1.length ≤ s.1.length) ∧ (s.2 = false → r.1.length ≤ s.1.length * p.length) := by
  unfold m_grown
  refine Gd.ite (fun hr => ?_) fun hr => ?_
  · have hr' : s.2 = true := hr
    refine Gd.bind (P := fun r => Up r ∧ (∀ c, c ∈ r ↔ InEroM s.1 p c) ∧ r.length ≤ s.1.length) (Gd.bind (P := fun q => q = (s.1, rise (p.map fun s => (0 - s.1, 0 - s.2)))) (Gd.eqB (mirrored_ok p hp) (Gd.ok rfl)) fun q e => ?_) fun r hr2 => Gd.ok ⟨hr2.1, hr.symm, fun c => ?_, by have := hr2.2.2; show r.length ≤ _; omega, fun _ => hr2.2.2, fun z => absurd (hr'.symm.trans z) (by decide)⟩
    · subst e
      exact (kept_ok s.1 _ u hs (Nat.le_trans (mir_len p) hp) (mir_ne ne)).mono fun r h => ⟨h.1, fun c => (h.2.1 c).trans (ero_mir s.1 p c), h.2.2⟩
    · rw [if_pos hr']
      exact hr2.2.1 c
  · have hr' : s.2 = false := by
      have hr' : ¬ s.2 = true := hr
      simpa using hr'
    refine (reached_ok s.1 p (h hr') hp).bind fun r hr2 => Gd.ok ⟨hr2.1, hr'.symm, fun c => ?_, by have := hr2.2.2; have := h hr'; show r.length ≤ _; omega, fun z => absurd (hr'.symm.trans z) (by decide), fun _ => hr2.2.2⟩
    rw [hr', if_neg (by decide)]
    exact hr2.2.1 c
theorem eaten_c (s : Shp) (p : List (Int × Int)) (u : Up s.1) (h : s.2 = true → s.1.length * p.length ≤ 9800) (hs : s.1.length ≤ 9800) (hp : p.length ≤ 9800) (ne : p ≠ []) :
    Gd (m_eaten s p) fun r => Up r.1 ∧ r.2 = s.2 ∧ (∀ c, c ∈ r.1 ↔ if s.2 = true then InDilM s.1 p c else InEro s.1 p c) ∧ r.1.length ≤ 9800 ∧ (s.2 = false → r.1.length ≤ s.1.length) ∧ (s.2 = true → r.1.length ≤ s.1.length * p.length) := by
  unfold m_eaten
  refine Gd.ite (fun hr => ?_) fun hr => ?_
  · have hr' : s.2 = true := hr
    refine Gd.bind (P := fun r => Up r ∧ (∀ c, c ∈ r ↔ InDilM s.1 p c) ∧ r.length ≤ s.1.length * p.length) (Gd.bind (P := fun q => q = (s.1, rise (p.map fun s => (0 - s.1, 0 - s.2)))) (Gd.eqB (mirrored_ok p hp) (Gd.ok rfl)) fun q e => ?_) fun r hr2 => Gd.ok ⟨hr2.1, hr.symm, fun c => ?_, by have := hr2.2.2; have := h hr'; show r.length ≤ _; omega, fun z => absurd (hr'.symm.trans z) (by decide), fun _ => hr2.2.2⟩
    · subst e
      have l2 : s.1.length * (rise (p.map fun s => (0 - s.1, 0 - s.2))).length ≤ s.1.length * p.length := Nat.mul_le_mul_left _ (mir_len p)
      have := h hr'
      exact (reached_ok s.1 _ (by show s.1.length * _ ≤ _; omega) (Nat.le_trans (mir_len p) hp)).mono fun r h => ⟨h.1, fun c => (h.2.1 c).trans (dil_mir s.1 p c), by have := h.2.2; omega⟩
    · rw [if_pos hr']
      exact hr2.2.1 c
  · have hr' : s.2 = false := by
      have hr' : ¬ s.2 = true := hr
      simpa using hr'
    refine (kept_ok s.1 p u hs hp ne).bind fun r hr2 => Gd.ok ⟨hr2.1, hr'.symm, fun c => ?_, by have := hr2.2.2; show r.length ≤ _; omega, fun _ => hr2.2.2, fun z => absurd (hr'.symm.trans z) (by decide)⟩
    rw [hr', if_neg (by decide)]
    exact hr2.2.1 c
theorem dil_of {a p : List (Int × Int)} {P : Int × Int → Prop} (h : ∀ c, c ∈ a ↔ P c) (c : Int × Int) : InDil a p c ↔ ∃ s ∈ p, P (c.1 - s.1, c.2 - s.2) := by
  constructor
  · rintro ⟨x, hx, s, hs, rfl⟩
    exact ⟨s, hs, by
      have e : ((x.1 + s.1, x.2 + s.2).1 - s.1, (x.1 + s.1, x.2 + s.2).2 - s.2) = x := by ext <;> simp
      rw [e]
      exact (h x).mp hx⟩
  · rintro ⟨s, hs, hp⟩
    exact ⟨_, (h _).mpr hp, s, hs, by ext <;> simp⟩
theorem dilM_of {a p : List (Int × Int)} {P : Int × Int → Prop} (h : ∀ c, c ∈ a ↔ P c) (c : Int × Int) : InDilM a p c ↔ ∃ s ∈ p, P (c.1 + s.1, c.2 + s.2) := by
  constructor
  · rintro ⟨x, hx, s, hs, rfl⟩
    exact ⟨s, hs, by
      have e : ((x.1 - s.1, x.2 - s.2).1 + s.1, (x.1 - s.1, x.2 - s.2).2 + s.2) = x := by ext <;> simp
      rw [e]
      exact (h x).mp hx⟩
  · rintro ⟨s, hs, hp⟩
    exact ⟨_, (h _).mpr hp, s, hs, by ext <;> simp⟩
theorem has_fin {a : Shp} (h : a.2 = false) (c : Int × Int) : hasS a c = true ↔ c ∈ a.1 := by
  unfold hasS
  rw [h, ← hasB_iff]
  cases hasB c a.1 <;> decide
theorem has_inf {a : Shp} (h : a.2 = true) (c : Int × Int) : hasS a c = true ↔ c ∉ a.1 := by
  unfold hasS
  rw [h, ← hasB_iff]
  cases hasB c a.1 <;> decide
/-- what a grown, an eaten shape has -/
def HG (f : Int × Int → Prop) (p : List (Int × Int)) (c : Int × Int) : Prop := ∃ t ∈ p, f (c.1 - t.1, c.2 - t.2)
def HE (f : Int × Int → Prop) (p : List (Int × Int)) (c : Int × Int) : Prop := ∀ t ∈ p, f (c.1 + t.1, c.2 + t.2)
abbrev Hs (s : Shp) : Int × Int → Prop := fun c => hasS s c = true
structure Grw (s : Shp) (r : Shp) (f : Int × Int → Prop) : Prop where
  up : Up r.1
  rest : r.2 = s.2
  has : ∀ c, hasS r c = true ↔ f c
  len : r.1.length ≤ 9800
theorem grown_has (s : Shp) (p : List (Int × Int)) (u : Up s.1) (h : s.2 = false → s.1.length * p.length ≤ 9800) (hs : s.1.length ≤ 9800) (hp : p.length ≤ 9800) (ne : p ≠ []) :
    Gd (m_grown s p) fun r => Grw s r (HG (Hs s) p) ∧ (s.2 = true → r.1.length ≤ s.1.length) ∧ (s.2 = false → r.1.length ≤ s.1.length * p.length) := by
  refine (grown_c s p u h hs hp ne).mono fun r hr => ⟨⟨hr.1, hr.2.1, fun c => ?_, hr.2.2.2.1⟩, hr.2.2.2.2⟩
  obtain ⟨_, r2, r3, _⟩ := hr
  by_cases hb : s.2 = true
  · rw [has_inf (r2.trans hb), r3, if_pos hb]
    unfold InEroM HG Hs
    simp only [has_inf hb]
    constructor
    · intro h
      exact Classical.byContradiction fun z => h fun t ht => Classical.byContradiction fun w => z ⟨t, ht, w⟩
    · rintro ⟨t, ht, w⟩ h
      exact w (h t ht)
  · have hb' : s.2 = false := by simpa using hb
    rw [has_fin (r2.trans hb'), r3, if_neg hb]
    unfold HG Hs
    simp only [has_fin hb']
    exact dil_of (fun c => Iff.rfl) c
theorem eaten_has (s : Shp) (p : List (Int × Int)) (u : Up s.1) (h : s.2 = true → s.1.length * p.length ≤ 9800) (hs : s.1.length ≤ 9800) (hp : p.length ≤ 9800) (ne : p ≠ []) :
    Gd (m_eaten s p) fun r => Grw s r (HE (Hs s) p) ∧ (s.2 = false → r.1.length ≤ s.1.length) ∧ (s.2 = true → r.1.length ≤ s.1.length * p.length) := by
  refine (eaten_c s p u h hs hp ne).mono fun r hr => ⟨⟨hr.1, hr.2.1, fun c => ?_, hr.2.2.2.1⟩, hr.2.2.2.2⟩
  obtain ⟨_, r2, r3, _⟩ := hr
  by_cases hb : s.2 = true
  · rw [has_inf (r2.trans hb), r3, if_pos hb]
    unfold HE Hs
    simp only [has_inf hb]
    rw [dilM_of (fun c => Iff.rfl) c]
    constructor
    · intro h t ht w
      exact h ⟨t, ht, w⟩
    · rintro h ⟨t, ht, w⟩
      exact h t ht w
  · have hb' : s.2 = false := by simpa using hb
    rw [has_fin (r2.trans hb'), r3, if_neg hb]
    unfold HE Hs
    simp only [has_fin hb']
    exact Iff.rfl
theorem HG.cong {f g : Int × Int → Prop} (h : ∀ c, f c ↔ g c) (p : List (Int × Int)) (c : Int × Int) : HG f p c ↔ HG g p c := exists_congr fun t => and_congr_right fun _ => h _
theorem HE.cong {f g : Int × Int → Prop} (h : ∀ c, f c ↔ g c) (p : List (Int × Int)) (c : Int × Int) : HE f p c ↔ HE g p c := forall_congr' fun t => forall_congr' fun _ => h _
theorem only_in_ok (one other : List (Int × Int)) (h1 : one.length ≤ 90000) (h2 : other.length ≤ 90000) : m_only_in one other = .ok (one.filter fun c => !hasB c other) := by
  refine Gd.eq ?_
  unfold m_only_in
  refine (Gd.forRl (I := fun p d => SeenBy p d) (fun p x q d e hi => ?_) SeenBy.nil).bind fun d hd => ?_
  · have z := congrArg List.length e
    simp only [List.length_append, List.length_cons] at z
    have z2 := hi.1
    exact Gd.chkB (small_lt (by omega)) (Gd.ok (hi.put x true))
  · refine Gd.bind (P := fun r => r = one.filter fun c => !hasB c other) (Gd.fmRB (p := fun c => !hasB c other) (g := fun c => c) (fun c _ => by rw [hd.2]) (fun c _ => rfl) (Gd.chk ?_ ?_)) fun a e => Gd.ok e
    · rw [List.length_map]
      have := List.length_filter_le (fun c => !hasB c other) one
      exact small_size (by omega)
    · exact List.map_id' _
/-- both, told cell by cell -/
theorem both_sharp (one other : Shp) (u1 : Up one.1) (u2 : Up other.1) (h1 : one.1.length ≤ 2000) (h2 : other.1.length ≤ 2000) :
    Gd (m_both one other) fun r => Up r.1 ∧ r.2 = (one.2 && other.2) ∧ (∀ c, hasS r c = (hasS one c && hasS other c)) ∧ r.1.length ≤ one.1.length + other.1.length := by
  unfold m_both
  have lf : ∀ (p : Int × Int → Bool) (xs : List (Int × Int)) (n : Nat), xs.length ≤ n → (xs.filter p).length ≤ n := fun p xs n h => Nat.le_trans (List.length_filter_le p xs) h
  have fil : ∀ (c : Int × Int) (p : Int × Int → Bool) (xs : List (Int × Int)), hasB c (xs.filter p) = (hasB c xs && p c) := fun c p xs => by
    rw [Bool.eq_iff_iff, Bool.and_eq_true, hasB_iff, hasB_iff, List.mem_filter]
  refine Gd.ite (fun h => ?_) fun h => Gd.ite (fun ha => ?_) fun ha => Gd.ite (fun hb => ?_) fun hb => ?_
  · rw [Bool.and_eq_true] at h
    refine Gd.bind (P := fun r => r = rise (one.1 ++ other.1)) (Gd.chkB (small_size (by omega)) (Gd.of (rising_ok _ (by simp; omega)) rfl)) fun a e => Gd.ok ?_
    subst e
    refine ⟨up_rise _, by rw [h.1, h.2] <;> rfl, fun c => ?_, Nat.le_trans (len_rise _) (by simp)⟩
    have z : hasB c (rise (one.1 ++ other.1)) = (hasB c one.1 || hasB c other.1) := by
      rw [Bool.eq_iff_iff, Bool.or_eq_true, hasB_iff, hasB_iff, hasB_iff, mem_rise, List.mem_append]
    unfold hasS
    rw [z, h.1, h.2]
    cases hasB c one.1 <;> cases hasB c other.1 <;> rfl
  · have ho : other.2 = false := by
      rw [ha, Bool.true_and] at h
      simpa using h
    refine Gd.eqB (only_in_ok other.1 one.1 (by omega) (by omega)) (Gd.ok ⟨up_filter u2, by rw [ha, ho] <;> rfl, fun c => ?_, lf _ _ _ (by show other.1.length ≤ _; omega)⟩)
    unfold hasS
    rw [fil, ha, ho]
    cases hasB c one.1 <;> cases hasB c other.1 <;> rfl
  · have ho : one.2 = false := by simpa using ha
    refine Gd.eqB (only_in_ok one.1 other.1 (by omega) (by omega)) (Gd.ok ⟨up_filter u1, by rw [hb, ho] <;> rfl, fun c => ?_, lf _ _ _ (by show one.1.length ≤ _; omega)⟩)
    unfold hasS
    rw [fil, hb, ho]
    cases hasB c one.1 <;> cases hasB c other.1 <;> rfl
  · have h1' : one.2 = false := by simpa using ha
    have h2' : other.2 = false := by simpa using hb
    refine Gd.bind (P := fun r => r = one.1.filter fun c => !hasB c (one.1.filter fun c => !hasB c other.1)) (Gd.bind (P := fun r => r = (one.1, one.1.filter fun c => !hasB c other.1)) (Gd.eqB (only_in_ok one.1 other.1 (by omega) (by omega)) (Gd.ok rfl)) fun a e => by
      rw [e]
      have := List.length_filter_le (fun c => !hasB c other.1) one.1
      exact Gd.of (only_in_ok _ _ (by show one.1.length ≤ _; omega) (by show (List.filter _ _).length ≤ _; omega)) rfl) fun a e => Gd.ok ?_
    subst e
    refine ⟨up_filter u1, by rw [h1', h2'] <;> rfl, fun c => ?_, lf _ _ _ (by show one.1.length ≤ _; omega)⟩
    unfold hasS
    rw [fil, fil, h1', h2']
    cases hasB c one.1 <;> cases hasB c other.1 <;> rfl
theorem outside_ok (s : Shp) : m_outside s = .ok (s.1, !s.2) := rfl
/-! ### two values told alike -/
def OkE : Nat → Dy → Prop
  | 0, _ => False
  | n + 1, .tup l => l.length ≤ 50000 ∧ ∀ x ∈ l, OkE n x
  | n + 1, .lst l => l.length ≤ 50000 ∧ ∀ x ∈ l, OkE n x
  | _ + 1, .str s => PyData.strOk s = true
  | _ + 1, .non => False
  | _ + 1, _ => True
theorem mem_zip_self {α : Type} : ∀ {l : List α} {q : α × α}, q ∈ l.zip l → q.1 ∈ l ∧ q.2 = q.1
  | x :: l, q, h => by
    rw [List.zip_cons_cons] at h
    rcases List.mem_cons.mp h with e | h
    · subst e
      exact ⟨List.mem_cons_self, rfl⟩
    · obtain ⟨h1, h2⟩ := mem_zip_self h
      exact ⟨List.mem_cons_of_mem _ h1, h2⟩
theorem all_map_true {α : Type} (l : List α) : (l.map fun _ => true).all id = true := by
  rw [List.all_eq_true]
  intro x hx
  obtain ⟨_, _, rfl⟩ := List.mem_map.mp hx
  rfl
theorem same_ok : ∀ (n : Nat) (d : Dy), OkE n d → m_law_same n d d = .ok true
  | 0, _, h => h.elim
  | n + 1, d, h => by
    have row : ∀ l : List Dy, l.length ≤ 50000 → (∀ x ∈ l, OkE n x) → ((mapR (fun y : Dy × Dy => m_law_same n y.1 y.2) (l.zip l)).bind fun ys => chk (ys.length ≤ sizeLine) ys) = .ok ((l.zip l).map fun _ => true) := fun l hl hx => by
      refine Gd.eq ?_
      refine Gd.mapRB (g := fun _ => true) (fun q hq => ?_) (Gd.chk (small_size (by rw [List.length_map, List.length_zip]; omega)) rfl)
      obtain ⟨h1, h2⟩ := mem_zip_self hq
      rw [h2]
      exact same_ok n q.1 (hx _ h1)
    cases d with
    | non => exact h.elim
    | int i => simp [m_law_same, Dy.isN, Dy.isBl, Dy.isInt, Dy.isStr, Dy.isTup, Dy.isLst, Dy.shp, Dy.eqv, Dy.dat, chk, SeqAt.shaped, PyData.eqv, PyData.canLay0, PyData.depth]
    | bl i => simp [m_law_same, Dy.isN, Dy.isBl, Dy.isInt, Dy.isStr, Dy.isTup, Dy.isLst, Dy.shp, Dy.eqv, Dy.dat, chk, SeqAt.shaped, PyData.eqv, PyData.canLay0, PyData.depth]
    | str i =>
      have h' : PyData.strOk i = true := h
      simp [h', m_law_same, Dy.isN, Dy.isBl, Dy.isInt, Dy.isStr, Dy.isTup, Dy.isLst, Dy.shp, Dy.eqv, Dy.dat, chk, SeqAt.shaped, PyData.eqv, PyData.canLay0, PyData.depth]
    | tup l =>
      have r := row l h.1 h.2
      simp only [m_law_same, Dy.isN, Dy.isBl, Dy.isInt, Dy.isStr, Dy.isTup, Dy.isLst, Dy.len, Dy.zip, ofOpt, ok_bindP]
      simp only [Bool.false_eq_true, if_false, Bool.not_true, Bool.and_false, Bool.or_false, Bool.true_or, Bool.false_and, decide_true, if_true, r, ok_bindP, all_map_true]
    | lst l =>
      have r := row l h.1 h.2
      simp only [m_law_same, Dy.isN, Dy.isBl, Dy.isInt, Dy.isStr, Dy.isTup, Dy.isLst, Dy.len, Dy.zip, ofOpt, ok_bindP]
      simp only [Bool.false_eq_true, if_false, Bool.not_true, Bool.and_false, Bool.or_false, Bool.false_or, Bool.false_and, decide_true, if_true, r, ok_bindP, all_map_true]
/-- a cell, a shape as a value of any kind -/
abbrev dyC (x : Int × Int) : Dy := Dy.tup [Dy.int x.1, Dy.int x.2]
abbrev dyS (x : Shp) : Dy := Dy.tup [Dy.tup (List.map (fun x => Dy.tup [Dy.int x.1, Dy.int x.2]) x.1), Dy.bl x.2]
theorem okC (n : Nat) (c : Int × Int) : OkE (n + 2) (dyC c) := ⟨by simp, fun x hx => by
  simp only [List.mem_cons, List.not_mem_nil, or_false] at hx
  rcases hx with rfl | rfl <;> trivial⟩
theorem okS (n : Nat) (s : Shp) (h : s.1.length ≤ 50000) : OkE (n + 4) (dyS s) := ⟨by simp, fun x hx => by
  simp only [List.mem_cons, List.not_mem_nil, or_false] at hx
  rcases hx with rfl | rfl
  · refine ⟨by rw [List.length_map]; exact h, fun y hy => ?_⟩
    obtain ⟨c, _, rfl⟩ := List.mem_map.mp hy
    exact okC n c
  · trivial⟩
/-! ### forms: plans as tuples of words -/
abbrev fC (x : Int × Int) : Dy := Dy.tup [Dy.int x.1, Dy.int x.2]
abbrev fT (q : List (Int × Int)) : Dy := Dy.tup (List.map (fun x => Dy.tup [Dy.int x.1, Dy.int x.2]) q)
def fD : Pl → Dy
  | .keep => Dy.tup [Dy.str ("keep" : Str)]
  | .nothing => Dy.tup [Dy.str ("none" : Str)]
  | .everything => Dy.tup [Dy.str ("all" : Str)]
  | .move t p => Dy.tup [Dy.str ("move" : Str), fC t, fD p]
  | .eat q p => Dy.tup [Dy.str ("eat" : Str), fT q, fD p]
  | .grow q p => Dy.tup [Dy.str ("grow" : Str), fT q, fD p]
  | .both a b => Dy.tup [Dy.str ("both" : Str), fD a, fD b]
  | .either a b => Dy.tup [Dy.str ("either" : Str), fD a, fD b]
def dp : Pl → Nat
  | .keep => 0
  | .nothing => 0
  | .everything => 0
  | .move _ p => dp p + 1
  | .eat _ p => dp p + 1
  | .grow _ p => dp p + 1
  | .both a b => max (dp a) (dp b) + 1
  | .either a b => max (dp a) (dp b) + 1
/-- a step that is not too far -/
def Smt (t : Int × Int) : Prop := t.1.natAbs < 2 ^ 40 ∧ t.2.natAbs < 2 ^ 40
structure Pce (m : Nat) (q : List (Int × Int)) : Prop where
  up : Up q
  ne : q ≠ []
  len : q.length ≤ m
  sm : ∀ t ∈ q, Smt t
/-- its pieces have at most so many steps -/
def Pcs (m : Nat) : Pl → Prop
  | .keep => True
  | .nothing => True
  | .everything => True
  | .move t p => Smt t ∧ Pcs m p
  | .eat q p => Pce m q ∧ Pcs m p
  | .grow q p => Pce m q ∧ Pcs m p
  | .both a b => Pcs m a ∧ Pcs m b
  | .either a b => Pcs m a ∧ Pcs m b
theorem tq {a b : Str} {v : Bool} (sa : PyData.strOk a = true) (sb : PyData.strOk b = true) (h : decide (a = b) = v) : chk (Dy.shp (Dy.str a) = true ∧ Dy.shp (Dy.str b) = true) (Dy.eqv (Dy.str a) (Dy.str b)) = R.ok v := by
  subst h
  simp [sa, sb, Dy.shp, Dy.eqv, Dy.dat, chk, SeqAt.shaped, PyData.eqv, PyData.canLay0, PyData.depth]
  first | rfl | exact (Bool.beq_eq_decide_eq _ _) | (cases h : a == b <;> simp_all)
theorem so_keep : PyData.strOk ("keep" : Str) = true := by decide +kernel
theorem so_none : PyData.strOk ("none" : Str) = true := by decide +kernel
theorem so_all : PyData.strOk ("all" : Str) = true := by decide +kernel
theorem so_move : PyData.strOk ("move" : Str) = true := by decide +kernel
theorem so_eat : PyData.strOk ("eat" : Str) = true := by decide +kernel
theorem so_grow : PyData.strOk ("grow" : Str) = true := by decide +kernel
theorem so_both : PyData.strOk ("both" : Str) = true := by decide +kernel
theorem so_either : PyData.strOk ("either" : Str) = true := by decide +kernel
theorem q_keep_keep : chk (Dy.shp (Dy.str ("keep" : Str)) = true ∧ Dy.shp (Dy.str ("keep" : Str)) = true) (Dy.eqv (Dy.str ("keep" : Str)) (Dy.str ("keep" : Str))) = R.ok true := tq so_keep so_keep (by decide +kernel)
theorem q_keep_move : chk (Dy.shp (Dy.str ("keep" : Str)) = true ∧ Dy.shp (Dy.str ("move" : Str)) = true) (Dy.eqv (Dy.str ("keep" : Str)) (Dy.str ("move" : Str))) = R.ok false := tq so_keep so_move (by decide +kernel)
theorem q_keep_eat : chk (Dy.shp (Dy.str ("keep" : Str)) = true ∧ Dy.shp (Dy.str ("eat" : Str)) = true) (Dy.eqv (Dy.str ("keep" : Str)) (Dy.str ("eat" : Str))) = R.ok false := tq so_keep so_eat (by decide +kernel)
theorem q_keep_grow : chk (Dy.shp (Dy.str ("keep" : Str)) = true ∧ Dy.shp (Dy.str ("grow" : Str)) = true) (Dy.eqv (Dy.str ("keep" : Str)) (Dy.str ("grow" : Str))) = R.ok false := tq so_keep so_grow (by decide +kernel)
theorem q_none_keep : chk (Dy.shp (Dy.str ("none" : Str)) = true ∧ Dy.shp (Dy.str ("keep" : Str)) = true) (Dy.eqv (Dy.str ("none" : Str)) (Dy.str ("keep" : Str))) = R.ok false := tq so_none so_keep (by decide +kernel)
theorem q_none_none : chk (Dy.shp (Dy.str ("none" : Str)) = true ∧ Dy.shp (Dy.str ("none" : Str)) = true) (Dy.eqv (Dy.str ("none" : Str)) (Dy.str ("none" : Str))) = R.ok true := tq so_none so_none (by decide +kernel)
theorem q_none_move : chk (Dy.shp (Dy.str ("none" : Str)) = true ∧ Dy.shp (Dy.str ("move" : Str)) = true) (Dy.eqv (Dy.str ("none" : Str)) (Dy.str ("move" : Str))) = R.ok false := tq so_none so_move (by decide +kernel)
theorem q_none_eat : chk (Dy.shp (Dy.str ("none" : Str)) = true ∧ Dy.shp (Dy.str ("eat" : Str)) = true) (Dy.eqv (Dy.str ("none" : Str)) (Dy.str ("eat" : Str))) = R.ok false := tq so_none so_eat (by decide +kernel)
theorem q_none_grow : chk (Dy.shp (Dy.str ("none" : Str)) = true ∧ Dy.shp (Dy.str ("grow" : Str)) = true) (Dy.eqv (Dy.str ("none" : Str)) (Dy.str ("grow" : Str))) = R.ok false := tq so_none so_grow (by decide +kernel)
theorem q_all_keep : chk (Dy.shp (Dy.str ("all" : Str)) = true ∧ Dy.shp (Dy.str ("keep" : Str)) = true) (Dy.eqv (Dy.str ("all" : Str)) (Dy.str ("keep" : Str))) = R.ok false := tq so_all so_keep (by decide +kernel)
theorem q_all_none : chk (Dy.shp (Dy.str ("all" : Str)) = true ∧ Dy.shp (Dy.str ("none" : Str)) = true) (Dy.eqv (Dy.str ("all" : Str)) (Dy.str ("none" : Str))) = R.ok false := tq so_all so_none (by decide +kernel)
theorem q_all_all : chk (Dy.shp (Dy.str ("all" : Str)) = true ∧ Dy.shp (Dy.str ("all" : Str)) = true) (Dy.eqv (Dy.str ("all" : Str)) (Dy.str ("all" : Str))) = R.ok true := tq so_all so_all (by decide +kernel)
theorem q_all_move : chk (Dy.shp (Dy.str ("all" : Str)) = true ∧ Dy.shp (Dy.str ("move" : Str)) = true) (Dy.eqv (Dy.str ("all" : Str)) (Dy.str ("move" : Str))) = R.ok false := tq so_all so_move (by decide +kernel)
theorem q_all_eat : chk (Dy.shp (Dy.str ("all" : Str)) = true ∧ Dy.shp (Dy.str ("eat" : Str)) = true) (Dy.eqv (Dy.str ("all" : Str)) (Dy.str ("eat" : Str))) = R.ok false := tq so_all so_eat (by decide +kernel)
theorem q_all_grow : chk (Dy.shp (Dy.str ("all" : Str)) = true ∧ Dy.shp (Dy.str ("grow" : Str)) = true) (Dy.eqv (Dy.str ("all" : Str)) (Dy.str ("grow" : Str))) = R.ok false := tq so_all so_grow (by decide +kernel)
theorem q_move_keep : chk (Dy.shp (Dy.str ("move" : Str)) = true ∧ Dy.shp (Dy.str ("keep" : Str)) = true) (Dy.eqv (Dy.str ("move" : Str)) (Dy.str ("keep" : Str))) = R.ok false := tq so_move so_keep (by decide +kernel)
theorem q_move_none : chk (Dy.shp (Dy.str ("move" : Str)) = true ∧ Dy.shp (Dy.str ("none" : Str)) = true) (Dy.eqv (Dy.str ("move" : Str)) (Dy.str ("none" : Str))) = R.ok false := tq so_move so_none (by decide +kernel)
theorem q_move_all : chk (Dy.shp (Dy.str ("move" : Str)) = true ∧ Dy.shp (Dy.str ("all" : Str)) = true) (Dy.eqv (Dy.str ("move" : Str)) (Dy.str ("all" : Str))) = R.ok false := tq so_move so_all (by decide +kernel)
theorem q_move_move : chk (Dy.shp (Dy.str ("move" : Str)) = true ∧ Dy.shp (Dy.str ("move" : Str)) = true) (Dy.eqv (Dy.str ("move" : Str)) (Dy.str ("move" : Str))) = R.ok true := tq so_move so_move (by decide +kernel)
theorem q_move_eat : chk (Dy.shp (Dy.str ("move" : Str)) = true ∧ Dy.shp (Dy.str ("eat" : Str)) = true) (Dy.eqv (Dy.str ("move" : Str)) (Dy.str ("eat" : Str))) = R.ok false := tq so_move so_eat (by decide +kernel)
theorem q_move_grow : chk (Dy.shp (Dy.str ("move" : Str)) = true ∧ Dy.shp (Dy.str ("grow" : Str)) = true) (Dy.eqv (Dy.str ("move" : Str)) (Dy.str ("grow" : Str))) = R.ok false := tq so_move so_grow (by decide +kernel)
theorem q_move_both : chk (Dy.shp (Dy.str ("move" : Str)) = true ∧ Dy.shp (Dy.str ("both" : Str)) = true) (Dy.eqv (Dy.str ("move" : Str)) (Dy.str ("both" : Str))) = R.ok false := tq so_move so_both (by decide +kernel)
theorem q_move_either : chk (Dy.shp (Dy.str ("move" : Str)) = true ∧ Dy.shp (Dy.str ("either" : Str)) = true) (Dy.eqv (Dy.str ("move" : Str)) (Dy.str ("either" : Str))) = R.ok false := tq so_move so_either (by decide +kernel)
theorem q_eat_keep : chk (Dy.shp (Dy.str ("eat" : Str)) = true ∧ Dy.shp (Dy.str ("keep" : Str)) = true) (Dy.eqv (Dy.str ("eat" : Str)) (Dy.str ("keep" : Str))) = R.ok false := tq so_eat so_keep (by decide +kernel)
theorem q_eat_none : chk (Dy.shp (Dy.str ("eat" : Str)) = true ∧ Dy.shp (Dy.str ("none" : Str)) = true) (Dy.eqv (Dy.str ("eat" : Str)) (Dy.str ("none" : Str))) = R.ok false := tq so_eat so_none (by decide +kernel)
theorem q_eat_all : chk (Dy.shp (Dy.str ("eat" : Str)) = true ∧ Dy.shp (Dy.str ("all" : Str)) = true) (Dy.eqv (Dy.str ("eat" : Str)) (Dy.str ("all" : Str))) = R.ok false := tq so_eat so_all (by decide +kernel)
theorem q_eat_move : chk (Dy.shp (Dy.str ("eat" : Str)) = true ∧ Dy.shp (Dy.str ("move" : Str)) = true) (Dy.eqv (Dy.str ("eat" : Str)) (Dy.str ("move" : Str))) = R.ok false := tq so_eat so_move (by decide +kernel)
theorem q_eat_eat : chk (Dy.shp (Dy.str ("eat" : Str)) = true ∧ Dy.shp (Dy.str ("eat" : Str)) = true) (Dy.eqv (Dy.str ("eat" : Str)) (Dy.str ("eat" : Str))) = R.ok true := tq so_eat so_eat (by decide +kernel)
theorem q_eat_grow : chk (Dy.shp (Dy.str ("eat" : Str)) = true ∧ Dy.shp (Dy.str ("grow" : Str)) = true) (Dy.eqv (Dy.str ("eat" : Str)) (Dy.str ("grow" : Str))) = R.ok false := tq so_eat so_grow (by decide +kernel)
theorem q_eat_both : chk (Dy.shp (Dy.str ("eat" : Str)) = true ∧ Dy.shp (Dy.str ("both" : Str)) = true) (Dy.eqv (Dy.str ("eat" : Str)) (Dy.str ("both" : Str))) = R.ok false := tq so_eat so_both (by decide +kernel)
theorem q_eat_either : chk (Dy.shp (Dy.str ("eat" : Str)) = true ∧ Dy.shp (Dy.str ("either" : Str)) = true) (Dy.eqv (Dy.str ("eat" : Str)) (Dy.str ("either" : Str))) = R.ok false := tq so_eat so_either (by decide +kernel)
theorem q_grow_keep : chk (Dy.shp (Dy.str ("grow" : Str)) = true ∧ Dy.shp (Dy.str ("keep" : Str)) = true) (Dy.eqv (Dy.str ("grow" : Str)) (Dy.str ("keep" : Str))) = R.ok false := tq so_grow so_keep (by decide +kernel)
theorem q_grow_none : chk (Dy.shp (Dy.str ("grow" : Str)) = true ∧ Dy.shp (Dy.str ("none" : Str)) = true) (Dy.eqv (Dy.str ("grow" : Str)) (Dy.str ("none" : Str))) = R.ok false := tq so_grow so_none (by decide +kernel)
theorem q_grow_all : chk (Dy.shp (Dy.str ("grow" : Str)) = true ∧ Dy.shp (Dy.str ("all" : Str)) = true) (Dy.eqv (Dy.str ("grow" : Str)) (Dy.str ("all" : Str))) = R.ok false := tq so_grow so_all (by decide +kernel)
theorem q_grow_move : chk (Dy.shp (Dy.str ("grow" : Str)) = true ∧ Dy.shp (Dy.str ("move" : Str)) = true) (Dy.eqv (Dy.str ("grow" : Str)) (Dy.str ("move" : Str))) = R.ok false := tq so_grow so_move (by decide +kernel)
theorem q_grow_eat : chk (Dy.shp (Dy.str ("grow" : Str)) = true ∧ Dy.shp (Dy.str ("eat" : Str)) = true) (Dy.eqv (Dy.str ("grow" : Str)) (Dy.str ("eat" : Str))) = R.ok false := tq so_grow so_eat (by decide +kernel)
theorem q_grow_grow : chk (Dy.shp (Dy.str ("grow" : Str)) = true ∧ Dy.shp (Dy.str ("grow" : Str)) = true) (Dy.eqv (Dy.str ("grow" : Str)) (Dy.str ("grow" : Str))) = R.ok true := tq so_grow so_grow (by decide +kernel)
theorem q_grow_both : chk (Dy.shp (Dy.str ("grow" : Str)) = true ∧ Dy.shp (Dy.str ("both" : Str)) = true) (Dy.eqv (Dy.str ("grow" : Str)) (Dy.str ("both" : Str))) = R.ok false := tq so_grow so_both (by decide +kernel)
theorem q_grow_either : chk (Dy.shp (Dy.str ("grow" : Str)) = true ∧ Dy.shp (Dy.str ("either" : Str)) = true) (Dy.eqv (Dy.str ("grow" : Str)) (Dy.str ("either" : Str))) = R.ok false := tq so_grow so_either (by decide +kernel)
theorem q_both_keep : chk (Dy.shp (Dy.str ("both" : Str)) = true ∧ Dy.shp (Dy.str ("keep" : Str)) = true) (Dy.eqv (Dy.str ("both" : Str)) (Dy.str ("keep" : Str))) = R.ok false := tq so_both so_keep (by decide +kernel)
theorem q_both_none : chk (Dy.shp (Dy.str ("both" : Str)) = true ∧ Dy.shp (Dy.str ("none" : Str)) = true) (Dy.eqv (Dy.str ("both" : Str)) (Dy.str ("none" : Str))) = R.ok false := tq so_both so_none (by decide +kernel)
theorem q_both_all : chk (Dy.shp (Dy.str ("both" : Str)) = true ∧ Dy.shp (Dy.str ("all" : Str)) = true) (Dy.eqv (Dy.str ("both" : Str)) (Dy.str ("all" : Str))) = R.ok false := tq so_both so_all (by decide +kernel)
theorem q_both_move : chk (Dy.shp (Dy.str ("both" : Str)) = true ∧ Dy.shp (Dy.str ("move" : Str)) = true) (Dy.eqv (Dy.str ("both" : Str)) (Dy.str ("move" : Str))) = R.ok false := tq so_both so_move (by decide +kernel)
theorem q_both_eat : chk (Dy.shp (Dy.str ("both" : Str)) = true ∧ Dy.shp (Dy.str ("eat" : Str)) = true) (Dy.eqv (Dy.str ("both" : Str)) (Dy.str ("eat" : Str))) = R.ok false := tq so_both so_eat (by decide +kernel)
theorem q_both_grow : chk (Dy.shp (Dy.str ("both" : Str)) = true ∧ Dy.shp (Dy.str ("grow" : Str)) = true) (Dy.eqv (Dy.str ("both" : Str)) (Dy.str ("grow" : Str))) = R.ok false := tq so_both so_grow (by decide +kernel)
theorem q_both_both : chk (Dy.shp (Dy.str ("both" : Str)) = true ∧ Dy.shp (Dy.str ("both" : Str)) = true) (Dy.eqv (Dy.str ("both" : Str)) (Dy.str ("both" : Str))) = R.ok true := tq so_both so_both (by decide +kernel)
theorem q_both_either : chk (Dy.shp (Dy.str ("both" : Str)) = true ∧ Dy.shp (Dy.str ("either" : Str)) = true) (Dy.eqv (Dy.str ("both" : Str)) (Dy.str ("either" : Str))) = R.ok false := tq so_both so_either (by decide +kernel)
theorem q_either_keep : chk (Dy.shp (Dy.str ("either" : Str)) = true ∧ Dy.shp (Dy.str ("keep" : Str)) = true) (Dy.eqv (Dy.str ("either" : Str)) (Dy.str ("keep" : Str))) = R.ok false := tq so_either so_keep (by decide +kernel)
theorem q_either_none : chk (Dy.shp (Dy.str ("either" : Str)) = true ∧ Dy.shp (Dy.str ("none" : Str)) = true) (Dy.eqv (Dy.str ("either" : Str)) (Dy.str ("none" : Str))) = R.ok false := tq so_either so_none (by decide +kernel)
theorem q_either_all : chk (Dy.shp (Dy.str ("either" : Str)) = true ∧ Dy.shp (Dy.str ("all" : Str)) = true) (Dy.eqv (Dy.str ("either" : Str)) (Dy.str ("all" : Str))) = R.ok false := tq so_either so_all (by decide +kernel)
theorem q_either_move : chk (Dy.shp (Dy.str ("either" : Str)) = true ∧ Dy.shp (Dy.str ("move" : Str)) = true) (Dy.eqv (Dy.str ("either" : Str)) (Dy.str ("move" : Str))) = R.ok false := tq so_either so_move (by decide +kernel)
theorem q_either_eat : chk (Dy.shp (Dy.str ("either" : Str)) = true ∧ Dy.shp (Dy.str ("eat" : Str)) = true) (Dy.eqv (Dy.str ("either" : Str)) (Dy.str ("eat" : Str))) = R.ok false := tq so_either so_eat (by decide +kernel)
theorem q_either_grow : chk (Dy.shp (Dy.str ("either" : Str)) = true ∧ Dy.shp (Dy.str ("grow" : Str)) = true) (Dy.eqv (Dy.str ("either" : Str)) (Dy.str ("grow" : Str))) = R.ok false := tq so_either so_grow (by decide +kernel)
theorem q_either_both : chk (Dy.shp (Dy.str ("either" : Str)) = true ∧ Dy.shp (Dy.str ("both" : Str)) = true) (Dy.eqv (Dy.str ("either" : Str)) (Dy.str ("both" : Str))) = R.ok false := tq so_either so_both (by decide +kernel)
theorem q_either_either : chk (Dy.shp (Dy.str ("either" : Str)) = true ∧ Dy.shp (Dy.str ("either" : Str)) = true) (Dy.eqv (Dy.str ("either" : Str)) (Dy.str ("either" : Str))) = R.ok true := tq so_either so_either (by decide +kernel)
theorem at0 (x : Dy) (l : List Dy) : ofOpt (Dy.at (Dy.tup (x :: l)) (0 : Int)) = R.ok x := by
  have h : atI (x :: l) ((0 : Nat) : Int) = some x := atI_nat rfl
  exact congrArg ofOpt h
theorem at1 (x y : Dy) (l : List Dy) : ofOpt (Dy.at (Dy.tup (x :: y :: l)) (1 : Int)) = R.ok y := by
  have h : atI (x :: y :: l) ((1 : Nat) : Int) = some y := atI_nat rfl
  exact congrArg ofOpt h
theorem at2' (x y z : Dy) (l : List Dy) : ofOpt (Dy.at (Dy.tup (x :: y :: z :: l)) (2 : Int)) = R.ok z := by
  have h : atI (x :: y :: z :: l) ((2 : Nat) : Int) = some z := atI_nat rfl
  exact congrArg ofOpt h
theorem out_C (t : Int × Int) : ofOpt ((asTu (asc asI (as1 asI))) (Dy.tup [Dy.int t.1, Dy.int t.2])) = R.ok t := rfl
theorem all_out : ∀ q : List (Int × Int), allM (asTu (asc asI (as1 asI))) (List.map (fun x => Dy.tup [Dy.int x.1, Dy.int x.2]) q) = some q
  | [] => rfl
  | x :: q => by
    rw [List.map_cons]
    unfold allM
    rw [all_out q]
    rfl
theorem out_T (q : List (Int × Int)) : ofOpt ((asT (asTu (asc asI (as1 asI)))) (Dy.tup (List.map (fun x => Dy.tup [Dy.int x.1, Dy.int x.2]) q))) = R.ok q := by
  show ofOpt (allM _ _) = _
  rw [all_out]
  rfl
theorem pcs_mono {m k : Nat} (h : m ≤ k) : ∀ {p : Pl}, Pcs m p → Pcs k p
  | .keep, _ => trivial
  | .nothing, _ => trivial
  | .everything, _ => trivial
  | .move _ _, hp => ⟨hp.1, pcs_mono h hp.2⟩
  | .eat _ _, hp => ⟨⟨hp.1.up, hp.1.ne, Nat.le_trans hp.1.len h, hp.1.sm⟩, pcs_mono h hp.2⟩
  | .grow _ _, hp => ⟨⟨hp.1.up, hp.1.ne, Nat.le_trans hp.1.len h, hp.1.sm⟩, pcs_mono h hp.2⟩
  | .both _ _, hp => ⟨pcs_mono h hp.1, pcs_mono h hp.2⟩
  | .either _ _, hp => ⟨pcs_mono h hp.1, pcs_mono h hp.2⟩
theorem step_ok {l : List Int} (hl : Sgl l) : Gd (m_law_step l) fun r => Smt r.1 ∧ Sgl r.2 := by
  unfold m_law_step
  refine takeAt hl (by decide) (by decide) rfl fun far l1 hf h1 => ?_
  have f6 : 1 ≤ far ∧ far ≤ 1000000 := by
    simp only [List.mem_cons, List.not_mem_nil, or_false] at hf
    omega
  refine Gd.bind (P := fun w : Int × List Int => w.1.natAbs < 2 ^ 40 ∧ Sgl w.2) (takeB h1 (by dsimp only; omega) (by dsimp only; omega) fun d l' _ _ h => Gd.ok ⟨by dsimp only at *; omega, h⟩) fun w hw => ?_
  exact takeB hw.2 (by dsimp only; omega) (by dsimp only; omega) fun d l' _ _ h => Gd.ok ⟨⟨hw.1, by dsimp only at *; omega⟩, h⟩
theorem piece_ok {l : List Int} (hl : Sgl l) {m : Nat} (m1 : 1 ≤ m) (m2 : m ≤ 1000) : Gd (m_law_piece l (m : Int)) fun r => Pce m r.1 ∧ Sgl r.2 := by
  unfold m_law_piece
  refine Gd.bind (P := fun w : List Int × List Int => w.1.length ≤ m ∧ w.1 ≠ [] ∧ Sgl w.2) (takeB hl (by omega) (by omega) fun d l' d0 d1 h => ?_) fun w hw => ?_
  · refine Gd.chkB (by dsimp only; omega) (Gd.ok ⟨by show (rangeI 0 (1 + d)).length ≤ m; rw [len_rangeI]; omega, fun z => ?_, h⟩)
    have := congrArg List.length z
    have e : (rangeI 0 (1 + d)).length = (1 + d - 0).toNat := len_rangeI _ _
    have this' : (rangeI 0 (1 + d)).length = 0 := this
    omega
  · obtain ⟨w1, w2, w3⟩ := hw
    refine (Gd.forRl (I := fun q (t : List Int × List (Int × Int)) => Sgl t.1 ∧ t.2.length = q.length ∧ ∀ c ∈ t.2, Smt c) (fun q x r t e hi => ?_) ⟨w3, rfl, fun c hc => absurd hc List.not_mem_nil⟩).bind fun t ht => ?_
    · obtain ⟨i1, i2, i3⟩ := hi
      have z := congrArg List.length e
      simp only [List.length_append, List.length_cons] at z
      refine gd_calm (step_ok i1) fun v ⟨v1, v2⟩ => ?_
      refine Gd.chkB (small_lt (by omega)) (Gd.ok ⟨v2, by simp [i2], fun c hc => ?_⟩)
      rcases List.mem_append.mp hc with h | h
      · exact i3 c h
      · rw [List.mem_singleton.mp h]
        exact v1
    · obtain ⟨t1, t2, t3⟩ := ht
      refine Gd.bind (P := fun r => r = rise t.2) (Gd.bind (P := fun r => r = rise t.2) (Gd.chk (Nat.le_trans (len_rise _) (by omega)) rfl) fun r e => Gd.ok e) fun r e => ?_
      subst e
      refine Gd.ok ⟨⟨up_rise _, fun z => ?_, Nat.le_trans (len_rise _) (by omega), fun c hc => t3 c ((mem_rise c _).mp hc)⟩, t1⟩
      obtain ⟨x, hx⟩ := List.exists_mem_of_ne_nil _ (show t.2 ≠ [] from fun y => w2 (List.eq_nil_of_length_eq_zero (by rw [← t2, y]; rfl)))
      have := (mem_rise x t.2).mpr hx
      have z' : rise t.2 = [] := z
      rw [z'] at this
      cases this
theorem form_ok {m : Nat} (m1 : 1 ≤ m) (m2 : m ≤ 1000) : ∀ (n d : Nat) (l : List Int), d < n → Sgl l → Gd (m_law_form n l (d : Int) (m : Int)) fun r => (∃ p, r.1 = fD p ∧ dp p ≤ d ∧ Pcs m p) ∧ Sgl r.2
  | 0, _, _, h, _ => absurd h (Nat.not_lt_zero _)
  | n + 1, d, l, h, hl => by
    unfold m_law_form
    refine gd_calm (take_ok hl (by decide) (by decide)) fun way ⟨⟨w0, w1⟩, hw⟩ => ?_
    refine Gd.ite (fun _ => ?_) fun z => ?_
    · refine takeB hw (by decide) (by decide) fun k l' k0 k1 h' => ?_
      obtain ⟨x, ex, hx⟩ := atN (xs := [("keep" : Str), ("keep" : Str), ("keep" : Str), ("none" : Str), ("all" : Str)]) k k0 k1
      refine Gd.optB ex (Gd.ok ⟨?_, h'⟩)
      simp only [List.mem_cons, List.not_mem_nil, or_false] at hx
      rcases hx with rfl | rfl | rfl | rfl | rfl
      · exact ⟨.keep, rfl, Nat.zero_le _, trivial⟩
      · exact ⟨.keep, rfl, Nat.zero_le _, trivial⟩
      · exact ⟨.keep, rfl, Nat.zero_le _, trivial⟩
      · exact ⟨.nothing, rfl, Nat.zero_le _, trivial⟩
      · exact ⟨.everything, rfl, Nat.zero_le _, trivial⟩
    · have d1 : 1 ≤ d := by
        simp only [Bool.or_eq_true, decide_eq_true_eq] at z
        omega
      have ed : (d : Int) - 1 = ((d - 1 : Nat) : Int) := by omega
      rw [ed]
      have ih := fun l hl => form_ok m1 m2 n (d - 1) l (by omega) hl
      refine Gd.ite (fun _ => ?_) fun _ => Gd.ite (fun _ => ?_) fun _ => ?_
      · refine gd_calm (step_ok hw) fun st ⟨s1, s2⟩ => gd_calm (ih _ s2) fun f ⟨⟨p, e, h1, h2⟩, f2⟩ => Gd.ok ⟨⟨.move st.1 p, ?_, ?_, s1, h2⟩, f2⟩
        · show Dy.tup [Dy.str ("move" : Str), fC st.1, f.1] = _
          rw [e]
          rfl
        · show dp p + 1 ≤ d
          omega
      · refine gd_calm (piece_ok hw m1 m2) fun q ⟨q1, q2⟩ => ?_
        obtain ⟨x, ex, hx⟩ := atN (xs := [("eat" : Str), ("grow" : Str)]) (way.1 % 2) (Int.emod_nonneg _ (by decide)) (Int.emod_lt_of_pos _ (by decide))
        refine Gd.optB ex (gd_calm (ih _ q2) fun f ⟨⟨p, e, h1, h2⟩, f2⟩ => ?_)
        simp only [List.mem_cons, List.not_mem_nil, or_false] at hx
        rcases hx with rfl | rfl
        · refine Gd.ok ⟨⟨.eat q.1 p, ?_, ?_, q1, h2⟩, f2⟩
          · show Dy.tup [Dy.str ("eat" : Str), fT q.1, f.1] = _
            rw [e]
            rfl
          · show dp p + 1 ≤ d
            omega
        · refine Gd.ok ⟨⟨.grow q.1 p, ?_, ?_, q1, h2⟩, f2⟩
          · show Dy.tup [Dy.str ("grow" : Str), fT q.1, f.1] = _
            rw [e]
            rfl
          · show dp p + 1 ≤ d
            omega
      · refine gd_calm (ih _ hw) fun g ⟨⟨a, ea, a1, a2⟩, g2⟩ => ?_
        obtain ⟨x, ex, hx⟩ := atN (xs := [("both" : Str), ("either" : Str)]) (way.1 % 2) (Int.emod_nonneg _ (by decide)) (Int.emod_lt_of_pos _ (by decide))
        refine Gd.optB ex (gd_calm (ih _ g2) fun f ⟨⟨b, eb, b1, b2⟩, f2⟩ => ?_)
        simp only [List.mem_cons, List.not_mem_nil, or_false] at hx
        rcases hx with rfl | rfl
        · refine Gd.ok ⟨⟨.both a b, ?_, ?_, a2, b2⟩, f2⟩
          · show Dy.tup [Dy.str ("both" : Str), g.1, f.1] = _
            rw [ea, eb]
            rfl
          · show max (dp a) (dp b) + 1 ≤ d
            omega
        · refine Gd.ok ⟨⟨.either a b, ?_, ?_, a2, b2⟩, f2⟩
          · show Dy.tup [Dy.str ("either" : Str), g.1, f.1] = _
            rw [ea, eb]
            rfl
          · show max (dp a) (dp b) + 1 ≤ d
            omega
theorem plan_ok : ∀ (n : Nat) (p : Pl), dp p < n → m_law_plan n (fD p) = .ok p
  | 0, _, h => absurd h (Nat.not_lt_zero _)
  | n + 1, .keep, _ => by simp only [m_law_plan, fD, at0, ok_bindP, q_keep_keep, Bool.false_eq_true, if_false, if_true, Bool.false_or, Bool.or_false, Bool.true_or]
  | n + 1, .nothing, _ => by simp only [m_law_plan, fD, at0, ok_bindP, q_none_keep, q_none_none, Bool.false_eq_true, if_false, if_true, Bool.false_or, Bool.or_false, Bool.true_or]
  | n + 1, .everything, _ => by simp only [m_law_plan, fD, at0, ok_bindP, q_all_keep, q_all_none, q_all_all, Bool.false_eq_true, if_false, if_true, Bool.false_or, Bool.or_false, Bool.true_or]
  | n + 1, .move t p, h => by
    have ih := plan_ok n p (by unfold dp at h; omega)
    simp only [m_law_plan, fD, fC, fT, at0, at1, at2', out_C, out_T, ok_bindP, ih, q_move_keep, q_move_none, q_move_all, q_move_move, Bool.false_eq_true, if_false, if_true, Bool.false_or, Bool.or_false, Bool.true_or]
  | n + 1, .eat t p, h => by
    have ih := plan_ok n p (by unfold dp at h; omega)
    simp only [m_law_plan, fD, fC, fT, at0, at1, at2', out_C, out_T, ok_bindP, ih, q_eat_keep, q_eat_none, q_eat_all, q_eat_move, q_eat_eat, Bool.false_eq_true, if_false, if_true, Bool.false_or, Bool.or_false, Bool.true_or]
  | n + 1, .grow t p, h => by
    have ih := plan_ok n p (by unfold dp at h; omega)
    simp only [m_law_plan, fD, fC, fT, at0, at1, at2', out_C, out_T, ok_bindP, ih, q_grow_keep, q_grow_none, q_grow_all, q_grow_move, q_grow_eat, q_grow_grow, Bool.false_eq_true, if_false, if_true, Bool.false_or, Bool.or_false, Bool.true_or]
  | n + 1, .both a b, h => by
    have ia := plan_ok n a (by unfold dp at h; omega)
    have ib := plan_ok n b (by unfold dp at h; omega)
    simp only [m_law_plan, fD, at0, at1, at2', ok_bindP, ia, ib, q_both_keep, q_both_none, q_both_all, q_both_move, q_both_eat, q_both_grow, q_both_both, Bool.false_eq_true, if_false, if_true, Bool.false_or, Bool.or_false, Bool.true_or]
  | n + 1, .either a b, h => by
    have ia := plan_ok n a (by unfold dp at h; omega)
    have ib := plan_ok n b (by unfold dp at h; omega)
    simp only [m_law_plan, fD, at0, at1, at2', ok_bindP, ia, ib, q_either_keep, q_either_none, q_either_all, q_either_move, q_either_eat, q_either_grow, q_either_both, Bool.false_eq_true, if_false, if_true, Bool.false_or, Bool.or_false, Bool.true_or]
def cnt : Pl → Nat
  | .keep => 1
  | .nothing => 0
  | .everything => 0
  | .move _ p => cnt p
  | .eat q p => cnt p * q.length
  | .grow q p => cnt p * q.length
  | .both a b => cnt a + cnt b
  | .either a b => cnt a + cnt b
theorem cnt_le {m : Nat} (hm : 2 ≤ m) : ∀ p : Pl, Pcs m p → cnt p ≤ m ^ dp p
  | .keep, _ => Nat.le_refl 1
  | .nothing, _ => Nat.zero_le _
  | .everything, _ => Nat.zero_le _
  | .move t p, h => by
    have ih := cnt_le hm p h.2
    show cnt p ≤ m ^ (dp p + 1)
    rw [Nat.pow_succ]
    have := Nat.mul_le_mul_left (m ^ dp p) (show 1 ≤ m by omega)
    omega
  | .eat q p, h => by
    have ih := cnt_le hm p h.2
    show cnt p * q.length ≤ m ^ (dp p + 1)
    rw [Nat.pow_succ]
    exact Nat.mul_le_mul ih h.1.len
  | .grow q p, h => by
    have ih := cnt_le hm p h.2
    show cnt p * q.length ≤ m ^ (dp p + 1)
    rw [Nat.pow_succ]
    exact Nat.mul_le_mul ih h.1.len
  | .both a b, h => cnt_two hm (cnt_le hm a h.1) (cnt_le hm b h.2)
  | .either a b, h => cnt_two hm (cnt_le hm a h.1) (cnt_le hm b h.2)
where
  cnt_two {m x y d e : Nat} (hm : 2 ≤ m) (hx : x ≤ m ^ d) (hy : y ≤ m ^ e) : x + y ≤ m ^ (max d e + 1) := by
    have h1 : m ^ d ≤ m ^ max d e := Nat.pow_le_pow_right (by omega) (Nat.le_max_left _ _)
    have h2 : m ^ e ≤ m ^ max d e := Nat.pow_le_pow_right (by omega) (Nat.le_max_right _ _)
    rw [Nat.pow_succ]
    have := Nat.mul_le_mul_left (m ^ max d e) hm
    omega
/-! ### what a plan has, cell by cell -/
def Sem : Pl → (Int × Int → Prop) → Int × Int → Prop
  | .keep, f, c => f c
  | .nothing, _, _ => False
  | .everything, _, _ => True
  | .move t p, f, c => Sem p f (c.1 - t.1, c.2 - t.2)
  | .eat q p, f, c => ∀ t ∈ q, Sem p f (c.1 + t.1, c.2 + t.2)
  | .grow q p, f, c => ∃ t ∈ q, Sem p f (c.1 - t.1, c.2 - t.2)
  | .both a b, f, c => Sem a f c ∧ Sem b f c
  | .either a b, f, c => Sem a f c ∨ Sem b f c
def restOf : Pl → Bool → Bool
  | .keep, b => b
  | .nothing, _ => false
  | .everything, _ => true
  | .move _ p, b => restOf p b
  | .eat _ p, b => restOf p b
  | .grow _ p, b => restOf p b
  | .both x y, b => restOf x b && restOf y b
  | .either x y, b => restOf x b || restOf y b
/-- what a plan makes of a shape -/
structure Mkd (S r : Shp) (p : Pl) : Prop where
  up : Up r.1
  rest : r.2 = restOf p S.2
  has : ∀ c, hasS r c = true ↔ Sem p (Hs S) c
  len : r.1.length ≤ S.1.length * cnt p
theorem done_ok {S : Shp} (u : Up S.1) {m : Nat} (hm : m ≤ 9000) : ∀ (n : Nat) (p : Pl), dp p < n → Pcs m p → S.1.length * cnt p ≤ 2000 → S.1.length ≤ 2000 → Gd (m_D_done n p S) fun r => Mkd S r p
  | 0, _, h, _, _, _ => absurd h (Nat.not_lt_zero _)
  | n + 1, .keep, _, _, hc, hs => by
    rw [done_keep, big_ok hs]
    exact Gd.ok ⟨u, rfl, fun _ => Iff.rfl, by simp [cnt]⟩
  | n + 1, .nothing, _, _, _, _ => by
    rw [done_nothing]
    exact Gd.ok ⟨.nil, rfl, fun c => by simp [hasS, hasB, Sem], Nat.zero_le _⟩
  | n + 1, .everything, _, _, _, _ => by
    rw [done_everything]
    exact Gd.ok ⟨.nil, rfl, fun c => by simp [hasS, hasB, Sem], Nat.zero_le _⟩
  | n + 1, .move t p, h, hp, hc, hs => by
    obtain ⟨r, er, r1, r2, r3, r4⟩ := done_ok u hm n p (by unfold dp at h; omega) hp.2 hc hs
    have hc' : S.1.length * cnt p ≤ 2000 := hc
    rw [done_move, er]
    show Gd ((m_moved r t).bind big) _
    rw [moved_ok r t (by omega)]
    show Gd (big (mvS r t)) _
    rw [big_ok (by rw [len_mvS]; omega)]
    refine Gd.ok ⟨List.pairwise_map.mpr (List.Pairwise.imp (fun {a b} (z : ltC a b = true) => ?_) r1), r2, fun c => ?_, by rw [len_mvS]; exact r4⟩
    · have z' := of_decide_eq_true z
      exact decide_eq_true (by dsimp only; omega)
    · show _ ↔ Sem p (Hs S) (c.1 - t.1, c.2 - t.2)
      rw [← r3]
      have e : hasS (mvS r t) c = hasS r (c.1 - t.1, c.2 - t.2) := by
        unfold hasS mvS
        congr 1
        rw [Bool.eq_iff_iff, hasB_iff, hasB_iff, List.mem_map]
        constructor
        · rintro ⟨x, hx, e⟩
          rw [← e]
          have : (x.1 + t.1 - t.1, x.2 + t.2 - t.2) = x := by ext <;> simp
          dsimp only
          rw [this]
          exact hx
        · intro hx
          exact ⟨_, hx, by ext <;> simp⟩
      rw [e]
  | n + 1, .eat q p, h, hp, hc, hs => by
    have h1 : 1 ≤ q.length := List.length_pos_iff.mpr hp.1.ne
    have hc' : S.1.length * (cnt p * q.length) ≤ 2000 := hc
    rw [← Nat.mul_assoc] at hc'
    have hcp : S.1.length * cnt p ≤ 2000 := by
      have := Nat.mul_le_mul_left (S.1.length * cnt p) h1
      omega
    obtain ⟨r, er, r1, r2, r3, r4⟩ := done_ok u hm n p (by unfold dp at h; omega) hp.2 hcp hs
    have hl := Nat.mul_le_mul_right q.length r4
    have lq := hp.1.len
    rw [done_eat, er]
    show Gd ((m_eaten r q).bind big) _
    refine (eaten_has r q r1 (fun _ => by omega) (by omega) (by omega) hp.1.ne).bind fun z hz => ?_
    obtain ⟨⟨g1, g2, g3, g4⟩, h2, h3⟩ := hz
    have lz : z.1.length ≤ S.1.length * cnt p * q.length := by
      cases hb : r.2 with
      | true => exact Nat.le_trans (h3 hb) hl
      | false =>
        have := Nat.mul_le_mul_left (S.1.length * cnt p) h1
        have := h2 hb
        omega
    rw [big_ok (by omega)]
    refine Gd.ok ⟨g1, g2.trans r2, fun c => (g3 c).trans (HE.cong r3 q c), by show _ ≤ S.1.length * (cnt p * q.length); rw [← Nat.mul_assoc]; exact lz⟩
  | n + 1, .grow q p, h, hp, hc, hs => by
    have h1 : 1 ≤ q.length := List.length_pos_iff.mpr hp.1.ne
    have hc' : S.1.length * (cnt p * q.length) ≤ 2000 := hc
    rw [← Nat.mul_assoc] at hc'
    have hcp : S.1.length * cnt p ≤ 2000 := by
      have := Nat.mul_le_mul_left (S.1.length * cnt p) h1
      omega
    obtain ⟨r, er, r1, r2, r3, r4⟩ := done_ok u hm n p (by unfold dp at h; omega) hp.2 hcp hs
    have hl := Nat.mul_le_mul_right q.length r4
    have lq := hp.1.len
    rw [done_grow, er]
    show Gd ((m_grown r q).bind big) _
    refine (grown_has r q r1 (fun _ => by omega) (by omega) (by omega) hp.1.ne).bind fun z hz => ?_
    obtain ⟨⟨g1, g2, g3, g4⟩, h2, h3⟩ := hz
    have lz : z.1.length ≤ S.1.length * cnt p * q.length := by
      cases hb : r.2 with
      | false => exact Nat.le_trans (h3 hb) hl
      | true =>
        have := Nat.mul_le_mul_left (S.1.length * cnt p) h1
        have := h2 hb
        omega
    rw [big_ok (by omega)]
    refine Gd.ok ⟨g1, g2.trans r2, fun c => (g3 c).trans (HG.cong r3 q c), by show _ ≤ S.1.length * (cnt p * q.length); rw [← Nat.mul_assoc]; exact lz⟩
  | n + 1, .both a b, h, hp, hc, hs => by
    have hc' : S.1.length * (cnt a + cnt b) ≤ 2000 := hc
    rw [Nat.mul_add] at hc'
    obtain ⟨x, ex, x1, x2, x3, x4⟩ := done_ok u hm n a (by unfold dp at h; omega) hp.1 (by omega) hs
    obtain ⟨y, ey, y1, y2, y3, y4⟩ := done_ok u hm n b (by unfold dp at h; omega) hp.2 (by omega) hs
    rw [done_both, ex, ey]
    show Gd ((m_both x y).bind big) _
    refine (both_sharp x y x1 y1 (by omega) (by omega)).bind fun z hz => ?_
    obtain ⟨z1, z2, z3, z4⟩ := hz
    rw [big_ok (by omega)]
    refine Gd.ok ⟨z1, by rw [z2, x2, y2]; rfl, fun c => ?_, by show _ ≤ S.1.length * (cnt a + cnt b); rw [Nat.mul_add]; omega⟩
    rw [z3, Bool.and_eq_true, x3, y3]
    exact Iff.rfl
  | n + 1, .either a b, h, hp, hc, hs => by
    have hc' : S.1.length * (cnt a + cnt b) ≤ 2000 := hc
    rw [Nat.mul_add] at hc'
    obtain ⟨x, ex, x1, x2, x3, x4⟩ := done_ok u hm n a (by unfold dp at h; omega) hp.1 (by omega) hs
    obtain ⟨y, ey, y1, y2, y3, y4⟩ := done_ok u hm n b (by unfold dp at h; omega) hp.2 (by omega) hs
    rw [done_either, ex, ey]
    show Gd ((((m_both (x.1, !x.2) (y.1, !y.2)).bind fun z => m_outside z)).bind big) _
    refine Gd.bind (P := fun z : Shp => Up z.1 ∧ z.2 = (x.2 || y.2) ∧ (∀ c, hasS z c = (hasS x c || hasS y c)) ∧ z.1.length ≤ x.1.length + y.1.length) ((both_sharp (x.1, !x.2) (y.1, !y.2) x1 y1 (by show x.1.length ≤ _; omega) (by show y.1.length ≤ _; omega)).bind fun z hz => ?_) fun z hz => ?_
    · obtain ⟨z1, z2, z3, z4⟩ := hz
      refine Gd.of (outside_ok z) ⟨z1, by show (!z.2) = _; rw [z2]; simp, fun c => ?_, z4⟩
      rw [hasS_neg, z3, hasS_neg, hasS_neg]
      cases hasS x c <;> cases hasS y c <;> rfl
    obtain ⟨z1, z2, z3, z4⟩ := hz
    rw [big_ok (by omega)]
    refine Gd.ok ⟨z1, by rw [z2, x2, y2]; rfl, fun c => ?_, by show _ ≤ S.1.length * (cnt a + cnt b); rw [Nat.mul_add]; omega⟩
    rw [z3, Bool.or_eq_true, x3, y3]
    exact Iff.rfl
/-! ### made, or too great -/
def Gr {α : Type} (m : R α) (P : α → Prop) : Prop := (∃ r, m = .ok r ∧ P r) ∨ m = .er ⟨"TooMany", none⟩
theorem Gr.of {α : Type} {m : R α} {P : α → Prop} (h : Gd m P) : Gr m P := .inl h
theorem Gr.bind {α β : Type} {m : R α} {f : α → R β} {P : α → Prop} {Q : β → Prop} (h : Gr m P) (k : ∀ r, P r → Gr (f r) Q) : Gr (m.bind f) Q := by
  rcases h with ⟨r, e, p⟩ | e
  · rw [e]
    exact k r p
  · rw [e]
    exact .inr rfl
theorem Gr.big {r : Shp} {Q : Shp → Prop} (h : r.1.length ≤ 2000 → Q r) : Gr (G.big r) Q := by
  by_cases c : 2000 < r.1.length
  · exact .inr (big_er c)
  · exact .inl ⟨r, big_ok (by omega), h (by omega)⟩
structure Mkb (S r : Shp) (p : Pl) : Prop where
  md : Mkd S r p
  few : r.1.length ≤ 2000
theorem done_or {S : Shp} (u : Up S.1) {m : Nat} (hm : m ≤ 9000) : ∀ (n : Nat) (p : Pl), dp p < n → Pcs m p → S.1.length * cnt p ≤ 9000 → S.1.length ≤ 9000 → Gr (m_D_done n p S) fun r => Mkb S r p
  | 0, _, h, _, _, _ => absurd h (Nat.not_lt_zero _)
  | n + 1, .keep, _, _, hc, hs => by
    rw [done_keep]
    exact Gr.big fun h => ⟨⟨u, rfl, fun _ => Iff.rfl, by simp [cnt]⟩, h⟩
  | n + 1, .nothing, _, _, _, _ => by
    rw [done_nothing]
    exact .inl ⟨_, rfl, ⟨.nil, rfl, fun c => by simp [hasS, hasB, Sem], Nat.zero_le _⟩, Nat.zero_le _⟩
  | n + 1, .everything, _, _, _, _ => by
    rw [done_everything]
    exact .inl ⟨_, rfl, ⟨.nil, rfl, fun c => by simp [hasS, hasB, Sem], Nat.zero_le _⟩, Nat.zero_le _⟩
  | n + 1, .move t p, h, hp, hc, hs => by
    have hc' : S.1.length * cnt p ≤ 9000 := hc
    rw [done_move]
    refine Gr.bind ((done_or u hm n p (by unfold dp at h; omega) hp.2 hc hs).bind (Q := fun z => Mkd S z (.move t p)) fun r hr => ?_) fun z hz => Gr.big fun hl => ⟨hz, hl⟩
    obtain ⟨⟨r1, r2, r3, r4⟩, r5⟩ := hr
    refine .inl ⟨mvS r t, moved_ok r t (by omega), List.pairwise_map.mpr (List.Pairwise.imp (fun {a b} (z : ltC a b = true) => ?_) r1), r2, fun c => ?_, by rw [len_mvS]; exact r4⟩
    · have z' := of_decide_eq_true z
      exact decide_eq_true (by dsimp only; omega)
    · show _ ↔ Sem p (Hs S) (c.1 - t.1, c.2 - t.2)
      rw [← r3]
      have e : hasS (mvS r t) c = hasS r (c.1 - t.1, c.2 - t.2) := by
        unfold hasS mvS
        congr 1
        rw [Bool.eq_iff_iff, hasB_iff, hasB_iff, List.mem_map]
        constructor
        · rintro ⟨x, hx, e⟩
          rw [← e]
          have : (x.1 + t.1 - t.1, x.2 + t.2 - t.2) = x := by ext <;> simp
          dsimp only
          rw [this]
          exact hx
        · intro hx
          exact ⟨_, hx, by ext <;> simp⟩
      rw [e]
  | n + 1, .eat q p, h, hp, hc, hs => by
    have h1 : 1 ≤ q.length := List.length_pos_iff.mpr hp.1.ne
    have hc' : S.1.length * (cnt p * q.length) ≤ 9000 := hc
    rw [← Nat.mul_assoc] at hc'
    have hcp : S.1.length * cnt p ≤ 9000 := by
      have := Nat.mul_le_mul_left (S.1.length * cnt p) h1
      omega
    have lq := hp.1.len
    rw [done_eat]
    refine Gr.bind ((done_or u hm n p (by unfold dp at h; omega) hp.2 hcp hs).bind (Q := fun z => Mkd S z (.eat q p)) fun r hr => ?_) fun z hz => Gr.big fun hl => ⟨hz, hl⟩
    obtain ⟨⟨r1, r2, r3, r4⟩, r5⟩ := hr
    have hl := Nat.mul_le_mul_right q.length r4
    refine .of ((eaten_has r q r1 (fun _ => by omega) (by omega) (by omega) hp.1.ne).mono fun z hz => ?_)
    obtain ⟨⟨g1, g2, g3, g4⟩, h2, h3⟩ := hz
    have lz : z.1.length ≤ S.1.length * cnt p * q.length := by
      cases hb : r.2 with
      | true => exact Nat.le_trans (h3 hb) hl
      | false =>
        have := Nat.mul_le_mul_left (S.1.length * cnt p) h1
        have := h2 hb
        omega
    exact ⟨g1, g2.trans r2, fun c => (g3 c).trans (HE.cong r3 q c), by show _ ≤ S.1.length * (cnt p * q.length); rw [← Nat.mul_assoc]; exact lz⟩
  | n + 1, .grow q p, h, hp, hc, hs => by
    have h1 : 1 ≤ q.length := List.length_pos_iff.mpr hp.1.ne
    have hc' : S.1.length * (cnt p * q.length) ≤ 9000 := hc
    rw [← Nat.mul_assoc] at hc'
    have hcp : S.1.length * cnt p ≤ 9000 := by
      have := Nat.mul_le_mul_left (S.1.length * cnt p) h1
      omega
    have lq := hp.1.len
    rw [done_grow]
    refine Gr.bind ((done_or u hm n p (by unfold dp at h; omega) hp.2 hcp hs).bind (Q := fun z => Mkd S z (.grow q p)) fun r hr => ?_) fun z hz => Gr.big fun hl => ⟨hz, hl⟩
    obtain ⟨⟨r1, r2, r3, r4⟩, r5⟩ := hr
    have hl := Nat.mul_le_mul_right q.length r4
    refine .of ((grown_has r q r1 (fun _ => by omega) (by omega) (by omega) hp.1.ne).mono fun z hz => ?_)
    obtain ⟨⟨g1, g2, g3, g4⟩, h2, h3⟩ := hz
    have lz : z.1.length ≤ S.1.length * cnt p * q.length := by
      cases hb : r.2 with
      | false => exact Nat.le_trans (h3 hb) hl
      | true =>
        have := Nat.mul_le_mul_left (S.1.length * cnt p) h1
        have := h2 hb
        omega
    exact ⟨g1, g2.trans r2, fun c => (g3 c).trans (HG.cong r3 q c), by show _ ≤ S.1.length * (cnt p * q.length); rw [← Nat.mul_assoc]; exact lz⟩
  | n + 1, .both a b, h, hp, hc, hs => by
    have hc' : S.1.length * (cnt a + cnt b) ≤ 9000 := hc
    rw [Nat.mul_add] at hc'
    rw [done_both]
    refine Gr.bind ((done_or u hm n a (by unfold dp at h; omega) hp.1 (by omega) hs).bind (Q := fun z => Mkd S z (.both a b)) fun x hx => (done_or u hm n b (by unfold dp at h; omega) hp.2 (by omega) hs).bind fun y hy => ?_) fun z hz => Gr.big fun hl => ⟨hz, hl⟩
    obtain ⟨⟨x1, x2, x3, x4⟩, x5⟩ := hx
    obtain ⟨⟨y1, y2, y3, y4⟩, y5⟩ := hy
    refine .of ((both_sharp x y x1 y1 x5 y5).mono fun z hz => ?_)
    obtain ⟨z1, z2, z3, z4⟩ := hz
    refine ⟨z1, by rw [z2, x2, y2]; rfl, fun c => ?_, by show _ ≤ S.1.length * (cnt a + cnt b); rw [Nat.mul_add]; omega⟩
    rw [z3, Bool.and_eq_true, x3, y3]
    exact Iff.rfl
  | n + 1, .either a b, h, hp, hc, hs => by
    have hc' : S.1.length * (cnt a + cnt b) ≤ 9000 := hc
    rw [Nat.mul_add] at hc'
    rw [done_either]
    refine Gr.bind ((done_or u hm n a (by unfold dp at h; omega) hp.1 (by omega) hs).bind (Q := fun z => Mkd S z (.either a b)) fun x hx => (done_or u hm n b (by unfold dp at h; omega) hp.2 (by omega) hs).bind fun y hy => ?_) fun z hz => Gr.big fun hl => ⟨hz, hl⟩
    obtain ⟨⟨x1, x2, x3, x4⟩, x5⟩ := hx
    obtain ⟨⟨y1, y2, y3, y4⟩, y5⟩ := hy
    show Gr ((m_both (x.1, !x.2) (y.1, !y.2)).bind fun z => m_outside z) _
    refine .of ((both_sharp (x.1, !x.2) (y.1, !y.2) x1 y1 x5 y5).bind fun z hz => ?_)
    obtain ⟨z1, z2, z3, z4⟩ := hz
    refine Gd.of (outside_ok z) ⟨z1, by show (!z.2) = _; rw [z2]; show (!((!x.2) && (!y.2))) = _; rw [x2, y2]; show _ = (restOf a S.2 || restOf b S.2); simp, fun c => ?_, by show z.1.length ≤ S.1.length * (cnt a + cnt b); rw [Nat.mul_add]; exact Nat.le_trans z4 (by show x.1.length + y.1.length ≤ _; omega)⟩
    rw [hasS_neg, z3, hasS_neg, hasS_neg]
    show _ ↔ Sem a (Hs S) c ∨ Sem b (Hs S) c
    rw [← x3, ← y3]
    cases hasS x c <;> cases hasS y c <;> simp
/-- a small shape -/
structure Sh1 (s : Shp) : Prop where
  up : Up s.1
  len : s.1.length ≤ 20
theorem shape_ok {l : List Int} (hl : Sgl l) : Gd (m_law_shape l) fun r => Sh1 r.1 ∧ Sgl r.2 := by
  unfold m_law_shape
  refine takeAt hl (by decide) (by decide) rfl fun many l1 hm h1 => ?_
  have m20 : 0 ≤ many ∧ many ≤ 20 := by
    simp only [List.mem_cons, List.not_mem_nil, or_false] at hm
    omega
  refine takeAt h1 (by decide) (by decide) rfl fun wide l2 hw h2 => ?_
  have w5 : 1 ≤ wide ∧ wide ≤ 5 := by
    simp only [List.mem_cons, List.not_mem_nil, or_false] at hw
    omega
  refine takeAt h2 (by decide) (by decide) rfl fun row l3 _ h3 => ?_
  refine takeAt h3 (by decide) (by decide) rfl fun col l4 _ h4 => ?_
  dsimp only
  refine Gd.chkB (by omega) ?_
  refine (Gd.forRl (I := fun q (t : List Int × List (Int × Int)) => Sgl t.1 ∧ t.2.length = q.length) (fun q x r t e hi => ?_) ⟨h4, rfl⟩).bind fun t ht => ?_
  · obtain ⟨i1, i2⟩ := hi
    have z := congrArg List.length e
    rw [len_rangeI] at z
    simp only [List.length_append, List.length_cons] at z
    refine Gd.bind (P := fun w => Sgl w.2) (takeB i1 (by omega) (by omega) fun d l' _ _ h => Gd.ok h) fun w hw => ?_
    refine Gd.bind (P := fun w => Sgl w.2) (takeB hw (by omega) (by omega) fun d l' _ _ h => Gd.ok h) fun w hw => ?_
    exact Gd.chkB (small_lt (by omega)) (Gd.ok ⟨hw, by simp [i2]⟩)
  · obtain ⟨t1, t2⟩ := ht
    rw [len_rangeI] at t2
    have lr : (rise t.2).length ≤ 20 := Nat.le_trans (len_rise _) (by omega)
    refine Gd.bind (P := fun r => r = rise t.2) (Gd.bind (P := fun r => r = rise t.2) (Gd.chk (by omega) rfl) fun r e => Gd.ok e) fun r e => ?_
    subst e
    exact takeB t1 (by decide) (by decide) fun d l' _ _ h => Gd.ok ⟨⟨up_rise _, lr⟩, h⟩
/-! ### words -/
theorem so_of (s : String) : PyData.strOk ((s : String) : Str) = true := by
  show PyData.strOk (Str.ofString s) = true
  rw [Str.ofString_eq_toList]
  unfold PyData.strOk
  simp only [List.all_toArray, List.all_map, List.all_eq_true]
  intro c _
  have h := c.valid
  have h2 : c.toNat < 0x110000 := by
    rcases h with h | h
    · exact Nat.lt_trans h (by decide)
    · exact h.2
  exact decide_eq_true h2
abbrev tS (i : Int) : Str := ((toString i : String) : Str)
abbrev tW (t : Int × Int) : List Str := [tS t.1, tS t.2]
def W : Pl → List Str
  | .keep => [("keep" : Str)]
  | .nothing => [("none" : Str)]
  | .everything => [("all" : Str)]
  | .move t p => [("move" : Str)] ++ tW t ++ W p
  | .eat q p => [("eat" : Str), tS (q.length : Int)] ++ q.flatMap tW ++ W p
  | .grow q p => [("grow" : Str), tS (q.length : Int)] ++ q.flatMap tW ++ W p
  | .both a b => [("both" : Str)] ++ W a ++ W b
  | .either a b => [("either" : Str)] ++ W a ++ W b
theorem tW_len (q : List (Int × Int)) : (q.flatMap tW).length = 2 * q.length := by
  induction q with
  | nil => rfl
  | cons x q ih =>
    rw [List.flatMap_cons, List.length_append, ih]
    show 2 + 2 * q.length = 2 * (q.length + 1)
    omega
theorem W_len : ∀ p : Pl, Pcs 12 p → (W p).length + 1 ≤ 27 * 2 ^ dp p
  | .keep, _ => by decide
  | .nothing, _ => by decide
  | .everything, _ => by decide
  | .move t p, h => by
    have ih := W_len p h.2
    show (([("move" : Str)] ++ tW t) ++ W p).length + 1 ≤ 27 * 2 ^ (dp p + 1)
    rw [List.length_append, Nat.pow_succ]
    show 3 + _ + 1 ≤ _
    omega
  | .eat q p, h => by
    have ih := W_len p h.2
    have lq := h.1.len
    show (([("eat" : Str), tS (q.length : Int)] ++ q.flatMap tW) ++ W p).length + 1 ≤ 27 * 2 ^ (dp p + 1)
    rw [List.length_append, List.length_append, tW_len, Nat.pow_succ]
    show 2 + _ + _ + 1 ≤ _
    have := Nat.one_le_two_pow (n := dp p)
    omega
  | .grow q p, h => by
    have ih := W_len p h.2
    have lq := h.1.len
    show (([("grow" : Str), tS (q.length : Int)] ++ q.flatMap tW) ++ W p).length + 1 ≤ 27 * 2 ^ (dp p + 1)
    rw [List.length_append, List.length_append, tW_len, Nat.pow_succ]
    show 2 + _ + _ + 1 ≤ _
    have := Nat.one_le_two_pow (n := dp p)
    omega
  | .both a b, h => W_two (W_len a h.1) (W_len b h.2)
  | .either a b, h => W_two (W_len a h.1) (W_len b h.2)
where
  W_two {x y : List Str} {w : Str} {d e : Nat} (hx : x.length + 1 ≤ 27 * 2 ^ d) (hy : y.length + 1 ≤ 27 * 2 ^ e) : ([w] ++ x ++ y).length + 1 ≤ 27 * 2 ^ (max d e + 1) := by
    have h1 : 2 ^ d ≤ 2 ^ max d e := Nat.pow_le_pow_right (by decide) (Nat.le_max_left _ _)
    have h2 : 2 ^ e ≤ 2 ^ max d e := Nat.pow_le_pow_right (by decide) (Nat.le_max_right _ _)
    rw [List.length_append, List.length_append, Nat.pow_succ]
    show 1 + _ + _ + 1 ≤ _
    omega
theorem W_ok : ∀ (p : Pl) (w : Str), w ∈ W p → PyData.strOk w = true
  | .keep, w, h => by rw [List.mem_singleton.mp h]; exact so_keep
  | .nothing, w, h => by rw [List.mem_singleton.mp h]; exact so_none
  | .everything, w, h => by rw [List.mem_singleton.mp h]; exact so_all
  | .move t p, w, h => by
    rcases List.mem_append.mp h with h | h
    · have h' : w ∈ [("move" : Str), tS t.1, tS t.2] := h
      simp only [List.mem_cons, List.not_mem_nil, or_false] at h'
      rcases h' with rfl | rfl | rfl
      · exact so_move
      · exact so_of _
      · exact so_of _
    · exact W_ok p w h
  | .eat q p, w, h => W_q so_eat (W_ok p) h
  | .grow q p, w, h => W_q so_grow (W_ok p) h
  | .both a b, w, h => W_b so_both (W_ok a) (W_ok b) h
  | .either a b, w, h => W_b so_either (W_ok a) (W_ok b) h
where
  W_q {v w : Str} {n : Int} {q : List (Int × Int)} {x : List Str} (hv : PyData.strOk v = true) (hx : ∀ w ∈ x, PyData.strOk w = true) (h : w ∈ [v, tS n] ++ q.flatMap tW ++ x) : PyData.strOk w = true := by
    rcases List.mem_append.mp h with h | h
    · rcases List.mem_append.mp h with h | h
      · simp only [List.mem_cons, List.not_mem_nil, or_false] at h
        rcases h with rfl | rfl
        · exact hv
        · exact so_of _
      · obtain ⟨t, _, ht⟩ := List.mem_flatMap.mp h
        simp only [List.mem_cons, List.not_mem_nil, or_false] at ht
        rcases ht with rfl | rfl
        · exact so_of _
        · exact so_of _
    · exact hx w h
  W_b {v w : Str} {x y : List Str} (hv : PyData.strOk v = true) (hx : ∀ w ∈ x, PyData.strOk w = true) (hy : ∀ w ∈ y, PyData.strOk w = true) (h : w ∈ [v] ++ x ++ y) : PyData.strOk w = true := by
    rcases List.mem_append.mp h with h | h
    · rcases List.mem_append.mp h with h | h
      · rw [List.mem_singleton.mp h]
        exact hv
      · exact hx w h
    · exact hy w h
theorem small_log {i : Int} (h : i.natAbs < 2 ^ 40) : i.natAbs.log2 < 1920 := Nat.lt_trans (log2_lt h (by decide)) (by decide)
/-- the loop over steps -/
theorem words_loop {q : List (Int × Int)} {s0 : List Str} (hs : s0.length + 2 * q.length ≤ 90000) (hq : ∀ t ∈ q, Smt t) :
    forR (τ := List Str) (fun s x => ((chk ((x.1).natAbs.log2 < 1920) ((toString (x.1 : Int) : String) : Str)).bind fun a => ((chk ((x.2).natAbs.log2 < 1920) ((toString (x.2 : Int) : String) : Str)).bind fun b => R.ok (b :: [])).bind fun c => R.ok (a :: c)).bind fun y => (chk (s.length + y.length ≤ sizeLine) ()).bind fun _ => R.ok (s ++ y)) q s0 = .ok (s0 ++ q.flatMap tW) := by
  refine Gd.eq ?_
  refine Gd.mono (Gd.forRl (I := fun p (s : List Str) => s = s0 ++ p.flatMap tW) (fun p x r s e hi => ?_) (by simp)) fun s h => h
  subst hi
  have z := congrArg List.length e
  simp only [List.length_append, List.length_cons] at z
  obtain ⟨h1, h2⟩ := hq x (by rw [e]; simp)
  refine Gd.bind (P := fun y => y = tW x) (Gd.chkB (small_log h1) (Gd.bind (P := fun y => y = [tS x.2]) (Gd.chkB (small_log h2) (Gd.ok rfl)) fun y e => Gd.ok (by rw [e]))) fun y e => ?_
  subst e
  refine Gd.chkB (small_size (by rw [List.length_append, tW_len]; show _ + 2 ≤ _; omega)) (Gd.ok ?_)
  rw [List.flatMap_append, List.append_assoc]
  simp
theorem step_words_ok {q : List (Int × Int)} (hs : 2 * q.length ≤ 90000) (hq : ∀ t ∈ q, Smt t) : m_step_words q = .ok (q.flatMap tW) := by
  unfold m_step_words
  dsimp only
  rw [words_loop (by simpa using hs) hq]
  rfl
theorem step_words2_ok {q : List (Int × Int)} (hs : 2 * q.length ≤ 90000) (hq : ∀ t ∈ q, Smt t) : m_step_words_2 q = .ok (q.flatMap tW) := by
  unfold m_step_words_2
  dsimp only
  rw [words_loop (by simpa using hs) hq]
  rfl
theorem pow_dp {d : Nat} (h : d ≤ 10) : 27 * 2 ^ d ≤ 30000 := by
  have := Nat.pow_le_pow_right (n := 2) (by decide) h
  omega
theorem words_ok : ∀ (n : Nat) (p : Pl), dp p < n → dp p ≤ 10 → Pcs 12 p → m_D_words n p = .ok (W p)
  | 0, _, h, _, _ => absurd h (Nat.not_lt_zero _)
  | n + 1, .keep, _, _, _ => rfl
  | n + 1, .nothing, _, _, _ => rfl
  | n + 1, .everything, _, _, _ => rfl
  | n + 1, .move t p, h, hd, hp => by
    have ih := words_ok n p (by unfold dp at h; omega) (by unfold dp at hd; omega) hp.2
    have l := W_len p hp.2
    have := pow_dp (d := dp p) (by unfold dp at hd; omega)
    show m_Move_words (m_D_words n) (.move t p) = _
    unfold m_Move_words
    refine Gd.eq ?_
    refine Gd.bind (P := fun x => x = [("move" : Str)] ++ tW t) (Gd.bind (P := fun x => x = tW t) (Gd.of (step_words_ok (q := [t]) (by simp) (fun x hx => by rw [List.mem_singleton.mp hx]; exact hp.1)) (by simp)) fun x e => by subst e; exact Gd.chk (small_size (by simp)) rfl) fun x e => ?_
    subst e
    refine Gd.eqB (a := W p) ih (Gd.chk (small_size ?_) rfl)
    show 3 + (W p).length ≤ _
    omega
  | n + 1, .eat q p, h, hd, hp => by
    have ih := words_ok n p (by unfold dp at h; omega) (by unfold dp at hd; omega) hp.2
    have l := W_len p hp.2
    have lq := hp.1.len
    have := pow_dp (d := dp p) (by unfold dp at hd; omega)
    show m_Eat_words (m_D_words n) (.eat q p) = _
    unfold m_Eat_words
    refine Gd.eq ?_
    refine Gd.bind (P := fun x => x = [("eat" : Str), tS (q.length : Int)] ++ q.flatMap tW) (Gd.bind (P := fun x => x = [("eat" : Str), tS (q.length : Int)]) (Gd.bind (P := fun x => x = [tS (q.length : Int)]) (Gd.bind (P := fun x => x = tS (q.length : Int)) (Gd.chk (small_log (by show (q.length : Int).natAbs < _; omega)) rfl) fun x e => Gd.ok (by rw [e])) fun x e => Gd.ok (by rw [e])) fun x e => ?_) fun x e => ?_
    · subst e
      refine Gd.bind (P := fun x => x = q.flatMap tW) (Gd.of (step_words2_ok (by omega) hp.1.sm) rfl) fun x e => ?_
      subst e
      exact Gd.chk (small_size (by rw [tW_len]; show 2 + _ ≤ _; omega)) rfl
    subst e
    refine Gd.eqB (a := W p) ih (Gd.chk (small_size ?_) rfl)
    rw [List.length_append, tW_len]
    show 2 + _ + _ ≤ _
    omega
  | n + 1, .grow q p, h, hd, hp => by
    have ih := words_ok n p (by unfold dp at h; omega) (by unfold dp at hd; omega) hp.2
    have l := W_len p hp.2
    have lq := hp.1.len
    have := pow_dp (d := dp p) (by unfold dp at hd; omega)
    show m_Grow_words (m_D_words n) (.grow q p) = _
    unfold m_Grow_words
    refine Gd.eq ?_
    refine Gd.bind (P := fun x => x = [("grow" : Str), tS (q.length : Int)] ++ q.flatMap tW) (Gd.bind (P := fun x => x = [("grow" : Str), tS (q.length : Int)]) (Gd.bind (P := fun x => x = [tS (q.length : Int)]) (Gd.bind (P := fun x => x = tS (q.length : Int)) (Gd.chk (small_log (by show (q.length : Int).natAbs < _; omega)) rfl) fun x e => Gd.ok (by rw [e])) fun x e => Gd.ok (by rw [e])) fun x e => ?_) fun x e => ?_
    · subst e
      refine Gd.bind (P := fun x => x = q.flatMap tW) (Gd.of (step_words2_ok (by omega) hp.1.sm) rfl) fun x e => ?_
      subst e
      exact Gd.chk (small_size (by rw [tW_len]; show 2 + _ ≤ _; omega)) rfl
    subst e
    refine Gd.eqB (a := W p) ih (Gd.chk (small_size ?_) rfl)
    rw [List.length_append, tW_len]
    show 2 + _ + _ ≤ _
    omega
  | n + 1, .both a b, h, hd, hp => by
    have ia := words_ok n a (by unfold dp at h; omega) (by unfold dp at hd; omega) hp.1
    have ib := words_ok n b (by unfold dp at h; omega) (by unfold dp at hd; omega) hp.2
    have la := W_len a hp.1
    have lb := W_len b hp.2
    have := pow_dp (d := dp a) (by unfold dp at hd; omega)
    have := pow_dp (d := dp b) (by unfold dp at hd; omega)
    show m_Both_words (m_D_words n) (.both a b) = _
    unfold m_Both_words
    refine Gd.eq ?_
    refine Gd.bind (P := fun x => x = [("both" : Str)] ++ W a) (Gd.eqB (a := W a) ia (Gd.chk (small_size (by show 1 + _ ≤ _; omega)) rfl)) fun x e => ?_
    subst e
    refine Gd.eqB (a := W b) ib (Gd.chk (small_size ?_) rfl)
    rw [List.length_append]
    show 1 + _ + _ ≤ _
    omega
  | n + 1, .either a b, h, hd, hp => by
    have ia := words_ok n a (by unfold dp at h; omega) (by unfold dp at hd; omega) hp.1
    have ib := words_ok n b (by unfold dp at h; omega) (by unfold dp at hd; omega) hp.2
    have la := W_len a hp.1
    have lb := W_len b hp.2
    have := pow_dp (d := dp a) (by unfold dp at hd; omega)
    have := pow_dp (d := dp b) (by unfold dp at hd; omega)
    show m_Either_words (m_D_words n) (.either a b) = _
    unfold m_Either_words
    refine Gd.eq ?_
    refine Gd.bind (P := fun x => x = [("either" : Str)] ++ W a) (Gd.eqB (a := W a) ia (Gd.chk (small_size (by show 1 + _ ≤ _; omega)) rfl)) fun x e => ?_
    subst e
    refine Gd.eqB (a := W b) ib (Gd.chk (small_size ?_) rfl)
    rw [List.length_append]
    show 1 + _ + _ ≤ _
    omega
/-- the law's own words -/
theorem as_S (s : Str) : ofOpt (asS (Dy.str s)) = R.ok s := rfl
theorem len1 (x : Dy) : ofOpt (Dy.len (Dy.tup [x])) = R.ok (1 : Int) := rfl
theorem len3 (x y z : Dy) : ofOpt (Dy.len (Dy.tup [x, y, z])) = R.ok (3 : Int) := rfl
theorem lenT (q : List (Int × Int)) : ofOpt (Dy.len (Dy.tup (List.map (fun x => Dy.tup [Dy.int x.1, Dy.int x.2]) q))) = R.ok (q.length : Int) := by
  show R.ok (((List.map (fun x : Int × Int => Dy.tup [Dy.int x.1, Dy.int x.2]) q).length : Nat) : Int) = _
  rw [List.length_map]
theorem out_nil : ofOpt ((asT (asTu (asc asI (as1 asI)))) (Dy.tup (List.map Dy.int []))) = R.ok ([] : List (Int × Int)) := rfl
theorem out_one (t : Int × Int) : ofOpt ((asT (asTu (asc asI (as1 asI)))) (Dy.tup [Dy.tup [Dy.int t.1, Dy.int t.2]])) = R.ok [t] := rfl
theorem d11 : decide ((1 : Int) = 1) = true := rfl
theorem d31 : decide ((3 : Int) = 1) = false := rfl
theorem parts0 (x : Dy) : m_law_parts (Dy.tup [x]) = .ok [] := by simp only [m_law_parts, len1, ok_bindP, d11, decide_true, if_true]
theorem parts_move (y z : Dy) : m_law_parts (Dy.tup [Dy.str ("move" : Str), y, z]) = .ok [z] := by simp only [m_law_parts, len3, ok_bindP, d31, at0, at1, at2', q_move_both, q_move_either, Bool.false_eq_true, if_false, if_true, Bool.false_or, Bool.or_false, Bool.true_or]
theorem parts_eat (y z : Dy) : m_law_parts (Dy.tup [Dy.str ("eat" : Str), y, z]) = .ok [z] := by simp only [m_law_parts, len3, ok_bindP, d31, at0, at1, at2', q_eat_both, q_eat_either, Bool.false_eq_true, if_false, if_true, Bool.false_or, Bool.or_false, Bool.true_or]
theorem parts_grow (y z : Dy) : m_law_parts (Dy.tup [Dy.str ("grow" : Str), y, z]) = .ok [z] := by simp only [m_law_parts, len3, ok_bindP, d31, at0, at1, at2', q_grow_both, q_grow_either, Bool.false_eq_true, if_false, if_true, Bool.false_or, Bool.or_false, Bool.true_or]
theorem parts_both (y z : Dy) : m_law_parts (Dy.tup [Dy.str ("both" : Str), y, z]) = .ok [y, z] := by simp only [m_law_parts, len3, ok_bindP, d31, at0, at1, at2', q_both_both, q_both_either, Bool.false_eq_true, if_false, if_true, Bool.false_or, Bool.or_false, Bool.true_or]
theorem parts_either (y z : Dy) : m_law_parts (Dy.tup [Dy.str ("either" : Str), y, z]) = .ok [y, z] := by simp only [m_law_parts, len3, ok_bindP, d31, at0, at1, at2', q_either_both, q_either_either, Bool.false_eq_true, if_false, if_true, Bool.false_or, Bool.or_false, Bool.true_or]
theorem cat_ok {x y : List Str} (h : x.length + y.length ≤ 90000) {α : Type} (f : List Str → R α) : ((chk (x.length + y.length ≤ sizeLine) ()).bind fun _ => f (x ++ y)) = f (x ++ y) := by
  unfold chk
  rw [if_pos (small_size (by omega))]
  rfl
theorem law_words_ok : ∀ (n : Nat) (p : Pl), dp p < n → dp p ≤ 10 → Pcs 12 p → m_law_words n (fD p) = .ok (W p)
  | 0, _, h, _, _ => absurd h (Nat.not_lt_zero _)
  | n + 1, .keep, _, _, _ => by
    simp only [m_law_words, fD, at0, ok_bindP, as_S, q_keep_move, q_keep_eat, q_keep_grow, out_nil, parts0, Bool.false_eq_true, if_false, if_true, Bool.false_or, Bool.or_false, Bool.true_or]
    rfl
  | n + 1, .nothing, _, _, _ => by
    simp only [m_law_words, fD, at0, ok_bindP, as_S, q_none_move, q_none_eat, q_none_grow, out_nil, parts0, Bool.false_eq_true, if_false, if_true, Bool.false_or, Bool.or_false, Bool.true_or]
    rfl
  | n + 1, .everything, _, _, _ => by
    simp only [m_law_words, fD, at0, ok_bindP, as_S, q_all_move, q_all_eat, q_all_grow, out_nil, parts0, Bool.false_eq_true, if_false, if_true, Bool.false_or, Bool.or_false, Bool.true_or]
    rfl
  | n + 1, .move t p, h, hd, hp => by
    have ih := law_words_ok n p (by unfold dp at h; omega) (by unfold dp at hd; omega) hp.2
    have l := W_len p hp.2
    have := pow_dp (d := dp p) (by unfold dp at hd; omega)
    simp only [m_law_words, fD, fC, at0, at1, ok_bindP, as_S, q_move_move, q_move_eat, q_move_grow, out_one, parts_move, Bool.false_eq_true, if_false, if_true, Bool.false_or, Bool.or_false, Bool.true_or]
    rw [words_loop (q := [t]) (s0 := [("move" : Str)]) (by simp) (fun x hx => by rw [List.mem_singleton.mp hx]; exact hp.1)]
    simp only [ok_bindP, forR, ih]
    rw [cat_ok (by show 3 + (W p).length ≤ _; omega)]
    simp only [ok_bindP, List.flatMap_cons, List.flatMap_nil, List.append_nil]
    rfl
  | n + 1, .eat q p, h, hd, hp => by
    have ih := law_words_ok n p (by unfold dp at h; omega) (by unfold dp at hd; omega) hp.2
    have l := W_len p hp.2
    have lq := hp.1.len
    have := pow_dp (d := dp p) (by unfold dp at hd; omega)
    have e1 : chk (((q.length : Int)).natAbs.log2 < 1920) (tS (q.length : Int)) = R.ok (tS (q.length : Int)) := if_pos (small_log (by show (q.length : Int).natAbs < _; omega))
    have e2 : chk ([("eat" : Str)].length < sizeLine) () = R.ok () := if_pos (small_lt (by simp))
    simp only [m_law_words, fD, fT, at0, at1, ok_bindP, as_S, q_eat_move, q_eat_eat, q_eat_grow, lenT, out_T, parts_eat, e1, e2, Bool.false_eq_true, if_false, if_true, Bool.false_or, Bool.or_false, Bool.true_or]
    rw [words_loop (q := q) (s0 := [("eat" : Str)] ++ [tS (q.length : Int)]) (by show 2 + _ ≤ _; omega) hp.1.sm]
    simp only [ok_bindP, forR, ih]
    rw [cat_ok (by rw [List.length_append, tW_len]; show 2 + _ + _ ≤ _; omega)]
    rfl
  | n + 1, .grow q p, h, hd, hp => by
    have ih := law_words_ok n p (by unfold dp at h; omega) (by unfold dp at hd; omega) hp.2
    have l := W_len p hp.2
    have lq := hp.1.len
    have := pow_dp (d := dp p) (by unfold dp at hd; omega)
    have e1 : chk (((q.length : Int)).natAbs.log2 < 1920) (tS (q.length : Int)) = R.ok (tS (q.length : Int)) := if_pos (small_log (by show (q.length : Int).natAbs < _; omega))
    have e2 : chk ([("grow" : Str)].length < sizeLine) () = R.ok () := if_pos (small_lt (by simp))
    simp only [m_law_words, fD, fT, at0, at1, ok_bindP, as_S, q_grow_move, q_grow_eat, q_grow_grow, lenT, out_T, parts_grow, e1, e2, Bool.false_eq_true, if_false, if_true, Bool.false_or, Bool.or_false, Bool.true_or]
    rw [words_loop (q := q) (s0 := [("grow" : Str)] ++ [tS (q.length : Int)]) (by show 2 + _ ≤ _; omega) hp.1.sm]
    simp only [ok_bindP, forR, ih]
    rw [cat_ok (by rw [List.length_append, tW_len]; show 2 + _ + _ ≤ _; omega)]
    rfl
  | n + 1, .both a b, h, hd, hp => by
    have ia := law_words_ok n a (by unfold dp at h; omega) (by unfold dp at hd; omega) hp.1
    have ib := law_words_ok n b (by unfold dp at h; omega) (by unfold dp at hd; omega) hp.2
    have la := W_len a hp.1
    have lb := W_len b hp.2
    have := pow_dp (d := dp a) (by unfold dp at hd; omega)
    have := pow_dp (d := dp b) (by unfold dp at hd; omega)
    simp only [m_law_words, fD, at0, at1, ok_bindP, as_S, q_both_move, q_both_eat, q_both_grow, out_nil, parts_both, Bool.false_eq_true, if_false, if_true, Bool.false_or, Bool.or_false, Bool.true_or]
    simp only [ok_bindP, forR, ia, ib]
    rw [cat_ok (by show 1 + (W a).length ≤ _; omega)]
    simp only [ok_bindP]
    rw [cat_ok (by rw [List.length_append]; show 1 + _ + _ ≤ _; omega)]
    rfl
  | n + 1, .either a b, h, hd, hp => by
    have ia := law_words_ok n a (by unfold dp at h; omega) (by unfold dp at hd; omega) hp.1
    have ib := law_words_ok n b (by unfold dp at h; omega) (by unfold dp at hd; omega) hp.2
    have la := W_len a hp.1
    have lb := W_len b hp.2
    have := pow_dp (d := dp a) (by unfold dp at hd; omega)
    have := pow_dp (d := dp b) (by unfold dp at hd; omega)
    simp only [m_law_words, fD, at0, at1, ok_bindP, as_S, q_either_move, q_either_eat, q_either_grow, out_nil, parts_either, Bool.false_eq_true, if_false, if_true, Bool.false_or, Bool.or_false, Bool.true_or]
    simp only [ok_bindP, forR, ia, ib]
    rw [cat_ok (by show 1 + (W a).length ≤ _; omega)]
    simp only [ok_bindP]
    rw [cat_ok (by rw [List.length_append]; show 1 + _ + _ ≤ _; omega)]
    rfl
/-- a cell turned -/
def tcl (t : Int) (p : Int × Int) : Int × Int :=
  if t = 0 then p else if t = 1 then (p.2, -p.1) else if t = 2 then (-p.1, -p.2) else if t = 3 then (-p.2, p.1) else
  if t = 4 then (p.1, -p.2) else if t = 5 then (-p.2, -p.1) else if t = 6 then (-p.1, p.2) else (p.2, p.1)
theorem eight {t : Int} (h0 : 0 ≤ t) (h : t ≤ 7) : t = 0 ∨ t = 1 ∨ t = 2 ∨ t = 3 ∨ t = 4 ∨ t = 5 ∨ t = 6 ∨ t = 7 := by omega
theorem look_ok {t : Int} (h0 : 0 ≤ t) (h : t ≤ 7) : m_look_at_turn t = .ok () := by
  unfold m_look_at_turn
  rw [if_neg]
  rw [Bool.or_eq_true, decide_eq_true_eq, decide_eq_true_eq]
  omega
theorem turned_cell_ok (p : Int × Int) {t : Int} (h0 : 0 ≤ t) (h : t ≤ 7) : m_turned_cell p t = .ok (tcl t p) := by
  unfold m_turned_cell
  rw [look_ok h0 h]
  rcases eight h0 h with rfl | rfl | rfl | rfl | rfl | rfl | rfl | rfl <;> simp [R.bind, chk, rangeI, List.range_succ, forR, tcl]
theorem tcl_inj {t : Int} (h0 : 0 ≤ t) (h : t ≤ 7) {p q : Int × Int} (e : tcl t p = tcl t q) : p = q := by
  rcases eight h0 h with rfl | rfl | rfl | rfl | rfl | rfl | rfl | rfl <;> simp [tcl, Prod.ext_iff] at e ⊢ <;> omega
theorem tcl_add {t : Int} (h0 : 0 ≤ t) (h : t ≤ 7) (p s : Int × Int) : tcl t (p.1 + s.1, p.2 + s.2) = ((tcl t p).1 + (tcl t s).1, (tcl t p).2 + (tcl t s).2) := by
  rcases eight h0 h with rfl | rfl | rfl | rfl | rfl | rfl | rfl | rfl <;> simp [tcl, Prod.ext_iff] <;> omega
theorem mapX_er {α β : Type} {f : α → R β} {e : Er} : ∀ {xs : List α}, (∀ x ∈ xs, f x = .er e ∨ ∃ r, f x = .ok r) → (∃ x ∈ xs, f x = .er e) → mapX f xs = .er e
  | [], _, ⟨_, h, _⟩ => by cases h
  | x :: xs, h, hx => by
    unfold mapX
    rcases h x List.mem_cons_self with q | ⟨r, q⟩
    · rw [q]
      rfl
    · rw [q]
      obtain ⟨y, hy, ey⟩ := hx
      rcases List.mem_cons.mp hy with z | z
      · rw [z, q] at ey
        cases ey
      · show R.bind (mapX f xs) _ = _
        rw [mapX_er (fun a ha => h a (List.mem_cons_of_mem _ ha)) ⟨y, z, ey⟩]
        rfl
theorem mapX_ok {α β : Type} {f : α → R β} {g : α → β} : ∀ {xs : List α}, (∀ x ∈ xs, f x = .ok (g x)) → mapX f xs = .ok (xs.map g)
  | [], _ => rfl
  | x :: xs, h => by
    unfold mapX
    rw [h x List.mem_cons_self, mapX_ok fun y hy => h y (List.mem_cons_of_mem _ hy)]
    rfl
/-! ### cells led elsewhere, all alike -/
structure Iso (f g l : Int × Int → Int × Int) : Prop where
  inv : ∀ c, f (g c) = c
  inj : ∀ c, g (f c) = c
  add : ∀ c s : Int × Int, f (c.1 + s.1, c.2 + s.2) = ((f c).1 + (l s).1, (f c).2 + (l s).2)
theorem Iso.sub {f g l : Int × Int → Int × Int} (h : Iso f g l) (c s : Int × Int) : f (c.1 - s.1, c.2 - s.2) = ((f c).1 - (l s).1, (f c).2 - (l s).2) := by
  have := h.add (c.1 - s.1, c.2 - s.2) s
  have e : ((c.1 - s.1, c.2 - s.2).1 + s.1, (c.1 - s.1, c.2 - s.2).2 + s.2) = c := by ext <;> simp
  rw [e] at this
  rw [this]
  ext <;> simp
def imC (f : Int × Int → Int × Int) (cs : List (Int × Int)) : List (Int × Int) := rise (cs.map f)
def imS (f : Int × Int → Int × Int) (s : Shp) : Shp := (imC f s.1, s.2)
def imP (l : Int × Int → Int × Int) : Pl → Pl
  | .keep => .keep
  | .nothing => .nothing
  | .everything => .everything
  | .move t p => .move (l t) (imP l p)
  | .eat q p => .eat (imC l q) (imP l p)
  | .grow q p => .grow (imC l q) (imP l p)
  | .both a b => .both (imP l a) (imP l b)
  | .either a b => .either (imP l a) (imP l b)
theorem mem_imC {f : Int × Int → Int × Int} {cs : List (Int × Int)} {c : Int × Int} : c ∈ imC f cs ↔ ∃ x ∈ cs, c = f x := by
  unfold imC
  rw [mem_rise, List.mem_map]
  exact ⟨fun ⟨x, h, e⟩ => ⟨x, h, e.symm⟩, fun ⟨x, h, e⟩ => ⟨x, h, e.symm⟩⟩
theorem nd_map {f : Int × Int → Int × Int} (hf : ∀ s t, f s = f t → s = t) {cs : List (Int × Int)} (u : Up cs) : (cs.map f).Nodup :=
  List.pairwise_map.mpr (List.Pairwise.imp (fun {a b} h e => h (hf _ _ e)) (up_nodup u))
theorem len_imC {f : Int × Int → Int × Int} (hf : ∀ s t, f s = f t → s = t) {cs : List (Int × Int)} (u : Up cs) : (imC f cs).length = cs.length := by
  have p : (rise (cs.map f)).Perm (cs.map f) := (List.perm_ext_iff_of_nodup (up_nodup (up_rise _)) (nd_map hf u)).mpr fun c => mem_rise c _
  unfold imC
  rw [p.length_eq, List.length_map]
theorem Iso.fin {f g l : Int × Int → Int × Int} (h : Iso f g l) (s t : Int × Int) (e : f s = f t) : s = t := by rw [← h.inj s, e, h.inj]
theorem has_imS {f g l : Int × Int → Int × Int} (h : Iso f g l) (s : Shp) (c : Int × Int) : hasS (imS f s) (f c) = hasS s c := by
  unfold hasS imS
  congr 1
  rw [Bool.eq_iff_iff, hasB_iff, hasB_iff, mem_imC]
  constructor
  · rintro ⟨x, hx, e⟩
    rw [h.fin _ _ e]
    exact hx
  · intro hx
    exact ⟨c, hx, rfl⟩
theorem imS_eq {f g l : Int × Int → Int × Int} (h : Iso f g l) {a b : Shp} (ua : Up a.1) (hr : a.2 = b.2) (hh : ∀ c, hasS a (f c) = hasS b c) : a = imS f b :=
  shp_eq ua (up_rise _) hr fun c => by
    rw [← h.inv c, hh, has_imS h]
theorem dp_imP (l : Int × Int → Int × Int) : ∀ p : Pl, dp (imP l p) = dp p
  | .keep => rfl
  | .nothing => rfl
  | .everything => rfl
  | .move _ p => congrArg (· + 1) (dp_imP l p)
  | .eat _ p => congrArg (· + 1) (dp_imP l p)
  | .grow _ p => congrArg (· + 1) (dp_imP l p)
  | .both a b => by show max (dp (imP l a)) (dp (imP l b)) + 1 = _; rw [dp_imP l a, dp_imP l b]; rfl
  | .either a b => by show max (dp (imP l a)) (dp (imP l b)) + 1 = _; rw [dp_imP l a, dp_imP l b]; rfl
theorem len_imC_le (f : Int × Int → Int × Int) (cs : List (Int × Int)) : (imC f cs).length ≤ cs.length := Nat.le_trans (len_rise _) (by rw [List.length_map]; exact Nat.le_refl _)
theorem pce_imC {m : Nat} {l : Int × Int → Int × Int} (hl : ∀ t, Smt t → Smt (l t)) {q : List (Int × Int)} (h : Pce m q) : Pce m (imC l q) := by
  refine ⟨up_rise _, fun z => ?_, Nat.le_trans (len_imC_le l q) h.len, fun t ht => ?_⟩
  · obtain ⟨x, hx⟩ := List.exists_mem_of_ne_nil _ h.ne
    have : l x ∈ imC l q := mem_imC.mpr ⟨x, hx, rfl⟩
    rw [z] at this
    cases this
  · obtain ⟨x, hx, e⟩ := mem_imC.mp ht
    rw [e]
    exact hl x (h.sm x hx)
theorem pcs_imP {m : Nat} {l : Int × Int → Int × Int} (hl : ∀ t, Smt t → Smt (l t)) : ∀ {p : Pl}, Pcs m p → Pcs m (imP l p)
  | .keep, _ => trivial
  | .nothing, _ => trivial
  | .everything, _ => trivial
  | .move _ _, h => ⟨hl _ h.1, pcs_imP hl h.2⟩
  | .eat _ _, h => ⟨pce_imC hl h.1, pcs_imP hl h.2⟩
  | .grow _ _, h => ⟨pce_imC hl h.1, pcs_imP hl h.2⟩
  | .both _ _, h => ⟨pcs_imP hl h.1, pcs_imP hl h.2⟩
  | .either _ _, h => ⟨pcs_imP hl h.1, pcs_imP hl h.2⟩
theorem imC_id {q : List (Int × Int)} (u : Up q) : imC (fun c => c) q = q := up_eq (up_rise _) u fun c => by
  show c ∈ imC (fun c => c) q ↔ _
  rw [mem_imC]
  exact ⟨fun ⟨x, h, e⟩ => e ▸ h, fun h => ⟨c, h, rfl⟩⟩
theorem imP_id {m : Nat} : ∀ {p : Pl}, Pcs m p → imP (fun c => c) p = p
  | .keep, _ => rfl
  | .nothing, _ => rfl
  | .everything, _ => rfl
  | .move t p, h => by show Pl.move t (imP _ p) = _; rw [imP_id h.2]
  | .eat q p, h => by show Pl.eat (imC _ q) (imP _ p) = _; rw [imP_id h.2, imC_id h.1.up]
  | .grow q p, h => by show Pl.grow (imC _ q) (imP _ p) = _; rw [imP_id h.2, imC_id h.1.up]
  | .both a b, h => by show Pl.both (imP _ a) (imP _ b) = _; rw [imP_id h.1, imP_id h.2]
  | .either a b, h => by show Pl.either (imP _ a) (imP _ b) = _; rw [imP_id h.1, imP_id h.2]
/-- alike: both made, the one the other one led, or both too great -/
def Alk (f : Int × Int → Int × Int) (a b : R Shp) (n : Nat) : Prop := (∃ r, a = .ok r ∧ b = .ok (imS f r) ∧ Up r.1 ∧ r.1.length ≤ n) ∨ (a = .er ⟨"TooMany", none⟩ ∧ b = .er ⟨"TooMany", none⟩)
theorem Alk.bind {f : Int × Int → Int × Int} {a b : R Shp} {k k' : Shp → R Shp} {n m : Nat} (h : Alk f a b n) (hk : ∀ r, Up r.1 → r.1.length ≤ n → Alk f (k r) (k' (imS f r)) m) : Alk f (a.bind k) (b.bind k') m := by
  rcases h with ⟨r, e1, e2, u, l⟩ | ⟨e1, e2⟩
  · rw [e1, e2]
    exact hk r u l
  · rw [e1, e2]
    exact .inr ⟨rfl, rfl⟩
theorem Alk.big {f g l : Int × Int → Int × Int} (h : Iso f g l) {r : Shp} (u : Up r.1) : Alk f (G.big r) (G.big (imS f r)) 2000 := by
  have e : (imS f r).1.length = r.1.length := len_imC h.fin u
  by_cases c : 2000 < r.1.length
  · exact .inr ⟨big_er c, big_er (by rw [e]; exact c)⟩
  · exact .inl ⟨r, big_ok (by omega), big_ok (by rw [e]; omega), u, by omega⟩
theorem has_mv (s : Shp) (t c : Int × Int) : hasS (mvS s t) c = hasS s (c.1 - t.1, c.2 - t.2) := by
  unfold hasS mvS
  congr 1
  rw [Bool.eq_iff_iff, hasB_iff, hasB_iff, List.mem_map]
  constructor
  · rintro ⟨x, hx, e⟩
    rw [← e]
    have : (x.1 + t.1 - t.1, x.2 + t.2 - t.2) = x := by ext <;> simp
    dsimp only
    rw [this]
    exact hx
  · intro hx
    exact ⟨_, hx, by ext <;> simp⟩
theorem up_mv {s : Shp} (u : Up s.1) (t : Int × Int) : Up (mvS s t).1 := List.pairwise_map.mpr (List.Pairwise.imp (fun {a b} (z : ltC a b = true) => decide_eq_true (by have z' := of_decide_eq_true z; dsimp only; omega)) u)
theorem done_small {S : Shp} (u : Up S.1) {m k : Nat} (hm : m ≤ 9000) {n : Nat} {p : Pl} (hd : dp p < n) (hp : Pcs m p) (hc : S.1.length * cnt p * k ≤ 9000) (hk : 1 ≤ k) (hs : S.1.length ≤ 9000) {r : Shp} (e : m_D_done n p S = .ok r) : r.1.length * k ≤ 9000 := by
  have hcp : S.1.length * cnt p ≤ 9000 := by
    have := Nat.mul_le_mul_left (S.1.length * cnt p) hk
    omega
  rcases done_or u hm n p hd hp hcp hs with ⟨r', e', q⟩ | e'
  · rw [e] at e'
    injection e' with e'
    subst e'
    exact Nat.le_trans (Nat.mul_le_mul_right _ q.md.len) hc
  · rw [e] at e'
    cases e'
theorem done_iso {f g l : Int × Int → Int × Int} (h : Iso f g l) (hl : ∀ t, Smt t → Smt (l t)) {S : Shp} (u : Up S.1) {m : Nat} (hm : m ≤ 9000) : ∀ (n : Nat) (p : Pl), dp p < n → Pcs m p → S.1.length * cnt p ≤ 9000 → S.1.length ≤ 9000 → Alk f (m_D_done n p S) (m_D_done n (imP l p) (imS f S)) 2000
  | 0, _, h, _, _, _ => absurd h (Nat.not_lt_zero _)
  | n + 1, .keep, _, _, _, _ => by
    show Alk f (m_D_done (n + 1) .keep S) (m_D_done (n + 1) .keep (imS f S)) _
    rw [done_keep, done_keep]
    exact Alk.big h u
  | n + 1, .nothing, _, _, _, _ => .inl ⟨([], false), rfl, rfl, .nil, Nat.zero_le _⟩
  | n + 1, .everything, _, _, _, _ => .inl ⟨([], true), rfl, rfl, .nil, Nat.zero_le _⟩
  | n + 1, .move t p, hd, hp, hc, hs => by
    show Alk f _ (m_D_done (n + 1) (.move (l t) (imP l p)) (imS f S)) _
    rw [done_move, done_move]
    refine Alk.bind (n := 9000) (Alk.bind (done_iso h hl u hm n p (by unfold dp at hd; omega) hp.2 hc hs) fun r ur lr => ?_) fun r ur _ => Alk.big h ur
    have li : (imS f r).1.length ≤ 2000 := Nat.le_trans (len_imC_le f r.1) lr
    refine .inl ⟨mvS r t, moved_ok r t (by omega), ?_, up_mv ur t, by rw [len_mvS]; omega⟩
    rw [moved_ok _ _ (by omega)]
    congr 1
    refine imS_eq h (up_mv (up_rise _) _) rfl fun c => ?_
    rw [has_mv, has_mv, ← h.sub, has_imS h]
  | n + 1, .eat q p, hd, hp, hc, hs => by
    have h1 : 1 ≤ q.length := List.length_pos_iff.mpr hp.1.ne
    have hc' : S.1.length * (cnt p * q.length) ≤ 9000 := hc
    rw [← Nat.mul_assoc] at hc'
    have hcp : S.1.length * cnt p ≤ 9000 := by
      have := Nat.mul_le_mul_left (S.1.length * cnt p) h1
      omega
    have lq := hp.1.len
    have hq := pce_imC hl hp.1
    have lq2 := hq.len
    show Alk f _ (m_D_done (n + 1) (.eat (imC l q) (imP l p)) (imS f S)) _
    rw [done_eat, done_eat]
    rcases done_iso h hl u hm n p (by unfold dp at hd; omega) hp.2 hcp hs with ⟨r, e1, e2, ur, lr⟩ | ⟨e1, e2⟩
    · rw [e1, e2]
      have b9 := done_small u hm (by unfold dp at hd; omega) hp.2 hc' h1 hs e1
      have ei : (imS f r).1.length = r.1.length := len_imC h.fin ur
      have b9' : (imS f r).1.length * (imC l q).length ≤ 9000 := by
        rw [ei]
        exact Nat.le_trans (Nat.mul_le_mul_left _ (len_imC_le l q)) b9
      obtain ⟨z, ez, hz⟩ := eaten_has r q ur (fun _ => by omega) (by omega) (by omega) hp.1.ne
      obtain ⟨w, ew, hw⟩ := eaten_has (imS f r) (imC l q) (up_rise _) (fun _ => by omega) (by omega) (by omega) hq.ne
      show Alk f ((m_eaten r q).bind _) ((m_eaten (imS f r) (imC l q)).bind _) _
      rw [ez, ew]
      have : w = imS f z := imS_eq h hw.1.up (hw.1.rest.trans hz.1.rest.symm) fun c => by
        rw [Bool.eq_iff_iff, hw.1.has, hz.1.has]
        unfold HE Hs
        constructor
        · intro k t ht
          have := k (l t) (mem_imC.mpr ⟨t, ht, rfl⟩)
          rw [← h.add, has_imS h] at this
          exact this
        · intro k t ht
          obtain ⟨x, hx, e⟩ := mem_imC.mp ht
          rw [e, ← h.add, has_imS h]
          exact k x hx
      show Alk f (G.big z) (G.big w) _
      rw [this]
      exact Alk.big h hz.1.up
    · rw [e1, e2]
      exact .inr ⟨rfl, rfl⟩
  | n + 1, .grow q p, hd, hp, hc, hs => by
    have h1 : 1 ≤ q.length := List.length_pos_iff.mpr hp.1.ne
    have hc' : S.1.length * (cnt p * q.length) ≤ 9000 := hc
    rw [← Nat.mul_assoc] at hc'
    have hcp : S.1.length * cnt p ≤ 9000 := by
      have := Nat.mul_le_mul_left (S.1.length * cnt p) h1
      omega
    have lq := hp.1.len
    have hq := pce_imC hl hp.1
    have lq2 := hq.len
    show Alk f _ (m_D_done (n + 1) (.grow (imC l q) (imP l p)) (imS f S)) _
    rw [done_grow, done_grow]
    rcases done_iso h hl u hm n p (by unfold dp at hd; omega) hp.2 hcp hs with ⟨r, e1, e2, ur, lr⟩ | ⟨e1, e2⟩
    · rw [e1, e2]
      have b9 := done_small u hm (by unfold dp at hd; omega) hp.2 hc' h1 hs e1
      have ei : (imS f r).1.length = r.1.length := len_imC h.fin ur
      have b9' : (imS f r).1.length * (imC l q).length ≤ 9000 := by
        rw [ei]
        exact Nat.le_trans (Nat.mul_le_mul_left _ (len_imC_le l q)) b9
      obtain ⟨z, ez, hz⟩ := grown_has r q ur (fun _ => by omega) (by omega) (by omega) hp.1.ne
      obtain ⟨w, ew, hw⟩ := grown_has (imS f r) (imC l q) (up_rise _) (fun _ => by omega) (by omega) (by omega) hq.ne
      show Alk f ((m_grown r q).bind _) ((m_grown (imS f r) (imC l q)).bind _) _
      rw [ez, ew]
      have : w = imS f z := imS_eq h hw.1.up (hw.1.rest.trans hz.1.rest.symm) fun c => by
        rw [Bool.eq_iff_iff, hw.1.has, hz.1.has]
        unfold HG Hs
        constructor
        · rintro ⟨t, ht, k⟩
          obtain ⟨x, hx, e⟩ := mem_imC.mp ht
          rw [e, ← h.sub, has_imS h] at k
          exact ⟨x, hx, k⟩
        · rintro ⟨t, ht, k⟩
          refine ⟨l t, mem_imC.mpr ⟨t, ht, rfl⟩, ?_⟩
          rw [← h.sub, has_imS h]
          exact k
      show Alk f (G.big z) (G.big w) _
      rw [this]
      exact Alk.big h hz.1.up
    · rw [e1, e2]
      exact .inr ⟨rfl, rfl⟩
  | n + 1, .both a b, hd, hp, hc, hs => by
    have hc' : S.1.length * (cnt a + cnt b) ≤ 9000 := hc
    rw [Nat.mul_add] at hc'
    show Alk f _ (m_D_done (n + 1) (.both (imP l a) (imP l b)) (imS f S)) _
    rw [done_both, done_both]
    refine Alk.bind (n := 9000) (Alk.bind (done_iso h hl u hm n a (by unfold dp at hd; omega) hp.1 (by omega) hs) fun x ux lx => Alk.bind (done_iso h hl u hm n b (by unfold dp at hd; omega) hp.2 (by omega) hs) fun y uy ly => ?_) fun r ur _ => Alk.big h ur
    have lx' : (imS f x).1.length ≤ 2000 := Nat.le_trans (len_imC_le f x.1) lx
    have ly' : (imS f y).1.length ≤ 2000 := Nat.le_trans (len_imC_le f y.1) ly
    obtain ⟨z, ez, z1, z2, z3, z4⟩ := both_sharp x y ux uy lx ly
    obtain ⟨w, ew, w1, w2, w3, w4⟩ := both_sharp (imS f x) (imS f y) (up_rise _) (up_rise _) lx' ly'
    refine .inl ⟨z, ez, ?_, z1, by omega⟩
    rw [ew]
    congr 1
    exact imS_eq h w1 (w2.trans z2.symm) fun c => by rw [w3, z3, has_imS h, has_imS h]
  | n + 1, .either a b, hd, hp, hc, hs => by
    have hc' : S.1.length * (cnt a + cnt b) ≤ 9000 := hc
    rw [Nat.mul_add] at hc'
    show Alk f _ (m_D_done (n + 1) (.either (imP l a) (imP l b)) (imS f S)) _
    rw [done_either, done_either]
    refine Alk.bind (n := 9000) (Alk.bind (done_iso h hl u hm n a (by unfold dp at hd; omega) hp.1 (by omega) hs) fun x ux lx => Alk.bind (done_iso h hl u hm n b (by unfold dp at hd; omega) hp.2 (by omega) hs) fun y uy ly => ?_) fun r ur _ => Alk.big h ur
    have lx' : (imS f x).1.length ≤ 2000 := Nat.le_trans (len_imC_le f x.1) lx
    have ly' : (imS f y).1.length ≤ 2000 := Nat.le_trans (len_imC_le f y.1) ly
    obtain ⟨z, ez, z1, z2, z3, z4⟩ := both_sharp (x.1, !x.2) (y.1, !y.2) ux uy lx ly
    obtain ⟨w, ew, w1, w2, w3, w4⟩ := both_sharp ((imS f x).1, !(imS f x).2) ((imS f y).1, !(imS f y).2) (up_rise _) (up_rise _) lx' ly'
    refine .inl ⟨(z.1, !z.2), ?_, ?_, z1, by show z.1.length ≤ _; exact Nat.le_trans z4 (by show x.1.length + y.1.length ≤ _; omega)⟩
    · show ((m_both (x.1, !x.2) (y.1, !y.2)).bind fun z => m_outside z) = _
      rw [ez]
      rfl
    · show ((m_both ((imS f x).1, !(imS f x).2) ((imS f y).1, !(imS f y).2)).bind fun z => m_outside z) = _
      rw [ew]
      show R.ok (w.1, !w.2) = _
      congr 1
      refine imS_eq h w1 (by show (!w.2) = (!z.2); rw [w2, z2]; rfl) fun c => ?_
      rw [hasS_neg, hasS_neg, w3, z3, hasS_neg, hasS_neg, hasS_neg, hasS_neg, has_imS h, has_imS h]
/-! ### a plan by a turn -/
theorem tcl_smt {t : Int} (h0 : 0 ≤ t) (h : t ≤ 7) (s : Int × Int) (hs : Smt s) : Smt (tcl t s) := by
  obtain ⟨h1, h2⟩ := hs
  rcases eight h0 h with rfl | rfl | rfl | rfl | rfl | rfl | rfl | rfl <;> (simp [tcl, Smt] at *; omega)
def bk (t : Int) : Int := if 4 ≤ t then t else (4 - t) % 4
theorem iso_tcl {t : Int} (h0 : 0 ≤ t) (h : t ≤ 7) : Iso (tcl t) (tcl (bk t)) (tcl t) := by
  refine ⟨fun c => ?_, fun c => ?_, fun c s => tcl_add h0 h c s⟩
  · rcases eight h0 h with rfl | rfl | rfl | rfl | rfl | rfl | rfl | rfl <;> simp [tcl, bk]
  · rcases eight h0 h with rfl | rfl | rfl | rfl | rfl | rfl | rfl | rfl <;> simp [tcl, bk]
theorem turned_piece_ok {q : List (Int × Int)} {t : Int} (h0 : 0 ≤ t) (h : t ≤ 7) (l : q.length ≤ 1000) : m_turned_piece q t = .ok (imC (tcl t) q) := by
  refine Gd.eq ?_
  unfold m_turned_piece
  refine Gd.bind (P := fun r => r = q.map (tcl t)) (Gd.chkB (small_size (by omega)) (Gd.of (mapX_ok fun c _ => turned_cell_ok c h0 h) rfl)) fun r e => ?_
  subst e
  exact Gd.of (rising_ok _ (by rw [List.length_map]; omega)) rfl
theorem turn_ok {t : Int} (h0 : 0 ≤ t) (h : t ≤ 7) : ∀ (n : Nat) (p : Pl), dp p < n → Pcs 12 p → m_D_by_turn n p t = .ok (imP (tcl t) p)
  | 0, _, h, _ => absurd h (Nat.not_lt_zero _)
  | n + 1, .keep, _, _ => by
    show m_Keep_by_turn .keep t = _
    unfold m_Keep_by_turn
    rw [look_ok h0 h]
    rfl
  | n + 1, .nothing, _, _ => by
    show m_Nothing_by_turn .nothing t = _
    unfold m_Nothing_by_turn
    rw [look_ok h0 h]
    rfl
  | n + 1, .everything, _, _ => by
    show m_Everything_by_turn .everything t = _
    unfold m_Everything_by_turn
    rw [look_ok h0 h]
    rfl
  | n + 1, .move s p, hd, hp => by
    have ih := turn_ok h0 h n p (by unfold dp at hd; omega) hp.2
    simp only [m_D_by_turn, Pl.kd, m_Move_by_turn, Pl.fStep, Pl.fPlan, ofOpt, ok_bindP, ih, turned_cell_ok s h0 h, imP]
  | n + 1, .eat q p, hd, hp => by
    have ih := turn_ok h0 h n p (by unfold dp at hd; omega) hp.2
    have lq := hp.1.len
    simp only [m_D_by_turn, Pl.kd, m_Eat_by_turn, Pl.fPiece, Pl.fPlan, ofOpt, ok_bindP, ih, turned_piece_ok h0 h (show q.length ≤ 1000 by omega), imP]
  | n + 1, .grow q p, hd, hp => by
    have ih := turn_ok h0 h n p (by unfold dp at hd; omega) hp.2
    have lq := hp.1.len
    simp only [m_D_by_turn, Pl.kd, m_Grow_by_turn, Pl.fPiece, Pl.fPlan, ofOpt, ok_bindP, ih, turned_piece_ok h0 h (show q.length ≤ 1000 by omega), imP]
  | n + 1, .both a b, hd, hp => by
    have ia := turn_ok h0 h n a (by unfold dp at hd; omega) hp.1
    have ib := turn_ok h0 h n b (by unfold dp at hd; omega) hp.2
    simp only [m_D_by_turn, Pl.kd, m_Both_by_turn, Pl.fOne, Pl.fOther, ofOpt, ok_bindP, ia, ib, imP]
  | n + 1, .either a b, hd, hp => by
    have ia := turn_ok h0 h n a (by unfold dp at hd; omega) hp.1
    have ib := turn_ok h0 h n b (by unfold dp at hd; omega) hp.2
    simp only [m_D_by_turn, Pl.kd, m_Either_by_turn, Pl.fOne, Pl.fOther, ofOpt, ok_bindP, ia, ib, imP]
/-- a number that is no turn's -/
theorem look_bad {t : Int} (h : t < 0 ∨ 8 ≤ t) : m_look_at_turn t = .er ⟨"BadTurn", none⟩ := by
  unfold m_look_at_turn
  rw [if_pos]
  rw [Bool.or_eq_true, decide_eq_true_eq, decide_eq_true_eq]
  exact h
theorem turned_cell_bad (c : Int × Int) {t : Int} (h : t < 0 ∨ 8 ≤ t) : m_turned_cell c t = .er ⟨"BadTurn", none⟩ := by
  unfold m_turned_cell
  rw [look_bad h]
  rfl
theorem turned_piece_bad {q : List (Int × Int)} {t : Int} (h : t < 0 ∨ 8 ≤ t) (ne : q ≠ []) (l : q.length ≤ 1000) : m_turned_piece q t = .er ⟨"BadTurn", none⟩ := by
  unfold m_turned_piece
  have e : chk (q.length ≤ sizeLine) q = .ok q := if_pos (small_size (by omega))
  rw [e]
  obtain ⟨x, hx⟩ := List.exists_mem_of_ne_nil _ ne
  show R.bind (mapX _ q) _ = _
  rw [mapX_er (e := ⟨"BadTurn", none⟩) (fun c _ => .inl (turned_cell_bad c h)) ⟨x, hx, turned_cell_bad x h⟩]
  rfl
theorem turn_bad {t : Int} (h : t < 0 ∨ 8 ≤ t) : ∀ (n : Nat) (p : Pl), dp p < n → Pcs 12 p → m_D_by_turn n p t = .er ⟨"BadTurn", none⟩
  | 0, _, h, _ => absurd h (Nat.not_lt_zero _)
  | n + 1, .keep, _, _ => by
    show m_Keep_by_turn .keep t = _
    unfold m_Keep_by_turn
    rw [look_bad h]
    rfl
  | n + 1, .nothing, _, _ => by
    show m_Nothing_by_turn .nothing t = _
    unfold m_Nothing_by_turn
    rw [look_bad h]
    rfl
  | n + 1, .everything, _, _ => by
    show m_Everything_by_turn .everything t = _
    unfold m_Everything_by_turn
    rw [look_bad h]
    rfl
  | n + 1, .move s p, hd, hp => by
    show m_Move_by_turn (m_D_by_turn n) (.move s p) t = _
    simp only [m_Move_by_turn, Pl.fStep, ofOpt, ok_bindP, turned_cell_bad s h]
    rfl
  | n + 1, .eat q p, hd, hp => by
    have lq := hp.1.len
    show m_Eat_by_turn (m_D_by_turn n) (.eat q p) t = _
    simp only [m_Eat_by_turn, Pl.fPiece, ofOpt, ok_bindP, turned_piece_bad h hp.1.ne (show q.length ≤ 1000 by omega)]
    rfl
  | n + 1, .grow q p, hd, hp => by
    have lq := hp.1.len
    show m_Grow_by_turn (m_D_by_turn n) (.grow q p) t = _
    simp only [m_Grow_by_turn, Pl.fPiece, ofOpt, ok_bindP, turned_piece_bad h hp.1.ne (show q.length ≤ 1000 by omega)]
    rfl
  | n + 1, .both a b, hd, hp => by
    have ia := turn_bad h n a (by unfold dp at hd; omega) hp.1
    show m_Both_by_turn (m_D_by_turn n) (.both a b) t = _
    simp only [m_Both_by_turn, Pl.fOne, ofOpt, ok_bindP, ia]
    rfl
  | n + 1, .either a b, hd, hp => by
    have ia := turn_bad h n a (by unfold dp at hd; omega) hp.1
    show m_Either_by_turn (m_D_by_turn n) (.either a b) t = _
    simp only [m_Either_by_turn, Pl.fOne, ofOpt, ok_bindP, ia]
    rfl
/-! ### the law's own turns -/
theorem law_tc_ok (c : Int × Int) {t : Int} (h0 : 0 ≤ t) (h : t ≤ 7) : m_law_turned_cell c t = .ok (tcl t c) := by
  unfold m_law_turned_cell
  rcases eight h0 h with rfl | rfl | rfl | rfl | rfl | rfl | rfl | rfl
  · show ofOpt (atI [(c.1, c.2), (c.2, 0 - c.1), (0 - c.1, 0 - c.2), (0 - c.2, c.1)] (0 : Int)) = _
    show R.ok (c.1, c.2) = _
    simp [tcl]
  · show R.ok (c.2, 0 - c.1) = _
    simp [tcl]
  · show R.ok (0 - c.1, 0 - c.2) = _
    simp [tcl]
  · show R.ok (0 - c.2, c.1) = _
    simp [tcl]
  · show R.ok (c.1, 0 - c.2) = _
    simp [tcl]
  · show R.ok (0 - c.2, 0 - c.1) = _
    simp [tcl]
  · show R.ok (0 - c.1, 0 - (0 - c.2)) = _
    simp [tcl]
  · show R.ok (0 - (0 - c.2), c.1) = _
    simp [tcl]
theorem law_tcs_ok {q : List (Int × Int)} (u : Up q) {t : Int} (h0 : 0 ≤ t) (h : t ≤ 7) (l : q.length ≤ 50000) : m_law_turned_cells q t = .ok (imC (tcl t) q) := by
  refine Gd.eq ?_
  unfold m_law_turned_cells
  refine Gd.bind (P := fun r => r = imC (tcl t) q) (Gd.bind (P := fun r => r = q.map (tcl t)) (Gd.mapRB (g := tcl t) (fun c _ => law_tc_ok c h0 h) (Gd.chk (small_size (by rw [List.length_map]; omega)) rfl)) fun r e => Gd.ok ?_) fun r e => Gd.ok e
  rw [e]
  exact sortC_rise (nd_map (iso_tcl h0 h).fin u)
theorem law_turned_ok {t : Int} (h0 : 0 ≤ t) (h7 : t ≤ 7) : ∀ (n : Nat) (p : Pl), dp p < n → Pcs 12 p → m_law_turned n (fD p) t = .ok (fD (imP (tcl t) p))
  | 0, _, h, _ => absurd h (Nat.not_lt_zero _)
  | n + 1, .keep, _, _ => by simp only [m_law_turned, fD, ok_bindP, len1, d11, decide_true, if_true, imP]
  | n + 1, .nothing, _, _ => by simp only [m_law_turned, fD, ok_bindP, len1, d11, decide_true, if_true, imP]
  | n + 1, .everything, _, _ => by simp only [m_law_turned, fD, ok_bindP, len1, d11, decide_true, if_true, imP]
  | n + 1, .move s p, h, hp => by
    have ih := law_turned_ok h0 h7 n p (by unfold dp at h; omega) hp.2
    simp only [m_law_turned, fD, fC, at0, at1, at2', out_C, ok_bindP, len3, d31, q_move_move, law_tc_ok s h0 h7, ih, imP, Bool.false_eq_true, if_false, if_true, Bool.false_or, Bool.or_false, Bool.true_or]
  | n + 1, .eat q p, h, hp => by
    have ih := law_turned_ok h0 h7 n p (by unfold dp at h; omega) hp.2
    have lq := hp.1.len
    simp only [m_law_turned, fD, fT, at0, at1, at2', out_T, ok_bindP, len3, d31, q_eat_move, q_eat_eat, q_eat_grow, law_tcs_ok hp.1.up h0 h7 (show q.length ≤ 50000 by omega), ih, imP, Bool.false_eq_true, if_false, if_true, Bool.false_or, Bool.or_false, Bool.true_or]
  | n + 1, .grow q p, h, hp => by
    have ih := law_turned_ok h0 h7 n p (by unfold dp at h; omega) hp.2
    have lq := hp.1.len
    simp only [m_law_turned, fD, fT, at0, at1, at2', out_T, ok_bindP, len3, d31, q_grow_move, q_grow_eat, q_grow_grow, law_tcs_ok hp.1.up h0 h7 (show q.length ≤ 50000 by omega), ih, imP, Bool.false_eq_true, if_false, if_true, Bool.false_or, Bool.or_false, Bool.true_or]
  | n + 1, .both a b, h, hp => by
    have ia := law_turned_ok h0 h7 n a (by unfold dp at h; omega) hp.1
    have ib := law_turned_ok h0 h7 n b (by unfold dp at h; omega) hp.2
    simp only [m_law_turned, fD, at0, at1, at2', ok_bindP, len3, d31, q_both_move, q_both_eat, q_both_grow, ia, ib, imP, Bool.false_eq_true, if_false, if_true, Bool.false_or, Bool.or_false, Bool.true_or]
  | n + 1, .either a b, h, hp => by
    have ia := law_turned_ok h0 h7 n a (by unfold dp at h; omega) hp.1
    have ib := law_turned_ok h0 h7 n b (by unfold dp at h; omega) hp.2
    simp only [m_law_turned, fD, at0, at1, at2', ok_bindP, len3, d31, q_either_move, q_either_eat, q_either_grow, ia, ib, imP, Bool.false_eq_true, if_false, if_true, Bool.false_or, Bool.or_false, Bool.true_or]
def gA : List (Int × Int) := (rangeI 0 12).map fun y => ((0 : Int), (1000 : Int) * y)
def gB : List (Int × Int) := (rangeI 0 12).map fun y => ((40 : Int) * y, (0 : Int))
theorem pceA : Pce 12 gA := ⟨by unfold Up; decide +kernel, by decide +kernel, by decide +kernel, by unfold Smt; decide +kernel⟩
theorem pceB : Pce 12 gB := ⟨by unfold Up; decide +kernel, by decide +kernel, by decide +kernel, by unfold Smt; decide +kernel⟩
/-- a plan that is not too deep -/
structure Pq (p : Pl) : Prop where
  dp : dp p ≤ 4
  pcs : Pcs 12 p
  cnt : cnt p ≤ 145
theorem great_ok {l : List Int} (hl : Sgl l) : Gd (m_law_great l) fun r => (∃ p, r.1 = fD p ∧ Pq p) ∧ Sgl r.2 := by
  have lA : gA.length = 12 := by decide +kernel
  have lB : gB.length = 12 := by decide +kernel
  unfold m_law_great
  refine Gd.bind (P := fun f => f = fD (.grow gA .keep)) ?_ fun f ef => ?_
  · refine Gd.bind (P := fun x => x = (("grow" : Str), gA, ("keep" : Str))) (Gd.bind (P := fun x => x = (gA, ("keep" : Str))) (Gd.bind (P := fun x => x = gA) (Gd.bind (P := fun x => x = gA) (Gd.mapRB (g := fun y => ((0 : Int), (1000 : Int) * y)) (fun _ _ => rfl) (Gd.chk (small_size (by rw [List.length_map, len_rangeI]; decide)) rfl)) fun x e => Gd.ok e) fun x e => Gd.ok (by rw [e])) fun x e => Gd.ok (by rw [e])) fun x e => Gd.ok (by rw [e]; rfl)
  subst ef
  refine Gd.bind (P := fun f : Dy × List Int => (∃ p, f.1 = fD p ∧ G.dp p = 2 ∧ Pcs 12 p ∧ G.cnt p = 144) ∧ Sgl f.2) (takeB hl (by decide) (by decide) fun d l' d0 d1 h => ?_) fun f hf => ?_
  · obtain ⟨x, ex, hx⟩ := atN (xs := [("grow" : Str), ("eat" : Str)]) d d0 d1
    refine Gd.optB ex ?_
    refine Gd.bind (P := fun x => x = gB) (Gd.bind (P := fun x => x = gB) (Gd.mapRB (g := fun y => ((40 : Int) * y, (0 : Int))) (fun _ _ => rfl) (Gd.chk (small_size (by rw [List.length_map, len_rangeI]; decide)) rfl)) fun x e => Gd.ok e) fun y e => ?_
    subst e
    simp only [List.mem_cons, List.not_mem_nil, or_false] at hx
    rcases hx with rfl | rfl
    · exact Gd.ok ⟨⟨.grow gB (.grow gA .keep), rfl, rfl, ⟨pceB, pceA, trivial⟩, by show 1 * gA.length * gB.length = 144; rw [lA, lB]⟩, h⟩
    · exact Gd.ok ⟨⟨.eat gB (.grow gA .keep), rfl, rfl, ⟨pceB, pceA, trivial⟩, by show 1 * gA.length * gB.length = 144; rw [lA, lB]⟩, h⟩
  · obtain ⟨⟨p, ef, h1, h2, h3⟩, hs⟩ := hf
    refine takeB hs (by decide) (by decide) fun d l' d0 d1 h => ?_
    obtain ⟨x, ex, hx⟩ := atN (xs := [f.1, ((fun x => Dy.tup [Dy.str x.1, (fun x => Dy.tup [Dy.str x]) x.2.1, (fun d => d) x.2.2]) (("either" : Str), ("keep" : Str), f.1) : Dy), ((fun x => Dy.tup [Dy.str x.1, (fun d => d) x.2.1, (fun x => Dy.tup [Dy.str x]) x.2.2]) (("both" : Str), f.1, ("none" : Str)) : Dy)]) d d0 d1
    refine Gd.optB ex (Gd.ok ⟨?_, h⟩)
    rw [ef] at hx
    simp only [List.mem_cons, List.not_mem_nil, or_false] at hx
    rcases hx with rfl | rfl | rfl
    · exact ⟨p, rfl, by omega, h2, by omega⟩
    · exact ⟨.either .keep p, rfl, by show max 0 (G.dp p) + 1 ≤ 4; omega, ⟨trivial, h2⟩, by show 1 + G.cnt p ≤ 145; omega⟩
    · exact ⟨.both p .nothing, rfl, by show max (G.dp p) 0 + 1 ≤ 4; omega, ⟨h2, trivial⟩, by show G.cnt p + 0 ≤ 145; omega⟩
/-- the words of a plan as a value of any kind, told alike -/
theorem same_w {p : Pl} (hp : Pcs 12 p) (hd : dp p ≤ 10) : m_law_same 12 (Dy.lst (List.map Dy.str (W p))) (Dy.lst (List.map Dy.str (W p))) = .ok true := by
  refine same_ok 12 _ ⟨?_, fun x hx => ?_⟩
  · rw [List.length_map]
    have := W_len p hp
    have := pow_dp hd
    omega
  · obtain ⟨w, hw, rfl⟩ := List.mem_map.mp hx
    exact W_ok p w hw
def tol (m : R Shp) : Option Shp := match m with
  | .ok r => some r
  | _ => none
theorem law_done_ok {p : Pl} {S : Shp} {P : Shp → Prop} (h : Gr (m_D_done 8 p S) P) : m_law_done p S = .ok (tol (m_D_done 8 p S)) := by
  unfold m_law_done
  dsimp only
  rcases h with ⟨r, e, _⟩ | e
  · rw [e]
    rfl
  · rw [e]
    rfl
/-! ### two values told alike -/
def OkD : Nat → Dy → Prop
  | 0, _ => False
  | n + 1, .tup l => l.length ≤ 1000 ∧ ∀ x ∈ l, OkD n x
  | n + 1, .lst l => l.length ≤ 1000 ∧ ∀ x ∈ l, OkD n x
  | _ + 1, .str s => PyData.strOk s = true
  | _ + 1, _ => True
mutual
theorem eqv_refl : ∀ d : Dy, PyData.eqv d.dat d.dat = true
  | .non => by simp [Dy.dat, PyData.eqv]
  | .int i => by simp [Dy.dat, PyData.eqv]
  | .bl i => by simp [Dy.dat, PyData.eqv]
  | .str i => by simp [Dy.dat, PyData.eqv]
  | .tup l => by
    rw [Dy.dat]
    simp only [PyData.eqv]
    exact eqvs_refl l
  | .lst l => by
    rw [Dy.dat]
    simp only [PyData.eqv]
    exact eqvs_refl l
theorem eqvs_refl : ∀ l : List Dy, PyData.eqvAll (Dy.dats l) (Dy.dats l) = true
  | [] => by simp [Dy.dats, PyData.eqvAll]
  | d :: l => by
    rw [Dy.dats]
    simp only [PyData.eqvAll]
    rw [eqv_refl d, eqvs_refl l]
    rfl
end
theorem lay_rows {n : Nat} : ∀ {l : List Dy}, (∀ x ∈ l, x.dat.canLay0 = true ∧ x.dat.depth ≤ n) → PyData.canLayAll0 (Dy.dats l) = true ∧ PyData.depthAll (Dy.dats l) ≤ n
  | [], _ => by
    rw [Dy.dats]
    exact ⟨by simp [PyData.canLayAll0], by simp [PyData.depthAll]⟩
  | d :: l, h => by
    obtain ⟨a, b⟩ := h d List.mem_cons_self
    obtain ⟨c, e⟩ := lay_rows (l := l) fun x hx => h x (List.mem_cons_of_mem _ hx)
    rw [Dy.dats]
    refine ⟨by simp [PyData.canLayAll0, a, c], ?_⟩
    simp only [PyData.depthAll]
    omega
theorem lay_of : ∀ (n : Nat) (d : Dy), OkD n d → d.dat.canLay0 = true ∧ d.dat.depth ≤ n
  | 0, _, h => h.elim
  | n + 1, d, h => by
    cases d with
    | non => exact ⟨by simp [Dy.dat, PyData.canLay0], by simp [Dy.dat, PyData.depth]⟩
    | int i => exact ⟨by simp [Dy.dat, PyData.canLay0], by simp [Dy.dat, PyData.depth]⟩
    | bl i => exact ⟨by simp [Dy.dat, PyData.canLay0], by simp [Dy.dat, PyData.depth]⟩
    | str i =>
      have h' : PyData.strOk i = true := h
      exact ⟨by simp [Dy.dat, PyData.canLay0, h'], by simp [Dy.dat, PyData.depth]⟩
    | tup l =>
      rw [Dy.dat]
      obtain ⟨a, b⟩ := lay_rows (n := n) (l := l) fun x hx => lay_of n x (h.2 x hx)
      exact ⟨by simp [PyData.canLay0, a], by simp only [PyData.depth]; omega⟩
    | lst l =>
      rw [Dy.dat]
      obtain ⟨a, b⟩ := lay_rows (n := n) (l := l) fun x hx => lay_of n x (h.2 x hx)
      exact ⟨by simp [PyData.canLay0, a], by simp only [PyData.depth]; omega⟩
theorem shp_of {n : Nat} {d : Dy} (h : OkD n d) (hn : n ≤ 60) : d.shp = true := by
  obtain ⟨a, b⟩ := lay_of n d h
  unfold Dy.shp SeqAt.shaped
  simp [a]
  omega
theorem gr_of_alk {f : Int × Int → Int × Int} {a b : R Shp} {n : Nat} (h : Alk f a b n) : Gr a (fun _ => True) ∧ Gr b (fun _ => True) := by
  rcases h with ⟨r, e1, e2, _⟩ | ⟨e1, e2⟩
  · exact ⟨.inl ⟨_, e1, trivial⟩, .inl ⟨_, e2, trivial⟩⟩
  · exact ⟨.inr e1, .inr e2⟩
theorem turns_ok {p : Pl} (hp : Pq p) {ss : List Shp} (hs : ∀ s ∈ ss, Sh1 s) {t : Int} (h0 : 0 ≤ t) (h7 : t ≤ 7) : m_law_turns (fD p) p ss t = .ok true := by
  obtain ⟨pd, pq, pc⟩ := hp
  have id := dp_imP (tcl t) p
  have iq := pcs_imP (m := 12) (l := tcl t) (tcl_smt h0 h7) pq
  have e1 := words_ok 8 (imP (tcl t) p) (by omega) (by omega) iq
  have e2 := law_turned_ok h0 h7 8 p (by omega) pq
  have e3 := law_words_ok 8 (imP (tcl t) p) (by omega) (by omega) iq
  have e4 := same_w iq (by omega)
  refine Gd.eq ?_
  unfold m_law_turns
  refine Gd.eqB (turn_ok h0 h7 8 p (by omega) pq) ?_
  refine Gd.eqB (a := false) (by simp only [e1, e2, e3, e4, ok_bindP, Bool.not_true]) (Gd.ite (fun h => by cases h) fun _ => ?_)
  refine Gd.forSB (I := fun _ => True) (fun _ x hx _ => ?_) trivial fun _ _ => Gd.ok rfl
  have hx' := hs x hx
  have lx := hx'.len
  have b1 := Nat.mul_le_mul lx pc
  have al := done_iso (iso_tcl h0 h7) (tcl_smt h0 h7) hx'.up (m := 12) (by decide) 8 p (by omega) pq (by omega) (by omega)
  obtain ⟨g1, g2⟩ := gr_of_alk al
  have et : m_law_turned_cells x.1 t = .ok (imC (tcl t) x.1) := law_tcs_ok hx'.up h0 h7 (by omega)
  refine Gd.eqB (law_done_ok g1) ?_
  refine Gd.eqB (a := tol (m_D_done 8 (imP (tcl t) p) (imS (tcl t) x))) (by simp only [et, ok_bindP]; exact law_done_ok g2) ?_
  rcases al with ⟨r, a1, a2, ur, lr⟩ | ⟨a1, a2⟩
  · rw [a1, a2]
    refine Gd.ite (fun h => by cases h) fun _ => ?_
    have er : m_law_turned_cells r.1 t = .ok (imC (tcl t) r.1) := law_tcs_ok ur h0 h7 (by omega)
    have es : m_law_same 12 (dyS (imS (tcl t) r)) (dyS (imS (tcl t) r)) = .ok true := same_ok 12 _ (okS 8 _ (by
      have := len_imC_le (tcl t) r.1
      show (imC (tcl t) r.1).length ≤ _
      omega))
    refine Gd.eqB (a := false) ?_ (Gd.ite (fun h => by cases h) fun _ => Gd.nx trivial)
    show (if (some r : Option Shp).isSome = true then _ else R.ok false) = _
    rw [if_pos (show (some r : Option Shp).isSome = true from rfl)]
    simp only [tol, ofOpt, ok_bindP, er]
    show (R.bind (m_law_same 12 (dyS (imS (tcl t) r)) (dyS (imS (tcl t) r))) _) = _
    rw [es]
    rfl
  · rw [a1, a2]
    refine Gd.ite (fun h => by cases h) fun _ => ?_
    exact Gd.eqB (a := false) rfl (Gd.ite (fun h => by cases h) fun _ => Gd.nx trivial)
/-! ### moved -/
def sh (u : Int × Int) (c : Int × Int) : Int × Int := (c.1 + u.1, c.2 + u.2)
theorem iso_sh (u : Int × Int) : Iso (sh u) (sh (-u.1, -u.2)) (fun c => c) := by
  refine ⟨fun c => ?_, fun c => ?_, fun c s => ?_⟩ <;> unfold sh <;> ext <;> simp <;> omega
theorem mv_im {s : Shp} (u : Up s.1) (t : Int × Int) : mvS s t = imS (sh t) s := imS_eq (iso_sh t) (up_mv u t) rfl fun c => by
  rw [has_mv]
  unfold sh
  simp
theorem moves_ok {p : Pl} (hp : Pq p) {s : Shp} (hs : Sh1 s) (t : Int × Int) : m_law_moves p s t = .ok true := by
  obtain ⟨pd, pq, pc⟩ := hp
  have ls := hs.len
  have b1 := Nat.mul_le_mul ls pc
  have al := done_iso (iso_sh t) (fun _ h => h) hs.up (m := 12) (by decide) 8 p (by omega) pq (by omega) (by omega)
  rw [imP_id pq, ← mv_im hs.up t] at al
  obtain ⟨g1, g2⟩ := gr_of_alk al
  refine Gd.eq ?_
  unfold m_law_moves
  refine Gd.bind (P := fun r => r = mvS s t) (Gd.bind (P := fun r => r = (mvS s t).1) (Gd.bind (P := fun r => r = (mvS s t).1) (Gd.mapRB (g := fun y => (y.1 + t.1, y.2 + t.2)) (fun _ _ => rfl) (Gd.chk (small_size (by rw [List.length_map]; omega)) rfl)) fun r e => Gd.ok e) fun r e => Gd.ok (by rw [e]; rfl)) fun r e => ?_
  subst e
  refine Gd.eqB (law_done_ok g1) (Gd.eqB (law_done_ok g2) ?_)
  rcases al with ⟨r, a1, a2, ur, lr⟩ | ⟨a1, a2⟩
  · rw [a1, a2]
    refine Gd.ite (fun h => by cases h) fun _ => ?_
    refine Gd.bind (P := fun z => z = (dyS (imS (sh t) r), dyS (imS (sh t) r))) (Gd.bind (P := fun z => z = dyS (imS (sh t) r)) (Gd.bind (P := fun z => z = mvS r t) (Gd.bind (P := fun z => z = (mvS r t).1) (Gd.bind (P := fun z => z = (mvS r t).1) (Gd.eqB (a := r.1) rfl (Gd.mapRB (g := fun y => (y.1 + t.1, y.2 + t.2)) (fun _ _ => rfl) (Gd.chk (small_size (by rw [List.length_map]; omega)) rfl))) fun z e => Gd.ok e) fun z e => Gd.eqB (a := r.2) rfl (Gd.ok (by rw [e]; rfl))) fun z e => Gd.ok (by rw [e, mv_im ur])) fun z e => Gd.ok (by rw [e]; rfl)) fun z e => ?_
    subst e
    refine Gd.of (same_ok 12 _ (okS 8 _ ?_)) rfl
    have := len_imC_le (sh t) r.1
    show (imC (sh t) r.1).length ≤ _
    omega
  · rw [a1, a2]
    exact Gd.ite (fun _ => Gd.ok rfl) fun h => absurd rfl h
/-! ### more cells -/
theorem Sem.mono {f g : Int × Int → Prop} (h : ∀ c, f c → g c) : ∀ (p : Pl) (c : Int × Int), Sem p f c → Sem p g c
  | .keep, c, k => h c k
  | .nothing, _, k => k
  | .everything, _, k => k
  | .move t p, c, k => Sem.mono h p _ k
  | .eat q p, c, k => fun t ht => Sem.mono h p _ (k t ht)
  | .grow q p, c, ⟨t, ht, k⟩ => ⟨t, ht, Sem.mono h p _ k⟩
  | .both a b, c, k => ⟨Sem.mono h a c k.1, Sem.mono h b c k.2⟩
  | .either a b, c, k => k.elim (fun k => .inl (Sem.mono h a c k)) fun k => .inr (Sem.mono h b c k)
theorem noted_ok (xs : List (Int × Int)) (h : xs.length ≤ 50000) : Gd (m_law_noted xs) fun d => ∀ y, (dGet d y).isSome = hasB y xs := by
  unfold m_law_noted
  refine (Gd.forRl (I := fun p d => SeenBy p d) (fun p x q d e hi => ?_) SeenBy.nil).bind fun d hd => Gd.ok hd.2
  have z := congrArg List.length e
  simp only [List.length_append, List.length_cons] at z
  have z2 := hi.1
  exact Gd.chkB (small_lt (by omega)) (Gd.ok (hi.put x true))
theorem lk_has (S : Shp) (c : Int × Int) : (!decide (hasB c S.1 = S.2)) = hasS S c := by
  unfold hasS
  cases hasB c S.1 <;> cases S.2 <;> rfl
theorem more_ok {p : Pl} (hp : Pq p) {S O : Shp} (hS : Sh1 S) (hO : Sh1 O) : m_law_more p S O = .ok true := by
  obtain ⟨pd, pq, pc⟩ := hp
  have ls := hS.len
  have lo := hO.len
  have b1 := Nat.mul_le_mul ls pc
  refine Gd.eq ?_
  unfold m_law_more
  have lr : (rise (S.1 ++ O.1)).length ≤ 40 := Nat.le_trans (len_rise _) (by rw [List.length_append]; omega)
  refine Gd.bind (P := fun r => r = rise (S.1 ++ O.1)) (Gd.bind (P := fun r => r = rise (S.1 ++ O.1)) (Gd.chkB (small_size (by omega)) (Gd.chk (by omega) rfl)) fun r e => Gd.ok e) fun r e => ?_
  subst e
  refine Gd.bind (P := fun T => Up T ∧ T.length ≤ 40 ∧ ∀ c, hasS S c = true → hasS (T, S.2) c = true) (Gd.ite (fun hb => ?_) fun hb => Gd.ok ⟨up_rise _, lr, fun c hc => ?_⟩) fun T hT => ?_
  · have lf := List.length_filter_le (fun y => !hasB y O.1) S.1
    refine Gd.bind (P := fun r => r = S.1.filter fun y => !hasB y O.1) (Gd.bind (P := fun r => r = S.1.filter fun y => !hasB y O.1) (Gd.fmRB (p := fun y => !hasB y O.1) (g := fun y => y) (fun _ _ => rfl) (fun _ _ => rfl) (Gd.chk (small_size (by rw [List.length_map]; omega)) (List.map_id' _))) fun r e => Gd.ok e) fun r e => Gd.ok ?_
    subst e
    refine ⟨List.Pairwise.filter _ hS.up, by omega, fun c hc => ?_⟩
    have hb' : S.2 = true := hb
    rw [has_inf (a := (S.1.filter fun y => !hasB y O.1, S.2)) hb']
    rw [has_inf hb'] at hc
    exact fun h => hc (List.mem_filter.mp h).1
  · have hb' : S.2 = false := by
      have : ¬ S.2 = true := hb
      simpa using this
    rw [has_fin (a := (rise (S.1 ++ O.1), S.2)) hb', mem_rise]
    rw [has_fin hb'] at hc
    exact List.mem_append_left _ hc
  obtain ⟨uT, lT, mT⟩ := hT
  have b2 := Nat.mul_le_mul lT pc
  have g1 := done_or hS.up (m := 12) (by decide) 8 p (by omega) pq (by omega) (by omega)
  have g2 := done_or (S := (T, S.2)) uT (m := 12) (by decide) 8 p (by omega) pq (by show T.length * cnt p ≤ _; omega) (by show T.length ≤ _; omega)
  refine Gd.eqB (law_done_ok g1) (Gd.eqB (law_done_ok g2) ?_)
  rcases g1 with ⟨r, e1, k1⟩ | e1
  · rcases g2 with ⟨w, e2, k2⟩ | e2
    · rw [e1, e2]
      refine Gd.ite (fun h => by cases h) fun _ => ?_
      refine Gd.eqB (a := r.2) rfl ?_
      have rr : r.2 = w.2 := k1.md.rest.trans k2.md.rest.symm
      have sub : ∀ c, hasS r c = true → hasS w c = true := fun c hc => (k2.md.has c).mpr (Sem.mono mT p c ((k1.md.has c).mp hc))
      have l1 := k1.few
      have l2 := k2.few
      refine Gd.ite (fun hb => ?_) fun hb => ?_
      · have hb' : r.2 = true := hb
        refine Gd.bind (P := fun d : List ((Int × Int) × Bool) => ∀ y, (dGet d y).isSome = hasB y r.1) (Gd.eqB (a := r.1) rfl (noted_ok r.1 (by omega))) fun d hd => ?_
        refine Gd.eqB (a := w.2) rfl (Gd.ite (fun _ => ?_) fun h => absurd (rr.symm.trans hb') h)
        refine Gd.bind (P := fun z => z = w.1.map fun y => (dGet d y).isSome) (Gd.eqB (a := w.1) rfl (Gd.mapRB (g := fun y => (dGet d y).isSome) (fun _ _ => rfl) (Gd.chk (small_size (by rw [List.length_map]; omega)) rfl))) fun z e => Gd.ok ?_
        rw [e, List.all_map, List.all_eq_true]
        intro y hy
        show (dGet d y).isSome = true
        rw [hd, hasB_iff]
        have h2 := (has_inf (rr.symm.trans hb') y)
        exact Classical.byContradiction fun no => (h2.mp (sub y ((has_inf hb' y).mpr no))) hy
      · have hb' : r.2 = false := by
          have : ¬ r.2 = true := hb
          simpa using this
        refine Gd.bind (P := fun d : List ((Int × Int) × Bool) => ∀ y, (dGet d y).isSome = hasB y w.1) (Gd.eqB (a := w.1) rfl (noted_ok w.1 (by omega))) fun d hd => ?_
        refine Gd.bind (P := fun z => z = r.1.map fun y => !decide ((dGet d y).isSome = w.2)) (Gd.eqB (a := r.1) rfl (Gd.mapRB (g := fun y => !decide ((dGet d y).isSome = w.2)) (fun _ _ => rfl) (Gd.chk (small_size (by rw [List.length_map]; omega)) rfl))) fun z e => Gd.ok ?_
        rw [e, List.all_map, List.all_eq_true]
        intro y hy
        show (!decide ((dGet d y).isSome = w.2)) = true
        rw [hd, lk_has]
        exact sub y ((has_fin hb' y).mpr hy)
    · rw [e1, e2]
      exact Gd.ite (fun _ => Gd.ok rfl) fun h => absurd rfl h
  · rw [e1]
    exact Gd.ite (fun _ => Gd.ok rfl) fun h => absurd rfl h
theorem refused_ok {p : Pl} (hp : Pq p) {t : Int} (h : t < 0 ∨ 8 ≤ t) : m_law_refused p t = .ok true := by
  have e := turn_bad h 8 p (by have := hp.dp; omega) hp.pcs
  unfold m_law_refused
  show R.bind (catchR _ _ (R.bind (m_D_by_turn 8 p t) _)) _ = _
  rw [e]
  rfl
theorem w_shp {p : Pl} (hp : Pq p) : Dy.shp (Dy.lst (List.map Dy.str (W p))) = true := by
  refine shp_of (n := 2) (d := Dy.lst (List.map Dy.str (W p))) ⟨?_, fun x hx => ?_⟩ (by decide)
  · rw [List.length_map]
    have := W_len p hp.pcs
    have := Nat.pow_le_pow_right (n := 2) (by decide) hp.dp
    omega
  · obtain ⟨w, hw, rfl⟩ := List.mem_map.mp hx
    exact W_ok p w hw
theorem law_ok (ns : List Int) (hl : ns.length ≤ 63) (_ : ∀ z ∈ ns, Builtin.Int.intBits z ≤ 1048576) : m_law ns = .ok true := by
  refine Gd.eq ?_
  unfold m_law
  have cl := cut_len (xs := ns) (lo := none) (hi := some 12)
  refine Gd.chkB (small_size (by simp; omega)) ?_
  refine Gd.forSB (I := fun _ => True) (fun s x hx _ => ?_) trivial fun s _ => Gd.ok rfl
  refine Gd.bind (P := fun r => Sgl r) ((deal3_ok _ (by decide) (by decide)).bind fun a _ => Gd.ok ⟨a, rfl⟩) fun pot hp => ?_
  refine gd_calm (take_ok hp (by decide) (by decide)) fun z ⟨⟨z0, z1⟩, hz⟩ => ?_
  obtain ⟨d, hd⟩ : ∃ d : Nat, z.1 = (d : Int) := ⟨z.1.toNat, by omega⟩
  rw [hd]
  refine gd_calm (form_ok (m := 3) (by decide) (by decide) 6 d z.2 (by omega) hz) fun f ⟨⟨p0, ef0, hd0, hq0⟩, h1⟩ => ?_
  refine Gd.bind (P := fun w : Bool × List Int => Sgl w.2) (takeB h1 (by decide) (by decide) fun _ _ _ _ h => Gd.ok h) fun w hw => ?_
  dsimp only
  refine Gd.bind (P := fun s : List Int × Dy => (∃ p, s.2 = fD p ∧ Pq p) ∧ Sgl s.1) (Gd.ite (fun _ => ?_) fun _ => Gd.ok ⟨⟨p0, ef0, ?_⟩, hw⟩) fun s hs => ?_
  · exact gd_calm (great_ok hw) fun g ⟨g1, g2⟩ => Gd.ok ⟨g1, g2⟩
  · refine ⟨by omega, pcs_mono (by decide) hq0, ?_⟩
    have := Nat.le_trans (cnt_le (m := 3) (by decide) p0 hq0) (Nat.pow_le_pow_right (by decide) (show dp p0 ≤ 4 by omega))
    omega
  obtain ⟨⟨p, ef, pp⟩, hs1⟩ := hs
  rw [ef]
  have pd := pp.dp
  refine Gd.eqB (plan_ok 8 p (by omega)) ?_
  refine gd_calm (shape_ok hs1) fun one ⟨h1, p1⟩ => gd_calm (shape_ok p1) fun other ⟨h2, p2⟩ => ?_
  refine gd_calm (take_ok p2 (by decide) (by decide)) fun t ⟨⟨t0, t1⟩, ht⟩ => ?_
  have hss : ∀ y ∈ [one.1, other.1, one.1], Sh1 y := fun y hy => by
    simp only [List.mem_cons, List.not_mem_nil, or_false] at hy
    rcases hy with rfl | rfl | rfl
    · exact h1
    · exact h2
    · exact h1
  refine Gd.bind (P := fun w : Bool × List Int => w.1 = false ∧ Sgl w.2) (Gd.bind (P := fun w : Bool × List Int => w.1 = false ∧ Sgl w.2) ?_ fun w h => Gd.ok h) fun w hw => ?_
  · refine Gd.bind (P := fun b => b = false) (Gd.eqB (turns_ok pp hss t0 (by omega)) (Gd.ok rfl)) fun b e => ?_
    subst e
    refine Gd.ite (fun h => by cases h) fun _ => gd_calm (step_ok ht) fun st ⟨_, hst⟩ => ?_
    exact Gd.eqB (moves_ok pp h1 st.1) (Gd.ok ⟨rfl, hst⟩)
  obtain ⟨w1, w2⟩ := hw
  try dsimp only
  rw [w1]
  refine Gd.ite (fun h => by cases h) fun _ => ?_
  have m0 := Int.emod_nonneg x (show (10000000000000000000000000000000000000000 : Int) ≠ 0 by decide)
  refine Gd.bind (P := fun b : Int × List Int => b.1 < 0 ∨ 8 ≤ b.1) ?_ fun b hb => ?_
  · refine Gd.bind (P := fun xs : List Int => xs.length = 4 ∧ ∀ b ∈ xs, b < 0 ∨ 8 ≤ b) ?_ fun xs hxs => takeB w2 (by decide) (by decide) fun k l' k0 k1 h' => ?_
    · have e1 : chk (0 < (10000000000000000000000000000000000000000 : Int)) (x % (10000000000000000000000000000000000000000 : Int)) = .ok (x % (10000000000000000000000000000000000000000 : Int)) := if_pos (by decide)
      simp only [e1, ok_bindP]
      refine Gd.ok ⟨rfl, fun b hb => ?_⟩
      simp only [List.mem_cons, List.not_mem_nil, or_false] at hb
      omega
    · obtain ⟨y, ey, hy⟩ := atN (xs := xs) k k0 (by rw [hxs.1]; exact k1)
      exact Gd.optB ey (Gd.ok (hxs.2 y hy))
  refine Gd.eqB (a := false) ?_ (Gd.ite (fun h => by cases h) fun _ => Gd.nx trivial)
  have e1 := more_ok pp h1 h2
  have e2 := refused_ok pp hb
  have e3 := law_words_ok 8 p (by omega) (by omega) pp.pcs
  have e4 := words_ok 8 p (by omega) (by omega) pp.pcs
  simp only [e1, e2, e3, e4, ok_bindP, Bool.not_true, Bool.false_eq_true, if_false]
  show chk _ (!Dy.eqv (Dy.lst (List.map Dy.str (W p))) (Dy.lst (List.map Dy.str (W p)))) = _
  unfold chk
  rw [if_pos ⟨w_shp pp, w_shp pp⟩]
  show R.ok (!PyData.eqv (Dy.dat _) (Dy.dat _)) = _
  rw [eqv_refl]
  rfl
end G

namespace G
open PySem PySem.Spec PyProof.Rows L2 Py
open PySem.W in
theorem all_mk {l : PySem.W.OpenLaw} {w : World} {K : PySem.W.Frag} {h : Heap} {mg : Str → Option Value} {fa : Addr} (X : K.In h) (G : h.Ns mainGlobals mg) (hfa : mg "law" = some (.ref fa))
    {f_law_deal f_law_take f_law_step f_law_piece f_law_form f_law_great f_law_plan f_law_shape flook_at_turn fKeep_by_turn fNothing_by_turn fEverything_by_turn fturned_cell fMove_by_turn frising fturned_piece fEat_by_turn fGrow_by_turn fBoth_by_turn fEither_by_turn fKeep_words fNothing_words fEverything_words fstep_words fMove_words fEat_words fGrow_words fBoth_words fEither_words f_law_turned_cell f_law_turned_cells f_law_turned f_law_parts f_law_words f_law_same fPlan_made fNothing_made fEverything_made fmoved_cell fmoved fMove_made fmirrored flies_on freached fless_cell fkept_at featen fEat_made fgrown fGrow_made fonly_in fboth fBoth_made foutside feither fEither_made fPlan_done f_law_done f_law_turns f_law_moves f_law_noted f_law_more f_law_refused flaw fMove___init__ fEat___init__ fGrow___init__ fBoth___init__ fEither___init__ : Addr}
    {c_BadCell : Addr} (ac_BadCell : PySem.W.nsIn K mainGlobals "BadCell" = some (some (.ref c_BadCell)))
    {c_BadTurn : Addr} (ac_BadTurn : PySem.W.nsIn K mainGlobals "BadTurn" = some (some (.ref c_BadTurn)))
    {c_Both : Addr} (ac_Both : PySem.W.nsIn K mainGlobals "Both" = some (some (.ref c_Both)))
    {c_Eat : Addr} (ac_Eat : PySem.W.nsIn K mainGlobals "Eat" = some (some (.ref c_Eat)))
    {c_Either : Addr} (ac_Either : PySem.W.nsIn K mainGlobals "Either" = some (some (.ref c_Either)))
    {c_Everything : Addr} (ac_Everything : PySem.W.nsIn K mainGlobals "Everything" = some (some (.ref c_Everything)))
    {c_Grow : Addr} (ac_Grow : PySem.W.nsIn K mainGlobals "Grow" = some (some (.ref c_Grow)))
    {c_Keep : Addr} (ac_Keep : PySem.W.nsIn K mainGlobals "Keep" = some (some (.ref c_Keep)))
    {c_MossError : Addr} (ac_MossError : PySem.W.nsIn K mainGlobals "MossError" = some (some (.ref c_MossError)))
    {c_Move : Addr} (ac_Move : PySem.W.nsIn K mainGlobals "Move" = some (some (.ref c_Move)))
    {c_Nothing : Addr} (ac_Nothing : PySem.W.nsIn K mainGlobals "Nothing" = some (some (.ref c_Nothing)))
    {c_TooMany : Addr} (ac_TooMany : PySem.W.nsIn K mainGlobals "TooMany" = some (some (.ref c_TooMany)))
    {od_law_deal an_law_deal : Option Addr} {sl_law_deal : Array (Option Value)} {oc_law_deal kV_law_deal dc_law_deal pm_law_deal cd_law_deal ct_law_deal : Value}
    (a_law_deal : PySem.W.nsIn K mainGlobals "_law_deal" = some (some (.ref f_law_deal))) (l_law_deal : K.lookup f_law_deal = some ⟨oc_law_deal, od_law_deal, .func (PySem.W.fnOf "_law_deal" "_law_deal" (defArgs s_law_deal) (defBody s_law_deal) (defScope s_law_deal) .none kV_law_deal dc_law_deal pm_law_deal an_law_deal cd_law_deal ct_law_deal), sl_law_deal⟩) (c_law_deal : PySem.W.codeIn K cd_law_deal "_law_deal" = true) (k_law_deal : PySem.W.keepIn K (.ref f_law_deal) = true)
    {od_law_take an_law_take : Option Addr} {sl_law_take : Array (Option Value)} {oc_law_take kV_law_take dc_law_take pm_law_take cd_law_take ct_law_take : Value}
    (a_law_take : PySem.W.nsIn K mainGlobals "_law_take" = some (some (.ref f_law_take))) (l_law_take : K.lookup f_law_take = some ⟨oc_law_take, od_law_take, .func (PySem.W.fnOf "_law_take" "_law_take" (defArgs s_law_take) (defBody s_law_take) (defScope s_law_take) .none kV_law_take dc_law_take pm_law_take an_law_take cd_law_take ct_law_take), sl_law_take⟩) (c_law_take : PySem.W.codeIn K cd_law_take "_law_take" = true) (k_law_take : PySem.W.keepIn K (.ref f_law_take) = true)
    {od_law_step an_law_step : Option Addr} {sl_law_step : Array (Option Value)} {oc_law_step kV_law_step dc_law_step pm_law_step cd_law_step ct_law_step : Value}
    (a_law_step : PySem.W.nsIn K mainGlobals "_law_step" = some (some (.ref f_law_step))) (l_law_step : K.lookup f_law_step = some ⟨oc_law_step, od_law_step, .func (PySem.W.fnOf "_law_step" "_law_step" (defArgs s_law_step) (defBody s_law_step) (defScope s_law_step) .none kV_law_step dc_law_step pm_law_step an_law_step cd_law_step ct_law_step), sl_law_step⟩) (c_law_step : PySem.W.codeIn K cd_law_step "_law_step" = true) (k_law_step : PySem.W.keepIn K (.ref f_law_step) = true)
    {od_law_piece an_law_piece : Option Addr} {sl_law_piece : Array (Option Value)} {oc_law_piece kV_law_piece dc_law_piece pm_law_piece cd_law_piece ct_law_piece : Value}
    (a_law_piece : PySem.W.nsIn K mainGlobals "_law_piece" = some (some (.ref f_law_piece))) (l_law_piece : K.lookup f_law_piece = some ⟨oc_law_piece, od_law_piece, .func (PySem.W.fnOf "_law_piece" "_law_piece" (defArgs s_law_piece) (defBody s_law_piece) (defScope s_law_piece) .none kV_law_piece dc_law_piece pm_law_piece an_law_piece cd_law_piece ct_law_piece), sl_law_piece⟩) (c_law_piece : PySem.W.codeIn K cd_law_piece "_law_piece" = true) (k_law_piece : PySem.W.keepIn K (.ref f_law_piece) = true)
    {od_law_form an_law_form : Option Addr} {sl_law_form : Array (Option Value)} {oc_law_form kV_law_form dc_law_form pm_law_form cd_law_form ct_law_form : Value}
    (a_law_form : PySem.W.nsIn K mainGlobals "_law_form" = some (some (.ref f_law_form))) (l_law_form : K.lookup f_law_form = some ⟨oc_law_form, od_law_form, .func (PySem.W.fnOf "_law_form" "_law_form" (defArgs s_law_form) (defBody s_law_form) (defScope s_law_form) .none kV_law_form dc_law_form pm_law_form an_law_form cd_law_form ct_law_form), sl_law_form⟩) (c_law_form : PySem.W.codeIn K cd_law_form "_law_form" = true) (k_law_form : PySem.W.keepIn K (.ref f_law_form) = true)
    {od_law_great an_law_great : Option Addr} {sl_law_great : Array (Option Value)} {oc_law_great kV_law_great dc_law_great pm_law_great cd_law_great ct_law_great : Value}
    (a_law_great : PySem.W.nsIn K mainGlobals "_law_great" = some (some (.ref f_law_great))) (l_law_great : K.lookup f_law_great = some ⟨oc_law_great, od_law_great, .func (PySem.W.fnOf "_law_great" "_law_great" (defArgs s_law_great) (defBody s_law_great) (defScope s_law_great) .none kV_law_great dc_law_great pm_law_great an_law_great cd_law_great ct_law_great), sl_law_great⟩) (c_law_great : PySem.W.codeIn K cd_law_great "_law_great" = true) (k_law_great : PySem.W.keepIn K (.ref f_law_great) = true)
    {od_law_plan an_law_plan : Option Addr} {sl_law_plan : Array (Option Value)} {oc_law_plan kV_law_plan dc_law_plan pm_law_plan cd_law_plan ct_law_plan : Value}
    (a_law_plan : PySem.W.nsIn K mainGlobals "_law_plan" = some (some (.ref f_law_plan))) (l_law_plan : K.lookup f_law_plan = some ⟨oc_law_plan, od_law_plan, .func (PySem.W.fnOf "_law_plan" "_law_plan" (defArgs s_law_plan) (defBody s_law_plan) (defScope s_law_plan) .none kV_law_plan dc_law_plan pm_law_plan an_law_plan cd_law_plan ct_law_plan), sl_law_plan⟩) (c_law_plan : PySem.W.codeIn K cd_law_plan "_law_plan" = true) (k_law_plan : PySem.W.keepIn K (.ref f_law_plan) = true)
    {od_law_shape an_law_shape : Option Addr} {sl_law_shape : Array (Option Value)} {oc_law_shape kV_law_shape dc_law_shape pm_law_shape cd_law_shape ct_law_shape : Value}
    (a_law_shape : PySem.W.nsIn K mainGlobals "_law_shape" = some (some (.ref f_law_shape))) (l_law_shape : K.lookup f_law_shape = some ⟨oc_law_shape, od_law_shape, .func (PySem.W.fnOf "_law_shape" "_law_shape" (defArgs s_law_shape) (defBody s_law_shape) (defScope s_law_shape) .none kV_law_shape dc_law_shape pm_law_shape an_law_shape cd_law_shape ct_law_shape), sl_law_shape⟩) (c_law_shape : PySem.W.codeIn K cd_law_shape "_law_shape" = true) (k_law_shape : PySem.W.keepIn K (.ref f_law_shape) = true)
    {odlook_at_turn anlook_at_turn : Option Addr} {sllook_at_turn : Array (Option Value)} {oclook_at_turn kVlook_at_turn dclook_at_turn pmlook_at_turn cdlook_at_turn ctlook_at_turn : Value}
    (alook_at_turn : PySem.W.nsIn K mainGlobals "look_at_turn" = some (some (.ref flook_at_turn))) (llook_at_turn : K.lookup flook_at_turn = some ⟨oclook_at_turn, odlook_at_turn, .func (PySem.W.fnOf "look_at_turn" "look_at_turn" (defArgs slook_at_turn) (defBody slook_at_turn) (defScope slook_at_turn) .none kVlook_at_turn dclook_at_turn pmlook_at_turn anlook_at_turn cdlook_at_turn ctlook_at_turn), sllook_at_turn⟩) (clook_at_turn : PySem.W.codeIn K cdlook_at_turn "look_at_turn" = true) (klook_at_turn : PySem.W.keepIn K (.ref flook_at_turn) = true)
    {odKeep_by_turn anKeep_by_turn : Option Addr} {slKeep_by_turn : Array (Option Value)} {ocKeep_by_turn kVKeep_by_turn dcKeep_by_turn pmKeep_by_turn cdKeep_by_turn ctKeep_by_turn : Value}
    (aKeep_by_turn : PySem.W.findIn K (.ref c_Keep) "by_turn" = some (some (.ref fKeep_by_turn))) (lKeep_by_turn : K.lookup fKeep_by_turn = some ⟨ocKeep_by_turn, odKeep_by_turn, .func (PySem.W.fnOf "by_turn" "Keep.by_turn" (defArgs sKeep_by_turn) (defBody sKeep_by_turn) (defScope sKeep_by_turn) .none kVKeep_by_turn dcKeep_by_turn pmKeep_by_turn anKeep_by_turn cdKeep_by_turn ctKeep_by_turn), slKeep_by_turn⟩) (cKeep_by_turn : PySem.W.codeIn K cdKeep_by_turn "Keep.by_turn" = true) (kKeep_by_turn : PySem.W.keepIn K (.ref fKeep_by_turn) = true)
    (im_Keep_by_turn : PySem.W.isFn K (.ref fKeep_by_turn) = true)
    {odNothing_by_turn anNothing_by_turn : Option Addr} {slNothing_by_turn : Array (Option Value)} {ocNothing_by_turn kVNothing_by_turn dcNothing_by_turn pmNothing_by_turn cdNothing_by_turn ctNothing_by_turn : Value}
    (aNothing_by_turn : PySem.W.findIn K (.ref c_Nothing) "by_turn" = some (some (.ref fNothing_by_turn))) (lNothing_by_turn : K.lookup fNothing_by_turn = some ⟨ocNothing_by_turn, odNothing_by_turn, .func (PySem.W.fnOf "by_turn" "Nothing.by_turn" (defArgs sNothing_by_turn) (defBody sNothing_by_turn) (defScope sNothing_by_turn) .none kVNothing_by_turn dcNothing_by_turn pmNothing_by_turn anNothing_by_turn cdNothing_by_turn ctNothing_by_turn), slNothing_by_turn⟩) (cNothing_by_turn : PySem.W.codeIn K cdNothing_by_turn "Nothing.by_turn" = true) (kNothing_by_turn : PySem.W.keepIn K (.ref fNothing_by_turn) = true)
    (im_Nothing_by_turn : PySem.W.isFn K (.ref fNothing_by_turn) = true)
    {odEverything_by_turn anEverything_by_turn : Option Addr} {slEverything_by_turn : Array (Option Value)} {ocEverything_by_turn kVEverything_by_turn dcEverything_by_turn pmEverything_by_turn cdEverything_by_turn ctEverything_by_turn : Value}
    (aEverything_by_turn : PySem.W.findIn K (.ref c_Everything) "by_turn" = some (some (.ref fEverything_by_turn))) (lEverything_by_turn : K.lookup fEverything_by_turn = some ⟨ocEverything_by_turn, odEverything_by_turn, .func (PySem.W.fnOf "by_turn" "Everything.by_turn" (defArgs sEverything_by_turn) (defBody sEverything_by_turn) (defScope sEverything_by_turn) .none kVEverything_by_turn dcEverything_by_turn pmEverything_by_turn anEverything_by_turn cdEverything_by_turn ctEverything_by_turn), slEverything_by_turn⟩) (cEverything_by_turn : PySem.W.codeIn K cdEverything_by_turn "Everything.by_turn" = true) (kEverything_by_turn : PySem.W.keepIn K (.ref fEverything_by_turn) = true)
    (im_Everything_by_turn : PySem.W.isFn K (.ref fEverything_by_turn) = true)
    {odturned_cell anturned_cell : Option Addr} {slturned_cell : Array (Option Value)} {octurned_cell kVturned_cell dcturned_cell pmturned_cell cdturned_cell ctturned_cell : Value}
    (aturned_cell : PySem.W.nsIn K mainGlobals "turned_cell" = some (some (.ref fturned_cell))) (lturned_cell : K.lookup fturned_cell = some ⟨octurned_cell, odturned_cell, .func (PySem.W.fnOf "turned_cell" "turned_cell" (defArgs sturned_cell) (defBody sturned_cell) (defScope sturned_cell) .none kVturned_cell dcturned_cell pmturned_cell anturned_cell cdturned_cell ctturned_cell), slturned_cell⟩) (cturned_cell : PySem.W.codeIn K cdturned_cell "turned_cell" = true) (kturned_cell : PySem.W.keepIn K (.ref fturned_cell) = true)
    {odMove_by_turn anMove_by_turn : Option Addr} {slMove_by_turn : Array (Option Value)} {ocMove_by_turn kVMove_by_turn dcMove_by_turn pmMove_by_turn cdMove_by_turn ctMove_by_turn : Value}
    (aMove_by_turn : PySem.W.findIn K (.ref c_Move) "by_turn" = some (some (.ref fMove_by_turn))) (lMove_by_turn : K.lookup fMove_by_turn = some ⟨ocMove_by_turn, odMove_by_turn, .func (PySem.W.fnOf "by_turn" "Move.by_turn" (defArgs sMove_by_turn) (defBody sMove_by_turn) (defScope sMove_by_turn) .none kVMove_by_turn dcMove_by_turn pmMove_by_turn anMove_by_turn cdMove_by_turn ctMove_by_turn), slMove_by_turn⟩) (cMove_by_turn : PySem.W.codeIn K cdMove_by_turn "Move.by_turn" = true) (kMove_by_turn : PySem.W.keepIn K (.ref fMove_by_turn) = true)
    (im_Move_by_turn : PySem.W.isFn K (.ref fMove_by_turn) = true)
    {odrising anrising : Option Addr} {slrising : Array (Option Value)} {ocrising kVrising dcrising pmrising cdrising ctrising : Value}
    (arising : PySem.W.nsIn K mainGlobals "rising" = some (some (.ref frising))) (lrising : K.lookup frising = some ⟨ocrising, odrising, .func (PySem.W.fnOf "rising" "rising" (defArgs srising) (defBody srising) (defScope srising) .none kVrising dcrising pmrising anrising cdrising ctrising), slrising⟩) (crising : PySem.W.codeIn K cdrising "rising" = true) (krising : PySem.W.keepIn K (.ref frising) = true)
    {odturned_piece anturned_piece : Option Addr} {slturned_piece : Array (Option Value)} {octurned_piece kVturned_piece dcturned_piece pmturned_piece cdturned_piece ctturned_piece : Value}
    (aturned_piece : PySem.W.nsIn K mainGlobals "turned_piece" = some (some (.ref fturned_piece))) (lturned_piece : K.lookup fturned_piece = some ⟨octurned_piece, odturned_piece, .func (PySem.W.fnOf "turned_piece" "turned_piece" (defArgs sturned_piece) (defBody sturned_piece) (defScope sturned_piece) .none kVturned_piece dcturned_piece pmturned_piece anturned_piece cdturned_piece ctturned_piece), slturned_piece⟩) (cturned_piece : PySem.W.codeIn K cdturned_piece "turned_piece" = true) (kturned_piece : PySem.W.keepIn K (.ref fturned_piece) = true)
    {odEat_by_turn anEat_by_turn : Option Addr} {slEat_by_turn : Array (Option Value)} {ocEat_by_turn kVEat_by_turn dcEat_by_turn pmEat_by_turn cdEat_by_turn ctEat_by_turn : Value}
    (aEat_by_turn : PySem.W.findIn K (.ref c_Eat) "by_turn" = some (some (.ref fEat_by_turn))) (lEat_by_turn : K.lookup fEat_by_turn = some ⟨ocEat_by_turn, odEat_by_turn, .func (PySem.W.fnOf "by_turn" "Eat.by_turn" (defArgs sEat_by_turn) (defBody sEat_by_turn) (defScope sEat_by_turn) .none kVEat_by_turn dcEat_by_turn pmEat_by_turn anEat_by_turn cdEat_by_turn ctEat_by_turn), slEat_by_turn⟩) (cEat_by_turn : PySem.W.codeIn K cdEat_by_turn "Eat.by_turn" = true) (kEat_by_turn : PySem.W.keepIn K (.ref fEat_by_turn) = true)
    (im_Eat_by_turn : PySem.W.isFn K (.ref fEat_by_turn) = true)
    {odGrow_by_turn anGrow_by_turn : Option Addr} {slGrow_by_turn : Array (Option Value)} {ocGrow_by_turn kVGrow_by_turn dcGrow_by_turn pmGrow_by_turn cdGrow_by_turn ctGrow_by_turn : Value}
    (aGrow_by_turn : PySem.W.findIn K (.ref c_Grow) "by_turn" = some (some (.ref fGrow_by_turn))) (lGrow_by_turn : K.lookup fGrow_by_turn = some ⟨ocGrow_by_turn, odGrow_by_turn, .func (PySem.W.fnOf "by_turn" "Grow.by_turn" (defArgs sGrow_by_turn) (defBody sGrow_by_turn) (defScope sGrow_by_turn) .none kVGrow_by_turn dcGrow_by_turn pmGrow_by_turn anGrow_by_turn cdGrow_by_turn ctGrow_by_turn), slGrow_by_turn⟩) (cGrow_by_turn : PySem.W.codeIn K cdGrow_by_turn "Grow.by_turn" = true) (kGrow_by_turn : PySem.W.keepIn K (.ref fGrow_by_turn) = true)
    (im_Grow_by_turn : PySem.W.isFn K (.ref fGrow_by_turn) = true)
    {odBoth_by_turn anBoth_by_turn : Option Addr} {slBoth_by_turn : Array (Option Value)} {ocBoth_by_turn kVBoth_by_turn dcBoth_by_turn pmBoth_by_turn cdBoth_by_turn ctBoth_by_turn : Value}
    (aBoth_by_turn : PySem.W.findIn K (.ref c_Both) "by_turn" = some (some (.ref fBoth_by_turn))) (lBoth_by_turn : K.lookup fBoth_by_turn = some ⟨ocBoth_by_turn, odBoth_by_turn, .func (PySem.W.fnOf "by_turn" "Both.by_turn" (defArgs sBoth_by_turn) (defBody sBoth_by_turn) (defScope sBoth_by_turn) .none kVBoth_by_turn dcBoth_by_turn pmBoth_by_turn anBoth_by_turn cdBoth_by_turn ctBoth_by_turn), slBoth_by_turn⟩) (cBoth_by_turn : PySem.W.codeIn K cdBoth_by_turn "Both.by_turn" = true) (kBoth_by_turn : PySem.W.keepIn K (.ref fBoth_by_turn) = true)
    (im_Both_by_turn : PySem.W.isFn K (.ref fBoth_by_turn) = true)
    {odEither_by_turn anEither_by_turn : Option Addr} {slEither_by_turn : Array (Option Value)} {ocEither_by_turn kVEither_by_turn dcEither_by_turn pmEither_by_turn cdEither_by_turn ctEither_by_turn : Value}
    (aEither_by_turn : PySem.W.findIn K (.ref c_Either) "by_turn" = some (some (.ref fEither_by_turn))) (lEither_by_turn : K.lookup fEither_by_turn = some ⟨ocEither_by_turn, odEither_by_turn, .func (PySem.W.fnOf "by_turn" "Either.by_turn" (defArgs sEither_by_turn) (defBody sEither_by_turn) (defScope sEither_by_turn) .none kVEither_by_turn dcEither_by_turn pmEither_by_turn anEither_by_turn cdEither_by_turn ctEither_by_turn), slEither_by_turn⟩) (cEither_by_turn : PySem.W.codeIn K cdEither_by_turn "Either.by_turn" = true) (kEither_by_turn : PySem.W.keepIn K (.ref fEither_by_turn) = true)
    (im_Either_by_turn : PySem.W.isFn K (.ref fEither_by_turn) = true)
    {odKeep_words anKeep_words : Option Addr} {slKeep_words : Array (Option Value)} {ocKeep_words kVKeep_words dcKeep_words pmKeep_words cdKeep_words ctKeep_words : Value}
    (aKeep_words : PySem.W.findIn K (.ref c_Keep) "words" = some (some (.ref fKeep_words))) (lKeep_words : K.lookup fKeep_words = some ⟨ocKeep_words, odKeep_words, .func (PySem.W.fnOf "words" "Keep.words" (defArgs sKeep_words) (defBody sKeep_words) (defScope sKeep_words) .none kVKeep_words dcKeep_words pmKeep_words anKeep_words cdKeep_words ctKeep_words), slKeep_words⟩) (cKeep_words : PySem.W.codeIn K cdKeep_words "Keep.words" = true) (kKeep_words : PySem.W.keepIn K (.ref fKeep_words) = true)
    (im_Keep_words : PySem.W.isFn K (.ref fKeep_words) = true)
    {odNothing_words anNothing_words : Option Addr} {slNothing_words : Array (Option Value)} {ocNothing_words kVNothing_words dcNothing_words pmNothing_words cdNothing_words ctNothing_words : Value}
    (aNothing_words : PySem.W.findIn K (.ref c_Nothing) "words" = some (some (.ref fNothing_words))) (lNothing_words : K.lookup fNothing_words = some ⟨ocNothing_words, odNothing_words, .func (PySem.W.fnOf "words" "Nothing.words" (defArgs sNothing_words) (defBody sNothing_words) (defScope sNothing_words) .none kVNothing_words dcNothing_words pmNothing_words anNothing_words cdNothing_words ctNothing_words), slNothing_words⟩) (cNothing_words : PySem.W.codeIn K cdNothing_words "Nothing.words" = true) (kNothing_words : PySem.W.keepIn K (.ref fNothing_words) = true)
    (im_Nothing_words : PySem.W.isFn K (.ref fNothing_words) = true)
    {odEverything_words anEverything_words : Option Addr} {slEverything_words : Array (Option Value)} {ocEverything_words kVEverything_words dcEverything_words pmEverything_words cdEverything_words ctEverything_words : Value}
    (aEverything_words : PySem.W.findIn K (.ref c_Everything) "words" = some (some (.ref fEverything_words))) (lEverything_words : K.lookup fEverything_words = some ⟨ocEverything_words, odEverything_words, .func (PySem.W.fnOf "words" "Everything.words" (defArgs sEverything_words) (defBody sEverything_words) (defScope sEverything_words) .none kVEverything_words dcEverything_words pmEverything_words anEverything_words cdEverything_words ctEverything_words), slEverything_words⟩) (cEverything_words : PySem.W.codeIn K cdEverything_words "Everything.words" = true) (kEverything_words : PySem.W.keepIn K (.ref fEverything_words) = true)
    (im_Everything_words : PySem.W.isFn K (.ref fEverything_words) = true)
    {odstep_words anstep_words : Option Addr} {slstep_words : Array (Option Value)} {ocstep_words kVstep_words dcstep_words pmstep_words cdstep_words ctstep_words : Value}
    (astep_words : PySem.W.nsIn K mainGlobals "step_words" = some (some (.ref fstep_words))) (lstep_words : K.lookup fstep_words = some ⟨ocstep_words, odstep_words, .func (PySem.W.fnOf "step_words" "step_words" (defArgs sstep_words) (defBody sstep_words) (defScope sstep_words) .none kVstep_words dcstep_words pmstep_words anstep_words cdstep_words ctstep_words), slstep_words⟩) (cstep_words : PySem.W.codeIn K cdstep_words "step_words" = true) (kstep_words : PySem.W.keepIn K (.ref fstep_words) = true)
    {odMove_words anMove_words : Option Addr} {slMove_words : Array (Option Value)} {ocMove_words kVMove_words dcMove_words pmMove_words cdMove_words ctMove_words : Value}
    (aMove_words : PySem.W.findIn K (.ref c_Move) "words" = some (some (.ref fMove_words))) (lMove_words : K.lookup fMove_words = some ⟨ocMove_words, odMove_words, .func (PySem.W.fnOf "words" "Move.words" (defArgs sMove_words) (defBody sMove_words) (defScope sMove_words) .none kVMove_words dcMove_words pmMove_words anMove_words cdMove_words ctMove_words), slMove_words⟩) (cMove_words : PySem.W.codeIn K cdMove_words "Move.words" = true) (kMove_words : PySem.W.keepIn K (.ref fMove_words) = true)
    (im_Move_words : PySem.W.isFn K (.ref fMove_words) = true)
    {odEat_words anEat_words : Option Addr} {slEat_words : Array (Option Value)} {ocEat_words kVEat_words dcEat_words pmEat_words cdEat_words ctEat_words : Value}
    (aEat_words : PySem.W.findIn K (.ref c_Eat) "words" = some (some (.ref fEat_words))) (lEat_words : K.lookup fEat_words = some ⟨ocEat_words, odEat_words, .func (PySem.W.fnOf "words" "Eat.words" (defArgs sEat_words) (defBody sEat_words) (defScope sEat_words) .none kVEat_words dcEat_words pmEat_words anEat_words cdEat_words ctEat_words), slEat_words⟩) (cEat_words : PySem.W.codeIn K cdEat_words "Eat.words" = true) (kEat_words : PySem.W.keepIn K (.ref fEat_words) = true)
    (im_Eat_words : PySem.W.isFn K (.ref fEat_words) = true)
    {odGrow_words anGrow_words : Option Addr} {slGrow_words : Array (Option Value)} {ocGrow_words kVGrow_words dcGrow_words pmGrow_words cdGrow_words ctGrow_words : Value}
    (aGrow_words : PySem.W.findIn K (.ref c_Grow) "words" = some (some (.ref fGrow_words))) (lGrow_words : K.lookup fGrow_words = some ⟨ocGrow_words, odGrow_words, .func (PySem.W.fnOf "words" "Grow.words" (defArgs sGrow_words) (defBody sGrow_words) (defScope sGrow_words) .none kVGrow_words dcGrow_words pmGrow_words anGrow_words cdGrow_words ctGrow_words), slGrow_words⟩) (cGrow_words : PySem.W.codeIn K cdGrow_words "Grow.words" = true) (kGrow_words : PySem.W.keepIn K (.ref fGrow_words) = true)
    (im_Grow_words : PySem.W.isFn K (.ref fGrow_words) = true)
    {odBoth_words anBoth_words : Option Addr} {slBoth_words : Array (Option Value)} {ocBoth_words kVBoth_words dcBoth_words pmBoth_words cdBoth_words ctBoth_words : Value}
    (aBoth_words : PySem.W.findIn K (.ref c_Both) "words" = some (some (.ref fBoth_words))) (lBoth_words : K.lookup fBoth_words = some ⟨ocBoth_words, odBoth_words, .func (PySem.W.fnOf "words" "Both.words" (defArgs sBoth_words) (defBody sBoth_words) (defScope sBoth_words) .none kVBoth_words dcBoth_words pmBoth_words anBoth_words cdBoth_words ctBoth_words), slBoth_words⟩) (cBoth_words : PySem.W.codeIn K cdBoth_words "Both.words" = true) (kBoth_words : PySem.W.keepIn K (.ref fBoth_words) = true)
    (im_Both_words : PySem.W.isFn K (.ref fBoth_words) = true)
    {odEither_words anEither_words : Option Addr} {slEither_words : Array (Option Value)} {ocEither_words kVEither_words dcEither_words pmEither_words cdEither_words ctEither_words : Value}
    (aEither_words : PySem.W.findIn K (.ref c_Either) "words" = some (some (.ref fEither_words))) (lEither_words : K.lookup fEither_words = some ⟨ocEither_words, odEither_words, .func (PySem.W.fnOf "words" "Either.words" (defArgs sEither_words) (defBody sEither_words) (defScope sEither_words) .none kVEither_words dcEither_words pmEither_words anEither_words cdEither_words ctEither_words), slEither_words⟩) (cEither_words : PySem.W.codeIn K cdEither_words "Either.words" = true) (kEither_words : PySem.W.keepIn K (.ref fEither_words) = true)
    (im_Either_words : PySem.W.isFn K (.ref fEither_words) = true)
    {od_law_turned_cell an_law_turned_cell : Option Addr} {sl_law_turned_cell : Array (Option Value)} {oc_law_turned_cell kV_law_turned_cell dc_law_turned_cell pm_law_turned_cell cd_law_turned_cell ct_law_turned_cell : Value}
    (a_law_turned_cell : PySem.W.nsIn K mainGlobals "_law_turned_cell" = some (some (.ref f_law_turned_cell))) (l_law_turned_cell : K.lookup f_law_turned_cell = some ⟨oc_law_turned_cell, od_law_turned_cell, .func (PySem.W.fnOf "_law_turned_cell" "_law_turned_cell" (defArgs s_law_turned_cell) (defBody s_law_turned_cell) (defScope s_law_turned_cell) .none kV_law_turned_cell dc_law_turned_cell pm_law_turned_cell an_law_turned_cell cd_law_turned_cell ct_law_turned_cell), sl_law_turned_cell⟩) (c_law_turned_cell : PySem.W.codeIn K cd_law_turned_cell "_law_turned_cell" = true) (k_law_turned_cell : PySem.W.keepIn K (.ref f_law_turned_cell) = true)
    {od_law_turned_cells an_law_turned_cells : Option Addr} {sl_law_turned_cells : Array (Option Value)} {oc_law_turned_cells kV_law_turned_cells dc_law_turned_cells pm_law_turned_cells cd_law_turned_cells ct_law_turned_cells : Value}
    (a_law_turned_cells : PySem.W.nsIn K mainGlobals "_law_turned_cells" = some (some (.ref f_law_turned_cells))) (l_law_turned_cells : K.lookup f_law_turned_cells = some ⟨oc_law_turned_cells, od_law_turned_cells, .func (PySem.W.fnOf "_law_turned_cells" "_law_turned_cells" (defArgs s_law_turned_cells) (defBody s_law_turned_cells) (defScope s_law_turned_cells) .none kV_law_turned_cells dc_law_turned_cells pm_law_turned_cells an_law_turned_cells cd_law_turned_cells ct_law_turned_cells), sl_law_turned_cells⟩) (c_law_turned_cells : PySem.W.codeIn K cd_law_turned_cells "_law_turned_cells" = true) (k_law_turned_cells : PySem.W.keepIn K (.ref f_law_turned_cells) = true)
    {od_law_turned an_law_turned : Option Addr} {sl_law_turned : Array (Option Value)} {oc_law_turned kV_law_turned dc_law_turned pm_law_turned cd_law_turned ct_law_turned : Value}
    (a_law_turned : PySem.W.nsIn K mainGlobals "_law_turned" = some (some (.ref f_law_turned))) (l_law_turned : K.lookup f_law_turned = some ⟨oc_law_turned, od_law_turned, .func (PySem.W.fnOf "_law_turned" "_law_turned" (defArgs s_law_turned) (defBody s_law_turned) (defScope s_law_turned) .none kV_law_turned dc_law_turned pm_law_turned an_law_turned cd_law_turned ct_law_turned), sl_law_turned⟩) (c_law_turned : PySem.W.codeIn K cd_law_turned "_law_turned" = true) (k_law_turned : PySem.W.keepIn K (.ref f_law_turned) = true)
    {od_law_parts an_law_parts : Option Addr} {sl_law_parts : Array (Option Value)} {oc_law_parts kV_law_parts dc_law_parts pm_law_parts cd_law_parts ct_law_parts : Value}
    (a_law_parts : PySem.W.nsIn K mainGlobals "_law_parts" = some (some (.ref f_law_parts))) (l_law_parts : K.lookup f_law_parts = some ⟨oc_law_parts, od_law_parts, .func (PySem.W.fnOf "_law_parts" "_law_parts" (defArgs s_law_parts) (defBody s_law_parts) (defScope s_law_parts) .none kV_law_parts dc_law_parts pm_law_parts an_law_parts cd_law_parts ct_law_parts), sl_law_parts⟩) (c_law_parts : PySem.W.codeIn K cd_law_parts "_law_parts" = true) (k_law_parts : PySem.W.keepIn K (.ref f_law_parts) = true)
    {od_law_words an_law_words : Option Addr} {sl_law_words : Array (Option Value)} {oc_law_words kV_law_words dc_law_words pm_law_words cd_law_words ct_law_words : Value}
    (a_law_words : PySem.W.nsIn K mainGlobals "_law_words" = some (some (.ref f_law_words))) (l_law_words : K.lookup f_law_words = some ⟨oc_law_words, od_law_words, .func (PySem.W.fnOf "_law_words" "_law_words" (defArgs s_law_words) (defBody s_law_words) (defScope s_law_words) .none kV_law_words dc_law_words pm_law_words an_law_words cd_law_words ct_law_words), sl_law_words⟩) (c_law_words : PySem.W.codeIn K cd_law_words "_law_words" = true) (k_law_words : PySem.W.keepIn K (.ref f_law_words) = true)
    {od_law_same an_law_same : Option Addr} {sl_law_same : Array (Option Value)} {oc_law_same kV_law_same dc_law_same pm_law_same cd_law_same ct_law_same : Value}
    (a_law_same : PySem.W.nsIn K mainGlobals "_law_same" = some (some (.ref f_law_same))) (l_law_same : K.lookup f_law_same = some ⟨oc_law_same, od_law_same, .func (PySem.W.fnOf "_law_same" "_law_same" (defArgs s_law_same) (defBody s_law_same) (defScope s_law_same) .none kV_law_same dc_law_same pm_law_same an_law_same cd_law_same ct_law_same), sl_law_same⟩) (c_law_same : PySem.W.codeIn K cd_law_same "_law_same" = true) (k_law_same : PySem.W.keepIn K (.ref f_law_same) = true)
    {odPlan_made anPlan_made : Option Addr} {slPlan_made : Array (Option Value)} {ocPlan_made kVPlan_made dcPlan_made pmPlan_made cdPlan_made ctPlan_made : Value}
    (aPlan_made : PySem.W.findIn K (.ref c_Keep) "made" = some (some (.ref fPlan_made))) (lPlan_made : K.lookup fPlan_made = some ⟨ocPlan_made, odPlan_made, .func (PySem.W.fnOf "made" "Plan.made" (defArgs sPlan_made) (defBody sPlan_made) (defScope sPlan_made) .none kVPlan_made dcPlan_made pmPlan_made anPlan_made cdPlan_made ctPlan_made), slPlan_made⟩) (cPlan_made : PySem.W.codeIn K cdPlan_made "Plan.made" = true) (kPlan_made : PySem.W.keepIn K (.ref fPlan_made) = true)
    (im_Plan_made : PySem.W.isFn K (.ref fPlan_made) = true)
    {odNothing_made anNothing_made : Option Addr} {slNothing_made : Array (Option Value)} {ocNothing_made kVNothing_made dcNothing_made pmNothing_made cdNothing_made ctNothing_made : Value}
    (aNothing_made : PySem.W.findIn K (.ref c_Nothing) "made" = some (some (.ref fNothing_made))) (lNothing_made : K.lookup fNothing_made = some ⟨ocNothing_made, odNothing_made, .func (PySem.W.fnOf "made" "Nothing.made" (defArgs sNothing_made) (defBody sNothing_made) (defScope sNothing_made) .none kVNothing_made dcNothing_made pmNothing_made anNothing_made cdNothing_made ctNothing_made), slNothing_made⟩) (cNothing_made : PySem.W.codeIn K cdNothing_made "Nothing.made" = true) (kNothing_made : PySem.W.keepIn K (.ref fNothing_made) = true)
    (im_Nothing_made : PySem.W.isFn K (.ref fNothing_made) = true)
    {odEverything_made anEverything_made : Option Addr} {slEverything_made : Array (Option Value)} {ocEverything_made kVEverything_made dcEverything_made pmEverything_made cdEverything_made ctEverything_made : Value}
    (aEverything_made : PySem.W.findIn K (.ref c_Everything) "made" = some (some (.ref fEverything_made))) (lEverything_made : K.lookup fEverything_made = some ⟨ocEverything_made, odEverything_made, .func (PySem.W.fnOf "made" "Everything.made" (defArgs sEverything_made) (defBody sEverything_made) (defScope sEverything_made) .none kVEverything_made dcEverything_made pmEverything_made anEverything_made cdEverything_made ctEverything_made), slEverything_made⟩) (cEverything_made : PySem.W.codeIn K cdEverything_made "Everything.made" = true) (kEverything_made : PySem.W.keepIn K (.ref fEverything_made) = true)
    (im_Everything_made : PySem.W.isFn K (.ref fEverything_made) = true)
    {odmoved_cell anmoved_cell : Option Addr} {slmoved_cell : Array (Option Value)} {ocmoved_cell kVmoved_cell dcmoved_cell pmmoved_cell cdmoved_cell ctmoved_cell : Value}
    (amoved_cell : PySem.W.nsIn K mainGlobals "moved_cell" = some (some (.ref fmoved_cell))) (lmoved_cell : K.lookup fmoved_cell = some ⟨ocmoved_cell, odmoved_cell, .func (PySem.W.fnOf "moved_cell" "moved_cell" (defArgs smoved_cell) (defBody smoved_cell) (defScope smoved_cell) .none kVmoved_cell dcmoved_cell pmmoved_cell anmoved_cell cdmoved_cell ctmoved_cell), slmoved_cell⟩) (cmoved_cell : PySem.W.codeIn K cdmoved_cell "moved_cell" = true) (kmoved_cell : PySem.W.keepIn K (.ref fmoved_cell) = true)
    {odmoved anmoved : Option Addr} {slmoved : Array (Option Value)} {ocmoved kVmoved dcmoved pmmoved cdmoved ctmoved : Value}
    (amoved : PySem.W.nsIn K mainGlobals "moved" = some (some (.ref fmoved))) (lmoved : K.lookup fmoved = some ⟨ocmoved, odmoved, .func (PySem.W.fnOf "moved" "moved" (defArgs smoved) (defBody smoved) (defScope smoved) .none kVmoved dcmoved pmmoved anmoved cdmoved ctmoved), slmoved⟩) (cmoved : PySem.W.codeIn K cdmoved "moved" = true) (kmoved : PySem.W.keepIn K (.ref fmoved) = true)
    {odMove_made anMove_made : Option Addr} {slMove_made : Array (Option Value)} {ocMove_made kVMove_made dcMove_made pmMove_made cdMove_made ctMove_made : Value}
    (aMove_made : PySem.W.findIn K (.ref c_Move) "made" = some (some (.ref fMove_made))) (lMove_made : K.lookup fMove_made = some ⟨ocMove_made, odMove_made, .func (PySem.W.fnOf "made" "Move.made" (defArgs sMove_made) (defBody sMove_made) (defScope sMove_made) .none kVMove_made dcMove_made pmMove_made anMove_made cdMove_made ctMove_made), slMove_made⟩) (cMove_made : PySem.W.codeIn K cdMove_made "Move.made" = true) (kMove_made : PySem.W.keepIn K (.ref fMove_made) = true)
    (im_Move_made : PySem.W.isFn K (.ref fMove_made) = true)
    {odmirrored anmirrored : Option Addr} {slmirrored : Array (Option Value)} {ocmirrored kVmirrored dcmirrored pmmirrored cdmirrored ctmirrored : Value}
    (amirrored : PySem.W.nsIn K mainGlobals "mirrored" = some (some (.ref fmirrored))) (lmirrored : K.lookup fmirrored = some ⟨ocmirrored, odmirrored, .func (PySem.W.fnOf "mirrored" "mirrored" (defArgs smirrored) (defBody smirrored) (defScope smirrored) .none kVmirrored dcmirrored pmmirrored anmirrored cdmirrored ctmirrored), slmirrored⟩) (cmirrored : PySem.W.codeIn K cdmirrored "mirrored" = true) (kmirrored : PySem.W.keepIn K (.ref fmirrored) = true)
    {odlies_on anlies_on : Option Addr} {sllies_on : Array (Option Value)} {oclies_on kVlies_on dclies_on pmlies_on cdlies_on ctlies_on : Value}
    (alies_on : PySem.W.nsIn K mainGlobals "lies_on" = some (some (.ref flies_on))) (llies_on : K.lookup flies_on = some ⟨oclies_on, odlies_on, .func (PySem.W.fnOf "lies_on" "lies_on" (defArgs slies_on) (defBody slies_on) (defScope slies_on) .none kVlies_on dclies_on pmlies_on anlies_on cdlies_on ctlies_on), sllies_on⟩) (clies_on : PySem.W.codeIn K cdlies_on "lies_on" = true) (klies_on : PySem.W.keepIn K (.ref flies_on) = true)
    {odreached anreached : Option Addr} {slreached : Array (Option Value)} {ocreached kVreached dcreached pmreached cdreached ctreached : Value}
    (areached : PySem.W.nsIn K mainGlobals "reached" = some (some (.ref freached))) (lreached : K.lookup freached = some ⟨ocreached, odreached, .func (PySem.W.fnOf "reached" "reached" (defArgs sreached) (defBody sreached) (defScope sreached) .none kVreached dcreached pmreached anreached cdreached ctreached), slreached⟩) (creached : PySem.W.codeIn K cdreached "reached" = true) (kreached : PySem.W.keepIn K (.ref freached) = true)
    {odless_cell anless_cell : Option Addr} {slless_cell : Array (Option Value)} {ocless_cell kVless_cell dcless_cell pmless_cell cdless_cell ctless_cell : Value}
    (aless_cell : PySem.W.nsIn K mainGlobals "less_cell" = some (some (.ref fless_cell))) (lless_cell : K.lookup fless_cell = some ⟨ocless_cell, odless_cell, .func (PySem.W.fnOf "less_cell" "less_cell" (defArgs sless_cell) (defBody sless_cell) (defScope sless_cell) .none kVless_cell dcless_cell pmless_cell anless_cell cdless_cell ctless_cell), slless_cell⟩) (cless_cell : PySem.W.codeIn K cdless_cell "less_cell" = true) (kless_cell : PySem.W.keepIn K (.ref fless_cell) = true)
    {odkept_at ankept_at : Option Addr} {slkept_at : Array (Option Value)} {ockept_at kVkept_at dckept_at pmkept_at cdkept_at ctkept_at : Value}
    (akept_at : PySem.W.nsIn K mainGlobals "kept_at" = some (some (.ref fkept_at))) (lkept_at : K.lookup fkept_at = some ⟨ockept_at, odkept_at, .func (PySem.W.fnOf "kept_at" "kept_at" (defArgs skept_at) (defBody skept_at) (defScope skept_at) .none kVkept_at dckept_at pmkept_at ankept_at cdkept_at ctkept_at), slkept_at⟩) (ckept_at : PySem.W.codeIn K cdkept_at "kept_at" = true) (kkept_at : PySem.W.keepIn K (.ref fkept_at) = true)
    {odeaten aneaten : Option Addr} {sleaten : Array (Option Value)} {oceaten kVeaten dceaten pmeaten cdeaten cteaten : Value}
    (aeaten : PySem.W.nsIn K mainGlobals "eaten" = some (some (.ref featen))) (leaten : K.lookup featen = some ⟨oceaten, odeaten, .func (PySem.W.fnOf "eaten" "eaten" (defArgs seaten) (defBody seaten) (defScope seaten) .none kVeaten dceaten pmeaten aneaten cdeaten cteaten), sleaten⟩) (ceaten : PySem.W.codeIn K cdeaten "eaten" = true) (keaten : PySem.W.keepIn K (.ref featen) = true)
    {odEat_made anEat_made : Option Addr} {slEat_made : Array (Option Value)} {ocEat_made kVEat_made dcEat_made pmEat_made cdEat_made ctEat_made : Value}
    (aEat_made : PySem.W.findIn K (.ref c_Eat) "made" = some (some (.ref fEat_made))) (lEat_made : K.lookup fEat_made = some ⟨ocEat_made, odEat_made, .func (PySem.W.fnOf "made" "Eat.made" (defArgs sEat_made) (defBody sEat_made) (defScope sEat_made) .none kVEat_made dcEat_made pmEat_made anEat_made cdEat_made ctEat_made), slEat_made⟩) (cEat_made : PySem.W.codeIn K cdEat_made "Eat.made" = true) (kEat_made : PySem.W.keepIn K (.ref fEat_made) = true)
    (im_Eat_made : PySem.W.isFn K (.ref fEat_made) = true)
    {odgrown angrown : Option Addr} {slgrown : Array (Option Value)} {ocgrown kVgrown dcgrown pmgrown cdgrown ctgrown : Value}
    (agrown : PySem.W.nsIn K mainGlobals "grown" = some (some (.ref fgrown))) (lgrown : K.lookup fgrown = some ⟨ocgrown, odgrown, .func (PySem.W.fnOf "grown" "grown" (defArgs sgrown) (defBody sgrown) (defScope sgrown) .none kVgrown dcgrown pmgrown angrown cdgrown ctgrown), slgrown⟩) (cgrown : PySem.W.codeIn K cdgrown "grown" = true) (kgrown : PySem.W.keepIn K (.ref fgrown) = true)
    {odGrow_made anGrow_made : Option Addr} {slGrow_made : Array (Option Value)} {ocGrow_made kVGrow_made dcGrow_made pmGrow_made cdGrow_made ctGrow_made : Value}
    (aGrow_made : PySem.W.findIn K (.ref c_Grow) "made" = some (some (.ref fGrow_made))) (lGrow_made : K.lookup fGrow_made = some ⟨ocGrow_made, odGrow_made, .func (PySem.W.fnOf "made" "Grow.made" (defArgs sGrow_made) (defBody sGrow_made) (defScope sGrow_made) .none kVGrow_made dcGrow_made pmGrow_made anGrow_made cdGrow_made ctGrow_made), slGrow_made⟩) (cGrow_made : PySem.W.codeIn K cdGrow_made "Grow.made" = true) (kGrow_made : PySem.W.keepIn K (.ref fGrow_made) = true)
    (im_Grow_made : PySem.W.isFn K (.ref fGrow_made) = true)
    {odonly_in anonly_in : Option Addr} {slonly_in : Array (Option Value)} {oconly_in kVonly_in dconly_in pmonly_in cdonly_in ctonly_in : Value}
    (aonly_in : PySem.W.nsIn K mainGlobals "only_in" = some (some (.ref fonly_in))) (lonly_in : K.lookup fonly_in = some ⟨oconly_in, odonly_in, .func (PySem.W.fnOf "only_in" "only_in" (defArgs sonly_in) (defBody sonly_in) (defScope sonly_in) .none kVonly_in dconly_in pmonly_in anonly_in cdonly_in ctonly_in), slonly_in⟩) (conly_in : PySem.W.codeIn K cdonly_in "only_in" = true) (konly_in : PySem.W.keepIn K (.ref fonly_in) = true)
    {odboth anboth : Option Addr} {slboth : Array (Option Value)} {ocboth kVboth dcboth pmboth cdboth ctboth : Value}
    (aboth : PySem.W.nsIn K mainGlobals "both" = some (some (.ref fboth))) (lboth : K.lookup fboth = some ⟨ocboth, odboth, .func (PySem.W.fnOf "both" "both" (defArgs sboth) (defBody sboth) (defScope sboth) .none kVboth dcboth pmboth anboth cdboth ctboth), slboth⟩) (cboth : PySem.W.codeIn K cdboth "both" = true) (kboth : PySem.W.keepIn K (.ref fboth) = true)
    {odBoth_made anBoth_made : Option Addr} {slBoth_made : Array (Option Value)} {ocBoth_made kVBoth_made dcBoth_made pmBoth_made cdBoth_made ctBoth_made : Value}
    (aBoth_made : PySem.W.findIn K (.ref c_Both) "made" = some (some (.ref fBoth_made))) (lBoth_made : K.lookup fBoth_made = some ⟨ocBoth_made, odBoth_made, .func (PySem.W.fnOf "made" "Both.made" (defArgs sBoth_made) (defBody sBoth_made) (defScope sBoth_made) .none kVBoth_made dcBoth_made pmBoth_made anBoth_made cdBoth_made ctBoth_made), slBoth_made⟩) (cBoth_made : PySem.W.codeIn K cdBoth_made "Both.made" = true) (kBoth_made : PySem.W.keepIn K (.ref fBoth_made) = true)
    (im_Both_made : PySem.W.isFn K (.ref fBoth_made) = true)
    {odoutside anoutside : Option Addr} {sloutside : Array (Option Value)} {ocoutside kVoutside dcoutside pmoutside cdoutside ctoutside : Value}
    (aoutside : PySem.W.nsIn K mainGlobals "outside" = some (some (.ref foutside))) (loutside : K.lookup foutside = some ⟨ocoutside, odoutside, .func (PySem.W.fnOf "outside" "outside" (defArgs soutside) (defBody soutside) (defScope soutside) .none kVoutside dcoutside pmoutside anoutside cdoutside ctoutside), sloutside⟩) (coutside : PySem.W.codeIn K cdoutside "outside" = true) (koutside : PySem.W.keepIn K (.ref foutside) = true)
    {odeither aneither : Option Addr} {sleither : Array (Option Value)} {oceither kVeither dceither pmeither cdeither cteither : Value}
    (aeither : PySem.W.nsIn K mainGlobals "either" = some (some (.ref feither))) (leither : K.lookup feither = some ⟨oceither, odeither, .func (PySem.W.fnOf "either" "either" (defArgs seither) (defBody seither) (defScope seither) .none kVeither dceither pmeither aneither cdeither cteither), sleither⟩) (ceither : PySem.W.codeIn K cdeither "either" = true) (keither : PySem.W.keepIn K (.ref feither) = true)
    {odEither_made anEither_made : Option Addr} {slEither_made : Array (Option Value)} {ocEither_made kVEither_made dcEither_made pmEither_made cdEither_made ctEither_made : Value}
    (aEither_made : PySem.W.findIn K (.ref c_Either) "made" = some (some (.ref fEither_made))) (lEither_made : K.lookup fEither_made = some ⟨ocEither_made, odEither_made, .func (PySem.W.fnOf "made" "Either.made" (defArgs sEither_made) (defBody sEither_made) (defScope sEither_made) .none kVEither_made dcEither_made pmEither_made anEither_made cdEither_made ctEither_made), slEither_made⟩) (cEither_made : PySem.W.codeIn K cdEither_made "Either.made" = true) (kEither_made : PySem.W.keepIn K (.ref fEither_made) = true)
    (im_Either_made : PySem.W.isFn K (.ref fEither_made) = true)
    {odPlan_done anPlan_done : Option Addr} {slPlan_done : Array (Option Value)} {ocPlan_done kVPlan_done dcPlan_done pmPlan_done cdPlan_done ctPlan_done : Value}
    (aPlan_done : PySem.W.findIn K (.ref c_Keep) "done" = some (some (.ref fPlan_done))) (lPlan_done : K.lookup fPlan_done = some ⟨ocPlan_done, odPlan_done, .func (PySem.W.fnOf "done" "Plan.done" (defArgs sPlan_done) (defBody sPlan_done) (defScope sPlan_done) .none kVPlan_done dcPlan_done pmPlan_done anPlan_done cdPlan_done ctPlan_done), slPlan_done⟩) (cPlan_done : PySem.W.codeIn K cdPlan_done "Plan.done" = true) (kPlan_done : PySem.W.keepIn K (.ref fPlan_done) = true)
    (im_Plan_done : PySem.W.isFn K (.ref fPlan_done) = true)
    {od_law_done an_law_done : Option Addr} {sl_law_done : Array (Option Value)} {oc_law_done kV_law_done dc_law_done pm_law_done cd_law_done ct_law_done : Value}
    (a_law_done : PySem.W.nsIn K mainGlobals "_law_done" = some (some (.ref f_law_done))) (l_law_done : K.lookup f_law_done = some ⟨oc_law_done, od_law_done, .func (PySem.W.fnOf "_law_done" "_law_done" (defArgs s_law_done) (defBody s_law_done) (defScope s_law_done) .none kV_law_done dc_law_done pm_law_done an_law_done cd_law_done ct_law_done), sl_law_done⟩) (c_law_done : PySem.W.codeIn K cd_law_done "_law_done" = true) (k_law_done : PySem.W.keepIn K (.ref f_law_done) = true)
    {od_law_turns an_law_turns : Option Addr} {sl_law_turns : Array (Option Value)} {oc_law_turns kV_law_turns dc_law_turns pm_law_turns cd_law_turns ct_law_turns : Value}
    (a_law_turns : PySem.W.nsIn K mainGlobals "_law_turns" = some (some (.ref f_law_turns))) (l_law_turns : K.lookup f_law_turns = some ⟨oc_law_turns, od_law_turns, .func (PySem.W.fnOf "_law_turns" "_law_turns" (defArgs s_law_turns) (defBody s_law_turns) (defScope s_law_turns) .none kV_law_turns dc_law_turns pm_law_turns an_law_turns cd_law_turns ct_law_turns), sl_law_turns⟩) (c_law_turns : PySem.W.codeIn K cd_law_turns "_law_turns" = true) (k_law_turns : PySem.W.keepIn K (.ref f_law_turns) = true)
    {od_law_moves an_law_moves : Option Addr} {sl_law_moves : Array (Option Value)} {oc_law_moves kV_law_moves dc_law_moves pm_law_moves cd_law_moves ct_law_moves : Value}
    (a_law_moves : PySem.W.nsIn K mainGlobals "_law_moves" = some (some (.ref f_law_moves))) (l_law_moves : K.lookup f_law_moves = some ⟨oc_law_moves, od_law_moves, .func (PySem.W.fnOf "_law_moves" "_law_moves" (defArgs s_law_moves) (defBody s_law_moves) (defScope s_law_moves) .none kV_law_moves dc_law_moves pm_law_moves an_law_moves cd_law_moves ct_law_moves), sl_law_moves⟩) (c_law_moves : PySem.W.codeIn K cd_law_moves "_law_moves" = true) (k_law_moves : PySem.W.keepIn K (.ref f_law_moves) = true)
    {od_law_noted an_law_noted : Option Addr} {sl_law_noted : Array (Option Value)} {oc_law_noted kV_law_noted dc_law_noted pm_law_noted cd_law_noted ct_law_noted : Value}
    (a_law_noted : PySem.W.nsIn K mainGlobals "_law_noted" = some (some (.ref f_law_noted))) (l_law_noted : K.lookup f_law_noted = some ⟨oc_law_noted, od_law_noted, .func (PySem.W.fnOf "_law_noted" "_law_noted" (defArgs s_law_noted) (defBody s_law_noted) (defScope s_law_noted) .none kV_law_noted dc_law_noted pm_law_noted an_law_noted cd_law_noted ct_law_noted), sl_law_noted⟩) (c_law_noted : PySem.W.codeIn K cd_law_noted "_law_noted" = true) (k_law_noted : PySem.W.keepIn K (.ref f_law_noted) = true)
    {od_law_more an_law_more : Option Addr} {sl_law_more : Array (Option Value)} {oc_law_more kV_law_more dc_law_more pm_law_more cd_law_more ct_law_more : Value}
    (a_law_more : PySem.W.nsIn K mainGlobals "_law_more" = some (some (.ref f_law_more))) (l_law_more : K.lookup f_law_more = some ⟨oc_law_more, od_law_more, .func (PySem.W.fnOf "_law_more" "_law_more" (defArgs s_law_more) (defBody s_law_more) (defScope s_law_more) .none kV_law_more dc_law_more pm_law_more an_law_more cd_law_more ct_law_more), sl_law_more⟩) (c_law_more : PySem.W.codeIn K cd_law_more "_law_more" = true) (k_law_more : PySem.W.keepIn K (.ref f_law_more) = true)
    {od_law_refused an_law_refused : Option Addr} {sl_law_refused : Array (Option Value)} {oc_law_refused kV_law_refused dc_law_refused pm_law_refused cd_law_refused ct_law_refused : Value}
    (a_law_refused : PySem.W.nsIn K mainGlobals "_law_refused" = some (some (.ref f_law_refused))) (l_law_refused : K.lookup f_law_refused = some ⟨oc_law_refused, od_law_refused, .func (PySem.W.fnOf "_law_refused" "_law_refused" (defArgs s_law_refused) (defBody s_law_refused) (defScope s_law_refused) .none kV_law_refused dc_law_refused pm_law_refused an_law_refused cd_law_refused ct_law_refused), sl_law_refused⟩) (c_law_refused : PySem.W.codeIn K cd_law_refused "_law_refused" = true) (k_law_refused : PySem.W.keepIn K (.ref f_law_refused) = true)
    {odlaw anlaw : Option Addr} {sllaw : Array (Option Value)} {oclaw kVlaw dclaw pmlaw cdlaw ctlaw : Value}
    (alaw : PySem.W.nsIn K mainGlobals "law" = some (some (.ref flaw))) (llaw : K.lookup flaw = some ⟨oclaw, odlaw, .func (PySem.W.fnOf "law" "law" (defArgs slaw) (defBody slaw) (defScope slaw) .none kVlaw dclaw pmlaw anlaw cdlaw ctlaw), sllaw⟩) (claw : PySem.W.codeIn K cdlaw "law" = true) (klaw : PySem.W.keepIn K (.ref flaw) = true)
    {odMove___init__ anMove___init__ : Option Addr} {slMove___init__ : Array (Option Value)} {ocMove___init__ kVMove___init__ dcMove___init__ pmMove___init__ cdMove___init__ ctMove___init__ : Value}
    (aMove___init__ : PySem.W.findIn K (.ref c_Move) "__init__" = some (some (.ref fMove___init__))) (lMove___init__ : K.lookup fMove___init__ = some ⟨ocMove___init__, odMove___init__, .func (PySem.W.fnOf "__init__" "Move.__init__" (defArgs sMove___init__) (defBody sMove___init__) (defScope sMove___init__) .none kVMove___init__ dcMove___init__ pmMove___init__ anMove___init__ cdMove___init__ ctMove___init__), slMove___init__⟩) (cMove___init__ : PySem.W.codeIn K cdMove___init__ "Move.__init__" = true) (kMove___init__ : PySem.W.keepIn K (.ref fMove___init__) = true)
    (im_Move___init__ : PySem.W.isFn K (.ref fMove___init__) = true)
    {odEat___init__ anEat___init__ : Option Addr} {slEat___init__ : Array (Option Value)} {ocEat___init__ kVEat___init__ dcEat___init__ pmEat___init__ cdEat___init__ ctEat___init__ : Value}
    (aEat___init__ : PySem.W.findIn K (.ref c_Eat) "__init__" = some (some (.ref fEat___init__))) (lEat___init__ : K.lookup fEat___init__ = some ⟨ocEat___init__, odEat___init__, .func (PySem.W.fnOf "__init__" "Eat.__init__" (defArgs sEat___init__) (defBody sEat___init__) (defScope sEat___init__) .none kVEat___init__ dcEat___init__ pmEat___init__ anEat___init__ cdEat___init__ ctEat___init__), slEat___init__⟩) (cEat___init__ : PySem.W.codeIn K cdEat___init__ "Eat.__init__" = true) (kEat___init__ : PySem.W.keepIn K (.ref fEat___init__) = true)
    (im_Eat___init__ : PySem.W.isFn K (.ref fEat___init__) = true)
    {odGrow___init__ anGrow___init__ : Option Addr} {slGrow___init__ : Array (Option Value)} {ocGrow___init__ kVGrow___init__ dcGrow___init__ pmGrow___init__ cdGrow___init__ ctGrow___init__ : Value}
    (aGrow___init__ : PySem.W.findIn K (.ref c_Grow) "__init__" = some (some (.ref fGrow___init__))) (lGrow___init__ : K.lookup fGrow___init__ = some ⟨ocGrow___init__, odGrow___init__, .func (PySem.W.fnOf "__init__" "Grow.__init__" (defArgs sGrow___init__) (defBody sGrow___init__) (defScope sGrow___init__) .none kVGrow___init__ dcGrow___init__ pmGrow___init__ anGrow___init__ cdGrow___init__ ctGrow___init__), slGrow___init__⟩) (cGrow___init__ : PySem.W.codeIn K cdGrow___init__ "Grow.__init__" = true) (kGrow___init__ : PySem.W.keepIn K (.ref fGrow___init__) = true)
    (im_Grow___init__ : PySem.W.isFn K (.ref fGrow___init__) = true)
    {odBoth___init__ anBoth___init__ : Option Addr} {slBoth___init__ : Array (Option Value)} {ocBoth___init__ kVBoth___init__ dcBoth___init__ pmBoth___init__ cdBoth___init__ ctBoth___init__ : Value}
    (aBoth___init__ : PySem.W.findIn K (.ref c_Both) "__init__" = some (some (.ref fBoth___init__))) (lBoth___init__ : K.lookup fBoth___init__ = some ⟨ocBoth___init__, odBoth___init__, .func (PySem.W.fnOf "__init__" "Both.__init__" (defArgs sBoth___init__) (defBody sBoth___init__) (defScope sBoth___init__) .none kVBoth___init__ dcBoth___init__ pmBoth___init__ anBoth___init__ cdBoth___init__ ctBoth___init__), slBoth___init__⟩) (cBoth___init__ : PySem.W.codeIn K cdBoth___init__ "Both.__init__" = true) (kBoth___init__ : PySem.W.keepIn K (.ref fBoth___init__) = true)
    (im_Both___init__ : PySem.W.isFn K (.ref fBoth___init__) = true)
    {odEither___init__ anEither___init__ : Option Addr} {slEither___init__ : Array (Option Value)} {ocEither___init__ kVEither___init__ dcEither___init__ pmEither___init__ cdEither___init__ ctEither___init__ : Value}
    (aEither___init__ : PySem.W.findIn K (.ref c_Either) "__init__" = some (some (.ref fEither___init__))) (lEither___init__ : K.lookup fEither___init__ = some ⟨ocEither___init__, odEither___init__, .func (PySem.W.fnOf "__init__" "Either.__init__" (defArgs sEither___init__) (defBody sEither___init__) (defScope sEither___init__) .none kVEither___init__ dcEither___init__ pmEither___init__ anEither___init__ cdEither___init__ ctEither___init__), slEither___init__⟩) (cEither___init__ : PySem.W.codeIn K cdEither___init__ "Either.__init__" = true) (kEither___init__ : PySem.W.keepIn K (.ref fEither___init__) = true)
    (im_Either___init__ : PySem.W.isFn K (.ref fEither___init__) = true)
    (z_ValueError : PySem.W.nsIn K mainGlobals "ValueError" = some none)
    (z_all : PySem.W.nsIn K mainGlobals "all" = some none)
    (z_bool : PySem.W.nsIn K mainGlobals "bool" = some none)
    (z_int : PySem.W.nsIn K mainGlobals "int" = some none)
    (z_isinstance : PySem.W.nsIn K mainGlobals "isinstance" = some none)
    (z_len : PySem.W.nsIn K mainGlobals "len" = some none)
    (z_list : PySem.W.nsIn K mainGlobals "list" = some none)
    (z_range : PySem.W.nsIn K mainGlobals "range" = some none)
    (z_set : PySem.W.nsIn K mainGlobals "set" = some none)
    (z_sorted : PySem.W.nsIn K mainGlobals "sorted" = some none)
    (z_str : PySem.W.nsIn K mainGlobals "str" = some none)
    (z_tuple : PySem.W.nsIn K mainGlobals "tuple" = some none)
    (z_zip : PySem.W.nsIn K mainGlobals "zip" = some none)
    (pg_Keep : PySem.W.plainGet K c_Keep Str.empty = true)
    (pd_Keep : PySem.W.hasDictIn K c_Keep = true)
    (po_Keep : PySem.W.plainOver K c_Keep = true)
    (ps_Keep : PySem.W.findIn K (.ref c_Keep) "__setattr__" = some (some (.builtin "object.__setattr__")))
    (pc_Keep : PySem.W.findIn K (.ref c_Keep) "__class__" = some (some (.builtin "object.__class__")))
    (pm_Keep : PySem.W.mroIn K c_Keep (.type "object") = some true)
    (pnstep_Keep : PySem.W.findIn K (.ref c_Keep) "step" = some none)
    (pnplan_Keep : PySem.W.findIn K (.ref c_Keep) "plan" = some none)
    (pnpiece_Keep : PySem.W.findIn K (.ref c_Keep) "piece" = some none)
    (pnone_Keep : PySem.W.findIn K (.ref c_Keep) "one" = some none)
    (pnother_Keep : PySem.W.findIn K (.ref c_Keep) "other" = some none)
    (pk_Keep : PySem.W.makesIn K c_Keep = true)
    (pe_Keep : PySem.W.keepIn K (.ref c_Keep) = true)
    (pi_Keep : PySem.W.findIn K (.ref c_Keep) "__init__" = some (some (.builtin "object.__init__")))
    (pg_Nothing : PySem.W.plainGet K c_Nothing Str.empty = true)
    (pd_Nothing : PySem.W.hasDictIn K c_Nothing = true)
    (po_Nothing : PySem.W.plainOver K c_Nothing = true)
    (ps_Nothing : PySem.W.findIn K (.ref c_Nothing) "__setattr__" = some (some (.builtin "object.__setattr__")))
    (pc_Nothing : PySem.W.findIn K (.ref c_Nothing) "__class__" = some (some (.builtin "object.__class__")))
    (pm_Nothing : PySem.W.mroIn K c_Nothing (.type "object") = some true)
    (pnstep_Nothing : PySem.W.findIn K (.ref c_Nothing) "step" = some none)
    (pnplan_Nothing : PySem.W.findIn K (.ref c_Nothing) "plan" = some none)
    (pnpiece_Nothing : PySem.W.findIn K (.ref c_Nothing) "piece" = some none)
    (pnone_Nothing : PySem.W.findIn K (.ref c_Nothing) "one" = some none)
    (pnother_Nothing : PySem.W.findIn K (.ref c_Nothing) "other" = some none)
    (pk_Nothing : PySem.W.makesIn K c_Nothing = true)
    (pe_Nothing : PySem.W.keepIn K (.ref c_Nothing) = true)
    (pi_Nothing : PySem.W.findIn K (.ref c_Nothing) "__init__" = some (some (.builtin "object.__init__")))
    (pg_Everything : PySem.W.plainGet K c_Everything Str.empty = true)
    (pd_Everything : PySem.W.hasDictIn K c_Everything = true)
    (po_Everything : PySem.W.plainOver K c_Everything = true)
    (ps_Everything : PySem.W.findIn K (.ref c_Everything) "__setattr__" = some (some (.builtin "object.__setattr__")))
    (pc_Everything : PySem.W.findIn K (.ref c_Everything) "__class__" = some (some (.builtin "object.__class__")))
    (pm_Everything : PySem.W.mroIn K c_Everything (.type "object") = some true)
    (pnstep_Everything : PySem.W.findIn K (.ref c_Everything) "step" = some none)
    (pnplan_Everything : PySem.W.findIn K (.ref c_Everything) "plan" = some none)
    (pnpiece_Everything : PySem.W.findIn K (.ref c_Everything) "piece" = some none)
    (pnone_Everything : PySem.W.findIn K (.ref c_Everything) "one" = some none)
    (pnother_Everything : PySem.W.findIn K (.ref c_Everything) "other" = some none)
    (pk_Everything : PySem.W.makesIn K c_Everything = true)
    (pe_Everything : PySem.W.keepIn K (.ref c_Everything) = true)
    (pi_Everything : PySem.W.findIn K (.ref c_Everything) "__init__" = some (some (.builtin "object.__init__")))
    (pg_Move : PySem.W.plainGet K c_Move Str.empty = true)
    (pd_Move : PySem.W.hasDictIn K c_Move = true)
    (po_Move : PySem.W.plainOver K c_Move = true)
    (ps_Move : PySem.W.findIn K (.ref c_Move) "__setattr__" = some (some (.builtin "object.__setattr__")))
    (pc_Move : PySem.W.findIn K (.ref c_Move) "__class__" = some (some (.builtin "object.__class__")))
    (pm_Move : PySem.W.mroIn K c_Move (.type "object") = some true)
    (pnstep_Move : PySem.W.findIn K (.ref c_Move) "step" = some none)
    (pnplan_Move : PySem.W.findIn K (.ref c_Move) "plan" = some none)
    (pnpiece_Move : PySem.W.findIn K (.ref c_Move) "piece" = some none)
    (pnone_Move : PySem.W.findIn K (.ref c_Move) "one" = some none)
    (pnother_Move : PySem.W.findIn K (.ref c_Move) "other" = some none)
    (pk_Move : PySem.W.makesIn K c_Move = true)
    (pe_Move : PySem.W.keepIn K (.ref c_Move) = true)
    (pg_Eat : PySem.W.plainGet K c_Eat Str.empty = true)
    (pd_Eat : PySem.W.hasDictIn K c_Eat = true)
    (po_Eat : PySem.W.plainOver K c_Eat = true)
    (ps_Eat : PySem.W.findIn K (.ref c_Eat) "__setattr__" = some (some (.builtin "object.__setattr__")))
    (pc_Eat : PySem.W.findIn K (.ref c_Eat) "__class__" = some (some (.builtin "object.__class__")))
    (pm_Eat : PySem.W.mroIn K c_Eat (.type "object") = some true)
    (pnstep_Eat : PySem.W.findIn K (.ref c_Eat) "step" = some none)
    (pnplan_Eat : PySem.W.findIn K (.ref c_Eat) "plan" = some none)
    (pnpiece_Eat : PySem.W.findIn K (.ref c_Eat) "piece" = some none)
    (pnone_Eat : PySem.W.findIn K (.ref c_Eat) "one" = some none)
    (pnother_Eat : PySem.W.findIn K (.ref c_Eat) "other" = some none)
    (pk_Eat : PySem.W.makesIn K c_Eat = true)
    (pe_Eat : PySem.W.keepIn K (.ref c_Eat) = true)
    (pg_Grow : PySem.W.plainGet K c_Grow Str.empty = true)
    (pd_Grow : PySem.W.hasDictIn K c_Grow = true)
    (po_Grow : PySem.W.plainOver K c_Grow = true)
    (ps_Grow : PySem.W.findIn K (.ref c_Grow) "__setattr__" = some (some (.builtin "object.__setattr__")))
    (pc_Grow : PySem.W.findIn K (.ref c_Grow) "__class__" = some (some (.builtin "object.__class__")))
    (pm_Grow : PySem.W.mroIn K c_Grow (.type "object") = some true)
    (pnstep_Grow : PySem.W.findIn K (.ref c_Grow) "step" = some none)
    (pnplan_Grow : PySem.W.findIn K (.ref c_Grow) "plan" = some none)
    (pnpiece_Grow : PySem.W.findIn K (.ref c_Grow) "piece" = some none)
    (pnone_Grow : PySem.W.findIn K (.ref c_Grow) "one" = some none)
    (pnother_Grow : PySem.W.findIn K (.ref c_Grow) "other" = some none)
    (pk_Grow : PySem.W.makesIn K c_Grow = true)
    (pe_Grow : PySem.W.keepIn K (.ref c_Grow) = true)
    (pg_Both : PySem.W.plainGet K c_Both Str.empty = true)
    (pd_Both : PySem.W.hasDictIn K c_Both = true)
    (po_Both : PySem.W.plainOver K c_Both = true)
    (ps_Both : PySem.W.findIn K (.ref c_Both) "__setattr__" = some (some (.builtin "object.__setattr__")))
    (pc_Both : PySem.W.findIn K (.ref c_Both) "__class__" = some (some (.builtin "object.__class__")))
    (pm_Both : PySem.W.mroIn K c_Both (.type "object") = some true)
    (pnstep_Both : PySem.W.findIn K (.ref c_Both) "step" = some none)
    (pnplan_Both : PySem.W.findIn K (.ref c_Both) "plan" = some none)
    (pnpiece_Both : PySem.W.findIn K (.ref c_Both) "piece" = some none)
    (pnone_Both : PySem.W.findIn K (.ref c_Both) "one" = some none)
    (pnother_Both : PySem.W.findIn K (.ref c_Both) "other" = some none)
    (pk_Both : PySem.W.makesIn K c_Both = true)
    (pe_Both : PySem.W.keepIn K (.ref c_Both) = true)
    (pg_Either : PySem.W.plainGet K c_Either Str.empty = true)
    (pd_Either : PySem.W.hasDictIn K c_Either = true)
    (po_Either : PySem.W.plainOver K c_Either = true)
    (ps_Either : PySem.W.findIn K (.ref c_Either) "__setattr__" = some (some (.builtin "object.__setattr__")))
    (pc_Either : PySem.W.findIn K (.ref c_Either) "__class__" = some (some (.builtin "object.__class__")))
    (pm_Either : PySem.W.mroIn K c_Either (.type "object") = some true)
    (pnstep_Either : PySem.W.findIn K (.ref c_Either) "step" = some none)
    (pnplan_Either : PySem.W.findIn K (.ref c_Either) "plan" = some none)
    (pnpiece_Either : PySem.W.findIn K (.ref c_Either) "piece" = some none)
    (pnone_Either : PySem.W.findIn K (.ref c_Either) "one" = some none)
    (pnother_Either : PySem.W.findIn K (.ref c_Either) "other" = some none)
    (pk_Either : PySem.W.makesIn K c_Either = true)
    (pe_Either : PySem.W.keepIn K (.ref c_Either) = true)
    (pgn : PySem.W.specialIn K (.builtin "object.__class__") "__get__" = some (some (.builtin "getset_descriptor.__get__"))) (pgt : PySem.W.takesIn K (.builtin "object.__class__") = some true)
    (mt_Both_by_turn : PySem.W.findIn K (.ref c_Both) "by_turn" = some (some (.ref fBoth_by_turn)))
    (mt_Both_done : PySem.W.findIn K (.ref c_Both) "done" = some (some (.ref fPlan_done)))
    (mt_Both_made : PySem.W.findIn K (.ref c_Both) "made" = some (some (.ref fBoth_made)))
    (mt_Both_words : PySem.W.findIn K (.ref c_Both) "words" = some (some (.ref fBoth_words)))
    (mt_Eat_by_turn : PySem.W.findIn K (.ref c_Eat) "by_turn" = some (some (.ref fEat_by_turn)))
    (mt_Eat_done : PySem.W.findIn K (.ref c_Eat) "done" = some (some (.ref fPlan_done)))
    (mt_Eat_made : PySem.W.findIn K (.ref c_Eat) "made" = some (some (.ref fEat_made)))
    (mt_Eat_words : PySem.W.findIn K (.ref c_Eat) "words" = some (some (.ref fEat_words)))
    (mt_Either_by_turn : PySem.W.findIn K (.ref c_Either) "by_turn" = some (some (.ref fEither_by_turn)))
    (mt_Either_done : PySem.W.findIn K (.ref c_Either) "done" = some (some (.ref fPlan_done)))
    (mt_Either_made : PySem.W.findIn K (.ref c_Either) "made" = some (some (.ref fEither_made)))
    (mt_Either_words : PySem.W.findIn K (.ref c_Either) "words" = some (some (.ref fEither_words)))
    (mt_Everything_by_turn : PySem.W.findIn K (.ref c_Everything) "by_turn" = some (some (.ref fEverything_by_turn)))
    (mt_Everything_done : PySem.W.findIn K (.ref c_Everything) "done" = some (some (.ref fPlan_done)))
    (mt_Everything_made : PySem.W.findIn K (.ref c_Everything) "made" = some (some (.ref fEverything_made)))
    (mt_Everything_words : PySem.W.findIn K (.ref c_Everything) "words" = some (some (.ref fEverything_words)))
    (mt_Grow_by_turn : PySem.W.findIn K (.ref c_Grow) "by_turn" = some (some (.ref fGrow_by_turn)))
    (mt_Grow_done : PySem.W.findIn K (.ref c_Grow) "done" = some (some (.ref fPlan_done)))
    (mt_Grow_made : PySem.W.findIn K (.ref c_Grow) "made" = some (some (.ref fGrow_made)))
    (mt_Grow_words : PySem.W.findIn K (.ref c_Grow) "words" = some (some (.ref fGrow_words)))
    (mt_Keep_by_turn : PySem.W.findIn K (.ref c_Keep) "by_turn" = some (some (.ref fKeep_by_turn)))
    (mt_Keep_done : PySem.W.findIn K (.ref c_Keep) "done" = some (some (.ref fPlan_done)))
    (mt_Keep_made : PySem.W.findIn K (.ref c_Keep) "made" = some (some (.ref fPlan_made)))
    (mt_Keep_words : PySem.W.findIn K (.ref c_Keep) "words" = some (some (.ref fKeep_words)))
    (mt_Move_by_turn : PySem.W.findIn K (.ref c_Move) "by_turn" = some (some (.ref fMove_by_turn)))
    (mt_Move_done : PySem.W.findIn K (.ref c_Move) "done" = some (some (.ref fPlan_done)))
    (mt_Move_made : PySem.W.findIn K (.ref c_Move) "made" = some (some (.ref fMove_made)))
    (mt_Move_words : PySem.W.findIn K (.ref c_Move) "words" = some (some (.ref fMove_words)))
    (mt_Nothing_by_turn : PySem.W.findIn K (.ref c_Nothing) "by_turn" = some (some (.ref fNothing_by_turn)))
    (mt_Nothing_done : PySem.W.findIn K (.ref c_Nothing) "done" = some (some (.ref fPlan_done)))
    (mt_Nothing_made : PySem.W.findIn K (.ref c_Nothing) "made" = some (some (.ref fNothing_made)))
    (mt_Nothing_words : PySem.W.findIn K (.ref c_Nothing) "words" = some (some (.ref fNothing_words)))
    (yb_BadTurn : PySem.W.subIn K (.ref c_BadTurn) (.type "BaseException") = some true) (yd_BadTurn : PySem.W.hasDictIn K c_BadTurn = true) (yt_BadTurn : PySem.W.typeIn K (.ref c_BadTurn) = some (.type "type"))
    (yb_MossError : PySem.W.subIn K (.ref c_MossError) (.type "BaseException") = some true) (yd_MossError : PySem.W.hasDictIn K c_MossError = true) (yt_MossError : PySem.W.typeIn K (.ref c_MossError) = some (.type "type"))
    (yb_TooMany : PySem.W.subIn K (.ref c_TooMany) (.type "BaseException") = some true) (yd_TooMany : PySem.W.hasDictIn K c_TooMany = true) (yt_TooMany : PySem.W.typeIn K (.ref c_TooMany) = some (.type "type"))
    (yk_BadTurn : PySem.W.keepIn K (.ref c_BadTurn) = true) (ye_BadTurn : PySem.W.excIn K c_BadTurn [.type "ValueError", .type "Exception", .type "BaseException", .type "object"] "ValueError.__new__" = true)
    (yg_BadTurn : PySem.W.findIn K (.ref c_BadTurn) "__getattribute__" = some (some (.builtin "BaseException.__getattribute__"))) (yh_BadTurn : PySem.W.findIn K (.ref c_BadTurn) "__getattr__" = some none)
    (ya_BadTurn : PySem.W.findIn K (.ref c_BadTurn) "__class__" = some (some (.builtin "object.__class__"))) (ym_BadTurn : PySem.W.mroIn K c_BadTurn (.type "object") = some true)
    (yk_TooMany : PySem.W.keepIn K (.ref c_TooMany) = true) (ye_TooMany : PySem.W.excIn K c_TooMany [.type "ValueError", .type "Exception", .type "BaseException", .type "object"] "ValueError.__new__" = true)
    (yg_TooMany : PySem.W.findIn K (.ref c_TooMany) "__getattribute__" = some (some (.builtin "BaseException.__getattribute__"))) (yh_TooMany : PySem.W.findIn K (.ref c_TooMany) "__getattr__" = some none)
    (ya_TooMany : PySem.W.findIn K (.ref c_TooMany) "__class__" = some (some (.builtin "object.__class__"))) (ym_TooMany : PySem.W.mroIn K c_TooMany (.type "object") = some true)
    (yn : PySem.W.specialIn K (.builtin "object.__class__") "__get__" = some (some (.builtin "getset_descriptor.__get__"))) (yx : PySem.W.takesIn K (.builtin "object.__class__") = some true)
    (ye_BadTurn_MossError : PySem.W.subIn K (.ref c_BadTurn) (.ref c_MossError) = some true)
    (ye_BadTurn_TooMany : PySem.W.subIn K (.ref c_BadTurn) (.ref c_TooMany) = some false)
    (ye_TooMany_MossError : PySem.W.subIn K (.ref c_TooMany) (.ref c_MossError) = some true)
    (ye_TooMany_TooMany : PySem.W.subIn K (.ref c_TooMany) (.ref c_TooMany) = some true)
    (yi_BadTurn_BadTurn : PySem.W.kitOne K (.ref c_BadTurn) (.ref c_BadTurn) = some true)
    (yi_BadTurn_ValueError : PySem.W.kitOne K (.ref c_BadTurn) (.type "ValueError") = some true)
    (yi_TooMany_BadTurn : PySem.W.kitOne K (.ref c_TooMany) (.ref c_BadTurn) = some false)
    (yi_TooMany_ValueError : PySem.W.kitOne K (.ref c_TooMany) (.type "ValueError") = some true)
    (yt_BadTurn_BadCell_TooMany : PySem.W.kitAny K (.ref c_BadTurn) [.ref c_BadCell, .ref c_TooMany] = some false)
    (yt_TooMany_BadCell_TooMany : PySem.W.kitAny K (.ref c_TooMany) [.ref c_BadCell, .ref c_TooMany] = some true)
    {t_ALL_TURNS : Tok} (v_ALL_TURNS : PySem.W.nsIn K mainGlobals "ALL_TURNS" = some (some (.int 8 t_ALL_TURNS)))
    {t_MOST_MADE : Tok} (v_MOST_MADE : PySem.W.nsIn K mainGlobals "MOST_MADE" = some (some (.int 2000 t_MOST_MADE)))
    {t_QUARTERS : Tok} (v_QUARTERS : PySem.W.nsIn K mainGlobals "QUARTERS" = some (some (.int 4 t_QUARTERS)))
    : ∃ fd : FuncData, (∀ (s : Shared) (v : Value), BindsTo s fd ⟨[v], []⟩ [("script", v)]) ∧ ∀ base : Heap, K.In base → base.Ns mainGlobals mg → FnOk l.prog w K mg base (L2.CX l.prog w) 23 fa fd ["script"] (SpL K) := by
  have e := hfa.symm.trans (PySem.W.mg_of X G alaw)
  cases e
  have T : Txt K mg ⟨f_law_deal, f_law_take, f_law_step, f_law_piece, f_law_form, f_law_great, f_law_plan, f_law_shape, flook_at_turn, fKeep_by_turn, fNothing_by_turn, fEverything_by_turn, fturned_cell, fMove_by_turn, frising, fturned_piece, fEat_by_turn, fGrow_by_turn, fBoth_by_turn, fEither_by_turn, fKeep_words, fNothing_words, fEverything_words, fstep_words, fMove_words, fEat_words, fGrow_words, fBoth_words, fEither_words, f_law_turned_cell, f_law_turned_cells, f_law_turned, f_law_parts, f_law_words, f_law_same, fPlan_made, fNothing_made, fEverything_made, fmoved_cell, fmoved, fMove_made, fmirrored, flies_on, freached, fless_cell, fkept_at, featen, fEat_made, fgrown, fGrow_made, fonly_in, fboth, fBoth_made, foutside, feither, fEither_made, fPlan_done, f_law_done, f_law_turns, f_law_moves, f_law_noted, f_law_more, f_law_refused, fa, fMove___init__, fEat___init__, fGrow___init__, fBoth___init__, fEither___init__, _, _, _, _, _, _, _, _, _, _, _, _, _, _, _, _, _, _, _, _, _, _, _, _, _, _, _, _, _, _, _, _, _, _, _, _, _, _, _, _, _, _, _, _, _, _, _, _, _, _, _, _, _, _, _, _, _, _, _, _, _, _, _, _, _, _, _, _, _, c_BadCell, c_BadTurn, c_Both, c_Eat, c_Either, c_Everything, c_Grow, c_Keep, c_MossError, c_Move, c_Nothing, c_TooMany⟩ := {
    pl := ⟨(pl_cons (k0 := .Keep) (C0 := c_Keep) ⟨pg_Keep, pd_Keep, po_Keep, ps_Keep⟩ (pl_cons (k0 := .Nothing) (C0 := c_Nothing) ⟨pg_Nothing, pd_Nothing, po_Nothing, ps_Nothing⟩ (pl_cons (k0 := .Everything) (C0 := c_Everything) ⟨pg_Everything, pd_Everything, po_Everything, ps_Everything⟩ (pl_cons (k0 := .Move) (C0 := c_Move) ⟨pg_Move, pd_Move, po_Move, ps_Move⟩ (pl_cons (k0 := .Eat) (C0 := c_Eat) ⟨pg_Eat, pd_Eat, po_Eat, ps_Eat⟩ (pl_cons (k0 := .Grow) (C0 := c_Grow) ⟨pg_Grow, pd_Grow, po_Grow, ps_Grow⟩ (pl_cons (k0 := .Both) (C0 := c_Both) ⟨pg_Both, pd_Both, po_Both, ps_Both⟩ (pl_cons (k0 := .Either) (C0 := c_Either) ⟨pg_Either, pd_Either, po_Either, ps_Either⟩ pl_nil)))))))), (pl_cons3 (k0 := .Keep) (C0 := c_Keep) pnstep_Keep pnplan_Keep pnpiece_Keep pnone_Keep pnother_Keep (pl_cons3 (k0 := .Nothing) (C0 := c_Nothing) pnstep_Nothing pnplan_Nothing pnpiece_Nothing pnone_Nothing pnother_Nothing (pl_cons3 (k0 := .Everything) (C0 := c_Everything) pnstep_Everything pnplan_Everything pnpiece_Everything pnone_Everything pnother_Everything (pl_cons3 (k0 := .Move) (C0 := c_Move) pnstep_Move pnplan_Move pnpiece_Move pnone_Move pnother_Move (pl_cons3 (k0 := .Eat) (C0 := c_Eat) pnstep_Eat pnplan_Eat pnpiece_Eat pnone_Eat pnother_Eat (pl_cons3 (k0 := .Grow) (C0 := c_Grow) pnstep_Grow pnplan_Grow pnpiece_Grow pnone_Grow pnother_Grow (pl_cons3 (k0 := .Both) (C0 := c_Both) pnstep_Both pnplan_Both pnpiece_Both pnone_Both pnother_Both (pl_cons3 (k0 := .Either) (C0 := c_Either) pnstep_Either pnplan_Either pnpiece_Either pnone_Either pnother_Either pl_nil3)))))))), (pl_cons (k0 := .Keep) (C0 := c_Keep) pc_Keep (pl_cons (k0 := .Nothing) (C0 := c_Nothing) pc_Nothing (pl_cons (k0 := .Everything) (C0 := c_Everything) pc_Everything (pl_cons (k0 := .Move) (C0 := c_Move) pc_Move (pl_cons (k0 := .Eat) (C0 := c_Eat) pc_Eat (pl_cons (k0 := .Grow) (C0 := c_Grow) pc_Grow (pl_cons (k0 := .Both) (C0 := c_Both) pc_Both (pl_cons (k0 := .Either) (C0 := c_Either) pc_Either pl_nil)))))))), pgn, pgt, (pl_cons (k0 := .Keep) (C0 := c_Keep) pm_Keep (pl_cons (k0 := .Nothing) (C0 := c_Nothing) pm_Nothing (pl_cons (k0 := .Everything) (C0 := c_Everything) pm_Everything (pl_cons (k0 := .Move) (C0 := c_Move) pm_Move (pl_cons (k0 := .Eat) (C0 := c_Eat) pm_Eat (pl_cons (k0 := .Grow) (C0 := c_Grow) pm_Grow (pl_cons (k0 := .Both) (C0 := c_Both) pm_Both (pl_cons (k0 := .Either) (C0 := c_Either) pm_Either pl_nil))))))))⟩
    mk_Keep := ⟨pk_Keep, pi_Keep, pm_Keep, pe_Keep⟩
    mk_Nothing := ⟨pk_Nothing, pi_Nothing, pm_Nothing, pe_Nothing⟩
    mk_Everything := ⟨pk_Everything, pi_Everything, pm_Everything, pe_Everything⟩
    mk_Move := ⟨pk_Move, aMove___init__, im_Move___init__, pe_Move⟩
    mk_Eat := ⟨pk_Eat, aEat___init__, im_Eat___init__, pe_Eat⟩
    mk_Grow := ⟨pk_Grow, aGrow___init__, im_Grow___init__, pe_Grow⟩
    mk_Both := ⟨pk_Both, aBoth___init__, im_Both___init__, pe_Both⟩
    mk_Either := ⟨pk_Either, aEither___init__, im_Either___init__, pe_Either⟩
    mt_Both_by_turn := ⟨mt_Both_by_turn, im_Both_by_turn, kBoth_by_turn⟩
    mt_Both_done := ⟨mt_Both_done, im_Plan_done, kPlan_done⟩
    mt_Both_made := ⟨mt_Both_made, im_Both_made, kBoth_made⟩
    mt_Both_words := ⟨mt_Both_words, im_Both_words, kBoth_words⟩
    mt_Eat_by_turn := ⟨mt_Eat_by_turn, im_Eat_by_turn, kEat_by_turn⟩
    mt_Eat_done := ⟨mt_Eat_done, im_Plan_done, kPlan_done⟩
    mt_Eat_made := ⟨mt_Eat_made, im_Eat_made, kEat_made⟩
    mt_Eat_words := ⟨mt_Eat_words, im_Eat_words, kEat_words⟩
    mt_Either_by_turn := ⟨mt_Either_by_turn, im_Either_by_turn, kEither_by_turn⟩
    mt_Either_done := ⟨mt_Either_done, im_Plan_done, kPlan_done⟩
    mt_Either_made := ⟨mt_Either_made, im_Either_made, kEither_made⟩
    mt_Either_words := ⟨mt_Either_words, im_Either_words, kEither_words⟩
    mt_Everything_by_turn := ⟨mt_Everything_by_turn, im_Everything_by_turn, kEverything_by_turn⟩
    mt_Everything_done := ⟨mt_Everything_done, im_Plan_done, kPlan_done⟩
    mt_Everything_made := ⟨mt_Everything_made, im_Everything_made, kEverything_made⟩
    mt_Everything_words := ⟨mt_Everything_words, im_Everything_words, kEverything_words⟩
    mt_Grow_by_turn := ⟨mt_Grow_by_turn, im_Grow_by_turn, kGrow_by_turn⟩
    mt_Grow_done := ⟨mt_Grow_done, im_Plan_done, kPlan_done⟩
    mt_Grow_made := ⟨mt_Grow_made, im_Grow_made, kGrow_made⟩
    mt_Grow_words := ⟨mt_Grow_words, im_Grow_words, kGrow_words⟩
    mt_Keep_by_turn := ⟨mt_Keep_by_turn, im_Keep_by_turn, kKeep_by_turn⟩
    mt_Keep_done := ⟨mt_Keep_done, im_Plan_done, kPlan_done⟩
    mt_Keep_made := ⟨mt_Keep_made, im_Plan_made, kPlan_made⟩
    mt_Keep_words := ⟨mt_Keep_words, im_Keep_words, kKeep_words⟩
    mt_Move_by_turn := ⟨mt_Move_by_turn, im_Move_by_turn, kMove_by_turn⟩
    mt_Move_done := ⟨mt_Move_done, im_Plan_done, kPlan_done⟩
    mt_Move_made := ⟨mt_Move_made, im_Move_made, kMove_made⟩
    mt_Move_words := ⟨mt_Move_words, im_Move_words, kMove_words⟩
    mt_Nothing_by_turn := ⟨mt_Nothing_by_turn, im_Nothing_by_turn, kNothing_by_turn⟩
    mt_Nothing_done := ⟨mt_Nothing_done, im_Plan_done, kPlan_done⟩
    mt_Nothing_made := ⟨mt_Nothing_made, im_Nothing_made, kNothing_made⟩
    mt_Nothing_words := ⟨mt_Nothing_words, im_Nothing_words, kNothing_words⟩
    F__law_deal := funz_mk (st := s_law_deal) l_law_deal c_law_deal k_law_deal
    g__law_deal := PySem.W.mg_of X G a_law_deal
    k__law_deal := k_law_deal
    b__law_deal := (fun_mk (st := s_law_deal) l_law_deal c_law_deal k_law_deal).binds (ps := ["cell", "many"]) fun _ _ _ _ _ _ us hl => match us, hl with | [_, _], _ => rfl
    F__law_take := funz_mk (st := s_law_take) l_law_take c_law_take k_law_take
    g__law_take := PySem.W.mg_of X G a_law_take
    k__law_take := k_law_take
    b__law_take := (fun_mk (st := s_law_take) l_law_take c_law_take k_law_take).binds (ps := ["pot", "many"]) fun _ _ _ _ _ _ us hl => match us, hl with | [_, _], _ => rfl
    F__law_step := funz_mk (st := s_law_step) l_law_step c_law_step k_law_step
    g__law_step := PySem.W.mg_of X G a_law_step
    k__law_step := k_law_step
    b__law_step := (fun_mk (st := s_law_step) l_law_step c_law_step k_law_step).binds (ps := ["pot"]) fun _ _ _ _ _ _ us hl => match us, hl with | [_], _ => rfl
    F__law_piece := funz_mk (st := s_law_piece) l_law_piece c_law_piece k_law_piece
    g__law_piece := PySem.W.mg_of X G a_law_piece
    k__law_piece := k_law_piece
    b__law_piece := (fun_mk (st := s_law_piece) l_law_piece c_law_piece k_law_piece).binds (ps := ["pot", "most"]) fun _ _ _ _ _ _ us hl => match us, hl with | [_, _], _ => rfl
    F__law_form := funz_mk (st := s_law_form) l_law_form c_law_form k_law_form
    g__law_form := PySem.W.mg_of X G a_law_form
    k__law_form := k_law_form
    b__law_form := (fun_mk (st := s_law_form) l_law_form c_law_form k_law_form).binds (ps := ["pot", "depth", "most"]) fun _ _ _ _ _ _ us hl => match us, hl with | [_, _, _], _ => rfl
    F__law_great := funz_mk (st := s_law_great) l_law_great c_law_great k_law_great
    g__law_great := PySem.W.mg_of X G a_law_great
    k__law_great := k_law_great
    b__law_great := (fun_mk (st := s_law_great) l_law_great c_law_great k_law_great).binds (ps := ["pot"]) fun _ _ _ _ _ _ us hl => match us, hl with | [_], _ => rfl
    F__law_plan := funz_mk (st := s_law_plan) l_law_plan c_law_plan k_law_plan
    g__law_plan := PySem.W.mg_of X G a_law_plan
    k__law_plan := k_law_plan
    b__law_plan := (fun_mk (st := s_law_plan) l_law_plan c_law_plan k_law_plan).binds (ps := ["form"]) fun _ _ _ _ _ _ us hl => match us, hl with | [_], _ => rfl
    F__law_shape := funz_mk (st := s_law_shape) l_law_shape c_law_shape k_law_shape
    g__law_shape := PySem.W.mg_of X G a_law_shape
    k__law_shape := k_law_shape
    b__law_shape := (fun_mk (st := s_law_shape) l_law_shape c_law_shape k_law_shape).binds (ps := ["pot"]) fun _ _ _ _ _ _ us hl => match us, hl with | [_], _ => rfl
    F_look_at_turn := funz_mk (st := slook_at_turn) llook_at_turn clook_at_turn klook_at_turn
    g_look_at_turn := PySem.W.mg_of X G alook_at_turn
    k_look_at_turn := klook_at_turn
    b_look_at_turn := (fun_mk (st := slook_at_turn) llook_at_turn clook_at_turn klook_at_turn).binds (ps := ["turn"]) fun _ _ _ _ _ _ us hl => match us, hl with | [_], _ => rfl
    F_Keep_by_turn := funz_mk (st := sKeep_by_turn) lKeep_by_turn cKeep_by_turn kKeep_by_turn
    k_Keep_by_turn := kKeep_by_turn
    b_Keep_by_turn := (fun_mk (st := sKeep_by_turn) lKeep_by_turn cKeep_by_turn kKeep_by_turn).binds (ps := ["self", "turn"]) fun _ _ _ _ _ _ us hl => match us, hl with | [_, _], _ => rfl
    F_Nothing_by_turn := funz_mk (st := sNothing_by_turn) lNothing_by_turn cNothing_by_turn kNothing_by_turn
    k_Nothing_by_turn := kNothing_by_turn
    b_Nothing_by_turn := (fun_mk (st := sNothing_by_turn) lNothing_by_turn cNothing_by_turn kNothing_by_turn).binds (ps := ["self", "turn"]) fun _ _ _ _ _ _ us hl => match us, hl with | [_, _], _ => rfl
    F_Everything_by_turn := funz_mk (st := sEverything_by_turn) lEverything_by_turn cEverything_by_turn kEverything_by_turn
    k_Everything_by_turn := kEverything_by_turn
    b_Everything_by_turn := (fun_mk (st := sEverything_by_turn) lEverything_by_turn cEverything_by_turn kEverything_by_turn).binds (ps := ["self", "turn"]) fun _ _ _ _ _ _ us hl => match us, hl with | [_, _], _ => rfl
    F_turned_cell := funz_mk (st := sturned_cell) lturned_cell cturned_cell kturned_cell
    g_turned_cell := PySem.W.mg_of X G aturned_cell
    k_turned_cell := kturned_cell
    b_turned_cell := (fun_mk (st := sturned_cell) lturned_cell cturned_cell kturned_cell).binds (ps := ["cell", "turn"]) fun _ _ _ _ _ _ us hl => match us, hl with | [_, _], _ => rfl
    F_Move_by_turn := funz_mk (st := sMove_by_turn) lMove_by_turn cMove_by_turn kMove_by_turn
    k_Move_by_turn := kMove_by_turn
    b_Move_by_turn := (fun_mk (st := sMove_by_turn) lMove_by_turn cMove_by_turn kMove_by_turn).binds (ps := ["self", "turn"]) fun _ _ _ _ _ _ us hl => match us, hl with | [_, _], _ => rfl
    F_rising := funz_mk (st := srising) lrising crising krising
    g_rising := PySem.W.mg_of X G arising
    k_rising := krising
    b_rising := (fun_mk (st := srising) lrising crising krising).binds (ps := ["cells"]) fun _ _ _ _ _ _ us hl => match us, hl with | [_], _ => rfl
    F_turned_piece := funz_mk (st := sturned_piece) lturned_piece cturned_piece kturned_piece
    g_turned_piece := PySem.W.mg_of X G aturned_piece
    k_turned_piece := kturned_piece
    b_turned_piece := (fun_mk (st := sturned_piece) lturned_piece cturned_piece kturned_piece).binds (ps := ["piece", "turn"]) fun _ _ _ _ _ _ us hl => match us, hl with | [_, _], _ => rfl
    F_Eat_by_turn := funz_mk (st := sEat_by_turn) lEat_by_turn cEat_by_turn kEat_by_turn
    k_Eat_by_turn := kEat_by_turn
    b_Eat_by_turn := (fun_mk (st := sEat_by_turn) lEat_by_turn cEat_by_turn kEat_by_turn).binds (ps := ["self", "turn"]) fun _ _ _ _ _ _ us hl => match us, hl with | [_, _], _ => rfl
    F_Grow_by_turn := funz_mk (st := sGrow_by_turn) lGrow_by_turn cGrow_by_turn kGrow_by_turn
    k_Grow_by_turn := kGrow_by_turn
    b_Grow_by_turn := (fun_mk (st := sGrow_by_turn) lGrow_by_turn cGrow_by_turn kGrow_by_turn).binds (ps := ["self", "turn"]) fun _ _ _ _ _ _ us hl => match us, hl with | [_, _], _ => rfl
    F_Both_by_turn := funz_mk (st := sBoth_by_turn) lBoth_by_turn cBoth_by_turn kBoth_by_turn
    k_Both_by_turn := kBoth_by_turn
    b_Both_by_turn := (fun_mk (st := sBoth_by_turn) lBoth_by_turn cBoth_by_turn kBoth_by_turn).binds (ps := ["self", "turn"]) fun _ _ _ _ _ _ us hl => match us, hl with | [_, _], _ => rfl
    F_Either_by_turn := funz_mk (st := sEither_by_turn) lEither_by_turn cEither_by_turn kEither_by_turn
    k_Either_by_turn := kEither_by_turn
    b_Either_by_turn := (fun_mk (st := sEither_by_turn) lEither_by_turn cEither_by_turn kEither_by_turn).binds (ps := ["self", "turn"]) fun _ _ _ _ _ _ us hl => match us, hl with | [_, _], _ => rfl
    F_Keep_words := funz_mk (st := sKeep_words) lKeep_words cKeep_words kKeep_words
    k_Keep_words := kKeep_words
    b_Keep_words := (fun_mk (st := sKeep_words) lKeep_words cKeep_words kKeep_words).binds (ps := ["self"]) fun _ _ _ _ _ _ us hl => match us, hl with | [_], _ => rfl
    F_Nothing_words := funz_mk (st := sNothing_words) lNothing_words cNothing_words kNothing_words
    k_Nothing_words := kNothing_words
    b_Nothing_words := (fun_mk (st := sNothing_words) lNothing_words cNothing_words kNothing_words).binds (ps := ["self"]) fun _ _ _ _ _ _ us hl => match us, hl with | [_], _ => rfl
    F_Everything_words := funz_mk (st := sEverything_words) lEverything_words cEverything_words kEverything_words
    k_Everything_words := kEverything_words
    b_Everything_words := (fun_mk (st := sEverything_words) lEverything_words cEverything_words kEverything_words).binds (ps := ["self"]) fun _ _ _ _ _ _ us hl => match us, hl with | [_], _ => rfl
    F_step_words := funz_mk (st := sstep_words) lstep_words cstep_words kstep_words
    g_step_words := PySem.W.mg_of X G astep_words
    k_step_words := kstep_words
    b_step_words := (fun_mk (st := sstep_words) lstep_words cstep_words kstep_words).binds (ps := ["steps"]) fun _ _ _ _ _ _ us hl => match us, hl with | [_], _ => rfl
    F_Move_words := funz_mk (st := sMove_words) lMove_words cMove_words kMove_words
    k_Move_words := kMove_words
    b_Move_words := (fun_mk (st := sMove_words) lMove_words cMove_words kMove_words).binds (ps := ["self"]) fun _ _ _ _ _ _ us hl => match us, hl with | [_], _ => rfl
    F_Eat_words := funz_mk (st := sEat_words) lEat_words cEat_words kEat_words
    k_Eat_words := kEat_words
    b_Eat_words := (fun_mk (st := sEat_words) lEat_words cEat_words kEat_words).binds (ps := ["self"]) fun _ _ _ _ _ _ us hl => match us, hl with | [_], _ => rfl
    F_Grow_words := funz_mk (st := sGrow_words) lGrow_words cGrow_words kGrow_words
    k_Grow_words := kGrow_words
    b_Grow_words := (fun_mk (st := sGrow_words) lGrow_words cGrow_words kGrow_words).binds (ps := ["self"]) fun _ _ _ _ _ _ us hl => match us, hl with | [_], _ => rfl
    F_Both_words := funz_mk (st := sBoth_words) lBoth_words cBoth_words kBoth_words
    k_Both_words := kBoth_words
    b_Both_words := (fun_mk (st := sBoth_words) lBoth_words cBoth_words kBoth_words).binds (ps := ["self"]) fun _ _ _ _ _ _ us hl => match us, hl with | [_], _ => rfl
    F_Either_words := funz_mk (st := sEither_words) lEither_words cEither_words kEither_words
    k_Either_words := kEither_words
    b_Either_words := (fun_mk (st := sEither_words) lEither_words cEither_words kEither_words).binds (ps := ["self"]) fun _ _ _ _ _ _ us hl => match us, hl with | [_], _ => rfl
    F__law_turned_cell := funz_mk (st := s_law_turned_cell) l_law_turned_cell c_law_turned_cell k_law_turned_cell
    g__law_turned_cell := PySem.W.mg_of X G a_law_turned_cell
    k__law_turned_cell := k_law_turned_cell
    b__law_turned_cell := (fun_mk (st := s_law_turned_cell) l_law_turned_cell c_law_turned_cell k_law_turned_cell).binds (ps := ["cell", "turn"]) fun _ _ _ _ _ _ us hl => match us, hl with | [_, _], _ => rfl
    F__law_turned_cells := funz_mk (st := s_law_turned_cells) l_law_turned_cells c_law_turned_cells k_law_turned_cells
    g__law_turned_cells := PySem.W.mg_of X G a_law_turned_cells
    k__law_turned_cells := k_law_turned_cells
    b__law_turned_cells := (fun_mk (st := s_law_turned_cells) l_law_turned_cells c_law_turned_cells k_law_turned_cells).binds (ps := ["cells", "turn"]) fun _ _ _ _ _ _ us hl => match us, hl with | [_, _], _ => rfl
    F__law_turned := funz_mk (st := s_law_turned) l_law_turned c_law_turned k_law_turned
    g__law_turned := PySem.W.mg_of X G a_law_turned
    k__law_turned := k_law_turned
    b__law_turned := (fun_mk (st := s_law_turned) l_law_turned c_law_turned k_law_turned).binds (ps := ["form", "turn"]) fun _ _ _ _ _ _ us hl => match us, hl with | [_, _], _ => rfl
    F__law_parts := funz_mk (st := s_law_parts) l_law_parts c_law_parts k_law_parts
    g__law_parts := PySem.W.mg_of X G a_law_parts
    k__law_parts := k_law_parts
    b__law_parts := (fun_mk (st := s_law_parts) l_law_parts c_law_parts k_law_parts).binds (ps := ["form"]) fun _ _ _ _ _ _ us hl => match us, hl with | [_], _ => rfl
    F__law_words := funz_mk (st := s_law_words) l_law_words c_law_words k_law_words
    g__law_words := PySem.W.mg_of X G a_law_words
    k__law_words := k_law_words
    b__law_words := (fun_mk (st := s_law_words) l_law_words c_law_words k_law_words).binds (ps := ["form"]) fun _ _ _ _ _ _ us hl => match us, hl with | [_], _ => rfl
    F__law_same := funz_mk (st := s_law_same) l_law_same c_law_same k_law_same
    g__law_same := PySem.W.mg_of X G a_law_same
    k__law_same := k_law_same
    b__law_same := (fun_mk (st := s_law_same) l_law_same c_law_same k_law_same).binds (ps := ["found", "due"]) fun _ _ _ _ _ _ us hl => match us, hl with | [_, _], _ => rfl
    F_Plan_made := funz_mk (st := sPlan_made) lPlan_made cPlan_made kPlan_made
    k_Plan_made := kPlan_made
    b_Plan_made := (fun_mk (st := sPlan_made) lPlan_made cPlan_made kPlan_made).binds (ps := ["self", "shape"]) fun _ _ _ _ _ _ us hl => match us, hl with | [_, _], _ => rfl
    F_Nothing_made := funz_mk (st := sNothing_made) lNothing_made cNothing_made kNothing_made
    k_Nothing_made := kNothing_made
    b_Nothing_made := (fun_mk (st := sNothing_made) lNothing_made cNothing_made kNothing_made).binds (ps := ["self", "shape"]) fun _ _ _ _ _ _ us hl => match us, hl with | [_, _], _ => rfl
    F_Everything_made := funz_mk (st := sEverything_made) lEverything_made cEverything_made kEverything_made
    k_Everything_made := kEverything_made
    b_Everything_made := (fun_mk (st := sEverything_made) lEverything_made cEverything_made kEverything_made).binds (ps := ["self", "shape"]) fun _ _ _ _ _ _ us hl => match us, hl with | [_, _], _ => rfl
    F_moved_cell := funz_mk (st := smoved_cell) lmoved_cell cmoved_cell kmoved_cell
    g_moved_cell := PySem.W.mg_of X G amoved_cell
    k_moved_cell := kmoved_cell
    b_moved_cell := (fun_mk (st := smoved_cell) lmoved_cell cmoved_cell kmoved_cell).binds (ps := ["cell", "step"]) fun _ _ _ _ _ _ us hl => match us, hl with | [_, _], _ => rfl
    F_moved := funz_mk (st := smoved) lmoved cmoved kmoved
    g_moved := PySem.W.mg_of X G amoved
    k_moved := kmoved
    b_moved := (fun_mk (st := smoved) lmoved cmoved kmoved).binds (ps := ["shape", "step"]) fun _ _ _ _ _ _ us hl => match us, hl with | [_, _], _ => rfl
    F_Move_made := funz_mk (st := sMove_made) lMove_made cMove_made kMove_made
    k_Move_made := kMove_made
    b_Move_made := (fun_mk (st := sMove_made) lMove_made cMove_made kMove_made).binds (ps := ["self", "shape"]) fun _ _ _ _ _ _ us hl => match us, hl with | [_, _], _ => rfl
    F_mirrored := funz_mk (st := smirrored) lmirrored cmirrored kmirrored
    g_mirrored := PySem.W.mg_of X G amirrored
    k_mirrored := kmirrored
    b_mirrored := (fun_mk (st := smirrored) lmirrored cmirrored kmirrored).binds (ps := ["piece"]) fun _ _ _ _ _ _ us hl => match us, hl with | [_], _ => rfl
    F_lies_on := funz_mk (st := slies_on) llies_on clies_on klies_on
    g_lies_on := PySem.W.mg_of X G alies_on
    k_lies_on := klies_on
    b_lies_on := (fun_mk (st := slies_on) llies_on clies_on klies_on).binds (ps := ["piece", "cell"]) fun _ _ _ _ _ _ us hl => match us, hl with | [_, _], _ => rfl
    F_reached := funz_mk (st := sreached) lreached creached kreached
    g_reached := PySem.W.mg_of X G areached
    k_reached := kreached
    b_reached := (fun_mk (st := sreached) lreached creached kreached).binds (ps := ["cells", "piece"]) fun _ _ _ _ _ _ us hl => match us, hl with | [_, _], _ => rfl
    F_less_cell := funz_mk (st := sless_cell) lless_cell cless_cell kless_cell
    g_less_cell := PySem.W.mg_of X G aless_cell
    k_less_cell := kless_cell
    b_less_cell := (fun_mk (st := sless_cell) lless_cell cless_cell kless_cell).binds (ps := ["cell", "step"]) fun _ _ _ _ _ _ us hl => match us, hl with | [_, _], _ => rfl
    F_kept_at := funz_mk (st := skept_at) lkept_at ckept_at kkept_at
    g_kept_at := PySem.W.mg_of X G akept_at
    k_kept_at := kkept_at
    b_kept_at := (fun_mk (st := skept_at) lkept_at ckept_at kkept_at).binds (ps := ["cells", "piece"]) fun _ _ _ _ _ _ us hl => match us, hl with | [_, _], _ => rfl
    F_eaten := funz_mk (st := seaten) leaten ceaten keaten
    g_eaten := PySem.W.mg_of X G aeaten
    k_eaten := keaten
    b_eaten := (fun_mk (st := seaten) leaten ceaten keaten).binds (ps := ["shape", "piece"]) fun _ _ _ _ _ _ us hl => match us, hl with | [_, _], _ => rfl
    F_Eat_made := funz_mk (st := sEat_made) lEat_made cEat_made kEat_made
    k_Eat_made := kEat_made
    b_Eat_made := (fun_mk (st := sEat_made) lEat_made cEat_made kEat_made).binds (ps := ["self", "shape"]) fun _ _ _ _ _ _ us hl => match us, hl with | [_, _], _ => rfl
    F_grown := funz_mk (st := sgrown) lgrown cgrown kgrown
    g_grown := PySem.W.mg_of X G agrown
    k_grown := kgrown
    b_grown := (fun_mk (st := sgrown) lgrown cgrown kgrown).binds (ps := ["shape", "piece"]) fun _ _ _ _ _ _ us hl => match us, hl with | [_, _], _ => rfl
    F_Grow_made := funz_mk (st := sGrow_made) lGrow_made cGrow_made kGrow_made
    k_Grow_made := kGrow_made
    b_Grow_made := (fun_mk (st := sGrow_made) lGrow_made cGrow_made kGrow_made).binds (ps := ["self", "shape"]) fun _ _ _ _ _ _ us hl => match us, hl with | [_, _], _ => rfl
    F_only_in := funz_mk (st := sonly_in) lonly_in conly_in konly_in
    g_only_in := PySem.W.mg_of X G aonly_in
    k_only_in := konly_in
    b_only_in := (fun_mk (st := sonly_in) lonly_in conly_in konly_in).binds (ps := ["one", "other"]) fun _ _ _ _ _ _ us hl => match us, hl with | [_, _], _ => rfl
    F_both := funz_mk (st := sboth) lboth cboth kboth
    g_both := PySem.W.mg_of X G aboth
    k_both := kboth
    b_both := (fun_mk (st := sboth) lboth cboth kboth).binds (ps := ["one", "other"]) fun _ _ _ _ _ _ us hl => match us, hl with | [_, _], _ => rfl
    F_Both_made := funz_mk (st := sBoth_made) lBoth_made cBoth_made kBoth_made
    k_Both_made := kBoth_made
    b_Both_made := (fun_mk (st := sBoth_made) lBoth_made cBoth_made kBoth_made).binds (ps := ["self", "shape"]) fun _ _ _ _ _ _ us hl => match us, hl with | [_, _], _ => rfl
    F_outside := funz_mk (st := soutside) loutside coutside koutside
    g_outside := PySem.W.mg_of X G aoutside
    k_outside := koutside
    b_outside := (fun_mk (st := soutside) loutside coutside koutside).binds (ps := ["shape"]) fun _ _ _ _ _ _ us hl => match us, hl with | [_], _ => rfl
    F_either := funz_mk (st := seither) leither ceither keither
    g_either := PySem.W.mg_of X G aeither
    k_either := keither
    b_either := (fun_mk (st := seither) leither ceither keither).binds (ps := ["one", "other"]) fun _ _ _ _ _ _ us hl => match us, hl with | [_, _], _ => rfl
    F_Either_made := funz_mk (st := sEither_made) lEither_made cEither_made kEither_made
    k_Either_made := kEither_made
    b_Either_made := (fun_mk (st := sEither_made) lEither_made cEither_made kEither_made).binds (ps := ["self", "shape"]) fun _ _ _ _ _ _ us hl => match us, hl with | [_, _], _ => rfl
    F_Plan_done := funz_mk (st := sPlan_done) lPlan_done cPlan_done kPlan_done
    k_Plan_done := kPlan_done
    b_Plan_done := (fun_mk (st := sPlan_done) lPlan_done cPlan_done kPlan_done).binds (ps := ["self", "shape"]) fun _ _ _ _ _ _ us hl => match us, hl with | [_, _], _ => rfl
    F__law_done := funz_mk (st := s_law_done) l_law_done c_law_done k_law_done
    g__law_done := PySem.W.mg_of X G a_law_done
    k__law_done := k_law_done
    b__law_done := (fun_mk (st := s_law_done) l_law_done c_law_done k_law_done).binds (ps := ["plan", "shape"]) fun _ _ _ _ _ _ us hl => match us, hl with | [_, _], _ => rfl
    F__law_turns := funz_mk (st := s_law_turns) l_law_turns c_law_turns k_law_turns
    g__law_turns := PySem.W.mg_of X G a_law_turns
    k__law_turns := k_law_turns
    b__law_turns := (fun_mk (st := s_law_turns) l_law_turns c_law_turns k_law_turns).binds (ps := ["form", "plan", "shapes", "turn"]) fun _ _ _ _ _ _ us hl => match us, hl with | [_, _, _, _], _ => rfl
    F__law_moves := funz_mk (st := s_law_moves) l_law_moves c_law_moves k_law_moves
    g__law_moves := PySem.W.mg_of X G a_law_moves
    k__law_moves := k_law_moves
    b__law_moves := (fun_mk (st := s_law_moves) l_law_moves c_law_moves k_law_moves).binds (ps := ["plan", "shape", "step"]) fun _ _ _ _ _ _ us hl => match us, hl with | [_, _, _], _ => rfl
    F__law_noted := funz_mk (st := s_law_noted) l_law_noted c_law_noted k_law_noted
    g__law_noted := PySem.W.mg_of X G a_law_noted
    k__law_noted := k_law_noted
    b__law_noted := (fun_mk (st := s_law_noted) l_law_noted c_law_noted k_law_noted).binds (ps := ["cells"]) fun _ _ _ _ _ _ us hl => match us, hl with | [_], _ => rfl
    F__law_more := funz_mk (st := s_law_more) l_law_more c_law_more k_law_more
    g__law_more := PySem.W.mg_of X G a_law_more
    k__law_more := k_law_more
    b__law_more := (fun_mk (st := s_law_more) l_law_more c_law_more k_law_more).binds (ps := ["plan", "shape", "other"]) fun _ _ _ _ _ _ us hl => match us, hl with | [_, _, _], _ => rfl
    F__law_refused := funz_mk (st := s_law_refused) l_law_refused c_law_refused k_law_refused
    g__law_refused := PySem.W.mg_of X G a_law_refused
    k__law_refused := k_law_refused
    b__law_refused := (fun_mk (st := s_law_refused) l_law_refused c_law_refused k_law_refused).binds (ps := ["plan", "turn"]) fun _ _ _ _ _ _ us hl => match us, hl with | [_, _], _ => rfl
    F_law := funz_mk (st := slaw) llaw claw klaw
    g_law := PySem.W.mg_of X G alaw
    k_law := klaw
    b_law := (fun_mk (st := slaw) llaw claw klaw).binds (ps := ["script"]) fun _ _ _ _ _ _ us hl => match us, hl with | [_], _ => rfl
    F_Move___init__ := fun_mk (st := sMove___init__) lMove___init__ cMove___init__ kMove___init__
    k_Move___init__ := kMove___init__
    b_Move___init__ := (fun_mk (st := sMove___init__) lMove___init__ cMove___init__ kMove___init__).binds (ps := ["self", "step", "plan"]) fun _ _ _ _ _ _ us hl => match us, hl with | [_, _, _], _ => rfl
    F_Eat___init__ := fun_mk (st := sEat___init__) lEat___init__ cEat___init__ kEat___init__
    k_Eat___init__ := kEat___init__
    b_Eat___init__ := (fun_mk (st := sEat___init__) lEat___init__ cEat___init__ kEat___init__).binds (ps := ["self", "piece", "plan"]) fun _ _ _ _ _ _ us hl => match us, hl with | [_, _, _], _ => rfl
    F_Grow___init__ := fun_mk (st := sGrow___init__) lGrow___init__ cGrow___init__ kGrow___init__
    k_Grow___init__ := kGrow___init__
    b_Grow___init__ := (fun_mk (st := sGrow___init__) lGrow___init__ cGrow___init__ kGrow___init__).binds (ps := ["self", "piece", "plan"]) fun _ _ _ _ _ _ us hl => match us, hl with | [_, _, _], _ => rfl
    F_Both___init__ := fun_mk (st := sBoth___init__) lBoth___init__ cBoth___init__ kBoth___init__
    k_Both___init__ := kBoth___init__
    b_Both___init__ := (fun_mk (st := sBoth___init__) lBoth___init__ cBoth___init__ kBoth___init__).binds (ps := ["self", "one", "other"]) fun _ _ _ _ _ _ us hl => match us, hl with | [_, _, _], _ => rfl
    F_Either___init__ := fun_mk (st := sEither___init__) lEither___init__ cEither___init__ kEither___init__
    k_Either___init__ := kEither___init__
    b_Either___init__ := (fun_mk (st := sEither___init__) lEither___init__ cEither___init__ kEither___init__).binds (ps := ["self", "one", "other"]) fun _ _ _ _ _ _ us hl => match us, hl with | [_, _, _], _ => rfl
    gc_BadCell := PySem.W.mg_of X G ac_BadCell
    gc_BadTurn := PySem.W.mg_of X G ac_BadTurn
    gc_Both := PySem.W.mg_of X G ac_Both
    gc_Eat := PySem.W.mg_of X G ac_Eat
    gc_Either := PySem.W.mg_of X G ac_Either
    gc_Everything := PySem.W.mg_of X G ac_Everything
    gc_Grow := PySem.W.mg_of X G ac_Grow
    gc_Keep := PySem.W.mg_of X G ac_Keep
    gc_MossError := PySem.W.mg_of X G ac_MossError
    gc_Move := PySem.W.mg_of X G ac_Move
    gc_Nothing := PySem.W.mg_of X G ac_Nothing
    gc_TooMany := PySem.W.mg_of X G ac_TooMany
    x_BadTurn := ⟨PySem.W.mg_of X G ac_BadTurn, yk_BadTurn, ye_BadTurn, yt_BadTurn, ⟨yg_BadTurn, yh_BadTurn, yb_BadTurn, yd_BadTurn, ya_BadTurn, yn, yx, ym_BadTurn⟩⟩
    x_TooMany := ⟨PySem.W.mg_of X G ac_TooMany, yk_TooMany, ye_TooMany, yt_TooMany, ⟨yg_TooMany, yh_TooMany, yb_TooMany, yd_TooMany, ya_TooMany, yn, yx, ym_TooMany⟩⟩
    e_BadTurn_MossError := PySem.W.exm_ref yb_MossError yd_MossError yt_MossError ye_BadTurn_MossError
    e_BadTurn_TooMany := PySem.W.exm_ref yb_TooMany yd_TooMany yt_TooMany ye_BadTurn_TooMany
    e_TooMany_MossError := PySem.W.exm_ref yb_MossError yd_MossError yt_MossError ye_TooMany_MossError
    e_TooMany_TooMany := PySem.W.exm_ref yb_TooMany yd_TooMany yt_TooMany ye_TooMany_TooMany
    i_BadTurn_BadTurn := yi_BadTurn_BadTurn
    i_BadTurn_ValueError := yi_BadTurn_ValueError
    i_TooMany_BadTurn := yi_TooMany_BadTurn
    i_TooMany_ValueError := yi_TooMany_ValueError
    t_BadTurn_BadCell_TooMany := yt_BadTurn_BadCell_TooMany
    t_TooMany_BadCell_TooMany := yt_TooMany_BadCell_TooMany
    n_ValueError := PySem.W.mg_none_of X G z_ValueError
    n_all := PySem.W.mg_none_of X G z_all
    n_bool := PySem.W.mg_none_of X G z_bool
    n_int := PySem.W.mg_none_of X G z_int
    n_isinstance := PySem.W.mg_none_of X G z_isinstance
    n_len := PySem.W.mg_none_of X G z_len
    n_list := PySem.W.mg_none_of X G z_list
    n_range := PySem.W.mg_none_of X G z_range
    n_set := PySem.W.mg_none_of X G z_set
    n_sorted := PySem.W.mg_none_of X G z_sorted
    n_str := PySem.W.mg_none_of X G z_str
    n_tuple := PySem.W.mg_none_of X G z_tuple
    n_zip := PySem.W.mg_none_of X G z_zip
    c_ALL_TURNS := ⟨_, PySem.W.mg_of X G v_ALL_TURNS⟩
    c_MOST_MADE := ⟨_, PySem.W.mg_of X G v_MOST_MADE⟩
    c_QUARTERS := ⟨_, PySem.W.mg_of X G v_QUARTERS⟩
  }
  exact ⟨PySem.W.fnOf "law" "law" (defArgs slaw) (defBody slaw) (defScope slaw) .none kVlaw dclaw pmlaw anlaw cdlaw ctlaw, fun s v => .of_eq rfl, fun base _ _ => law_fn (w_law T) law_ok⟩
end G
open PySem PySem.W PyProof.Rows
set_option maxHeartbeats 0 in
theorem PySem.Challenge.cw_edgewide_k45_whole_turned_moved_more_holds : PySem.Challenge.rw_edgewide_k45_whole_turned_moved_more.Holds := by
  w_on; o_law; k_head; (case hw => w_witness2)
  k_fill
  refine L2.walk_ofB (l := PySem.Challenge.rw_edgewide_k45_whole_turned_moved_more) (n := 63) (k := 23) (x := "script") (CX := fun w => L2.CX PySem.Challenge.rw_edgewide_k45_whole_turned_moved_more.prog w) (sp := fun w => Py.SpL _) rfl (by decide) rfl ⟨rfl, by decide, by decide⟩ (fun w h Y => PySem.W.kIn_of Y) ?F (fun _ _ a ns hl hb _ hS => ⟨a, ns, rfl, hS, hl, hb, fun _ => rfl⟩) (fun _ _ _ _ _ h => Py.cx_end h)
  case F =>
    intro w mg fa h KX gns hmg
    refine' G.all_mk KX gns hmg ?ac_BadCell ?ac_BadTurn ?ac_Both ?ac_Eat ?ac_Either ?ac_Everything ?ac_Grow ?ac_Keep ?ac_MossError ?ac_Move ?ac_Nothing ?ac_TooMany ?a_law_deal ?l_law_deal ?c_law_deal ?k_law_deal ?a_law_take ?l_law_take ?c_law_take ?k_law_take ?a_law_step ?l_law_step ?c_law_step ?k_law_step ?a_law_piece ?l_law_piece ?c_law_piece ?k_law_piece ?a_law_form ?l_law_form ?c_law_form ?k_law_form ?a_law_great ?l_law_great ?c_law_great ?k_law_great ?a_law_plan ?l_law_plan ?c_law_plan ?k_law_plan ?a_law_shape ?l_law_shape ?c_law_shape ?k_law_shape ?alook_at_turn ?llook_at_turn ?clook_at_turn ?klook_at_turn ?aKeep_by_turn ?lKeep_by_turn ?cKeep_by_turn ?kKeep_by_turn ?im_Keep_by_turn ?aNothing_by_turn ?lNothing_by_turn ?cNothing_by_turn ?kNothing_by_turn ?im_Nothing_by_turn ?aEverything_by_turn ?lEverything_by_turn ?cEverything_by_turn ?kEverything_by_turn ?im_Everything_by_turn ?aturned_cell ?lturned_cell ?cturned_cell ?kturned_cell ?aMove_by_turn ?lMove_by_turn ?cMove_by_turn ?kMove_by_turn ?im_Move_by_turn ?arising ?lrising ?crising ?krising ?aturned_piece ?lturned_piece ?cturned_piece ?kturned_piece ?aEat_by_turn ?lEat_by_turn ?cEat_by_turn ?kEat_by_turn ?im_Eat_by_turn ?aGrow_by_turn ?lGrow_by_turn ?cGrow_by_turn ?kGrow_by_turn ?im_Grow_by_turn ?aBoth_by_turn ?lBoth_by_turn ?cBoth_by_turn ?kBoth_by_turn ?im_Both_by_turn ?aEither_by_turn ?lEither_by_turn ?cEither_by_turn ?kEither_by_turn ?im_Either_by_turn ?aKeep_words ?lKeep_words ?cKeep_words ?kKeep_words ?im_Keep_words ?aNothing_words ?lNothing_words ?cNothing_words ?kNothing_words ?im_Nothing_words ?aEverything_words ?lEverything_words ?cEverything_words ?kEverything_words ?im_Everything_words ?astep_words ?lstep_words ?cstep_words ?kstep_words ?aMove_words ?lMove_words ?cMove_words ?kMove_words ?im_Move_words ?aEat_words ?lEat_words ?cEat_words ?kEat_words ?im_Eat_words ?aGrow_words ?lGrow_words ?cGrow_words ?kGrow_words ?im_Grow_words ?aBoth_words ?lBoth_words ?cBoth_words ?kBoth_words ?im_Both_words ?aEither_words ?lEither_words ?cEither_words ?kEither_words ?im_Either_words ?a_law_turned_cell ?l_law_turned_cell ?c_law_turned_cell ?k_law_turned_cell ?a_law_turned_cells ?l_law_turned_cells ?c_law_turned_cells ?k_law_turned_cells ?a_law_turned ?l_law_turned ?c_law_turned ?k_law_turned ?a_law_parts ?l_law_parts ?c_law_parts ?k_law_parts ?a_law_words ?l_law_words ?c_law_words ?k_law_words ?a_law_same ?l_law_same ?c_law_same ?k_law_same ?aPlan_made ?lPlan_made ?cPlan_made ?kPlan_made ?im_Plan_made ?aNothing_made ?lNothing_made ?cNothing_made ?kNothing_made ?im_Nothing_made ?aEverything_made ?lEverything_made ?cEverything_made ?kEverything_made ?im_Everything_made ?amoved_cell ?lmoved_cell ?cmoved_cell ?kmoved_cell ?amoved ?lmoved ?cmoved ?kmoved ?aMove_made ?lMove_made ?cMove_made ?kMove_made ?im_Move_made ?amirrored ?lmirrored ?cmirrored ?kmirrored ?alies_on ?llies_on ?clies_on ?klies_on ?areached ?lreached ?creached ?kreached ?aless_cell ?lless_cell ?cless_cell ?kless_cell ?akept_at ?lkept_at ?ckept_at ?kkept_at ?aeaten ?leaten ?ceaten ?keaten ?aEat_made ?lEat_made ?cEat_made ?kEat_made ?im_Eat_made ?agrown ?lgrown ?cgrown ?kgrown ?aGrow_made ?lGrow_made ?cGrow_made ?kGrow_made ?im_Grow_made ?aonly_in ?lonly_in ?conly_in ?konly_in ?aboth ?lboth ?cboth ?kboth ?aBoth_made ?lBoth_made ?cBoth_made ?kBoth_made ?im_Both_made ?aoutside ?loutside ?coutside ?koutside ?aeither ?leither ?ceither ?keither ?aEither_made ?lEither_made ?cEither_made ?kEither_made ?im_Either_made ?aPlan_done ?lPlan_done ?cPlan_done ?kPlan_done ?im_Plan_done ?a_law_done ?l_law_done ?c_law_done ?k_law_done ?a_law_turns ?l_law_turns ?c_law_turns ?k_law_turns ?a_law_moves ?l_law_moves ?c_law_moves ?k_law_moves ?a_law_noted ?l_law_noted ?c_law_noted ?k_law_noted ?a_law_more ?l_law_more ?c_law_more ?k_law_more ?a_law_refused ?l_law_refused ?c_law_refused ?k_law_refused ?alaw ?llaw ?claw ?klaw ?aMove___init__ ?lMove___init__ ?cMove___init__ ?kMove___init__ ?im_Move___init__ ?aEat___init__ ?lEat___init__ ?cEat___init__ ?kEat___init__ ?im_Eat___init__ ?aGrow___init__ ?lGrow___init__ ?cGrow___init__ ?kGrow___init__ ?im_Grow___init__ ?aBoth___init__ ?lBoth___init__ ?cBoth___init__ ?kBoth___init__ ?im_Both___init__ ?aEither___init__ ?lEither___init__ ?cEither___init__ ?kEither___init__ ?im_Either___init__ ?z_ValueError ?z_all ?z_bool ?z_int ?z_isinstance ?z_len ?z_list ?z_range ?z_set ?z_sorted ?z_str ?z_tuple ?z_zip ?pg_Keep ?pd_Keep ?po_Keep ?ps_Keep ?pc_Keep ?pm_Keep ?pnstep_Keep ?pnplan_Keep ?pnpiece_Keep ?pnone_Keep ?pnother_Keep ?pk_Keep ?pe_Keep ?pi_Keep ?pg_Nothing ?pd_Nothing ?po_Nothing ?ps_Nothing ?pc_Nothing ?pm_Nothing ?pnstep_Nothing ?pnplan_Nothing ?pnpiece_Nothing ?pnone_Nothing ?pnother_Nothing ?pk_Nothing ?pe_Nothing ?pi_Nothing ?pg_Everything ?pd_Everything ?po_Everything ?ps_Everything ?pc_Everything ?pm_Everything ?pnstep_Everything ?pnplan_Everything ?pnpiece_Everything ?pnone_Everything ?pnother_Everything ?pk_Everything ?pe_Everything ?pi_Everything ?pg_Move ?pd_Move ?po_Move ?ps_Move ?pc_Move ?pm_Move ?pnstep_Move ?pnplan_Move ?pnpiece_Move ?pnone_Move ?pnother_Move ?pk_Move ?pe_Move ?pg_Eat ?pd_Eat ?po_Eat ?ps_Eat ?pc_Eat ?pm_Eat ?pnstep_Eat ?pnplan_Eat ?pnpiece_Eat ?pnone_Eat ?pnother_Eat ?pk_Eat ?pe_Eat ?pg_Grow ?pd_Grow ?po_Grow ?ps_Grow ?pc_Grow ?pm_Grow ?pnstep_Grow ?pnplan_Grow ?pnpiece_Grow ?pnone_Grow ?pnother_Grow ?pk_Grow ?pe_Grow ?pg_Both ?pd_Both ?po_Both ?ps_Both ?pc_Both ?pm_Both ?pnstep_Both ?pnplan_Both ?pnpiece_Both ?pnone_Both ?pnother_Both ?pk_Both ?pe_Both ?pg_Either ?pd_Either ?po_Either ?ps_Either ?pc_Either ?pm_Either ?pnstep_Either ?pnplan_Either ?pnpiece_Either ?pnone_Either ?pnother_Either ?pk_Either ?pe_Either ?pgn ?pgt ?mt_Both_by_turn ?mt_Both_done ?mt_Both_made ?mt_Both_words ?mt_Eat_by_turn ?mt_Eat_done ?mt_Eat_made ?mt_Eat_words ?mt_Either_by_turn ?mt_Either_done ?mt_Either_made ?mt_Either_words ?mt_Everything_by_turn ?mt_Everything_done ?mt_Everything_made ?mt_Everything_words ?mt_Grow_by_turn ?mt_Grow_done ?mt_Grow_made ?mt_Grow_words ?mt_Keep_by_turn ?mt_Keep_done ?mt_Keep_made ?mt_Keep_words ?mt_Move_by_turn ?mt_Move_done ?mt_Move_made ?mt_Move_words ?mt_Nothing_by_turn ?mt_Nothing_done ?mt_Nothing_made ?mt_Nothing_words ?yb_BadTurn ?yd_BadTurn ?yt_BadTurn ?yb_MossError ?yd_MossError ?yt_MossError ?yb_TooMany ?yd_TooMany ?yt_TooMany ?yk_BadTurn ?ye_BadTurn ?yg_BadTurn ?yh_BadTurn ?ya_BadTurn ?ym_BadTurn ?yk_TooMany ?ye_TooMany ?yg_TooMany ?yh_TooMany ?ya_TooMany ?ym_TooMany ?yn ?yx ?ye_BadTurn_MossError ?ye_BadTurn_TooMany ?ye_TooMany_MossError ?ye_TooMany_TooMany ?yi_BadTurn_BadTurn ?yi_BadTurn_ValueError ?yi_TooMany_BadTurn ?yi_TooMany_ValueError ?yt_BadTurn_BadCell_TooMany ?yt_TooMany_BadCell_TooMany ?v_ALL_TURNS ?v_MOST_MADE ?v_QUARTERS
    (case ac_BadCell => k_is)
    (case ac_BadTurn => k_is)
    (case ac_Both => k_is)
    (case ac_Eat => k_is)
    (case ac_Either => k_is)
    (case ac_Everything => k_is)
    (case ac_Grow => k_is)
    (case ac_Keep => k_is)
    (case ac_MossError => k_is)
    (case ac_Move => k_is)
    (case ac_Nothing => k_is)
    (case ac_TooMany => k_is)
    (case a_law_deal => k_is)
    (case l_law_deal => k_is)
    (case c_law_deal => k_is)
    (case k_law_deal => k_is)
    (case a_law_take => k_is)
    (case l_law_take => k_is)
    (case c_law_take => k_is)
    (case k_law_take => k_is)
    (case a_law_step => k_is)
    (case l_law_step => k_is)
    (case c_law_step => k_is)
    (case k_law_step => k_is)
    (case a_law_piece => k_is)
    (case l_law_piece => k_is)
    (case c_law_piece => k_is)
    (case k_law_piece => k_is)
    (case a_law_form => k_is)
    (case l_law_form => k_is)
    (case c_law_form => k_is)
    (case k_law_form => k_is)
    (case a_law_great => k_is)
    (case l_law_great => k_is)
    (case c_law_great => k_is)
    (case k_law_great => k_is)
    (case a_law_plan => k_is)
    (case l_law_plan => k_is)
    (case c_law_plan => k_is)
    (case k_law_plan => k_is)
    (case a_law_shape => k_is)
    (case l_law_shape => k_is)
    (case c_law_shape => k_is)
    (case k_law_shape => k_is)
    (case alook_at_turn => k_is)
    (case llook_at_turn => k_is)
    (case clook_at_turn => k_is)
    (case klook_at_turn => k_is)
    (case aKeep_by_turn => k_is)
    (case lKeep_by_turn => k_is)
    (case cKeep_by_turn => k_is)
    (case kKeep_by_turn => k_is)
    (case im_Keep_by_turn => k_is)
    (case aNothing_by_turn => k_is)
    (case lNothing_by_turn => k_is)
    (case cNothing_by_turn => k_is)
    (case kNothing_by_turn => k_is)
    (case im_Nothing_by_turn => k_is)
    (case aEverything_by_turn => k_is)
    (case lEverything_by_turn => k_is)
    (case cEverything_by_turn => k_is)
    (case kEverything_by_turn => k_is)
    (case im_Everything_by_turn => k_is)
    (case aturned_cell => k_is)
    (case lturned_cell => k_is)
    (case cturned_cell => k_is)
    (case kturned_cell => k_is)
    (case aMove_by_turn => k_is)
    (case lMove_by_turn => k_is)
    (case cMove_by_turn => k_is)
    (case kMove_by_turn => k_is)
    (case im_Move_by_turn => k_is)
    (case arising => k_is)
    (case lrising => k_is)
    (case crising => k_is)
    (case krising => k_is)
    (case aturned_piece => k_is)
    (case lturned_piece => k_is)
    (case cturned_piece => k_is)
    (case kturned_piece => k_is)
    (case aEat_by_turn => k_is)
    (case lEat_by_turn => k_is)
    (case cEat_by_turn => k_is)
    (case kEat_by_turn => k_is)
    (case im_Eat_by_turn => k_is)
    (case aGrow_by_turn => k_is)
    (case lGrow_by_turn => k_is)
    (case cGrow_by_turn => k_is)
    (case kGrow_by_turn => k_is)
    (case im_Grow_by_turn => k_is)
    (case aBoth_by_turn => k_is)
    (case lBoth_by_turn => k_is)
    (case cBoth_by_turn => k_is)
    (case kBoth_by_turn => k_is)
    (case im_Both_by_turn => k_is)
    (case aEither_by_turn => k_is)
    (case lEither_by_turn => k_is)
    (case cEither_by_turn => k_is)
    (case kEither_by_turn => k_is)
    (case im_Either_by_turn => k_is)
    (case aKeep_words => k_is)
    (case lKeep_words => k_is)
    (case cKeep_words => k_is)
    (case kKeep_words => k_is)
    (case im_Keep_words => k_is)
    (case aNothing_words => k_is)
    (case lNothing_words => k_is)
    (case cNothing_words => k_is)
    (case kNothing_words => k_is)
    (case im_Nothing_words => k_is)
    (case aEverything_words => k_is)
    (case lEverything_words => k_is)
    (case cEverything_words => k_is)
    (case kEverything_words => k_is)
    (case im_Everything_words => k_is)
    (case astep_words => k_is)
    (case lstep_words => k_is)
    (case cstep_words => k_is)
    (case kstep_words => k_is)
    (case aMove_words => k_is)
    (case lMove_words => k_is)
    (case cMove_words => k_is)
    (case kMove_words => k_is)
    (case im_Move_words => k_is)
    (case aEat_words => k_is)
    (case lEat_words => k_is)
    (case cEat_words => k_is)
    (case kEat_words => k_is)
    (case im_Eat_words => k_is)
    (case aGrow_words => k_is)
    (case lGrow_words => k_is)
    (case cGrow_words => k_is)
    (case kGrow_words => k_is)
    (case im_Grow_words => k_is)
    (case aBoth_words => k_is)
    (case lBoth_words => k_is)
    (case cBoth_words => k_is)
    (case kBoth_words => k_is)
    (case im_Both_words => k_is)
    (case aEither_words => k_is)
    (case lEither_words => k_is)
    (case cEither_words => k_is)
    (case kEither_words => k_is)
    (case im_Either_words => k_is)
    (case a_law_turned_cell => k_is)
    (case l_law_turned_cell => k_is)
    (case c_law_turned_cell => k_is)
    (case k_law_turned_cell => k_is)
    (case a_law_turned_cells => k_is)
    (case l_law_turned_cells => k_is)
    (case c_law_turned_cells => k_is)
    (case k_law_turned_cells => k_is)
    (case a_law_turned => k_is)
    (case l_law_turned => k_is)
    (case c_law_turned => k_is)
    (case k_law_turned => k_is)
    (case a_law_parts => k_is)
    (case l_law_parts => k_is)
    (case c_law_parts => k_is)
    (case k_law_parts => k_is)
    (case a_law_words => k_is)
    (case l_law_words => k_is)
    (case c_law_words => k_is)
    (case k_law_words => k_is)
    (case a_law_same => k_is)
    (case l_law_same => k_is)
    (case c_law_same => k_is)
    (case k_law_same => k_is)
    (case aPlan_made => k_is)
    (case lPlan_made => k_is)
    (case cPlan_made => k_is)
    (case kPlan_made => k_is)
    (case im_Plan_made => k_is)
    (case aNothing_made => k_is)
    (case lNothing_made => k_is)
    (case cNothing_made => k_is)
    (case kNothing_made => k_is)
    (case im_Nothing_made => k_is)
    (case aEverything_made => k_is)
    (case lEverything_made => k_is)
    (case cEverything_made => k_is)
    (case kEverything_made => k_is)
    (case im_Everything_made => k_is)
    (case amoved_cell => k_is)
    (case lmoved_cell => k_is)
    (case cmoved_cell => k_is)
    (case kmoved_cell => k_is)
    (case amoved => k_is)
    (case lmoved => k_is)
    (case cmoved => k_is)
    (case kmoved => k_is)
    (case aMove_made => k_is)
    (case lMove_made => k_is)
    (case cMove_made => k_is)
    (case kMove_made => k_is)
    (case im_Move_made => k_is)
    (case amirrored => k_is)
    (case lmirrored => k_is)
    (case cmirrored => k_is)
    (case kmirrored => k_is)
    (case alies_on => k_is)
    (case llies_on => k_is)
    (case clies_on => k_is)
    (case klies_on => k_is)
    (case areached => k_is)
    (case lreached => k_is)
    (case creached => k_is)
    (case kreached => k_is)
    (case aless_cell => k_is)
    (case lless_cell => k_is)
    (case cless_cell => k_is)
    (case kless_cell => k_is)
    (case akept_at => k_is)
    (case lkept_at => k_is)
    (case ckept_at => k_is)
    (case kkept_at => k_is)
    (case aeaten => k_is)
    (case leaten => k_is)
    (case ceaten => k_is)
    (case keaten => k_is)
    (case aEat_made => k_is)
    (case lEat_made => k_is)
    (case cEat_made => k_is)
    (case kEat_made => k_is)
    (case im_Eat_made => k_is)
    (case agrown => k_is)
    (case lgrown => k_is)
    (case cgrown => k_is)
    (case kgrown => k_is)
    (case aGrow_made => k_is)
    (case lGrow_made => k_is)
    (case cGrow_made => k_is)
    (case kGrow_made => k_is)
    (case im_Grow_made => k_is)
    (case aonly_in => k_is)
    (case lonly_in => k_is)
    (case conly_in => k_is)
    (case konly_in => k_is)
    (case aboth => k_is)
    (case lboth => k_is)
    (case cboth => k_is)
    (case kboth => k_is)
    (case aBoth_made => k_is)
    (case lBoth_made => k_is)
    (case cBoth_made => k_is)
    (case kBoth_made => k_is)
    (case im_Both_made => k_is)
    (case aoutside => k_is)
    (case loutside => k_is)
    (case coutside => k_is)
    (case koutside => k_is)
    (case aeither => k_is)
    (case leither => k_is)
    (case ceither => k_is)
    (case keither => k_is)
    (case aEither_made => k_is)
    (case lEither_made => k_is)
    (case cEither_made => k_is)
    (case kEither_made => k_is)
    (case im_Either_made => k_is)
    (case aPlan_done => k_is)
    (case lPlan_done => k_is)
    (case cPlan_done => k_is)
    (case kPlan_done => k_is)
    (case im_Plan_done => k_is)
    (case a_law_done => k_is)
    (case l_law_done => k_is)
    (case c_law_done => k_is)
    (case k_law_done => k_is)
    (case a_law_turns => k_is)
    (case l_law_turns => k_is)
    (case c_law_turns => k_is)
    (case k_law_turns => k_is)
    (case a_law_moves => k_is)
    (case l_law_moves => k_is)
    (case c_law_moves => k_is)
    (case k_law_moves => k_is)
    (case a_law_noted => k_is)
    (case l_law_noted => k_is)
    (case c_law_noted => k_is)
    (case k_law_noted => k_is)
    (case a_law_more => k_is)
    (case l_law_more => k_is)
    (case c_law_more => k_is)
    (case k_law_more => k_is)
    (case a_law_refused => k_is)
    (case l_law_refused => k_is)
    (case c_law_refused => k_is)
    (case k_law_refused => k_is)
    (case alaw => k_is)
    (case llaw => k_is)
    (case claw => k_is)
    (case klaw => k_is)
    (case aMove___init__ => k_is)
    (case lMove___init__ => k_is)
    (case cMove___init__ => k_is)
    (case kMove___init__ => k_is)
    (case im_Move___init__ => k_is)
    (case aEat___init__ => k_is)
    (case lEat___init__ => k_is)
    (case cEat___init__ => k_is)
    (case kEat___init__ => k_is)
    (case im_Eat___init__ => k_is)
    (case aGrow___init__ => k_is)
    (case lGrow___init__ => k_is)
    (case cGrow___init__ => k_is)
    (case kGrow___init__ => k_is)
    (case im_Grow___init__ => k_is)
    (case aBoth___init__ => k_is)
    (case lBoth___init__ => k_is)
    (case cBoth___init__ => k_is)
    (case kBoth___init__ => k_is)
    (case im_Both___init__ => k_is)
    (case aEither___init__ => k_is)
    (case lEither___init__ => k_is)
    (case cEither___init__ => k_is)
    (case kEither___init__ => k_is)
    (case im_Either___init__ => k_is)
    (case z_ValueError => k_is)
    (case z_all => k_is)
    (case z_bool => k_is)
    (case z_int => k_is)
    (case z_isinstance => k_is)
    (case z_len => k_is)
    (case z_list => k_is)
    (case z_range => k_is)
    (case z_set => k_is)
    (case z_sorted => k_is)
    (case z_str => k_is)
    (case z_tuple => k_is)
    (case z_zip => k_is)
    (case pg_Keep => k_is)
    (case pd_Keep => k_is)
    (case po_Keep => k_is)
    (case ps_Keep => k_is)
    (case pc_Keep => k_is)
    (case pm_Keep => k_is)
    (case pnstep_Keep => k_is)
    (case pnplan_Keep => k_is)
    (case pnpiece_Keep => k_is)
    (case pnone_Keep => k_is)
    (case pnother_Keep => k_is)
    (case pk_Keep => k_is)
    (case pe_Keep => k_is)
    (case pi_Keep => k_is)
    (case pg_Nothing => k_is)
    (case pd_Nothing => k_is)
    (case po_Nothing => k_is)
    (case ps_Nothing => k_is)
    (case pc_Nothing => k_is)
    (case pm_Nothing => k_is)
    (case pnstep_Nothing => k_is)
    (case pnplan_Nothing => k_is)
    (case pnpiece_Nothing => k_is)
    (case pnone_Nothing => k_is)
    (case pnother_Nothing => k_is)
    (case pk_Nothing => k_is)
    (case pe_Nothing => k_is)
    (case pi_Nothing => k_is)
    (case pg_Everything => k_is)
    (case pd_Everything => k_is)
    (case po_Everything => k_is)
    (case ps_Everything => k_is)
    (case pc_Everything => k_is)
    (case pm_Everything => k_is)
    (case pnstep_Everything => k_is)
    (case pnplan_Everything => k_is)
    (case pnpiece_Everything => k_is)
    (case pnone_Everything => k_is)
    (case pnother_Everything => k_is)
    (case pk_Everything => k_is)
    (case pe_Everything => k_is)
    (case pi_Everything => k_is)
    (case pg_Move => k_is)
    (case pd_Move => k_is)
    (case po_Move => k_is)
    (case ps_Move => k_is)
    (case pc_Move => k_is)
    (case pm_Move => k_is)
    (case pnstep_Move => k_is)
    (case pnplan_Move => k_is)
    (case pnpiece_Move => k_is)
    (case pnone_Move => k_is)
    (case pnother_Move => k_is)
    (case pk_Move => k_is)
    (case pe_Move => k_is)
    (case pg_Eat => k_is)
    (case pd_Eat => k_is)
    (case po_Eat => k_is)
    (case ps_Eat => k_is)
    (case pc_Eat => k_is)
    (case pm_Eat => k_is)
    (case pnstep_Eat => k_is)
    (case pnplan_Eat => k_is)
    (case pnpiece_Eat => k_is)
    (case pnone_Eat => k_is)
    (case pnother_Eat => k_is)
    (case pk_Eat => k_is)
    (case pe_Eat => k_is)
    (case pg_Grow => k_is)
    (case pd_Grow => k_is)
    (case po_Grow => k_is)
    (case ps_Grow => k_is)
    (case pc_Grow => k_is)
    (case pm_Grow => k_is)
    (case pnstep_Grow => k_is)
    (case pnplan_Grow => k_is)
    (case pnpiece_Grow => k_is)
    (case pnone_Grow => k_is)
    (case pnother_Grow => k_is)
    (case pk_Grow => k_is)
    (case pe_Grow => k_is)
    (case pg_Both => k_is)
    (case pd_Both => k_is)
    (case po_Both => k_is)
    (case ps_Both => k_is)
    (case pc_Both => k_is)
    (case pm_Both => k_is)
    (case pnstep_Both => k_is)
    (case pnplan_Both => k_is)
    (case pnpiece_Both => k_is)
    (case pnone_Both => k_is)
    (case pnother_Both => k_is)
    (case pk_Both => k_is)
    (case pe_Both => k_is)
    (case pg_Either => k_is)
    (case pd_Either => k_is)
    (case po_Either => k_is)
    (case ps_Either => k_is)
    (case pc_Either => k_is)
    (case pm_Either => k_is)
    (case pnstep_Either => k_is)
    (case pnplan_Either => k_is)
    (case pnpiece_Either => k_is)
    (case pnone_Either => k_is)
    (case pnother_Either => k_is)
    (case pk_Either => k_is)
    (case pe_Either => k_is)
    (case pgn => k_is)
    (case pgt => k_is)
    (case mt_Both_by_turn => k_is)
    (case mt_Both_done => k_is)
    (case mt_Both_made => k_is)
    (case mt_Both_words => k_is)
    (case mt_Eat_by_turn => k_is)
    (case mt_Eat_done => k_is)
    (case mt_Eat_made => k_is)
    (case mt_Eat_words => k_is)
    (case mt_Either_by_turn => k_is)
    (case mt_Either_done => k_is)
    (case mt_Either_made => k_is)
    (case mt_Either_words => k_is)
    (case mt_Everything_by_turn => k_is)
    (case mt_Everything_done => k_is)
    (case mt_Everything_made => k_is)
    (case mt_Everything_words => k_is)
    (case mt_Grow_by_turn => k_is)
    (case mt_Grow_done => k_is)
    (case mt_Grow_made => k_is)
    (case mt_Grow_words => k_is)
    (case mt_Keep_by_turn => k_is)
    (case mt_Keep_done => k_is)
    (case mt_Keep_made => k_is)
    (case mt_Keep_words => k_is)
    (case mt_Move_by_turn => k_is)
    (case mt_Move_done => k_is)
    (case mt_Move_made => k_is)
    (case mt_Move_words => k_is)
    (case mt_Nothing_by_turn => k_is)
    (case mt_Nothing_done => k_is)
    (case mt_Nothing_made => k_is)
    (case mt_Nothing_words => k_is)
    (case yb_BadTurn => k_is)
    (case yd_BadTurn => k_is)
    (case yt_BadTurn => k_is)
    (case yb_MossError => k_is)
    (case yd_MossError => k_is)
    (case yt_MossError => k_is)
    (case yb_TooMany => k_is)
    (case yd_TooMany => k_is)
    (case yt_TooMany => k_is)
    (case yk_BadTurn => k_is)
    (case ye_BadTurn => k_exc)
    (case yg_BadTurn => k_is)
    (case yh_BadTurn => k_is)
    (case ya_BadTurn => k_is)
    (case ym_BadTurn => k_is)
    (case yk_TooMany => k_is)
    (case ye_TooMany => k_exc)
    (case yg_TooMany => k_is)
    (case yh_TooMany => k_is)
    (case ya_TooMany => k_is)
    (case ym_TooMany => k_is)
    (case yn => k_is)
    (case yx => k_is)
    (case ye_BadTurn_MossError => first | rfl | k_is)
    (case ye_BadTurn_TooMany => first | rfl | k_is)
    (case ye_TooMany_MossError => first | rfl | k_is)
    (case ye_TooMany_TooMany => first | rfl | k_is)
    (case yi_BadTurn_BadTurn => kit_is)
    (case yi_BadTurn_ValueError => kit_is)
    (case yi_TooMany_BadTurn => kit_is)
    (case yi_TooMany_ValueError => kit_is)
    (case yt_BadTurn_BadCell_TooMany => kit_is)
    (case yt_TooMany_BadCell_TooMany => kit_is)
    (case v_ALL_TURNS => k_is)
    (case v_MOST_MADE => k_is)
    (case v_QUARTERS => k_is)
