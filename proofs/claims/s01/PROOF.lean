import PyProof.Rows.All
import PyVbtaac
import Wide.All
import OpenK.AllK
import Wide.FinOn
import HandS.ForSpec
import HandS.Comp
import KE.KStateDown
import Lean
import HandS.More
import HandS.Defaults
import HandS.Head0
import HandS.Head1
import HandS.Head2
import HandS.Head3
import HandS.Head4
import HandS.HeadEnd
import HandS.HeadHook1
import HandS.HeadHook2
import PyFlatLaws
import HandS.Dict
import HandS.Conv
import HandS.Evl
import HandS.NoneIn
import HandS.Style
import HandS.SortInts
import HandS.Sort
import HandS.Text
import HandS.Zip
import PySem.Challenge.RW_sightnest_s01_answers
set_option linter.all false
set_option maxRecDepth 10000
/-! SgA: the world's mathematics: what a good world is, and the recursions of the specification without their fuel. -/
namespace Sg
open Vbtaac

/-! ### objects -/
theorem at_lt {w : World} {n : Nat} {x : Object} (h : objectAt w n = some x) : 1 ≤ n ∧ n ≤ objectCount w ∧ w.objects[n - 1]? = some x := by
  unfold objectAt at h
  split at h
  · cases h
  · rename_i h0
    have := (List.getElem?_eq_some_iff.mp h).1
    exact ⟨by omega, by unfold objectCount; omega, h⟩
theorem at_of {w : World} {n : Nat} (h1 : 1 ≤ n) (h2 : n ≤ objectCount w) : ∃ x, objectAt w n = some x := by
  unfold objectAt
  rw [if_neg (by omega)]
  unfold objectCount at h2
  exact ⟨_, List.getElem?_eq_getElem (by omega)⟩
theorem at_ix {w : World} {n : Nat} {x : Object} (h1 : 1 ≤ n) (h : w.objects[n - 1]? = some x) : objectAt w n = some x := by
  unfold objectAt
  rw [if_neg (by omega)]
  exact h
theorem at_none {w : World} {n : Nat} (h : ¬ (1 ≤ n ∧ n ≤ objectCount w)) : objectAt w n = none := by
  unfold objectAt
  split
  · rfl
  · unfold objectCount at h
    exact List.getElem?_eq_none (by omega)
theorem holder_at {w : World} {n : Nat} {x : Object} (h : objectAt w n = some x) : holderOf w n = x.holder := by unfold holderOf; rw [h]
theorem relation_at {w : World} {n : Nat} {x : Object} (h : objectAt w n = some x) : relationOf w n = x.relation := by unfold relationOf; rw [h]
theorem bulk_at {w : World} {n : Nat} {x : Object} (h : objectAt w n = some x) : bulkOf w n = x.bulk := by unfold bulkOf; rw [h]
theorem capacity_at {w : World} {n : Nat} {x : Object} (h : objectAt w n = some x) : capacityOf w n = x.capacity := by unfold capacityOf; rw [h]
theorem property_at {w : World} {n b : Nat} {x : Object} (h : objectAt w n = some x) : hasProperty w n b = x.properties.testBit b := by unfold hasProperty; rw [h]
theorem exists_iff {w : World} {n : Nat} : objectExists w n = true ↔ 1 ≤ n ∧ n ≤ objectCount w := by
  unfold objectExists
  rw [Bool.and_eq_true, decide_eq_true_iff, decide_eq_true_iff]

/-- what holds of the world between two operations -/
structure Good (w : World) : Prop where
  cnt : objectCount w ≤ 60
  hle : ∀ n x, objectAt w n = some x → x.holder ≤ objectCount w
  hz : ∀ n x, objectAt w n = some x → (x.holder = 0 ↔ x.relation = 0)
  rle : ∀ n x, objectAt w n = some x → x.relation ≤ 5
  sp : ∀ n x, objectAt w n = some x → x.relation = 1 → isSpace w x.holder = true
  acy : ∃ rk : Nat → Nat, ∀ n x, objectAt w n = some x → x.holder ≠ 0 → rk x.holder < rk n
  win : ∀ x ∈ w.windows, isPlace w x.first = true ∧ isPlace w x.second = true ∧ 1 ≤ x.kind ∧ x.kind ≤ 3

/-! ### a rank below the number of objects -/
theorem countP_lt {α : Type} {p q : α → Bool} : ∀ {l : List α}, (∀ a ∈ l, p a = true → q a = true) → (∃ a ∈ l, q a = true ∧ p a = false) → l.countP p < l.countP q
  | [], _, h => by obtain ⟨a, h, _⟩ := h; cases h
  | a :: l, h1, h2 => by
    rw [List.countP_cons, List.countP_cons]
    have le : l.countP p ≤ l.countP q := List.countP_mono_left fun x hx => h1 x (List.mem_cons_of_mem _ hx)
    by_cases c : q a = true ∧ p a = false
    · rw [c.1, c.2]
      simp
      omega
    · obtain ⟨b, hb, h3⟩ := h2
      rcases List.mem_cons.mp hb with rfl | hb
      · exact absurd h3 c
      · have := countP_lt (fun x hx => h1 x (List.mem_cons_of_mem _ hx)) ⟨b, hb, h3⟩
        have h4 := h1 a List.mem_cons_self
        cases hp : p a with
        | true => rw [h4 hp]; simp; omega
        | false => simp; omega
theorem mem_numbers {w : World} {n : Nat} : n ∈ objectNumbers w ↔ 1 ≤ n ∧ n ≤ objectCount w := by
  unfold objectNumbers
  rw [List.mem_map]
  constructor
  · rintro ⟨i, hi, rfl⟩
    have := List.mem_range.mp hi
    omega
  · rintro ⟨h1, h2⟩
    exact ⟨n - 1, List.mem_range.mpr (by omega), by omega⟩
theorem numbers_length {w : World} : (objectNumbers w).length = objectCount w := by
  unfold objectNumbers
  rw [List.length_map, List.length_range]
theorem countP_lt_len {α : Type} {p : α → Bool} {l : List α} (h : ∃ a ∈ l, p a = false) : l.countP p < l.length := by
  have := countP_lt (p := p) (q := fun _ => true) (l := l) (fun _ _ _ => rfl) (by obtain ⟨a, h1, h2⟩ := h; exact ⟨a, h1, rfl, h2⟩)
  simpa using this
theorem Good.rank {w : World} (g : Good w) : ∃ rk : Nat → Nat, (∀ n, 1 ≤ n → n ≤ objectCount w → rk n < objectCount w) ∧ ∀ n x, objectAt w n = some x → x.holder ≠ 0 → rk x.holder < rk n := by
  obtain ⟨rk, h⟩ := g.acy
  refine ⟨fun n => (objectNumbers w).countP fun m => decide (rk m < rk n), fun n h1 h2 => ?_, fun n x hx h0 => ?_⟩
  · show (objectNumbers w).countP _ < _
    rw [← numbers_length (w := w)]
    exact countP_lt_len ⟨n, mem_numbers.mpr ⟨h1, h2⟩, by simp⟩
  · have hl := h n x hx h0
    refine countP_lt (fun m _ hm => ?_) ⟨x.holder, mem_numbers.mpr ⟨by omega, g.hle n x hx⟩, by simpa using hl, by simp⟩
    have := of_decide_eq_true hm
    exact decide_eq_true (by omega)

/-! ### places -/
theorem Good.place {w : World} (g : Good w) {n : Nat} {x : Object} (h : objectAt w n = some x) : isPlace w n = decide (x.holder = 0) := by
  obtain ⟨h1, h2, _⟩ := at_lt h
  unfold isPlace
  rw [exists_iff.mpr ⟨h1, h2⟩, relation_at h, Bool.true_and]
  have := g.hz n x h
  by_cases c : x.holder = 0
  · simp [c, this.mp c]
  · have c' : ¬ x.relation = 0 := fun z => c (this.mpr z)
    simp [c, c']
theorem isPlace_exists {w : World} {n : Nat} (h : isPlace w n = true) : 1 ≤ n ∧ n ≤ objectCount w := by
  unfold isPlace at h
  rw [Bool.and_eq_true] at h
  exact exists_iff.mp h.1
theorem isPlace_rel {w : World} {n : Nat} (h1 : 1 ≤ n) (h2 : n ≤ objectCount w) : isPlace w n = decide (relationOf w n = 0) := by
  unfold isPlace
  rw [exists_iff.mpr ⟨h1, h2⟩, Bool.true_and]
  by_cases c : relationOf w n = 0 <;> simp [c]
theorem hasProperty_exists {w : World} {n b : Nat} (h : hasProperty w n b = true) : 1 ≤ n ∧ n ≤ objectCount w := by
  unfold hasProperty at h
  cases e : objectAt w n with
  | none => rw [e] at h; cases h
  | some x => exact ⟨(at_lt e).1, (at_lt e).2.1⟩
theorem isSpace_exists {w : World} {n : Nat} (h : isSpace w n = true) : 1 ≤ n ∧ n ≤ objectCount w := by
  unfold isSpace at h
  rw [Bool.or_eq_true] at h
  rcases h with h | h
  · exact isPlace_exists h
  · exact hasProperty_exists h
theorem Good.rel0 {w : World} (g : Good w) {n : Nat} (h1 : 1 ≤ n) (h2 : n ≤ objectCount w) : holderOf w n = 0 ↔ relationOf w n = 0 := by
  obtain ⟨x, hx⟩ := at_of h1 h2
  rw [holder_at hx, relation_at hx]
  exact g.hz n x hx
theorem Good.holder_ok {w : World} (g : Good w) {n : Nat} (h : holderOf w n ≠ 0) : 1 ≤ holderOf w n ∧ holderOf w n ≤ objectCount w := by
  unfold holderOf at h ⊢
  cases e : objectAt w n with
  | none => rw [e] at h; exact absurd rfl h
  | some x =>
    rw [e] at h
    exact ⟨Nat.pos_of_ne_zero h, g.hle n x e⟩

/-! ### the recursions without their fuel -/
structure Rank (w : World) (rk : Nat → Nat) : Prop where
  lt : ∀ n, 1 ≤ n → n ≤ objectCount w → rk n < objectCount w
  dec : ∀ n, holderOf w n ≠ 0 → rk (holderOf w n) < rk n
theorem Good.rank' {w : World} (g : Good w) : ∃ rk, Rank w rk := by
  obtain ⟨rk, h1, h2⟩ := g.rank
  refine ⟨rk, h1, fun n h => ?_⟩
  cases e : objectAt w n with
  | none => unfold holderOf at h; rw [e] at h; exact absurd rfl h
  | some x =>
    rw [holder_at e] at h ⊢
    exact h2 n x e h
section
variable {w : World} {rk : Nat → Nat}
theorem anc_fuel (R : Rank w rk) : ∀ (f k n : Nat), rk n < f → rk n < k → ancestorsOf w f n = ancestorsOf w k n
  | 0, _, _, h, _ => absurd h (Nat.not_lt_zero _)
  | _ + 1, 0, _, _, h => absurd h (Nat.not_lt_zero _)
  | f + 1, k + 1, n, h1, h2 => by
    unfold ancestorsOf
    split
    · rfl
    · rename_i h0
      have := R.dec n h0
      rw [anc_fuel R f k (holderOf w n) (by omega) (by omega)]
theorem spc_fuel (R : Rank w rk) (g : Good w) : ∀ (f k n : Nat), 1 ≤ n → n ≤ objectCount w → rk n < f → rk n < k → spaceFrom w f n = spaceFrom w k n
  | 0, _, _, _, _, h, _ => absurd h (Nat.not_lt_zero _)
  | _ + 1, 0, _, _, _, _, h => absurd h (Nat.not_lt_zero _)
  | f + 1, k + 1, n, a, b, h1, h2 => by
    unfold spaceFrom
    split
    · rfl
    · split
      · rfl
      · rename_i h0 _
        have h0' : holderOf w n ≠ 0 := fun z => h0 ((g.rel0 a b).mp z)
        have := R.dec n h0'
        obtain ⟨c, d⟩ := g.holder_ok h0'
        exact spc_fuel R g f k (holderOf w n) c d (by omega) (by omega)
theorem drp_fuel (R : Rank w rk) (g : Good w) : ∀ (f k n : Nat), 1 ≤ n → n ≤ objectCount w → rk n < f → rk n < k → dropTarget w f n = dropTarget w k n
  | 0, _, _, _, _, h, _ => absurd h (Nat.not_lt_zero _)
  | _ + 1, 0, _, _, _, _, h => absurd h (Nat.not_lt_zero _)
  | f + 1, k + 1, n, a, b, h1, h2 => by
    unfold dropTarget
    split
    · rfl
    · split
      · rfl
      · rename_i h0 _
        have h0' : holderOf w n ≠ 0 := fun z => h0 ((g.rel0 a b).mp z)
        have := R.dec n h0'
        obtain ⟨c, d⟩ := g.holder_ok h0'
        exact drp_fuel R g f k (holderOf w n) c d (by omega) (by omega)
theorem car_fuel (R : Rank w rk) (g : Good w) (v : Nat) : ∀ (f k n : Nat), 1 ≤ n → n ≤ objectCount w → rk n < f → rk n < k → isCarriedFrom w v f n = isCarriedFrom w v k n
  | 0, _, _, _, _, h, _ => absurd h (Nat.not_lt_zero _)
  | _ + 1, 0, _, _, _, _, h => absurd h (Nat.not_lt_zero _)
  | f + 1, k + 1, n, a, b, h1, h2 => by
    unfold isCarriedFrom
    by_cases h0 : relationOf w n = 0
    · simp [h0]
    · have h0' : holderOf w n ≠ 0 := fun z => h0 ((g.rel0 a b).mp z)
      have := R.dec n h0'
      obtain ⟨c, d⟩ := g.holder_ok h0'
      rw [car_fuel R g v f k (holderOf w n) c d (by omega) (by omega)]
end
section
variable {w : World}
theorem anc_zero (g : Good w) {n : Nat} (h : holderOf w n = 0) : ancestorsOf w maxObjects n = [] := by
  show ancestorsOf w 60 n = []
  unfold ancestorsOf
  rw [if_pos h]
theorem anc_step (g : Good w) {n : Nat} (h : holderOf w n ≠ 0) : ancestorsOf w maxObjects n = holderOf w n :: ancestorsOf w maxObjects (holderOf w n) := by
  obtain ⟨rk, R⟩ := g.rank'
  show ancestorsOf w 60 n = holderOf w n :: ancestorsOf w 60 (holderOf w n)
  obtain ⟨c, d⟩ := g.holder_ok h
  have h1 := R.lt _ c d
  have h2 := g.cnt
  have h3 := R.dec n h
  have hn : 1 ≤ n ∧ n ≤ objectCount w := by
    refine Decidable.byContradiction fun z => h ?_
    unfold holderOf
    rw [at_none z]
  have h4 := R.lt n hn.1 hn.2
  conv => lhs; unfold ancestorsOf
  rw [if_neg h, anc_fuel R 59 60 (holderOf w n) (by omega) (by omega)]
theorem spc_step (g : Good w) {n : Nat} (h1 : 1 ≤ n) (h2 : n ≤ objectCount w) : spaceOf w n = if relationOf w n = 0 then n else if relationOf w n = 1 then holderOf w n else spaceOf w (holderOf w n) := by
  obtain ⟨rk, R⟩ := g.rank'
  show spaceFrom w 60 n = if relationOf w n = 0 then n else if relationOf w n = 1 then holderOf w n else spaceFrom w 60 (holderOf w n)
  conv => lhs; unfold spaceFrom
  by_cases h0 : relationOf w n = 0
  · rw [if_pos h0, if_pos h0]
  · rw [if_neg h0, if_neg h0]
    by_cases h3 : relationOf w n = 1
    · rw [if_pos h3, if_pos h3]
    · rw [if_neg h3, if_neg h3]
      have h0' : holderOf w n ≠ 0 := fun z => h0 ((g.rel0 h1 h2).mp z)
      obtain ⟨c, d⟩ := g.holder_ok h0'
      have e1 := R.dec n h0'
      have e2 := R.lt n h1 h2
      have e3 := g.cnt
      exact spc_fuel R g 59 60 _ c d (by omega) (by omega)
theorem drp_step (g : Good w) {n : Nat} (h1 : 1 ≤ n) (h2 : n ≤ objectCount w) : dropTarget w maxObjects n = if relationOf w n = 0 then (n, 1) else if relationOf w n = 1 ∨ relationOf w n = 2 then (holderOf w n, relationOf w n) else dropTarget w maxObjects (holderOf w n) := by
  obtain ⟨rk, R⟩ := g.rank'
  show dropTarget w 60 n = if relationOf w n = 0 then (n, 1) else if relationOf w n = 1 ∨ relationOf w n = 2 then (holderOf w n, relationOf w n) else dropTarget w 60 (holderOf w n)
  conv => lhs; unfold dropTarget
  by_cases h0 : relationOf w n = 0
  · rw [if_pos h0, if_pos h0]
  · rw [if_neg h0, if_neg h0]
    by_cases h3 : relationOf w n = 1 ∨ relationOf w n = 2
    · rw [if_pos h3, if_pos h3]
    · rw [if_neg h3, if_neg h3]
      have h0' : holderOf w n ≠ 0 := fun z => h0 ((g.rel0 h1 h2).mp z)
      obtain ⟨c, d⟩ := g.holder_ok h0'
      have e1 := R.dec n h0'
      have e2 := R.lt n h1 h2
      have e3 := g.cnt
      exact drp_fuel R g 59 60 _ c d (by omega) (by omega)
theorem car_step (g : Good w) {v n : Nat} (h1 : 1 ≤ n) (h2 : n ≤ objectCount w) : isCarried w v n = (n == v || (relationOf w n != 0 && (relationOf w n != 1 && isCarried w v (holderOf w n)))) := by
  obtain ⟨rk, R⟩ := g.rank'
  show isCarriedFrom w v 61 n = (n == v || (relationOf w n != 0 && (relationOf w n != 1 && isCarriedFrom w v 61 (holderOf w n))))
  conv => lhs; unfold isCarriedFrom
  by_cases h0 : relationOf w n = 0
  · simp [h0]
  · have h0' : holderOf w n ≠ 0 := fun z => h0 ((g.rel0 h1 h2).mp z)
    obtain ⟨c, d⟩ := g.holder_ok h0'
    have e1 := R.dec n h0'
    have e2 := R.lt n h1 h2
    have e3 := g.cnt
    rw [car_fuel R g v 60 61 _ c d (by omega) (by omega)]
/-- the space in which an object lies -/
theorem spc_all (g : Good w) : ∀ (n : Nat), 1 ≤ n → n ≤ objectCount w → isSpace w (spaceOf w n) = true ∧ (relationOf w n ≠ 0 → ∀ rk, Rank w rk → rk (spaceOf w n) < rk n) := by
  obtain ⟨rk0, R0⟩ := g.rank'
  have key : ∀ k n, rk0 n < k → 1 ≤ n → n ≤ objectCount w → isSpace w (spaceOf w n) = true ∧ (relationOf w n ≠ 0 → ∀ rk, Rank w rk → rk (spaceOf w n) < rk n) := by
    intro k
    induction k with
    | zero => intro n h; exact absurd h (Nat.not_lt_zero _)
    | succ k ih =>
      intro n hk h1 h2
      rw [spc_step g h1 h2]
      by_cases h0 : relationOf w n = 0
      · rw [if_pos h0]
        refine ⟨?_, fun z => absurd h0 z⟩
        unfold isSpace
        rw [isPlace_rel h1 h2]
        simp [h0]
      · rw [if_neg h0]
        have h0' : holderOf w n ≠ 0 := fun z => h0 ((g.rel0 h1 h2).mp z)
        obtain ⟨c, d⟩ := g.holder_ok h0'
        by_cases h3 : relationOf w n = 1
        · rw [if_pos h3]
          refine ⟨?_, fun _ rk R => R.dec n h0'⟩
          obtain ⟨x, hx⟩ := at_of h1 h2
          rw [holder_at hx]
          rw [relation_at hx] at h3
          exact g.sp n x hx h3
        · rw [if_neg h3]
          obtain ⟨i1, i2⟩ := ih (holderOf w n) (by have := R0.dec n h0'; omega) c d
          refine ⟨i1, fun _ rk R => ?_⟩
          have e := R.dec n h0'
          by_cases h5 : relationOf w (holderOf w n) = 0
          · rw [spc_step g c d, if_pos h5]
            exact e
          · exact Nat.lt_trans (i2 h5 rk R) e
  intro n
  exact key (rk0 n + 1) n (Nat.lt_succ_self _)
theorem spc_space (g : Good w) {n : Nat} (h1 : 1 ≤ n) (h2 : n ≤ objectCount w) : isSpace w (spaceOf w n) = true := (spc_all g n h1 h2).1
theorem spc_ok (g : Good w) {n : Nat} (h1 : 1 ≤ n) (h2 : n ≤ objectCount w) : 1 ≤ spaceOf w n ∧ spaceOf w n ≤ objectCount w := isSpace_exists (spc_space g h1 h2)
theorem spc_dec (g : Good w) {n : Nat} (h1 : 1 ≤ n) (h2 : n ≤ objectCount w) (h : isPlace w n = false) {rk : Nat → Nat} (R : Rank w rk) : rk (spaceOf w n) < rk n := by
  rw [isPlace_rel h1 h2] at h
  exact (spc_all g n h1 h2).2 (of_decide_eq_false h) rk R
theorem spc_ne (g : Good w) {n : Nat} (h1 : 1 ≤ n) (h2 : n ≤ objectCount w) (h : isPlace w n = false) : spaceOf w n ≠ n := by
  obtain ⟨rk, R⟩ := g.rank'
  intro e
  have := spc_dec g h1 h2 h R
  rw [e] at this
  exact Nat.lt_irrefl _ this
theorem spc_place (g : Good w) {n : Nat} (h : isPlace w n = true) : spaceOf w n = n := by
  obtain ⟨h1, h2⟩ := isPlace_exists h
  rw [isPlace_rel h1 h2] at h
  rw [spc_step g h1 h2, if_pos (of_decide_eq_true h)]
theorem enc_fuel (g : Good w) {rk : Nat → Nat} (R : Rank w rk) : ∀ (f k n : Nat), 1 ≤ n → n ≤ objectCount w → rk n < f → rk n < k → enclosingSpaces w f n = enclosingSpaces w k n
  | 0, _, _, _, _, h, _ => absurd h (Nat.not_lt_zero _)
  | _ + 1, 0, _, _, _, _, h => absurd h (Nat.not_lt_zero _)
  | f + 1, k + 1, n, a, b, h1, h2 => by
    unfold enclosingSpaces
    split
    · rfl
    · rename_i h0
      have h0' : isPlace w n = false := by simpa using h0
      have := spc_dec g a b h0' R
      obtain ⟨c, d⟩ := spc_ok g a b
      rw [enc_fuel g R f k (spaceOf w n) c d (by omega) (by omega)]
theorem enc_step (g : Good w) {n : Nat} (h1 : 1 ≤ n) (h2 : n ≤ objectCount w) : enclosingSpaces w (maxObjects + 1) n = if isPlace w n = true then [n] else n :: enclosingSpaces w (maxObjects + 1) (spaceOf w n) := by
  obtain ⟨rk, R⟩ := g.rank'
  show enclosingSpaces w 61 n = if isPlace w n = true then [n] else n :: enclosingSpaces w 61 (spaceOf w n)
  conv => lhs; unfold enclosingSpaces
  split
  · rfl
  · rename_i h0
    have h0' : isPlace w n = false := by simpa using h0
    have e1 := spc_dec g h1 h2 h0' R
    obtain ⟨c, d⟩ := spc_ok g h1 h2
    have e2 := R.lt n h1 h2
    have e3 := g.cnt
    rw [enc_fuel g R 60 61 _ c d (by omega) (by omega)]
end
end Sg
set_option linter.all false
set_option maxRecDepth 10000
/-! SgB: links as lists of lists, levels, paths: pure lists, and that they are the specification's. -/
namespace Sg
open Vbtaac

/-! ### plain lists -/
theorem nd_len : ∀ (c : Nat) (l : List Nat), l.Nodup → (∀ x ∈ l, x < c) → l.length ≤ c
  | 0, l, _, h => by
    cases l with
    | nil => exact Nat.le_refl _
    | cons a r => exact absurd (h a List.mem_cons_self) (Nat.not_lt_zero _)
  | c + 1, l, n, h => by
    have e := nd_len c (l.erase c) (n.erase c) fun x hx => by
      have := (List.Nodup.mem_erase_iff n).mp hx
      have := h x this.2
      omega
    have := List.length_erase (a := c) (l := l)
    split at this <;> omega
/-- two lists in strict order with the same members are one -/
theorem sorted_eq : ∀ {l m : List Int}, l.Pairwise (· < ·) → m.Pairwise (· < ·) → (∀ z, z ∈ l ↔ z ∈ m) → l = m
  | [], [], _, _, _ => rfl
  | [], b :: m, _, _, h => absurd ((h b).mpr List.mem_cons_self) List.not_mem_nil
  | a :: l, [], _, _, h => absurd ((h a).mp List.mem_cons_self) List.not_mem_nil
  | a :: l, b :: m, h1, h2, h => by
    obtain ⟨a1, l1⟩ := List.pairwise_cons.mp h1
    obtain ⟨b1, m1⟩ := List.pairwise_cons.mp h2
    have e : a = b := by
      rcases List.mem_cons.mp ((h a).mp List.mem_cons_self) with e | ha
      · exact e
      · rcases List.mem_cons.mp ((h b).mpr List.mem_cons_self) with e | hb
        · exact e.symm
        · have := a1 b hb
          have := b1 a ha
          omega
    subst e
    rw [sorted_eq l1 m1 fun z => ?_]
    constructor
    · intro hz
      rcases List.mem_cons.mp ((h z).mp (List.mem_cons_of_mem _ hz)) with e | q
      · have := a1 z hz
        omega
      · exact q
    · intro hz
      rcases List.mem_cons.mp ((h z).mpr (List.mem_cons_of_mem _ hz)) with e | q
      · have := b1 z hz
        omega
      · exact q
abbrev ofN (l : List Nat) : List Int := l.map Int.ofNat
theorem mem_ofN {l : List Nat} {n : Nat} : (n : Int) ∈ ofN l ↔ n ∈ l := by
  constructor
  · intro h
    obtain ⟨m, hm, e⟩ := List.mem_map.mp h
    have : m = n := Int.ofNat.inj e
    rw [← this]
    exact hm
  · intro h
    exact List.mem_map.mpr ⟨n, h, rfl⟩
theorem ofN_lt {l : List Nat} (h : l.Pairwise (· < ·)) : (ofN l).Pairwise (· < ·) :=
  List.pairwise_map.mpr (h.imp fun q => Int.ofNat_lt.mpr q)
/-- what sorted gives of distinct numbers -/
theorem sorted_of {l : List Int} {k m : List Nat} (p : l.Perm (ofN k)) (up : l.Pairwise (· ≤ ·)) (nd : k.Nodup) (hm : m.Pairwise (· < ·)) (h : ∀ n, n ∈ k ↔ n ∈ m) : l = ofN m := by
  have ndl : l.Nodup := p.symm.nodup (List.Pairwise.map _ (fun a b (q : a ≠ b) (e : Int.ofNat a = Int.ofNat b) => q (Int.ofNat.inj e)) nd)
  have lt : l.Pairwise (· < ·) := (up.and ndl).imp fun {a b} q => by have := q.1; have := q.2; omega
  refine sorted_eq lt (ofN_lt hm) fun z => ?_
  rw [p.mem_iff]
  constructor
  · intro q
    obtain ⟨n, hn, rfl⟩ := List.mem_map.mp q
    exact mem_ofN.mpr ((h n).mp hn)
  · intro q
    obtain ⟨n, hn, rfl⟩ := List.mem_map.mp q
    exact mem_ofN.mpr ((h n).mpr hn)
theorem range_lt (n : Nat) : (List.range n).Pairwise (· < ·) := List.pairwise_lt_range

/-! ### links -/
/-- the spaces to which a is linked -/
def lk (Ls : List (List Nat)) (a : Nat) : List Nat := Ls.getD a []
structure LRep (w : World) (mode : Nat) (Ls : List (List Nat)) : Prop where
  len : Ls.length = objectCount w + 1
  mem : ∀ a b, b ∈ lk Ls a ↔ isLinked w mode a b = true
theorem linked_space {w : World} {mode a b : Nat} (h : isLinked w mode a b = true) : isSpace w a = true ∧ isSpace w b = true := by
  unfold isLinked at h
  rw [Bool.and_eq_true, Bool.and_eq_true] at h
  exact ⟨h.1, h.2.1⟩
/-- links that stay within: what the walk of the levels asks -/
def LOk (Ls : List (List Nat)) : Prop := Ls.length ≤ 61 ∧ ∀ a b, b ∈ lk Ls a → b < Ls.length
theorem LRep.ok {w : World} (g : Good w) {mode : Nat} {Ls : List (List Nat)} (r : LRep w mode Ls) : LOk Ls := by
  have := g.cnt
  refine ⟨by rw [r.len]; omega, fun a b h => ?_⟩
  have := isSpace_exists (linked_space ((r.mem a b).mp h)).2
  rw [r.len]
  omega
def nextL (Ls : List (List Nat)) (been l : List Nat) : List Nat := (List.range Ls.length).filter fun b => !been.contains b && l.any fun a => (lk Ls a).contains b
def lvF (Ls : List (List Nat)) : Nat → List Nat → List Nat → List (List Nat)
  | 0, _, _ => []
  | f + 1, been, l => if l.isEmpty = true then [] else l :: lvF Ls f (been ++ nextL Ls been l) (nextL Ls been l)
def levelsL (Ls : List (List Nat)) (src : List Nat) : List (List Nat) := lvF Ls 61 src src
def reachL (Ls : List (List Nat)) (src : List Nat) : List Nat := (levelsL Ls src).flatten
theorem mem_next {Ls : List (List Nat)} {been l : List Nat} {b : Nat} : b ∈ nextL Ls been l ↔ b < Ls.length ∧ b ∉ been ∧ ∃ a ∈ l, b ∈ lk Ls a := by
  unfold nextL
  rw [List.mem_filter, List.mem_range, Bool.and_eq_true, Bool.not_eq_true', List.any_eq_true]
  simp only [List.contains_iff_mem, List.contains_eq_mem, decide_eq_false_iff_not, decide_eq_true_eq]
theorem next_lt {Ls : List (List Nat)} {been l : List Nat} : (nextL Ls been l).Pairwise (· < ·) := List.Pairwise.filter _ (range_lt _)
theorem next_nd {Ls : List (List Nat)} {been l : List Nat} : (nextL Ls been l).Nodup := (next_lt (Ls := Ls) (been := been) (l := l)).imp fun q => Nat.ne_of_lt q
section
variable {w : World} {mode : Nat} {Ls : List (List Nat)}
theorem LRep.contains (r : LRep w mode Ls) (a b : Nat) : (lk Ls a).contains b = isLinked w mode a b := by
  rw [Bool.eq_iff_iff, List.contains_iff_mem]
  exact r.mem a b
theorem LRep.next (r : LRep w mode Ls) (been l : List Nat) : nextL Ls been l = nextLevel w mode been l := by
  unfold nextL nextLevel allSpaces
  rw [List.filter_filter, r.len, List.range_succ_eq_map, List.filter_cons]
  have h0 : isSpace w 0 = false := by
    cases e : isSpace w 0 with
    | false => rfl
    | true => exact absurd (isSpace_exists e).1 (by omega)
  have e0 : (!been.contains 0 && l.any fun a => (lk Ls a).contains 0) = false := by
    have : (l.any fun a => (lk Ls a).contains 0) = false := by
      rw [List.any_eq_false]
      intro a _ q
      rw [r.contains] at q
      have := (linked_space q).2
      rw [h0] at this
      cases this
    rw [this, Bool.and_false]
  rw [if_neg (by rw [e0]; exact Bool.false_ne_true)]
  unfold objectNumbers
  refine List.filter_congr fun b hb => ?_
  by_cases hs : isSpace w b = true
  · rw [hs, Bool.and_true]
    congr 1
    refine congrArg (fun f => l.any f) ?_
    funext a
    exact r.contains a b
  · have hs' : isSpace w b = false := by simpa using hs
    rw [hs', Bool.and_false]
    have : (l.any fun a => (lk Ls a).contains b) = false := by
      rw [List.any_eq_false]
      intro a _ q
      rw [r.contains] at q
      exact hs (linked_space q).2
    rw [this, Bool.and_false]
theorem LRep.levels (r : LRep w mode Ls) : ∀ (f : Nat) (been l : List Nat), lvF Ls f been l = levelsFrom w mode f been l
  | 0, _, _ => rfl
  | f + 1, been, l => by
    unfold lvF levelsFrom
    split
    · rfl
    · rw [r.next, LRep.levels r f]
theorem LRep.levelsOf (r : LRep w mode Ls) (src : List Nat) : levelsL Ls src = levelsOf w mode src := r.levels 61 src src
theorem LRep.reach (r : LRep w mode Ls) (src : List Nat) : reachL Ls src = reachableSpaces w mode src := by
  unfold reachL reachableSpaces
  rw [r.levelsOf]
end

/-! ### paths -/
def depthL (lv : List (List Nat)) (n : Nat) : Nat := lv.findIdx fun l => l.contains n
/-- the space ahead of n -/
def aheadL (Ls lv : List (List Nat)) (n : Nat) : Nat := (((lv.getD (depthL lv n - 1) []).filter fun a => (lk Ls a).contains n).getD 0 0)
/-- k steps back from n, the last one last -/
def backL (Ls lv : List (List Nat)) : Nat → Nat → List Nat
  | 0, n => [n]
  | k + 1, n => n :: backL Ls lv k (aheadL Ls lv n)
def pathL (Ls lv : List (List Nat)) (n : Nat) : List Nat := (backL Ls lv (depthL lv n) n).reverse
/-- levels hang together -/
structure LvOk (Ls lv : List (List Nat)) : Prop where
  from_ : ∀ i l l', lv[i]? = some l → lv[i + 1]? = some l' → ∀ x ∈ l', ∃ a ∈ l, x ∈ lk Ls a
  apart : ∀ (i j : Nat) l l', i < j → lv[i]? = some l → lv[j]? = some l' → ∀ x ∈ l, x ∉ l'
theorem lvF_new {Ls : List (List Nat)} : ∀ (f : Nat) (been l : List Nat) (i : Nat) (l' : List Nat), (lvF Ls f been l)[i + 1]? = some l' → ∀ x ∈ l', x ∉ been
  | 0, _, _, _, _, h => by simp [lvF] at h
  | f + 1, been, l, i, l', h => by
    unfold lvF at h
    split at h
    · simp at h
    · rw [List.getElem?_cons_succ] at h
      intro x hx
      cases i with
      | zero =>
        cases f with
        | zero => simp [lvF] at h
        | succ f =>
          unfold lvF at h
          split at h
          · simp at h
          · rw [List.getElem?_cons_zero] at h
            cases h
            exact (mem_next.mp hx).2.1
      | succ i => exact fun z => lvF_new f _ _ i l' h x hx (List.mem_append_left _ z)
theorem lvF_head {Ls : List (List Nat)} {f : Nat} {been l l' : List Nat} (h : (lvF Ls f been l)[0]? = some l') : l' = l := by
  cases f with
  | zero => simp [lvF] at h
  | succ f =>
    unfold lvF at h
    split at h
    · simp at h
    · rw [List.getElem?_cons_zero] at h
      exact (Option.some.inj h).symm
theorem lvF_ok {Ls : List (List Nat)} : ∀ (f : Nat) (been l : List Nat), (∀ x ∈ l, x ∈ been) → LvOk Ls (lvF Ls f been l)
  | 0, _, _, _ => ⟨fun i l l' h => by simp [lvF] at h, fun i j l l' _ h => by simp [lvF] at h⟩
  | f + 1, been, l, hb => by
    have ih := lvF_ok (Ls := Ls) f (been ++ nextL Ls been l) (nextL Ls been l) fun x hx => List.mem_append_right _ hx
    unfold lvF
    split
    · exact ⟨fun i l l' h => by simp at h, fun i j l l' _ h => by simp at h⟩
    · refine ⟨fun i l1 l2 h1 h2 x hx => ?_, fun i j l1 l2 hij h1 h2 x hx => ?_⟩
      · rw [List.getElem?_cons_succ] at h2
        cases i with
        | zero =>
          rw [List.getElem?_cons_zero] at h1
          cases h1
          have e := lvF_head h2
          subst e
          exact (mem_next.mp hx).2.2
        | succ i =>
          rw [List.getElem?_cons_succ] at h1
          exact ih.from_ i l1 l2 h1 h2 x hx
      · cases j with
        | zero => exact absurd hij (Nat.not_lt_zero _)
        | succ j =>
          rw [List.getElem?_cons_succ] at h2
          cases i with
          | zero =>
            rw [List.getElem?_cons_zero] at h1
            cases h1
            intro hx2
            cases j with
            | zero =>
              have e := lvF_head h2
              subst e
              exact (mem_next.mp hx2).2.1 (hb x hx)
            | succ j => exact lvF_new f _ _ j l2 h2 x hx2 (List.mem_append_left _ (hb x hx))
          | succ i =>
            rw [List.getElem?_cons_succ] at h1
            exact ih.apart i j l1 l2 (by omega) h1 h2 x hx
theorem levelsL_ok (Ls : List (List Nat)) (src : List Nat) : LvOk Ls (levelsL Ls src) := lvF_ok 61 src src fun _ h => h
theorem depth_at {lv : List (List Nat)} {n : Nat} (h : n ∈ lv.flatten) : ∃ l, lv[depthL lv n]? = some l ∧ n ∈ l := by
  obtain ⟨l, hl, hn⟩ := List.mem_flatten.mp h
  have hlt : lv.findIdx (fun l => l.contains n) < lv.length := List.findIdx_lt_length_of_exists ⟨l, hl, by simpa using hn⟩
  refine ⟨lv[depthL lv n]'hlt, List.getElem?_eq_getElem hlt, ?_⟩
  have := List.findIdx_getElem (w := hlt)
  exact List.contains_iff_mem.mp this
theorem depth_of {Ls lv : List (List Nat)} (ok : LvOk Ls lv) {i n : Nat} {l : List Nat} (h : lv[i]? = some l) (hn : n ∈ l) : depthL lv n = i := by
  obtain ⟨l', h1, h2⟩ := depth_at (lv := lv) (n := n) (List.mem_flatten.mpr ⟨l, List.mem_of_getElem? h, hn⟩)
  rcases Nat.lt_trichotomy (depthL lv n) i with c | c | c
  · exact absurd hn (ok.apart _ _ _ _ c h1 h n h2)
  · exact c
  · exact absurd h2 (ok.apart _ _ _ _ c h h1 n hn)
theorem ahead_at {Ls lv : List (List Nat)} (ok : LvOk Ls lv) {i n : Nat} {l : List Nat} (h : lv[i + 1]? = some l) (hn : n ∈ l) :
    ∃ l', lv[i]? = some l' ∧ depthL lv n = i + 1 ∧ (∃ r, (l'.filter fun a => (lk Ls a).contains n) = aheadL Ls lv n :: r) ∧ aheadL Ls lv n ∈ l' ∧ l'.find? (fun a => (lk Ls a).contains n) = some (aheadL Ls lv n) := by
  have hlt := (List.getElem?_eq_some_iff.mp h).1
  have h' : lv[i]? = some (lv[i]'(by omega)) := List.getElem?_eq_getElem (by omega)
  have hd := depth_of ok h hn
  have e : lv.getD (depthL lv n - 1) [] = lv[i]'(by omega) := by
    rw [hd]
    show lv.getD i [] = _
    rw [List.getD_eq_getElem?_getD, h']
    rfl
  obtain ⟨a, ha, hx⟩ := ok.from_ i _ _ h' h n hn
  have ne : (lv[i]'(by omega)).filter (fun a => (lk Ls a).contains n) ≠ [] := by
    intro z
    have : a ∈ (lv[i]'(by omega)).filter (fun a => (lk Ls a).contains n) := List.mem_filter.mpr ⟨ha, by simpa using hx⟩
    rw [z] at this
    cases this
  obtain ⟨b, r, hb⟩ := List.exists_cons_of_ne_nil ne
  have eb : aheadL Ls lv n = b := by
    unfold aheadL
    rw [e, hb]
    rfl
  refine ⟨_, h', hd, ⟨r, by rw [eb]; exact hb⟩, ?_, ?_⟩
  · rw [eb]
    have : b ∈ (lv[i]'(by omega)).filter (fun a => (lk Ls a).contains n) := by rw [hb]; exact List.mem_cons_self
    exact (List.mem_filter.mp this).1
  · rw [eb, ← List.head?_filter, hb]
    rfl
theorem take_while {lv : List (List Nat)} {n : Nat} : lv.takeWhile (fun l => !l.contains n) = lv.take (depthL lv n) := by
  unfold depthL
  induction lv with
  | nil => rfl
  | cons l r ih =>
    rw [List.takeWhile_cons, List.findIdx_cons]
    cases h : l.contains n with
    | true => rfl
    | false =>
      simp only [Bool.not_false, cond_false, ite_true]
      rw [List.take_succ_cons, ← ih]
theorem back_is {w : World} {mode : Nat} {Ls lv : List (List Nat)} (r : LRep w mode Ls) (ok : LvOk Ls lv) : ∀ (d n : Nat) (l : List Nat), lv[d]? = some l → n ∈ l → pathBack w mode ((lv.take d).reverse) n = backL Ls lv d n
  | 0, n, l, _, _ => rfl
  | d + 1, n, l, h, hn => by
    obtain ⟨l', h1, h2, _, h3, h4⟩ := ahead_at ok h hn
    have e : (lv.take (d + 1)).reverse = l' :: (lv.take d).reverse := by
      rw [List.take_succ, h1, List.reverse_append]
      rfl
    rw [e]
    unfold pathBack backL
    have e2 : (l'.find? fun a => isLinked w mode a n) = some (aheadL Ls lv n) := by
      rw [← h4]
      refine congrArg (fun f => l'.find? f) ?_
      funext a
      exact (r.contains a n).symm
    rw [e2]
    show n :: pathBack w mode (lv.take d).reverse (aheadL Ls lv n) = _
    rw [back_is r ok d _ l' h1 h3]
theorem LRep.path {w : World} {mode : Nat} {Ls : List (List Nat)} (r : LRep w mode Ls) {src : List Nat} {n : Nat} (h : n ∈ reachL Ls src) : pathL Ls (levelsL Ls src) n = shortestPath w mode src n := by
  obtain ⟨l, h1, h2⟩ := depth_at (lv := levelsL Ls src) h
  unfold pathL shortestPath
  rw [← r.levelsOf]
  show _ = (pathBack w mode (List.takeWhile (fun l => !l.contains n) (levelsL Ls src)).reverse n).reverse
  rw [take_while]
  show _ = (pathBack w mode (List.take (depthL (levelsL Ls src) n) (levelsL Ls src)).reverse n).reverse
  rw [back_is r (levelsL_ok Ls src) _ n l h1 h2]

/-! ### the ways -/
def wallWays (w : World) (mode : Nat) : List (Nat × Nat) := (objectNumbers w).flatMap fun n => if (hasProperty w n containerBit && !isPlace w n && wallPasses w mode n) = true then [(n, spaceOf w n), (spaceOf w n, n)] else []
def windowWays (mode : Nat) (x : Window) : List (Nat × Nat) := if mode = 2 ∧ x.kind ≠ 2 then [] else if mode = 1 ∧ x.kind = 3 then [(x.first, x.second)] else [(x.first, x.second), (x.second, x.first)]
def allWays (w : World) (mode : Nat) : List (Nat × Nat) := wallWays w mode ++ w.windows.flatMap (windowWays mode)
theorem window_pass {mode a b : Nat} {x : Window} (hm : mode ≤ 2) (h1 : 1 ≤ x.kind) (h3 : x.kind ≤ 3) : (a, b) ∈ windowWays mode x ↔ windowPasses mode a b x = true := by
  unfold windowWays windowPasses
  have hk : x.kind = 1 ∨ x.kind = 2 ∨ x.kind = 3 := by omega
  have hmm : mode = 0 ∨ mode = 1 ∨ mode = 2 := by omega
  rcases hk with k | k | k <;> rcases hmm with rfl | rfl | rfl <;> simp [k, Prod.mk.injEq] <;> constructor <;> (intro h; (try rcases h with h | h)) <;> simp_all
theorem ways_mem {w : World} (g : Good w) {mode : Nat} (hm : mode ≤ 2) (a b : Nat) : (a, b) ∈ allWays w mode ↔ isLinked w mode a b = true := by
  unfold allWays wallWays isLinked
  rw [List.mem_append, List.mem_flatMap, List.mem_flatMap]
  constructor
  · rintro (⟨n, hn, h⟩ | ⟨x, hx, h⟩)
    · split at h
      · rename_i c
        rw [Bool.and_eq_true, Bool.and_eq_true] at c
        obtain ⟨⟨c1, c2⟩, c3⟩ := c
        obtain ⟨h1, h2⟩ := mem_numbers.mp hn
        have s1 : isSpace w n = true := by unfold isSpace; rw [c1, Bool.or_true]
        have s2 := spc_space g h1 h2
        rcases List.mem_cons.mp h with e | h
        · cases e
          rw [s1, s2, c2, c3]
          simp
        · have e := List.mem_singleton.mp h
          cases e
          rw [s1, s2, c2, c3]
          simp
      · cases h
    · obtain ⟨p1, p2, k1, k3⟩ := g.win x hx
      have hp := (window_pass hm k1 k3).mp h
      have s1 : isSpace w x.first = true := by unfold isSpace; rw [p1, Bool.true_or]
      have s2 : isSpace w x.second = true := by unfold isSpace; rw [p2, Bool.true_or]
      have hw : (w.windows.any (windowPasses mode a b)) = true := List.any_eq_true.mpr ⟨x, hx, hp⟩
      have hab : (a = x.first ∧ b = x.second) ∨ (a = x.second ∧ b = x.first) := by
        unfold windowWays at h
        split at h
        · cases h
        · split at h
          · have e := List.mem_singleton.mp h
            cases e
            exact .inl ⟨rfl, rfl⟩
          · rcases List.mem_cons.mp h with e | h
            · cases e
              exact .inl ⟨rfl, rfl⟩
            · have e := List.mem_singleton.mp h
              cases e
              exact .inr ⟨rfl, rfl⟩
      rw [hw]
      rcases hab with ⟨rfl, rfl⟩ | ⟨rfl, rfl⟩ <;> simp [s1, s2]
  · intro h
    rw [Bool.and_eq_true, Bool.and_eq_true, Bool.or_eq_true, Bool.or_eq_true] at h
    obtain ⟨s1, s2, h⟩ := h
    rcases h with h | h | h
    · rw [Bool.and_eq_true, Bool.and_eq_true] at h
      obtain ⟨c1, c2, c3⟩ := h
      refine .inl ⟨a, mem_numbers.mpr (isSpace_exists s1), ?_⟩
      have cc : hasProperty w a containerBit = true := by
        unfold isSpace at s1
        rw [Bool.or_eq_true] at s1
        rcases s1 with z | z
        · rw [z] at c1; cases c1
        · exact z
      have e : spaceOf w a = b := by simpa using c2
      rw [if_pos (by rw [cc, c1, c3]; rfl), e]
      exact List.mem_cons_self
    · rw [Bool.and_eq_true, Bool.and_eq_true] at h
      obtain ⟨c1, c2, c3⟩ := h
      refine .inl ⟨b, mem_numbers.mpr (isSpace_exists s2), ?_⟩
      have cc : hasProperty w b containerBit = true := by
        unfold isSpace at s2
        rw [Bool.or_eq_true] at s2
        rcases s2 with z | z
        · rw [z] at c1; cases c1
        · exact z
      have e : spaceOf w b = a := by simpa using c2
      rw [if_pos (by rw [cc, c1, c3]; rfl), e]
      exact List.mem_cons_of_mem _ List.mem_cons_self
    · obtain ⟨x, hx, hp⟩ := List.any_eq_true.mp h
      obtain ⟨p1, p2, k1, k3⟩ := g.win x hx
      exact .inr ⟨x, hx, (window_pass hm k1 k3).mpr hp⟩
/-- the lists that the ways are laid into -/
def laid (n : Nat) (ws : List (Nat × Nat)) : List (List Nat) := (List.range n).map fun a => (ws.filter fun p => p.1 == a).map (·.2)
theorem laid_lk {n : Nat} {ws : List (Nat × Nat)} (h : ∀ p ∈ ws, p.1 < n) (a b : Nat) : b ∈ lk (laid n ws) a ↔ (a, b) ∈ ws := by
  unfold lk laid
  rw [List.getD_eq_getElem?_getD, List.getElem?_map]
  by_cases ha : a < n
  · rw [List.getElem?_range ha]
    show b ∈ (ws.filter fun p => p.1 == a).map (·.2) ↔ _
    rw [List.mem_map]
    constructor
    · rintro ⟨p, hp, rfl⟩
      rw [List.mem_filter] at hp
      have : p.1 = a := by simpa using hp.2
      rw [← this]
      exact hp.1
    · intro q
      exact ⟨(a, b), List.mem_filter.mpr ⟨q, by simp⟩, rfl⟩
  · rw [List.getElem?_eq_none (by rw [List.length_range]; omega)]
    constructor
    · intro q; cases q
    · intro q; exact absurd (h _ q) ha
theorem laid_rep {w : World} (g : Good w) {mode : Nat} (hm : mode ≤ 2) {ws : List (Nat × Nat)} (p : ws.Perm (allWays w mode)) : LRep w mode (laid (objectCount w + 1) ws) := by
  refine ⟨by unfold laid; rw [List.length_map, List.length_range], fun a b => ?_⟩
  rw [laid_lk (fun q hq => ?_), p.mem_iff, ways_mem g hm]
  have := (ways_mem g hm q.1 q.2).mp (p.mem_iff.mp hq)
  have := isSpace_exists (linked_space this).1
  omega
/-! ### sources of light -/
theorem light_mem {w : World} (g : Good w) {h : Nat} : h ∈ lightSources w ↔ ∃ n, 1 ≤ n ∧ n ≤ objectCount w ∧ hasProperty w n luminousBit = true ∧ spaceOf w n = h := by
  unfold lightSources allSpaces
  rw [List.mem_filter, List.mem_filter, List.any_eq_true]
  constructor
  · rintro ⟨_, n, hn, q⟩
    rw [Bool.and_eq_true] at q
    obtain ⟨h1, h2⟩ := mem_numbers.mp hn
    exact ⟨n, h1, h2, q.1, by simpa using q.2⟩
  · rintro ⟨n, h1, h2, q1, rfl⟩
    have := spc_space g h1 h2
    exact ⟨⟨mem_numbers.mpr (isSpace_exists this), this⟩, n, mem_numbers.mpr ⟨h1, h2⟩, by rw [q1]; simp⟩
theorem numbers_lt {w : World} : (objectNumbers w).Pairwise (· < ·) := by
  unfold objectNumbers
  exact List.pairwise_map.mpr ((range_lt _).imp fun q => by omega)
theorem light_lt {w : World} : (lightSources w).Pairwise (· < ·) := List.Pairwise.filter _ (List.Pairwise.filter _ numbers_lt)
theorem light_nd {w : World} : (lightSources w).Nodup := (light_lt (w := w)).imp fun q => Nat.ne_of_lt q
end Sg
set_option linter.all false
set_option maxRecDepth 10000
/-! SgC: what changes the world keeps it good. -/
namespace Sg
open Vbtaac

abbrev ex (w : World) (n : Nat) : Prop := 1 ≤ n ∧ n ≤ objectCount w

/-! ### one object changed -/
theorem upd_get {f : Object → Object} : ∀ {i j : Nat} {l : List Object}, (updateAt f i l)[j]? = if j = i then (l[j]?).map f else l[j]?
  | 0, j, [] => by simp [updateAt]
  | i + 1, j, [] => by simp [updateAt]
  | 0, 0, x :: r => by simp [updateAt]
  | 0, j + 1, x :: r => by simp [updateAt]
  | i + 1, 0, x :: r => by simp [updateAt]
  | i + 1, j + 1, x :: r => by
    have ih := upd_get (f := f) (i := i) (j := j) (l := r)
    simp [updateAt, ih]
theorem upd_len {f : Object → Object} : ∀ {i : Nat} {l : List Object}, (updateAt f i l).length = l.length
  | i, [] => by cases i <;> rfl
  | 0, x :: r => rfl
  | i + 1, x :: r => by simp [updateAt, upd_len]
theorem upd_set {f : Object → Object} {x : Object} : ∀ {i : Nat} {l : List Object}, l[i]? = some x → updateAt f i l = l.set i (f x)
  | i, [], h => by simp at h
  | 0, y :: r, h => by
    have e : y = x := Option.some.inj h
    subst e
    rfl
  | i + 1, y :: r, h => by
    have := upd_set (f := f) (x := x) (i := i) (l := r) (by simpa using h)
    simp [updateAt, this]
theorem updO_count {w : World} {n : Nat} {f : Object → Object} : objectCount (updateObject w n f) = objectCount w := upd_len
theorem updO_windows {w : World} {n : Nat} {f : Object → Object} : (updateObject w n f).windows = w.windows := rfl
theorem updO_at {w : World} {n m : Nat} {f : Object → Object} (h1 : 1 ≤ n) : objectAt (updateObject w n f) m = if m = n then (objectAt w m).map f else objectAt w m := by
  unfold objectAt
  by_cases h0 : m = 0
  · rw [if_pos h0, if_pos h0, if_neg (by omega)]
  · rw [if_neg h0, if_neg h0]
    show (updateAt f (n - 1) w.objects)[m - 1]? = _
    rw [upd_get]
    by_cases e : m = n
    · subst e; simp
    · rw [if_neg e, if_neg (by omega)]
theorem isWithin_mem {w : World} {n h : Nat} : isWithin w n h = true ↔ h ∈ ancestorsOf w maxObjects n := by
  unfold isWithin
  simp
/-- m is n, or within it -/
def under (w : World) (n m : Nat) : Bool := m == n || isWithin w m n
theorem under_holder {w : World} (g : Good w) {n m : Nat} (h0 : holderOf w m ≠ 0) (hne : m ≠ n) : under w n m = under w n (holderOf w m) := by
  unfold under isWithin
  rw [anc_step g h0, List.contains_cons]
  have e : (m == n) = false := by simpa using hne
  rw [e, Bool.false_or]
  congr 1
  rw [Bool.eq_iff_iff, beq_iff_eq, beq_iff_eq]
  exact eq_comm
theorem Good.anc_ok {w : World} (g : Good w) {n h : Nat} (hh : isWithin w n h = true) : ex w n ∧ ex w h := by
  have key : ∀ f n, h ∈ ancestorsOf w f n → ex w n ∧ ex w h := by
    intro f
    induction f with
    | zero => intro n hm; cases hm
    | succ f ih =>
      intro n hm
      unfold ancestorsOf at hm
      split at hm
      · cases hm
      · rename_i h0
        have hn : ex w n := by
          refine Decidable.byContradiction fun z => h0 ?_
          unfold holderOf
          rw [at_none z]
        rcases List.mem_cons.mp hm with e | hm
        · exact ⟨hn, by rw [e]; exact g.holder_ok h0⟩
        · exact ⟨hn, (ih _ hm).2⟩
  exact key _ n (isWithin_mem.mp hh)
/-- a property bit that a change leaves: container -/
theorem prop_keep {w w' : World} {n b : Nat} (h : ∀ m x', objectAt w' m = some x' → ∃ x, objectAt w m = some x ∧ x'.properties.testBit b = x.properties.testBit b)
    (h2 : ∀ m x, objectAt w m = some x → ∃ x', objectAt w' m = some x') : hasProperty w' n b = hasProperty w n b := by
  unfold hasProperty
  cases e : objectAt w n with
  | none =>
    cases e' : objectAt w' n with
    | none => rfl
    | some x' =>
      obtain ⟨x, hx, _⟩ := h n x' e'
      rw [e] at hx; cases hx
  | some x =>
    obtain ⟨x', hx'⟩ := h2 n x e
    rw [hx']
    obtain ⟨y, hy, q⟩ := h n x' hx'
    rw [e] at hy; cases hy
    exact q
theorem good_move {w : World} (g : Good w) {n h r : Nat} (hn : ex w n) (hh : ex w h) (hp : isPlace w n = false) (hr1 : 1 ≤ r) (hr : r ≤ 5) (hc : r = 1 → isSpace w h = true) (hcyc : under w n h = false) : Good (moveObject w n h r) := by
  obtain ⟨rk, hrk⟩ := g.acy
  have at_ : ∀ m, objectAt (moveObject w n h r) m = if m = n then (objectAt w m).map (fun x => { x with holder := h, relation := r }) else objectAt w m := fun m => updO_at hn.1
  have cnt : objectCount (moveObject w n h r) = objectCount w := updO_count
  have back : ∀ m x', objectAt (moveObject w n h r) m = some x' → ∃ x, objectAt w m = some x ∧ (m ≠ n → x' = x) ∧ (m = n → x' = { x with holder := h, relation := r }) := fun m x' e => by
    rw [at_] at e
    split at e
    · rename_i c
      cases e2 : objectAt w m with
      | none => rw [e2] at e; cases e
      | some x => rw [e2] at e; exact ⟨x, rfl, fun z => absurd c z, fun _ => (Option.some.inj e).symm⟩
    · rename_i c
      exact ⟨x', e, fun _ => rfl, fun z => absurd z c⟩
  have place : ∀ m, isPlace w m = true → isPlace (moveObject w n h r) m = true := fun m hm => by
    have hne : m ≠ n := fun z => by rw [z, hp] at hm; cases hm
    have e : objectAt (moveObject w n h r) m = objectAt w m := by rw [at_, if_neg hne]
    unfold isPlace objectExists relationOf at hm ⊢
    rw [cnt, e]
    exact hm
  have propE : ∀ m b, hasProperty (moveObject w n h r) m b = hasProperty w m b := fun m b => by
    refine prop_keep (fun m x' e => ?_) (fun m x e => ?_)
    · obtain ⟨x, hx, h1, h2⟩ := back m x' e
      refine ⟨x, hx, ?_⟩
      by_cases c : m = n
      · rw [h2 c]
      · rw [h1 c]
    · rw [at_, e]
      split <;> exact ⟨_, rfl⟩
  have space : ∀ m, isSpace w m = true → m ≠ n → isSpace (moveObject w n h r) m = true := fun m hm _ => by
    unfold isSpace at hm ⊢
    rw [Bool.or_eq_true] at hm
    rcases hm with z | z
    · rw [place m z, Bool.true_or]
    · rw [propE, z, Bool.or_true]
  have spaceC : ∀ m, isSpace w m = true → isSpace (moveObject w n h r) m = true := fun m hm => by
    by_cases c : m = n
    · subst c
      unfold isSpace at hm ⊢
      rw [hp, Bool.false_or] at hm
      rw [propE, hm, Bool.or_true]
    · exact space m hm c
  refine ⟨by rw [cnt]; exact g.cnt, fun m x' e => ?_, fun m x' e => ?_, fun m x' e => ?_, fun m x' e e1 => ?_, ?_, fun x hx => ?_⟩
  · obtain ⟨x, hx, h1, h2⟩ := back m x' e
    rw [cnt]
    by_cases c : m = n
    · rw [h2 c]; exact hh.2
    · rw [h1 c]; exact g.hle m x hx
  · obtain ⟨x, hx, h1, h2⟩ := back m x' e
    by_cases c : m = n
    · rw [h2 c]
      have := hh.1
      show h = 0 ↔ r = 0
      omega
    · rw [h1 c]; exact g.hz m x hx
  · obtain ⟨x, hx, h1, h2⟩ := back m x' e
    by_cases c : m = n
    · rw [h2 c]; exact hr
    · rw [h1 c]; exact g.rle m x hx
  · obtain ⟨x, hx, h1, h2⟩ := back m x' e
    by_cases c : m = n
    · rw [h2 c] at e1 ⊢
      exact spaceC h (hc e1)
    · rw [h1 c] at e1 ⊢
      exact spaceC _ (g.sp m x hx e1)
  · refine ⟨fun m => if under w n m = true then rk m + (rk h + 1) else rk m, fun m x' e e0 => ?_⟩
    obtain ⟨x, hx, h1, h2⟩ := back m x' e
    by_cases c : m = n
    · rw [h2 c]
      show (if under w n h = true then rk h + (rk h + 1) else rk h) < if under w n m = true then rk m + (rk h + 1) else rk m
      rw [hcyc, if_neg Bool.false_ne_true, if_pos (by unfold under; rw [c]; simp)]
      omega
    · rw [h1 c] at e0 ⊢
      have hlt := hrk m x hx e0
      have h0 : holderOf w m ≠ 0 := by rw [holder_at hx]; exact e0
      have hu := under_holder g h0 c
      rw [holder_at hx] at hu
      show (if under w n x.holder = true then rk x.holder + (rk h + 1) else rk x.holder) < if under w n m = true then rk m + (rk h + 1) else rk m
      rw [hu]
      split <;> omega
  · obtain ⟨p1, p2, q⟩ := g.win x hx
    exact ⟨place _ p1, place _ p2, q⟩
/-- properties alone are changed, and the container bit stays -/
theorem good_props {w : World} (g : Good w) {n : Nat} (hn : ex w n) {f : Nat → Nat} (hf : ∀ b, (f b).testBit containerBit = b.testBit containerBit) : Good (updateObject w n fun x => { x with properties := f x.properties }) := by
  obtain ⟨rk, hrk⟩ := g.acy
  generalize hw : (updateObject w n fun x => { x with properties := f x.properties }) = w'
  have at_ : ∀ m, objectAt w' m = if m = n then (objectAt w m).map (fun x => { x with properties := f x.properties }) else objectAt w m := fun m => by rw [← hw]; exact updO_at hn.1
  have cnt : objectCount w' = objectCount w := by rw [← hw]; exact updO_count
  have back : ∀ m x', objectAt w' m = some x' → ∃ x, objectAt w m = some x ∧ x'.holder = x.holder ∧ x'.relation = x.relation ∧ x'.properties.testBit containerBit = x.properties.testBit containerBit := fun m x' e => by
    rw [at_] at e
    split at e
    · cases e2 : objectAt w m with
      | none => rw [e2] at e; cases e
      | some x =>
        rw [e2] at e
        have e3 := (Option.some.inj e).symm
        subst e3
        exact ⟨x, rfl, rfl, rfl, hf _⟩
    · exact ⟨x', e, rfl, rfl, rfl⟩
  have fwd : ∀ m x, objectAt w m = some x → ∃ x', objectAt w' m = some x' := fun m x e => by
    rw [at_, e]
    split <;> exact ⟨_, rfl⟩
  have rel : ∀ m, relationOf w' m = relationOf w m := fun m => by
    unfold relationOf
    cases e : objectAt w m with
    | none =>
      cases e' : objectAt w' m with
      | none => rfl
      | some x' =>
        obtain ⟨x, hx, _⟩ := back m x' e'
        rw [e] at hx; cases hx
    | some x =>
      obtain ⟨x', hx'⟩ := fwd m x e
      obtain ⟨y, hy, _, q, _⟩ := back m x' hx'
      rw [e] at hy; cases hy
      rw [hx']
      exact q
  have place : ∀ m, isPlace w' m = isPlace w m := fun m => by
    unfold isPlace objectExists
    rw [cnt, rel]
  have propE : ∀ m, hasProperty w' m containerBit = hasProperty w m containerBit := fun m => prop_keep (fun m x' e => by
    obtain ⟨x, hx, _, _, q⟩ := back m x' e
    exact ⟨x, hx, q⟩) fwd
  have space : ∀ m, isSpace w' m = isSpace w m := fun m => by unfold isSpace; rw [place, propE]
  refine ⟨by rw [cnt]; exact g.cnt, fun m x' e => ?_, fun m x' e => ?_, fun m x' e => ?_, fun m x' e e1 => ?_, ⟨rk, fun m x' e e0 => ?_⟩, fun x hx => ?_⟩
  · obtain ⟨x, hx, h1, h2, _⟩ := back m x' e
    rw [cnt, h1]; exact g.hle m x hx
  · obtain ⟨x, hx, h1, h2, _⟩ := back m x' e
    rw [h1, h2]; exact g.hz m x hx
  · obtain ⟨x, hx, h1, h2, _⟩ := back m x' e
    rw [h2]; exact g.rle m x hx
  · obtain ⟨x, hx, h1, h2, _⟩ := back m x' e
    rw [h2] at e1
    rw [h1, space]; exact g.sp m x hx e1
  · obtain ⟨x, hx, h1, h2, _⟩ := back m x' e
    rw [h1] at e0 ⊢; exact hrk m x hx e0
  · rw [place, place]
    refine g.win x ?_
    rw [← hw] at hx
    exact hx
/-- a new object behind the others -/
theorem good_add {w : World} (g : Good w) {x : Object} (hc : objectCount w < 60) (h1 : x.holder ≤ objectCount w) (h2 : x.holder = 0 ↔ x.relation = 0) (h3 : x.relation ≤ 5) (h4 : x.relation = 1 → isSpace w x.holder = true) : Good { w with objects := w.objects ++ [x] } := by
  obtain ⟨rk, R⟩ := g.rank'
  have cnt : objectCount { w with objects := w.objects ++ [x] } = objectCount w + 1 := by unfold objectCount; simp
  have at_ : ∀ m y, objectAt { w with objects := w.objects ++ [x] } m = some y → (m = objectCount w + 1 ∧ y = x) ∨ (objectAt w m = some y) := fun m y e => by
    obtain ⟨q1, q2, q3⟩ := at_lt e
    rw [cnt] at q2
    by_cases c : m = objectCount w + 1
    · left
      refine ⟨c, ?_⟩
      have e3 : (w.objects ++ [x])[m - 1]? = some y := q3
      rw [c] at e3
      unfold objectCount at e3
      rw [Nat.add_sub_cancel, List.getElem?_append_right (Nat.le_refl _)] at e3
      simp at e3
      exact e3.symm
    · right
      have e3 : (w.objects ++ [x])[m - 1]? = some y := q3
      rw [List.getElem?_append_left (by unfold objectCount at q2 c; omega)] at e3
      exact at_ix q1 e3
  have old : ∀ m y, objectAt w m = some y → objectAt { w with objects := w.objects ++ [x] } m = some y := fun m y e => by
    obtain ⟨q1, q2, q3⟩ := at_lt e
    refine at_ix q1 ?_
    show (w.objects ++ [x])[m - 1]? = some y
    rw [List.getElem?_append_left (by unfold objectCount at q2; omega)]
    exact q3
  have place : ∀ m, isPlace w m = true → isPlace { w with objects := w.objects ++ [x] } m = true := fun m hm => by
    obtain ⟨a, b⟩ := isPlace_exists hm
    obtain ⟨y, hy⟩ := at_of a b
    rw [isPlace_rel a b, relation_at hy] at hm
    rw [isPlace_rel a (by rw [cnt]; omega), relation_at (old m y hy)]
    exact hm
  have space : ∀ m, isSpace w m = true → isSpace { w with objects := w.objects ++ [x] } m = true := fun m hm => by
    unfold isSpace at hm ⊢
    rw [Bool.or_eq_true] at hm
    rcases hm with z | z
    · rw [place m z, Bool.true_or]
    · obtain ⟨a, b⟩ := hasProperty_exists z
      obtain ⟨y, hy⟩ := at_of a b
      rw [property_at hy] at z
      rw [property_at (old m y hy), z, Bool.or_true]
  refine ⟨by rw [cnt]; omega, fun m y e => ?_, fun m y e => ?_, fun m y e => ?_, fun m y e e1 => ?_, ⟨fun m => if m = objectCount w + 1 then objectCount w + 1 else rk m, fun m y e e0 => ?_⟩, fun v hv => ?_⟩
  · rw [cnt]
    rcases at_ m y e with ⟨_, rfl⟩ | q
    · omega
    · have := g.hle m y q; omega
  · rcases at_ m y e with ⟨_, rfl⟩ | q
    · exact h2
    · exact g.hz m y q
  · rcases at_ m y e with ⟨_, rfl⟩ | q
    · exact h3
    · exact g.rle m y q
  · rcases at_ m y e with ⟨_, rfl⟩ | q
    · exact space _ (h4 e1)
    · exact space _ (g.sp m y q e1)
  · have hlt : ∀ h, 1 ≤ h → h ≤ objectCount w → rk h < objectCount w := R.lt
    rcases at_ m y e with ⟨rfl, rfl⟩ | q
    · show (if y.holder = objectCount w + 1 then _ else rk y.holder) < if objectCount w + 1 = objectCount w + 1 then objectCount w + 1 else rk (objectCount w + 1)
      rw [if_neg (by omega), if_pos rfl]
      have := hlt y.holder (by omega) h1
      omega
    · have hle := g.hle m y q
      have hm := (at_lt q).2.1
      show (if y.holder = objectCount w + 1 then _ else rk y.holder) < if m = objectCount w + 1 then objectCount w + 1 else rk m
      rw [if_neg (by omega), if_neg (by omega)]
      have h0 : holderOf w m ≠ 0 := by rw [holder_at q]; exact e0
      have := R.dec m h0
      rw [holder_at q] at this
      exact this
  · obtain ⟨p1, p2, q⟩ := g.win v hv
    exact ⟨place _ p1, place _ p2, q⟩
theorem good_window {w : World} (g : Good w) {a b k : Nat} (ha : isPlace w a = true) (hb : isPlace w b = true) (hk : k ≤ 3) : Good { w with windows := replaceWindow w a b k } := by
  obtain ⟨rk, hrk⟩ := g.acy
  refine ⟨g.cnt, g.hle, g.hz, g.rle, g.sp, ⟨rk, hrk⟩, fun x hx => ?_⟩
  have hx' : x ∈ replaceWindow w a b k := hx
  unfold replaceWindow at hx'
  rcases List.mem_append.mp hx' with h | h
  · exact g.win x (List.mem_filter.mp h).1
  · split at h
    · cases h
    · have e := List.mem_singleton.mp h
      subst e
      exact ⟨ha, hb, by show 1 ≤ k; omega, hk⟩
theorem good_start : Good start := by
  have e : ∀ n, objectAt start n = none := fun n => by unfold objectAt start; split <;> simp
  refine ⟨by decide, fun n x h => ?_, fun n x h => ?_, fun n x h => ?_, fun n x h => ?_, ⟨fun _ => 0, fun n x h => ?_⟩, fun x h => by cases h⟩ <;> (rw [e] at h; cases h)
theorem bit_add : ∀ (b c p : Nat), p.testBit b = false → b ≠ c → (p + 2 ^ b).testBit c = p.testBit c
  | 0, 0, p, _, h => absurd rfl h
  | 0, c + 1, p, hb, _ => by
    rw [Nat.testBit_succ, Nat.testBit_succ]
    have : p % 2 = 0 := by
      rw [Nat.testBit_zero] at hb
      have := of_decide_eq_false hb
      omega
    have e : (p + 2 ^ 0) / 2 = p / 2 := by
      rw [Nat.pow_zero]
      omega
    rw [e]
  | b + 1, 0, p, hb, _ => by
    rw [Nat.testBit_zero, Nat.testBit_zero]
    have e : (p + 2 ^ (b + 1)) % 2 = p % 2 := by
      rw [Nat.pow_succ]
      omega
    rw [e]
  | b + 1, c + 1, p, hb, h => by
    rw [Nat.testBit_succ, Nat.testBit_succ]
    have e : (p + 2 ^ (b + 1)) / 2 = p / 2 + 2 ^ b := by
      rw [Nat.pow_succ]
      omega
    rw [Nat.testBit_succ] at hb
    rw [e]
    exact bit_add b c (p / 2) hb fun z => h (by rw [z])
theorem bit_le {p b : Nat} (h : p.testBit b = true) : 2 ^ b ≤ p := Nat.ge_two_pow_of_testBit h
theorem bit_sub {b c p : Nat} (hb : p.testBit b = true) (h : b ≠ c) : (p - 2 ^ b).testBit c = p.testBit c := by
  have hle := bit_le hb
  have e : p - 2 ^ b + 2 ^ b = p := by omega
  have h0 : (p - 2 ^ b).testBit b = false := by
    have := Nat.testBit_two_pow_add_eq (p - 2 ^ b) b
    rw [Nat.add_comm, e, hb] at this
    simpa using this.symm
  have := bit_add b c (p - 2 ^ b) h0 h
  rw [e] at this
  exact this.symm
/-- a property set or taken away -/
theorem setProp_bit {p b c : Nat} {on : Bool} (h : b ≠ c) : (setProperty p b on).testBit c = p.testBit c := by
  unfold setProperty
  split
  · rfl
  · rename_i hn
    cases on with
    | true =>
      rw [if_pos rfl]
      exact bit_add b c p (by simpa using hn) h
    | false =>
      rw [if_neg Bool.false_ne_true]
      exact bit_sub (by simpa using hn) h
end Sg
set_option linter.all false
set_option maxRecDepth 10000
/-! SgD: each operation as the program has it, over plain numbers; they are the specification's steps. -/
namespace Sg
open Vbtaac
abbrev Ans := World × List Int

/-! ### operations that change -/
def addPlaceM (w : World) (f : Nat) : Ans := if objectCount w = 60 then (w, [-7]) else ({ w with objects := w.objects ++ [⟨0, 0, 64 * f, 0, 0⟩] }, [0, ((objectCount w + 1 : Nat) : Int)])
def addObjM (w : World) (h r b k m : Nat) : Ans :=
  if (decide (r ≤ 3) && (!isPlace w h && decide (capacityOf w h < loadOf w h + k))) = true then (w, [-6]) else if objectCount w = 60 then (w, [-7]) else if canHold w h r = false then (w, [-9])
  else ({ w with objects := w.objects ++ [⟨h, r, b, k, m⟩] }, [0, ((objectCount w + 1 : Nat) : Int)])
def moveM (w : World) (n h r : Nat) : Ans := if (isPlace w n || (h == n || isWithin w h n)) = true then (w, [-5]) else if hasCapacity w h r n = false then (w, [-6]) else if canHold w h r = false then (w, [-9]) else (moveObject w n h r, [0])
def setProM (w : World) (n b f : Nat) : Ans := if (isPlace w n && b != 6) = true then (w, [-9]) else (updateObject w n fun x => { x with properties := setProperty x.properties b (f == 1) }, [0])
def setWinM (w : World) (a b k : Nat) : Ans := if (a == b) = true then (w, [-5]) else if (!isPlace w a || !isPlace w b) = true then (w, [-9]) else ({ w with windows := replaceWindow w a b k }, [0])
def keptM (w : World) (v x : Nat) : Bool := relationOf w x == 5 || (decide (3 ≤ relationOf w x) && holderOf w x != v)
def takeM (w : World) (v x : Nat) : Ans := if canReach w v x = false then (w, [-4]) else if (isPlace w x || (x == v || isWithin w v x)) = true then (w, [-5]) else if hasCapacity w v 3 x = false then (w, [-6]) else if keptM w v x = true then (w, [-8]) else (moveObject w x v 3, [0])
def heldM (w : World) (v x : Nat) : Bool := holderOf w x == v && relationOf w x == 3
def fitsM (w : World) (v h r : Nat) : Bool := canHold w h r && (r != 1 || (reachableSpaces w 2 [spaceOf w v]).contains h)
def putM (w : World) (v x h r : Nat) : Ans := if canReach w v h = false then (w, [-4]) else if (h == x || isWithin w h x) = true then (w, [-5]) else if hasCapacity w h r x = false then (w, [-6]) else if heldM w v x = false then (w, [-8]) else if fitsM w v h r = false then (w, [-9]) else (moveObject w x h r, [0])
def dropM (w : World) (v x : Nat) : Ans :=
  let d := dropTarget w maxObjects v
  if hasCapacity w d.1 d.2 x = false then (w, [-6]) else if heldM w v x = false then (w, [-8]) else (moveObject w x d.1 d.2, [0, (d.1 : Int), (d.2 : Int)])
def openM (w : World) (v n f : Nat) : Ans := if canReach w v n = false then (w, [-4]) else if hasProperty w n hingedBit = false then (w, [-9]) else if (hasProperty w n openBit == (f == 1)) = true then (w, [-10]) else (updateObject w n fun x => { x with properties := setProperty x.properties openBit (f == 1) }, [0])

/-! ### operations that ask -/
def locateM (w : World) (n : Nat) : List Int := 0 :: (holderOf w n : Int) :: (relationOf w n : Int) :: (spaceOf w n : Int) :: ofN (ancestorsOf w maxObjects n)
def contentsM (w : World) (h : Nat) : List Int := 0 :: (childrenOf w h).flatMap fun (n : Nat) => [(n : Int), (relationOf w n : Int)]
def lenL (l : List Nat) : List Int := (l.length : Int) :: ofN l
def canSeeM (w : World) (v x : Nat) : List Int := 0 :: boolToInt (canSee w v x) :: (lenL (visibilityProof w v x).1 ++ lenL (visibilityProof w v x).2)
def checkM (w : World) (v x y : Nat) (p q : List Nat) : List Int := [0, boolToInt (acceptsProof w v x (y == 1) p q)]
def isLitM (w : World) (h : Nat) : List Int := if isSpace w h = false then [-9] else 0 :: boolToInt (isLit w h) :: ofN (if isLit w h = true then shortestPath w 0 (lightSources w) h else [])
def visibleM (w : World) (v : Nat) : List Int := 0 :: ofN ((objectNumbers w).filter fun x => canSee w v x)
def reachableM (w : World) (v : Nat) : List Int := 0 :: ofN ((objectNumbers w).filter fun x => canReach w v x)
def loadM (w : World) (h : Nat) : List Int := [0, (loadOf w h : Int), (capacityOf w h : Int), (((objectNumbers w).filter fun n => isWithin w n h).length : Int), (sumList (((objectNumbers w).filter fun n => isWithin w n h).map fun n => bulkOf w n) : Int)]
def compareM (w : World) (a b : Nat) : List Int :=
  let x := enclosingSpaces w (maxObjects + 1) (spaceOf w a)
  let y := enclosingSpaces w (maxObjects + 1) (spaceOf w b)
  0 :: boolToInt (x.getLast? == y.getLast?) :: (lenL (x.takeWhile fun h => !y.contains h) ++ lenL (y.takeWhile fun h => !x.contains h))
def propsM (w : World) (n : Nat) : List Int := match objectAt w n with
  | some x => [0, (x.properties : Int), (x.bulk : Int), (x.capacity : Int)]
  | none => [-2]
def windowsM (w : World) : List Int := 0 :: w.windows.flatMap fun x => [(x.first : Int), (x.second : Int), (x.kind : Int)]

/-! ### all of them -/
def opM (w : World) (k : Nat) (ms p q : List Nat) : Ans := match k, ms with
  | 0, [f] => addPlaceM w f
  | 1, [h, r, b, k, m] => addObjM w h r b k m
  | 2, [n, h, r] => moveM w n h r
  | 3, [n, b, f] => setProM w n b f
  | 4, [a, b, k] => setWinM w a b k
  | 5, [v, x] => takeM w v x
  | 6, [v, x, h, r] => putM w v x h r
  | 7, [v, x] => dropM w v x
  | 8, [v, n, f] => openM w v n f
  | 9, [n] => (w, locateM w n)
  | 10, [h] => (w, contentsM w h)
  | 11, [v, x] => (w, canSeeM w v x)
  | 12, [v, x, y] => (w, checkM w v x y p q)
  | 13, [h] => (w, isLitM w h)
  | 14, [v] => (w, visibleM w v)
  | 15, [v] => (w, reachableM w v)
  | 16, [h] => (w, loadM w h)
  | 17, [a, b] => (w, compareM w a b)
  | 18, [n] => (w, propsM w n)
  | 19, [] => (w, windowsM w)
  | _, _ => (w, [])

/-! ### the ranges -/
def rObj : Int × Int := (1, 60)
def rFlag : Int × Int := (0, 1)
def rRel : Int × Int := (1, 5)
def rSize : Int × Int := (0, 1000000)
def rangesL : List (List (Int × Int)) := [[rFlag], [rObj, rRel, (0, 127), rSize, rSize], [rObj, rObj, rRel], [rObj, (3, 6), rFlag], [rObj, rObj, (0, 3)], [rObj, rObj], [rObj, rObj, rObj, (1, 2)], [rObj, rObj], [rObj, rObj, rFlag],
  [rObj], [rObj], [rObj, rObj], [rObj, rObj, rFlag], [rObj], [rObj], [rObj], [rObj], [rObj, rObj], [rObj], []]
def rangesM (k : Nat) : List (Int × Int) := rangesL.getD k []
def btw (n : Int) (b : Int × Int) : Bool := decide (b.1 ≤ n) && decide (n ≤ b.2)
def inRangeM (k : Nat) (ns : List Int) : Bool := (ns.zip (rangesM k)).all fun p => btw p.1 p.2
def isProofM (l : List Int) : Bool := decide (l.length ≤ 60) && l.all fun n => btw n rObj
/-- the objects among the numbers -/
def objsM (k : Nat) (ns : List Int) : List Int := ((ns.zip (rangesM k)).filter fun p => decide (p.2 = rObj)).map (·.1)
def thereM (w : World) (k : Nat) (ns : List Int) : Bool := (objsM k ns).all fun n => decide (n ≤ (objectCount w : Int))
def byActor (k : Nat) : Bool := [5, 6, 7, 8, 11, 12, 14, 15].contains k
def codeM (w : World) (k : Nat) (ns : List Int) (ls : List (List Int)) : Int :=
  if (!inRangeM k ns || !ls.all isProofM) = true then -1 else if thereM w k ns = false then -2 else if (byActor k && !hasProperty w (ns.headD 0).toNat actorBit) = true then -3 else 0
/-- what the program answers to one call -/
def answerM (w : World) (k : Nat) (ns : List Int) (ls : List (List Int)) : Ans :=
  if codeM w k ns ls ≠ 0 then (w, [codeM w k ns ls]) else opM w k (ns.map Int.toNat) ((ls.getD 0 []).map Int.toNat) ((ls.getD 1 []).map Int.toNat)

/-! ### the specification's checks, one by one -/
theorem wc_nil {w : World} {k : Unit → World × List Int} : withChecks w [] k = k () := rfl
theorem wc_cons {w : World} {c : Int} {b : Bool} {l : List (Int × Bool)} {k : Unit → World × List Int} : withChecks w ((c, b) :: l) k = if b = true then (w, [c]) else withChecks w l k := by
  unfold withChecks
  rw [List.find?_cons]
  cases b <;> rfl
theorem ite_neg {α : Type} {b : Bool} {x y : α} : (if (!b) = true then x else y) = if b = false then x else y := by cases b <;> rfl
section
variable {w : World}
theorem obj_btw {n : Int} : isObjectArgument n = btw n rObj := rfl
theorem size_btw {n : Int} : isSizeArgument n = btw n rSize := rfl
theorem rng_btw {n lo hi : Int} : inRange n lo hi = btw n (lo, hi) := rfl
theorem ex_iff {n : Int} (h : btw n rObj = true) : objectExists w n.toNat = decide (n ≤ (objectCount w : Int)) := by
  unfold btw rObj at h
  rw [Bool.and_eq_true, decide_eq_true_iff, decide_eq_true_iff] at h
  have h1 : (1 : Int) ≤ n := h.1
  unfold objectExists
  rw [Bool.eq_iff_iff, Bool.and_eq_true, decide_eq_true_iff, decide_eq_true_iff, decide_eq_true_iff]
  omega
end
end Sg
set_option Elab.async false
set_option linter.all false
set_option maxRecDepth 100000
set_option maxHeartbeats 4000000
/-! SgG0: the places of the text, the scopes of its defs. Printed by genhead.py. -/
namespace Sg
open PySem PySem.Spec PyProof.Rows L2
def topS (i : Nat) : Stmt := PySem.Challenge.pw_sightnest_s01_answers.main.body.getD i (.Pass ⟨0, 0, 0, 0⟩)
abbrev s_Thing_init : Stmt := inClass (topS 13) 0
abbrev s_World_init : Stmt := inClass (topS 14) 0
abbrev s_World_many : Stmt := inClass (topS 14) 1
abbrev s_World_thing : Stmt := inClass (topS 14) 2
abbrev s_World_numbers : Stmt := inClass (topS 14) 3
abbrev s_World_is_place : Stmt := inClass (topS 14) 4
abbrev s_World_has_trait : Stmt := inClass (topS 14) 5
abbrev s_World_is_box : Stmt := inClass (topS 14) 6
abbrev s_World_take_in : Stmt := inClass (topS 14) 7
abbrev s_World_hand_to : Stmt := inClass (topS 14) 8
abbrev s_World_set_trait : Stmt := inClass (topS 14) 9
abbrev s_World_set_window : Stmt := inClass (topS 14) 10
abbrev s_can_hold : Stmt := topS 16
abbrev s_holders_of : Stmt := topS 17
abbrev s_is_within : Stmt := topS 18
abbrev s_does_count : Stmt := topS 19
abbrev s_load_of : Stmt := topS 20
abbrev s_is_too_much : Stmt := topS 21
abbrev s_load_with : Stmt := topS 22
abbrev s_would_exceed : Stmt := topS 23
abbrev s_lies_in : Stmt := topS 24
abbrev s_met_in : Stmt := topS 25
abbrev s_enclosing : Stmt := topS 26
abbrev s_does_carry : Stmt := topS 27
abbrev s_landing : Stmt := topS 28
abbrev s_does_pass_wall : Stmt := topS 35
abbrev s_wall_ways : Stmt := topS 36
abbrev s_window_ways : Stmt := topS 37
abbrev s_links_for : Stmt := topS 38
abbrev s_linked_to : Stmt := topS 39
abbrev s_next_level : Stmt := topS 40
abbrev s_levels_from : Stmt := topS 41
abbrev s_spaces_in : Stmt := topS 42
abbrev s_reached_from : Stmt := topS 43
abbrev s_depth_of : Stmt := topS 44
abbrev s_path_to : Stmt := topS 45
abbrev s_light_sources : Stmt := topS 46
abbrev s_View_init : Stmt := inClass (topS 48) 0
abbrev s_View_goals : Stmt := inClass (topS 48) 1
abbrev s_View_does_see : Stmt := inClass (topS 48) 2
abbrev s_hands_from : Stmt := topS 49
abbrev s_is_reached : Stmt := topS 50
abbrev s_does_reach : Stmt := topS 51
abbrev s_visible_to : Stmt := topS 52
abbrev s_reachable_by : Stmt := topS 53
abbrev s_proof_of : Stmt := topS 54
abbrev s_light_path : Stmt := topS 55
abbrev s_is_path : Stmt := topS 56
abbrev s_is_closed : Stmt := topS 57
abbrev s_is_positive_proof : Stmt := topS 58
abbrev s_is_negative_proof : Stmt := topS 59
abbrev s_with_length : Stmt := topS 61
abbrev s_locate : Stmt := topS 62
abbrev s_list_contents : Stmt := topS 63
abbrev s_can_see : Stmt := topS 64
abbrev s_check_proof : Stmt := topS 65
abbrev s_is_lit : Stmt := topS 66
abbrev s_list_visible : Stmt := topS 67
abbrev s_list_reachable : Stmt := topS 68
abbrev s_get_load : Stmt := topS 69
abbrev s_up_to_common : Stmt := topS 70
abbrev s_compare_spaces : Stmt := topS 71
abbrev s_get_properties : Stmt := topS 72
abbrev s_list_windows : Stmt := topS 73
abbrev s_add_place : Stmt := topS 76
abbrev s_add_object : Stmt := topS 77
abbrev s_move_object : Stmt := topS 78
abbrev s_set_property : Stmt := topS 79
abbrev s_set_window : Stmt := topS 80
abbrev s_is_kept_back : Stmt := topS 81
abbrev s_take_object : Stmt := topS 82
abbrev s_is_held_by : Stmt := topS 83
abbrev s_does_fit : Stmt := topS 84
abbrev s_put_object : Stmt := topS 85
abbrev s_drop_object : Stmt := topS 86
abbrev s_open_or_close : Stmt := topS 87
abbrev s_is_between : Stmt := topS 96
abbrev s_is_proof_list : Stmt := topS 97
abbrev s_are_in_range : Stmt := topS 98
abbrev s_are_there : Stmt := topS 99
abbrev s_common_error : Stmt := topS 100
abbrev s_changed : Stmt := topS 103
abbrev s_asked : Stmt := topS 104
abbrev s_answer_of : Stmt := topS 105
abbrev s_list_at : Stmt := topS 106
abbrev s_answers : Stmt := topS 107
theorem sc_Thing_init : FnScope ["self", "holder", "relation", "traits", "bulk", "capacity"] ["self", "holder", "relation", "traits", "bulk", "capacity"] (defScope s_Thing_init) := ⟨rfl, rfl, rfl, by decide +kernel, rfl, by decide +kernel, by decide +kernel⟩
theorem sc_World_init : FnScope ["self"] ["self"] (defScope s_World_init) := ⟨rfl, rfl, rfl, by decide +kernel, rfl, by decide +kernel, by decide +kernel⟩
theorem sc_World_many : FnScope ["self"] ["self"] (defScope s_World_many) := ⟨rfl, rfl, rfl, by decide +kernel, rfl, by decide +kernel, by decide +kernel⟩
theorem sc_World_thing : FnScope ["self", "n"] ["self", "n"] (defScope s_World_thing) := ⟨rfl, rfl, rfl, by decide +kernel, rfl, by decide +kernel, by decide +kernel⟩
theorem sc_World_numbers : FnScope ["self"] ["self"] (defScope s_World_numbers) := ⟨rfl, rfl, rfl, by decide +kernel, rfl, by decide +kernel, by decide +kernel⟩
theorem sc_World_is_place : FnScope ["self", "n"] ["self", "n"] (defScope s_World_is_place) := ⟨rfl, rfl, rfl, by decide +kernel, rfl, by decide +kernel, by decide +kernel⟩
theorem sc_World_has_trait : FnScope ["self", "n", "trait"] ["self", "n", "trait"] (defScope s_World_has_trait) := ⟨rfl, rfl, rfl, by decide +kernel, rfl, by decide +kernel, by decide +kernel⟩
theorem sc_World_is_box : FnScope ["self", "n"] ["self", "n"] (defScope s_World_is_box) := ⟨rfl, rfl, rfl, by decide +kernel, rfl, by decide +kernel, by decide +kernel⟩
theorem sc_World_take_in : FnScope ["self", "thing"] ["self", "thing"] (defScope s_World_take_in) := ⟨rfl, rfl, rfl, by decide +kernel, rfl, by decide +kernel, by decide +kernel⟩
theorem sc_World_hand_to : FnScope ["self", "n", "h", "relation", "thing"] ["self", "n", "h", "relation"] (defScope s_World_hand_to) := ⟨rfl, rfl, rfl, by decide +kernel, rfl, by decide +kernel, by decide +kernel⟩
theorem sc_World_set_trait : FnScope ["self", "n", "trait", "flag", "thing"] ["self", "n", "trait", "flag"] (defScope s_World_set_trait) := ⟨rfl, rfl, rfl, by decide +kernel, rfl, by decide +kernel, by decide +kernel⟩
theorem sc_World_set_window : FnScope ["self", "a", "b", "kind", "kept", "row"] ["self", "a", "b", "kind"] (defScope s_World_set_window) := ⟨rfl, rfl, rfl, by decide +kernel, rfl, by decide +kernel, by decide +kernel⟩
theorem sc_can_hold : FnScope ["world", "h", "relation"] ["world", "h", "relation"] (defScope s_can_hold) := ⟨rfl, rfl, rfl, by decide +kernel, rfl, by decide +kernel, by decide +kernel⟩
theorem sc_holders_of : FnScope ["world", "n", "found", "here"] ["world", "n"] (defScope s_holders_of) := ⟨rfl, rfl, rfl, by decide +kernel, rfl, by decide +kernel, by decide +kernel⟩
theorem sc_is_within : FnScope ["world", "n", "other"] ["world", "n", "other"] (defScope s_is_within) := ⟨rfl, rfl, rfl, by decide +kernel, rfl, by decide +kernel, by decide +kernel⟩
theorem sc_does_count : FnScope ["world", "n", "h", "thing"] ["world", "n", "h"] (defScope s_does_count) := ⟨rfl, rfl, rfl, by decide +kernel, rfl, by decide +kernel, by decide +kernel⟩
theorem sc_load_of : FnScope ["world", "h", "n"] ["world", "h"] (defScope s_load_of) := ⟨rfl, rfl, rfl, by decide +kernel, rfl, by decide +kernel, by decide +kernel⟩
theorem sc_is_too_much : FnScope ["world", "h", "load"] ["world", "h", "load"] (defScope s_is_too_much) := ⟨rfl, rfl, rfl, by decide +kernel, rfl, by decide +kernel, by decide +kernel⟩
theorem sc_load_with : FnScope ["world", "h", "n", "load"] ["world", "h", "n"] (defScope s_load_with) := ⟨rfl, rfl, rfl, by decide +kernel, rfl, by decide +kernel, by decide +kernel⟩
theorem sc_would_exceed : FnScope ["world", "n", "h", "relation"] ["world", "n", "h", "relation"] (defScope s_would_exceed) := ⟨rfl, rfl, rfl, by decide +kernel, rfl, by decide +kernel, by decide +kernel⟩
theorem sc_lies_in : FnScope ["world", "n", "here", "thing"] ["world", "n"] (defScope s_lies_in) := ⟨rfl, rfl, rfl, by decide +kernel, rfl, by decide +kernel, by decide +kernel⟩
theorem sc_met_in : FnScope ["world", "n"] ["world", "n"] (defScope s_met_in) := ⟨rfl, rfl, rfl, by decide +kernel, rfl, by decide +kernel, by decide +kernel⟩
theorem sc_enclosing : FnScope ["world", "n", "here", "found"] ["world", "n"] (defScope s_enclosing) := ⟨rfl, rfl, rfl, by decide +kernel, rfl, by decide +kernel, by decide +kernel⟩
theorem sc_does_carry : FnScope ["world", "v", "x", "here", "thing"] ["world", "v", "x"] (defScope s_does_carry) := ⟨rfl, rfl, rfl, by decide +kernel, rfl, by decide +kernel, by decide +kernel⟩
theorem sc_landing : FnScope ["world", "v", "here", "thing"] ["world", "v"] (defScope s_landing) := ⟨rfl, rfl, rfl, by decide +kernel, rfl, by decide +kernel, by decide +kernel⟩
theorem sc_does_pass_wall : FnScope ["world", "n", "means"] ["world", "n", "means"] (defScope s_does_pass_wall) := ⟨rfl, rfl, rfl, by decide +kernel, rfl, by decide +kernel, by decide +kernel⟩
theorem sc_wall_ways : FnScope ["world", "means", "found", "n", "outside"] ["world", "means"] (defScope s_wall_ways) := ⟨rfl, rfl, rfl, by decide +kernel, rfl, by decide +kernel, by decide +kernel⟩
theorem sc_window_ways : FnScope ["window", "means", "a", "b", "kind"] ["window", "means"] (defScope s_window_ways) := ⟨rfl, rfl, rfl, by decide +kernel, rfl, by decide +kernel, by decide +kernel⟩
theorem sc_links_for : FnScope ["world", "means", "ways", "window", "found", "n", "one", "other"] ["world", "means"] (defScope s_links_for) := ⟨rfl, rfl, rfl, by decide +kernel, rfl, by decide +kernel, by decide +kernel⟩
theorem sc_linked_to : FnScope ["links", "n"] ["links", "n"] (defScope s_linked_to) := ⟨rfl, rfl, rfl, by decide +kernel, rfl, by decide +kernel, by decide +kernel⟩
theorem sc_next_level : FnScope ["links", "level", "reached", "found", "one", "other"] ["links", "level", "reached"] (defScope s_next_level) := ⟨rfl, rfl, rfl, by decide +kernel, rfl, by decide +kernel, by decide +kernel⟩
theorem sc_levels_from : FnScope ["links", "sources", "levels", "level", "reached", "one"] ["links", "sources"] (defScope s_levels_from) := ⟨rfl, rfl, rfl, by decide +kernel, rfl, by decide +kernel, by decide +kernel⟩
theorem sc_spaces_in : FnScope ["levels", "found", "level"] ["levels"] (defScope s_spaces_in) := ⟨rfl, rfl, rfl, by decide +kernel, rfl, by decide +kernel, by decide +kernel⟩
theorem sc_reached_from : FnScope ["links", "sources"] ["links", "sources"] (defScope s_reached_from) := ⟨rfl, rfl, rfl, by decide +kernel, rfl, by decide +kernel, by decide +kernel⟩
theorem sc_depth_of : FnScope ["levels", "goal", "depth"] ["levels", "goal"] (defScope s_depth_of) := ⟨rfl, rfl, rfl, by decide +kernel, rfl, by decide +kernel, by decide +kernel⟩
theorem sc_path_to : FnScope ["links", "levels", "goal", "path", "back", "ahead", "one"] ["links", "levels", "goal"] (defScope s_path_to) := ⟨rfl, rfl, rfl, by decide +kernel, rfl, by decide +kernel, by decide +kernel⟩
theorem sc_light_sources : FnScope ["world", "found", "n"] ["world"] (defScope s_light_sources) := ⟨rfl, rfl, rfl, by decide +kernel, rfl, by decide +kernel, by decide +kernel⟩
theorem sc_View_init : FnScope ["self", "world", "v"] ["self", "world", "v"] (defScope s_View_init) := ⟨rfl, rfl, rfl, by decide +kernel, rfl, by decide +kernel, by decide +kernel⟩
theorem sc_View_goals : FnScope ["self", "spaces", "space"] ["self", "spaces"] (defScope s_View_goals) := ⟨rfl, rfl, rfl, by decide +kernel, rfl, by decide +kernel, by decide +kernel⟩
theorem sc_View_does_see : FnScope ["self", "world", "x"] ["self", "world", "x"] (defScope s_View_does_see) := ⟨rfl, rfl, rfl, by decide +kernel, rfl, by decide +kernel, by decide +kernel⟩
theorem sc_hands_from : FnScope ["world", "v"] ["world", "v"] (defScope s_hands_from) := ⟨rfl, rfl, rfl, by decide +kernel, rfl, by decide +kernel, by decide +kernel⟩
theorem sc_is_reached : FnScope ["world", "view", "hands", "v", "x", "space"] ["world", "view", "hands", "v", "x"] (defScope s_is_reached) := ⟨rfl, rfl, rfl, by decide +kernel, rfl, by decide +kernel, by decide +kernel⟩
theorem sc_does_reach : FnScope ["world", "v", "x"] ["world", "v", "x"] (defScope s_does_reach) := ⟨rfl, rfl, rfl, by decide +kernel, rfl, by decide +kernel, by decide +kernel⟩
theorem sc_visible_to : FnScope ["world", "v", "view", "x"] ["world", "v"] (defScope s_visible_to) := ⟨rfl, rfl, rfl, by decide +kernel, rfl, by decide +kernel, by decide +kernel⟩
theorem sc_reachable_by : FnScope ["world", "v", "view", "hands", "x"] ["world", "v"] (defScope s_reachable_by) := ⟨rfl, rfl, rfl, by decide +kernel, rfl, by decide +kernel, by decide +kernel⟩
theorem sc_proof_of : FnScope ["world", "v", "x", "view", "spaces", "goals", "sources", "space", "sight_path"] ["world", "v", "x"] (defScope s_proof_of) := ⟨rfl, rfl, rfl, by decide +kernel, rfl, by decide +kernel, by decide +kernel⟩
theorem sc_light_path : FnScope ["world", "space", "links", "levels"] ["world", "space"] (defScope s_light_path) := ⟨rfl, rfl, rfl, by decide +kernel, rfl, by decide +kernel, by decide +kernel⟩
theorem sc_is_path : FnScope ["links", "numbers", "at"] ["links", "numbers"] (defScope s_is_path) := ⟨rfl, rfl, rfl, by decide +kernel, rfl, by decide +kernel, by decide +kernel⟩
theorem sc_is_closed : FnScope ["links", "numbers", "other", "one"] ["links", "numbers"] (defScope s_is_closed) := ⟨rfl, rfl, rfl, by decide +kernel, rfl, by decide +kernel, by decide +kernel⟩
theorem sc_is_positive_proof : FnScope ["world", "v", "x", "p", "q"] ["world", "v", "x", "p", "q"] (defScope s_is_positive_proof) := ⟨rfl, rfl, rfl, by decide +kernel, rfl, by decide +kernel, by decide +kernel⟩
theorem sc_is_negative_proof : FnScope ["world", "v", "x", "p", "q", "space"] ["world", "v", "x", "p", "q"] (defScope s_is_negative_proof) := ⟨rfl, rfl, rfl, by decide +kernel, rfl, by decide +kernel, by decide +kernel⟩
theorem sc_with_length : FnScope ["some"] ["some"] (defScope s_with_length) := ⟨rfl, rfl, rfl, by decide +kernel, rfl, by decide +kernel, by decide +kernel⟩
theorem sc_locate : FnScope ["world", "numbers", "n", "thing"] ["world", "numbers"] (defScope s_locate) := ⟨rfl, rfl, rfl, by decide +kernel, rfl, by decide +kernel, by decide +kernel⟩
theorem sc_list_contents : FnScope ["world", "numbers", "h", "found", "n"] ["world", "numbers"] (defScope s_list_contents) := ⟨rfl, rfl, rfl, by decide +kernel, rfl, by decide +kernel, by decide +kernel⟩
theorem sc_can_see : FnScope ["world", "numbers", "v", "x", "sees", "p", "q"] ["world", "numbers"] (defScope s_can_see) := ⟨rfl, rfl, rfl, by decide +kernel, rfl, by decide +kernel, by decide +kernel⟩
theorem sc_check_proof : FnScope ["world", "numbers", "p", "q", "v", "x", "answer"] ["world", "numbers", "p", "q"] (defScope s_check_proof) := ⟨rfl, rfl, rfl, by decide +kernel, rfl, by decide +kernel, by decide +kernel⟩
theorem sc_is_lit : FnScope ["world", "numbers", "h", "path"] ["world", "numbers"] (defScope s_is_lit) := ⟨rfl, rfl, rfl, by decide +kernel, rfl, by decide +kernel, by decide +kernel⟩
theorem sc_list_visible : FnScope ["world", "numbers"] ["world", "numbers"] (defScope s_list_visible) := ⟨rfl, rfl, rfl, by decide +kernel, rfl, by decide +kernel, by decide +kernel⟩
theorem sc_list_reachable : FnScope ["world", "numbers"] ["world", "numbers"] (defScope s_list_reachable) := ⟨rfl, rfl, rfl, by decide +kernel, rfl, by decide +kernel, by decide +kernel⟩
theorem sc_get_load : FnScope ["world", "numbers", "h", "inner", "n", "bulk"] ["world", "numbers"] (defScope s_get_load) := ⟨rfl, rfl, rfl, by decide +kernel, rfl, by decide +kernel, by decide +kernel⟩
theorem sc_up_to_common : FnScope ["some", "others", "found", "one"] ["some", "others"] (defScope s_up_to_common) := ⟨rfl, rfl, rfl, by decide +kernel, rfl, by decide +kernel, by decide +kernel⟩
theorem sc_compare_spaces : FnScope ["world", "numbers", "a", "b", "ones", "others", "told"] ["world", "numbers"] (defScope s_compare_spaces) := ⟨rfl, rfl, rfl, by decide +kernel, rfl, by decide +kernel, by decide +kernel⟩
theorem sc_get_properties : FnScope ["world", "numbers", "thing"] ["world", "numbers"] (defScope s_get_properties) := ⟨rfl, rfl, rfl, by decide +kernel, rfl, by decide +kernel, by decide +kernel⟩
theorem sc_list_windows : FnScope ["world", "numbers", "found", "a", "b", "kind"] ["world", "numbers"] (defScope s_list_windows) := ⟨rfl, rfl, rfl, by decide +kernel, rfl, by decide +kernel, by decide +kernel⟩
theorem sc_add_place : FnScope ["world", "numbers", "flag"] ["world", "numbers"] (defScope s_add_place) := ⟨rfl, rfl, rfl, by decide +kernel, rfl, by decide +kernel, by decide +kernel⟩
theorem sc_add_object : FnScope ["world", "numbers", "h", "relation", "traits", "bulk", "capacity"] ["world", "numbers"] (defScope s_add_object) := ⟨rfl, rfl, rfl, by decide +kernel, rfl, by decide +kernel, by decide +kernel⟩
theorem sc_move_object : FnScope ["world", "numbers", "n", "h", "relation"] ["world", "numbers"] (defScope s_move_object) := ⟨rfl, rfl, rfl, by decide +kernel, rfl, by decide +kernel, by decide +kernel⟩
theorem sc_set_property : FnScope ["world", "numbers", "n", "number", "flag"] ["world", "numbers"] (defScope s_set_property) := ⟨rfl, rfl, rfl, by decide +kernel, rfl, by decide +kernel, by decide +kernel⟩
theorem sc_set_window : FnScope ["world", "numbers", "a", "b", "kind"] ["world", "numbers"] (defScope s_set_window) := ⟨rfl, rfl, rfl, by decide +kernel, rfl, by decide +kernel, by decide +kernel⟩
theorem sc_is_kept_back : FnScope ["world", "v", "x", "thing"] ["world", "v", "x"] (defScope s_is_kept_back) := ⟨rfl, rfl, rfl, by decide +kernel, rfl, by decide +kernel, by decide +kernel⟩
theorem sc_take_object : FnScope ["world", "numbers", "v", "x"] ["world", "numbers"] (defScope s_take_object) := ⟨rfl, rfl, rfl, by decide +kernel, rfl, by decide +kernel, by decide +kernel⟩
theorem sc_is_held_by : FnScope ["world", "v", "x", "thing"] ["world", "v", "x"] (defScope s_is_held_by) := ⟨rfl, rfl, rfl, by decide +kernel, rfl, by decide +kernel, by decide +kernel⟩
theorem sc_does_fit : FnScope ["world", "v", "h", "relation"] ["world", "v", "h", "relation"] (defScope s_does_fit) := ⟨rfl, rfl, rfl, by decide +kernel, rfl, by decide +kernel, by decide +kernel⟩
theorem sc_put_object : FnScope ["world", "numbers", "v", "x", "h", "relation"] ["world", "numbers"] (defScope s_put_object) := ⟨rfl, rfl, rfl, by decide +kernel, rfl, by decide +kernel, by decide +kernel⟩
theorem sc_drop_object : FnScope ["world", "numbers", "v", "x", "h", "relation"] ["world", "numbers"] (defScope s_drop_object) := ⟨rfl, rfl, rfl, by decide +kernel, rfl, by decide +kernel, by decide +kernel⟩
theorem sc_open_or_close : FnScope ["world", "numbers", "v", "n", "flag"] ["world", "numbers"] (defScope s_open_or_close) := ⟨rfl, rfl, rfl, by decide +kernel, rfl, by decide +kernel, by decide +kernel⟩
theorem sc_is_between : FnScope ["number", "bounds"] ["number", "bounds"] (defScope s_is_between) := ⟨rfl, rfl, rfl, by decide +kernel, rfl, by decide +kernel, by decide +kernel⟩
theorem sc_is_proof_list : FnScope ["some", "number"] ["some"] (defScope s_is_proof_list) := ⟨rfl, rfl, rfl, by decide +kernel, rfl, by decide +kernel, by decide +kernel⟩
theorem sc_are_in_range : FnScope ["word", "numbers", "number", "bounds"] ["word", "numbers"] (defScope s_are_in_range) := ⟨rfl, rfl, rfl, by decide +kernel, rfl, by decide +kernel, by decide +kernel⟩
theorem sc_are_there : FnScope ["world", "word", "numbers", "some", "at", "number"] ["world", "word", "numbers"] (defScope s_are_there) := ⟨rfl, rfl, rfl, by decide +kernel, rfl, by decide +kernel, by decide +kernel⟩
theorem sc_common_error : FnScope ["world", "word", "numbers", "lists", "some"] ["world", "word", "numbers", "lists"] (defScope s_common_error) := ⟨rfl, rfl, rfl, by decide +kernel, rfl, by decide +kernel, by decide +kernel⟩
theorem sc_changed : FnScope ["world", "word", "numbers"] ["world", "word", "numbers"] (defScope s_changed) := ⟨rfl, rfl, rfl, by decide +kernel, rfl, by decide +kernel, by decide +kernel⟩
theorem sc_asked : FnScope ["world", "word", "numbers"] ["world", "word", "numbers"] (defScope s_asked) := ⟨rfl, rfl, rfl, by decide +kernel, rfl, by decide +kernel, by decide +kernel⟩
theorem sc_answer_of : FnScope ["world", "word", "numbers", "lists", "code"] ["world", "word", "numbers", "lists"] (defScope s_answer_of) := ⟨rfl, rfl, rfl, by decide +kernel, rfl, by decide +kernel, by decide +kernel⟩
theorem sc_list_at : FnScope ["calls", "at"] ["calls", "at"] (defScope s_list_at) := ⟨rfl, rfl, rfl, by decide +kernel, rfl, by decide +kernel, by decide +kernel⟩
theorem sc_answers : FnScope ["calls", "world", "found", "at", "word", "end", "numbers", "lists", "turn", "told"] ["calls"] (defScope s_answers) := ⟨rfl, rfl, rfl, by decide +kernel, rfl, by decide +kernel, by decide +kernel⟩
end Sg
set_option Elab.async false
set_option linter.all false
set_option maxRecDepth 100000
set_option maxHeartbeats 0
/-! SgHa: the head: facts by names. Printed by genhead.py. -/
namespace SgH
open PySem PySem.Spec PyProof.Rows L2 Sg
def d_Thing_init : He.DefD := ⟨("Thing", some "__init__"), "__init__", "Thing.__init__", defArgs s_Thing_init, defBody s_Thing_init, defScope s_Thing_init, [], []⟩
def d_World_init : He.DefD := ⟨("World", some "__init__"), "__init__", "World.__init__", defArgs s_World_init, defBody s_World_init, defScope s_World_init, [], []⟩
def d_World_many : He.DefD := ⟨("World", some "many"), "many", "World.many", defArgs s_World_many, defBody s_World_many, defScope s_World_many, [], []⟩
def d_World_thing : He.DefD := ⟨("World", some "thing"), "thing", "World.thing", defArgs s_World_thing, defBody s_World_thing, defScope s_World_thing, [], []⟩
def d_World_numbers : He.DefD := ⟨("World", some "numbers"), "numbers", "World.numbers", defArgs s_World_numbers, defBody s_World_numbers, defScope s_World_numbers, [], []⟩
def d_World_is_place : He.DefD := ⟨("World", some "is_place"), "is_place", "World.is_place", defArgs s_World_is_place, defBody s_World_is_place, defScope s_World_is_place, [], []⟩
def d_World_has_trait : He.DefD := ⟨("World", some "has_trait"), "has_trait", "World.has_trait", defArgs s_World_has_trait, defBody s_World_has_trait, defScope s_World_has_trait, [], []⟩
def d_World_is_box : He.DefD := ⟨("World", some "is_box"), "is_box", "World.is_box", defArgs s_World_is_box, defBody s_World_is_box, defScope s_World_is_box, [], []⟩
def d_World_take_in : He.DefD := ⟨("World", some "take_in"), "take_in", "World.take_in", defArgs s_World_take_in, defBody s_World_take_in, defScope s_World_take_in, [], []⟩
def d_World_hand_to : He.DefD := ⟨("World", some "hand_to"), "hand_to", "World.hand_to", defArgs s_World_hand_to, defBody s_World_hand_to, defScope s_World_hand_to, [], []⟩
def d_World_set_trait : He.DefD := ⟨("World", some "set_trait"), "set_trait", "World.set_trait", defArgs s_World_set_trait, defBody s_World_set_trait, defScope s_World_set_trait, [], []⟩
def d_World_set_window : He.DefD := ⟨("World", some "set_window"), "set_window", "World.set_window", defArgs s_World_set_window, defBody s_World_set_window, defScope s_World_set_window, [], []⟩
def d_can_hold : He.DefD := ⟨("can_hold", none), "can_hold", "can_hold", defArgs s_can_hold, defBody s_can_hold, defScope s_can_hold, [], []⟩
def d_holders_of : He.DefD := ⟨("holders_of", none), "holders_of", "holders_of", defArgs s_holders_of, defBody s_holders_of, defScope s_holders_of, [], []⟩
def d_is_within : He.DefD := ⟨("is_within", none), "is_within", "is_within", defArgs s_is_within, defBody s_is_within, defScope s_is_within, [], []⟩
def d_does_count : He.DefD := ⟨("does_count", none), "does_count", "does_count", defArgs s_does_count, defBody s_does_count, defScope s_does_count, [], []⟩
def d_load_of : He.DefD := ⟨("load_of", none), "load_of", "load_of", defArgs s_load_of, defBody s_load_of, defScope s_load_of, [], []⟩
def d_is_too_much : He.DefD := ⟨("is_too_much", none), "is_too_much", "is_too_much", defArgs s_is_too_much, defBody s_is_too_much, defScope s_is_too_much, [], []⟩
def d_load_with : He.DefD := ⟨("load_with", none), "load_with", "load_with", defArgs s_load_with, defBody s_load_with, defScope s_load_with, [], []⟩
def d_would_exceed : He.DefD := ⟨("would_exceed", none), "would_exceed", "would_exceed", defArgs s_would_exceed, defBody s_would_exceed, defScope s_would_exceed, [], []⟩
def d_lies_in : He.DefD := ⟨("lies_in", none), "lies_in", "lies_in", defArgs s_lies_in, defBody s_lies_in, defScope s_lies_in, [], []⟩
def d_met_in : He.DefD := ⟨("met_in", none), "met_in", "met_in", defArgs s_met_in, defBody s_met_in, defScope s_met_in, [], []⟩
def d_enclosing : He.DefD := ⟨("enclosing", none), "enclosing", "enclosing", defArgs s_enclosing, defBody s_enclosing, defScope s_enclosing, [], []⟩
def d_does_carry : He.DefD := ⟨("does_carry", none), "does_carry", "does_carry", defArgs s_does_carry, defBody s_does_carry, defScope s_does_carry, [], []⟩
def d_landing : He.DefD := ⟨("landing", none), "landing", "landing", defArgs s_landing, defBody s_landing, defScope s_landing, [], []⟩
def d_does_pass_wall : He.DefD := ⟨("does_pass_wall", none), "does_pass_wall", "does_pass_wall", defArgs s_does_pass_wall, defBody s_does_pass_wall, defScope s_does_pass_wall, [], []⟩
def d_wall_ways : He.DefD := ⟨("wall_ways", none), "wall_ways", "wall_ways", defArgs s_wall_ways, defBody s_wall_ways, defScope s_wall_ways, [], []⟩
def d_window_ways : He.DefD := ⟨("window_ways", none), "window_ways", "window_ways", defArgs s_window_ways, defBody s_window_ways, defScope s_window_ways, [], []⟩
def d_links_for : He.DefD := ⟨("links_for", none), "links_for", "links_for", defArgs s_links_for, defBody s_links_for, defScope s_links_for, [], []⟩
def d_linked_to : He.DefD := ⟨("linked_to", none), "linked_to", "linked_to", defArgs s_linked_to, defBody s_linked_to, defScope s_linked_to, [], []⟩
def d_next_level : He.DefD := ⟨("next_level", none), "next_level", "next_level", defArgs s_next_level, defBody s_next_level, defScope s_next_level, [], []⟩
def d_levels_from : He.DefD := ⟨("levels_from", none), "levels_from", "levels_from", defArgs s_levels_from, defBody s_levels_from, defScope s_levels_from, [], []⟩
def d_spaces_in : He.DefD := ⟨("spaces_in", none), "spaces_in", "spaces_in", defArgs s_spaces_in, defBody s_spaces_in, defScope s_spaces_in, [], []⟩
def d_reached_from : He.DefD := ⟨("reached_from", none), "reached_from", "reached_from", defArgs s_reached_from, defBody s_reached_from, defScope s_reached_from, [], []⟩
def d_depth_of : He.DefD := ⟨("depth_of", none), "depth_of", "depth_of", defArgs s_depth_of, defBody s_depth_of, defScope s_depth_of, [], []⟩
def d_path_to : He.DefD := ⟨("path_to", none), "path_to", "path_to", defArgs s_path_to, defBody s_path_to, defScope s_path_to, [], []⟩
def d_light_sources : He.DefD := ⟨("light_sources", none), "light_sources", "light_sources", defArgs s_light_sources, defBody s_light_sources, defScope s_light_sources, [], []⟩
def d_View_init : He.DefD := ⟨("View", some "__init__"), "__init__", "View.__init__", defArgs s_View_init, defBody s_View_init, defScope s_View_init, [], []⟩
def d_View_goals : He.DefD := ⟨("View", some "goals"), "goals", "View.goals", defArgs s_View_goals, defBody s_View_goals, defScope s_View_goals, [], []⟩
def d_View_does_see : He.DefD := ⟨("View", some "does_see"), "does_see", "View.does_see", defArgs s_View_does_see, defBody s_View_does_see, defScope s_View_does_see, [], []⟩
def d_hands_from : He.DefD := ⟨("hands_from", none), "hands_from", "hands_from", defArgs s_hands_from, defBody s_hands_from, defScope s_hands_from, [], []⟩
def d_is_reached : He.DefD := ⟨("is_reached", none), "is_reached", "is_reached", defArgs s_is_reached, defBody s_is_reached, defScope s_is_reached, [], []⟩
def d_does_reach : He.DefD := ⟨("does_reach", none), "does_reach", "does_reach", defArgs s_does_reach, defBody s_does_reach, defScope s_does_reach, [], []⟩
def d_visible_to : He.DefD := ⟨("visible_to", none), "visible_to", "visible_to", defArgs s_visible_to, defBody s_visible_to, defScope s_visible_to, [], []⟩
def d_reachable_by : He.DefD := ⟨("reachable_by", none), "reachable_by", "reachable_by", defArgs s_reachable_by, defBody s_reachable_by, defScope s_reachable_by, [], []⟩
def d_proof_of : He.DefD := ⟨("proof_of", none), "proof_of", "proof_of", defArgs s_proof_of, defBody s_proof_of, defScope s_proof_of, [], []⟩
def d_light_path : He.DefD := ⟨("light_path", none), "light_path", "light_path", defArgs s_light_path, defBody s_light_path, defScope s_light_path, [], []⟩
def d_is_path : He.DefD := ⟨("is_path", none), "is_path", "is_path", defArgs s_is_path, defBody s_is_path, defScope s_is_path, [], []⟩
def d_is_closed : He.DefD := ⟨("is_closed", none), "is_closed", "is_closed", defArgs s_is_closed, defBody s_is_closed, defScope s_is_closed, [], []⟩
def d_is_positive_proof : He.DefD := ⟨("is_positive_proof", none), "is_positive_proof", "is_positive_proof", defArgs s_is_positive_proof, defBody s_is_positive_proof, defScope s_is_positive_proof, [], []⟩
def d_is_negative_proof : He.DefD := ⟨("is_negative_proof", none), "is_negative_proof", "is_negative_proof", defArgs s_is_negative_proof, defBody s_is_negative_proof, defScope s_is_negative_proof, [], []⟩
def d_with_length : He.DefD := ⟨("with_length", none), "with_length", "with_length", defArgs s_with_length, defBody s_with_length, defScope s_with_length, [], []⟩
def d_locate : He.DefD := ⟨("locate", none), "locate", "locate", defArgs s_locate, defBody s_locate, defScope s_locate, [], []⟩
def d_list_contents : He.DefD := ⟨("list_contents", none), "list_contents", "list_contents", defArgs s_list_contents, defBody s_list_contents, defScope s_list_contents, [], []⟩
def d_can_see : He.DefD := ⟨("can_see", none), "can_see", "can_see", defArgs s_can_see, defBody s_can_see, defScope s_can_see, [], []⟩
def d_check_proof : He.DefD := ⟨("check_proof", none), "check_proof", "check_proof", defArgs s_check_proof, defBody s_check_proof, defScope s_check_proof, [], []⟩
def d_is_lit : He.DefD := ⟨("is_lit", none), "is_lit", "is_lit", defArgs s_is_lit, defBody s_is_lit, defScope s_is_lit, [], []⟩
def d_list_visible : He.DefD := ⟨("list_visible", none), "list_visible", "list_visible", defArgs s_list_visible, defBody s_list_visible, defScope s_list_visible, [], []⟩
def d_list_reachable : He.DefD := ⟨("list_reachable", none), "list_reachable", "list_reachable", defArgs s_list_reachable, defBody s_list_reachable, defScope s_list_reachable, [], []⟩
def d_get_load : He.DefD := ⟨("get_load", none), "get_load", "get_load", defArgs s_get_load, defBody s_get_load, defScope s_get_load, [], []⟩
def d_up_to_common : He.DefD := ⟨("up_to_common", none), "up_to_common", "up_to_common", defArgs s_up_to_common, defBody s_up_to_common, defScope s_up_to_common, [], []⟩
def d_compare_spaces : He.DefD := ⟨("compare_spaces", none), "compare_spaces", "compare_spaces", defArgs s_compare_spaces, defBody s_compare_spaces, defScope s_compare_spaces, [], []⟩
def d_get_properties : He.DefD := ⟨("get_properties", none), "get_properties", "get_properties", defArgs s_get_properties, defBody s_get_properties, defScope s_get_properties, [], []⟩
def d_list_windows : He.DefD := ⟨("list_windows", none), "list_windows", "list_windows", defArgs s_list_windows, defBody s_list_windows, defScope s_list_windows, [], []⟩
def d_add_place : He.DefD := ⟨("add_place", none), "add_place", "add_place", defArgs s_add_place, defBody s_add_place, defScope s_add_place, [], []⟩
def d_add_object : He.DefD := ⟨("add_object", none), "add_object", "add_object", defArgs s_add_object, defBody s_add_object, defScope s_add_object, [], []⟩
def d_move_object : He.DefD := ⟨("move_object", none), "move_object", "move_object", defArgs s_move_object, defBody s_move_object, defScope s_move_object, [], []⟩
def d_set_property : He.DefD := ⟨("set_property", none), "set_property", "set_property", defArgs s_set_property, defBody s_set_property, defScope s_set_property, [], []⟩
def d_set_window : He.DefD := ⟨("set_window", none), "set_window", "set_window", defArgs s_set_window, defBody s_set_window, defScope s_set_window, [], []⟩
def d_is_kept_back : He.DefD := ⟨("is_kept_back", none), "is_kept_back", "is_kept_back", defArgs s_is_kept_back, defBody s_is_kept_back, defScope s_is_kept_back, [], []⟩
def d_take_object : He.DefD := ⟨("take_object", none), "take_object", "take_object", defArgs s_take_object, defBody s_take_object, defScope s_take_object, [], []⟩
def d_is_held_by : He.DefD := ⟨("is_held_by", none), "is_held_by", "is_held_by", defArgs s_is_held_by, defBody s_is_held_by, defScope s_is_held_by, [], []⟩
def d_does_fit : He.DefD := ⟨("does_fit", none), "does_fit", "does_fit", defArgs s_does_fit, defBody s_does_fit, defScope s_does_fit, [], []⟩
def d_put_object : He.DefD := ⟨("put_object", none), "put_object", "put_object", defArgs s_put_object, defBody s_put_object, defScope s_put_object, [], []⟩
def d_drop_object : He.DefD := ⟨("drop_object", none), "drop_object", "drop_object", defArgs s_drop_object, defBody s_drop_object, defScope s_drop_object, [], []⟩
def d_open_or_close : He.DefD := ⟨("open_or_close", none), "open_or_close", "open_or_close", defArgs s_open_or_close, defBody s_open_or_close, defScope s_open_or_close, [], []⟩
def d_is_between : He.DefD := ⟨("is_between", none), "is_between", "is_between", defArgs s_is_between, defBody s_is_between, defScope s_is_between, [], []⟩
def d_is_proof_list : He.DefD := ⟨("is_proof_list", none), "is_proof_list", "is_proof_list", defArgs s_is_proof_list, defBody s_is_proof_list, defScope s_is_proof_list, [], []⟩
def d_are_in_range : He.DefD := ⟨("are_in_range", none), "are_in_range", "are_in_range", defArgs s_are_in_range, defBody s_are_in_range, defScope s_are_in_range, [], []⟩
def d_are_there : He.DefD := ⟨("are_there", none), "are_there", "are_there", defArgs s_are_there, defBody s_are_there, defScope s_are_there, [], []⟩
def d_common_error : He.DefD := ⟨("common_error", none), "common_error", "common_error", defArgs s_common_error, defBody s_common_error, defScope s_common_error, [], []⟩
def d_changed : He.DefD := ⟨("changed", none), "changed", "changed", defArgs s_changed, defBody s_changed, defScope s_changed, [], []⟩
def d_asked : He.DefD := ⟨("asked", none), "asked", "asked", defArgs s_asked, defBody s_asked, defScope s_asked, [], []⟩
def d_answer_of : He.DefD := ⟨("answer_of", none), "answer_of", "answer_of", defArgs s_answer_of, defBody s_answer_of, defScope s_answer_of, [], []⟩
def d_list_at : He.DefD := ⟨("list_at", none), "list_at", "list_at", defArgs s_list_at, defBody s_list_at, defScope s_list_at, [], []⟩
def d_answers : He.DefD := ⟨("answers", none), "answers", "answers", defArgs s_answers, defBody s_answers, defScope s_answers, [], []⟩
def fn1 : List He.DefD := [d_Thing_init, d_World_init, d_World_many, d_World_thing, d_World_numbers, d_World_is_place, d_World_has_trait, d_World_is_box, d_World_take_in, d_World_hand_to, d_World_set_trait, d_World_set_window, d_can_hold, d_holders_of, d_is_within, d_does_count, d_load_of, d_is_too_much, d_load_with, d_would_exceed, d_lies_in, d_met_in, d_enclosing, d_does_carry, d_landing, d_does_pass_wall, d_wall_ways, d_window_ways, d_links_for, d_linked_to]
def fn2 : List He.DefD := [d_next_level, d_levels_from, d_spaces_in, d_reached_from, d_depth_of, d_path_to, d_light_sources, d_View_init, d_View_goals, d_View_does_see, d_hands_from, d_is_reached, d_does_reach, d_visible_to, d_reachable_by, d_proof_of, d_light_path, d_is_path, d_is_closed, d_is_positive_proof, d_is_negative_proof, d_with_length, d_locate, d_list_contents, d_can_see, d_check_proof, d_is_lit, d_list_visible, d_list_reachable, d_get_load]
def fn3 : List He.DefD := [d_up_to_common, d_compare_spaces, d_get_properties, d_list_windows, d_add_place, d_add_object, d_move_object, d_set_property, d_set_window, d_is_kept_back, d_take_object, d_is_held_by, d_does_fit, d_put_object, d_drop_object, d_open_or_close, d_is_between, d_is_proof_list, d_are_in_range, d_are_there, d_common_error, d_changed, d_asked, d_answer_of, d_list_at, d_answers]
def fn : List He.DefD := fn1 ++ (fn2 ++ fn3)
def fa1 : List He.Fa := [.glo "Thing", .cls "Thing", .mkr "Thing", .glo "World", .cls "World", .mkr "World", .meth "World" "many", .meth "World" "thing", .meth "World" "numbers", .meth "World" "is_place", .meth "World" "has_trait", .meth "World" "is_box", .meth "World" "take_in", .meth "World" "hand_to", .meth "World" "set_trait", .meth "World" "set_window", .glo "can_hold", .glo "holders_of", .glo "is_within", .glo "does_count", .glo "load_of", .glo "is_too_much", .glo "load_with", .glo "would_exceed", .glo "lies_in", .glo "met_in", .glo "enclosing", .glo "does_carry", .glo "landing", .glo "does_pass_wall"]
def fa2 : List He.Fa := [.glo "wall_ways", .glo "window_ways", .glo "links_for", .glo "linked_to", .glo "next_level", .glo "levels_from", .glo "spaces_in", .glo "reached_from", .glo "depth_of", .glo "path_to", .glo "light_sources", .glo "View", .cls "View", .mkr "View", .meth "View" "goals", .meth "View" "does_see", .glo "hands_from", .glo "is_reached", .glo "does_reach", .glo "visible_to", .glo "reachable_by", .glo "proof_of", .glo "light_path", .glo "is_path", .glo "is_closed", .glo "is_positive_proof", .glo "is_negative_proof", .glo "with_length", .glo "locate", .glo "list_contents"]
def fa3 : List He.Fa := [.glo "can_see", .glo "check_proof", .glo "is_lit", .glo "list_visible", .glo "list_reachable", .glo "get_load", .glo "up_to_common", .glo "compare_spaces", .glo "get_properties", .glo "list_windows", .glo "add_place", .glo "add_object", .glo "move_object", .glo "set_property", .glo "set_window", .glo "is_kept_back", .glo "take_object", .glo "is_held_by", .glo "does_fit", .glo "put_object", .glo "drop_object", .glo "open_or_close", .glo "is_between", .glo "is_proof_list", .glo "are_in_range", .glo "are_there", .glo "common_error", .glo "changed", .glo "asked", .glo "answer_of"]
def fa4 : List He.Fa := [.glo "list_at", .glo "answers", .noat "World" "things", .noat "World" "windows", .noat "Thing" "holder", .noat "Thing" "relation", .noat "Thing" "traits", .noat "Thing" "bulk", .noat "Thing" "capacity", .noat "View" "sight_links", .noat "View" "light_links", .noat "View" "sight_levels", .noat "View" "light_levels", .noat "View" "seen", .noat "View" "lit", .free "len", .free "sum", .free "any", .free "all", .free "list", .free "range", .free "sorted", .free "int", .free "zip", .int "CONTAINER" 1, .int "SUPPORTER" 2, .int "ACTOR" 4, .int "HINGED" 8, .int "OPENED" 16, .int "TRANSPARENT" 32]
def fa5 : List He.Fa := [.int "LUMINOUS" 64, .int "INSIDE" 1, .int "ATOP" 2, .int "HELD" 3, .int "PART" 5, .int "MOST_THINGS" 60, .int "LIGHT" 1, .int "SIGHT" 2, .int "HANDS" 3, .int "OPEN_WINDOW" 2, .int "ONE_WAY" 3, .int "LUMINOUS_NUMBER" 6, .int "MOST_IN_PROOF" 60, .int "CHECK_PROOF" 12, .glo "RANGES", .glo "OBJECT", .glo "BY_ACTORS"]
def fa : List He.Fa := fa1 ++ (fa2 ++ (fa3 ++ (fa4 ++ (fa5))))
def nm1 : List PySem.Str := ["CONTAINER", "SUPPORTER", "ACTOR", "HINGED", "OPENED", "TRANSPARENT", "LUMINOUS", "INSIDE", "ATOP", "HELD", "PART", "MOST_THINGS", "Thing", "World", "can_hold", "holders_of", "is_within", "does_count", "load_of", "is_too_much", "load_with", "would_exceed", "lies_in", "met_in", "enclosing", "does_carry", "landing", "LIGHT", "SIGHT", "HANDS"]
def nm2 : List PySem.Str := ["OPEN_WINDOW", "ONE_WAY", "does_pass_wall", "wall_ways", "window_ways", "links_for", "linked_to", "next_level", "levels_from", "spaces_in", "reached_from", "depth_of", "path_to", "light_sources", "View", "hands_from", "is_reached", "does_reach", "visible_to", "reachable_by", "proof_of", "light_path", "is_path", "is_closed", "is_positive_proof", "is_negative_proof", "with_length", "locate", "list_contents", "can_see"]
def nm3 : List PySem.Str := ["check_proof", "is_lit", "list_visible", "list_reachable", "get_load", "up_to_common", "compare_spaces", "get_properties", "list_windows", "LUMINOUS_NUMBER", "add_place", "add_object", "move_object", "set_property", "set_window", "is_kept_back", "take_object", "is_held_by", "does_fit", "put_object", "drop_object", "open_or_close", "OBJECT", "FLAG", "RELATION", "SIZE", "RANGES", "BY_ACTORS", "MOST_IN_PROOF", "is_between"]
def nm4 : List PySem.Str := ["is_proof_list", "are_in_range", "are_there", "common_error", "CHECK_PROOF", "changed", "asked", "answer_of", "list_at"]
def names : List PySem.Str := nm1 ++ (nm2 ++ (nm3 ++ (nm4)))
abbrev R : PySem.W.OpenSpec := PySem.Challenge.rw_sightnest_s01_answers
abbrev qv : Program := PySem.W.view R.prog [107]
/-! ### what the constants hold -/
def tupAt (K : PySem.W.Frag) (a : Addr) : Option (List Value) := match K.lookup a with
  | some ⟨.type c, _, .seq its _, _⟩ => if (decide (c = "tuple") && decide (its.size ≤ sizeLine)) = true then some its.toList else none
  | _ => none
def all2 {α β : Type} (f : α → β → Bool) : List α → List β → Bool
  | [], [] => true
  | a :: l, b :: m => f a b && all2 f l m
  | _, _ => false
def bndB (K : PySem.W.Frag) (u : Value) (p : Int × Int) : Bool := match u with
  | .ref b => (match tupAt K b with
    | some us => He.relAll [.int p.1, .int p.2] us
    | none => false)
  | _ => false
def rowB (K : PySem.W.Frag) (u : Value) (l : List (Int × Int)) : Bool := match u with
  | .ref r => (match tupAt K r with
    | some us => all2 (bndB K) us l
    | none => false)
  | _ => false
def intsB (K : PySem.W.Frag) (x : Str) (l : List Int) : Bool := match tupAt K (He.ga K x) with
  | some us => He.relAll (l.map V.int) us
  | none => false
def rngB (K : PySem.W.Frag) : Bool := (match tupAt K (He.ga K "RANGES") with
  | some us => all2 (rowB K) us rangesL
  | none => false) && (intsB K "OBJECT" [1, 60] && intsB K "BY_ACTORS" [5, 6, 7, 8, 11, 12, 14, 15])
/-- addresses not met yet, by a mask of those met -/
def meet (k : Nat → List Addr → List Addr) : List Addr → Nat → List Addr → List Addr
  | [], m, l => k m l
  | b :: r, m, l => bif Nat.testBit m b then meet k r m l else meet k r (m ||| (1 <<< b)) (b :: l)
def refsOf (g : Addr → Option Obj) (a : Addr) : List Addr := match g a with
  | some o => He.refsD o
  | none => []
def bfs (g : Addr → Option Obj) : Nat → Nat → List Addr → List Addr → List Addr
  | 0, _, fresh, all => all ++ fresh
  | n + 1, m, fresh, all => meet (fun m2 l => bfs g n m2 l (all ++ fresh)) (fresh.flatMap (refsOf g)) m []
/-- the objects within four steps of the module's names -/
def fr (g : Addr → Option Obj) : PySem.W.Frag := He.frG g (bfs g 4 (1 <<< mainGlobals) [mainGlobals] [])
end SgH
set_option Elab.async false
set_option linter.all false
set_option maxRecDepth 100000
set_option maxHeartbeats 0
/-! SgHb2: one run of the top. Printed by genhead.py. -/
namespace SgH
open PySem PySem.Spec PyProof.Rows L2 Sg
theorem runB (w : World) (os : OsState) : (HandSHeadRun.endF (HandSHeadRun.stepQ (HandSHeadRun.denQ HandSHeadRun.tabQ) R.prog w) 4000 R.prog w os).map (fun s => (He.obsD fa fn (fr (HandSHeadRun.getT s)), rngB (fr (HandSHeadRun.getT s)))) = some (He.valD fn, true) := by
  kernel_rfl
end SgH
set_option Elab.async false
set_option linter.all false
set_option maxRecDepth 100000
set_option maxHeartbeats 0
/-! SgHb1: one run of the top. Printed by genhead.py. -/
namespace SgH
open PySem PySem.Spec PyProof.Rows L2 Sg
theorem runA (w : World) : HandSHeadRun.RunEqS R qv PySem.W.Hook.none (fun _ => ()) 4000 names w := by
  intro os
  kernel_rfl
end SgH
set_option linter.all false
set_option maxRecDepth 10000
/-! SgE: the program's answer to a call is the specification's step. -/
namespace Sg
open Vbtaac
section
variable {w : World}
theorem step_of {k : Nat} {ns : List Int} {ls : List (List Int)} {A M V : Bool} {rest : Ans} (hA : A = (inRangeM k ns && ls.all isProofM)) (hM : A = true → M = !thereM w k ns) (hV : V = (byActor k && !hasProperty w (ns.headD 0).toNat actorBit))
    (hR : A = true → M = false → V = false → rest = opM w k (ns.map Int.toNat) ((ls.getD 0 []).map Int.toNat) ((ls.getD 1 []).map Int.toNat)) :
    (if (!A) = true then (w, [-1]) else if M = true then (w, [-2]) else if V = true then (w, [-3]) else rest) = answerM w k ns ls := by
  unfold answerM codeM
  cases a : A with
  | false =>
    have e : (!inRangeM k ns || !ls.all isProofM) = true := by rw [← Bool.not_and, ← hA, a]; rfl
    rw [if_pos e]
    rfl
  | true =>
    have e : (!inRangeM k ns || !ls.all isProofM) = false := by rw [← Bool.not_and, ← hA, a]; rfl
    rw [e, if_neg Bool.false_ne_true, if_neg (by decide)]
    have hm := hM a
    cases m : M with
    | true =>
      have t : thereM w k ns = false := by rw [m] at hm; simpa using hm.symm
      rw [if_pos t, if_pos rfl]
      rfl
    | false =>
      have t : thereM w k ns = true := by rw [m] at hm; simpa using hm.symm
      rw [t, if_neg (show ¬ false = true from Bool.false_ne_true)]
      show (if V = true then (w, [-3]) else rest) = if (if true = false then (-2 : Int) else if (byActor k && !hasProperty w (ns.headD 0).toNat actorBit) = true then -3 else 0) ≠ 0 then _ else _
      rw [← hV]
      cases v : V with
      | true => rfl
      | false => exact hR a m v
theorem step_of2 {k : Nat} {ns : List Int} {ls : List (List Int)} {A M : Bool} {rest : Ans} (hA : A = (inRangeM k ns && ls.all isProofM)) (hM : A = true → M = !thereM w k ns) (hV : byActor k = false)
    (hR : A = true → M = false → rest = opM w k (ns.map Int.toNat) ((ls.getD 0 []).map Int.toNat) ((ls.getD 1 []).map Int.toNat)) :
    (if (!A) = true then (w, [-1]) else if M = true then (w, [-2]) else rest) = answerM w k ns ls := by
  rw [← step_of (V := false) hA hM (by rw [hV]; rfl) (fun a m _ => hR a m)]
  rfl
theorem step_of1 {k : Nat} {ns : List Int} {ls : List (List Int)} {A : Bool} {rest : Ans} (hA : A = (inRangeM k ns && ls.all isProofM)) (hM : thereM w k ns = true) (hV : byActor k = false)
    (hR : A = true → rest = opM w k (ns.map Int.toNat) ((ls.getD 0 []).map Int.toNat) ((ls.getD 1 []).map Int.toNat)) :
    (if (!A) = true then (w, [-1]) else rest) = answerM w k ns ls := by
  rw [← step_of2 (M := false) hA (fun _ => by rw [hM]; rfl) hV (fun a _ => hR a)]
  rfl
theorem nat_of {n lo hi : Int} (h : btw n (lo, hi) = true) (h0 : 0 ≤ lo) : ∃ a : Nat, n = (a : Int) ∧ lo ≤ (a : Int) ∧ (a : Int) ≤ hi := by
  unfold btw at h
  rw [Bool.and_eq_true, decide_eq_true_iff, decide_eq_true_iff] at h
  have h1 : lo ≤ n := h.1
  have h2 : n ≤ hi := h.2
  exact ⟨n.toNat, by omega, by omega, by omega⟩
theorem miss1 {a : Int} (h : btw a rObj = true) : (missingObject w [a]).2 = !decide (a ≤ (objectCount w : Int)) := by
  unfold missingObject
  simp [ex_iff h]
theorem miss2 {a b : Int} (h : btw a rObj = true) (h2 : btw b rObj = true) : (missingObject w [a, b]).2 = !(decide (a ≤ (objectCount w : Int)) && decide (b ≤ (objectCount w : Int))) := by
  unfold missingObject
  simp [ex_iff h, ex_iff h2]
theorem miss3 {a b c : Int} (h : btw a rObj = true) (h2 : btw b rObj = true) (h3 : btw c rObj = true) : (missingObject w [a, b, c]).2 = !(decide (a ≤ (objectCount w : Int)) && (decide (b ≤ (objectCount w : Int)) && decide (c ≤ (objectCount w : Int)))) := by
  unfold missingObject
  simp [ex_iff h, ex_iff h2, ex_iff h3]
theorem ieq {a b : Nat} : ((a : Int) == (b : Int)) = (a == b) := by
  rw [Bool.eq_iff_iff, beq_iff_eq, beq_iff_eq]
  omega
theorem neq {a b : Nat} : (a == b) = (b == a) := by
  rw [Bool.eq_iff_iff, beq_iff_eq, beq_iff_eq]
  omega
end
end Sg
namespace Sg
open Vbtaac
section
variable {w : World}
theorem wc_miss {l : List Int} {r : List (Int × Bool)} {k : Unit → World × List Int} : withChecks w (missingObject w l :: r) k = if (missingObject w l).2 = true then (w, [-2]) else withChecks w r k := wc_cons (c := -2) (b := (missingObject w l).2)
theorem wc_act {v : Int} {r : List (Int × Bool)} {k : Unit → World × List Int} : withChecks w (notAnActor w v :: r) k = if (notAnActor w v).2 = true then (w, [-3]) else withChecks w r k := wc_cons (c := -3) (b := (notAnActor w v).2)
theorem wc_reach {v n : Int} {r : List (Int × Bool)} {k : Unit → World × List Int} : withChecks w (notReachable w v n :: r) k = if (!canReach w v.toNat n.toNat) = true then (w, [-4]) else withChecks w r k := wc_cons
theorem wc_cyc {v n : Int} {r : List (Int × Bool)} {k : Unit → World × List Int} : withChecks w (wouldBeCyclic w v n :: r) k = if (v == n || isWithin w n.toNat v.toNat) = true then (w, [-5]) else withChecks w r k := wc_cons
theorem wc_exc {v n q : Int} {r : List (Int × Bool)} {k : Unit → World × List Int} : withChecks w (exceedsCapacity w v n q :: r) k = if (!hasCapacity w n.toNat q.toNat v.toNat) = true then (w, [-6]) else withChecks w r k := wc_cons
theorem wc_held {v n : Int} {r : List (Int × Bool)} {k : Unit → World × List Int} : withChecks w (notHeld w v n :: r) k = if (!(holderOf w n.toNat == v.toNat && relationOf w n.toNat == 3)) = true then (w, [-8]) else withChecks w r k := wc_cons
theorem and4 {a b : Bool} (h : (a && b) = true) : a = true ∧ b = true := by rwa [Bool.and_eq_true] at h
theorem step_addPlace (g : Good w) (s : Int) : step w (.addPlace s) = answerM w 0 [s] [] := by
  simp only [step, wc_cons, wc_miss, wc_act, wc_reach, wc_cyc, wc_exc, wc_held, wc_nil]
  refine step_of1 (k := 0) (ns := [s]) (ls := []) ?_ rfl rfl fun a => ?_
  · simp [inRangeM, rangesM, rangesL, rFlag, rng_btw]
  obtain ⟨n, rfl, h0, h1⟩ := nat_of (lo := 0) (hi := 1) a (by decide)
  show _ = addPlaceM w n
  unfold addPlaceM
  have := g.cnt
  by_cases c : objectCount w = 60
  · rw [if_pos c, if_pos (decide_eq_true (by show 60 ≤ objectCount w; omega))]
  · rw [if_neg c, if_neg (by intro z; have z := of_decide_eq_true z; have z : 60 ≤ objectCount w := z; omega)]
    have hn : n = 0 ∨ n = 1 := by omega
    rcases hn with rfl | rfl <;> rfl
theorem step_addObject (g : Good w) (h r b k m : Int) : step w (.addObject h r b k m) = answerM w 1 [h, r, b, k, m] [] := by
  simp only [step, wc_cons, wc_miss, wc_act, wc_reach, wc_cyc, wc_exc, wc_held, wc_nil]
  refine step_of2 (k := 1) (ns := [h, r, b, k, m]) (ls := []) (M := (missingObject w [h]).2) ?_ (fun a => ?_) rfl fun a _ => ?_
  · simp [inRangeM, rangesM, rangesL, rRel, rng_btw, obj_btw, size_btw]
  · rw [miss1 (and4 a).1]
    simp [thereM, objsM, rangesM, rangesL, rObj, rRel, rSize]
  · obtain ⟨a1, a⟩ := and4 a
    obtain ⟨a2, a⟩ := and4 a
    obtain ⟨a3, a⟩ := and4 a
    obtain ⟨a4, a5⟩ := and4 a
    obtain ⟨h, rfl, _, _⟩ := nat_of a1 (by decide)
    obtain ⟨r, rfl, _, _⟩ := nat_of a2 (by decide)
    obtain ⟨b, rfl, _, _⟩ := nat_of a3 (by decide)
    obtain ⟨k, rfl, _, _⟩ := nat_of a4 (by decide)
    obtain ⟨m, rfl, _, _⟩ := nat_of a5 (by decide)
    show _ = addObjM w h r b k m
    unfold addObjM
    simp only [Int.toNat_natCast]
    have e : countsTowardLoad r = decide (r ≤ 3) := by
      unfold countsTowardLoad
      rw [Bool.eq_iff_iff]
      simp
      omega
    have := g.cnt
    rw [e, ite_neg]
    by_cases c : objectCount w = 60
    · rw [if_pos c, if_pos (decide_eq_true (show maxObjects ≤ objectCount w by rw [c]; decide))]
    · rw [if_neg c, if_neg (c := decide (maxObjects ≤ objectCount w) = true) (by intro z; have z := of_decide_eq_true z; have z : 60 ≤ objectCount w := z; omega)]
theorem step_moveObject (n h r : Int) : step w (.moveObject n h r) = answerM w 2 [n, h, r] [] := by
  simp only [step, wc_cons, wc_miss, wc_act, wc_reach, wc_cyc, wc_exc, wc_held, wc_nil]
  refine step_of2 (k := 2) (ns := [n, h, r]) (ls := []) (M := (missingObject w [n, h]).2) ?_ (fun a => ?_) rfl fun a _ => ?_
  · simp [inRangeM, rangesM, rangesL, rRel, rng_btw, obj_btw]
  · rw [miss2 (and4 a).1 (and4 (and4 a).2).1]
    simp [thereM, objsM, rangesM, rangesL, rObj, rRel]
  · obtain ⟨a1, a⟩ := and4 a
    obtain ⟨a2, a3⟩ := and4 a
    obtain ⟨n, rfl, _, _⟩ := nat_of a1 (by decide)
    obtain ⟨h, rfl, _, _⟩ := nat_of a2 (by decide)
    obtain ⟨r, rfl, _, _⟩ := nat_of a3 (by decide)
    show _ = moveM w n h r
    unfold moveM
    simp only [exceedsCapacity, wouldBeCyclic, wc_cons, wc_nil, Int.toNat_natCast, ieq, ite_neg]
    rw [neq (a := n) (b := h)]
theorem step_setProperty (n b f : Int) : step w (.setProperty n b f) = answerM w 3 [n, b, f] [] := by
  simp only [step, wc_cons, wc_miss, wc_act, wc_reach, wc_cyc, wc_exc, wc_held, wc_nil]
  refine step_of2 (k := 3) (ns := [n, b, f]) (ls := []) (M := (missingObject w [n]).2) ?_ (fun a => ?_) rfl fun a _ => ?_
  · simp [inRangeM, rangesM, rangesL, rFlag, rng_btw, obj_btw]
  · rw [miss1 (and4 a).1]
    simp [thereM, objsM, rangesM, rangesL, rObj, rFlag]
  · obtain ⟨a1, a⟩ := and4 a
    obtain ⟨a2, a3⟩ := and4 a
    obtain ⟨n, rfl, _, _⟩ := nat_of a1 (by decide)
    obtain ⟨b, rfl, _, _⟩ := nat_of a2 (by decide)
    obtain ⟨f, rfl, _, _⟩ := nat_of a3 (by decide)
    show _ = setProM w n b f
    unfold setProM
    have e : ((b : Int) != 6) = (b != 6) := by
      unfold bne
      rw [show ((b : Int) == 6) = (b == 6) from ieq (a := b) (b := 6)]
    have e2 : ((f : Int) == 1) = (f == 1) := ieq (a := f) (b := 1)
    simp only [Int.toNat_natCast, e, e2]
theorem step_setWindow (a b k : Int) : step w (.setWindow a b k) = answerM w 4 [a, b, k] [] := by
  simp only [step, wc_cons, wc_miss, wc_act, wc_reach, wc_cyc, wc_exc, wc_held, wc_nil]
  refine step_of2 (k := 4) (ns := [a, b, k]) (ls := []) (M := (missingObject w [a, b]).2) ?_ (fun a => ?_) rfl fun a _ => ?_
  · simp [inRangeM, rangesM, rangesL, rng_btw, obj_btw]
  · rw [miss2 (and4 a).1 (and4 (and4 a).2).1]
    simp [thereM, objsM, rangesM, rangesL, rObj]
  · obtain ⟨a1, a⟩ := and4 a
    obtain ⟨a2, a3⟩ := and4 a
    obtain ⟨n, rfl, _, _⟩ := nat_of a1 (by decide)
    obtain ⟨h, rfl, _, _⟩ := nat_of a2 (by decide)
    obtain ⟨r, rfl, _, _⟩ := nat_of a3 (by decide)
    show _ = setWinM w n h r
    unfold setWinM
    simp only [Int.toNat_natCast, ieq, Bool.not_and]
theorem kept_is (g : Good w) (v x : Nat) : (relationOf w x == 5 || ((relationOf w x == 3 || relationOf w x == 4) && holderOf w x != v)) = keptM w v x := by
  unfold keptM
  have h : relationOf w x ≤ 5 := by
    unfold relationOf
    cases e : objectAt w x with
    | none => exact Nat.zero_le _
    | some y => exact g.rle x y e
  rcases (by omega : relationOf w x = 5 ∨ relationOf w x = 3 ∨ relationOf w x = 4 ∨ relationOf w x < 3) with c | c | c | c
  · simp [c]
  · simp [c]
  · simp [c]
  · have e1 : (relationOf w x == 5) = false := by simp; omega
    have e2 : (relationOf w x == 3) = false := by simp; omega
    have e3 : (relationOf w x == 4) = false := by simp; omega
    have e4 : decide (3 ≤ relationOf w x) = false := by simp; omega
    rw [e1, e2, e3, e4]
    rfl
theorem step_take (g : Good w) (v x : Int) : step w (.take v x) = answerM w 5 [v, x] [] := by
  simp only [step, wc_cons, wc_miss, wc_act, wc_reach, wc_cyc, wc_exc, wc_held, wc_nil]
  refine step_of (k := 5) (ns := [v, x]) (ls := []) (M := (missingObject w [v, x]).2) (V := (notAnActor w v).2) ?_ (fun a => ?_) rfl fun a _ _ => ?_
  · simp [inRangeM, rangesM, rangesL, obj_btw]
  · rw [miss2 (and4 a).1 (and4 a).2]
    simp [thereM, objsM, rangesM, rangesL, rObj]
  · obtain ⟨a1, a2⟩ := and4 a
    obtain ⟨v, rfl, _, _⟩ := nat_of a1 (by decide)
    obtain ⟨x, rfl, _, _⟩ := nat_of a2 (by decide)
    show _ = takeM w v x
    unfold takeM
    simp only [notReachable, exceedsCapacity, wc_cons, wc_nil, Int.toNat_natCast, ieq, ite_neg, kept_is g]
    rw [neq (a := v) (b := x)]
    rfl
theorem step_put (v x h r : Int) : step w (.put v x h r) = answerM w 6 [v, x, h, r] [] := by
  simp only [step, wc_cons, wc_miss, wc_act, wc_reach, wc_cyc, wc_exc, wc_held, wc_nil]
  refine step_of (k := 6) (ns := [v, x, h, r]) (ls := []) (M := (missingObject w [v, x, h]).2) (V := (notAnActor w v).2) ?_ (fun a => ?_) rfl fun a _ _ => ?_
  · simp [inRangeM, rangesM, rangesL, obj_btw, rng_btw]
  · rw [miss3 (and4 a).1 (and4 (and4 a).2).1 (and4 (and4 (and4 a).2).2).1]
    simp [thereM, objsM, rangesM, rangesL, rObj]
  · obtain ⟨a1, a⟩ := and4 a
    obtain ⟨a2, a⟩ := and4 a
    obtain ⟨a3, a4⟩ := and4 a
    obtain ⟨v, rfl, _, _⟩ := nat_of a1 (by decide)
    obtain ⟨x, rfl, _, _⟩ := nat_of a2 (by decide)
    obtain ⟨h, rfl, _, _⟩ := nat_of a3 (by decide)
    obtain ⟨r, rfl, _, _⟩ := nat_of a4 (by decide)
    show _ = putM w v x h r
    unfold putM fitsM heldM
    have e : ((r : Int) != 1) = (r != 1) := by
      unfold bne
      rw [show ((r : Int) == 1) = (r == 1) from ieq (a := r) (b := 1)]
    simp only [notReachable, exceedsCapacity, wouldBeCyclic, notHeld, wc_cons, wc_nil, Int.toNat_natCast, ieq, ite_neg, e]
    rw [neq (a := x) (b := h)]
theorem step_drop (v x : Int) : step w (.drop v x) = answerM w 7 [v, x] [] := by
  simp only [step, wc_cons, wc_miss, wc_act, wc_reach, wc_cyc, wc_exc, wc_held, wc_nil]
  refine step_of (k := 7) (ns := [v, x]) (ls := []) (M := (missingObject w [v, x]).2) (V := (notAnActor w v).2) ?_ (fun a => ?_) rfl fun a _ _ => ?_
  · simp [inRangeM, rangesM, rangesL, obj_btw]
  · rw [miss2 (and4 a).1 (and4 a).2]
    simp [thereM, objsM, rangesM, rangesL, rObj]
  · obtain ⟨a1, a2⟩ := and4 a
    obtain ⟨v, rfl, _, _⟩ := nat_of a1 (by decide)
    obtain ⟨x, rfl, _, _⟩ := nat_of a2 (by decide)
    show _ = dropM w v x
    unfold dropM heldM
    simp only [notHeld, wc_cons, wc_nil, Int.toNat_natCast, ite_neg]
theorem step_openOrClose (v n f : Int) : step w (.openOrClose v n f) = answerM w 8 [v, n, f] [] := by
  simp only [step, wc_cons, wc_miss, wc_act, wc_reach, wc_cyc, wc_exc, wc_held, wc_nil]
  refine step_of (k := 8) (ns := [v, n, f]) (ls := []) (M := (missingObject w [v, n]).2) (V := (notAnActor w v).2) ?_ (fun a => ?_) rfl fun a _ _ => ?_
  · simp [inRangeM, rangesM, rangesL, rFlag, obj_btw, rng_btw]
  · rw [miss2 (and4 a).1 (and4 (and4 a).2).1]
    simp [thereM, objsM, rangesM, rangesL, rObj, rFlag]
  · obtain ⟨a1, a⟩ := and4 a
    obtain ⟨a2, a3⟩ := and4 a
    obtain ⟨v, rfl, _, _⟩ := nat_of a1 (by decide)
    obtain ⟨n, rfl, _, _⟩ := nat_of a2 (by decide)
    obtain ⟨f, rfl, _, _⟩ := nat_of a3 (by decide)
    show _ = openM w v n f
    unfold openM
    have e2 : ((f : Int) == 1) = (f == 1) := ieq (a := f) (b := 1)
    simp only [notReachable, wc_cons, wc_nil, Int.toNat_natCast, ite_neg, e2]
theorem step_locate (n : Int) : step w (.locate n) = answerM w 9 [n] [] := by
  simp only [step, wc_cons, wc_miss, wc_act, wc_reach, wc_cyc, wc_exc, wc_held, wc_nil]
  refine step_of2 (k := 9) (ns := [n]) (ls := []) (M := (missingObject w [n]).2) ?_ (fun a => ?_) rfl fun a _ => ?_
  · simp [inRangeM, rangesM, rangesL, obj_btw]
  · rw [miss1 a]
    simp [thereM, objsM, rangesM, rangesL, rObj]
  · rfl
theorem step_listContents (n : Int) : step w (.listContents n) = answerM w 10 [n] [] := by
  simp only [step, wc_cons, wc_miss, wc_act, wc_reach, wc_cyc, wc_exc, wc_held, wc_nil]
  refine step_of2 (k := 10) (ns := [n]) (ls := []) (M := (missingObject w [n]).2) ?_ (fun a => ?_) rfl fun a _ => ?_
  · simp [inRangeM, rangesM, rangesL, obj_btw]
  · rw [miss1 a]
    simp [thereM, objsM, rangesM, rangesL, rObj]
  · rfl
theorem step_canSee (v x : Int) : step w (.canSee v x) = answerM w 11 [v, x] [] := by
  simp only [step, wc_cons, wc_miss, wc_act, wc_reach, wc_cyc, wc_exc, wc_held, wc_nil]
  refine step_of (k := 11) (ns := [v, x]) (ls := []) (M := (missingObject w [v, x]).2) (V := (notAnActor w v).2) ?_ (fun a => ?_) rfl fun a _ _ => ?_
  · simp [inRangeM, rangesM, rangesL, obj_btw]
  · rw [miss2 (and4 a).1 (and4 a).2]
    simp [thereM, objsM, rangesM, rangesL, rObj]
  · rfl
theorem step_checkProof (v x y : Int) (p q : List Int) : step w (.checkProof v x y p q) = answerM w 12 [v, x, y] [p, q] := by
  simp only [step, wc_cons, wc_miss, wc_act, wc_reach, wc_cyc, wc_exc, wc_held, wc_nil]
  refine step_of (k := 12) (ns := [v, x, y]) (ls := [p, q]) (M := (missingObject w [v, x]).2) (V := (notAnActor w v).2) ?_ (fun a => ?_) rfl fun a _ _ => ?_
  · simp [inRangeM, rangesM, rangesL, rFlag, obj_btw, rng_btw, isProofM]
    have e : ∀ l : List Int, l.all isObjectArgument = l.all fun n => btw n rObj := fun _ => rfl
    rw [e, e]
    cases btw v rObj <;> cases btw x rObj <;> cases btw y (0, 1) <;> cases p.all (fun n => btw n rObj) <;> cases q.all (fun n => btw n rObj) <;> simp
  · rw [miss2 (and4 a).1 (and4 (and4 a).2).1]
    simp [thereM, objsM, rangesM, rangesL, rObj, rFlag]
  · obtain ⟨a1, a⟩ := and4 a
    obtain ⟨a2, a⟩ := and4 a
    obtain ⟨a3, a⟩ := and4 a
    obtain ⟨y, rfl, _, _⟩ := nat_of a3 (by decide)
    show (w, [0, boolToInt (acceptsProof w v.toNat x.toNat ((y : Int) == 1) (p.map Int.toNat) (q.map Int.toNat))]) = (w, checkM w v.toNat x.toNat y (p.map Int.toNat) (q.map Int.toNat))
    unfold checkM
    rw [show ((y : Int) == 1) = (y == 1) from ieq (a := y) (b := 1)]
theorem step_isLit (n : Int) : step w (.isLit n) = answerM w 13 [n] [] := by
  simp only [step, wc_cons, wc_miss, wc_act, wc_reach, wc_cyc, wc_exc, wc_held, wc_nil]
  refine step_of2 (k := 13) (ns := [n]) (ls := []) (M := (missingObject w [n]).2) ?_ (fun a => ?_) rfl fun a _ => ?_
  · simp [inRangeM, rangesM, rangesL, obj_btw]
  · rw [miss1 a]
    simp [thereM, objsM, rangesM, rangesL, rObj]
  · show _ = (w, isLitM w n.toNat)
    unfold isLitM
    rw [ite_neg]
    split <;> rfl
theorem step_listVisible (n : Int) : step w (.listVisible n) = answerM w 14 [n] [] := by
  simp only [step, wc_cons, wc_miss, wc_act, wc_reach, wc_cyc, wc_exc, wc_held, wc_nil]
  refine step_of (k := 14) (ns := [n]) (ls := []) (M := (missingObject w [n]).2) (V := (notAnActor w n).2) ?_ (fun a => ?_) rfl fun a _ _ => ?_
  · simp [inRangeM, rangesM, rangesL, obj_btw]
  · rw [miss1 a]
    simp [thereM, objsM, rangesM, rangesL, rObj]
  · rfl
theorem step_listReachable (n : Int) : step w (.listReachable n) = answerM w 15 [n] [] := by
  simp only [step, wc_cons, wc_miss, wc_act, wc_reach, wc_cyc, wc_exc, wc_held, wc_nil]
  refine step_of (k := 15) (ns := [n]) (ls := []) (M := (missingObject w [n]).2) (V := (notAnActor w n).2) ?_ (fun a => ?_) rfl fun a _ _ => ?_
  · simp [inRangeM, rangesM, rangesL, obj_btw]
  · rw [miss1 a]
    simp [thereM, objsM, rangesM, rangesL, rObj]
  · rfl
theorem step_getLoad (n : Int) : step w (.getLoad n) = answerM w 16 [n] [] := by
  simp only [step, wc_cons, wc_miss, wc_act, wc_reach, wc_cyc, wc_exc, wc_held, wc_nil]
  refine step_of2 (k := 16) (ns := [n]) (ls := []) (M := (missingObject w [n]).2) ?_ (fun a => ?_) rfl fun a _ => ?_
  · simp [inRangeM, rangesM, rangesL, obj_btw]
  · rw [miss1 a]
    simp [thereM, objsM, rangesM, rangesL, rObj]
  · rfl
theorem step_compareSpaces (v x : Int) : step w (.compareSpaces v x) = answerM w 17 [v, x] [] := by
  simp only [step, wc_cons, wc_miss, wc_act, wc_reach, wc_cyc, wc_exc, wc_held, wc_nil]
  refine step_of2 (k := 17) (ns := [v, x]) (ls := []) (M := (missingObject w [v, x]).2) ?_ (fun a => ?_) rfl fun a _ => ?_
  · simp [inRangeM, rangesM, rangesL, obj_btw]
  · rw [miss2 (and4 a).1 (and4 a).2]
    simp [thereM, objsM, rangesM, rangesL, rObj]
  · rfl
theorem step_getProperties (n : Int) : step w (.getProperties n) = answerM w 18 [n] [] := by
  simp only [step, wc_cons, wc_miss, wc_act, wc_reach, wc_cyc, wc_exc, wc_held, wc_nil]
  refine step_of2 (k := 18) (ns := [n]) (ls := []) (M := (missingObject w [n]).2) ?_ (fun a => ?_) rfl fun a _ => ?_
  · simp [inRangeM, rangesM, rangesL, obj_btw]
  · rw [miss1 a]
    simp [thereM, objsM, rangesM, rangesL, rObj]
  · show _ = (w, propsM w n.toNat)
    unfold propsM
    cases objectAt w n.toNat <;> rfl
theorem step_listWindows : step w .listWindows = answerM w 19 [] [] := rfl
end
end Sg
set_option linter.all false
set_option maxRecDepth 10000
/-! SgF: what is known of a call's numbers behind the checks; the whole play. -/
namespace Sg
open Vbtaac

def okM (w : World) : Nat → List Nat → Prop
  | 0, [f] => f ≤ 1
  | 1, [h, r, b, k, m] => ex w h ∧ (1 ≤ r ∧ r ≤ 5) ∧ b ≤ 127 ∧ k ≤ 1000000 ∧ m ≤ 1000000
  | 2, [n, h, r] => ex w n ∧ ex w h ∧ 1 ≤ r ∧ r ≤ 5
  | 3, [n, b, f] => ex w n ∧ (3 ≤ b ∧ b ≤ 6) ∧ f ≤ 1
  | 4, [a, b, k] => ex w a ∧ ex w b ∧ k ≤ 3
  | 5, [v, x] => ex w v ∧ ex w x
  | 6, [v, x, h, r] => ex w v ∧ ex w x ∧ ex w h ∧ 1 ≤ r ∧ r ≤ 2
  | 7, [v, x] => ex w v ∧ ex w x
  | 8, [v, n, f] => ex w v ∧ ex w n ∧ f ≤ 1
  | 9, [n] => ex w n
  | 10, [h] => ex w h
  | 11, [v, x] => ex w v ∧ ex w x
  | 12, [v, x, y] => ex w v ∧ ex w x ∧ y ≤ 1
  | 13, [h] => ex w h
  | 14, [v] => ex w v
  | 15, [v] => ex w v
  | 16, [h] => ex w h
  | 17, [a, b] => ex w a ∧ ex w b
  | 18, [n] => ex w n
  | 19, [] => True
  | _, _ => False
def actorM (w : World) (k : Nat) (ms : List Nat) : Prop := byActor k = true → hasProperty w (ms.headD 0) actorBit = true

theorem lst1 {α : Type} {l : List α} (h : l.length = 1) : ∃ a, l = [a] := by
  match l, h with
  | [a], _ => exact ⟨a, rfl⟩
theorem lst2 {α : Type} {l : List α} (h : l.length = 2) : ∃ a b, l = [a, b] := by
  match l, h with
  | [a, b], _ => exact ⟨a, b, rfl⟩
theorem lst3 {α : Type} {l : List α} (h : l.length = 3) : ∃ a b c, l = [a, b, c] := by
  match l, h with
  | [a, b, c], _ => exact ⟨a, b, c, rfl⟩
theorem lst4 {α : Type} {l : List α} (h : l.length = 4) : ∃ a b c d, l = [a, b, c, d] := by
  match l, h with
  | [a, b, c, d], _ => exact ⟨a, b, c, d, rfl⟩
theorem lst5 {α : Type} {l : List α} (h : l.length = 5) : ∃ a b c d e, l = [a, b, c, d, e] := by
  match l, h with
  | [a, b, c, d, e], _ => exact ⟨a, b, c, d, e, rfl⟩
theorem proof_of {l : List Int} (h : isProofM l = true) : ∃ ps : List Nat, l = ofN ps ∧ ps.length ≤ 60 ∧ (∀ x ∈ ps, 1 ≤ x ∧ x ≤ 60) ∧ l.map Int.toNat = ps := by
  unfold isProofM at h
  rw [Bool.and_eq_true, decide_eq_true_iff, List.all_eq_true] at h
  obtain ⟨h1, h2⟩ := h
  have e : ofN (l.map Int.toNat) = l := by
    show (l.map Int.toNat).map Int.ofNat = l
    rw [List.map_map]
    refine (List.map_congr_left fun x hx => ?_).trans (List.map_id l)
    have := h2 x hx
    obtain ⟨a, rfl, _, _⟩ := nat_of (h2 x hx) (by decide)
    rfl
  refine ⟨l.map Int.toNat, e.symm, by rw [List.length_map]; exact h1, fun x hx => ?_, rfl⟩
  obtain ⟨y, hy, rfl⟩ := List.mem_map.mp hx
  obtain ⟨a, rfl, h3, h4⟩ := nat_of (h2 y hy) (by decide)
  simp only [Int.toNat_natCast]
  omega
section
variable {w : World}
theorem code0 {k : Nat} {ns : List Int} {ls : List (List Int)} (h : codeM w k ns ls = 0) : inRangeM k ns = true ∧ ls.all isProofM = true ∧ thereM w k ns = true ∧ (byActor k = true → hasProperty w (ns.headD 0).toNat actorBit = true) := by
  unfold codeM at h
  split at h
  · cases h
  · rename_i h1
    split at h
    · cases h
    · rename_i h2
      split at h
      · cases h
      · rename_i h3
        have e1 : inRangeM k ns = true ∧ ls.all isProofM = true := by
          cases a : inRangeM k ns <;> cases b : ls.all isProofM <;> simp [a, b] at h1 ⊢
        refine ⟨e1.1, e1.2, by simpa using h2, fun q => ?_⟩
        rw [q] at h3
        simpa using h3
theorem all1 {a : Int} {x : Int × Int} (h : (([a].zip [x]).all fun p => btw p.1 p.2) = true) : btw a x = true := by simpa using h
theorem code_ok {k : Nat} {ns : List Int} {ls : List (List Int)} (hk : k < 20) (hl : ns.length = (rangesM k).length) (h : codeM w k ns ls = 0) : ∃ ms, ns = ofN ms ∧ ns.map Int.toNat = ms ∧ okM w k ms ∧ actorM w k ms := by
  obtain ⟨h1, _, h2, h3⟩ := code0 h
  have key : ∃ ms, ns = ofN ms ∧ okM w k ms := by
    rcases (by omega : k = 0 ∨ k = 1 ∨ k = 2 ∨ k = 3 ∨ k = 4 ∨ k = 5 ∨ k = 6 ∨ k = 7 ∨ k = 8 ∨ k = 9 ∨ k = 10 ∨ k = 11 ∨ k = 12 ∨ k = 13 ∨ k = 14 ∨ k = 15 ∨ k = 16 ∨ k = 17 ∨ k = 18 ∨ k = 19) with
      rfl | rfl | rfl | rfl | rfl | rfl | rfl | rfl | rfl | rfl | rfl | rfl | rfl | rfl | rfl | rfl | rfl | rfl | rfl | rfl
    · obtain ⟨a, rfl⟩ := lst1 hl
      simp [inRangeM, rangesM, rangesL, btw, rObj, rFlag, rRel, rSize] at h1
      exact ⟨[a.toNat], by simp; omega, by show a.toNat ≤ 1; omega⟩
    · obtain ⟨a, b, c, d, e, rfl⟩ := lst5 hl
      simp [inRangeM, rangesM, rangesL, btw, rObj, rFlag, rRel, rSize] at h1
      simp [thereM, objsM, rangesM, rangesL, rObj, rFlag, rRel, rSize] at h2
      refine ⟨[a.toNat, b.toNat, c.toNat, d.toNat, e.toNat], by simp; omega, ?_⟩
      show ex w a.toNat ∧ (1 ≤ b.toNat ∧ b.toNat ≤ 5) ∧ c.toNat ≤ 127 ∧ d.toNat ≤ 1000000 ∧ e.toNat ≤ 1000000
      unfold ex
      omega
    · obtain ⟨a, b, c, rfl⟩ := lst3 hl
      simp [inRangeM, rangesM, rangesL, btw, rObj, rFlag, rRel, rSize] at h1
      simp [thereM, objsM, rangesM, rangesL, rObj, rFlag, rRel, rSize] at h2
      refine ⟨[a.toNat, b.toNat, c.toNat], by simp; omega, ?_⟩
      show ex w a.toNat ∧ ex w b.toNat ∧ 1 ≤ c.toNat ∧ c.toNat ≤ 5
      unfold ex
      omega
    · obtain ⟨a, b, c, rfl⟩ := lst3 hl
      simp [inRangeM, rangesM, rangesL, btw, rObj, rFlag, rRel, rSize] at h1
      simp [thereM, objsM, rangesM, rangesL, rObj, rFlag, rRel, rSize] at h2
      refine ⟨[a.toNat, b.toNat, c.toNat], by simp; omega, ?_⟩
      show ex w a.toNat ∧ (3 ≤ b.toNat ∧ b.toNat ≤ 6) ∧ c.toNat ≤ 1
      unfold ex
      omega
    · obtain ⟨a, b, c, rfl⟩ := lst3 hl
      simp [inRangeM, rangesM, rangesL, btw, rObj, rFlag, rRel, rSize] at h1
      simp [thereM, objsM, rangesM, rangesL, rObj, rFlag, rRel, rSize] at h2
      refine ⟨[a.toNat, b.toNat, c.toNat], by simp; omega, ?_⟩
      show ex w a.toNat ∧ ex w b.toNat ∧ c.toNat ≤ 3
      unfold ex
      omega
    · obtain ⟨a, b, rfl⟩ := lst2 hl
      simp [inRangeM, rangesM, rangesL, btw, rObj, rFlag, rRel, rSize] at h1
      simp [thereM, objsM, rangesM, rangesL, rObj, rFlag, rRel, rSize] at h2
      refine ⟨[a.toNat, b.toNat], by simp; omega, ?_⟩
      show ex w a.toNat ∧ ex w b.toNat
      unfold ex
      omega
    · obtain ⟨a, b, c, d, rfl⟩ := lst4 hl
      simp [inRangeM, rangesM, rangesL, btw, rObj, rFlag, rRel, rSize] at h1
      simp [thereM, objsM, rangesM, rangesL, rObj, rFlag, rRel, rSize] at h2
      refine ⟨[a.toNat, b.toNat, c.toNat, d.toNat], by simp; omega, ?_⟩
      show ex w a.toNat ∧ ex w b.toNat ∧ ex w c.toNat ∧ 1 ≤ d.toNat ∧ d.toNat ≤ 2
      unfold ex
      omega
    · obtain ⟨a, b, rfl⟩ := lst2 hl
      simp [inRangeM, rangesM, rangesL, btw, rObj, rFlag, rRel, rSize] at h1
      simp [thereM, objsM, rangesM, rangesL, rObj, rFlag, rRel, rSize] at h2
      refine ⟨[a.toNat, b.toNat], by simp; omega, ?_⟩
      show ex w a.toNat ∧ ex w b.toNat
      unfold ex
      omega
    · obtain ⟨a, b, c, rfl⟩ := lst3 hl
      simp [inRangeM, rangesM, rangesL, btw, rObj, rFlag, rRel, rSize] at h1
      simp [thereM, objsM, rangesM, rangesL, rObj, rFlag, rRel, rSize] at h2
      refine ⟨[a.toNat, b.toNat, c.toNat], by simp; omega, ?_⟩
      show ex w a.toNat ∧ ex w b.toNat ∧ c.toNat ≤ 1
      unfold ex
      omega
    · obtain ⟨a, rfl⟩ := lst1 hl
      simp [inRangeM, rangesM, rangesL, btw, rObj, rFlag, rRel, rSize] at h1
      simp [thereM, objsM, rangesM, rangesL, rObj, rFlag, rRel, rSize] at h2
      exact ⟨[a.toNat], by simp; omega, by show ex w a.toNat; unfold ex; omega⟩
    · obtain ⟨a, rfl⟩ := lst1 hl
      simp [inRangeM, rangesM, rangesL, btw, rObj, rFlag, rRel, rSize] at h1
      simp [thereM, objsM, rangesM, rangesL, rObj, rFlag, rRel, rSize] at h2
      exact ⟨[a.toNat], by simp; omega, by show ex w a.toNat; unfold ex; omega⟩
    · obtain ⟨a, b, rfl⟩ := lst2 hl
      simp [inRangeM, rangesM, rangesL, btw, rObj, rFlag, rRel, rSize] at h1
      simp [thereM, objsM, rangesM, rangesL, rObj, rFlag, rRel, rSize] at h2
      refine ⟨[a.toNat, b.toNat], by simp; omega, ?_⟩
      show ex w a.toNat ∧ ex w b.toNat
      unfold ex
      omega
    · obtain ⟨a, b, c, rfl⟩ := lst3 hl
      simp [inRangeM, rangesM, rangesL, btw, rObj, rFlag, rRel, rSize] at h1
      simp [thereM, objsM, rangesM, rangesL, rObj, rFlag, rRel, rSize] at h2
      refine ⟨[a.toNat, b.toNat, c.toNat], by simp; omega, ?_⟩
      show ex w a.toNat ∧ ex w b.toNat ∧ c.toNat ≤ 1
      unfold ex
      omega
    · obtain ⟨a, rfl⟩ := lst1 hl
      simp [inRangeM, rangesM, rangesL, btw, rObj, rFlag, rRel, rSize] at h1
      simp [thereM, objsM, rangesM, rangesL, rObj, rFlag, rRel, rSize] at h2
      exact ⟨[a.toNat], by simp; omega, by show ex w a.toNat; unfold ex; omega⟩
    · obtain ⟨a, rfl⟩ := lst1 hl
      simp [inRangeM, rangesM, rangesL, btw, rObj, rFlag, rRel, rSize] at h1
      simp [thereM, objsM, rangesM, rangesL, rObj, rFlag, rRel, rSize] at h2
      exact ⟨[a.toNat], by simp; omega, by show ex w a.toNat; unfold ex; omega⟩
    · obtain ⟨a, rfl⟩ := lst1 hl
      simp [inRangeM, rangesM, rangesL, btw, rObj, rFlag, rRel, rSize] at h1
      simp [thereM, objsM, rangesM, rangesL, rObj, rFlag, rRel, rSize] at h2
      exact ⟨[a.toNat], by simp; omega, by show ex w a.toNat; unfold ex; omega⟩
    · obtain ⟨a, rfl⟩ := lst1 hl
      simp [inRangeM, rangesM, rangesL, btw, rObj, rFlag, rRel, rSize] at h1
      simp [thereM, objsM, rangesM, rangesL, rObj, rFlag, rRel, rSize] at h2
      exact ⟨[a.toNat], by simp; omega, by show ex w a.toNat; unfold ex; omega⟩
    · obtain ⟨a, b, rfl⟩ := lst2 hl
      simp [inRangeM, rangesM, rangesL, btw, rObj, rFlag, rRel, rSize] at h1
      simp [thereM, objsM, rangesM, rangesL, rObj, rFlag, rRel, rSize] at h2
      refine ⟨[a.toNat, b.toNat], by simp; omega, ?_⟩
      show ex w a.toNat ∧ ex w b.toNat
      unfold ex
      omega
    · obtain ⟨a, rfl⟩ := lst1 hl
      simp [inRangeM, rangesM, rangesL, btw, rObj, rFlag, rRel, rSize] at h1
      simp [thereM, objsM, rangesM, rangesL, rObj, rFlag, rRel, rSize] at h2
      exact ⟨[a.toNat], by simp; omega, by show ex w a.toNat; unfold ex; omega⟩
    · have e : ns = [] := List.eq_nil_of_length_eq_zero hl
      subst e
      exact ⟨[], rfl, trivial⟩
  obtain ⟨ms, rfl, ok⟩ := key
  have e : (ofN ms).map Int.toNat = ms := by
    show (ms.map Int.ofNat).map Int.toNat = ms
    rw [List.map_map]
    exact (List.map_congr_left fun x _ => rfl).trans (List.map_id ms)
  refine ⟨ms, rfl, e, ok, fun q => ?_⟩
  have := h3 q
  cases ms with
  | nil => exact this
  | cons a r => exact this
theorem cap_iff {b : Bool} : ¬ b = false ↔ b = true := by cases b <;> simp
theorem can1 {h r : Nat} (hc : canHold w h r = true) (e : r = 1) : isSpace w h = true := by
  unfold canHold at hc
  rw [if_pos e] at hc
  exact hc
theorem drop_ok (g : Good w) : ∀ (n : Nat), ex w n → ex w (dropTarget w maxObjects n).1 ∧ (1 ≤ (dropTarget w maxObjects n).2 ∧ (dropTarget w maxObjects n).2 ≤ 2) ∧ ((dropTarget w maxObjects n).2 = 1 → isSpace w (dropTarget w maxObjects n).1 = true) ∧
    ((dropTarget w maxObjects n).1 = n ∨ isWithin w n (dropTarget w maxObjects n).1 = true) := by
  obtain ⟨rk, R⟩ := g.rank'
  have key : ∀ k n, rk n < k → ex w n → ex w (dropTarget w maxObjects n).1 ∧ (1 ≤ (dropTarget w maxObjects n).2 ∧ (dropTarget w maxObjects n).2 ≤ 2) ∧ ((dropTarget w maxObjects n).2 = 1 → isSpace w (dropTarget w maxObjects n).1 = true) ∧
      ((dropTarget w maxObjects n).1 = n ∨ isWithin w n (dropTarget w maxObjects n).1 = true) := by
    intro k
    induction k with
    | zero => intro n h; exact absurd h (Nat.not_lt_zero _)
    | succ k ih =>
      intro n hk he
      rw [drp_step g he.1 he.2]
      by_cases h0 : relationOf w n = 0
      · rw [if_pos h0]
        refine ⟨he, ⟨Nat.le_refl _, by show 1 ≤ 2; omega⟩, fun _ => ?_, .inl rfl⟩
        show isSpace w n = true
        unfold isSpace
        rw [isPlace_rel he.1 he.2]
        simp [h0]
      · rw [if_neg h0]
        have h0' : holderOf w n ≠ 0 := fun z => h0 ((g.rel0 he.1 he.2).mp z)
        have hh := g.holder_ok h0'
        have hw : isWithin w n (holderOf w n) = true := by
          rw [isWithin_mem, anc_step g h0']
          exact List.mem_cons_self
        by_cases h3 : relationOf w n = 1 ∨ relationOf w n = 2
        · rw [if_pos h3]
          refine ⟨hh, ⟨by show 1 ≤ relationOf w n; omega, by show relationOf w n ≤ 2; omega⟩, fun e => ?_, .inr hw⟩
          obtain ⟨x, hx⟩ := at_of he.1 he.2
          have e : relationOf w n = 1 := e
          show isSpace w (holderOf w n) = true
          rw [holder_at hx]
          rw [relation_at hx] at e
          exact g.sp n x hx e
        · rw [if_neg h3]
          obtain ⟨i1, i2, i3, i4⟩ := ih (holderOf w n) (by have := R.dec n h0'; omega) hh
          refine ⟨i1, i2, i3, .inr ?_⟩
          rcases i4 with e | e
          · rw [e]; exact hw
          · rw [isWithin_mem, anc_step g h0']
            exact List.mem_cons_of_mem _ (isWithin_mem.mp e)
  exact fun n => key (rk n + 1) n (Nat.lt_succ_self _)
theorem within_trans (g : Good w) : ∀ {a b c : Nat}, isWithin w a b = true → isWithin w b c = true → isWithin w a c = true := by
  obtain ⟨rk, R⟩ := g.rank'
  have key : ∀ k a b c, rk a < k → isWithin w a b = true → isWithin w b c = true → isWithin w a c = true := by
    intro k
    induction k with
    | zero => intro a b c h; exact absurd h (Nat.not_lt_zero _)
    | succ k ih =>
      intro a b c hk h1 h2
      have h0 : holderOf w a ≠ 0 := fun z => by
        rw [isWithin_mem, anc_zero g z] at h1
        cases h1
      have hd := R.dec a h0
      rw [isWithin_mem, anc_step g h0] at h1 ⊢
      refine List.mem_cons_of_mem _ ?_
      rcases List.mem_cons.mp h1 with e | h1
      · rw [← e]; exact isWithin_mem.mp h2
      · exact isWithin_mem.mp (ih _ b c (by omega) (isWithin_mem.mpr h1) h2)
  exact fun {a b c} => key (rk a + 1) a b c (Nat.lt_succ_self _)
theorem within_irr (g : Good w) {a : Nat} : isWithin w a a = false := by
  obtain ⟨rk, R⟩ := g.rank'
  have key : ∀ k a b, rk a < k → isWithin w a b = true → rk b < rk a := by
    intro k
    induction k with
    | zero => intro a b h; exact absurd h (Nat.not_lt_zero _)
    | succ k ih =>
      intro a b hk h1
      have h0 : holderOf w a ≠ 0 := fun z => by
        rw [isWithin_mem, anc_zero g z] at h1
        cases h1
      have hd := R.dec a h0
      rw [isWithin_mem, anc_step g h0] at h1
      rcases List.mem_cons.mp h1 with e | h1
      · rw [e]; exact hd
      · have := ih _ b (by omega) (isWithin_mem.mpr h1)
        omega
  cases e : isWithin w a a with
  | false => rfl
  | true => exact absurd (key _ a a (Nat.lt_succ_self _) e) (Nat.lt_irrefl _)
theorem good_op (g : Good w) {k : Nat} {ms p q : List Nat} (h : okM w k ms) : Good (opM w k ms p q).1 := by
  unfold okM at h
  split at h
  · show Good (addPlaceM w _).1
    unfold addPlaceM
    split
    · exact g
    · rename_i c
      have := g.cnt
      exact good_add g (by omega) (Nat.zero_le _) ⟨fun _ => rfl, fun _ => rfl⟩ (Nat.zero_le _) (fun z => by cases z)
  · obtain ⟨h1, ⟨h2, h3⟩, _⟩ := h
    show Good (addObjM w _ _ _ _ _).1
    unfold addObjM
    split
    · exact g
    · split
      · exact g
      · split
        · exact g
        · rename_i c1 c2 c3
          have := g.cnt
          have hh := h1.1
          exact good_add g (by omega) h1.2 ⟨fun z => absurd z (Nat.pos_iff_ne_zero.mp hh), fun z => absurd z (Nat.pos_iff_ne_zero.mp h2)⟩ h3 (fun e => can1 (cap_iff.mp c3) e)
  · obtain ⟨h1, h2, h3, h4⟩ := h
    show Good (moveM w _ _ _).1
    unfold moveM
    split
    · exact g
    · split
      · exact g
      · split
        · exact g
        · rename_i c1 c2 c3
          have c1' := (Bool.not_eq_true _).mp c1
          rw [Bool.or_eq_false_iff] at c1'
          exact good_move g h1 h2 c1'.1 h3 h4 (fun e => can1 (cap_iff.mp c3) e) c1'.2
  · obtain ⟨h1, ⟨h2, h3⟩, _⟩ := h
    show Good (setProM w _ _ _).1
    unfold setProM
    split
    · exact g
    · exact good_props g h1 (f := fun p => setProperty p _ _) fun b => setProp_bit (by show ¬ _ = 0; omega)
  · obtain ⟨h1, h2, h3⟩ := h
    show Good (setWinM w _ _ _).1
    unfold setWinM
    split
    · exact g
    · split
      · exact g
      · rename_i c
        have c' := (Bool.not_eq_true _).mp c
        rw [Bool.or_eq_false_iff, Bool.not_eq_false', Bool.not_eq_false'] at c'
        exact good_window g c'.1 c'.2 h3
  · obtain ⟨h1, h2⟩ := h
    show Good (takeM w _ _).1
    unfold takeM
    split
    · exact g
    · split
      · exact g
      · split
        · exact g
        · split
          · exact g
          · rename_i c1 _ _
            have c1' := (Bool.not_eq_true _).mp c1
            rw [Bool.or_eq_false_iff] at c1'
            refine good_move g h2 h1 c1'.1 (by decide) (by decide) (fun e => by cases e) ?_
            unfold under
            rw [neq]
            exact c1'.2
  · obtain ⟨h1, h2, h3, h4, h5⟩ := h
    show Good (putM w _ _ _ _).1
    unfold putM
    split
    · exact g
    · split
      · exact g
      · split
        · exact g
        · split
          · exact g
          · split
            · exact g
            · rename_i c1 _ c3 c4
              have c1' := (Bool.not_eq_true _).mp c1
              have c3' := cap_iff.mp c3
              have c4' := cap_iff.mp c4
              unfold heldM at c3'
              rw [Bool.and_eq_true, beq_iff_eq, beq_iff_eq] at c3'
              unfold fitsM at c4'
              rw [Bool.and_eq_true] at c4'
              refine good_move g h2 h3 ?_ h4 (by omega) (fun e => can1 c4'.1 e) c1'
              rw [isPlace_rel h2.1 h2.2, c3'.2]
              rfl
  · obtain ⟨h1, h2⟩ := h
    show Good (dropM w _ _).1
    unfold dropM
    simp only []
    split
    · exact g
    · split
      · exact g
      · rename_i v x _ c
        have c' := cap_iff.mp c
        unfold heldM at c'
        rw [Bool.and_eq_true, beq_iff_eq, beq_iff_eq] at c'
        obtain ⟨d1, ⟨d2, d3⟩, d4, d5⟩ := drop_ok g v h1
        refine good_move g h2 d1 ?_ d2 (by omega) d4 ?_
        · rw [isPlace_rel h2.1 h2.2, c'.2]
          rfl
        · have hx : isWithin w x v = true := by
            have h0 : holderOf w x ≠ 0 := by rw [c'.1]; have := h1.1; omega
            rw [isWithin_mem, anc_step g h0, c'.1]
            exact List.mem_cons_self
          have hxd : isWithin w x (dropTarget w maxObjects v).1 = true := by
            rcases d5 with e | e
            · rw [e]; exact hx
            · exact within_trans g hx e
          unfold under
          rw [Bool.or_eq_false_iff]
          constructor
          · cases e : (dropTarget w maxObjects v).1 == x with
            | false => rfl
            | true =>
              rw [beq_iff_eq] at e
              rw [e, within_irr g] at hxd
              cases hxd
          · cases e : isWithin w (dropTarget w maxObjects v).1 x with
            | false => rfl
            | true =>
              have := within_trans g hxd e
              rw [within_irr g] at this
              cases this
  · obtain ⟨h1, h2, _⟩ := h
    show Good (openM w _ _ _).1
    unfold openM
    split
    · exact g
    · split
      · exact g
      · split
        · exact g
        · exact good_props g h2 (f := fun p => setProperty p _ _) fun b => setProp_bit (by decide)
  all_goals first | exact g | exact h.elim
theorem good_answer (g : Good w) {k : Nat} {ns : List Int} {ls : List (List Int)} (hk : k < 20) (hl : ns.length = (rangesM k).length) : Good (answerM w k ns ls).1 := by
  unfold answerM
  split
  · exact g
  · rename_i c
    have c' : codeM w k ns ls = 0 := Decidable.not_not.mp c
    obtain ⟨ms, _, e, ok, _⟩ := code_ok hk hl c'
    rw [e]
    exact good_op g ok
end
end Sg
set_option linter.all false
set_option maxRecDepth 10000
/-! SgQ: the calls one behind another, no program in sight. -/
namespace Sg
open Vbtaac

theorem shape_at {k : Nat} (hk : k < 20) : PyVbtaac.shape (k : Int) = some ((rangesM k).length, if k = 12 then 2 else 0) := by
  rcases (by omega : k = 0 ∨ k = 1 ∨ k = 2 ∨ k = 3 ∨ k = 4 ∨ k = 5 ∨ k = 6 ∨ k = 7 ∨ k = 8 ∨ k = 9 ∨ k = 10 ∨ k = 11 ∨ k = 12 ∨ k = 13 ∨ k = 14 ∨ k = 15 ∨ k = 16 ∨ k = 17 ∨ k = 18 ∨ k = 19) with
    rfl | rfl | rfl | rfl | rfl | rfl | rfl | rfl | rfl | rfl | rfl | rfl | rfl | rfl | rfl | rfl | rfl | rfl | rfl | rfl <;> rfl
theorem shape_some {p : Int} {q : Nat × Nat} (h : PyVbtaac.shape p = some q) : ∃ k : Nat, k < 20 ∧ p = (k : Int) := by
  by_cases c : 0 ≤ p ∧ p < 20
  · exact ⟨p.toNat, by omega, by omega⟩
  · exfalso
    unfold PyVbtaac.shape at h
    rw [if_neg (show ¬ p = 0 by omega), if_neg (show ¬ p = 1 by omega), if_neg (show ¬ p = 2 by omega), if_neg (show ¬ p = 3 by omega), if_neg (show ¬ p = 4 by omega), if_neg (show ¬ p = 5 by omega), if_neg (show ¬ p = 6 by omega), if_neg (show ¬ p = 7 by omega), if_neg (show ¬ p = 8 by omega), if_neg (show ¬ p = 9 by omega), if_neg (show ¬ p = 10 by omega), if_neg (show ¬ p = 11 by omega), if_neg (show ¬ p = 12 by omega), if_neg (show ¬ p = 13 by omega), if_neg (show ¬ p = 14 by omega), if_neg (show ¬ p = 15 by omega), if_neg (show ¬ p = 16 by omega), if_neg (show ¬ p = 17 by omega), if_neg (show ¬ p = 18 by omega), if_neg (show ¬ p = 19 by omega)] at h
    cases h
/-- one call of the list -/
theorem one_call {f : Nat} {l : List Int} {cs : List (List (List Int))} (h : PyFlat.calls PyVbtaac.shape f l = some cs) (hl : l ≠ []) : ∃ (k f' : Nat) (ns t : List Int) (lls : List (List Int)) (cs' : List (List (List Int))),
    k < 20 ∧ ns.length = (rangesM k).length ∧ lls.length = (if k = 12 then 2 else 0) ∧ l = (k : Int) :: (ns ++ (PyFlat.putRows lls ++ t)) ∧ cs = (((k : Int) :: ns) :: lls) :: cs' ∧ PyFlat.calls PyVbtaac.shape f' t = some cs' := by
  cases l with
  | nil => exact absurd rfl hl
  | cons p r =>
    cases f with
    | zero => cases h
    | succ f =>
      have h : (match PyFlat.call PyVbtaac.shape (p :: r) with
        | none => none
        | some (d, t) => match PyFlat.calls PyVbtaac.shape f t with
          | none => none
          | some ds => some (d :: ds)) = some cs := h
      cases e : PyFlat.call PyVbtaac.shape (p :: r) with
      | none => rw [e] at h; cases h
      | some q =>
        obtain ⟨d, t⟩ := q
        rw [e] at h
        have h : (match PyFlat.calls PyVbtaac.shape f t with
          | none => none
          | some ds => some (d :: ds)) = some cs := h
        cases e2 : PyFlat.calls PyVbtaac.shape f t with
        | none => rw [e2] at h; cases h
        | some ds =>
          rw [e2] at h
          obtain ⟨i1, p', ns, lls, rfl, i2⟩ := PyFlat.call_inv e
          obtain ⟨k, hk, rfl⟩ := shape_some i2
          rw [shape_at hk] at i2
          have i3 := Option.some.inj i2
          have i4 : (rangesM k).length = ns.length := congrArg Prod.fst i3
          have i5 : (if k = 12 then 2 else 0) = lls.length := congrArg Prod.snd i3
          refine ⟨k, f, ns, t, lls, ds, hk, i4.symm, i5.symm, ?_, (Option.some.inj h).symm, e2⟩
          rw [i1]
          show (((k : Int) :: ns) ++ PyFlat.putRows lls) ++ t = _
          rw [List.append_assoc]
          rfl
theorem two_of {lls : List (List Int)} (h : lls.length = 2) : ∃ a b, lls = [a, b] := lst2 h
theorem step_is {w : World} (g : Good w) {k : Nat} {ns : List Int} {lls : List (List Int)} (hk : k < 20) (hl : ns.length = (rangesM k).length) (hll : lls.length = (if k = 12 then 2 else 0)) :
    VbtaacNeutral.step w (PyVbtaac.whole (((k : Int) :: ns) :: lls)) = answerM w k ns lls := by
  rcases (by omega : k = 0 ∨ k = 1 ∨ k = 2 ∨ k = 3 ∨ k = 4 ∨ k = 5 ∨ k = 6 ∨ k = 7 ∨ k = 8 ∨ k = 9 ∨ k = 10 ∨ k = 11 ∨ k = 12 ∨ k = 13 ∨ k = 14 ∨ k = 15 ∨ k = 16 ∨ k = 17 ∨ k = 18 ∨ k = 19) with
    rfl | rfl | rfl | rfl | rfl | rfl | rfl | rfl | rfl | rfl | rfl | rfl | rfl | rfl | rfl | rfl | rfl | rfl | rfl | rfl
  · have e0 : lls = [] := List.eq_nil_of_length_eq_zero hll
    subst e0
    obtain ⟨a, rfl⟩ := lst1 hl
    exact step_addPlace g a
  · have e0 : lls = [] := List.eq_nil_of_length_eq_zero hll
    subst e0
    obtain ⟨a, b, c, d, e, rfl⟩ := lst5 hl
    exact step_addObject g a b c d e
  · have e0 : lls = [] := List.eq_nil_of_length_eq_zero hll
    subst e0
    obtain ⟨a, b, c, rfl⟩ := lst3 hl
    exact step_moveObject a b c
  · have e0 : lls = [] := List.eq_nil_of_length_eq_zero hll
    subst e0
    obtain ⟨a, b, c, rfl⟩ := lst3 hl
    exact step_setProperty a b c
  · have e0 : lls = [] := List.eq_nil_of_length_eq_zero hll
    subst e0
    obtain ⟨a, b, c, rfl⟩ := lst3 hl
    exact step_setWindow a b c
  · have e0 : lls = [] := List.eq_nil_of_length_eq_zero hll
    subst e0
    obtain ⟨a, b, rfl⟩ := lst2 hl
    exact step_take g a b
  · have e0 : lls = [] := List.eq_nil_of_length_eq_zero hll
    subst e0
    obtain ⟨a, b, c, d, rfl⟩ := lst4 hl
    exact step_put a b c d
  · have e0 : lls = [] := List.eq_nil_of_length_eq_zero hll
    subst e0
    obtain ⟨a, b, rfl⟩ := lst2 hl
    exact step_drop a b
  · have e0 : lls = [] := List.eq_nil_of_length_eq_zero hll
    subst e0
    obtain ⟨a, b, c, rfl⟩ := lst3 hl
    exact step_openOrClose a b c
  · have e0 : lls = [] := List.eq_nil_of_length_eq_zero hll
    subst e0
    obtain ⟨a, rfl⟩ := lst1 hl
    exact step_locate a
  · have e0 : lls = [] := List.eq_nil_of_length_eq_zero hll
    subst e0
    obtain ⟨a, rfl⟩ := lst1 hl
    exact step_listContents a
  · have e0 : lls = [] := List.eq_nil_of_length_eq_zero hll
    subst e0
    obtain ⟨a, b, rfl⟩ := lst2 hl
    exact step_canSee a b
  · obtain ⟨a, b, c, rfl⟩ := lst3 hl
    obtain ⟨p, q, rfl⟩ := lst2 hll
    exact step_checkProof a b c p q
  · have e0 : lls = [] := List.eq_nil_of_length_eq_zero hll
    subst e0
    obtain ⟨a, rfl⟩ := lst1 hl
    exact step_isLit a
  · have e0 : lls = [] := List.eq_nil_of_length_eq_zero hll
    subst e0
    obtain ⟨a, rfl⟩ := lst1 hl
    exact step_listVisible a
  · have e0 : lls = [] := List.eq_nil_of_length_eq_zero hll
    subst e0
    obtain ⟨a, rfl⟩ := lst1 hl
    exact step_listReachable a
  · have e0 : lls = [] := List.eq_nil_of_length_eq_zero hll
    subst e0
    obtain ⟨a, rfl⟩ := lst1 hl
    exact step_getLoad a
  · have e0 : lls = [] := List.eq_nil_of_length_eq_zero hll
    subst e0
    obtain ⟨a, b, rfl⟩ := lst2 hl
    exact step_compareSpaces a b
  · have e0 : lls = [] := List.eq_nil_of_length_eq_zero hll
    subst e0
    obtain ⟨a, rfl⟩ := lst1 hl
    exact step_getProperties a
  · have e0 : lls = [] := List.eq_nil_of_length_eq_zero hll
    subst e0
    have e1 : ns = [] := List.eq_nil_of_length_eq_zero hl
    subst e1
    exact step_listWindows

/-! ### windows grow by one at most -/
theorem win_op {w : World} {k : Nat} {ms p q : List Nat} : (opM w k ms p q).1.windows.length ≤ w.windows.length + 1 := by
  have z : w.windows.length ≤ w.windows.length + 1 := Nat.le_succ _
  unfold opM
  split
  · unfold addPlaceM; split <;> exact z
  · unfold addObjM; split; · exact z
    split; · exact z
    split <;> exact z
  · unfold moveM; split; · exact z
    split; · exact z
    split <;> exact z
  · unfold setProM; split <;> exact z
  · unfold setWinM; split; · exact z
    split; · exact z
    show (replaceWindow w _ _ _).length ≤ _
    unfold replaceWindow
    rw [List.length_append]
    refine Nat.add_le_add (List.length_filter_le _ _) ?_
    split
    · exact Nat.zero_le _
    · exact Nat.le_refl _
  · unfold takeM; split; · exact z
    split; · exact z
    split; · exact z
    split <;> exact z
  · unfold putM; split; · exact z
    split; · exact z
    split; · exact z
    split; · exact z
    split <;> exact z
  · unfold dropM; simp only []; split; · exact z
    split <;> exact z
  · unfold openM; split; · exact z
    split; · exact z
    split <;> exact z
  all_goals exact z
theorem win_answer {w : World} {k : Nat} {ns : List Int} {lls : List (List Int)} : (answerM w k ns lls).1.windows.length ≤ w.windows.length + 1 := by
  unfold answerM
  split
  · exact Nat.le_succ _
  · exact win_op
theorem opM_pq {w : World} {k : Nat} {ms p q : List Nat} (h : k ≠ 12) : opM w k ms p q = opM w k ms [] [] := by
  unfold opM
  split <;> first | rfl | exact absurd rfl h | skip
/-! ### what is said of all of it -/
def tail (w : World) (cs : List (List (List Int))) : List Int := PyFlat.told (PyFlat.played VbtaacNeutral.step w (cs.map PyVbtaac.whole))
theorem tail_nil {w : World} : tail w [] = [] := rfl
theorem tail_cons {w : World} (g : Good w) {k : Nat} {ns : List Int} {lls : List (List Int)} {cs : List (List (List Int))} (hk : k < 20) (hl : ns.length = (rangesM k).length) (hll : lls.length = (if k = 12 then 2 else 0)) :
    tail w ((((k : Int) :: ns) :: lls) :: cs) = ((answerM w k ns lls).2.length : Int) :: ((answerM w k ns lls).2 ++ tail (answerM w k ns lls).1 cs) := by
  unfold tail
  rw [List.map_cons]
  show (((VbtaacNeutral.step w _).2.length : Int) :: (VbtaacNeutral.step w _).2) ++ PyFlat.told (PyFlat.played VbtaacNeutral.step (VbtaacNeutral.step w _).1 _) = _
  rw [step_is g hk hl hll]
  rfl
theorem answers_is {l : List Int} {cs : List (List (List Int))} (h : PyFlat.calls PyVbtaac.shape l.length l = some cs) : PyVbtaac.answers l = tail start cs := by
  unfold PyVbtaac.answers PyVbtaac.calls
  rw [h]
  rfl
/-- what is asked -/
theorem asked_of {l : List Int} (h : PyVbtaac.answers_asked l = true) : ∃ cs, PyFlat.calls PyVbtaac.shape l.length l = some cs ∧ cs.length ≤ 400 ∧ (tail start cs).length ≤ 10000000 := by
  unfold PyVbtaac.answers_asked at h
  cases e : PyFlat.calls PyVbtaac.shape l.length l with
  | none => rw [e] at h; cases h
  | some cs =>
    rw [e] at h
    have h : (!cs.isEmpty && PyFlat.atMost 400 cs && PyInside.calls PyVbtaac.bound cs && VbtaacNeutral.asked (cs.map PyVbtaac.whole) && PyFlat.short 10000000 (PyVbtaac.answers l)) = true := h
    rw [Bool.and_eq_true, Bool.and_eq_true, Bool.and_eq_true, Bool.and_eq_true] at h
    obtain ⟨⟨⟨⟨_, h1⟩, _⟩, _⟩, h2⟩ := h
    refine ⟨cs, rfl, of_decide_eq_true h1, ?_⟩
    rw [← answers_is e]
    exact of_decide_eq_true h2

/-! ### places in the list -/
theorem drop_at {l a b : List Int} {i : Nat} {c : Int} (h : l.drop i = c :: (a ++ b)) : i < l.length ∧ l[i]? = some c ∧ (l.drop (i + 1)).take a.length = a ∧ l.drop (i + 1 + a.length) = b := by
  have hi : i < l.length := by
    by_cases z : i < l.length
    · exact z
    · rw [List.drop_eq_nil_of_le (by omega)] at h
      cases h
  rw [List.drop_eq_getElem_cons hi] at h
  injection h with h1 h2
  refine ⟨hi, by rw [List.getElem?_eq_getElem hi, h1], by rw [h2, List.take_left], ?_⟩
  rw [← List.drop_drop, h2, List.drop_left]
end Sg
set_option Elab.async false
set_option linter.all false
set_option maxRecDepth 100000
set_option maxHeartbeats 4000000
/-! SgG: rules in short, what evaluates to what, the world in the heap. -/
namespace Sg
open PySem PySem.Spec PyProof.Rows L2 Evl

/-! ### where one stands -/
structure Ctx where
  P : Program
  w : World
  K : PySem.W.Frag
  mg : Str → Option Value
  base : Heap
  CW : Addr
  CT : Addr
  CV : Addr
  aR : Addr
  aO : Addr
  aB : Addr
/-- a module's constant -/
def Kn (mg : Str → Option Value) (x : Str) (i : Int) : Prop := ∃ t, mg x = some (.int i t)
/-- a def that can be called by its name -/
def Cal (P : Program) (w : World) (K : PySem.W.Frag) (mg : Str → Option Value) (base : Heap) (k : Nat) (x : Str) (ps : List Str) (sp : Sp) : Prop :=
  ∃ f fd, FnOk P w K mg base CX0 k f fd ps sp ∧ mg x = some (.ref f) ∧ PySem.W.keepIn K (.ref f) = true ∧ Binds K fd ps []
/-- a method of the class at C -/
def Mal (P : Program) (w : World) (K : PySem.W.Frag) (mg : Str → Option Value) (base : Heap) (C : Addr) (k : Nat) (m : Str) (ps : List Str) (sp : Sp) : Prop :=
  ∃ f fd, FnOk P w K mg base CX0 k f fd ps sp ∧ Meth K C m f ∧ Binds K fd ps []
/-- the class x at C, made by its __init__ -/
def Mkl (P : Program) (w : World) (K : PySem.W.Frag) (mg : Str → Option Value) (base : Heap) (C : Addr) (k : Nat) (x : Str) (ps : List Str) (sp : Sp) : Prop :=
  ∃ f fd, FnOk P w K mg base CX0 k f fd ps sp ∧ Mk K C f ∧ mg x = some (.ref C) ∧ Binds K fd ps []
section
variable {X : Cx} {k j : Nat} {x m : Str} {ps : List Str} {sp : Sp} {C : Addr} {p pos apos : Pos} {e o : Expr} {es : List Expr} {ta : TE} {t : TA}
theorem pe_kn {i : Int} (c : Kn X.mg x i) (hg : Gl X x := by rfl) (hd : (x == ("__debug__" : Str)) = false := by decide) : PE X (.Name x pos) (tC (.int i)) := by
  obtain ⟨t, h⟩ := c
  exact pe_glob hg h ⟨t, rfl⟩ hd
theorem pe_fn (c : Cal X.prog X.w X.K X.mg X.base k x ps sp) (hr : Room j X.A) (ha : PA X (e :: es) t) (hj : k ≤ j := by decide) (hg : Gl X x := by rfl) (hdb : (x == ("__debug__" : Str)) = false := by decide)
    (he : starEach (e :: es) X.env = (false, eval e X.env) :: starEach es X.env := by rfl) (hpl : (backTo pos (starEach es X.env)).any (·.1) = false := by rfl) : PE X (.Call (.Name x p) (e :: es) [] pos) (tCall sp [] E0 t) := by
  obtain ⟨f, fd, F, hm, hk, hb⟩ := c
  exact pe_call F (hr.mono hj) hg hm hk hb .nil pass0 ha hdb he hpl
theorem pe_md {pl : Sem Bool} (c : Mal X.prog X.w X.K X.mg X.base C k m ps sp) (hc : Cls X.K C) (hr : Room j X.A) (ho : PE X o ta) (ha : PA X (e :: es) t) (hj : k ≤ j := by decide)
    (hst : starEach (e :: es) X.env = (false, eval e X.env) :: starEach es X.env := by rfl) (hpl : (backTo pos (starEach es X.env)).any (·.1) = false := by rfl)
    (ht : eval (.Call (.Attribute o m apos) (e :: es) [] pos) X.env = (do
      let ov ← eval o X.env
      standAt apos.atName
      let (f, first) ← holding [ov] (getMethod ov m pl)
      callWith pos f first (backTo pos (starEach (e :: es) X.env)) (backToKw pos (keywordEach [] X.env))) := by rfl) : PE X (.Call (.Attribute o m apos) (e :: es) [] pos) (tMeth C m sp [] E0 ta t) := by
  obtain ⟨f, fd, F, hm, hb⟩ := c
  exact pe_meth ho hc hm F (hr.mono hj) hb .nil pass0 ha hst hpl ht
theorem pe_md0 {pl : Sem Bool} (c : Mal X.prog X.w X.K X.mg X.base C k m ps sp) (hc : Cls X.K C) (hr : Room j X.A) (ho : PE X o ta) (hj : k ≤ j := by decide)
    (ht : eval (.Call (.Attribute o m apos) [] [] pos) X.env = (do
      let ov ← eval o X.env
      standAt apos.atName
      let (f, first) ← holding [ov] (getMethod ov m pl)
      callWith pos f first (backTo pos (starEach [] X.env)) (backToKw pos (keywordEach [] X.env))) := by rfl) : PE X (.Call (.Attribute o m apos) [] [] pos) (tMeth C m sp [] E0 ta tNil) := by
  obtain ⟨f, fd, F, hm, hb⟩ := c
  exact pe_meth0 ho hc hm F (hr.mono hj) hb .nil pass0 ht
theorem pe_mk (c : Mkl X.prog X.w X.K X.mg X.base C k x ps sp) (hr : Room j X.A) (ha : PA X (e :: es) t) (hj : k + 1 ≤ j := by decide) (hg : Gl X x := by rfl) (hdb : (x == ("__debug__" : Str)) = false := by decide)
    (he : starEach (e :: es) X.env = (false, eval e X.env) :: starEach es X.env := by rfl) (hpl : (backTo pos (starEach es X.env)).any (·.1) = false := by rfl) : PE X (.Call (.Name x p) (e :: es) [] pos) (tMake C sp [] E0 t) := by
  obtain ⟨f, fd, F, hM, hm, hb⟩ := c
  exact pe_make hM F (hr.mono hj) hg hm hb .nil pass0 ha hdb he hpl
theorem pe_mk0 (c : Mkl X.prog X.w X.K X.mg X.base C k x ps sp) (hr : Room j X.A) (hj : k + 1 ≤ j := by decide) (hg : Gl X x := by rfl) (hdb : (x == ("__debug__" : Str)) = false := by decide) : PE X (.Call (.Name x p) [] [] pos) (tMake C sp [] E0 tNil) := by
  obtain ⟨f, fd, F, hM, hm, hb⟩ := c
  exact pe_make0 hM F (hr.mono hj) hg hm hb .nil pass0 hdb
end

/-! ### what evaluates to what, further -/
section
variable {K : PySem.W.Frag} {σ : L2.St} {H H' : Hp} {ta tb te tx : TE} {t u : TT} {x y z v : V} {r : R2} {C a dx : Addr} {fs : List (Str × V)} {f m : Str} {sp : Sp} {tr : TA} {vs xs : List V} {E : XK}
theorem ev_fld (h : Ev ta σ H (.ref a)) (ho : H a = some (.ins C dx fs)) (hc : Cls K C) (hn : NoAttr K C f) (hl : fs.lookup f = some v) : Ev (tFld K ta f) σ H v := fun H1 e Q q =>
  h H1 e _ fun H2 e2 => ⟨a, C, dx, fs, v, rfl, (e.trans e2) a _ ho, hc, hn, hl, q H2 e2⟩
theorem ev_md (h : Ev ta σ H (.ref a)) (ho : H a = some (.ins C dx fs)) (hm : fs.lookup m = none) (ha : EvA tr σ H vs) (hs : SpV sp (.ref a :: (vs ++ [])) H z) : Ev (tMeth C m sp [] E ta tr) σ H z := fun H1 e Q q =>
  h H1 e _ fun H2 e2 => ⟨a, dx, fs, rfl, (e.trans e2) a _ ho, hm, ha H2 (e.trans e2) _ fun H3 e3 => hs H3 ((e.trans e2).trans e3) _ (fun H4 e4 => q H4 ((e2.trans e3).trans e4)) E⟩
theorem el_md (h : Ev ta σ H (.ref a)) (ho : H a = some (.ins C dx fs)) (hm : fs.lookup m = none) (ha : EvA tr σ H vs) (hs : SpL sp (.ref a :: (vs ++ [])) H xs) : EvL (tMeth C m sp [] E ta tr) σ H xs := fun H1 e Q q =>
  h H1 e _ fun H2 e2 => ⟨a, dx, fs, rfl, (e.trans e2) a _ ho, hm, ha H2 (e.trans e2) _ fun H3 e3 => hs H3 ((e.trans e2).trans e3) _ (fun p H4 hp e4 h4 => q p H4 (fresh_back (e2.trans e3) hp) ((e2.trans e3).trans e4) h4) E⟩
theorem ev_fn (h : EvA tr σ H vs) (hs : SpV sp (vs ++ []) H z) : Ev (tCall sp [] E tr) σ H z := ev_call h hs
theorem el_fn (h : EvA tr σ H vs) (hs : SpL sp (vs ++ []) H xs) : EvL (tCall sp [] E tr) σ H xs := el_call h hs
/-- a value | a new list, by a new list as the one new argument -/
theorem ev_eq (ha : Ev ta σ H x) (hb : Ev tb σ H y) (hs : scal x y = true) {b : Bool} (hd : decide (x = y) = b) : Ev (tOp rEq ta tb) σ H (.bl b) := ev_op ha hb (by rw [← hd]; exact rv_eq hs)
theorem ev_ne (ha : Ev ta σ H x) (hb : Ev tb σ H y) (hs : scal x y = true) {b : Bool} (hd : (!decide (x = y)) = b) : Ev (tOp rNe ta tb) σ H (.bl b) := ev_op ha hb (by rw [← hd]; exact rv_ne hs)
theorem ev_I {g : Int → Int → V} {i j : Int} (ha : Ev ta σ H (.int i)) (hb : Ev tb σ H (.int j)) (hz : g i j = z) : Ev (tOp (rI0 g) ta tb) σ H z := ev_op ha hb (by rw [← hz]; exact rv_I0)
theorem ev_IC {c : Int → Int → Prop} {g : Int → Int → V} {i j : Int} (ha : Ev ta σ H (.int i)) (hb : Ev tb σ H (.int j)) (hc : c i j) (hz : g i j = z) : Ev (tOp (rI c g) ta tb) σ H z := ev_op ha hb (by rw [← hz]; exact rv_I hc)
theorem ev_lenS {p : Addr} (ha : Ev ta σ H (.ref p)) (h : SqL K H p xs) (hz : V.int (xs.length : Int) = z) : Ev (tCB (rLenS K) (tCons ta tNil)) σ H z := by
  rw [← hz]
  exact ev_len ha h
theorem ev_ix {p : Addr} {i : Int} (ha : Ev ta σ H (.ref p)) (hi : Ev tb σ H (.int i)) (h : SqL K H p xs) (hx : atI xs i = some v) : Ev (tOp (rIxL K) ta tb) σ H v := ev_op ha hi (rv_ixL h hx)
theorem ev_ixT {p : Addr} {i : Int} (ha : Ev ta σ H (.ref p)) (hi : Ev tb σ H (.int i)) (h : SqT K H p xs) (hx : atI xs i = some v) : Ev (tOp (rIxT K) ta tb) σ H v := ev_op ha hi (rv_ixT h hx)
end

/-! ### numbers as values -/
abbrev iv (n : Nat) : V := .int (n : Int)
abbrev nv (l : List Nat) : List V := l.map iv
theorem iv_eq {a b : Nat} : decide (iv a = iv b) = (a == b) := by
  rw [Bool.eq_iff_iff, decide_eq_true_iff, beq_iff_eq]
  constructor
  · intro h
    have := V.int.inj h
    omega
  · rintro rfl
    rfl
theorem iv_inj {a b : Nat} (h : iv a = iv b) : a = b := by
  have := V.int.inj h
  omega
theorem nv_flat (l : List Nat) : (nv l).all flatV = true := by
  rw [List.all_eq_true]
  intro v hv
  obtain ⟨n, _, rfl⟩ := List.mem_map.mp hv
  rfl
theorem inV_nv {n : Nat} {l : List Nat} : inV (iv n) (nv l) = l.contains n := by
  unfold inV
  rw [List.any_map, Bool.eq_iff_iff, List.any_eq_true, List.contains_iff_mem]
  constructor
  · rintro ⟨m, hm, h⟩
    have h : eqV (iv m) (iv n) = true := h
    have : (m : Int) = (n : Int) := by
      unfold eqV at h
      simpa using h
    have : m = n := by omega
    rw [← this]
    exact hm
  · intro h
    refine ⟨n, h, ?_⟩
    show eqV (iv n) (iv n) = true
    unfold eqV
    simp

/-! ### the world in the heap -/
abbrev Wd := Vbtaac.World
abbrev Ob := Vbtaac.Object
abbrev Wn := Vbtaac.Window
def thF (x : Ob) : List (Str × V) := [("holder", iv x.holder), ("relation", iv x.relation), ("traits", iv x.properties), ("bulk", iv x.bulk), ("capacity", iv x.capacity)]
def woF (lt lw : Addr) : List (Str × V) := [("things", .ref lt), ("windows", .ref lw)]
theorem lk_here {k : Str} {v : V} {r : List (Str × V)} : List.lookup k ((k, v) :: r) = some v := by
  have e : (k == k) = true := beq_self_eq_true k
  simp only [List.lookup, e]
theorem lk_past {k g : Str} {v : V} {r : List (Str × V)} (h : (k == g) = false) : List.lookup k ((g, v) :: r) = List.lookup k r := by
  simp only [List.lookup, h]
theorem put_here {f : Str} {v x : V} {r : List (Str × V)} : putF f v ((f, x) :: r) = (f, v) :: r := if_pos rfl
theorem put_past {f g : Str} {v x : V} {r : List (Str × V)} (h : ¬ g = f) : putF f v ((g, x) :: r) = (g, x) :: putF f v r := if_neg h
theorem th_holder {x : Ob} : (thF x).lookup ("holder" : Str) = some (iv x.holder) := lk_here
theorem th_relation {x : Ob} : (thF x).lookup ("relation" : Str) = some (iv x.relation) := (lk_past (by decide +kernel)).trans lk_here
theorem th_traits {x : Ob} : (thF x).lookup ("traits" : Str) = some (iv x.properties) := (lk_past (by decide +kernel)).trans ((lk_past (by decide +kernel)).trans lk_here)
theorem th_bulk {x : Ob} : (thF x).lookup ("bulk" : Str) = some (iv x.bulk) := (lk_past (by decide +kernel)).trans ((lk_past (by decide +kernel)).trans ((lk_past (by decide +kernel)).trans lk_here))
theorem th_capacity {x : Ob} : (thF x).lookup ("capacity" : Str) = some (iv x.capacity) := (lk_past (by decide +kernel)).trans ((lk_past (by decide +kernel)).trans ((lk_past (by decide +kernel)).trans ((lk_past (by decide +kernel)).trans lk_here)))
theorem th_put_holder {x : Ob} {h : Nat} : putF "holder" (iv h) (thF x) = thF { x with holder := h } := put_here
theorem th_put_relation {x : Ob} {h : Nat} : putF "relation" (iv h) (thF x) = thF { x with relation := h } := (put_past (by decide +kernel)).trans (congrArg _ put_here)
theorem th_put_traits {x : Ob} {h : Nat} : putF "traits" (iv h) (thF x) = thF { x with properties := h } := (put_past (by decide +kernel)).trans (congrArg _ ((put_past (by decide +kernel)).trans (congrArg _ put_here)))
theorem wo_things {lt lw : Addr} : (woF lt lw).lookup ("things" : Str) = some (.ref lt) := lk_here
theorem wo_windows {lt lw : Addr} : (woF lt lw).lookup ("windows" : Str) = some (.ref lw) := (lk_past (by decide +kernel)).trans lk_here
theorem wo_put_windows {lt lw l : Addr} : putF "windows" (.ref l) (woF lt lw) = woF lt l := (put_past (by decide +kernel)).trans (congrArg _ put_here)
theorem wo_none {lt lw : Addr} {m : Str} (h1 : (m == ("things" : Str)) = false := by decide +kernel) (h2 : (m == ("windows" : Str)) = false := by decide +kernel) : (woF lt lw).lookup m = none := (lk_past h1).trans ((lk_past h2).trans rfl)

/-- where the world lies: its own address, its list of things, the things -/
structure Lay where
  a : Addr
  lt : Addr
  its : List Addr
structure WAt (g : Ctx) (L : Lay) (H : Hp) (w : Wd) : Prop where
  len : L.its.length = w.objects.length
  nd : L.its.Nodup
  ex : ∃ (dx lw : Addr) (ws : List (Addr × Wn)), H L.a = some (.ins g.CW dx (woF L.lt lw)) ∧ L.lt ≠ lw ∧ H lw = some (.lst (ws.map fun p => V.ref p.1)) ∧ ws.map (·.2) = w.windows ∧
    ∀ p ∈ ws, H p.1 = some (.tup [iv p.2.first, iv p.2.second, iv p.2.kind])
  ths : H L.lt = some (.lst (L.its.map V.ref))
  th : ∀ (i : Nat) (x : Ob), w.objects[i]? = some x → ∃ t dt, L.its[i]? = some t ∧ H t = some (.ins g.CT dt (thF x))
structure WG (g : Ctx) (L : Lay) (H : Hp) (w : Wd) : Prop where
  at_ : WAt g L H w
  good : Good w
  win : w.windows.length ≤ 1000
section
variable {g : Ctx} {L : Lay} {H H' : Hp} {w : Wd}
theorem WAt.mono (h : WAt g L H w) (e : Ex H H') : WAt g L H' w := by
  obtain ⟨dx, lw, ws, h1, h2, h3, h4, h5⟩ := h.ex
  refine ⟨h.len, h.nd, ⟨dx, lw, ws, e _ _ h1, h2, e _ _ h3, h4, fun p hp => e _ _ (h5 p hp)⟩, e _ _ h.ths, fun i x hx => ?_⟩
  · obtain ⟨t, dt, a, b⟩ := h.th i x hx
    exact ⟨t, dt, a, e _ _ b⟩
theorem WG.mono (h : WG g L H w) (e : Ex H H') : WG g L H' w := ⟨h.at_.mono e, h.good, h.win⟩
theorem WAt.ins (h : WAt g L H w) : ∃ dx lw, H L.a = some (.ins g.CW dx (woF L.lt lw)) := by
  obtain ⟨dx, lw, ws, h1, _⟩ := h.ex
  exact ⟨dx, lw, h1⟩
theorem WAt.thing (h : WAt g L H w) {n : Nat} {x : Ob} (hx : Vbtaac.objectAt w n = some x) : ∃ t dt, L.its[n - 1]? = some t ∧ H t = some (.ins g.CT dt (thF x)) := h.th (n - 1) x (at_lt hx).2.2
end
/-- what the text has written of classes, constants, built-ins -/
structure Txt (g : Ctx) : Prop where
  clW : Cls g.K g.CW
  clT : Cls g.K g.CT
  clV : Cls g.K g.CV
  nWth : NoAttr g.K g.CW "things"
  nWwi : NoAttr g.K g.CW "windows"
  nTho : NoAttr g.K g.CT "holder"
  nTre : NoAttr g.K g.CT "relation"
  nTtr : NoAttr g.K g.CT "traits"
  nTbu : NoAttr g.K g.CT "bulk"
  nTca : NoAttr g.K g.CT "capacity"
  nVsl : NoAttr g.K g.CV "sight_links"
  nVll : NoAttr g.K g.CV "light_links"
  nVsv : NoAttr g.K g.CV "sight_levels"
  nVlv : NoAttr g.K g.CV "light_levels"
  nVse : NoAttr g.K g.CV "seen"
  nVli : NoAttr g.K g.CV "lit"
  len : g.mg "len" = none
  sum : g.mg "sum" = none
  any : g.mg "any" = none
  all : g.mg "all" = none
  list : g.mg "list" = none
  range : g.mg "range" = none
  sorted : g.mg "sorted" = none
  int : g.mg "int" = none
  zip : g.mg "zip" = none
  cCONTAINER : Kn g.mg "CONTAINER" 1
  cSUPPORTER : Kn g.mg "SUPPORTER" 2
  cACTOR : Kn g.mg "ACTOR" 4
  cHINGED : Kn g.mg "HINGED" 8
  cOPENED : Kn g.mg "OPENED" 16
  cTRANSPARENT : Kn g.mg "TRANSPARENT" 32
  cLUMINOUS : Kn g.mg "LUMINOUS" 64
  cINSIDE : Kn g.mg "INSIDE" 1
  cATOP : Kn g.mg "ATOP" 2
  cHELD : Kn g.mg "HELD" 3
  cPART : Kn g.mg "PART" 5
  cMOST_THINGS : Kn g.mg "MOST_THINGS" 60
  cLIGHT : Kn g.mg "LIGHT" 1
  cSIGHT : Kn g.mg "SIGHT" 2
  cHANDS : Kn g.mg "HANDS" 3
  cOPEN_WINDOW : Kn g.mg "OPEN_WINDOW" 2
  cONE_WAY : Kn g.mg "ONE_WAY" 3
  cLUMINOUS_NUMBER : Kn g.mg "LUMINOUS_NUMBER" 6
  cMOST_IN_PROOF : Kn g.mg "MOST_IN_PROOF" 60
  cCHECK_PROOF : Kn g.mg "CHECK_PROOF" 12
  gRANGES : g.mg "RANGES" = some (.ref g.aR)
  gOBJECT : g.mg "OBJECT" = some (.ref g.aO)
  gBY_ACTORS : g.mg "BY_ACTORS" = some (.ref g.aB)
  byA : ∀ H, SqT g.K H g.aB (nv [5, 6, 7, 8, 11, 12, 14, 15])
  obj : ∀ H, SqT g.K H g.aO [.int 1, .int 60]
  rng : ∃ rs : List Addr, rs.length = 20 ∧ (∀ H, SqT g.K H g.aR (rs.map V.ref)) ∧ ∀ (k : Nat) (l : List (Int × Int)), rangesL[k]? = some l → ∃ (r : Addr) (bs : List Addr), rs[k]? = some r ∧ (∀ H, SqT g.K H r (bs.map V.ref)) ∧ bs.length = l.length ∧
    ∀ (i : Nat) (p : Int × Int), l[i]? = some p → ∃ b, bs[i]? = some b ∧ ∀ H, SqT g.K H b [.int p.1, .int p.2]
section
variable {g : Ctx} {L : Lay} {H H' : Hp} {w : Wd} {σ : L2.St} {ta tb te : TE} {tr : TA} {E : XK} {sp : Sp} {m : Str} {vs xs : List V} {z : V}
theorem ev_wm (h : WAt g L H w) (ha : Ev ta σ H (.ref L.a)) (hm : ∀ lt lw, (woF lt lw).lookup m = none) (hr : EvA tr σ H vs) (hs : SpV sp (.ref L.a :: (vs ++ [])) H z) : Ev (tMeth g.CW m sp [] E ta tr) σ H z := by
  obtain ⟨dx, lw, h1⟩ := h.ins
  exact ev_md ha h1 (hm _ _) hr hs
theorem el_wm (h : WAt g L H w) (ha : Ev ta σ H (.ref L.a)) (hm : ∀ lt lw, (woF lt lw).lookup m = none) (hr : EvA tr σ H vs) (hs : SpL sp (.ref L.a :: (vs ++ [])) H xs) : EvL (tMeth g.CW m sp [] E ta tr) σ H xs := by
  obtain ⟨dx, lw, h1⟩ := h.ins
  exact el_md ha h1 (hm _ _) hr hs
end
end Sg
set_option Elab.async false
set_option linter.all false
set_option maxRecDepth 100000
set_option maxHeartbeats 4000000
/-! SgG2: further rules: equality of lists and tuples of numbers, comprehensions over lists, more of what evaluates to what. -/
namespace Sg
open PySem PySem.Spec PyProof.Rows L2 Evl

/-! ### equality of lists and tuples of numbers -/
theorem eqvAll_ints : ∀ ns ms : List Int, PyData.eqvAll (ns.map PyData.int) (ms.map PyData.int) = (ns == ms)
  | [], [] => by simp [PyData.eqvAll]
  | [], _ :: _ => by simp [PyData.eqvAll]
  | _ :: _, [] => by simp [PyData.eqvAll]
  | n :: ns, m :: ms => by
    have ih := eqvAll_ints ns ms
    show PyData.eqvAll (.int n :: ns.map PyData.int) (.int m :: ms.map PyData.int) = _
    rw [PyData.eqvAll, ih, PyData.eqv]
    rfl
theorem dp_ints {K : PySem.W.Frag} {H : Hp} : ∀ ns : List Int, DpAll K H (ns.map V.int) (ns.map PyData.int)
  | [] => .nil
  | n :: r => .cons (.int n) (dp_ints r)
theorem canAll_ints : ∀ ns : List Int, PyData.canLayAll0 (ns.map PyData.int) = true
  | [] => by simp [PyData.canLayAll0]
  | n :: r => by
    show PyData.canLayAll0 (.int n :: r.map PyData.int) = true
    rw [PyData.canLayAll0, canAll_ints r, PyData.canLay0]
    rfl
theorem depthAll_ints : ∀ ns : List Int, PyData.depthAll (ns.map PyData.int) = 0
  | [] => by simp [PyData.depthAll]
  | n :: r => by
    show PyData.depthAll (.int n :: r.map PyData.int) = 0
    rw [PyData.depthAll, depthAll_ints r, PyData.depth]
    rfl
theorem shaped_l (ns : List Int) : SeqAt.shaped (.list (ns.map PyData.int)) = true := by
  unfold SeqAt.shaped
  rw [PyData.canLay0, canAll_ints, PyData.depth, depthAll_ints]
  rfl
theorem shaped_t (ns : List Int) : SeqAt.shaped (.tuple (ns.map PyData.int)) = true := by
  unfold SeqAt.shaped
  rw [PyData.canLay0, canAll_ints, PyData.depth, depthAll_ints]
  rfl
section
variable {K : PySem.W.Frag} {H : Hp} {p q : Addr} {ns ms : List Int}
theorem rv_eqL (h1 : SqL K H p (ns.map V.int)) (h2 : SqL K H q (ms.map V.int)) : RV (rEqD K) (.ref p) (.ref q) H (.bl (ns == ms)) := fun H1 e Q k =>
  ⟨.list (ns.map PyData.int), .list (ms.map PyData.int), .lst (ex_l e h1) (dp_ints ns), .lst (ex_l e h2) (dp_ints ms), shaped_l ns, shaped_l ms, by
    rw [PyData.eqv, eqvAll_ints]
    exact k H1 (Ex.refl H1)⟩
theorem rv_neL (h1 : SqL K H p (ns.map V.int)) (h2 : SqL K H q (ms.map V.int)) : RV (rNeD K) (.ref p) (.ref q) H (.bl (!(ns == ms))) := fun H1 e Q k =>
  ⟨.list (ns.map PyData.int), .list (ms.map PyData.int), .lst (ex_l e h1) (dp_ints ns), .lst (ex_l e h2) (dp_ints ms), shaped_l ns, shaped_l ms, by
    rw [PyData.eqv, eqvAll_ints]
    exact k H1 (Ex.refl H1)⟩
theorem rv_eqT (h1 : SqT K H p (ns.map V.int)) (h2 : SqT K H q (ms.map V.int)) : RV (rEqD K) (.ref p) (.ref q) H (.bl (ns == ms)) := fun H1 e Q k =>
  ⟨.tuple (ns.map PyData.int), .tuple (ms.map PyData.int), .tup (ex_t e h1) (dp_ints ns), .tup (ex_t e h2) (dp_ints ms), shaped_t ns, shaped_t ms, by
    rw [PyData.eqv, eqvAll_ints]
    exact k H1 (Ex.refl H1)⟩
theorem rv_neT (h1 : SqT K H p (ns.map V.int)) (h2 : SqT K H q (ms.map V.int)) : RV (rNeD K) (.ref p) (.ref q) H (.bl (!(ns == ms))) := fun H1 e Q k =>
  ⟨.tuple (ns.map PyData.int), .tuple (ms.map PyData.int), .tup (ex_t e h1) (dp_ints ns), .tup (ex_t e h2) (dp_ints ms), shaped_t ns, shaped_t ms, by
    rw [PyData.eqv, eqvAll_ints]
    exact k H1 (Ex.refl H1)⟩
end
theorem nv_ints (l : List Nat) : nv l = (ofN l).map V.int := by
  unfold nv ofN
  rw [List.map_map]
  rfl

/-! ### comprehensions over lists -/
theorem given_filter {α : Type} {l : List α} {p : α → Bool} {f : Nat → Bool} {v : Nat → V} {u : α → V} (hf : ∀ i x, l[i]? = some x → f i = p x) (hv : ∀ i x, l[i]? = some x → p x = true → v i = u x) : given l.length f v = (l.filter p).map u := by
  have key : ∀ k, k ≤ l.length → given k f v = ((l.take k).filter p).map u := by
    intro k
    induction k with
    | zero => intro _; rfl
    | succ k ih =>
      intro hk
      have hx : l[k]? = some (l[k]'hk) := List.getElem?_eq_getElem hk
      have e : l.take (k + 1) = l.take k ++ [l[k]'hk] := by rw [List.take_succ, hx]; rfl
      rw [e, List.filter_append, List.map_append, ← ih (by omega)]
      cases hp : p (l[k]'hk) with
      | true =>
        have h1 : f k = true := (hf k _ hx).trans hp
        rw [given_yes h1, hv k _ hx hp]
        simp [hp]
      | false =>
        have h1 : f k = false := (hf k _ hx).trans hp
        rw [given_no h1]
        simp [hp]
  have := key l.length (Nat.le_refl _)
  rwa [List.take_length] at this
theorem map_get {α : Type} {l : List α} {u : α → V} {i : Nat} {v : V} (h : (l.map u)[i]? = some v) : ∃ x, l[i]? = some x ∧ v = u x := by
  rw [List.getElem?_map] at h
  cases e : l[i]? with
  | none => rw [e] at h; cases h
  | some x => rw [e] at h; exact ⟨x, rfl, (Option.some.inj h).symm⟩
theorem getD_of {α : Type} {l : List α} {d : α} {i : Nat} {x : α} (h : l[i]? = some x) : l.getD i d = x := by
  rw [List.getD_eq_getElem?_getD, h]
  rfl
section
variable {K : PySem.W.Frag} {σ : L2.St} {H : Hp} {tl te : TE} {t : TT} {j : Nat} {vs : List Nat} {α : Type}
/-- [te for x in tl if t], tl an old list | a new one | a range -/
theorem el_lcM {a : Addr} (l : List α) (u0 : α → V) (p : α → Bool) (u : α → V) (h : Ev tl σ H (.ref a)) (hx : SqL K H a (l.map u0)) (hz : l.length ≤ 40000) (hw : ∀ x, wipe ((wipe σ vs).set j (some x)) vs = wipe σ vs)
    (ht : ∀ x, x ∈ l → ∀ H1, Ex H H1 → EvT t ((wipe σ vs).set j (some (u0 x))) H1 (p x)) (he : ∀ x, x ∈ l → p x = true → ∀ H1, Ex H H1 → Ev te ((wipe σ vs).set j (some (u0 x))) H1 (u x)) :
    EvL (tLc (iList K tl) (gName j) t te vs) σ H ((l.filter p).map u) := by
  have e : given (l.map u0).length (fun i => (l[i]?.map p).getD false) (fun i => (l[i]?.map u).getD .non) = (l.filter p).map u := by
    rw [List.length_map]
    exact given_filter (fun i x hx => by rw [hx]; rfl) (fun i x hx _ => by rw [hx]; rfl)
  rw [← e]
  refine el_lcL _ _ h hx (by rw [List.length_map]; exact hz) hw (fun i v H1 e1 hv => ?_) (fun i v H1 e1 hv hf => ?_)
  · obtain ⟨x, hx, rfl⟩ := map_get hv
    rw [hx]
    exact ht x (List.mem_of_getElem? hx) H1 e1
  · obtain ⟨x, hx, rfl⟩ := map_get hv
    rw [hx] at hf ⊢
    exact he x (List.mem_of_getElem? hx) hf H1 e1
theorem el_lcN (l : List α) (u0 : α → V) (p : α → Bool) (u : α → V) (h : EvL tl σ H (l.map u0)) (hz : l.length ≤ 40000) (hw : ∀ x, wipe ((wipe σ vs).set j (some x)) vs = wipe σ vs)
    (ht : ∀ x, x ∈ l → ∀ H1, Ex H H1 → EvT t ((wipe σ vs).set j (some (u0 x))) H1 (p x)) (he : ∀ x, x ∈ l → p x = true → ∀ H1, Ex H H1 → Ev te ((wipe σ vs).set j (some (u0 x))) H1 (u x)) :
    EvL (tLc (iList K tl) (gName j) t te vs) σ H ((l.filter p).map u) := by
  have e : given (l.map u0).length (fun i => (l[i]?.map p).getD false) (fun i => (l[i]?.map u).getD .non) = (l.filter p).map u := by
    rw [List.length_map]
    exact given_filter (fun i x hx => by rw [hx]; rfl) (fun i x hx _ => by rw [hx]; rfl)
  rw [← e]
  refine el_lcNL _ _ h (by rw [List.length_map]; exact hz) hw (fun i v H1 e1 hv => ?_) (fun i v H1 e1 hv hf => ?_)
  · obtain ⟨x, hx, rfl⟩ := map_get hv
    rw [hx]
    exact ht x (List.mem_of_getElem? hx) H1 e1
  · obtain ⟨x, hx, rfl⟩ := map_get hv
    rw [hx] at hf ⊢
    exact he x (List.mem_of_getElem? hx) hf H1 e1
theorem el_lcR {ta : TA} (n : Nat) (p : Nat → Bool) (u : Nat → V) (h : EvA ta σ H [iv n]) (hz : n ≤ 40000) (hw : ∀ x, wipe ((wipe σ vs).set j (some x)) vs = wipe σ vs)
    (ht : ∀ i, i < n → ∀ H1, Ex H H1 → EvT t ((wipe σ vs).set j (some (iv i))) H1 (p i)) (he : ∀ i, i < n → p i = true → ∀ H1, Ex H H1 → Ev te ((wipe σ vs).set j (some (iv i))) H1 (u i)) :
    EvL (tLc (iRng1 ta) (gName j) t te vs) σ H (((List.range n).filter p).map u) := by
  have e : given (n : Int).toNat p u = ((List.range n).filter p).map u := rfl
  rw [← e]
  exact el_lcR1 p u h ⟨by omega, by omega⟩ hw (fun i H1 e1 hi => ht i (by omega) H1 e1) (fun i H1 e1 hi hf => he i (by omega) hf H1 e1)
theorem et_yes : EvT tYes σ H true := fun H1 _ _ q => q H1 (Ex.refl H1)
end
/-! ### sum, any, all, int, list, sorted -/
section
variable {K : PySem.W.Frag} {σ : L2.St} {H : Hp} {ta tb : TE} {z : V}
theorem ev_sumN {ns : List Int} (h : EvL ta σ H (ns.map V.int)) (hz : V.int ns.sum = z) : Ev (tCB (rSum K) (tCons ta tNil)) σ H z := fun H1 e Q q =>
  h H1 e _ fun p H2 _ e2 h2 => ⟨p, ns, rfl, sq_of h2, by rw [hz]; exact q H2 e2⟩
theorem ev_anyN {bs : List Bool} (h : EvL ta σ H (bs.map V.bl)) {b : Bool} (hz : bs.any id = b) : Ev (tCB (rAny K) (tCons ta tNil)) σ H (.bl b) := fun H1 e Q q =>
  h H1 e _ fun p H2 _ e2 h2 => ⟨p, bs, rfl, sq_of h2, by rw [hz]; exact q H2 e2⟩
theorem ev_allN {bs : List Bool} (h : EvL ta σ H (bs.map V.bl)) {b : Bool} (hz : bs.all id = b) : Ev (tCB (rAll K) (tCons ta tNil)) σ H (.bl b) := fun H1 e Q q =>
  h H1 e _ fun p H2 _ e2 h2 => ⟨p, bs, rfl, sq_of h2, by rw [hz]; exact q H2 e2⟩
theorem ev_lenNL {xs : List V} (h : EvL ta σ H xs) (hz : V.int (xs.length : Int) = z) : Ev (tCB (rLenS K) (tCons ta tNil)) σ H z := by
  rw [← hz]
  exact ev_lenN h
/-- x in a new list | an old one -/
theorem ev_inN {x : V} {xs : List V} (ha : Ev ta σ H x) (hb : EvL tb σ H xs) (hx : flatV x = true) (hf : xs.all flatV = true) : Ev (tOp (rIn K false) ta tb) σ H (.bl (inV x xs)) := ev_opL ha hb fun _ _ h _ => rv_isL (sq_of h) hx hf
theorem ev_ninN {x : V} {xs : List V} (ha : Ev ta σ H x) (hb : EvL tb σ H xs) (hx : flatV x = true) (hf : xs.all flatV = true) : Ev (tOp (rIn K true) ta tb) σ H (.bl (!inV x xs)) := ev_opL ha hb fun _ _ h _ => rv_niL (sq_of h) hx hf
theorem ev_inO {x : V} {xs : List V} {p : Addr} (ha : Ev ta σ H x) (hb : Ev tb σ H (.ref p)) (h : SqL K H p xs) (hx : flatV x = true) (hf : xs.all flatV = true) : Ev (tOp (rIn K false) ta tb) σ H (.bl (inV x xs)) := ev_op ha hb (rv_isL h hx hf)
theorem ev_ninO {x : V} {xs : List V} {p : Addr} (ha : Ev ta σ H x) (hb : Ev tb σ H (.ref p)) (h : SqL K H p xs) (hx : flatV x = true) (hf : xs.all flatV = true) : Ev (tOp (rIn K true) ta tb) σ H (.bl (!inV x xs)) := ev_op ha hb (rv_niL h hx hf)
end
end Sg
set_option Elab.async false
set_option linter.all false
set_option maxRecDepth 100000
set_option maxHeartbeats 4000000
/-! SgG3: the layer's rules with the written part as a letter of its own (within a comprehension the context is another, the written part the same). -/
namespace Sg
open PySem PySem.Spec PyProof.Rows L2 Evl
section
variable {X : Cx} (K : PySem.W.Frag) {ta tv te : TE} {o e value l : Expr} {es : List Expr} {f : Str} {pos pos' : Pos} {t : TA} {tg : Expr} {n : Nat}
theorem gx_list (h : X.K = K := by rfl) : IxR X (rIxL K) := by subst h; exact ix_list
theorem gx_tup (h : X.K = K := by rfl) : IxR X (rIxT K) := by subst h; exact ix_tup
theorem g_in (h : X.K = K := by rfl) : OpR X (compareOp .In) (rIn K false) := by subst h; exact op_in_seq
theorem g_notIn (h : X.K = K := by rfl) : OpR X (compareOp .NotIn) (rIn K true) := by subst h; exact op_notIn_seq
theorem g_eqD (hu : X.A.units + 64 < cLine) (h : X.K = K := by rfl) : OpR X (compareOp .Eq) (rEqD K) := by subst h; exact op_eqD hu
theorem g_neD (hu : X.A.units + 64 < cLine) (h : X.K = K := by rfl) : OpR X (compareOp .NotEq) (rNeD K) := by subst h; exact op_neD hu
theorem g_fld (he : PE X e ta) (hb : attributeBase e f X.env (eval e X.env) = eval e X.env := by rfl) (h : X.K = K := by rfl) : PE X (.Attribute e f pos) (tFld K ta f) := by subst h; exact pe_fld he hb
theorem gs_fld (ha : PE X o ta) (hv : PE X value tv) (hs : swapsWith value (some (.Attribute o f pos')) pos.line X.env = pure false := by rfl) (h : X.K = K := by rfl) : PS X (.Assign [.Attribute o f pos'] value pos) (sFld K ta tv f) := by subst h; exact ps_fld ha hv hs
theorem g_len (h : X.K = K := by rfl) : CallR X (.builtin "len") (rLenS K) := by subst h; exact call_len_seq
theorem g_sum (hc : X.calm = true := by rfl) (h : X.K = K := by rfl) : CallR X (.builtin "sum") (rSum K) := by subst h; exact cr_sum hc
theorem g_any (hc : X.calm = true := by rfl) (h : X.K = K := by rfl) : CallR X (.builtin "any") (rAny K) := by subst h; exact cr_any hc
theorem g_all (hc : X.calm = true := by rfl) (h : X.K = K := by rfl) : CallR X (.builtin "all") (rAll K) := by subst h; exact cr_all hc
theorem g_sortedI (h : X.K = K := by rfl) : CallR X (.builtin "sorted") (rSortedI K) := by subst h; exact cr_sortedI
theorem g_sortedP (h : X.K = K := by rfl) : CallR X (.builtin "sorted") (rSortedP K) := by subst h; exact cr_sortedP
theorem g_listOf (h : X.K = K := by rfl) : CallR X (.type "list") (rListS K) := by subst h; exact call_list_of
theorem gi_list (hl : PE X l ta) (h : X.K = K := by rfl) : PI X tg l (iList K ta) := by subst h; exact pi_list hl
theorem gs_list (h : X.K = K := by rfl) : SlR X (rSlL K) := by subst h; exact sl_list
theorem g_rev {k : Nat} {p1 p2 p3 : Pos} (he : PE X e te) (h : X.K = K := by rfl) : PE X (.Subscript e (.Slice none none (some (.UnaryOp .USub (.Constant (.int 1) k p1) p2)) p3) pos) (tRevL K te) := by subst h; exact pe_revL he
theorem gg_tup {k : Nat} {tt : TGs} (hp : PGs X es tt) (hc : X.calm = true := by rfl) (hn : (assignEach es X.env).length = n := by rfl) (hst : (assignEach es X.env).findIdx? (·.1) = none := by rfl) (h : X.K = K := by rfl) : PG X (.Tuple es k pos) (gTup K n tt) := by
  subst h
  exact pg_tup hc hp hn hst
theorem gg_unl {k : Nat} {tt : TGs} (hp : PGs X es tt) (hc : X.calm = true := by rfl) (hn : (assignEach es X.env).length = n := by rfl) (hst : (assignEach es X.env).findIdx? (·.1) = none := by rfl) (h : X.K = K := by rfl) : PG X (.Tuple es k pos) (gUnl K n tt) := by
  subst h
  exact pg_unl hc hp hn hst
variable {name : Str} {apos cpos : Pos} {T id : String} {r : V → List V → Hp → VK → Prop}
theorem g_bm (pa : PlainAttrs T) (slot : Slot T name id) (hty : typeOf (.builtin id) = pure (.type "method_descriptor")) (hm : MtR X id r) (ho : PE X o ta) (ha : PA X (e :: es) t)
    (hbase : attributeBase o name X.env (eval o X.env) = eval o X.env := by rfl)
    (hfew : ((backTo cpos (starEach (e :: es) X.env)).all (fun x => !x.1) && (backToKw cpos (keywordEach [] X.env)).all (fun x => x.1.isSome)
      && decide ((e :: es).length + ([] : List Keyword).length + (if ([] : List Keyword).isEmpty then 0 else 1) < 30)) = true := by rfl)
    (hline : (apos.endLine == cpos.line) = true := by rfl) (hs : starEach (e :: es) X.env = (false, eval e X.env) :: starEach es X.env := by rfl) (hplain : (backTo cpos (starEach es X.env)).any (·.1) = false := by rfl) (h : X.K = K := by rfl) :
    PE X (.Call (.Attribute o name apos) (e :: es) [] cpos) (tBM K T r ta t) := by
  subst h
  exact pe_bm pa slot hty hm ho ha hbase hfew hline hs hplain
end
end Sg
set_option Elab.async false
set_option linter.all false
set_option maxRecDepth 100000
set_option maxHeartbeats 4000000
/-! SgP: the promise of each def, and how it is used. -/
namespace Sg
open PySem PySem.Spec PyProof.Rows L2 Evl

/-! ### where a def stands; its promise by its body -/
abbrev FnS (g : Ctx) (x q : Str) (st : Stmt) (f : Addr) (fd : FuncData) : Prop := FunD g.K x q (defArgs st) (defBody st) (defScope st) [] [] f fd
def DefAt (g : Ctx) (x : Str) (st : Stmt) : Prop := ∃ f fd, FnS g x x st f fd ∧ g.mg x = some (.ref f)
def MetAt (g : Ctx) (C : Addr) (m q : Str) (st : Stmt) : Prop := ∃ f fd, FnS g m q st f fd ∧ Meth g.K C m f
def MkAt (g : Ctx) (C : Addr) (x q : Str) (st : Stmt) : Prop := ∃ f fd, FnS g "__init__" q st f fd ∧ Mk g.K C f ∧ g.mg x = some (.ref C)
abbrev BindS (x q : Str) (st : Stmt) (ps : List Str) : Prop := ∀ (kV doc pm : Value) (an : Option Addr) (cdv ct : Value) (us : List Value), us.length = ps.length → bindArgs (PySem.W.fnOf x q (defArgs st) (defBody st) (defScope st) .none kV doc pm an cdv ct) ⟨us, []⟩ = pure (ps.zip us)
/-- the body's reading, in the context of the def -/
abbrev BodyS (g : Ctx) (q : Str) (st : Stmt) (N : List Str) (k : Nat) (sp : Sp) : Prop := ∀ (f : Addr) (cdv : Value) (A : Around) (outer : List Env) (s : Shared) (H : Hp) (vs : List V) (Q : VK) (E : XK), Room k (A.deeper (envOfC q (defScope st) s.heap.objs.size f cdv)) → sp vs H Q E →
  ∃ t, PSs (cxOf CX0 g.P g.w g.K g.mg g.base N q (defScope st) f cdv A outer s H E).nox (defBody st) t ∧ t { nx := fun _ H' => Q .non H', rt := Q } (start N vs) H
section
variable {g : Ctx} {x m q : Str} {C : Addr} {st : Stmt} {N ps : List Str} {k : Nat} {sp : Sp}
theorem fn_ok {f : Addr} {fd : FuncData} (F : FnS g x q st f fd) (S : FnScope N ps (defScope st)) (len : ∀ vs H Q E, sp vs H Q E → vs.length = ps.length) (hb : BodyS g q st N k sp) : FnOk g.P g.w g.K g.mg g.base CX0 (k + 1) f fd ps sp :=
  FunD.ok F S len fun cdv A outer s H vs Q E hr h => by
    obtain ⟨t, h1, h2⟩ := hb f cdv A outer s H vs Q E hr h
    exact ⟨t, h1.nox, h2⟩
theorem mk_def (D : DefAt g x st) (S : FnScope N ps (defScope st)) (b : BindS x x st ps) (len : ∀ vs H Q E, sp vs H Q E → vs.length = ps.length) (hb : BodyS g x st N k sp) : Cal g.P g.w g.K g.mg g.base (k + 1) x ps sp := by
  obtain ⟨f, fd, F, hm⟩ := D
  exact ⟨f, fd, fn_ok F S len hb, hm, F.kp, FunD.bindsN F b⟩
theorem mk_met (D : MetAt g C m q st) (S : FnScope N ps (defScope st)) (b : BindS m q st ps) (len : ∀ vs H Q E, sp vs H Q E → vs.length = ps.length) (hb : BodyS g q st N k sp) : Mal g.P g.w g.K g.mg g.base C (k + 1) m ps sp := by
  obtain ⟨f, fd, F, hm⟩ := D
  exact ⟨f, fd, fn_ok F S len hb, hm, FunD.bindsN F b⟩
theorem mk_ini (D : MkAt g C x q st) (S : FnScope N ps (defScope st)) (b : BindS "__init__" q st ps) (len : ∀ vs H Q E, sp vs H Q E → vs.length = ps.length) (hb : BodyS g q st N k sp) : Mkl g.P g.w g.K g.mg g.base C (k + 1) x ps sp := by
  obtain ⟨f, fd, F, hM, hm⟩ := D
  exact ⟨f, fd, fn_ok F S len hb, hM, hm, FunD.bindsN F b⟩
end

/-! ### the kept part of the heap where the world changes -/
/-- b is another list than the world's windows -/
def NotW (L : Lay) (H : Hp) (b : Addr) : Prop := ∃ C d lt lw, H L.a = some (.ins C d (woF lt lw)) ∧ b ≠ lw
structure Keep (L : Lay) (H H' : Hp) : Prop where
  old : ∀ b o, H b = some o → b ≠ L.lt → (∀ C d fs, o ≠ HO.ins C d fs) → H' b = some o
  win : ∀ b xs, H b = some (.lst xs) → b ≠ L.lt → NotW L H b → NotW L H' b
theorem Keep.of {L : Lay} {H H' : Hp} (e : Ex H H') : Keep L H H' := ⟨fun b o h _ _ => e b o h, fun b xs _ _ ⟨C, d, lt, lw, h, n⟩ => ⟨C, d, lt, lw, e _ _ h, n⟩⟩
theorem Keep.trans {L : Lay} {H H1 H2 : Hp} (a : Keep L H H1) (b : Keep L H1 H2) : Keep L H H2 := ⟨fun c o h h1 h2 => b.old c o (a.old c o h h1 h2) h1 h2, fun c xs h h1 n => b.win c xs (a.old c _ h h1 (fun _ _ _ e => nomatch e)) h1 (a.win c xs h h1 n)⟩
theorem Keep.lst {L : Lay} {H H' : Hp} (k : Keep L H H') {p : Addr} {xs : List V} (h : H p = some (.lst xs)) (hp : p ≠ L.lt) : H' p = some (.lst xs) := k.old p _ h hp (fun _ _ _ e => nomatch e)

/-! ### shapes -/
/-- a list of lists -/
def LVAt (H : Hp) (p : Addr) (vss : List (List V)) : Prop := ∃ qs : List (Addr × List V), H p = some (.lst (qs.map fun q => V.ref q.1)) ∧ qs.map (·.2) = vss ∧ ∀ q ∈ qs, H q.1 = some (.lst q.2)
abbrev LLAt (H : Hp) (p : Addr) (Ls : List (List Nat)) : Prop := LVAt H p (Ls.map nv)
theorem LVAt.mono {H H' : Hp} {p : Addr} {vss : List (List V)} (h : LVAt H p vss) (e : Ex H H') : LVAt H' p vss := by
  obtain ⟨qs, h1, h2, h3⟩ := h
  exact ⟨qs, e _ _ h1, h2, fun q hq => e _ _ (h3 q hq)⟩
/-- a list of pairs -/
def PrAt (H : Hp) (p : Addr) (ps : List (Nat × Nat)) : Prop := ∃ ts : List (Addr × Nat × Nat), H p = some (.lst (ts.map fun t => V.ref t.1)) ∧ ts.map (·.2) = ps ∧ ∀ t ∈ ts, H t.1 = some (.tup [iv t.2.1, iv t.2.2])
theorem PrAt.mono {H H' : Hp} {p : Addr} {vss : List (Nat × Nat)} (h : PrAt H p vss) (e : Ex H H') : PrAt H' p vss := by
  obtain ⟨qs, h1, h2, h3⟩ := h
  exact ⟨qs, e _ _ h1, h2, fun q hq => e _ _ (h3 q hq)⟩
abbrev bit (b : Nat) : V := .int ((2 ^ b : Nat) : Int)

/-! ### the world's methods -/
def sp_Thing_init (g : Ctx) : Sp := fun vs H Q _ => ∃ (p dx : Addr) (x : Ob), vs = [.ref p, iv x.holder, iv x.relation, iv x.properties, iv x.bulk, iv x.capacity] ∧ H p = some (.ins g.CT dx []) ∧
  ∀ H', H' p = some (.ins g.CT dx (thF x)) → (∀ b o, H b = some o → b ≠ p → H' b = some o) → Q .non H'
abbrev H_Thing_init (g : Ctx) : Prop := Mkl g.P g.w g.K g.mg g.base g.CT 1 "Thing" ["self", "holder", "relation", "traits", "bulk", "capacity"] (sp_Thing_init g)
def sp_World_init (g : Ctx) : Sp := fun vs H Q _ => ∃ (p dx : Addr), vs = [.ref p] ∧ H p = some (.ins g.CW dx []) ∧
  ∀ H' lt, WAt g ⟨p, lt, []⟩ H' Vbtaac.start → H lt = none → (∀ b o, H b = some o → b ≠ p → H' b = some o) → Q .non H'
abbrev H_World_init (g : Ctx) : Prop := Mkl g.P g.w g.K g.mg g.base g.CW 1 "World" ["self"] (sp_World_init g)
def sp_World_many (g : Ctx) : Sp := fun vs H Q _ => ∃ L w, vs = [.ref L.a] ∧ WG g L H w ∧ RetV (iv (Vbtaac.objectCount w)) H Q
abbrev H_World_many (g : Ctx) : Prop := Mal g.P g.w g.K g.mg g.base g.CW 1 "many" ["self"] (sp_World_many g)
def sp_World_thing (g : Ctx) : Sp := fun vs H Q _ => ∃ L w n t, vs = [.ref L.a, iv n] ∧ WG g L H w ∧ 1 ≤ n ∧ L.its[n - 1]? = some t ∧ RetV (.ref t) H Q
abbrev H_World_thing (g : Ctx) : Prop := Mal g.P g.w g.K g.mg g.base g.CW 1 "thing" ["self", "n"] (sp_World_thing g)
def sp_World_numbers (g : Ctx) : Sp := fun vs H Q _ => ∃ L w, vs = [.ref L.a] ∧ WG g L H w ∧ RetL (nv (Vbtaac.objectNumbers w)) H Q
abbrev H_World_numbers (g : Ctx) : Prop := Mal g.P g.w g.K g.mg g.base g.CW 1 "numbers" ["self"] (sp_World_numbers g)
def sp_World_is_place (g : Ctx) : Sp := fun vs H Q _ => ∃ L w n, vs = [.ref L.a, iv n] ∧ WG g L H w ∧ ex w n ∧ RetV (.bl (Vbtaac.isPlace w n)) H Q
abbrev H_World_is_place (g : Ctx) : Prop := Mal g.P g.w g.K g.mg g.base g.CW 2 "is_place" ["self", "n"] (sp_World_is_place g)
def sp_World_has_trait (g : Ctx) : Sp := fun vs H Q _ => ∃ L w n b, vs = [.ref L.a, iv n, bit b] ∧ WG g L H w ∧ ex w n ∧ RetV (.bl (Vbtaac.hasProperty w n b)) H Q
abbrev H_World_has_trait (g : Ctx) : Prop := Mal g.P g.w g.K g.mg g.base g.CW 2 "has_trait" ["self", "n", "trait"] (sp_World_has_trait g)
def sp_World_is_box (g : Ctx) : Sp := fun vs H Q _ => ∃ L w n, vs = [.ref L.a, iv n] ∧ WG g L H w ∧ ex w n ∧ RetV (.bl (Vbtaac.hasProperty w n Vbtaac.containerBit && !Vbtaac.isPlace w n)) H Q
abbrev H_World_is_box (g : Ctx) : Prop := Mal g.P g.w g.K g.mg g.base g.CW 3 "is_box" ["self", "n"] (sp_World_is_box g)
def sp_World_take_in (g : Ctx) : Sp := fun vs H Q _ => ∃ (L : Lay) (w : Wd) (t dt : Addr) (x : Ob), vs = [.ref L.a, .ref t] ∧ WG g L H w ∧ H t = some (.ins g.CT dt (thF x)) ∧ t ∉ L.its ∧
  ∀ H', WAt g ⟨L.a, L.lt, L.its ++ [t]⟩ H' { w with objects := w.objects ++ [x] } → Keep L H H' → Q (iv (Vbtaac.objectCount w + 1)) H'
abbrev H_World_take_in (g : Ctx) : Prop := Mal g.P g.w g.K g.mg g.base g.CW 1 "take_in" ["self", "thing"] (sp_World_take_in g)
def sp_World_hand_to (g : Ctx) : Sp := fun vs H Q _ => ∃ (L : Lay) (w : Wd) (n h r : Nat), vs = [.ref L.a, iv n, iv h, iv r] ∧ WG g L H w ∧ ex w n ∧
  ∀ H', WAt g L H' (Vbtaac.moveObject w n h r) → Keep L H H' → Q .non H'
abbrev H_World_hand_to (g : Ctx) : Prop := Mal g.P g.w g.K g.mg g.base g.CW 2 "hand_to" ["self", "n", "h", "relation"] (sp_World_hand_to g)
def sp_World_set_trait (g : Ctx) : Sp := fun vs H Q _ => ∃ (L : Lay) (w : Wd) (n b f : Nat), vs = [.ref L.a, iv n, bit b, iv f] ∧ WG g L H w ∧ ex w n ∧ f ≤ 1 ∧
  ∀ H', WAt g L H' (Vbtaac.updateObject w n fun x => { x with properties := Vbtaac.setProperty x.properties b (f == 1) }) → Keep L H H' → Q .non H'
abbrev H_World_set_trait (g : Ctx) : Prop := Mal g.P g.w g.K g.mg g.base g.CW 3 "set_trait" ["self", "n", "trait", "flag"] (sp_World_set_trait g)
def sp_World_set_window (g : Ctx) : Sp := fun vs H Q _ => ∃ (L : Lay) (w : Wd) (a b k : Nat), vs = [.ref L.a, iv a, iv b, iv k] ∧ WG g L H w ∧
  ∀ H', WAt g L H' { w with windows := Vbtaac.replaceWindow w a b k } → Keep L H H' → Q .non H'
abbrev H_World_set_window (g : Ctx) : Prop := Mal g.P g.w g.K g.mg g.base g.CW 1 "set_window" ["self", "a", "b", "kind"] (sp_World_set_window g)
section
variable {g : Ctx} {L : Lay} {H : Hp} {w : Wd} {n : Nat}
theorem sv_many (h : WG g L H w) : SpV (sp_World_many g) [.ref L.a] H (iv (Vbtaac.objectCount w)) := fun H1 e Q q _ => ⟨L, w, rfl, h.mono e, q⟩
theorem sv_thing (h : WG g L H w) (h1 : 1 ≤ n) {t : Addr} (ht : L.its[n - 1]? = some t) : SpV (sp_World_thing g) [.ref L.a, iv n] H (.ref t) := fun H1 e Q q _ => ⟨L, w, n, t, rfl, h.mono e, h1, ht, q⟩
theorem sl_numbers (h : WG g L H w) : SpL (sp_World_numbers g) [.ref L.a] H (nv (Vbtaac.objectNumbers w)) := fun H1 e Q q _ => ⟨L, w, rfl, h.mono e, q⟩
theorem sv_is_place (h : WG g L H w) (hn : ex w n) : SpV (sp_World_is_place g) [.ref L.a, iv n] H (.bl (Vbtaac.isPlace w n)) := fun H1 e Q q _ => ⟨L, w, n, rfl, h.mono e, hn, q⟩
theorem sv_has_trait (h : WG g L H w) (hn : ex w n) (b : Nat) : SpV (sp_World_has_trait g) [.ref L.a, iv n, bit b] H (.bl (Vbtaac.hasProperty w n b)) := fun H1 e Q q _ => ⟨L, w, n, b, rfl, h.mono e, hn, q⟩
theorem sv_is_box (h : WG g L H w) (hn : ex w n) : SpV (sp_World_is_box g) [.ref L.a, iv n] H (.bl (Vbtaac.hasProperty w n Vbtaac.containerBit && !Vbtaac.isPlace w n)) := fun H1 e Q q _ => ⟨L, w, n, rfl, h.mono e, hn, q⟩
end

/-! ### nest -/
def countsM (w : Wd) (n h : Nat) : Bool := Vbtaac.holderOf w n == h && decide (Vbtaac.relationOf w n ≤ 3)
def withM (w : Wd) (h n : Nat) : Nat := if countsM w n h = true then Vbtaac.loadOf w h else Vbtaac.loadOf w h + Vbtaac.bulkOf w n
def muchM (w : Wd) (h l : Nat) : Bool := !Vbtaac.isPlace w h && decide (Vbtaac.capacityOf w h < l)
def sp_can_hold (g : Ctx) : Sp := fun vs H Q _ => ∃ L w h r, vs = [.ref L.a, iv h, iv r] ∧ WG g L H w ∧ ex w h ∧ (1 ≤ r ∧ r ≤ 5) ∧ RetV (.bl (Vbtaac.canHold w h r)) H Q
abbrev H_can_hold (g : Ctx) : Prop := Cal g.P g.w g.K g.mg g.base 3 "can_hold" ["world", "h", "relation"] (sp_can_hold g)
def sp_holders_of (g : Ctx) : Sp := fun vs H Q _ => ∃ L w n, vs = [.ref L.a, iv n] ∧ WG g L H w ∧ ex w n ∧ RetL (nv (Vbtaac.ancestorsOf w Vbtaac.maxObjects n)) H Q
abbrev H_holders_of (g : Ctx) : Prop := Cal g.P g.w g.K g.mg g.base 2 "holders_of" ["world", "n"] (sp_holders_of g)
def sp_is_within (g : Ctx) : Sp := fun vs H Q _ => ∃ L w n h, vs = [.ref L.a, iv n, iv h] ∧ WG g L H w ∧ ex w n ∧ RetV (.bl (Vbtaac.isWithin w n h)) H Q
abbrev H_is_within (g : Ctx) : Prop := Cal g.P g.w g.K g.mg g.base 3 "is_within" ["world", "n", "other"] (sp_is_within g)
def sp_does_count (g : Ctx) : Sp := fun vs H Q _ => ∃ L w n h, vs = [.ref L.a, iv n, iv h] ∧ WG g L H w ∧ ex w n ∧ RetV (.bl (countsM w n h)) H Q
abbrev H_does_count (g : Ctx) : Prop := Cal g.P g.w g.K g.mg g.base 2 "does_count" ["world", "n", "h"] (sp_does_count g)
def sp_load_of (g : Ctx) : Sp := fun vs H Q _ => ∃ L w h, vs = [.ref L.a, iv h] ∧ WG g L H w ∧ ex w h ∧ RetV (iv (Vbtaac.loadOf w h)) H Q
abbrev H_load_of (g : Ctx) : Prop := Cal g.P g.w g.K g.mg g.base 3 "load_of" ["world", "h"] (sp_load_of g)
def sp_is_too_much (g : Ctx) : Sp := fun vs H Q _ => ∃ L w h l, vs = [.ref L.a, iv h, iv l] ∧ WG g L H w ∧ ex w h ∧ RetV (.bl (muchM w h l)) H Q
abbrev H_is_too_much (g : Ctx) : Prop := Cal g.P g.w g.K g.mg g.base 3 "is_too_much" ["world", "h", "load"] (sp_is_too_much g)
def sp_load_with (g : Ctx) : Sp := fun vs H Q _ => ∃ L w h n, vs = [.ref L.a, iv h, iv n] ∧ WG g L H w ∧ ex w h ∧ ex w n ∧ RetV (iv (withM w h n)) H Q
abbrev H_load_with (g : Ctx) : Prop := Cal g.P g.w g.K g.mg g.base 4 "load_with" ["world", "h", "n"] (sp_load_with g)
def sp_would_exceed (g : Ctx) : Sp := fun vs H Q _ => ∃ L w n h r, vs = [.ref L.a, iv n, iv h, iv r] ∧ WG g L H w ∧ ex w n ∧ ex w h ∧ 1 ≤ r ∧ RetV (.bl (!Vbtaac.hasCapacity w h r n)) H Q
abbrev H_would_exceed (g : Ctx) : Prop := Cal g.P g.w g.K g.mg g.base 5 "would_exceed" ["world", "n", "h", "relation"] (sp_would_exceed g)
def sp_lies_in (g : Ctx) : Sp := fun vs H Q _ => ∃ L w n, vs = [.ref L.a, iv n] ∧ WG g L H w ∧ ex w n ∧ RetV (iv (Vbtaac.spaceOf w n)) H Q
abbrev H_lies_in (g : Ctx) : Prop := Cal g.P g.w g.K g.mg g.base 3 "lies_in" ["world", "n"] (sp_lies_in g)
def sp_met_in (g : Ctx) : Sp := fun vs H Q _ => ∃ L w n, vs = [.ref L.a, iv n] ∧ WG g L H w ∧ ex w n ∧ RetL (nv (Vbtaac.meetingSpaces w n)) H Q
abbrev H_met_in (g : Ctx) : Prop := Cal g.P g.w g.K g.mg g.base 4 "met_in" ["world", "n"] (sp_met_in g)
def sp_enclosing (g : Ctx) : Sp := fun vs H Q _ => ∃ L w n, vs = [.ref L.a, iv n] ∧ WG g L H w ∧ ex w n ∧ RetL (nv (Vbtaac.enclosingSpaces w (Vbtaac.maxObjects + 1) (Vbtaac.spaceOf w n))) H Q
abbrev H_enclosing (g : Ctx) : Prop := Cal g.P g.w g.K g.mg g.base 4 "enclosing" ["world", "n"] (sp_enclosing g)
def sp_does_carry (g : Ctx) : Sp := fun vs H Q _ => ∃ L w v x, vs = [.ref L.a, iv v, iv x] ∧ WG g L H w ∧ ex w x ∧ RetV (.bl (Vbtaac.isCarried w v x)) H Q
abbrev H_does_carry (g : Ctx) : Prop := Cal g.P g.w g.K g.mg g.base 2 "does_carry" ["world", "v", "x"] (sp_does_carry g)
def sp_landing (g : Ctx) : Sp := fun vs H Q _ => ∃ L w n, vs = [.ref L.a, iv n] ∧ WG g L H w ∧ ex w n ∧
  ∀ t H2, Ex H H2 → H2 t = some (.tup [iv (Vbtaac.dropTarget w Vbtaac.maxObjects n).1, iv (Vbtaac.dropTarget w Vbtaac.maxObjects n).2]) → Q (.ref t) H2
abbrev H_landing (g : Ctx) : Prop := Cal g.P g.w g.K g.mg g.base 3 "landing" ["world", "v"] (sp_landing g)
section
variable {g : Ctx} {L : Lay} {H : Hp} {w : Wd} {n h r l v x : Nat}
theorem sv_can_hold (k : WG g L H w) (hh : ex w h) (hr : 1 ≤ r ∧ r ≤ 5) : SpV (sp_can_hold g) [.ref L.a, iv h, iv r] H (.bl (Vbtaac.canHold w h r)) := fun H1 e Q q _ => ⟨L, w, h, r, rfl, k.mono e, hh, hr, q⟩
theorem sl_holders (k : WG g L H w) (hn : ex w n) : SpL (sp_holders_of g) [.ref L.a, iv n] H (nv (Vbtaac.ancestorsOf w Vbtaac.maxObjects n)) := fun H1 e Q q _ => ⟨L, w, n, rfl, k.mono e, hn, q⟩
theorem sv_is_within (k : WG g L H w) (hn : ex w n) : SpV (sp_is_within g) [.ref L.a, iv n, iv h] H (.bl (Vbtaac.isWithin w n h)) := fun H1 e Q q _ => ⟨L, w, n, h, rfl, k.mono e, hn, q⟩
theorem sv_does_count (k : WG g L H w) (hn : ex w n) : SpV (sp_does_count g) [.ref L.a, iv n, iv h] H (.bl (countsM w n h)) := fun H1 e Q q _ => ⟨L, w, n, h, rfl, k.mono e, hn, q⟩
theorem sv_load_of (k : WG g L H w) (hh : ex w h) : SpV (sp_load_of g) [.ref L.a, iv h] H (iv (Vbtaac.loadOf w h)) := fun H1 e Q q _ => ⟨L, w, h, rfl, k.mono e, hh, q⟩
theorem sv_too_much (k : WG g L H w) (hh : ex w h) : SpV (sp_is_too_much g) [.ref L.a, iv h, iv l] H (.bl (muchM w h l)) := fun H1 e Q q _ => ⟨L, w, h, l, rfl, k.mono e, hh, q⟩
theorem sv_load_with (k : WG g L H w) (hh : ex w h) (hn : ex w n) : SpV (sp_load_with g) [.ref L.a, iv h, iv n] H (iv (withM w h n)) := fun H1 e Q q _ => ⟨L, w, h, n, rfl, k.mono e, hh, hn, q⟩
theorem sv_would_exceed (k : WG g L H w) (hn : ex w n) (hh : ex w h) (hr : 1 ≤ r) : SpV (sp_would_exceed g) [.ref L.a, iv n, iv h, iv r] H (.bl (!Vbtaac.hasCapacity w h r n)) := fun H1 e Q q _ => ⟨L, w, n, h, r, rfl, k.mono e, hn, hh, hr, q⟩
theorem sv_lies_in (k : WG g L H w) (hn : ex w n) : SpV (sp_lies_in g) [.ref L.a, iv n] H (iv (Vbtaac.spaceOf w n)) := fun H1 e Q q _ => ⟨L, w, n, rfl, k.mono e, hn, q⟩
theorem sl_met_in (k : WG g L H w) (hn : ex w n) : SpL (sp_met_in g) [.ref L.a, iv n] H (nv (Vbtaac.meetingSpaces w n)) := fun H1 e Q q _ => ⟨L, w, n, rfl, k.mono e, hn, q⟩
theorem sl_enclosing (k : WG g L H w) (hn : ex w n) : SpL (sp_enclosing g) [.ref L.a, iv n] H (nv (Vbtaac.enclosingSpaces w (Vbtaac.maxObjects + 1) (Vbtaac.spaceOf w n))) := fun H1 e Q q _ => ⟨L, w, n, rfl, k.mono e, hn, q⟩
theorem sv_does_carry (k : WG g L H w) (hx : ex w x) : SpV (sp_does_carry g) [.ref L.a, iv v, iv x] H (.bl (Vbtaac.isCarried w v x)) := fun H1 e Q q _ => ⟨L, w, v, x, rfl, k.mono e, hx, q⟩
end
end Sg
set_option Elab.async false
set_option linter.all false
set_option maxRecDepth 100000
set_option maxHeartbeats 4000000
/-! SgW1: the methods of Thing and World keep their promises. -/
namespace Sg
open PySem PySem.Spec PyProof.Rows L2 Evl

theorem ok_Thing_init {g : Ctx} (T : Txt g) (D : MkAt g g.CT "Thing" "Thing.__init__" s_Thing_init) : H_Thing_init g := by
  refine mk_ini D sc_Thing_init (fun _ _ _ _ _ _ us hl => match us, hl with | [_, _, _, _, _, _], _ => rfl) (by rintro vs H Q E ⟨_, _, _, rfl, _⟩; rfl) fun f cdv A outer s H vs Q E hr h => ⟨_, (pss_cons (gs_fld g.K (pv 0) (pv 1)) (pss_cons (gs_fld g.K (pv 0) (pv 2)) (pss_cons (gs_fld g.K (pv 0) (pv 3)) (pss_cons (gs_fld g.K (pv 0) (pv 4)) (pss_one (gs_fld g.K (pv 0) (pv 5))))))), ?_⟩
  obtain ⟨p, dx, x, rfl, hp, k⟩ := h
  refine ⟨_, rfl, _, rfl, p, g.CT, dx, [], rfl, hp, T.clT, T.nTho, (by show 0 < 1000; decide), ?_⟩
  refine ⟨_, rfl, _, rfl, p, g.CT, dx, _, rfl, upd_same, T.clT, T.nTre, (by show 1 < 1000; decide), ?_⟩
  refine ⟨_, rfl, _, rfl, p, g.CT, dx, _, rfl, upd_same, T.clT, T.nTtr, (by show 2 < 1000; decide), ?_⟩
  refine ⟨_, rfl, _, rfl, p, g.CT, dx, _, rfl, upd_same, T.clT, T.nTbu, (by show 3 < 1000; decide), ?_⟩
  refine ⟨_, rfl, _, rfl, p, g.CT, dx, _, rfl, upd_same, T.clT, T.nTca, (by show 4 < 1000; decide), ?_⟩
  refine k _ ?_ fun b o e hb => ?_
  · rw [upd_same]
    have e1 : putF ("holder" : Str) (iv x.holder) [] = ([("holder", iv x.holder)] : List (Str × V)) := rfl
    have e2 : putF ("relation" : Str) (iv x.relation) ([("holder", iv x.holder)] : List (Str × V)) = ([("holder", iv x.holder), ("relation", iv x.relation)] : List (Str × V)) := (put_past (by decide +kernel)).trans rfl
    have e3 : putF ("traits" : Str) (iv x.properties) ([("holder", iv x.holder), ("relation", iv x.relation)] : List (Str × V)) = ([("holder", iv x.holder), ("relation", iv x.relation), ("traits", iv x.properties)] : List (Str × V)) :=
      (put_past (by decide +kernel)).trans (congrArg _ ((put_past (by decide +kernel)).trans rfl))
    have e4 : putF ("bulk" : Str) (iv x.bulk) ([("holder", iv x.holder), ("relation", iv x.relation), ("traits", iv x.properties)] : List (Str × V)) = ([("holder", iv x.holder), ("relation", iv x.relation), ("traits", iv x.properties), ("bulk", iv x.bulk)] : List (Str × V)) :=
      (put_past (by decide +kernel)).trans (congrArg _ ((put_past (by decide +kernel)).trans (congrArg _ ((put_past (by decide +kernel)).trans rfl))))
    have e5 : putF ("capacity" : Str) (iv x.capacity) ([("holder", iv x.holder), ("relation", iv x.relation), ("traits", iv x.properties), ("bulk", iv x.bulk)] : List (Str × V)) = thF x :=
      (put_past (by decide +kernel)).trans (congrArg _ ((put_past (by decide +kernel)).trans (congrArg _ ((put_past (by decide +kernel)).trans (congrArg _ ((put_past (by decide +kernel)).trans rfl))))))
    rw [e1, e2, e3, e4, e5]
  · rw [upd_ne hb, upd_ne hb, upd_ne hb, upd_ne hb, upd_ne hb]
    exact e
theorem ok_World_init {g : Ctx} (T : Txt g) (D : MkAt g g.CW "World" "World.__init__" s_World_init) : H_World_init g := by
  refine mk_ini D sc_World_init (fun _ _ _ _ _ _ us hl => match us, hl with | [_], _ => rfl) (by rintro vs H Q E ⟨_, _, rfl, _⟩; rfl) fun f cdv A outer s H vs Q E hr h => ⟨_, (pss_cons (gs_fld g.K (pv 0) (pe_lst pa_nil)) (pss_one (gs_fld g.K (pv 0) (pe_lst pa_nil)))), ?_⟩
  obtain ⟨p, dx, rfl, hp, k⟩ := h
  refine ⟨Nat.zero_le _, fun l hl => ?_⟩
  have nl : p ≠ l := ne_of_none hp hl
  refine ⟨_, rfl, p, g.CW, dx, [], rfl, ?_, T.clW, T.nWth, (by show 0 < 1000; decide), ?_⟩
  · rw [upd_ne nl]
    exact hp
  refine ⟨Nat.zero_le _, fun lw hlw => ?_⟩
  have nlw : p ≠ lw := fun z => by
    rw [← z, upd_same] at hlw
    cases hlw
  have nll : lw ≠ l := fun z => by
    rw [z, upd_ne (Ne.symm nl), upd_same] at hlw
    cases hlw
  refine ⟨_, rfl, p, g.CW, dx, _, rfl, (upd_ne nlw).trans upd_same, T.clW, T.nWwi, (by show 1 < 1000; decide), ?_⟩
  have hlw0 : H lw = none := by
    rw [upd_ne (Ne.symm nlw), upd_ne nll] at hlw
    exact hlw
  refine k _ l ⟨rfl, List.nodup_nil, ⟨dx, lw, [], ?_, Ne.symm nll, ?_, rfl, fun p hp => absurd hp List.not_mem_nil⟩, ?_, fun i x hx => ?_⟩ hl fun b o e hb => ?_
  · rw [upd_same]
    have e1 : putF ("things" : Str) (V.ref l) [] = ([("things", V.ref l)] : List (Str × V)) := rfl
    have e2 : putF ("windows" : Str) (V.ref lw) ([("things", V.ref l)] : List (Str × V)) = woF l lw := (put_past (by decide +kernel)).trans rfl
    rw [e1, e2]
  · rw [upd_ne (Ne.symm nlw), upd_same]
    rfl
  · show upd _ p _ l = _
    rw [upd_ne (Ne.symm nl), upd_ne (Ne.symm nll), upd_ne (Ne.symm nl), upd_same]
    rfl
  · cases i <;> cases hx
  · rw [upd_ne hb, upd_ne (ne_of_none e hlw0), upd_ne hb, upd_ne (ne_of_none e hl)]
    exact e
theorem ok_World_many {g : Ctx} (T : Txt g) (D : MetAt g g.CW "many" "World.many" s_World_many) : H_World_many g := by
  refine mk_met D sc_World_many (fun _ _ _ _ _ _ us hl => match us, hl with | [_], _ => rfl) (by rintro vs H Q E ⟨_, _, rfl, _⟩; rfl) fun f cdv A outer s H vs Q E hr h => ⟨_, (pss_one (ps_ret (pe_callB (g_len g.K) (by rfl) T.len (by decide +kernel) (pa_cons (g_fld g.K (pv 0)) pa_nil)))), ?_⟩
  obtain ⟨L, w, rfl, hw, k⟩ := h
  obtain ⟨dx, lw, hi⟩ := hw.at_.ins
  refine s_ret (ev_lenS (ev_fld (ev_var rfl) hi T.clW T.nWth wo_things) (sq_of hw.at_.ths) ?_) k
  rw [List.length_map, hw.at_.len]
  rfl
theorem ok_World_thing {g : Ctx} (T : Txt g) (D : MetAt g g.CW "thing" "World.thing" s_World_thing) : H_World_thing g := by
  refine mk_met D sc_World_thing (fun _ _ _ _ _ _ us hl => match us, hl with | [_, _], _ => rfl) (by rintro vs H Q E ⟨_, _, _, _, rfl, _⟩; rfl) fun f cdv A outer s H vs Q E hr h => ⟨_, (pss_one (ps_ret (pe_ix (gx_list g.K) (g_fld g.K (pv 0)) (pe_op op_sub (pv 1) pe_int) (fun _ _ => rfl)))), ?_⟩
  obtain ⟨L, w, n, t, rfl, hw, h1, ht, k⟩ := h
  obtain ⟨dx, lw, hi⟩ := hw.at_.ins
  refine s_ret (ev_ix (ev_fld (ev_var rfl) hi T.clW T.nWth wo_things) (ev_I (ev_var rfl) ev_c rfl) (sq_of hw.at_.ths) (L2.at_of (j := n - 1) ?_ ?_)) k
  · show (n : Int) - 1 = ((n - 1 : Nat) : Int)
    omega
  · rw [List.getElem?_map, ht]
    rfl
theorem ok_World_numbers {g : Ctx} (T : Txt g) (D : MetAt g g.CW "numbers" "World.numbers" s_World_numbers) : H_World_numbers g := by
  refine mk_met D sc_World_numbers (fun _ _ _ _ _ _ us hl => match us, hl with | [_], _ => rfl) (by rintro vs H Q E ⟨_, _, rfl, _⟩; rfl) fun f cdv A outer s H vs Q E hr h => ⟨_, (pss_one (ps_ret (pe_listRg rfl rfl T.list (prg_2 rfl T.range pe_int (pe_op op_add (pe_callB (g_len g.K) (by rfl) T.len (by decide +kernel) (pa_cons (g_fld g.K (pv 0)) pa_nil)) pe_int))))), ?_⟩
  obtain ⟨L, w, rfl, hw, k⟩ := h
  obtain ⟨dx, lw, hi⟩ := hw.at_.ins
  have hc := hw.good.cnt
  have hl : ((L.its.map V.ref).length : Int) + 1 = (Vbtaac.objectCount w : Int) + 1 := by
    rw [List.length_map, hw.at_.len]
    rfl
  refine s_retL (xs := nv (Vbtaac.objectNumbers w)) (fun H1 e Q q => ?_) k
  refine (ev_I (g := fun i j => .int (i + j)) (ev_lenS (ev_fld (ev_var (v := .ref L.a) rfl) hi T.clW T.nWth wo_things) (sq_of hw.at_.ths) rfl) ev_c rfl) H1 e _ fun H2 e2 => ?_
  refine ⟨1, _, rfl, rfl, ?_, fun l hl2 => ?_⟩
  · rw [hl]
    exact RgOk.of_le (by omega) (by omega) (by omega) (by omega)
  · refine q l _ (fresh_back e2 hl2) (e2.trans (Ex.new hl2)) ?_
    rw [upd_same, hl]
    unfold rgV nv iv Vbtaac.objectNumbers
    rw [List.map_map]
    have e3 : ((Vbtaac.objectCount w : Int) + 1 - 1).toNat = Vbtaac.objectCount w := by omega
    rw [e3]
    refine congrArg some (congrArg HO.lst (List.map_congr_left fun i _ => ?_))
    show V.int (1 + (i : Int)) = V.int ((i + 1 : Nat) : Int)
    refine congrArg V.int ?_
    omega
theorem ok_World_is_place {g : Ctx} (T : Txt g) (D : MetAt g g.CW "is_place" "World.is_place" s_World_is_place) (C_World_thing : H_World_thing g) : H_World_is_place g := by
  refine mk_met D sc_World_is_place (fun _ _ _ _ _ _ us hl => match us, hl with | [_, _], _ => rfl) (by rintro vs H Q E ⟨_, _, _, rfl, _⟩; rfl) fun f cdv A outer s H vs Q E hr h => ⟨_, (pss_one (ps_ret (pe_cmpR op_eq (g_fld g.K (pe_md C_World_thing T.clW hr (pv 0) (pa_cons (pv 1) pa_nil))) pe_int (nomark _)))), ?_⟩
  obtain ⟨L, w, n, rfl, hw, hn, k⟩ := h
  obtain ⟨x, hx⟩ := at_of hn.1 hn.2
  obtain ⟨t, dt, ht1, ht2⟩ := hw.at_.thing hx
  refine s_ret (ev_eq (y := iv 0) (ev_fld (ev_wm hw.at_ (ev_var rfl) (fun _ _ => wo_none) (ea_cons (ev_var rfl) ea_nil) (sv_thing hw hn.1 ht1)) ht2 T.clT T.nTho th_holder) ev_c rfl ?_) k
  rw [iv_eq, hw.good.place hx, Bool.eq_iff_iff, beq_iff_eq, decide_eq_true_iff]
theorem and_pow (p b : Nat) : p &&& 2 ^ b = if p.testBit b = true then 2 ^ b else 0 := by
  refine Nat.eq_of_testBit_eq fun i => ?_
  rw [Nat.testBit_and, Nat.testBit_two_pow]
  by_cases e : b = i
  · subst e
    cases h : p.testBit b with
    | true => rw [if_pos rfl, Nat.testBit_two_pow]; simp
    | false => rw [if_neg Bool.false_ne_true]; simp
  · split
    · rw [Nat.testBit_two_pow]
      simp [e]
    · simp [e]
theorem land_bit (p b : Nat) : Builtin.bitAnd (p : Int) ((2 ^ b : Nat) : Int) = if p.testBit b = true then ((2 ^ b : Nat) : Int) else 0 := by
  rw [bitAnd_pp (Int.natCast_nonneg _) (Int.natCast_nonneg _), Int.toNat_natCast, Int.toNat_natCast, and_pow]
  split <;> rfl
theorem ok_World_has_trait {g : Ctx} (T : Txt g) (D : MetAt g g.CW "has_trait" "World.has_trait" s_World_has_trait) (C_World_thing : H_World_thing g) : H_World_has_trait g := by
  refine mk_met D sc_World_has_trait (fun _ _ _ _ _ _ us hl => match us, hl with | [_, _, _], _ => rfl) (by rintro vs H Q E ⟨_, _, _, _, rfl, _⟩; rfl) fun f cdv A outer s H vs Q E hr h => ⟨_, (pss_one (ps_ret (pe_cmpR op_ne (pe_op op_and (g_fld g.K (pe_md C_World_thing T.clW hr (pv 0) (pa_cons (pv 1) pa_nil))) (pv 2)) pe_int (nomark _)))), ?_⟩
  obtain ⟨L, w, n, b, rfl, hw, hn, k⟩ := h
  obtain ⟨x, hx⟩ := at_of hn.1 hn.2
  obtain ⟨t, dt, ht1, ht2⟩ := hw.at_.thing hx
  refine s_ret (ev_ne (y := iv 0) (ev_I (ev_fld (ev_wm hw.at_ (ev_var rfl) (fun _ _ => wo_none) (ea_cons (ev_var rfl) ea_nil) (sv_thing hw hn.1 ht1)) ht2 T.clT T.nTtr th_traits) (ev_var rfl) rfl) ev_c rfl ?_) k
  rw [land_bit, property_at hx]
  have hp : 0 < 2 ^ b := Nat.two_pow_pos b
  cases hb : x.properties.testBit b with
  | true =>
    rw [if_pos rfl]
    have : ¬ (V.int ((2 ^ b : Nat) : Int) = iv 0) := fun z => by
      have := V.int.inj z
      have : (2 ^ b : Nat) = 0 := Int.ofNat.inj this
      omega
    rw [decide_eq_false this]
    rfl
  | false =>
    rw [if_neg Bool.false_ne_true]
    rfl
theorem ok_World_is_box {g : Ctx} (T : Txt g) (D : MetAt g g.CW "is_box" "World.is_box" s_World_is_box) (C_World_has_trait : H_World_has_trait g) (C_World_is_place : H_World_is_place g) : H_World_is_box g := by
  refine mk_met D sc_World_is_box (fun _ _ _ _ _ _ us hl => match us, hl with | [_, _], _ => rfl) (by rintro vs H Q E ⟨_, _, _, rfl, _⟩; rfl) fun f cdv A outer s H vs Q E hr h => ⟨_, (pss_one (ps_ret (pe_and (pe_md C_World_has_trait T.clW hr (pv 0) (pa_cons (pv 1) (pa_cons (pe_kn T.cCONTAINER) pa_nil))) (pe_one (pe_not (pe_md C_World_is_place T.clW hr (pv 0) (pa_cons (pv 1) pa_nil))))))), ?_⟩
  obtain ⟨L, w, n, rfl, hw, hn, k⟩ := h
  exact s_ret (ev_andV (ev_wm hw.at_ (ev_var rfl) (fun _ _ => wo_none) (ea_cons (ev_var rfl) (ea_cons ev_c ea_nil)) (sv_has_trait hw hn Vbtaac.containerBit))
    (fun _ => ev_notV (ev_wm hw.at_ (ev_var rfl) (fun _ _ => wo_none) (ea_cons (ev_var rfl) ea_nil) (sv_is_place hw hn)))) k
end Sg
set_option Elab.async false
set_option linter.all false
set_option maxRecDepth 100000
set_option maxHeartbeats 4000000
/-! SgW2: the methods that change the world keep their promises. -/
namespace Sg
open PySem PySem.Spec PyProof.Rows L2 Evl

/-! ### a thing changed, a thing added -/
section
variable {g : Ctx} {L : Lay} {H : Hp} {w : Wd}
theorem th_ne_wo {x : Ob} {lt lw C D d e : Addr} : HO.ins C d (thF x) ≠ HO.ins D e (woF lt lw) := fun z => by
  injection z with _ _ h
  have := congrArg List.length h
  simp [thF, woF] at this
theorem get_inj {l : List Addr} (hn : l.Nodup) {i j : Nat} {x : Addr} (a : l[i]? = some x) (b : l[j]? = some x) : i = j := L2.nd_ix hn a b
theorem WAt.setThing (h : WAt g L H w) {n : Nat} (hn : 1 ≤ n) {x : Ob} (hx : w.objects[n - 1]? = some x) {t dt : Addr} (ht : L.its[n - 1]? = some t) (h2 : H t = some (.ins g.CT dt (thF x))) (f : Ob → Ob) :
    WAt g L (upd H t (.ins g.CT dt (thF (f x)))) (Vbtaac.updateObject w n f) := by
  obtain ⟨dx, lw, ws, a1, a2, a3, a4, a5⟩ := h.ex
  refine ⟨?_, h.nd, ⟨dx, lw, ws, ?_, a2, ?_, a4, fun p hp => ?_⟩, ?_, fun i y hy => ?_⟩
  · rw [h.len]
    exact (upd_len (f := f)).symm
  · rw [upd_ne (ne_of a1 h2 (fun z => th_ne_wo z.symm))]
    exact a1
  · rw [upd_ne (ne_of a3 h2 (fun z => nomatch z))]
    exact a3
  · rw [upd_ne (ne_of (a5 p hp) h2 (fun z => nomatch z))]
    exact a5 p hp
  · rw [upd_ne (ne_of h.ths h2 (fun z => nomatch z))]
    exact h.ths
  · have hy : (Vbtaac.updateAt f (n - 1) w.objects)[i]? = some y := hy
    rw [upd_get] at hy
    by_cases e : i = n - 1
    · rw [if_pos e, e, hx] at hy
      have hy : f x = y := Option.some.inj hy
      rw [← hy, e]
      exact ⟨t, dt, ht, upd_same⟩
    · rw [if_neg e] at hy
      obtain ⟨u, du, b1, b2⟩ := h.th i y hy
      refine ⟨u, du, b1, ?_⟩
      rw [upd_ne (fun z => e (get_inj h.nd b1 (by rw [z]; exact ht)))]
      exact b2
theorem WAt.keepThing {t dt : Addr} {x y : Ob} (h2 : H t = some (.ins g.CT dt (thF x))) : Keep L H (upd H t (.ins g.CT dt (thF y))) :=
  ⟨fun b o hb _ hi => (upd_ne (ne_of hb h2 (hi _ _ _))).trans hb, fun b xs hb _ ⟨C, d, lt', lw', hn, hne⟩ => ⟨C, d, lt', lw', (upd_ne (ne_of hn h2 (fun z => th_ne_wo z.symm))).trans hn, hne⟩⟩
end
theorem lor_bit (p b : Nat) : Builtin.bitOr (p : Int) ((2 ^ b : Nat) : Int) = ((if p.testBit b = true then p else p + 2 ^ b : Nat) : Int) := by
  rw [bitOr_and, bitAnd_pp (Int.natCast_nonneg _) (Int.natCast_nonneg _), Int.toNat_natCast, Int.toNat_natCast]
  have e : p &&& 2 ^ b = if p.testBit b = true then 2 ^ b else 0 := by
    refine Nat.eq_of_testBit_eq fun i => ?_
    rw [Nat.testBit_and, Nat.testBit_two_pow]
    by_cases e : b = i
    · subst e
      cases h : p.testBit b with
      | true => rw [if_pos rfl, Nat.testBit_two_pow]; simp
      | false => rw [if_neg Bool.false_ne_true]; simp
    · split
      · rw [Nat.testBit_two_pow]
        simp [e]
      · simp [e]
  rw [e]
  split <;> omega

theorem ok_World_take_in {g : Ctx} (T : Txt g) (D : MetAt g g.CW "take_in" "World.take_in" s_World_take_in) : H_World_take_in g := by
  refine mk_met D sc_World_take_in (fun _ _ _ _ _ _ us hl => match us, hl with | [_, _], _ => rfl) (by rintro vs H Q E ⟨_, _, _, _, _, rfl, _⟩; rfl) fun f cdv A outer s H vs Q E hr h => ⟨_, (pss_cons (ps_expr (g_bm g.K PySem.F.plainAttrs_list PySem.F.slot_list_append PySem.F.type_list_append mt_append (g_fld g.K (pv 0)) (pa_cons (pv 1) pa_nil))) (pss_one (ps_ret (pe_callB (g_len g.K) (by rfl) T.len (by decide +kernel) (pa_cons (g_fld g.K (pv 0)) pa_nil))))), ?_⟩
  obtain ⟨L, w, t, dt, x, rfl, hw, ht, hnew, k⟩ := h
  obtain ⟨dx, lw, ws, a1, a2, a3, a4, a5⟩ := hw.at_.ex
  have hc := hw.good.cnt
  have hlen := hw.at_.len
  have hcl : w.objects.length ≤ 60 := hc
  refine q_app hw.at_.ths (ev_fld (ev_var rfl) a1 T.clW T.nWth wo_things) (ev_var rfl) (by rw [List.length_map]; omega) fun H1 e1 => ?_
  have na : L.a ≠ L.lt := ne_of a1 hw.at_.ths (fun z => nomatch z)
  have nt : t ≠ L.lt := ne_of ht hw.at_.ths (fun z => nomatch z)
  have hths : upd H1 L.lt (.lst (L.its.map V.ref ++ [V.ref t])) L.lt = some (.lst ((L.its ++ [t]).map V.ref)) := by
    rw [upd_same, List.map_append]
    rfl
  refine s_ret (v := iv (Vbtaac.objectCount w + 1)) (ev_lenS (ev_fld (ev_var rfl) ((upd_ne na).trans (e1 _ _ a1)) T.clW T.nWth wo_things) (sq_of hths) ?_) fun H2 e2 => ?_
  · rw [List.length_map, List.length_append, hlen]
    rfl
  · refine k H2 (WAt.mono ?_ e2) ?_
    · refine ⟨?_, ?_, ⟨dx, lw, ws, (upd_ne na).trans (e1 _ _ a1), a2, (upd_ne (Ne.symm a2)).trans (e1 _ _ a3), a4, fun p hp => ?_⟩, hths, fun i y hy => ?_⟩
      · show (L.its ++ [t]).length = (w.objects ++ [x]).length
        rw [List.length_append, List.length_append, hlen]
        rfl
      · refine List.nodup_append.mpr ⟨hw.at_.nd, List.nodup_cons.mpr ⟨List.not_mem_nil, List.nodup_nil⟩, fun a ha b hb => ?_⟩
        rw [List.mem_singleton.mp hb]
        exact fun z => hnew (z ▸ ha)
      · exact (upd_ne (ne_of (a5 p hp) hw.at_.ths (fun z => nomatch z))).trans (e1 _ _ (a5 p hp))
      · have hy : (w.objects ++ [x])[i]? = some y := hy
        by_cases hi : i < w.objects.length
        · rw [List.getElem?_append_left hi] at hy
          obtain ⟨u, du, b1, b2⟩ := hw.at_.th i y hy
          refine ⟨u, du, ?_, (upd_ne (ne_of b2 hw.at_.ths (fun z => nomatch z))).trans (e1 _ _ b2)⟩
          show (L.its ++ [t])[i]? = some u
          rw [List.getElem?_append_left (by omega)]
          exact b1
        · rw [List.getElem?_append_right (by omega)] at hy
          have hi0 : i = w.objects.length := by
            have := (List.getElem?_eq_some_iff.mp hy).1
            simp at this
            omega
          rw [hi0, Nat.sub_self] at hy
          have hy : x = y := Option.some.inj hy
          subst hy
          refine ⟨t, dt, ?_, (upd_ne nt).trans (e1 _ _ ht)⟩
          show (L.its ++ [t])[i]? = some t
          rw [hi0, List.getElem?_append_right (by omega), hlen, Nat.sub_self]
          rfl
    · exact ⟨fun b o hb h1 h2 => e2 b o ((upd_ne h1).trans (e1 b o hb)), fun b xs hb h1 ⟨C, d, lt', lw', hn, hne⟩ => ⟨C, d, lt', lw', e2 _ _ ((upd_ne na).trans (e1 _ _ hn)), hne⟩⟩
theorem ok_World_hand_to {g : Ctx} (T : Txt g) (D : MetAt g g.CW "hand_to" "World.hand_to" s_World_hand_to) (C_World_thing : H_World_thing g) : H_World_hand_to g := by
  refine mk_met D sc_World_hand_to (fun _ _ _ _ _ _ us hl => match us, hl with | [_, _, _, _], _ => rfl) (by rintro vs H Q E ⟨_, _, _, _, _, rfl, _⟩; rfl) fun f cdv A outer s H vs Q E hr h => ⟨_, (pss_cons (ps_set (i := 4) sc_World_hand_to.nd rfl (Or.inl rfl) (pe_md C_World_thing T.clW hr (pv 0) (pa_cons (pv 1) pa_nil))) (pss_cons (gs_fld g.K (pv 4) (pv 2)) (pss_one (gs_fld g.K (pv 4) (pv 3))))), ?_⟩
  obtain ⟨L, w, n, h, r, rfl, hw, hn, k⟩ := h
  obtain ⟨x, hx⟩ := at_of hn.1 hn.2
  obtain ⟨t, dt, ht1, ht2⟩ := hw.at_.thing hx
  have hx' := (at_lt hx).2.2
  refine q_asg (ev_wm hw.at_ (ev_var rfl) (fun _ _ => wo_none) (ea_cons (ev_var rfl) ea_nil) (sv_thing hw hn.1 ht1)) fun H1 e1 => ?_
  have hw1 := hw.at_.mono e1
  have ht3 := e1 t _ ht2
  refine ⟨_, rfl, _, rfl, t, g.CT, dt, _, rfl, ht3, T.clT, T.nTho, (by show 5 < 1000; decide), ?_⟩
  refine ⟨_, rfl, _, rfl, t, g.CT, dt, _, rfl, upd_same, T.clT, T.nTre, (by show List.length (putF _ _ (thF x)) < 1000; rw [th_put_holder]; show 5 < 1000; decide), ?_⟩
  rw [upd_upd, th_put_holder, th_put_relation]
  refine k _ (hw1.setThing hn.1 hx' ht1 ht3 fun y => { y with holder := h, relation := r }) ?_
  exact (Keep.of e1).trans (WAt.keepThing ht3)
theorem ok_World_set_trait {g : Ctx} (T : Txt g) (D : MetAt g g.CW "set_trait" "World.set_trait" s_World_set_trait) (C_World_thing : H_World_thing g) (C_World_has_trait : H_World_has_trait g) : H_World_set_trait g := by
  refine mk_met D sc_World_set_trait (fun _ _ _ _ _ _ us hl => match us, hl with | [_, _, _, _], _ => rfl) (by rintro vs H Q E ⟨_, _, _, _, _, rfl, _⟩; rfl) fun f cdv A outer s H vs Q E hr h => ⟨_, (pss_cons (ps_set (i := 4) sc_World_set_trait.nd rfl (Or.inl rfl) (pe_md C_World_thing T.clW hr (pv 0) (pa_cons (pv 1) pa_nil))) (pss_one (ps_if (pt_cmpR op_eq (pv 3) pe_int (nomark _)) (pss_one (gs_fld g.K (pv 4) (pe_op op_or (g_fld g.K (pv 4)) (pv 2)))) (pss_one (ps_if (pt_val (pe_md C_World_has_trait T.clW hr (pv 0) (pa_cons (pv 1) (pa_cons (pv 2) pa_nil)))) (pss_one (gs_fld g.K (pv 4) (pe_op op_sub (g_fld g.K (pv 4)) (pv 2)))) pss_nil))))), ?_⟩
  obtain ⟨L, w, n, b, f, rfl, hw, hn, hf, k⟩ := h
  obtain ⟨x, hx⟩ := at_of hn.1 hn.2
  obtain ⟨t, dt, ht1, ht2⟩ := hw.at_.thing hx
  have hx' := (at_lt hx).2.2
  refine q_asg (ev_wm hw.at_ (ev_var rfl) (fun _ _ => wo_none) (ea_cons (ev_var rfl) ea_nil) (sv_thing hw hn.1 ht1)) fun H1 e1 => ?_
  have hw1 := hw.mono e1
  have ht3 := e1 t _ ht2
  have fin : ∀ H2, Ex H1 H2 → ∀ p : Nat, p = Vbtaac.setProperty x.properties b (f == 1) → Q V.non (upd H2 t (.ins g.CT dt (putF "traits" (iv p) (thF x)))) := fun H2 e2 p hp => by
    rw [th_put_traits, hp]
    refine k _ ((hw1.at_.mono e2).setThing hn.1 hx' ht1 (e2 t _ ht3) fun y => { y with properties := Vbtaac.setProperty y.properties b (f == 1) }) ?_
    exact (Keep.of (e1.trans e2)).trans (WAt.keepThing (e2 t _ ht3))
  refine s_if (b := f == 1) (et_test (ev_eq (y := iv 1) (ev_var rfl) ev_c rfl iv_eq)) (fun hb H2 e2 => ?_) (fun hb H2 e2 => ?_)
  · have ht4 := e2 t _ ht3
    refine ⟨_, rfl, t, g.CT, dt, _, _, rfl, ht4, T.clT, T.nTtr, th_traits, _, rfl, _, _, rfl, rfl, _, rfl, t, g.CT, dt, _, rfl, ht4, T.clT, T.nTtr, (by show 5 < 1000; decide), ?_⟩
    show Q V.non (upd H2 t (.ins g.CT dt (putF "traits" (V.int (Builtin.bitOr (x.properties : Int) ((2 ^ b : Nat) : Int))) (thF x))))
    rw [lor_bit]
    refine fin H2 e2 _ ?_
    unfold Vbtaac.setProperty
    rw [hb]
    rfl
  · have hf0 : f = 0 := by
      have : f ≠ 1 := by simpa using hb
      omega
    refine s_when (b := Vbtaac.hasProperty w n b) (et_B (ev_wm (hw1.at_.mono e2) (ev_var rfl) (fun _ _ => wo_none) (ea_cons (ev_var rfl) (ea_cons (ev_var rfl) ea_nil)) (sv_has_trait (hw1.mono e2) hn b))) (fun hb2 H3 e3 => ?_) (fun hb2 H3 e3 => ?_)
    · have ht4 := e3 t _ (e2 t _ ht3)
      refine ⟨_, rfl, t, g.CT, dt, _, _, rfl, ht4, T.clT, T.nTtr, th_traits, _, rfl, _, _, rfl, rfl, _, rfl, t, g.CT, dt, _, rfl, ht4, T.clT, T.nTtr, (by show 5 < 1000; decide), ?_⟩
      rw [property_at hx] at hb2
      have hle := bit_le hb2
      have e : ((x.properties : Int) - ((2 ^ b : Nat) : Int)) = ((x.properties - 2 ^ b : Nat) : Int) := by omega
      show Q V.non (upd H3 t (.ins g.CT dt (putF "traits" (V.int ((x.properties : Int) - ((2 ^ b : Nat) : Int))) (thF x))))
      rw [e]
      refine fin H3 (e2.trans e3) _ ?_
      unfold Vbtaac.setProperty
      rw [hf0, hb2]
      rfl
    · rw [property_at hx] at hb2
      have e : Vbtaac.setProperty x.properties b (f == 1) = x.properties := by
        unfold Vbtaac.setProperty
        rw [hf0, hb2]
        rfl
      refine k _ ?_ (Keep.of ((e1.trans e2).trans e3))
      have hw3 := (hw1.at_.mono e2).mono e3
      have ht4 := e3 t _ (e2 t _ ht3)
      have := hw3.setThing hn.1 hx' ht1 ht4 fun y => { y with properties := Vbtaac.setProperty y.properties b (f == 1) }
      rw [e] at this
      have e2 : upd H3 t (.ins g.CT dt (thF { x with properties := x.properties })) = H3 := by
        funext c
        unfold upd
        split
        · rename_i q
          rw [q, ht4]
        · rfl
      rw [e2] at this
      exact this
theorem ok_World_set_window {g : Ctx} (T : Txt g) (D : MetAt g g.CW "set_window" "World.set_window" s_World_set_window) : H_World_set_window g := by
  refine mk_met D sc_World_set_window (fun _ _ _ _ _ _ us hl => match us, hl with | [_, _, _, _], _ => rfl) (by rintro vs H Q E ⟨_, _, _, _, _, rfl, _⟩; rfl) fun f cdv A outer s H vs Q E hr h => ⟨_, (pss_cons (ps_setLc (i := 4) (own := [("row", 5)]) rfl sc_World_set_window.nd rfl rfl (sw_true rfl rfl rfl (by decide +kernel)) (gi_list g.K (g_fld g.K (pv 0))) (blkOk_by (own := [("row", 5)]) (N := ["self", "a", "b", "kind", "kept", "row"]) (sc := defScope s_World_set_window) (by decide +kernel)) (fun _ _ _ _ _ => (pg_name (i := 5) sc_World_set_window.nd rfl (Or.inl rfl))) (fun _ _ _ _ _ => (pts_one (PW.pt (pw_and (pt_cmpR (g_neD g.K hr.units) (pe_tup (pa_cons (pe_ix (gx_tup g.K) (pv 5) pe_int (fun _ _ => rfl)) (pa_cons (pe_ix (gx_tup g.K) (pv 5) pe_int (fun _ _ => rfl)) pa_nil))) (pe_tup (pa_cons (pv 1) (pa_cons (pv 2) pa_nil))) (nomark _)) (pw_and1 (pt_cmpR (g_neD g.K hr.units) (pe_tup (pa_cons (pe_ix (gx_tup g.K) (pv 5) pe_int (fun _ _ => rfl)) (pa_cons (pe_ix (gx_tup g.K) (pv 5) pe_int (fun _ _ => rfl)) pa_nil))) (pe_tup (pa_cons (pv 2) (pa_cons (pv 1) pa_nil))) (nomark _))))))) (fun _ _ _ _ _ => (pv 5))) (pss_cons (ps_if (pt_cmpR op_gt (pv 3) pe_int (nomark _)) (pss_one (ps_expr (g_bm g.K PySem.F.plainAttrs_list PySem.F.slot_list_append PySem.F.type_list_append mt_append (pv 4) (pa_cons (pe_tup (pa_cons (pv 1) (pa_cons (pv 2) (pa_cons (pv 3) pa_nil)))) pa_nil)))) pss_nil) (pss_one (gs_fld g.K (pv 0) (pv 4))))), ?_⟩
  obtain ⟨L, w, a, b, kd, rfl, hw, k⟩ := h
  obtain ⟨dx, lw, ws, a1, a2, a3, a4, a5⟩ := hw.at_.ex
  have hlen : ws.length ≤ 1000 := by
    have := congrArg List.length a4
    rw [List.length_map] at this
    rw [this]
    exact hw.win
  let kp : Wn → Bool := fun x => !((x.first == a && x.second == b) || (x.first == b && x.second == a))
  have hpair : ∀ (p q c d : Nat), (!(([(p : Int), (q : Int)] : List Int) == [(c : Int), (d : Int)])) = !(p == c && q == d) := fun p q c d => by
    refine congrArg Bool.not ?_
    rw [Bool.eq_iff_iff, beq_iff_eq, Bool.and_eq_true, beq_iff_eq, beq_iff_eq]
    constructor
    · intro z
      injection z with z1 z2
      injection z2 with z2
      omega
    · rintro ⟨rfl, rfl⟩
      rfl
  refine q_asgL (xs := ((ws.filter fun p => kp p.2).map fun p => V.ref p.1)) (el_lcM ws (fun p => .ref p.1) (fun p => kp p.2) (fun p => .ref p.1) (ev_fld (ev_var rfl) a1 T.clW T.nWwi wo_windows) (sq_of a3) (by omega) (fun _ => rfl) (fun p hp H1 e1 => ?_) (fun p hp _ H1 e1 => ev_var rfl))
    fun l H1 hl e1 h1 => ?_
  · have ht := st_of (K := g.K) (e1 _ _ (a5 p hp))
    have row : ∀ c d : Nat, (kp p.2 = kp p.2) → True := fun _ _ _ => trivial
    have e2 : kp p.2 = ((!(([(p.2.first : Int), (p.2.second : Int)] : List Int) == [(a : Int), (b : Int)])) && (!(([(p.2.first : Int), (p.2.second : Int)] : List Int) == [(b : Int), (a : Int)]))) := by
      rw [hpair, hpair]
      show (!((p.2.first == a && p.2.second == b) || (p.2.first == b && p.2.second == a))) = _
      rw [Bool.not_or]
    rw [e2]
    exact et_and (et_test (ev_opUU (xs := ([(p.2.first : Int), (p.2.second : Int)] : List Int).map V.int) (ys := ([(a : Int), (b : Int)] : List Int).map V.int) (eu_tup (ea_cons (ev_ixT (ev_var rfl) ev_c ht rfl) (ea_cons (ev_ixT (ev_var rfl) ev_c ht rfl) ea_nil)) (by show 2 ≤ 100000; decide))
      (eu_tup (ea_cons (ev_var rfl) (ea_cons (ev_var rfl) ea_nil)) (by show 2 ≤ 100000; decide)) fun u v H2 hu hv _ => rv_neT (st_of hu) (st_of hv)))
      fun _ => et_test (ev_opUU (xs := ([(p.2.first : Int), (p.2.second : Int)] : List Int).map V.int) (ys := ([(b : Int), (a : Int)] : List Int).map V.int) (eu_tup (ea_cons (ev_ixT (ev_var rfl) ev_c ht rfl) (ea_cons (ev_ixT (ev_var rfl) ev_c ht rfl) ea_nil)) (by show 2 ≤ 100000; decide))
      (eu_tup (ea_cons (ev_var rfl) (ea_cons (ev_var rfl) ea_nil)) (by show 2 ≤ 100000; decide)) fun u v H2 hu hv _ => rv_neT (st_of hu) (st_of hv))
  · have nlt : L.lt ≠ l := ne_of_none hw.at_.ths hl
    have na : L.a ≠ l := ne_of_none a1 hl
    have fin : ∀ (H2 : Hp) (us : List (Addr × Wn)), Ex H H2 → H2 l = some (.lst (us.map fun p => V.ref p.1)) → us.map (·.2) = Vbtaac.replaceWindow w a b kd → (∀ p ∈ us, H2 p.1 = some (.tup [iv p.2.first, iv p.2.second, iv p.2.kind])) →
        Q V.non (upd H2 L.a (.ins g.CW dx (putF "windows" (.ref l) (woF L.lt lw)))) := fun H2 us e2 hl2 hus hus2 => by
      have ha := e2 _ _ a1
      rw [wo_put_windows]
      refine k _ ⟨hw.at_.len, hw.at_.nd, ⟨dx, l, us, upd_same, nlt, (upd_ne (Ne.symm na)).trans hl2, hus, fun p hp => ?_⟩, ?_, fun i y hy => ?_⟩ ⟨fun c o hc h1 h2 => ?_, fun c xs hc _ _ => ⟨_, _, _, l, upd_same, fun z => by rw [z, hl] at hc; cases hc⟩⟩
      · exact (upd_ne (ne_of (hus2 p hp) ha (fun z => nomatch z))).trans (hus2 p hp)
      · exact (upd_ne (ne_of (e2 _ _ hw.at_.ths) ha (fun z => nomatch z))).trans (e2 _ _ hw.at_.ths)
      · obtain ⟨u, du, b1, b2⟩ := hw.at_.th i y hy
        exact ⟨u, du, b1, (upd_ne (ne_of (e2 _ _ b2) ha th_ne_wo)).trans (e2 _ _ b2)⟩
      · exact (upd_ne (ne_of hc a1 (h2 _ _ _))).trans (e2 c o hc)
    have hrep : Vbtaac.replaceWindow w a b kd = (ws.filter fun p => kp p.2).map (·.2) ++ (if kd = 0 then [] else [⟨a, b, kd⟩]) := by
      unfold Vbtaac.replaceWindow
      rw [← a4, List.filter_map]
      rfl
    have hfl : (ws.filter fun p => kp p.2).length ≤ ws.length := List.length_filter_le _ _
    refine q_when (b := decide ((0 : Int) < (kd : Int))) (et_test (ev_I (ev_var rfl) ev_c rfl)) (fun hb H2 e2 => ?_) (fun hb H2 e2 => ?_)
    · have hk : kd ≠ 0 := by have := of_decide_eq_true hb; omega
      refine s_appU (ys := [iv a, iv b, iv kd]) (e2 _ _ h1) (ev_var rfl) (eu_tup (ea_cons (ev_var rfl) (ea_cons (ev_var rfl) (ea_cons (ev_var rfl) ea_nil))) (by show 3 ≤ 100000; decide)) (by rw [List.length_map]; omega) fun t H3 ht e3 h3 => ?_
      have ntl : t ≠ l := fun z => by
        rw [z, e2 _ _ h1] at ht
        cases ht
      have nlt2 : L.a ≠ l := na
      refine ⟨_, rfl, _, rfl, L.a, g.CW, dx, _, rfl, (upd_ne na).trans (e3 _ _ (e2 _ _ (e1 _ _ a1))), T.clW, T.nWwi, (by show 2 < 1000; decide), ?_⟩
      refine fin _ ((ws.filter fun p => kp p.2) ++ [(t, ⟨a, b, kd⟩)]) (Ex.mut ((e1.trans e2).trans e3) hl) ?_ ?_ fun p hp => ?_
      · rw [upd_same, List.map_append]
        rfl
      · rw [hrep, if_neg hk, List.map_append]
        rfl
      · rcases List.mem_append.mp hp with hp | hp
        · have hp' := a5 p (List.mem_filter.mp hp).1
          exact (upd_ne (ne_of_none hp' hl)).trans (e3 _ _ (e2 _ _ (e1 _ _ hp')))
        · have e := List.mem_singleton.mp hp
          subst e
          exact (upd_ne ntl).trans h3
    · have hk : kd = 0 := by have := of_decide_eq_false hb; omega
      refine ⟨_, rfl, _, rfl, L.a, g.CW, dx, _, rfl, e2 _ _ (e1 _ _ a1), T.clW, T.nWwi, (by show 2 < 1000; decide), ?_⟩
      refine fin H2 (ws.filter fun p => kp p.2) (e1.trans e2) (e2 _ _ h1) ?_ fun p hp => e2 _ _ (e1 _ _ (a5 p (List.mem_filter.mp hp).1))
      rw [hrep, if_pos hk, List.append_nil]
end Sg
set_option Elab.async false
set_option linter.all false
set_option maxRecDepth 100000
set_option maxHeartbeats 4000000
/-! SgN: the defs of nest keep their promises. -/
namespace Sg
open PySem PySem.Spec PyProof.Rows L2 Evl

section
variable {w : Wd}
theorem anc_len : ∀ (f n : Nat), (Vbtaac.ancestorsOf w f n).length ≤ f
  | 0, _ => Nat.le_refl _
  | f + 1, n => by
    unfold Vbtaac.ancestorsOf
    split
    · exact Nat.zero_le _
    · rw [List.length_cons]
      have := anc_len f (Vbtaac.holderOf w n)
      omega
theorem enc_len : ∀ (f n : Nat), (Vbtaac.enclosingSpaces w f n).length ≤ f
  | 0, _ => Nat.le_refl _
  | f + 1, n => by
    unfold Vbtaac.enclosingSpaces
    split
    · show 1 ≤ f + 1
      omega
    · rw [List.length_cons]
      have := enc_len f (Vbtaac.spaceOf w n)
      omega
theorem sumList_acc : ∀ (l : List Nat) (a : Nat), ((l.foldl (fun a b => a + b) a : Nat) : Int) = (a : Int) + (l.map fun (n : Nat) => (n : Int)).sum
  | [], a => by simp
  | x :: r, a => by
    rw [List.foldl_cons, sumList_acc r (a + x), List.map_cons, List.sum_cons]
    omega
theorem sumList_int (l : List Nat) : (l.map fun (n : Nat) => (n : Int)).sum = ((Vbtaac.sumList l : Nat) : Int) := by
  have := sumList_acc l 0
  unfold Vbtaac.sumList
  rw [this]
  simp
theorem counts_le {r : Nat} (h : 1 ≤ r) : Vbtaac.countsTowardLoad r = decide (r ≤ 3) := by
  unfold Vbtaac.countsTowardLoad
  rw [Bool.eq_iff_iff]
  simp
  omega
theorem counts_is (g : Good w) {n h : Nat} (hn : ex w n) (hh : 1 ≤ h) : countsM w n h = (Vbtaac.holderOf w n == h && Vbtaac.countsTowardLoad (Vbtaac.relationOf w n)) := by
  unfold countsM
  by_cases e : Vbtaac.holderOf w n = h
  · have h0 : Vbtaac.relationOf w n ≠ 0 := fun z => by
      have := (g.rel0 hn.1 hn.2).mpr z
      omega
    rw [counts_le (by omega)]
  · have : (Vbtaac.holderOf w n == h) = false := by simpa using e
    rw [this]
    rfl
theorem load_is (g : Good w) {h : Nat} (hh : 1 ≤ h) : Vbtaac.loadOf w h = Vbtaac.sumList (((Vbtaac.objectNumbers w).filter fun n => countsM w n h).map fun n => Vbtaac.bulkOf w n) := by
  unfold Vbtaac.loadOf Vbtaac.childrenOf
  rw [List.filter_filter]
  have : (Vbtaac.objectNumbers w).filter (fun n => Vbtaac.countsTowardLoad (Vbtaac.relationOf w n) && Vbtaac.holderOf w n == h) = (Vbtaac.objectNumbers w).filter fun n => countsM w n h := by
    refine List.filter_congr fun n hn => ?_
    rw [counts_is g (mem_numbers.mp hn) hh, Bool.and_comm]
  rw [this]
theorem much_is (g : Good w) {n h : Nat} (hn : ex w n) (hh : 1 ≤ h) : muchM w h (withM w h n) = !(Vbtaac.isPlace w h || decide (Vbtaac.loadOf w h + Vbtaac.bulkOf w n - (if Vbtaac.holderOf w n = h ∧ Vbtaac.countsTowardLoad (Vbtaac.relationOf w n) = true then Vbtaac.bulkOf w n else 0) ≤ Vbtaac.capacityOf w h)) := by
  unfold muchM withM
  rw [Bool.not_or]
  congr 1
  have e := counts_is g hn hh
  by_cases c : countsM w n h = true
  · rw [e] at c
    rw [Bool.and_eq_true, beq_iff_eq] at c
    rw [e, if_pos (by rw [Bool.and_eq_true, beq_iff_eq]; exact c), if_pos c, Bool.eq_iff_iff, decide_eq_true_iff, Bool.not_eq_true', decide_eq_false_iff_not]
    omega
  · rw [if_neg c]
    rw [e, Bool.and_eq_true, beq_iff_eq] at c
    rw [if_neg c, Bool.eq_iff_iff, decide_eq_true_iff, Bool.not_eq_true', decide_eq_false_iff_not]
    omega
theorem exceed_is (g : Good w) {n h r : Nat} (hn : ex w n) (hh : 1 ≤ h) (hr : 1 ≤ r) : (decide (r ≤ 3) && muchM w h (withM w h n)) = !Vbtaac.hasCapacity w h r n := by
  unfold Vbtaac.hasCapacity
  rw [counts_le hr, Bool.not_or, Bool.not_not, much_is g hn hh]
end

theorem ok_can_hold {g : Ctx} (T : Txt g) (D : DefAt g "can_hold" s_can_hold) (C_World_has_trait : H_World_has_trait g) (C_World_is_place : H_World_is_place g) : H_can_hold g := by
  refine mk_def D sc_can_hold (fun _ _ _ _ _ _ us hl => match us, hl with | [_, _, _], _ => rfl) (by rintro vs H Q E ⟨_, _, _, _, rfl, _⟩; rfl) fun f cdv A outer s H vs Q E hr h => ⟨_, (pss_cons (ps_if (pt_cmpR op_eq (pv 2) (pe_kn T.cINSIDE) (nomark _)) (pss_one (ps_ret (pe_or (pe_md C_World_is_place T.clW hr (pv 0) (pa_cons (pv 1) pa_nil)) (pe_one (pe_md C_World_has_trait T.clW hr (pv 0) (pa_cons (pv 1) (pa_cons (pe_kn T.cCONTAINER) pa_nil))))))) pss_nil) (pss_cons (ps_if (pt_cmpR op_eq (pv 2) (pe_kn T.cATOP) (nomark _)) (pss_one (ps_ret (pe_md C_World_has_trait T.clW hr (pv 0) (pa_cons (pv 1) (pa_cons (pe_kn T.cSUPPORTER) pa_nil))))) pss_nil) (pss_cons (ps_if (pt_cmpR op_eq (pv 2) (pe_kn T.cPART) (nomark _)) (pss_one (ps_ret pe_bl)) pss_nil) (pss_one (ps_ret (pe_md C_World_has_trait T.clW hr (pv 0) (pa_cons (pv 1) (pa_cons (pe_kn T.cACTOR) pa_nil)))))))), ?_⟩
  obtain ⟨L, w, h, r, rfl, hw, hh, hr, k⟩ := h
  refine q_when (b := r == 1) (et_test (ev_eq (y := iv 1) (ev_var rfl) ev_c rfl iv_eq)) (fun hb H1 e1 => ?_) (fun hb H1 e1 => ?_)
  · have hb : r = 1 := by simpa using hb
    have e : Vbtaac.canHold w h r = (Vbtaac.isPlace w h || Vbtaac.hasProperty w h Vbtaac.containerBit) := by unfold Vbtaac.canHold; rw [if_pos hb]
    rw [e] at k
    have hw1 := hw.mono e1
    exact s_ret (ev_orV (ev_wm hw1.at_ (ev_var rfl) (fun _ _ => wo_none) (ea_cons (ev_var rfl) ea_nil) (sv_is_place hw1 hh)) (fun _ => ev_wm hw1.at_ (ev_var rfl) (fun _ _ => wo_none) (ea_cons (ev_var rfl) (ea_cons ev_c ea_nil)) (sv_has_trait hw1 hh 0))) (fun H2 e2 => k H2 (e1.trans e2))
  have hb1 : r ≠ 1 := by simpa using hb
  refine q_when (b := r == 2) (et_test (ev_eq (y := iv 2) (ev_var rfl) ev_c rfl iv_eq)) (fun hb H2 e2 => ?_) (fun hb H2 e2 => ?_)
  · have hb : r = 2 := by simpa using hb
    have e : Vbtaac.canHold w h r = Vbtaac.hasProperty w h Vbtaac.supporterBit := by unfold Vbtaac.canHold; rw [if_neg hb1, if_pos hb]
    rw [e] at k
    have hw1 := hw.mono (e1.trans e2)
    exact s_ret (ev_wm hw1.at_ (ev_var rfl) (fun _ _ => wo_none) (ea_cons (ev_var rfl) (ea_cons ev_c ea_nil)) (sv_has_trait hw1 hh 1)) (fun H3 e3 => k H3 ((e1.trans e2).trans e3))
  have hb2 : r ≠ 2 := by simpa using hb
  refine q_when (b := r == 5) (et_test (ev_eq (y := iv 5) (ev_var rfl) ev_c rfl iv_eq)) (fun hb H3 e3 => ?_) (fun hb H3 e3 => ?_)
  · have hb : r = 5 := by simpa using hb
    have e : Vbtaac.canHold w h r = true := by unfold Vbtaac.canHold; rw [if_neg hb1, if_neg hb2, if_neg (by omega), hb]; rfl
    rw [e] at k
    exact s_ret ev_c (fun H4 e4 => k H4 (((e1.trans e2).trans e3).trans e4))
  have hb3 : r ≠ 5 := by simpa using hb
  have e : Vbtaac.canHold w h r = Vbtaac.hasProperty w h Vbtaac.actorBit := by unfold Vbtaac.canHold; rw [if_neg hb1, if_neg hb2, if_pos (by omega)]
  rw [e] at k
  have hw1 := hw.mono ((e1.trans e2).trans e3)
  exact s_ret (ev_wm hw1.at_ (ev_var rfl) (fun _ _ => wo_none) (ea_cons (ev_var rfl) (ea_cons ev_c ea_nil)) (sv_has_trait hw1 hh 2)) (fun H4 e4 => k H4 (((e1.trans e2).trans e3).trans e4))
theorem ok_holders_of {g : Ctx} (T : Txt g) (D : DefAt g "holders_of" s_holders_of) (C_World_thing : H_World_thing g) : H_holders_of g := by
  refine mk_def D sc_holders_of (fun _ _ _ _ _ _ us hl => match us, hl with | [_, _], _ => rfl) (by rintro vs H Q E ⟨_, _, _, rfl, _⟩; rfl) fun f cdv A outer s H vs Q E hr h => ⟨_, (pss_cons (ps_set (i := 2) sc_holders_of.nd rfl (Or.inl rfl) (pe_lst pa_nil)) (pss_cons (ps_set (i := 3) sc_holders_of.nd rfl (Or.inl rfl) (g_fld g.K (pe_md C_World_thing T.clW hr (pv 0) (pa_cons (pv 1) pa_nil)))) (pss_cons (ps_while PassesOwn.never (pt_cmpR op_ne (pv 3) pe_int (nomark _)) (pss_cons (ps_expr (g_bm g.K PySem.F.plainAttrs_list PySem.F.slot_list_append PySem.F.type_list_append mt_append (pv 2) (pa_cons (pv 3) pa_nil))) (pss_one (ps_set (i := 3) sc_holders_of.nd rfl (Or.inl rfl) (g_fld g.K (pe_md C_World_thing T.clW hr (pv 0) (pa_cons (pv 3) pa_nil))))))) (pss_one (ps_ret (pv 2)))))), ?_⟩
  obtain ⟨L, w, n, rfl, hw, hn, k⟩ := h
  obtain ⟨rk, R⟩ := hw.good.rank'
  have hold : ∀ {m : Nat} {H1 : Hp} {σ : L2.St} {i : Nat}, ex w m → Ex H H1 → σ[0]? = some (some (.ref L.a)) → σ[i]? = some (some (iv m)) → Ev (tFld g.K (tMeth g.CW "thing" (sp_World_thing g) [] E0 (tVar 0) (tCons (tVar i) tNil)) "holder") σ H1 (iv (Vbtaac.holderOf w m)) := by
    intro m H1 σ i hm e1 s0 si
    obtain ⟨x, hx⟩ := at_of hm.1 hm.2
    have hw1 := hw.mono e1
    obtain ⟨t, dt, ht1, ht2⟩ := hw1.at_.thing hx
    rw [holder_at hx]
    exact ev_fld (ev_wm hw1.at_ (ev_var s0) (fun _ _ => wo_none) (ea_cons (ev_var si) ea_nil) (sv_thing hw1 hm.1 ht1)) ht2 T.clT T.nTho th_holder
  refine q_asgL (el_lst ea_nil (Nat.zero_le _)) fun p H1 hp e1 h1 => ?_
  refine q_asg (hold hn e1 rfl rfl) fun H2 e2 => ?_
  refine q_while (fun m σ' H' => ∃ (here : Nat) (fd : List Nat), σ' = [some (.ref L.a), some (iv n), some (.ref p), some (iv here)] ∧ Ex H H' ∧ H' p = some (.lst (nv fd)) ∧ (here = 0 ∨ ex w here) ∧
      fd ++ (if here = 0 then [] else here :: Vbtaac.ancestorsOf w Vbtaac.maxObjects here) = Vbtaac.ancestorsOf w Vbtaac.maxObjects n ∧ m = if here = 0 then 0 else rk here + 1) _
    ⟨Vbtaac.holderOf w n, [], rfl, e1.trans e2, e2 _ _ h1, ?_, ?_, rfl⟩ ?_
  · by_cases h0 : Vbtaac.holderOf w n = 0
    · exact .inl h0
    · exact .inr (hw.good.holder_ok h0)
  · by_cases h0 : Vbtaac.holderOf w n = 0
    · rw [if_pos h0, anc_zero hw.good h0]
      rfl
    · rw [if_neg h0, anc_step hw.good h0]
      rfl
  · rintro m σ' H' ⟨here, fd, rfl, e3, h3, ho, ha, rfl⟩
    refine ⟨!(here == 0), et_test (ev_ne (y := iv 0) (ev_var rfl) ev_c rfl (by rw [iv_eq])), fun hb H4 e4 => ⟨_, fun _ _ q => q, ?_⟩, fun hb H4 e4 => ?_⟩
    · have h0 : here ≠ 0 := by simpa using hb
      have hex : ex w here := ho.resolve_left h0
      rw [if_neg h0] at ha
      have hl := anc_len (w := w) Vbtaac.maxObjects n
      rw [← ha, List.length_append] at hl
      have hm60 : Vbtaac.maxObjects = 60 := rfl
      refine q_app (e4 _ _ h3) (ev_var rfl) (ev_var rfl) (by rw [List.length_map]; omega) fun H5 e5 => ?_
      have e6 : Ex H (upd H5 p (.lst (nv fd ++ [iv here]))) := Ex.mut ((e3.trans e4).trans e5) hp
      refine s_asg (hold hex e6 rfl rfl) fun H7 e7 => ?_
      refine ⟨_, ?_, Vbtaac.holderOf w here, fd ++ [here], rfl, e6.trans e7, ?_, ?_, ?_, rfl⟩
      · rw [if_neg h0]
        split
        · omega
        · rename_i z
          have := R.dec here z
          omega
      · rw [e7 _ _ upd_same]
        unfold nv
        rw [List.map_append]
        rfl
      · by_cases z : Vbtaac.holderOf w here = 0
        · exact .inl z
        · exact .inr (hw.good.holder_ok z)
      · rw [← ha, List.append_assoc]
        refine congrArg _ ?_
        show here :: _ = here :: _
        refine congrArg _ ?_
        by_cases z : Vbtaac.holderOf w here = 0
        · rw [if_pos z, anc_zero hw.good z]
          rfl
        · rw [if_neg z, anc_step hw.good z]
          rfl
    · have h0 : here = 0 := by simpa using hb
      rw [if_pos h0, List.append_nil] at ha
      refine s_ret (v := .ref p) (ev_var rfl) fun H5 e5 => ?_
      refine k p H5 hp ((e3.trans e4).trans e5) ?_
      rw [← ha]
      exact e5 _ _ (e4 _ _ h3)
theorem ok_is_within {g : Ctx} (T : Txt g) (D : DefAt g "is_within" s_is_within) (C_holders_of : H_holders_of g) : H_is_within g := by
  refine mk_def D sc_is_within (fun _ _ _ _ _ _ us hl => match us, hl with | [_, _, _], _ => rfl) (by rintro vs H Q E ⟨_, _, _, _, rfl, _⟩; rfl) fun f cdv A outer s H vs Q E hr h => ⟨_, (pss_one (ps_ret (pe_cmpR (g_in g.K) (pv 2) (pe_fn C_holders_of hr (pa_cons (pv 0) (pa_cons (pv 1) pa_nil))) (by rfl)))), ?_⟩
  obtain ⟨L, w, n, h, rfl, hw, hn, k⟩ := h
  have e : Vbtaac.isWithin w n h = inV (iv h) (nv (Vbtaac.ancestorsOf w Vbtaac.maxObjects n)) := inV_nv.symm
  rw [e] at k
  exact s_ret (ev_inN (ev_var rfl) (el_fn (ea_cons (ev_var rfl) (ea_cons (ev_var rfl) ea_nil)) (sl_holders hw hn)) rfl (nv_flat _)) k
theorem ok_does_count {g : Ctx} (T : Txt g) (D : DefAt g "does_count" s_does_count) (C_World_thing : H_World_thing g) : H_does_count g := by
  refine mk_def D sc_does_count (fun _ _ _ _ _ _ us hl => match us, hl with | [_, _, _], _ => rfl) (by rintro vs H Q E ⟨_, _, _, _, rfl, _⟩; rfl) fun f cdv A outer s H vs Q E hr h => ⟨_, (pss_cons (ps_set (i := 3) sc_does_count.nd rfl (Or.inl rfl) (pe_md C_World_thing T.clW hr (pv 0) (pa_cons (pv 1) pa_nil))) (pss_one (ps_ret (pe_and (pe_cmpR op_eq (g_fld g.K (pv 3)) (pv 2) (nomark _)) (pe_one (pe_cmpR op_le (g_fld g.K (pv 3)) (pe_kn T.cHELD) (nomark _))))))), ?_⟩
  obtain ⟨L, w, n, h, rfl, hw, hn, k⟩ := h
  obtain ⟨x, hx⟩ := at_of hn.1 hn.2
  obtain ⟨t, dt, ht1, ht2⟩ := hw.at_.thing hx
  refine q_asg (ev_wm hw.at_ (ev_var rfl) (fun _ _ => wo_none) (ea_cons (ev_var rfl) ea_nil) (sv_thing hw hn.1 ht1)) fun H1 e1 => ?_
  have ht3 := e1 _ _ ht2
  unfold countsM at k
  rw [holder_at hx, relation_at hx] at k
  refine s_ret (ev_andV (ev_eq (y := iv h) (ev_fld (ev_var rfl) ht3 T.clT T.nTho th_holder) (ev_var rfl) rfl iv_eq) (fun _ => ev_I (ev_fld (ev_var rfl) ht3 T.clT T.nTre th_relation) ev_c ?_)) (fun H2 e2 => k H2 (e1.trans e2))
  refine congrArg V.bl ?_
  rw [Bool.eq_iff_iff, decide_eq_true_iff, decide_eq_true_iff]
  omega
theorem ok_load_of {g : Ctx} (T : Txt g) (D : DefAt g "load_of" s_load_of) (C_World_thing : H_World_thing g) (C_World_numbers : H_World_numbers g) (C_does_count : H_does_count g) : H_load_of g := by
  refine mk_def D sc_load_of (fun _ _ _ _ _ _ us hl => match us, hl with | [_, _], _ => rfl) (by rintro vs H Q E ⟨_, _, _, rfl, _⟩; rfl) fun f cdv A outer s H vs Q E hr h => ⟨_, (pss_one (ps_ret (pe_callB (g_sum g.K) (by rfl) T.sum (by decide +kernel) (pa_cons (pe_lc (own := [("n", 2)]) rfl sc_load_of.nd (gi_list g.K (pe_md0 C_World_numbers T.clW hr (pv 0))) (blkOk_by (own := [("n", 2)]) (N := ["world", "h", "n"]) (sc := defScope s_load_of) (by decide +kernel)) (fun _ _ _ _ _ => (pg_name (i := 2) sc_load_of.nd rfl (Or.inl rfl))) (fun _ _ _ _ _ => (pts_one (pt_val (pe_fn C_does_count hr (pa_cons (pv 0) (pa_cons (pv 2) (pa_cons (pv 1) pa_nil))))))) (fun _ _ _ _ _ => (g_fld g.K (pe_md C_World_thing T.clW hr (pv 0) (pa_cons (pv 2) pa_nil))))) pa_nil)))), ?_⟩
  obtain ⟨L, w, h, rfl, hw, hh, k⟩ := h
  have hc := hw.good.cnt
  refine s_ret (ev_sumN (ns := (((Vbtaac.objectNumbers w).filter fun n => countsM w n h).map fun n => Vbtaac.bulkOf w n).map fun (n : Nat) => (n : Int)) ?_ ?_) k
  · rw [List.map_map, List.map_map]
    refine el_lcN (Vbtaac.objectNumbers w) iv (fun n => countsM w n h) (fun n => iv (Vbtaac.bulkOf w n)) (el_wm hw.at_ (ev_var rfl) (fun _ _ => wo_none) ea_nil (sl_numbers hw)) (by rw [numbers_length]; omega) (fun _ => rfl) (fun n hn H1 e1 => ?_) (fun n hn _ H1 e1 => ?_)
    · have hw1 := hw.mono e1
      exact et_B (ev_fn (ea_cons (ev_var rfl) (ea_cons (ev_var rfl) (ea_cons (ev_var rfl) ea_nil))) (sv_does_count hw1 (mem_numbers.mp hn)))
    · have hw1 := hw.mono e1
      have hn := mem_numbers.mp hn
      obtain ⟨x, hx⟩ := at_of hn.1 hn.2
      obtain ⟨t, dt, ht1, ht2⟩ := hw1.at_.thing hx
      rw [bulk_at hx]
      exact ev_fld (ev_wm hw1.at_ (ev_var rfl) (fun _ _ => wo_none) (ea_cons (ev_var rfl) ea_nil) (sv_thing hw1 hn.1 ht1)) ht2 T.clT T.nTbu th_bulk
  · rw [sumList_int, load_is hw.good hh.1]
theorem ok_is_too_much {g : Ctx} (T : Txt g) (D : DefAt g "is_too_much" s_is_too_much) (C_World_is_place : H_World_is_place g) (C_World_thing : H_World_thing g) : H_is_too_much g := by
  refine mk_def D sc_is_too_much (fun _ _ _ _ _ _ us hl => match us, hl with | [_, _, _], _ => rfl) (by rintro vs H Q E ⟨_, _, _, _, rfl, _⟩; rfl) fun f cdv A outer s H vs Q E hr h => ⟨_, (pss_one (ps_ret (pe_and (pe_not (pe_md C_World_is_place T.clW hr (pv 0) (pa_cons (pv 1) pa_nil))) (pe_one (pe_cmpR op_gt (pv 2) (g_fld g.K (pe_md C_World_thing T.clW hr (pv 0) (pa_cons (pv 1) pa_nil))) (nomark _)))))), ?_⟩
  obtain ⟨L, w, h, l, rfl, hw, hh, k⟩ := h
  obtain ⟨x, hx⟩ := at_of hh.1 hh.2
  obtain ⟨t, dt, ht1, ht2⟩ := hw.at_.thing hx
  unfold muchM at k
  rw [capacity_at hx] at k
  refine s_ret (ev_andV (ev_notV (ev_wm hw.at_ (ev_var rfl) (fun _ _ => wo_none) (ea_cons (ev_var rfl) ea_nil) (sv_is_place hw hh)))
    (fun _ => ev_I (ev_var rfl) (ev_fld (ev_wm hw.at_ (ev_var rfl) (fun _ _ => wo_none) (ea_cons (ev_var rfl) ea_nil) (sv_thing hw hh.1 ht1)) ht2 T.clT T.nTca th_capacity) ?_)) k
  refine congrArg V.bl ?_
  rw [Bool.eq_iff_iff, decide_eq_true_iff, decide_eq_true_iff]
  omega
theorem ok_load_with {g : Ctx} (T : Txt g) (D : DefAt g "load_with" s_load_with) (C_load_of : H_load_of g) (C_does_count : H_does_count g) (C_World_thing : H_World_thing g) : H_load_with g := by
  refine mk_def D sc_load_with (fun _ _ _ _ _ _ us hl => match us, hl with | [_, _, _], _ => rfl) (by rintro vs H Q E ⟨_, _, _, _, rfl, _⟩; rfl) fun f cdv A outer s H vs Q E hr h => ⟨_, (pss_cons (ps_set (i := 3) sc_load_with.nd rfl (Or.inl rfl) (pe_fn C_load_of hr (pa_cons (pv 0) (pa_cons (pv 1) pa_nil)))) (pss_cons (ps_if (pt_val (pe_fn C_does_count hr (pa_cons (pv 0) (pa_cons (pv 2) (pa_cons (pv 1) pa_nil))))) (pss_one (ps_ret (pv 3))) pss_nil) (pss_one (ps_ret (pe_op op_add (pv 3) (g_fld g.K (pe_md C_World_thing T.clW hr (pv 0) (pa_cons (pv 2) pa_nil)))))))), ?_⟩
  obtain ⟨L, w, h, n, rfl, hw, hh, hn, k⟩ := h
  obtain ⟨x, hx⟩ := at_of hn.1 hn.2
  refine q_asg (ev_fn (ea_cons (ev_var rfl) (ea_cons (ev_var rfl) ea_nil)) (sv_load_of hw hh)) fun H1 e1 => ?_
  have hw1 := hw.mono e1
  unfold withM at k
  refine q_when (b := countsM w n h) (et_B (ev_fn (ea_cons (ev_var rfl) (ea_cons (ev_var rfl) (ea_cons (ev_var rfl) ea_nil))) (sv_does_count hw1 hn))) (fun hb H2 e2 => ?_) (fun hb H2 e2 => ?_)
  · rw [if_pos hb] at k
    exact s_ret (ev_var rfl) (fun H3 e3 => k H3 ((e1.trans e2).trans e3))
  · rw [if_neg (by rw [hb]; exact Bool.false_ne_true), bulk_at hx] at k
    have hw2 := hw1.mono e2
    obtain ⟨t, dt, ht1, ht2⟩ := hw2.at_.thing hx
    refine s_ret (ev_I (ev_var rfl) (ev_fld (ev_wm hw2.at_ (ev_var rfl) (fun _ _ => wo_none) (ea_cons (ev_var rfl) ea_nil) (sv_thing hw2 hn.1 ht1)) ht2 T.clT T.nTbu th_bulk) ?_) (fun H3 e3 => k H3 ((e1.trans e2).trans e3))
    refine congrArg V.int ?_
    omega
theorem ok_would_exceed {g : Ctx} (T : Txt g) (D : DefAt g "would_exceed" s_would_exceed) (C_is_too_much : H_is_too_much g) (C_load_with : H_load_with g) : H_would_exceed g := by
  refine mk_def D sc_would_exceed (fun _ _ _ _ _ _ us hl => match us, hl with | [_, _, _, _], _ => rfl) (by rintro vs H Q E ⟨_, _, _, _, _, rfl, _⟩; rfl) fun f cdv A outer s H vs Q E hr h => ⟨_, (pss_one (ps_ret (pe_and (pe_cmpR op_le (pv 3) (pe_kn T.cHELD) (nomark _)) (pe_one (pe_fn C_is_too_much hr (pa_cons (pv 0) (pa_cons (pv 2) (pa_cons (pe_fn C_load_with hr (pa_cons (pv 0) (pa_cons (pv 2) (pa_cons (pv 1) pa_nil)))) pa_nil)))))))), ?_⟩
  obtain ⟨L, w, n, h, r, rfl, hw, hn, hh, hr, k⟩ := h
  rw [← exceed_is hw.good hn hh.1 hr] at k
  refine s_ret (ev_andV (ev_I (ev_var rfl) ev_c ?_) (fun _ => ev_fn (ea_cons (ev_var rfl) (ea_cons (ev_var rfl) (ea_cons (ev_fn (ea_cons (ev_var rfl) (ea_cons (ev_var rfl) (ea_cons (ev_var rfl) ea_nil))) (sv_load_with hw hh hn)) ea_nil))) (sv_too_much hw hh))) k
  refine congrArg V.bl ?_
  rw [Bool.eq_iff_iff, decide_eq_true_iff, decide_eq_true_iff]
  omega
end Sg
set_option Elab.async false
set_option linter.all false
set_option maxRecDepth 100000
set_option maxHeartbeats 4000000
/-! SgN2: the defs of nest, further: spaces, carrying, landing. -/
namespace Sg
open PySem PySem.Spec PyProof.Rows L2 Evl

section
variable {w : Wd}
theorem enc_len2 : ∀ (f n : Nat), (Vbtaac.enclosingSpaces w f n).length ≤ f
  | 0, _ => Nat.le_refl _
  | f + 1, n => by
    unfold Vbtaac.enclosingSpaces
    split
    · show 1 ≤ f + 1
      omega
    · rw [List.length_cons]
      have := enc_len2 f (Vbtaac.spaceOf w n)
      omega
theorem rel_of_np {n : Nat} (hn : ex w n) (h : Vbtaac.isPlace w n = false) : Vbtaac.relationOf w n ≠ 0 := by
  rw [isPlace_rel hn.1 hn.2] at h
  exact of_decide_eq_false h
theorem hold_of_np (g : Good w) {n : Nat} (hn : ex w n) (h : Vbtaac.isPlace w n = false) : Vbtaac.holderOf w n ≠ 0 := fun z => rel_of_np hn h ((g.rel0 hn.1 hn.2).mp z)
theorem rel_of_p {n : Nat} (hn : ex w n) (h : Vbtaac.isPlace w n = true) : Vbtaac.relationOf w n = 0 := by
  rw [isPlace_rel hn.1 hn.2] at h
  exact of_decide_eq_true h
end
section
variable {g : Ctx} {L : Lay} {H : Hp} {w : Wd}
/-- the object of a number, its fields -/
theorem thing_at (hw : WG g L H w) {n : Nat} (hn : ex w n) : ∃ t dt x, Vbtaac.objectAt w n = some x ∧ L.its[n - 1]? = some t ∧ ∀ H', Ex H H' → H' t = some (.ins g.CT dt (thF x)) := by
  obtain ⟨x, hx⟩ := at_of hn.1 hn.2
  obtain ⟨t, dt, h1, h2⟩ := hw.at_.thing hx
  exact ⟨t, dt, x, hx, h1, fun H' e => e _ _ h2⟩
end

theorem ok_lies_in {g : Ctx} (T : Txt g) (D : DefAt g "lies_in" s_lies_in) (C_World_is_place : H_World_is_place g) (C_World_thing : H_World_thing g) : H_lies_in g := by
  refine mk_def D sc_lies_in (fun _ _ _ _ _ _ us hl => match us, hl with | [_, _], _ => rfl) (by rintro vs H Q E ⟨_, _, _, rfl, _⟩; rfl) fun f cdv A outer s H vs Q E hr h => ⟨_, (pss_cons (ps_set (i := 2) sc_lies_in.nd rfl (Or.inl rfl) (pv 1)) (pss_cons (ps_while PassesOwn.never (pt_not (pt_val (pe_md C_World_is_place T.clW hr (pv 0) (pa_cons (pv 2) pa_nil)))) (pss_cons (ps_set (i := 3) sc_lies_in.nd rfl (Or.inl rfl) (pe_md C_World_thing T.clW hr (pv 0) (pa_cons (pv 2) pa_nil))) (pss_cons (ps_if (pt_cmpR op_eq (g_fld g.K (pv 3)) (pe_kn T.cINSIDE) (nomark _)) (pss_one (ps_ret (g_fld g.K (pv 3)))) pss_nil) (pss_one (ps_set (i := 2) sc_lies_in.nd rfl (Or.inl rfl) (g_fld g.K (pv 3))))))) (pss_one (ps_ret (pv 2))))), ?_⟩
  obtain ⟨L, w, n, rfl, hw, hn, k⟩ := h
  obtain ⟨rk, R⟩ := hw.good.rank'
  refine q_asg (v := iv n) (ev_var rfl) fun H1 e1 => ?_
  refine q_while (fun m σ' H' => ∃ (here : Nat) (o : Option V), σ' = [some (.ref L.a), some (iv n), some (iv here), o] ∧ Ex H H' ∧ ex w here ∧ Vbtaac.spaceOf w here = Vbtaac.spaceOf w n ∧ m = rk here) _ ⟨n, none, rfl, e1, hn, rfl, rfl⟩ ?_
  rintro m σ' H' ⟨here, o, rfl, e2, hh, hs, rfl⟩
  have hw2 := hw.mono e2
  refine ⟨!Vbtaac.isPlace w here, et_not (et_B (ev_wm hw2.at_ (ev_var rfl) (fun _ _ => wo_none) (ea_cons (ev_var rfl) ea_nil) (sv_is_place hw2 hh))), fun hb H3 e3 => ⟨_, fun _ _ q => q, ?_⟩, fun hb H3 e3 => ?_⟩
  · have hp : Vbtaac.isPlace w here = false := by simpa using hb
    have hw3 := hw2.mono e3
    obtain ⟨t, dt, x, hx, ht1, ht2⟩ := thing_at hw3 hh
    have hr0 := rel_of_np hh hp
    have hh0 := hold_of_np hw.good hh hp
    have hstep := spc_step hw.good hh.1 hh.2
    rw [if_neg hr0] at hstep
    refine q_asg (ev_wm hw3.at_ (ev_var rfl) (fun _ _ => wo_none) (ea_cons (ev_var rfl) ea_nil) (sv_thing hw3 hh.1 ht1)) fun H4 e4 => ?_
    refine q_when (b := Vbtaac.relationOf w here == 1) (et_test (ev_eq (y := iv 1) (ev_fld (ev_var rfl) (ht2 _ e4) T.clT T.nTre th_relation) ev_c rfl (by rw [relation_at hx]; exact iv_eq))) (fun hb2 H5 e5 => ?_) (fun hb2 H5 e5 => ?_)
    · have h1 : Vbtaac.relationOf w here = 1 := by simpa using hb2
      rw [if_pos h1, hs] at hstep
      refine s_ret (ev_fld (ev_var rfl) (ht2 _ (e4.trans e5)) T.clT T.nTho th_holder) fun H6 e6 => ?_
      rw [← holder_at hx, ← hstep]
      exact k H6 ((((e2.trans e3).trans e4).trans e5).trans e6)
    · have h1 : Vbtaac.relationOf w here ≠ 1 := by simpa using hb2
      rw [if_neg h1, hs] at hstep
      refine s_asg (ev_fld (ev_var rfl) (ht2 _ (e4.trans e5)) T.clT T.nTho th_holder) fun H6 e6 => ?_
      rw [← holder_at hx]
      exact ⟨_, R.dec here hh0, Vbtaac.holderOf w here, _, rfl, (((e2.trans e3).trans e4).trans e5).trans e6, hw.good.holder_ok hh0, hstep.symm, rfl⟩
  · have hp : Vbtaac.isPlace w here = true := by simpa using hb
    refine s_ret (v := iv here) (ev_var rfl) fun H4 e4 => ?_
    rw [spc_place hw.good hp] at hs
    rw [hs]
    exact k H4 ((e2.trans e3).trans e4)
theorem ok_met_in {g : Ctx} (T : Txt g) (D : DefAt g "met_in" s_met_in) (C_World_is_box : H_World_is_box g) (C_lies_in : H_lies_in g) : H_met_in g := by
  refine mk_def D sc_met_in (fun _ _ _ _ _ _ us hl => match us, hl with | [_, _], _ => rfl) (by rintro vs H Q E ⟨_, _, _, rfl, _⟩; rfl) fun f cdv A outer s H vs Q E hr h => ⟨_, (pss_cons (ps_if (pt_val (pe_md C_World_is_box T.clW hr (pv 0) (pa_cons (pv 1) pa_nil))) (pss_one (ps_ret (pe_lst (pa_cons (pe_fn C_lies_in hr (pa_cons (pv 0) (pa_cons (pv 1) pa_nil))) (pa_cons (pv 1) pa_nil))))) pss_nil) (pss_one (ps_ret (pe_lst (pa_cons (pe_fn C_lies_in hr (pa_cons (pv 0) (pa_cons (pv 1) pa_nil))) pa_nil))))), ?_⟩
  obtain ⟨L, w, n, rfl, hw, hn, k⟩ := h
  refine q_when (b := Vbtaac.hasProperty w n Vbtaac.containerBit && !Vbtaac.isPlace w n) (et_B (ev_wm hw.at_ (ev_var rfl) (fun _ _ => wo_none) (ea_cons (ev_var rfl) ea_nil) (sv_is_box hw hn))) (fun hb H1 e1 => ?_) (fun hb H1 e1 => ?_)
  · rw [Bool.and_eq_true, Bool.not_eq_true'] at hb
    have e : Vbtaac.meetingSpaces w n = [Vbtaac.spaceOf w n, n] := by unfold Vbtaac.meetingSpaces; rw [if_neg (by rw [hb.2]; exact Bool.false_ne_true), if_pos hb.1]
    rw [e] at k
    have hw1 := hw.mono e1
    exact s_retL (el_lst (ea_cons (ev_fn (ea_cons (ev_var rfl) (ea_cons (ev_var rfl) ea_nil)) (sv_lies_in hw1 hn)) (ea_cons (ev_var rfl) ea_nil)) (by show 2 ≤ 100000; decide)) fun p H2 hp e2 h2 => k p H2 (fresh_back e1 hp) (e1.trans e2) h2
  · have e : Vbtaac.meetingSpaces w n = [Vbtaac.spaceOf w n] := by
      unfold Vbtaac.meetingSpaces
      by_cases c : Vbtaac.isPlace w n = true
      · rw [if_pos c, spc_place hw.good c]
      · have c' : Vbtaac.isPlace w n = false := by simpa using c
        rw [if_neg c]
        rw [c', Bool.not_false, Bool.and_true] at hb
        rw [if_neg (by rw [hb]; exact Bool.false_ne_true)]
    rw [e] at k
    have hw1 := hw.mono e1
    exact s_retL (el_lst (ea_cons (ev_fn (ea_cons (ev_var rfl) (ea_cons (ev_var rfl) ea_nil)) (sv_lies_in hw1 hn)) ea_nil) (by show 1 ≤ 100000; decide)) fun p H2 hp e2 h2 => k p H2 (fresh_back e1 hp) (e1.trans e2) h2
theorem ok_enclosing {g : Ctx} (T : Txt g) (D : DefAt g "enclosing" s_enclosing) (C_lies_in : H_lies_in g) (C_World_is_place : H_World_is_place g) : H_enclosing g := by
  refine mk_def D sc_enclosing (fun _ _ _ _ _ _ us hl => match us, hl with | [_, _], _ => rfl) (by rintro vs H Q E ⟨_, _, _, rfl, _⟩; rfl) fun f cdv A outer s H vs Q E hr h => ⟨_, (pss_cons (ps_set (i := 2) sc_enclosing.nd rfl (Or.inl rfl) (pe_fn C_lies_in hr (pa_cons (pv 0) (pa_cons (pv 1) pa_nil)))) (pss_cons (ps_set (i := 3) sc_enclosing.nd rfl (Or.inl rfl) (pe_lst (pa_cons (pv 2) pa_nil))) (pss_cons (ps_while PassesOwn.never (pt_not (pt_val (pe_md C_World_is_place T.clW hr (pv 0) (pa_cons (pv 2) pa_nil)))) (pss_cons (ps_set (i := 2) sc_enclosing.nd rfl (Or.inl rfl) (pe_fn C_lies_in hr (pa_cons (pv 0) (pa_cons (pv 2) pa_nil)))) (pss_one (ps_expr (g_bm g.K PySem.F.plainAttrs_list PySem.F.slot_list_append PySem.F.type_list_append mt_append (pv 3) (pa_cons (pv 2) pa_nil)))))) (pss_one (ps_ret (pv 3)))))), ?_⟩
  obtain ⟨L, w, n, rfl, hw, hn, k⟩ := h
  obtain ⟨rk, R⟩ := hw.good.rank'
  have hl := enc_len2 (w := w) (Vbtaac.maxObjects + 1) (Vbtaac.spaceOf w n)
  have hm60 : Vbtaac.maxObjects = 60 := rfl
  have hs0 := spc_ok hw.good hn.1 hn.2
  refine q_asg (ev_fn (ea_cons (ev_var rfl) (ea_cons (ev_var rfl) ea_nil)) (sv_lies_in hw hn)) fun H1 e1 => ?_
  refine q_asgL (el_lst (ea_cons (ev_var rfl) ea_nil) (by show 1 ≤ 100000; decide)) fun p H2 hp e2 h2 => ?_
  have hpH := fresh_back e1 hp
  refine q_while (fun m σ' H' => ∃ (here : Nat) (pre : List Nat), σ' = [some (.ref L.a), some (iv n), some (iv here), some (.ref p)] ∧ Ex H H' ∧ H' p = some (.lst (nv (pre ++ [here]))) ∧ ex w here ∧
      pre ++ Vbtaac.enclosingSpaces w (Vbtaac.maxObjects + 1) here = Vbtaac.enclosingSpaces w (Vbtaac.maxObjects + 1) (Vbtaac.spaceOf w n) ∧ m = rk here) _ ⟨Vbtaac.spaceOf w n, [], rfl, e1.trans e2, h2, hs0, rfl, rfl⟩ ?_
  rintro m σ' H' ⟨here, pre, rfl, e3, h3, hh, he, rfl⟩
  have hw3 := hw.mono e3
  refine ⟨!Vbtaac.isPlace w here, et_not (et_B (ev_wm hw3.at_ (ev_var rfl) (fun _ _ => wo_none) (ea_cons (ev_var rfl) ea_nil) (sv_is_place hw3 hh))), fun hb H4 e4 => ⟨_, fun _ _ q => q, ?_⟩, fun hb H4 e4 => ?_⟩
  · have hpl : Vbtaac.isPlace w here = false := by simpa using hb
    rw [enc_step hw.good hh.1 hh.2, if_neg (by rw [hpl]; exact Bool.false_ne_true)] at he
    have hw4 := hw3.mono e4
    have hs := spc_ok hw.good hh.1 hh.2
    refine q_asg (ev_fn (ea_cons (ev_var rfl) (ea_cons (ev_var rfl) ea_nil)) (sv_lies_in hw4 hh)) fun H5 e5 => ?_
    have hlen : pre.length + 1 ≤ 61 := by
      rw [← he, List.length_append, List.length_cons] at hl
      omega
    refine s_app (e5 _ _ (e4 _ _ h3)) (ev_var rfl) (ev_var (v := iv (Vbtaac.spaceOf w here)) rfl) (by rw [List.length_map, List.length_append]; show pre.length + 1 < 100000; omega) fun H6 e6 => ?_
    refine ⟨_, spc_dec hw.good hh.1 hh.2 hpl R, Vbtaac.spaceOf w here, pre ++ [here], rfl, Ex.mut (((e3.trans e4).trans e5).trans e6) hpH, ?_, hs, ?_, rfl⟩
    · rw [upd_same]
      unfold nv
      rw [List.map_append (l₁ := pre ++ [here])]
      rfl
    · rw [← he, List.append_assoc]
      rfl
  · have hpl : Vbtaac.isPlace w here = true := by simpa using hb
    rw [enc_step hw.good hh.1 hh.2, if_pos hpl] at he
    refine s_ret (v := .ref p) (ev_var rfl) fun H5 e5 => ?_
    refine k p H5 hpH ((e3.trans e4).trans e5) ?_
    rw [← he]
    exact e5 _ _ (e4 _ _ h3)
theorem ok_does_carry {g : Ctx} (T : Txt g) (D : DefAt g "does_carry" s_does_carry) (C_World_thing : H_World_thing g) : H_does_carry g := by
  refine mk_def D sc_does_carry (fun _ _ _ _ _ _ us hl => match us, hl with | [_, _, _], _ => rfl) (by rintro vs H Q E ⟨_, _, _, _, rfl, _⟩; rfl) fun f cdv A outer s H vs Q E hr h => ⟨_, (pss_cons (ps_set (i := 3) sc_does_carry.nd rfl (Or.inl rfl) (pv 2)) (pss_cons (ps_while PassesOwn.never (pt_cmpR op_ne (pv 3) (pv 1) (nomark _)) (pss_cons (ps_set (i := 4) sc_does_carry.nd rfl (Or.inl rfl) (pe_md C_World_thing T.clW hr (pv 0) (pa_cons (pv 3) pa_nil))) (pss_cons (ps_if (PW.pt (pw_or (pt_cmpR op_eq (g_fld g.K (pv 4)) pe_int (nomark _)) (pw_or1 (pt_cmpR op_eq (g_fld g.K (pv 4)) (pe_kn T.cINSIDE) (nomark _))))) (pss_one (ps_ret pe_bl)) pss_nil) (pss_one (ps_set (i := 3) sc_does_carry.nd rfl (Or.inl rfl) (g_fld g.K (pv 4))))))) (pss_one (ps_ret pe_bl)))), ?_⟩
  obtain ⟨L, w, v, x, rfl, hw, hx, k⟩ := h
  obtain ⟨rk, R⟩ := hw.good.rank'
  refine q_asg (v := iv x) (ev_var rfl) fun H1 e1 => ?_
  refine q_while (fun m σ' H' => ∃ (here : Nat) (o : Option V), σ' = [some (.ref L.a), some (iv v), some (iv x), some (iv here), o] ∧ Ex H H' ∧ ex w here ∧ Vbtaac.isCarried w v here = Vbtaac.isCarried w v x ∧ m = rk here) _ ⟨x, none, rfl, e1, hx, rfl, rfl⟩ ?_
  rintro m σ' H' ⟨here, o, rfl, e2, hh, hs, rfl⟩
  have hw2 := hw.mono e2
  have hstep := car_step hw.good (v := v) hh.1 hh.2
  refine ⟨!(here == v), et_test (ev_ne (y := iv v) (ev_var rfl) (ev_var rfl) rfl (by rw [iv_eq])), fun hb H3 e3 => ⟨_, fun _ _ q => q, ?_⟩, fun hb H3 e3 => ?_⟩
  · have hv : (here == v) = false := by simpa using hb
    rw [hv, Bool.false_or, hs] at hstep
    have hw3 := hw2.mono e3
    obtain ⟨t, dt, y, hy, ht1, ht2⟩ := thing_at hw3 hh
    refine q_asg (ev_wm hw3.at_ (ev_var rfl) (fun _ _ => wo_none) (ea_cons (ev_var rfl) ea_nil) (sv_thing hw3 hh.1 ht1)) fun H4 e4 => ?_
    refine q_when (b := Vbtaac.holderOf w here == 0 || Vbtaac.relationOf w here == 1) (et_or (et_test (ev_eq (y := iv 0) (ev_fld (ev_var rfl) (ht2 _ e4) T.clT T.nTho th_holder) ev_c rfl (by rw [holder_at hy]; exact iv_eq)))
      (fun _ => et_test (ev_eq (y := iv 1) (ev_fld (ev_var rfl) (ht2 _ e4) T.clT T.nTre th_relation) ev_c rfl (by rw [relation_at hy]; exact iv_eq)))) (fun hb2 H5 e5 => ?_) (fun hb2 H5 e5 => ?_)
    · have e : Vbtaac.isCarried w v x = false := by
        rw [hstep]
        rw [Bool.or_eq_true, beq_iff_eq, beq_iff_eq] at hb2
        rcases hb2 with z | z
        · have := (hw.good.rel0 hh.1 hh.2).mp z
          rw [this]
          rfl
        · rw [z]
          rfl
      rw [e] at k
      exact s_ret ev_c fun H6 e6 => k H6 ((((e2.trans e3).trans e4).trans e5).trans e6)
    · rw [Bool.or_eq_false_iff] at hb2
      have h0 : Vbtaac.holderOf w here ≠ 0 := by simpa using hb2.1
      have h1 : Vbtaac.relationOf w here ≠ 1 := by simpa using hb2.2
      have h2 : Vbtaac.relationOf w here ≠ 0 := fun z => h0 ((hw.good.rel0 hh.1 hh.2).mpr z)
      refine s_asg (ev_fld (ev_var rfl) (ht2 _ (e4.trans e5)) T.clT T.nTho th_holder) fun H6 e6 => ?_
      rw [← holder_at hy]
      refine ⟨_, R.dec here h0, Vbtaac.holderOf w here, _, rfl, (((e2.trans e3).trans e4).trans e5).trans e6, hw.good.holder_ok h0, ?_, rfl⟩
      have e0 : (Vbtaac.relationOf w here != 0) = true := bne_iff_ne.mpr h2
      have e1 : (Vbtaac.relationOf w here != 1) = true := bne_iff_ne.mpr h1
      rw [hstep, e0, e1, Bool.true_and, Bool.true_and]
  · have hv : (here == v) = true := by simpa using hb
    rw [hv, Bool.true_or, hs] at hstep
    rw [hstep] at k
    exact s_ret ev_c fun H4 e4 => k H4 ((e2.trans e3).trans e4)
theorem ok_landing {g : Ctx} (T : Txt g) (D : DefAt g "landing" s_landing) (C_World_is_place : H_World_is_place g) (C_World_thing : H_World_thing g) : H_landing g := by
  refine mk_def D sc_landing (fun _ _ _ _ _ _ us hl => match us, hl with | [_, _], _ => rfl) (by rintro vs H Q E ⟨_, _, _, rfl, _⟩; rfl) fun f cdv A outer s H vs Q E hr h => ⟨_, (pss_cons (ps_set (i := 2) sc_landing.nd rfl (Or.inl rfl) (pv 1)) (pss_cons (ps_while PassesOwn.never (pt_not (pt_val (pe_md C_World_is_place T.clW hr (pv 0) (pa_cons (pv 2) pa_nil)))) (pss_cons (ps_set (i := 3) sc_landing.nd rfl (Or.inl rfl) (pe_md C_World_thing T.clW hr (pv 0) (pa_cons (pv 2) pa_nil))) (pss_cons (ps_if (PW.pt (pw_or (pt_cmpR op_eq (g_fld g.K (pv 3)) (pe_kn T.cINSIDE) (nomark _)) (pw_or1 (pt_cmpR op_eq (g_fld g.K (pv 3)) (pe_kn T.cATOP) (nomark _))))) (pss_one (ps_ret (pe_tup (pa_cons (g_fld g.K (pv 3)) (pa_cons (g_fld g.K (pv 3)) pa_nil))))) pss_nil) (pss_one (ps_set (i := 2) sc_landing.nd rfl (Or.inl rfl) (g_fld g.K (pv 3))))))) (pss_one (ps_ret (pe_tup (pa_cons (pv 2) (pa_cons (pe_kn T.cINSIDE) pa_nil))))))), ?_⟩
  obtain ⟨L, w, n, rfl, hw, hn, k⟩ := h
  obtain ⟨rk, R⟩ := hw.good.rank'
  refine q_asg (v := iv n) (ev_var rfl) fun H1 e1 => ?_
  refine q_while (fun m σ' H' => ∃ (here : Nat) (o : Option V), σ' = [some (.ref L.a), some (iv n), some (iv here), o] ∧ Ex H H' ∧ ex w here ∧ Vbtaac.dropTarget w Vbtaac.maxObjects here = Vbtaac.dropTarget w Vbtaac.maxObjects n ∧ m = rk here) _ ⟨n, none, rfl, e1, hn, rfl, rfl⟩ ?_
  rintro m σ' H' ⟨here, o, rfl, e2, hh, hs, rfl⟩
  have hw2 := hw.mono e2
  have hstep := drp_step hw.good hh.1 hh.2
  refine ⟨!Vbtaac.isPlace w here, et_not (et_B (ev_wm hw2.at_ (ev_var rfl) (fun _ _ => wo_none) (ea_cons (ev_var rfl) ea_nil) (sv_is_place hw2 hh))), fun hb H3 e3 => ⟨_, fun _ _ q => q, ?_⟩, fun hb H3 e3 => ?_⟩
  · have hp : Vbtaac.isPlace w here = false := by simpa using hb
    have hw3 := hw2.mono e3
    obtain ⟨t, dt, x, hx, ht1, ht2⟩ := thing_at hw3 hh
    have hr0 := rel_of_np hh hp
    have hh0 := hold_of_np hw.good hh hp
    rw [if_neg hr0] at hstep
    refine q_asg (ev_wm hw3.at_ (ev_var rfl) (fun _ _ => wo_none) (ea_cons (ev_var rfl) ea_nil) (sv_thing hw3 hh.1 ht1)) fun H4 e4 => ?_
    refine q_when (b := Vbtaac.relationOf w here == 1 || Vbtaac.relationOf w here == 2) (et_or (et_test (ev_eq (y := iv 1) (ev_fld (ev_var rfl) (ht2 _ e4) T.clT T.nTre th_relation) ev_c rfl (by rw [relation_at hx]; exact iv_eq)))
      (fun _ => et_test (ev_eq (y := iv 2) (ev_fld (ev_var rfl) (ht2 _ e4) T.clT T.nTre th_relation) ev_c rfl (by rw [relation_at hx]; exact iv_eq)))) (fun hb2 H5 e5 => ?_) (fun hb2 H5 e5 => ?_)
    · have h1 : Vbtaac.relationOf w here = 1 ∨ Vbtaac.relationOf w here = 2 := by simpa using hb2
      rw [if_pos h1, hs] at hstep
      rw [hstep, holder_at hx, relation_at hx] at k
      exact s_retU (eu_tup (ea_cons (ev_fld (ev_var rfl) (ht2 _ (e4.trans e5)) T.clT T.nTho th_holder) (ea_cons (ev_fld (ev_var rfl) (ht2 _ (e4.trans e5)) T.clT T.nTre th_relation) ea_nil)) (by show 2 ≤ 100000; decide))
        fun p H6 _ e6 h6 => k p H6 ((((e2.trans e3).trans e4).trans e5).trans e6) h6
    · have h1 : ¬ (Vbtaac.relationOf w here = 1 ∨ Vbtaac.relationOf w here = 2) := by simpa using hb2
      rw [if_neg h1, hs] at hstep
      refine s_asg (ev_fld (ev_var rfl) (ht2 _ (e4.trans e5)) T.clT T.nTho th_holder) fun H6 e6 => ?_
      rw [← holder_at hx]
      exact ⟨_, R.dec here hh0, Vbtaac.holderOf w here, _, rfl, (((e2.trans e3).trans e4).trans e5).trans e6, hw.good.holder_ok hh0, hstep.symm, rfl⟩
  · have hp : Vbtaac.isPlace w here = true := by simpa using hb
    rw [if_pos (rel_of_p hh hp), hs] at hstep
    rw [hstep] at k
    exact s_retU (eu_tup (ea_cons (ev_var rfl) (ea_cons ev_c ea_nil)) (by show 2 ≤ 100000; decide)) fun p H4 _ e4 h4 => k p H4 ((e2.trans e3).trans e4) h4
end Sg
set_option Elab.async false
set_option linter.all false
set_option maxRecDepth 100000
set_option maxHeartbeats 4000000
/-! SgP2: the promises of links and sight. -/
namespace Sg
open PySem PySem.Spec PyProof.Rows L2 Evl

/-- a dict whose keys are these numbers, in this order -/
def kN (n : Nat) : Key := .inl (n : Int)
def DkAt (H : Hp) (d : Addr) (ks : List Nat) : Prop := ∃ kvs : List (Key × V), H d = some (.dK kvs) ∧ kvs.map (·.1) = ks.map kN
theorem DkAt.mono {H H' : Hp} {d : Addr} {ks : List Nat} (h : DkAt H d ks) (e : Ex H H') : DkAt H' d ks := by
  obtain ⟨kvs, h1, h2⟩ := h
  exact ⟨kvs, e _ _ h1, h2⟩
abbrev mv (mode : Nat) : V := iv (mode + 1)
def sp_does_pass_wall (g : Ctx) : Sp := fun vs H Q _ => ∃ L w n mode, vs = [.ref L.a, iv n, mv mode] ∧ WG g L H w ∧ ex w n ∧ RetV (.bl (Vbtaac.wallPasses w mode n)) H Q
abbrev H_does_pass_wall (g : Ctx) : Prop := Cal g.P g.w g.K g.mg g.base 3 "does_pass_wall" ["world", "n", "means"] (sp_does_pass_wall g)
def sp_wall_ways (g : Ctx) : Sp := fun vs H Q _ => ∃ L w mode, vs = [.ref L.a, mv mode] ∧ WG g L H w ∧ ∀ p H2, H p = none → Ex H H2 → PrAt H2 p (wallWays w mode) → Q (.ref p) H2
abbrev H_wall_ways (g : Ctx) : Prop := Cal g.P g.w g.K g.mg g.base 4 "wall_ways" ["world", "means"] (sp_wall_ways g)
def sp_window_ways (g : Ctx) : Sp := fun vs H Q _ => ∃ (t : Addr) (x : Wn) (mode : Nat), vs = [.ref t, mv mode] ∧ H t = some (.tup [iv x.first, iv x.second, iv x.kind]) ∧ ∀ p H2, H p = none → Ex H H2 → PrAt H2 p (windowWays mode x) → Q (.ref p) H2
abbrev H_window_ways (g : Ctx) : Prop := Cal g.P g.w g.K g.mg g.base 1 "window_ways" ["window", "means"] (sp_window_ways g)
def sp_links_for (g : Ctx) : Sp := fun vs H Q _ => ∃ L w mode, vs = [.ref L.a, mv mode] ∧ WG g L H w ∧ mode ≤ 2 ∧ ∀ p H2 Ls, Ex H H2 → LRep w mode Ls → (∀ l ∈ Ls, l.length ≤ 10000) → LLAt H2 p Ls → Q (.ref p) H2
abbrev H_links_for (g : Ctx) : Prop := Cal g.P g.w g.K g.mg g.base 5 "links_for" ["world", "means"] (sp_links_for g)
def sp_linked_to (g : Ctx) : Sp := fun vs H Q _ => ∃ p n Ls, vs = [.ref p, iv n] ∧ LLAt H p Ls ∧ ∀ q H2, Ex H H2 → H2 q = some (.lst (nv (lk Ls n))) → Q (.ref q) H2
abbrev H_linked_to (g : Ctx) : Prop := Cal g.P g.w g.K g.mg g.base 1 "linked_to" ["links", "n"] (sp_linked_to g)
def sp_next_level (g : Ctx) : Sp := fun vs H Q _ => ∃ (p q d : Addr) (Ls : List (List Nat)) (l ks : List Nat), vs = [.ref p, .ref q, .ref d] ∧ LLAt H p Ls ∧ LOk Ls ∧ H q = some (.lst (nv l)) ∧ (∀ x ∈ l, x < Ls.length) ∧ DkAt H d ks ∧ RetL (nv (nextL Ls ks l)) H Q
abbrev H_next_level (g : Ctx) : Prop := Cal g.P g.w g.K g.mg g.base 1 "next_level" ["links", "level", "reached"] (sp_next_level g)
def sp_levels_from (g : Ctx) : Sp := fun vs H Q _ => ∃ (p q : Addr) (Ls : List (List Nat)) (src : List Nat), vs = [.ref p, .ref q] ∧ LLAt H p Ls ∧ LOk Ls ∧ H q = some (.lst (nv src)) ∧ (∀ x ∈ src, x < Ls.length) ∧ ∀ r H2, Ex H H2 → LLAt H2 r (levelsL Ls src) → Q (.ref r) H2
abbrev H_levels_from (g : Ctx) : Prop := Cal g.P g.w g.K g.mg g.base 2 "levels_from" ["links", "sources"] (sp_levels_from g)
def sp_spaces_in (g : Ctx) : Sp := fun vs H Q _ => ∃ (r : Addr) (lv : List (List Nat)), vs = [.ref r] ∧ LLAt H r lv ∧ lv.flatten.length ≤ 10000 ∧ RetL (nv lv.flatten) H Q
abbrev H_spaces_in (g : Ctx) : Prop := Cal g.P g.w g.K g.mg g.base 1 "spaces_in" ["levels"] (sp_spaces_in g)
def sp_reached_from (g : Ctx) : Sp := fun vs H Q _ => ∃ (p q : Addr) (Ls : List (List Nat)) (src : List Nat), vs = [.ref p, .ref q] ∧ LLAt H p Ls ∧ LOk Ls ∧ H q = some (.lst (nv src)) ∧ (∀ x ∈ src, x < Ls.length) ∧ src.length ≤ 100 ∧ RetL (nv (reachL Ls src)) H Q
abbrev H_reached_from (g : Ctx) : Prop := Cal g.P g.w g.K g.mg g.base 3 "reached_from" ["links", "sources"] (sp_reached_from g)
def sp_depth_of (g : Ctx) : Sp := fun vs H Q _ => ∃ (r : Addr) (lv : List (List Nat)) (n : Nat), vs = [.ref r, iv n] ∧ LLAt H r lv ∧ n ∈ lv.flatten ∧ lv.length ≤ 100 ∧ RetV (iv (depthL lv n)) H Q
abbrev H_depth_of (g : Ctx) : Prop := Cal g.P g.w g.K g.mg g.base 1 "depth_of" ["levels", "goal"] (sp_depth_of g)
def sp_path_to (g : Ctx) : Sp := fun vs H Q _ => ∃ (p r : Addr) (Ls lv : List (List Nat)) (n : Nat), vs = [.ref p, .ref r, iv n] ∧ LLAt H p Ls ∧ LLAt H r lv ∧ LvOk Ls lv ∧ n ∈ lv.flatten ∧ lv.length ≤ 100 ∧ lv.flatten.length ≤ 10000 ∧ (∀ x ∈ lv.flatten, x < Ls.length) ∧ RetL (nv (pathL Ls lv n)) H Q
abbrev H_path_to (g : Ctx) : Prop := Cal g.P g.w g.K g.mg g.base 2 "path_to" ["links", "levels", "goal"] (sp_path_to g)
def sp_light_sources (g : Ctx) : Sp := fun vs H Q _ => ∃ L w, vs = [.ref L.a] ∧ WG g L H w ∧ RetL (nv (Vbtaac.lightSources w)) H Q
abbrev H_light_sources (g : Ctx) : Prop := Cal g.P g.w g.K g.mg g.base 4 "light_sources" ["world"] (sp_light_sources g)
section
variable {g : Ctx} {L : Lay} {H : Hp} {w : Wd} {n mode : Nat} {p q r d : Addr} {Ls lv : List (List Nat)} {l ks src : List Nat}
theorem sv_passes (h : WG g L H w) (hn : ex w n) : SpV (sp_does_pass_wall g) [.ref L.a, iv n, mv mode] H (.bl (Vbtaac.wallPasses w mode n)) := fun H1 e Q k _ => ⟨L, w, n, mode, rfl, h.mono e, hn, k⟩
theorem sl_next (h : LLAt H p Ls) (ok : LOk Ls) (hq : H q = some (.lst (nv l))) (hl : ∀ x ∈ l, x < Ls.length) (hd : DkAt H d ks) : SpL (sp_next_level g) [.ref p, .ref q, .ref d] H (nv (nextL Ls ks l)) := fun H1 e Q k _ => ⟨p, q, d, Ls, l, ks, rfl, h.mono e, ok, e _ _ hq, hl, hd.mono e, k⟩
theorem sl_spaces (h : LLAt H r lv) (hl : lv.flatten.length ≤ 10000) : SpL (sp_spaces_in g) [.ref r] H (nv lv.flatten) := fun H1 e Q k _ => ⟨r, lv, rfl, h.mono e, hl, k⟩
theorem sl_reached (h : LLAt H p Ls) (ok : LOk Ls) (hq : H q = some (.lst (nv src))) (hl : ∀ x ∈ src, x < Ls.length) (hz : src.length ≤ 100) : SpL (sp_reached_from g) [.ref p, .ref q] H (nv (reachL Ls src)) := fun H1 e Q k _ => ⟨p, q, Ls, src, rfl, h.mono e, ok, e _ _ hq, hl, hz, k⟩
theorem sv_depth (h : LLAt H r lv) (hn : n ∈ lv.flatten) (hl : lv.length ≤ 100) : SpV (sp_depth_of g) [.ref r, iv n] H (iv (depthL lv n)) := fun H1 e Q k _ => ⟨r, lv, n, rfl, h.mono e, hn, hl, k⟩
theorem sl_path (h : LLAt H p Ls) (h2 : LLAt H r lv) (ok : LvOk Ls lv) (hn : n ∈ lv.flatten) (hl : lv.length ≤ 100) (hz : lv.flatten.length ≤ 10000) (hx : ∀ x ∈ lv.flatten, x < Ls.length) : SpL (sp_path_to g) [.ref p, .ref r, iv n] H (nv (pathL Ls lv n)) := fun H1 e Q k _ => ⟨p, r, Ls, lv, n, rfl, h.mono e, h2.mono e, ok, hn, hl, hz, hx, k⟩
theorem sl_light (h : WG g L H w) : SpL (sp_light_sources g) [.ref L.a] H (nv (Vbtaac.lightSources w)) := fun H1 e Q k _ => ⟨L, w, rfl, h.mono e, k⟩
end

/-! ### sight -/
def viF (s l sl ll se li : Addr) : List (Str × V) := [("sight_links", .ref s), ("light_links", .ref l), ("sight_levels", .ref sl), ("light_levels", .ref ll), ("seen", .ref se), ("lit", .ref li)]
/-- a view of the world from v -/
def ViewAt (g : Ctx) (H : Hp) (p : Addr) (w : Wd) (v : Nat) : Prop := ∃ (dx s l sl ll se li : Addr) (Ss Ll : List (List Nat)), H p = some (.ins g.CV dx (viF s l sl ll se li)) ∧ LRep w 1 Ss ∧ LRep w 0 Ll ∧ LLAt H s Ss ∧ LLAt H l Ll ∧
  LLAt H sl (levelsL Ss [Vbtaac.spaceOf w v]) ∧ LLAt H ll (levelsL Ll (Vbtaac.lightSources w)) ∧ H se = some (.lst (nv (Vbtaac.reachableSpaces w 1 [Vbtaac.spaceOf w v]))) ∧ H li = some (.lst (nv (Vbtaac.litSpaces w)))
theorem ViewAt.mono {g : Ctx} {H H' : Hp} {p : Addr} {w : Wd} {v : Nat} (h : ViewAt g H p w v) (e : Ex H H') : ViewAt g H' p w v := by
  obtain ⟨dx, s, l, sl, ll, se, li, Ss, Ll, h1, h2, h3, h4, h5, h6, h7, h8, h9⟩ := h
  exact ⟨dx, s, l, sl, ll, se, li, Ss, Ll, e _ _ h1, h2, h3, h4.mono e, h5.mono e, h6.mono e, h7.mono e, e _ _ h8, e _ _ h9⟩
def goalsM (w : Wd) (v : Nat) (sp : List Nat) : List Nat := sp.filter fun h => (Vbtaac.reachableSpaces w 1 [Vbtaac.spaceOf w v]).contains h && Vbtaac.isLit w h
def sp_View_init (g : Ctx) : Sp := fun vs H Q _ => ∃ (p dx : Addr) (L : Lay) (w : Wd) (v : Nat), vs = [.ref p, .ref L.a, iv v] ∧ H p = some (.ins g.CV dx []) ∧ WG g L H w ∧ ex w v ∧
  ∀ H', ViewAt g H' p w v → (∀ b o, H b = some o → b ≠ p → H' b = some o) → Q .non H'
abbrev H_View_init (g : Ctx) : Prop := Mkl g.P g.w g.K g.mg g.base g.CV 6 "View" ["self", "world", "v"] (sp_View_init g)
def sp_View_goals (g : Ctx) : Sp := fun vs H Q _ => ∃ (p q : Addr) (w : Wd) (v : Nat) (sp : List Nat), vs = [.ref p, .ref q] ∧ ViewAt g H p w v ∧ H q = some (.lst (nv sp)) ∧ sp.length ≤ 100 ∧ RetL (nv (goalsM w v sp)) H Q
abbrev H_View_goals (g : Ctx) : Prop := Mal g.P g.w g.K g.mg g.base g.CV 1 "goals" ["self", "spaces"] (sp_View_goals g)
def sp_View_does_see (g : Ctx) : Sp := fun vs H Q _ => ∃ (p : Addr) (L : Lay) (w : Wd) (v x : Nat), vs = [.ref p, .ref L.a, iv x] ∧ ViewAt g H p w v ∧ WG g L H w ∧ ex w x ∧ RetV (.bl (Vbtaac.canSee w v x)) H Q
abbrev H_View_does_see (g : Ctx) : Prop := Mal g.P g.w g.K g.mg g.base g.CV 5 "does_see" ["self", "world", "x"] (sp_View_does_see g)
def sp_hands_from (g : Ctx) : Sp := fun vs H Q _ => ∃ L w v, vs = [.ref L.a, iv v] ∧ WG g L H w ∧ ex w v ∧ RetL (nv (Vbtaac.reachableSpaces w 2 [Vbtaac.spaceOf w v])) H Q
abbrev H_hands_from (g : Ctx) : Prop := Cal g.P g.w g.K g.mg g.base 6 "hands_from" ["world", "v"] (sp_hands_from g)
def sp_is_reached (g : Ctx) : Sp := fun vs H Q _ => ∃ (L : Lay) (w : Wd) (p q : Addr) (v x : Nat), vs = [.ref L.a, .ref p, .ref q, iv v, iv x] ∧ WG g L H w ∧ ViewAt g H p w v ∧ H q = some (.lst (nv (Vbtaac.reachableSpaces w 2 [Vbtaac.spaceOf w v]))) ∧ ex w x ∧ RetV (.bl (Vbtaac.canReach w v x)) H Q
abbrev H_is_reached (g : Ctx) : Prop := Cal g.P g.w g.K g.mg g.base 6 "is_reached" ["world", "view", "hands", "v", "x"] (sp_is_reached g)
def sp_does_reach (g : Ctx) : Sp := fun vs H Q _ => ∃ L w v x, vs = [.ref L.a, iv v, iv x] ∧ WG g L H w ∧ ex w v ∧ ex w x ∧ RetV (.bl (Vbtaac.canReach w v x)) H Q
abbrev H_does_reach (g : Ctx) : Prop := Cal g.P g.w g.K g.mg g.base 8 "does_reach" ["world", "v", "x"] (sp_does_reach g)
def sp_visible_to (g : Ctx) : Sp := fun vs H Q _ => ∃ L w v, vs = [.ref L.a, iv v] ∧ WG g L H w ∧ ex w v ∧ RetL (nv ((Vbtaac.objectNumbers w).filter fun x => Vbtaac.canSee w v x)) H Q
abbrev H_visible_to (g : Ctx) : Prop := Cal g.P g.w g.K g.mg g.base 8 "visible_to" ["world", "v"] (sp_visible_to g)
def sp_reachable_by (g : Ctx) : Sp := fun vs H Q _ => ∃ L w v, vs = [.ref L.a, iv v] ∧ WG g L H w ∧ ex w v ∧ RetL (nv ((Vbtaac.objectNumbers w).filter fun x => Vbtaac.canReach w v x)) H Q
abbrev H_reachable_by (g : Ctx) : Prop := Cal g.P g.w g.K g.mg g.base 8 "reachable_by" ["world", "v"] (sp_reachable_by g)
def sp_proof_of (g : Ctx) : Sp := fun vs H Q _ => ∃ L w v x, vs = [.ref L.a, iv v, iv x] ∧ WG g L H w ∧ ex w v ∧ ex w x ∧
  ∀ t a b H2, Ex H H2 → H2 t = some (.tup [iv (if Vbtaac.canSee w v x = true then 1 else 0), .ref a, .ref b]) → H2 a = some (.lst (nv (Vbtaac.visibilityProof w v x).1)) → H2 b = some (.lst (nv (Vbtaac.visibilityProof w v x).2)) → Q (.ref t) H2
abbrev H_proof_of (g : Ctx) : Prop := Cal g.P g.w g.K g.mg g.base 8 "proof_of" ["world", "v", "x"] (sp_proof_of g)
def litPath (w : Wd) (h : Nat) : List Nat := if Vbtaac.isLit w h = true then Vbtaac.shortestPath w 0 (Vbtaac.lightSources w) h else []
def sp_light_path (g : Ctx) : Sp := fun vs H Q _ => ∃ L w h, vs = [.ref L.a, iv h] ∧ WG g L H w ∧ ex w h ∧ RetL (nv (litPath w h)) H Q
abbrev H_light_path (g : Ctx) : Prop := Cal g.P g.w g.K g.mg g.base 6 "light_path" ["world", "space"] (sp_light_path g)
def sp_is_path (g : Ctx) : Sp := fun vs H Q _ => ∃ (p q : Addr) (w : Wd) (mode : Nat) (Ls : List (List Nat)) (ps : List Nat), vs = [.ref p, .ref q] ∧ LLAt H p Ls ∧ LRep w mode Ls ∧ H q = some (.lst (nv ps)) ∧ ps ≠ [] ∧ ps.length ≤ 100 ∧ RetV (.bl (Vbtaac.isPath w mode ps)) H Q
abbrev H_is_path (g : Ctx) : Prop := Cal g.P g.w g.K g.mg g.base 2 "is_path" ["links", "numbers"] (sp_is_path g)
def sp_is_closed (g : Ctx) : Sp := fun vs H Q _ => ∃ (p q : Addr) (w : Wd) (mode : Nat) (Ls : List (List Nat)) (ps : List Nat), vs = [.ref p, .ref q] ∧ LLAt H p Ls ∧ LRep w mode Ls ∧ (∀ l ∈ Ls, l.length ≤ 10000) ∧ H q = some (.lst (nv ps)) ∧ ps.length ≤ 100 ∧ RetV (.bl (Vbtaac.isClosedUnder w mode ps)) H Q
abbrev H_is_closed (g : Ctx) : Prop := Cal g.P g.w g.K g.mg g.base 2 "is_closed" ["links", "numbers"] (sp_is_closed g)
def sp_is_positive_proof (g : Ctx) : Sp := fun vs H Q _ => ∃ (L : Lay) (w : Wd) (v x : Nat) (a b : Addr) (p q : List Nat), vs = [.ref L.a, iv v, iv x, .ref a, .ref b] ∧ WG g L H w ∧ ex w v ∧ ex w x ∧ H a = some (.lst (nv p)) ∧ H b = some (.lst (nv q)) ∧ p.length ≤ 60 ∧ q.length ≤ 60 ∧ RetV (.bl (Vbtaac.acceptsProof w v x true p q)) H Q
abbrev H_is_positive_proof (g : Ctx) : Prop := Cal g.P g.w g.K g.mg g.base 6 "is_positive_proof" ["world", "v", "x", "p", "q"] (sp_is_positive_proof g)
def sp_is_negative_proof (g : Ctx) : Sp := fun vs H Q _ => ∃ (L : Lay) (w : Wd) (v x : Nat) (a b : Addr) (p q : List Nat), vs = [.ref L.a, iv v, iv x, .ref a, .ref b] ∧ WG g L H w ∧ ex w v ∧ ex w x ∧ H a = some (.lst (nv p)) ∧ H b = some (.lst (nv q)) ∧ p.length ≤ 60 ∧ q.length ≤ 60 ∧ RetV (.bl (Vbtaac.acceptsProof w v x false p q)) H Q
abbrev H_is_negative_proof (g : Ctx) : Prop := Cal g.P g.w g.K g.mg g.base 6 "is_negative_proof" ["world", "v", "x", "p", "q"] (sp_is_negative_proof g)
end Sg
set_option Elab.async false
set_option linter.all false
set_option maxRecDepth 100000
set_option maxHeartbeats 4000000
/-! SgL1: the defs of links, first half: ways, links. -/
namespace Sg
open PySem PySem.Spec PyProof.Rows L2 Evl

theorem flatMap_len {α β : Type} {f : α → List β} {c : Nat} (h : ∀ x, (f x).length ≤ c) : ∀ l : List α, (l.flatMap f).length ≤ c * l.length
  | [] => Nat.le_refl _
  | x :: r => by
    rw [List.flatMap_cons, List.length_append, List.length_cons]
    have h1 := flatMap_len h r
    have h2 := h x
    rw [Nat.mul_add]
    omega
theorem take_more {α : Type} {l : List α} {i : Nat} {x : α} (h : l[i]? = some x) : l.take (i + 1) = l.take i ++ [x] := by
  rw [List.take_succ, h]
  rfl
theorem flatMap_more {α β : Type} {f : α → List β} {l : List α} {i : Nat} {x : α} (h : l[i]? = some x) : (l.take (i + 1)).flatMap f = (l.take i).flatMap f ++ f x := by
  rw [take_more h, List.flatMap_append]
  simp
theorem perm_map_inv {α β : Type} {f : α → β} {ys zs : List β} (h : ys.Perm zs) : ∀ l : List α, zs = l.map f → ∃ l' : List α, l'.Perm l ∧ ys = l'.map f := by
  induction h with
  | nil =>
    intro l e
    cases l with
    | nil => exact ⟨[], List.Perm.refl _, rfl⟩
    | cons a r => cases e
  | cons x h ih =>
    intro l e
    cases l with
    | nil => cases e
    | cons a r =>
      injection e with e1 e2
      obtain ⟨l', p, q⟩ := ih r e2
      exact ⟨a :: l', p.cons a, by rw [e1, q]; rfl⟩
  | swap x y r =>
    intro l e
    cases l with
    | nil => cases e
    | cons a l =>
      cases l with
      | nil => injection e with _ e2; cases e2
      | cons b l =>
        injection e with e1 e2
        injection e2 with e2 e3
        exact ⟨b :: a :: l, List.Perm.swap a b l, by rw [e1, e2, e3]; rfl⟩
  | trans h1 h2 ih1 ih2 =>
    intro l e
    obtain ⟨l2, p2, q2⟩ := ih2 l e
    obtain ⟨l1, p1, q1⟩ := ih1 l2 q2
    exact ⟨l1, p1.trans p2, q1⟩
def wallStep (w : Wd) (mode n : Nat) : List (Nat × Nat) := if (Vbtaac.hasProperty w n Vbtaac.containerBit && !Vbtaac.isPlace w n && Vbtaac.wallPasses w mode n) = true then [(n, Vbtaac.spaceOf w n), (Vbtaac.spaceOf w n, n)] else []
theorem wallWays_is (w : Wd) (mode : Nat) : wallWays w mode = (Vbtaac.objectNumbers w).flatMap (wallStep w mode) := rfl
theorem wallStep_len (w : Wd) (mode n : Nat) : (wallStep w mode n).length ≤ 2 := by
  unfold wallStep
  split
  · exact Nat.le_refl _
  · exact Nat.zero_le _
theorem windowWays_len (mode : Nat) (x : Wn) : (windowWays mode x).length ≤ 2 := by
  unfold windowWays
  split
  · exact Nat.zero_le _
  · split
    · show 1 ≤ 2
      omega
    · exact Nat.le_refl _
/-- a pair more -/
theorem PrAt.more {H : Hp} {p t : Addr} {ts : List (Addr × Nat × Nat)} {x : Nat × Nat} (h : H p = some (.lst (ts.map fun t => V.ref t.1))) (h2 : ∀ u ∈ ts, H u.1 = some (.tup [iv u.2.1, iv u.2.2])) (ht : H t = some (.tup [iv x.1, iv x.2])) :
    PrAt (upd H p (.lst (ts.map (fun t => V.ref t.1) ++ [V.ref t]))) p (ts.map (·.2) ++ [x]) := by
  refine ⟨ts ++ [(t, x)], ?_, by rw [List.map_append]; rfl, fun u hu => ?_⟩
  · rw [upd_same, List.map_append]
    rfl
  · rcases List.mem_append.mp hu with hu | hu
    · rw [upd_ne (ne_of (h2 u hu) h (fun z => nomatch z))]
      exact h2 u hu
    · have e := List.mem_singleton.mp hu
      subst e
      rw [upd_ne (ne_of ht h (fun z => nomatch z))]
      exact ht

/-- return [(..)], return [(..), (..)] -/
theorem s_retL1U {tu : TE} {D : Ends} {σ : L2.St} {H : Hp} {xs : List V} (h : EvU tu σ H xs) (k : ∀ p t H1, H p = none → Ex H H1 → H1 p = some (.lst [.ref t]) → H1 t = some (.tup xs) → D.rt (.ref p) H1) : tRet (tLst (tCons tu tNil)) D σ H :=
  h H (Ex.refl H) _ fun t H1 _ e1 h1 => ⟨by show 1 ≤ sizeLine; decide, fun p hp => k p t _ (fresh_back e1 hp) (e1.trans (Ex.new hp)) upd_same ((upd_ne (ne_of_none h1 hp)).trans h1)⟩
theorem s_retL2U {tu tw : TE} {D : Ends} {σ : L2.St} {H : Hp} {xs ys : List V} (h : EvU tu σ H xs) (h' : EvU tw σ H ys) (k : ∀ p t u H1, H p = none → Ex H H1 → H1 p = some (.lst [.ref t, .ref u]) → H1 t = some (.tup xs) → H1 u = some (.tup ys) → D.rt (.ref p) H1) :
    tRet (tLst (tCons tu (tCons tw tNil))) D σ H :=
  h H (Ex.refl H) _ fun t H1 _ e1 h1 => h' H1 e1 _ fun u H2 _ e2 h2 => ⟨by show 2 ≤ sizeLine; decide, fun p hp =>
    k p t u _ (fresh_back (e1.trans e2) hp) ((e1.trans e2).trans (Ex.new hp)) upd_same ((upd_ne (ne_of_none (e2 _ _ h1) hp)).trans (e2 _ _ h1)) ((upd_ne (ne_of_none h2 hp)).trans h2)⟩

theorem ok_does_pass_wall {g : Ctx} (T : Txt g) (D : DefAt g "does_pass_wall" s_does_pass_wall) (C_World_has_trait : H_World_has_trait g) : H_does_pass_wall g := by
  refine mk_def D sc_does_pass_wall (fun _ _ _ _ _ _ us hl => match us, hl with | [_, _, _], _ => rfl) (by rintro vs H Q E ⟨_, _, _, _, rfl, _⟩; rfl) fun f cdv A outer s H vs Q E hr h => ⟨_, (pss_cons (ps_if (pt_val (pe_md C_World_has_trait T.clW hr (pv 0) (pa_cons (pv 1) (pa_cons (pe_kn T.cOPENED) pa_nil)))) (pss_one (ps_ret pe_bl)) pss_nil) (pss_one (ps_ret (pe_and (pe_cmpR op_ne (pv 2) (pe_kn T.cHANDS) (nomark _)) (pe_one (pe_md C_World_has_trait T.clW hr (pv 0) (pa_cons (pv 1) (pa_cons (pe_kn T.cTRANSPARENT) pa_nil)))))))), ?_⟩
  obtain ⟨L, w, n, mode, rfl, hw, hn, k⟩ := h
  unfold Vbtaac.wallPasses at k
  refine q_when (b := Vbtaac.hasProperty w n Vbtaac.openBit) (et_B (ev_wm hw.at_ (ev_var rfl) (fun _ _ => wo_none) (ea_cons (ev_var rfl) (ea_cons ev_c ea_nil)) (sv_has_trait hw hn 4))) (fun hb H1 e1 => ?_) (fun hb H1 e1 => ?_)
  · rw [hb, Bool.true_or] at k
    exact s_ret ev_c (fun H2 e2 => k H2 (e1.trans e2))
  · rw [hb, Bool.false_or] at k
    have hw1 := hw.mono e1
    refine s_ret (ev_andV (ev_ne (y := iv 3) (ev_var rfl) ev_c rfl (b := mode != 2) ?_) (fun _ => ev_wm hw1.at_ (ev_var rfl) (fun _ _ => wo_none) (ea_cons (ev_var rfl) (ea_cons ev_c ea_nil)) (sv_has_trait hw1 hn 5))) (fun H2 e2 => k H2 (e1.trans e2))
    rw [iv_eq]
    unfold bne
    refine congrArg Bool.not ?_
    rw [Bool.eq_iff_iff, beq_iff_eq, beq_iff_eq]
    omega
theorem ok_wall_ways {g : Ctx} (T : Txt g) (D : DefAt g "wall_ways" s_wall_ways) (C_World_numbers : H_World_numbers g) (C_World_is_box : H_World_is_box g) (C_does_pass_wall : H_does_pass_wall g) (C_lies_in : H_lies_in g) : H_wall_ways g := by
  refine mk_def D sc_wall_ways (fun _ _ _ _ _ _ us hl => match us, hl with | [_, _], _ => rfl) (by rintro vs H Q E ⟨_, _, _, rfl, _⟩; rfl) fun f cdv A outer s H vs Q E hr h => ⟨_, (pss_cons (ps_set (i := 2) sc_wall_ways.nd rfl (Or.inl rfl) (pe_lst pa_nil)) (pss_cons (ps_for PassesOwn.never rfl (gi_list g.K (pe_md0 C_World_numbers T.clW hr (pv 0))) (pg_name (i := 3) sc_wall_ways.nd rfl (Or.inl rfl)) (pss_one (ps_if (PW.pt (pw_and (pt_val (pe_md C_World_is_box T.clW hr (pv 0) (pa_cons (pv 3) pa_nil))) (pw_and1 (pt_val (pe_fn C_does_pass_wall hr (pa_cons (pv 0) (pa_cons (pv 3) (pa_cons (pv 1) pa_nil)))))))) (pss_cons (ps_set (i := 4) sc_wall_ways.nd rfl (Or.inl rfl) (pe_fn C_lies_in hr (pa_cons (pv 0) (pa_cons (pv 3) pa_nil)))) (pss_cons (ps_expr (g_bm g.K PySem.F.plainAttrs_list PySem.F.slot_list_append PySem.F.type_list_append mt_append (pv 2) (pa_cons (pe_tup (pa_cons (pv 3) (pa_cons (pv 4) pa_nil))) pa_nil))) (pss_one (ps_expr (g_bm g.K PySem.F.plainAttrs_list PySem.F.slot_list_append PySem.F.type_list_append mt_append (pv 2) (pa_cons (pe_tup (pa_cons (pv 4) (pa_cons (pv 3) pa_nil))) pa_nil)))))) pss_nil))) (pss_one (ps_ret (pv 2))))), ?_⟩
  obtain ⟨L, w, mode, rfl, hw, k⟩ := h
  have hc := hw.good.cnt
  have hnl := numbers_length (w := w)
  refine q_asgL (el_lst ea_nil (Nat.zero_le _)) fun p H1 hp e1 h1 => ?_
  refine q_forNLn (xs := nv (Vbtaac.objectNumbers w)) (el_wm (hw.mono e1).at_ (ev_var rfl) (fun _ _ => wo_none) ea_nil (sl_numbers (hw.mono e1)))
    (fun pl i σ' H' => ∃ (o3 o4 : Option V), σ' = [some (.ref L.a), some (mv mode), some (.ref p), o3, o4] ∧ Ex H H' ∧ H' pl = some (.lst (nv (Vbtaac.objectNumbers w))) ∧ pl ≠ p ∧ PrAt H' p (((Vbtaac.objectNumbers w).take i).flatMap (wallStep w mode)))
    (fun pl H2 hpl e2 h2 => ⟨none, none, rfl, e1.trans e2, h2, ?_, [], e2 _ _ h1, rfl, fun u hu => absurd hu List.not_mem_nil⟩) (fun pl i σ' H' _ ⟨_, _, _, _, h2, _⟩ => sq_of h2) (fun pl i x σ' H' hx ⟨o3, o4, hσ, e3, h3, hne, hpr⟩ => ?_) (fun pl σ' H' ⟨o3, o4, hσ, e3, h3, hne, hpr⟩ => ?_)
  · intro z
    rw [z, h1] at hpl
    cases hpl
  · subst hσ
    obtain ⟨n, hn0, rfl⟩ := map_get hx
    have hn : ex w n := mem_numbers.mp (List.mem_of_getElem? hn0)
    have hw3 := hw.mono e3
    rw [flatMap_more hn0]
    have hbnd : (((Vbtaac.objectNumbers w).take i).flatMap (wallStep w mode)).length ≤ 120 := by
      refine Nat.le_trans (flatMap_len (wallStep_len w mode) _) ?_
      have : ((Vbtaac.objectNumbers w).take i).length ≤ (Vbtaac.objectNumbers w).length := List.length_take_le' _ _
      omega
    refine s_when (b := (Vbtaac.hasProperty w n Vbtaac.containerBit && !Vbtaac.isPlace w n) && Vbtaac.wallPasses w mode n) (et_and (et_B (ev_wm hw3.at_ (ev_var rfl) (fun _ _ => wo_none) (ea_cons (ev_var rfl) ea_nil) (sv_is_box hw3 hn)))
      (fun _ => et_B (ev_fn (ea_cons (ev_var rfl) (ea_cons (ev_var rfl) (ea_cons (ev_var rfl) ea_nil))) (sv_passes hw3 hn)))) (fun hb H4 e4 => ?_) (fun hb H4 e4 => ?_)
    · have es : wallStep w mode n = [(n, Vbtaac.spaceOf w n), (Vbtaac.spaceOf w n, n)] := by unfold wallStep; rw [if_pos hb]
      have hw4 := hw3.mono e4
      refine q_asg (ev_fn (ea_cons (ev_var rfl) (ea_cons (ev_var rfl) ea_nil)) (sv_lies_in hw4 hn)) fun H5 e5 => ?_
      obtain ⟨ts, t1, t2, t3⟩ := (hpr.mono e4).mono e5
      have hlen : ts.length ≤ 120 := by
        have := congrArg List.length t2
        rw [List.length_map] at this
        omega
      refine q_appU (ys := [iv n, iv (Vbtaac.spaceOf w n)]) t1 (ev_var rfl) (eu_tup (ea_cons (ev_var rfl) (ea_cons (ev_var rfl) ea_nil)) (by show 2 ≤ 100000; decide)) (by rw [List.length_map]; omega) fun u H6 hu e6 h6 => ?_
      obtain ⟨ts2, u1, u2, u3⟩ := PrAt.more (x := (n, Vbtaac.spaceOf w n)) (e6 _ _ t1) (fun q hq => e6 _ _ (t3 q hq)) h6
      have hlen2 : ts2.length ≤ 121 := by
        have := congrArg List.length u2
        rw [List.length_map, List.length_append, List.length_map] at this
        have e : ([(n, Vbtaac.spaceOf w n)] : List (Nat × Nat)).length = 1 := rfl
        omega
      refine s_appU (ys := [iv (Vbtaac.spaceOf w n), iv n]) u1 (ev_var rfl) (eu_tup (ea_cons (ev_var rfl) (ea_cons (ev_var rfl) ea_nil)) (by show 2 ≤ 100000; decide)) (by rw [List.length_map]; omega) fun u' H7 hu' e7 h7 => ?_
      have e37 : Ex H H7 := Ex.trans (Ex.mut (((e3.trans e4).trans e5).trans e6) hp) e7
      refine ⟨_, _, rfl, Ex.mut e37 hp, ?_, hne, ?_⟩
      · rw [upd_ne hne]
        refine e7 _ _ ?_
        rw [upd_ne hne]
        exact e6 _ _ (e5 _ _ (e4 _ _ h3))
      · have := PrAt.more (x := (Vbtaac.spaceOf w n, n)) (e7 _ _ u1) (fun q hq => e7 _ _ (u3 q hq)) h7
        rw [u2, t2, List.append_assoc] at this
        rw [es]
        exact this
    · have es : wallStep w mode n = [] := by unfold wallStep; rw [if_neg (by rw [hb]; exact Bool.false_ne_true)]
      rw [es, List.append_nil]
      exact ⟨_, _, rfl, e3.trans e4, e4 _ _ h3, hne, hpr.mono e4⟩
  · subst hσ
    rw [List.length_map, List.take_length] at hpr
    refine s_ret (v := .ref p) (ev_var rfl) fun H4 e4 => ?_
    exact k p H4 hp (e3.trans e4) (hpr.mono e4)
theorem ok_window_ways {g : Ctx} (T : Txt g) (D : DefAt g "window_ways" s_window_ways) : H_window_ways g := by
  refine mk_def D sc_window_ways (fun _ _ _ _ _ _ us hl => match us, hl with | [_, _], _ => rfl) (by rintro vs H Q E ⟨_, _, _, rfl, _⟩; rfl) fun f cdv A outer s H vs Q E hr h => ⟨_, (pss_cons (ps_asg (pv 0) (gg_tup g.K (n := 3) (pgs_cons (pg_name (i := 2) sc_window_ways.nd rfl (Or.inl rfl)) (pgs_cons (pg_name (i := 3) sc_window_ways.nd rfl (Or.inl rfl)) (pgs_cons (pg_name (i := 4) sc_window_ways.nd rfl (Or.inl rfl)) pgs_nil))))) (pss_cons (ps_if (PW.pt (pw_and (pt_cmpR op_eq (pv 1) (pe_kn T.cHANDS) (nomark _)) (pw_and1 (pt_cmpR op_ne (pv 4) (pe_kn T.cOPEN_WINDOW) (nomark _))))) (pss_one (ps_ret (pe_lst pa_nil))) pss_nil) (pss_cons (ps_if (PW.pt (pw_and (pt_cmpR op_eq (pv 1) (pe_kn T.cSIGHT) (nomark _)) (pw_and1 (pt_cmpR op_eq (pv 4) (pe_kn T.cONE_WAY) (nomark _))))) (pss_one (ps_ret (pe_lst (pa_cons (pe_tup (pa_cons (pv 2) (pa_cons (pv 3) pa_nil))) pa_nil)))) pss_nil) (pss_one (ps_ret (pe_lst (pa_cons (pe_tup (pa_cons (pv 2) (pa_cons (pv 3) pa_nil))) (pa_cons (pe_tup (pa_cons (pv 3) (pa_cons (pv 2) pa_nil))) pa_nil)))))))), ?_⟩
  obtain ⟨t, x, mode, rfl, ht, k⟩ := h
  refine ⟨_, rfl, t, _, rfl, st_of ht, rfl, _, _, rfl, _, _, rfl, _, _, rfl, rfl, ?_⟩
  unfold windowWays at k
  have pair : ∀ {σ : L2.St} {H1 : Hp} {i j : Nat} {a b : Nat}, σ[i]? = some (some (iv a)) → σ[j]? = some (some (iv b)) → EvU (tTup (tCons (tVar i) (tCons (tVar j) tNil))) σ H1 [iv a, iv b] := fun hi hj => eu_tup (ea_cons (ev_var hi) (ea_cons (ev_var hj) ea_nil)) (by show 2 ≤ 100000; decide)
  have hm1 : (mode + 1 == 3) = decide (mode = 2) := by rw [Bool.eq_iff_iff, beq_iff_eq, decide_eq_true_iff]; omega
  have hm2 : (mode + 1 == 2) = decide (mode = 1) := by rw [Bool.eq_iff_iff, beq_iff_eq, decide_eq_true_iff]; omega
  refine q_when (b := (mode + 1 == 3) && !(x.kind == 2)) (et_and (et_test (ev_eq (y := iv 3) (ev_var rfl) ev_c rfl iv_eq)) (fun _ => et_test (ev_ne (y := iv 2) (ev_var rfl) ev_c rfl (by rw [iv_eq])))) (fun hb H1 e1 => ?_) (fun hb H1 e1 => ?_)
  · have c : mode = 2 ∧ x.kind ≠ 2 := by
      rw [hm1, Bool.and_eq_true] at hb
      exact ⟨of_decide_eq_true hb.1, by simpa using hb.2⟩
    rw [if_pos c] at k
    exact s_retL (el_lst ea_nil (Nat.zero_le _)) fun p H2 hp e2 h2 => k p H2 (fresh_back e1 hp) (e1.trans e2) ⟨[], h2, rfl, fun u hu => absurd hu List.not_mem_nil⟩
  · have c : ¬ (mode = 2 ∧ x.kind ≠ 2) := by
      rintro ⟨c1, c2⟩
      have : (x.kind == 2) = false := by simpa using c2
      rw [hm1, this, c1] at hb
      cases hb
    rw [if_neg c] at k
    refine q_when (b := (mode + 1 == 2) && (x.kind == 3)) (et_and (et_test (ev_eq (y := iv 2) (ev_var rfl) ev_c rfl iv_eq)) (fun _ => et_test (ev_eq (y := iv 3) (ev_var rfl) ev_c rfl iv_eq))) (fun hb2 H2 e2 => ?_) (fun hb2 H2 e2 => ?_)
    · have c2 : mode = 1 ∧ x.kind = 3 := by
        rw [hm2, Bool.and_eq_true] at hb2
        exact ⟨of_decide_eq_true hb2.1, by simpa using hb2.2⟩
      rw [if_pos c2] at k
      exact s_retL1U (pair rfl rfl) fun p u H3 hp e3 h3 hu => k p H3 (fresh_back (e1.trans e2) hp) ((e1.trans e2).trans e3) ⟨[(u, (x.first, x.second))], h3, rfl, fun q hq => by
        have e := List.mem_singleton.mp hq
        subst e
        exact hu⟩
    · have c2 : ¬ (mode = 1 ∧ x.kind = 3) := by
        rintro ⟨d1, d2⟩
        rw [hm2, d1, d2] at hb2
        cases hb2
      rw [if_neg c2] at k
      exact s_retL2U (pair rfl rfl) (pair rfl rfl) fun p u u' H3 hp e3 h3 hu hu' => k p H3 (fresh_back (e1.trans e2) hp) ((e1.trans e2).trans e3) ⟨[(u, (x.first, x.second)), (u', (x.second, x.first))], h3, rfl, fun q hq => by
        rcases List.mem_cons.mp hq with e | hq
        · subst e
          exact hu
        · have e := List.mem_singleton.mp hq
          subst e
          exact hu'⟩
theorem ok_linked_to {g : Ctx} (T : Txt g) (D : DefAt g "linked_to" s_linked_to) : H_linked_to g := by
  refine mk_def D sc_linked_to (fun _ _ _ _ _ _ us hl => match us, hl with | [_, _], _ => rfl) (by rintro vs H Q E ⟨_, _, _, rfl, _⟩; rfl) fun f cdv A outer s H vs Q E hr h => ⟨_, (pss_cons (ps_if (pt_cmpR op_lt (pv 1) (pe_callB (g_len g.K) (by rfl) T.len (by decide +kernel) (pa_cons (pv 0) pa_nil)) (nomark _)) (pss_one (ps_ret (pe_ix (gx_list g.K) (pv 0) (pv 1) (fun _ _ => rfl)))) pss_nil) (pss_one (ps_ret (pe_lst pa_nil)))), ?_⟩
  obtain ⟨p, n, Ls, rfl, hl, k⟩ := h
  obtain ⟨qs, h1, h2, h3⟩ := hl
  have hlen : qs.length = Ls.length := by
    have := congrArg List.length h2
    rw [List.length_map, List.length_map] at this
    exact this
  refine q_when (b := decide (n < Ls.length)) (et_test (ev_I (ev_var rfl) (ev_lenS (z := iv Ls.length) (ev_var rfl) (sq_of h1) (by rw [List.length_map, hlen])) ?_)) (fun hb H1 e1 => ?_) (fun hb H1 e1 => ?_)
  · refine congrArg V.bl ?_
    rw [Bool.eq_iff_iff, decide_eq_true_iff, decide_eq_true_iff]
    omega
  · have hn := of_decide_eq_true hb
    have hq : qs[n]? = some (qs[n]'(by omega)) := List.getElem?_eq_getElem (by omega)
    refine s_ret (v := .ref (qs[n]'(by omega)).1) (ev_ix (ev_var rfl) (ev_var rfl) (sq_of (e1 _ _ h1)) (atI_nat (by rw [List.getElem?_map, hq]; rfl))) fun H2 e2 => ?_
    refine k _ H2 (e1.trans e2) ?_
    have h4 := e2 _ _ (e1 _ _ (h3 _ (List.mem_of_getElem? hq)))
    rw [h4]
    refine congrArg some (congrArg HO.lst ?_)
    have e : (qs.map (·.2))[n]? = some (qs[n]'(by omega)).2 := by rw [List.getElem?_map, hq]; rfl
    rw [h2, List.getElem?_map] at e
    have hL : Ls[n]? = some (Ls[n]'hn) := List.getElem?_eq_getElem hn
    rw [hL] at e
    have e := Option.some.inj e
    rw [← e]
    unfold lk
    rw [getD_of hL]
  · have hn := of_decide_eq_false hb
    refine s_retL (el_lst ea_nil (Nat.zero_le _)) fun q H2 hq e2 h4 => k q H2 (e1.trans e2) ?_
    rw [h4]
    unfold lk
    rw [List.getD_eq_getElem?_getD, List.getElem?_eq_none (by omega)]
    rfl
end Sg
set_option Elab.async false
set_option linter.all false
set_option maxRecDepth 100000
set_option maxHeartbeats 4000000
/-! SgL2: links_for. -/
namespace Sg
open PySem PySem.Spec PyProof.Rows L2 Evl

theorem getD_range {α : Type} {d : α} : ∀ {l : List α} {n : Nat}, l.length = n → (List.range n).map (fun a => l.getD a d) = l := by
  intro l n h
  refine List.ext_getElem (by rw [List.length_map, List.length_range, h]) fun i h1 h2 => ?_
  rw [List.getElem_map, List.getElem_range, List.getD_eq_getElem?_getD, List.getElem?_eq_getElem h2]
  rfl
theorem laid_at {n a : Nat} {ws : List (Nat × Nat)} (h : a < n) : (laid n ws)[a]? = some ((ws.filter fun p => p.1 == a).map (·.2)) := by
  unfold laid
  rw [List.getElem?_map, List.getElem?_range h]
  rfl
theorem laid_short {n : Nat} {ws : List (Nat × Nat)} : ∀ l ∈ laid n ws, l.length ≤ ws.length := by
  intro l hl
  unfold laid at hl
  obtain ⟨a, _, rfl⟩ := List.mem_map.mp hl
  rw [List.length_map]
  exact List.length_filter_le _ _
/-- lists laid out one by one -/
theorem LLAt.of_addrs {H : Hp} {p : Addr} {qs : List Addr} {n : Nat} {ws : List (Nat × Nat)} (h : H p = some (.lst (qs.map V.ref))) (hn : qs.length = n) (h2 : ∀ a q, qs[a]? = some q → H q = some (.lst (nv ((ws.filter fun p => p.1 == a).map (·.2))))) : LLAt H p (laid n ws) := by
  refine ⟨(List.range n).map fun a => (qs.getD a 0, nv ((ws.filter fun p => p.1 == a).map (·.2))), ?_, ?_, fun u hu => ?_⟩
  · rw [h, List.map_map]
    refine congrArg some (congrArg HO.lst ?_)
    have e : qs.map V.ref = ((List.range n).map fun a => qs.getD a 0).map V.ref := by rw [getD_range hn]
    rw [e, List.map_map]
    rfl
  · unfold laid
    rw [List.map_map, List.map_map]
    rfl
  · obtain ⟨a, ha, rfl⟩ := List.mem_map.mp hu
    have ha := List.mem_range.mp ha
    have hq : qs[a]? = some (qs[a]'(by omega)) := List.getElem?_eq_getElem (by omega)
    show H (qs.getD a 0) = _
    rw [getD_of hq]
    exact h2 a _ hq
/-- y = [te for x in range(n)], its own word of the turn: H1 the heap at the start, Dl the new list -/
theorem q_asgLcR {ta : TA} {te : TE} {tz : TS} {D : Ends} {σ : L2.St} {H : Hp} {vs : List Nat} {j l n : Nat} (h : EvA ta σ H [iv n]) (hz : n ≤ 40000) (Pv : Hp → Addr → Nat → Hp → Prop) (h0 : ∀ H1 Dl, Ex H H1 → H1 Dl = none → Pv H1 Dl 0 (upd H1 Dl (.lst [])))
    (hw : ∀ x, wipe ((wipe σ vs).set j (some x)) vs = wipe σ vs) (hs : ∀ H1 Dl i H', Ex H H1 → H1 Dl = none → i < n → Pv H1 Dl i H' → te ((wipe σ vs).set j (some (iv i))) H' fun y H4 => ∃ acc, H4 Dl = some (.lst acc) ∧ acc.length < sizeLine ∧ Pv H1 Dl (i + 1) (upd H4 Dl (.lst (acc ++ [y]))))
    (hd : ∀ H1 Dl H', Ex H H1 → H1 Dl = none → Pv H1 Dl n H' → tz D (σ.set l (some (.ref Dl))) H') : tSeq (tAsg (tLc (iRng1 ta) (gName j) tYes te vs) (gName l)) tz D σ H :=
  h H (Ex.refl H) _ fun H1 e => ⟨(n : Int), rfl, by omega, by omega, fun Dl hD => lc_range (lo := 0) (n := n) (Pv H1 Dl) (h0 H1 Dl e hD) (fun i H' hi p => by
    have e0 : (0 : Int) + (i : Int) = (i : Int) := Int.zero_add _
    refine ⟨hw _, ?_⟩
    rw [e0]
    exact hs H1 Dl i H' e hD hi p) (fun H' p => hd H1 Dl H' e hD p)⟩

theorem ok_links_for {g : Ctx} (T : Txt g) (D : DefAt g "links_for" s_links_for) (C_wall_ways : H_wall_ways g) (C_window_ways : H_window_ways g) (C_World_many : H_World_many g) : H_links_for g := by
  refine mk_def D sc_links_for (fun _ _ _ _ _ _ us hl => match us, hl with | [_, _], _ => rfl) (by rintro vs H Q E ⟨_, _, _, rfl, _⟩; rfl) fun f cdv A outer s H vs Q E hr h => ⟨_, (pss_cons (ps_set (i := 2) sc_links_for.nd rfl (Or.inl rfl) (pe_fn C_wall_ways hr (pa_cons (pv 0) (pa_cons (pv 1) pa_nil)))) (pss_cons (ps_for PassesOwn.never rfl (gi_list g.K (g_fld g.K (pv 0))) (pg_name (i := 3) sc_links_for.nd rfl (Or.inl rfl)) (pss_one (ps_expr (g_bm g.K PySem.F.plainAttrs_list PySem.F.slot_list_extend PySem.F.type_list_extend mt_extend (pv 2) (pa_cons (pe_fn C_window_ways hr (pa_cons (pv 3) (pa_cons (pv 1) pa_nil))) pa_nil))))) (pss_cons (ps_setLc (i := 4) (own := [("n", 5)]) rfl sc_links_for.nd rfl rfl (sw_true rfl rfl rfl (by decide +kernel)) (pi_range1 rfl T.range (pa_cons (pe_op op_add (pe_md0 C_World_many T.clW hr (pv 0)) pe_int) pa_nil)) (blkOk_by (own := [("n", 5)]) (N := ["world", "means", "ways", "window", "found", "n", "one", "other"]) (sc := defScope s_links_for) (by decide +kernel)) (fun _ _ _ _ _ => (pg_name (i := 5) sc_links_for.nd rfl (Or.inl rfl))) (fun _ _ _ _ _ => pts_nil) (fun _ _ _ _ _ => (pe_lst pa_nil))) (pss_cons (ps_for PassesOwn.never rfl (gi_list g.K (pe_callB (g_sortedP g.K) (by rfl) T.sorted (by decide +kernel) (pa_cons (pv 2) pa_nil))) (gg_tup g.K (n := 2) (pgs_cons (pg_name (i := 6) sc_links_for.nd rfl (Or.inl rfl)) (pgs_cons (pg_name (i := 7) sc_links_for.nd rfl (Or.inl rfl)) pgs_nil))) (pss_one (ps_expr (g_bm g.K PySem.F.plainAttrs_list PySem.F.slot_list_append PySem.F.type_list_append mt_append (pe_ix (gx_list g.K) (pv 4) (pv 6) (fun _ _ => rfl)) (pa_cons (pv 7) pa_nil))))) (pss_one (ps_ret (pv 4))))))), ?_⟩
  obtain ⟨L, w, mode, rfl, hw, hm, k⟩ := h
  have hc := hw.good.cnt
  obtain ⟨dx, lw, ws, a1, a2, a3, a4, a5⟩ := hw.at_.ex
  have hwl : ws.length ≤ 1000 := by
    have := congrArg List.length a4
    rw [List.length_map] at this
    rw [this]
    exact hw.win
  refine ⟨_, rfl, _, rfl, L, w, mode, rfl, hw, fun p H1 hp e1 hpr1 => ?_⟩
  have wl1 : (wallWays w mode).length ≤ 120 := by
    rw [wallWays_is]
    refine Nat.le_trans (flatMap_len (wallStep_len w mode) _) ?_
    rw [numbers_length]
    omega
  have wl2 : ∀ i, ((w.windows.take i).flatMap (windowWays mode)).length ≤ 2000 := fun i => by
    refine Nat.le_trans (flatMap_len (windowWays_len mode) _) ?_
    have : (w.windows.take i).length ≤ w.windows.length := List.length_take_le' _ _
    have := hw.win
    omega
  refine q_forLn (xs := ws.map fun q => V.ref q.1) (ev_fld (ev_var rfl) (e1 _ _ a1) T.clW T.nWwi wo_windows) (sq_of (e1 _ _ a3))
    (fun i σ' H' => ∃ o : Option V, σ' = [some (.ref L.a), some (mv mode), some (.ref p), o, none, none, none, none] ∧ Ex H H' ∧ PrAt H' p (wallWays w mode ++ (w.windows.take i).flatMap (windowWays mode)))
    (fun H2 e2 => ⟨none, rfl, e1.trans e2, by rw [List.take_zero]; show PrAt H2 p (_ ++ []); rw [List.append_nil]; exact hpr1.mono e2⟩) (fun i σ' H' _ ⟨_, _, e, _⟩ => sq_of (e _ _ a3)) (fun i v σ' H' hv ⟨o, hσ, e2, hpr⟩ => ?_) (fun σ' H' ⟨o, hσ, e2, hpr⟩ => ?_)
  · subst hσ
    obtain ⟨u, hu, rfl⟩ := map_get hv
    have hx : w.windows[i]? = some u.2 := by rw [← a4, List.getElem?_map, hu]; rfl
    obtain ⟨ts, t1, t2, t3⟩ := hpr
    have hts : ts.length ≤ 2120 := by
      have := congrArg List.length t2
      rw [List.length_map, List.length_append] at this
      have := wl2 i
      omega
    refine ⟨_, rfl, Or.inl ⟨rfl, _, sq_of t1⟩, _, rfl, _, rfl, u.1, u.2, mode, rfl, e2 _ _ (a5 u (List.mem_of_getElem? hu)), fun q H3 hq e3 hpr3 => ?_⟩
    obtain ⟨us, u1, u2, u3⟩ := hpr3
    have hus : us.length ≤ 2 := by
      have := congrArg List.length u2
      rw [List.length_map] at this
      have := windowWays_len mode u.2
      omega
    refine ⟨p, q, _, _, rfl, rfl, e3 _ _ t1, u1, ?_, ?_⟩
    · rw [List.length_map, List.length_map]
      exact sz_of (by omega)
    · refine ⟨_, rfl, Ex.mut (e2.trans e3) hp, ts ++ us, ?_, ?_, fun y hy => ?_⟩
      · rw [upd_same, List.map_append]
      · rw [List.map_append, t2, u2, flatMap_more hx, List.append_assoc]
      · rcases List.mem_append.mp hy with hy | hy
        · exact (upd_ne (ne_of (e3 _ _ (t3 y hy)) (e3 _ _ t1) (fun z => nomatch z))).trans (e3 _ _ (t3 y hy))
        · exact (upd_ne (ne_of (u3 y hy) (e3 _ _ t1) (fun z => nomatch z))).trans (u3 y hy)
  · subst hσ
    have hall : wallWays w mode ++ (w.windows.take (ws.map fun q => V.ref q.1).length).flatMap (windowWays mode) = allWays w mode := by
      have : (ws.map fun q => V.ref q.1).length = w.windows.length := by rw [List.length_map, ← a4, List.length_map]
      rw [this, List.take_length]
      rfl
    rw [hall] at hpr
    have hal : (allWays w mode).length ≤ 2120 := by
      unfold allWays
      rw [List.length_append]
      have := wl2 w.windows.length
      rw [List.take_length] at this
      omega
    have hw2 := hw.mono e2
    refine q_asgLcR (n := Vbtaac.objectCount w + 1) (ea_cons (ev_I (ev_wm hw2.at_ (ev_var rfl) (fun _ _ => wo_none) ea_nil (sv_many hw2)) ev_c (congrArg V.int (by omega))) ea_nil) (by omega)
      (fun H3 Dl i H' => ∃ qs : List Addr, qs.length = i ∧ qs.Nodup ∧ (∀ q ∈ qs, H3 q = none ∧ H' q = some (.lst []) ∧ q ≠ Dl) ∧ H' Dl = some (.lst (qs.map V.ref)) ∧ Ex H3 H')
      (fun H3 Dl e3 hD => ⟨[], rfl, List.nodup_nil, fun q hq => absurd hq List.not_mem_nil, upd_same, Ex.new hD⟩) (fun _ => rfl) (fun H3 Dl i H4 e3 hD hi ⟨qs, q1, q2, q3, q4, q5⟩ => ?_) fun H3 Dl H4 e3 hD ⟨qs, q1, q2, q3, q4, q5⟩ => ?_
    · refine ⟨Nat.zero_le _, fun q hq => ⟨qs.map V.ref, ?_, ?_, qs ++ [q], ?_, ?_, fun c hc => ?_, ?_, ?_⟩⟩
      · exact (upd_ne (ne_of_none q4 hq)).trans q4
      · rw [List.length_map]
        exact sz_lt (by omega)
      · rw [List.length_append, q1]
        rfl
      · refine List.nodup_append.mpr ⟨q2, List.nodup_cons.mpr ⟨List.not_mem_nil, List.nodup_nil⟩, fun a ha b hb => ?_⟩
        rw [List.mem_singleton.mp hb]
        exact ne_of_none (q3 a ha).2.1 hq
      · have hqD : q ≠ Dl := Ne.symm (ne_of_none q4 hq)
        rcases List.mem_append.mp hc with hc | hc
        · obtain ⟨r1, r2, r3⟩ := q3 c hc
          exact ⟨r1, (upd_ne r3).trans ((upd_ne (ne_of_none r2 hq)).trans r2), r3⟩
        · have e := List.mem_singleton.mp hc
          subst e
          exact ⟨fresh_back q5 hq, (upd_ne hqD).trans upd_same, hqD⟩
      · rw [upd_same, List.map_append]
        rfl
      · exact Ex.mut (q5.trans (Ex.new hq)) hD
    · have hqs : qs.length = Vbtaac.objectCount w + 1 := q1
      have hDH : H Dl = none := fresh_back (e2.trans e3) hD
      have e4 : Ex H H4 := (e2.trans e3).trans q5
      obtain ⟨ts, t1, t2, t3⟩ := (hpr.mono e3).mono q5
      refine ⟨_, rfl, p, _, rfl, sq_of t1, fun x hx => ?_, fun ys q hperm hq => ?_⟩
      · obtain ⟨u, hu, rfl⟩ := List.mem_map.mp hx
        exact ⟨u.1, _, _, rfl, t3 u hu⟩
      obtain ⟨ts', hp2, rfl⟩ := perm_map_inv hperm ts rfl
      have hperm2 : (ts'.map (·.2)).Perm (allWays w mode) := by
        rw [← t2]
        exact hp2.map _
      have hlen' : ts'.length ≤ 2120 := by
        have := hperm2.length_eq
        rw [List.length_map] at this
        omega
      have hqD : q ≠ Dl := Ne.symm (ne_of_none q4 hq)
      refine ⟨q, rfl, ⟨_, sq_of upd_same⟩, for_list (K := g.K) (a := q) (xs := ts'.map fun t => V.ref t.1)
        (fun i σ' H' => ∃ o6 o7 : Option V, σ' = [some (.ref L.a), some (mv mode), some (.ref p), o, some (.ref Dl), none, o6, o7] ∧ Ex H H' ∧ H' q = some (.lst (ts'.map fun t => V.ref t.1)) ∧ H' Dl = some (.lst (qs.map V.ref)) ∧ (∀ u ∈ ts, H' u.1 = some (.tup [iv u.2.1, iv u.2.2])) ∧
          ∀ a c, qs[a]? = some c → H' c = some (.lst (nv ((((ts'.map (·.2)).take i).filter fun p => p.1 == a).map (·.2)))))
        ⟨none, none, rfl, e4.trans (Ex.new hq), upd_same, (upd_ne (Ne.symm hqD)).trans q4, fun u hu => (upd_ne (ne_of_none (t3 u hu) hq)).trans (t3 u hu), fun a c hc => ?_⟩
        (fun i σ' H' _ ⟨_, _, _, _, h, _⟩ => sq_of h) (fun i v σ' H5 hv ⟨o6, o7, hσ, e5, h5, h6, h7, h8⟩ => ?_) fun σ' H5 ⟨o6, o7, hσ, e5, h5, h6, h7, h8⟩ => ?_⟩
      · have := (q3 c (List.mem_of_getElem? hc)).2.1
        exact (upd_ne (ne_of_none this hq)).trans this
      · subst hσ
        obtain ⟨u, hu, rfl⟩ := map_get hv
        have hmem : u ∈ ts := hp2.mem_iff.mp (List.mem_of_getElem? hu)
        have hu2 : (ts'.map (·.2))[i]? = some u.2 := by rw [List.getElem?_map, hu]; rfl
        have hway : u.2 ∈ allWays w mode := hperm2.mem_iff.mp (List.mem_of_getElem? hu2)
        have hlink := (ways_mem hw.good hm u.2.1 u.2.2).mp hway
        have hsp := isSpace_exists (linked_space hlink).1
        have hlt : u.2.1 < qs.length := by omega
        have hqa : qs[u.2.1]? = some (qs[u.2.1]'hlt) := List.getElem?_eq_getElem hlt
        have hcont := h8 _ _ hqa
        have hfresh := q3 _ (List.mem_of_getElem? hqa)
        refine ⟨u.1, _, rfl, st_of (h7 u hmem), rfl, _, _, rfl, _, _, rfl, rfl, ?_⟩
        refine ⟨_, rfl, _, rfl, Dl, _, _, V.ref (qs[u.2.1]'hlt), rfl, rfl, sq_of h6, atI_nat (by rw [List.getElem?_map, hqa]; rfl), Or.inl ⟨rfl, _, sq_of hcont⟩, _, rfl, _, _, _, rfl, rfl, hcont, ?_, ?_⟩
        · rw [List.length_map, List.length_map]
          have := List.length_filter_le (fun p : Nat × Nat => p.1 == u.2.1) ((ts'.map (·.2)).take i)
          have : ((ts'.map (·.2)).take i).length ≤ (ts'.map (·.2)).length := List.length_take_le' _ _
          rw [List.length_map] at this
          exact sz_lt (by omega)
        · refine ⟨_, _, rfl, Ex.mut e5 (fresh_back (e2.trans e3) hfresh.1), ?_, ?_, fun y hy => ?_, fun a c hac => ?_⟩
          · refine (upd_ne (fun z => ?_)).trans h5
            have := hfresh.2.1
            rw [← z, hq] at this
            cases this
          · exact (upd_ne (Ne.symm hfresh.2.2)).trans h6
          · exact (upd_ne (ne_of (h7 y hy) hcont (fun z => nomatch z))).trans (h7 y hy)
          · rw [take_more hu2, List.filter_append, List.map_append]
            by_cases ha : a = u.2.1
            · subst ha
              have e : c = qs[u.2.1]'hlt := Option.some.inj (hac.symm.trans hqa)
              subst e
              rw [upd_same]
              unfold nv
              rw [List.map_append]
              simp
            · have hne : c ≠ qs[u.2.1]'hlt := fun z => ha (L2.nd_ix q2 hac (by rw [z]; exact hqa))
              rw [upd_ne hne, h8 a c hac]
              have : (u.2.1 == a) = false := by simpa using fun z => ha z.symm
              simp [this]
      · subst hσ
        rw [List.length_map] at h8
        have htk : (ts'.map (·.2)).take ts'.length = ts'.map (·.2) := by rw [← List.length_map (f := fun t : Addr × Nat × Nat => t.2), List.take_length]
        rw [htk] at h8
        refine s_ret (v := .ref Dl) (ev_var rfl) fun H6 e6 => ?_
        refine k Dl H6 (laid (Vbtaac.objectCount w + 1) (ts'.map (·.2))) (e5.trans e6) (laid_rep hw.good hm hperm2) (fun l hl => ?_) ((LLAt.of_addrs h6 hqs h8).mono e6)
        have := laid_short l hl
        rw [List.length_map] at this
        omega
end Sg
set_option Elab.async false
set_option linter.all false
set_option maxRecDepth 100000
set_option maxHeartbeats 4000000
/-! SgL3: the defs of links, second half: levels, paths, light. -/
namespace Sg
open PySem PySem.Spec PyProof.Rows L2 Evl

/-! ### dicts of numbers -/
theorem kN_inj {a b : Nat} (h : kN a = kN b) : a = b := by
  have := Sum.inl.inj h
  omega
theorem dk_any {kvs : List (Key × V)} {ks : List Nat} (h : kvs.map (·.1) = ks.map kN) (x : Nat) : (kvs.any fun kv => decide (kv.1 = kN x)) = ks.contains x := by
  have e : (kvs.any fun kv => decide (kv.1 = kN x)) = (kvs.map (·.1)).any fun k => decide (k = kN x) := by rw [List.any_map]; rfl
  rw [e, h, List.any_map, Bool.eq_iff_iff, List.any_eq_true, List.contains_iff_mem]
  constructor
  · rintro ⟨y, hy, q⟩
    have q : kN y = kN x := of_decide_eq_true q
    rw [← kN_inj q]
    exact hy
  · intro hx
    exact ⟨x, hx, decide_eq_true rfl⟩
theorem dk_some {kvs : List (Key × V)} {ks : List Nat} (h : kvs.map (·.1) = ks.map kN) (x : Nat) : (valV kvs (kN x)).isSome = ks.contains x := by rw [← valV_any, dk_any h]
def insK (ks : List Nat) (x : Nat) : List Nat := if ks.contains x = true then ks else ks ++ [x]
theorem mem_insK {ks : List Nat} {x y : Nat} : y ∈ insK ks x ↔ y ∈ ks ∨ y = x := by
  unfold insK
  split
  · rename_i h
    have h := List.contains_iff_mem.mp h
    constructor
    · exact Or.inl
    · rintro (h' | rfl)
      · exact h'
      · exact h
  · simp
theorem nd_insK {ks : List Nat} {x : Nat} (h : ks.Nodup) : (insK ks x).Nodup := by
  unfold insK
  split
  · exact h
  · rename_i c
    refine List.nodup_append.mpr ⟨h, List.nodup_cons.mpr ⟨List.not_mem_nil, List.nodup_nil⟩, fun a ha b hb e => c ?_⟩
    rw [← List.mem_singleton.mp hb, ← e]
    exact List.contains_iff_mem.mpr ha
theorem put_keys {kvs : List (Key × V)} {ks : List Nat} (h : kvs.map (·.1) = ks.map kN) (x : Nat) (v : V) : (putK kvs (kN x) v).map (·.1) = (insK ks x).map kN := by
  unfold putK insK
  rw [dk_any h]
  split
  · rw [List.map_map, ← h]
    refine List.map_congr_left fun kv _ => ?_
    show (if kv.1 = kN x then (kv.1, v) else kv).1 = kv.1
    split <;> rfl
  · rw [List.map_append, List.map_append, h]
    rfl
section
variable {K : PySem.W.Frag} {σ : L2.St} {H : Hp} {td ty tv tx : TE} {D : Ends} {tz : TS} {d : Addr} {ks m : List Nat} {n : Nat} {v : V}
theorem s_put (hd : DkAt H d ks) (h1 : Ev td σ H (.ref d)) (h2 : Ev ty σ H (iv n)) (h3 : Ev tv σ H v) (hz : ks.length < 100000) (k : ∀ H1 o, Ex H H1 → DkAt (upd H1 d o) d (insK ks n) → D.nx σ (upd H1 d o)) : sDPut td ty tv D σ H := by
  obtain ⟨kvs, a1, a2⟩ := hd
  refine h3 H (Ex.refl H) _ fun H1 e1 => h1 H1 e1 _ fun H2 e2 => h2 H2 (e1.trans e2) _ fun H3 e3 => ?_
  have e := (e1.trans e2).trans e3
  refine ⟨d, _, rfl, DPut.k (k := kN n) (e _ _ a1) ?_, k H3 _ e ⟨_, upd_same, put_keys a2 n v⟩⟩
  have := congrArg List.length a2
  rw [List.length_map, List.length_map] at this
  exact sz_lt (by omega)
theorem et_notin (hd : DkAt H d ks) (h1 : Ev td σ H (.ref d)) (h2 : Ev ty σ H (iv n)) : EvT (tB (tDNotIn ty td)) σ H (!ks.contains n) := by
  obtain ⟨kvs, a1, a2⟩ := hd
  intro H1 e Q q
  refine h2 H1 e _ fun H2 e2 => h1 H2 (e.trans e2) _ fun H3 e3 => ⟨d, _, rfl, DGet.k (k := kN n) (((e.trans e2).trans e3) _ _ a1), _, rfl, ?_⟩
  rw [dk_some a2]
  exact q H3 (e2.trans e3)
theorem el_keys (hd : DkAt H d ks) (h1 : Ev td σ H (.ref d)) : EvL (tCB rListD (tCons td tNil)) σ H (nv ks) := by
  obtain ⟨kvs, a1, a2⟩ := hd
  intro H1 e Q q
  refine h1 H1 e _ fun H2 e2 => ⟨d, kvs, rfl, (e.trans e2) _ _ a1, fun p hp => q p _ (fresh_back e2 hp) (e2.trans (Ex.new hp)) ?_⟩
  rw [upd_same]
  have e3 : (kvs.map fun kv => kV kv.1) = (kvs.map (·.1)).map kV := by rw [List.map_map]; rfl
  rw [e3, a2, List.map_map]
  rfl
theorem el_sortedN (h : EvL tx σ H (nv ks)) (nd : ks.Nodup) (hm : m.Pairwise (· < ·)) (he : ∀ n, n ∈ ks ↔ n ∈ m) : EvL (tCB (rSortedI K) (tCons tx tNil)) σ H (nv m) := by
  intro H1 e Q q
  refine h H1 e _ fun p H2 _ e2 h2 => ⟨p, ofN ks, rfl, sq_of (by rw [h2, nv_ints]), fun ns l hp up hl => q l _ (fresh_back e2 hl) (e2.trans (Ex.new hl)) ?_⟩
  rw [upd_same, sorted_of hp up nd hm he, nv_ints]
end
/-- the a-th list -/
theorem LLAt.at_ {H : Hp} {p : Addr} {Ls : List (List Nat)} (h : LLAt H p Ls) {a : Nat} (ha : a < Ls.length) : ∃ xs q, H p = some (.lst xs) ∧ atI xs (a : Int) = some (.ref q) ∧ H q = some (.lst (nv (lk Ls a))) ∧ xs.length = Ls.length := by
  obtain ⟨qs, h1, h2, h3⟩ := h
  have hlen : qs.length = Ls.length := by
    have := congrArg List.length h2
    rw [List.length_map, List.length_map] at this
    exact this
  have hq : qs[a]? = some (qs[a]'(by omega)) := List.getElem?_eq_getElem (by omega)
  refine ⟨_, (qs[a]'(by omega)).1, h1, atI_nat (by rw [List.getElem?_map, hq]; rfl), ?_, by rw [List.length_map, hlen]⟩
  rw [h3 _ (List.mem_of_getElem? hq)]
  refine congrArg some (congrArg HO.lst ?_)
  have e : (qs.map (·.2))[a]? = some (qs[a]'(by omega)).2 := by rw [List.getElem?_map, hq]; rfl
  have hL : Ls[a]? = some (Ls[a]'ha) := List.getElem?_eq_getElem ha
  rw [h2, List.getElem?_map, hL] at e
  have e := Option.some.inj e
  rw [← e]
  unfold lk
  rw [getD_of hL]
theorem LLAt.len {H : Hp} {p : Addr} {Ls : List (List Nat)} (h : LLAt H p Ls) : ∃ xs, H p = some (.lst xs) ∧ xs.length = Ls.length := by
  obtain ⟨qs, h1, h2, h3⟩ := h
  have := congrArg List.length h2
  rw [List.length_map, List.length_map] at this
  exact ⟨_, h1, by rw [List.length_map]; exact this⟩
/-! ### levels -/
theorem nextL_congr {Ls : List (List Nat)} {b1 b2 l : List Nat} (h : ∀ x, x ∈ b1 ↔ x ∈ b2) : nextL Ls b1 l = nextL Ls b2 l := by
  unfold nextL
  refine List.filter_congr fun b _ => ?_
  congr 2
  rw [Bool.eq_iff_iff, List.contains_iff_mem, List.contains_iff_mem]
  exact h b
def unb (c : Nat) (been : List Nat) : Nat := (List.range c).countP fun x => !been.contains x
theorem unb_lt {c : Nat} {been new : List Nat} (h : ∃ x ∈ new, x < c ∧ x ∉ been) : unb c (been ++ new) < unb c been := by
  obtain ⟨x, hx, hc, hn⟩ := h
  refine countP_lt (fun y _ hy => ?_) ⟨x, List.mem_range.mpr hc, ?_, ?_⟩
  · rw [Bool.not_eq_true'] at hy ⊢
    cases e : been.contains y with
    | false => rfl
    | true =>
      have : (been ++ new).contains y = true := List.contains_iff_mem.mpr (List.mem_append_left _ (List.contains_iff_mem.mp e))
      rw [this] at hy
      cases hy
  · rw [Bool.not_eq_true']
    cases e : been.contains x with
    | false => rfl
    | true => exact absurd (List.contains_iff_mem.mp e) hn
  · have : (been ++ new).contains x = true := List.contains_iff_mem.mpr (List.mem_append_right _ hx)
    rw [this]
    rfl
theorem unb_start {c : Nat} {src : List Nat} (h : ∃ x ∈ src, x < c) : unb c src < c := by
  obtain ⟨x, hx, hc⟩ := h
  have := countP_lt_len (p := fun x => !src.contains x) (l := List.range c) ⟨x, List.mem_range.mpr hc, by
    have : src.contains x = true := List.contains_iff_mem.mpr hx
    rw [this]
    rfl⟩
  rw [List.length_range] at this
  exact this
theorem lvF_len {Ls : List (List Nat)} : ∀ (f : Nat) (been l : List Nat), (lvF Ls f been l).length ≤ f
  | 0, _, _ => Nat.le_refl _
  | f + 1, been, l => by
    unfold lvF
    split
    · exact Nat.zero_le _
    · rw [List.length_cons]
      have := lvF_len (Ls := Ls) f (been ++ nextL Ls been l) (nextL Ls been l)
      omega
theorem next_len {Ls : List (List Nat)} {been l : List Nat} : (nextL Ls been l).length ≤ Ls.length := by
  unfold nextL
  refine Nat.le_trans (List.length_filter_le _ _) ?_
  rw [List.length_range]
  exact Nat.le_refl _
theorem lvF_flat {Ls : List (List Nat)} : ∀ (f : Nat) (been l : List Nat), (lvF Ls f been l).flatten.length ≤ l.length + f * Ls.length
  | 0, _, _ => by simp [lvF]
  | f + 1, been, l => by
    unfold lvF
    split
    · simp
    · rw [List.flatten_cons, List.length_append]
      have h1 := lvF_flat (Ls := Ls) f (been ++ nextL Ls been l) (nextL Ls been l)
      have h2 := next_len (Ls := Ls) (been := been) (l := l)
      rw [Nat.add_mul]
      omega
theorem lvF_lt {Ls : List (List Nat)} : ∀ (f : Nat) (been l : List Nat), (∀ x ∈ l, x < Ls.length) → ∀ x ∈ (lvF Ls f been l).flatten, x < Ls.length
  | 0, _, _, _, x, hx => by simp [lvF] at hx
  | f + 1, been, l, hl, x, hx => by
    unfold lvF at hx
    split at hx
    · simp at hx
    · rw [List.flatten_cons] at hx
      rcases List.mem_append.mp hx with h | h
      · exact hl x h
      · exact lvF_lt f _ _ (fun y hy => (mem_next.mp hy).1) x h
theorem reachL_len {Ls : List (List Nat)} {src : List Nat} (ok : LOk Ls) (hs : src.length ≤ 100) : (levelsL Ls src).flatten.length ≤ 10000 := by
  have := lvF_flat (Ls := Ls) 61 src src
  have h2 := ok.1
  unfold levelsL
  omega

theorem ok_next_level {g : Ctx} (T : Txt g) (D : DefAt g "next_level" s_next_level) : H_next_level g := by
  refine mk_def D sc_next_level (fun _ _ _ _ _ _ us hl => match us, hl with | [_, _, _], _ => rfl) (by rintro vs H Q E ⟨_, _, _, _, _, _, rfl, _⟩; rfl) fun f cdv A outer s H vs Q E hr h => ⟨_, (pss_cons (ps_set (i := 3) sc_next_level.nd rfl (Or.inl rfl) pe_dnewK) (pss_cons (ps_for PassesOwn.never rfl (gi_list g.K (pv 1)) (pg_name (i := 4) sc_next_level.nd rfl (Or.inl rfl)) (pss_one (ps_for PassesOwn.never rfl (gi_list g.K (pe_ix (gx_list g.K) (pv 0) (pv 4) (fun _ _ => rfl))) (pg_name (i := 5) sc_next_level.nd rfl (Or.inl rfl)) (pss_one (ps_if (pt_cmp (pc_dnotin (hu_of hr) (pv 5) (pv 2))) (pss_one (ps_dput (hu_of hr) (pv 3) (pv 5) pe_bl rfl)) pss_nil))))) (pss_one (ps_ret (pe_callB (g_sortedI g.K) (by rfl) T.sorted (by decide +kernel) (pa_cons (pe_callTy (call_list_dK rfl) (by rfl) T.list (by decide +kernel) (pa_cons (pv 3) pa_nil)) pa_nil)))))), ?_⟩
  obtain ⟨p, q, d, Ls, l, ks, rfl, hLs, ok, hq, hl, hd, k⟩ := h
  refine fun fd hfd => ?_
  have mem61 : ∀ n a, n ∈ lk Ls a → n < 61 := fun n a hn => by have := ok.2 a n hn; have := ok.1; omega
  refine q_forLn (xs := nv l) (ev_var rfl) (sq_of (Ex.new hfd _ _ hq))
    (fun i σ' H' => ∃ (o4 o5 : Option V) (ks' : List Nat), σ' = [some (.ref p), some (.ref q), some (.ref d), some (.ref fd), o4, o5] ∧ Ex H H' ∧ DkAt H' fd ks' ∧ ks'.Nodup ∧ ∀ n, n ∈ ks' ↔ n ∉ ks ∧ ∃ a ∈ l.take i, n ∈ lk Ls a)
    (fun H1 e1 => ⟨none, none, [], rfl, (Ex.new hfd).trans e1, DkAt.mono ⟨[], upd_same, rfl⟩ e1, List.nodup_nil, fun n => ⟨fun z => absurd z List.not_mem_nil, fun ⟨_, a, ha, _⟩ => absurd ha List.not_mem_nil⟩⟩) (fun i σ' H' _ ⟨_, _, _, _, e, _⟩ => sq_of (e _ _ hq))
    (fun i v σ' H' hv ⟨o4, o5, ks', hσ, e1, hf, hnd, hmem⟩ => ?_) (fun σ' H' ⟨o4, o5, ks', hσ, e1, hf, hnd, hmem⟩ => ?_)
  · subst hσ
    obtain ⟨a, ha, rfl⟩ := map_get hv
    obtain ⟨xs, qa, x1, x2, x3, _⟩ := LLAt.at_ (hLs.mono e1) (hl a (List.mem_of_getElem? ha))
    refine s_forLn (xs := nv (lk Ls a)) (ev_ix (ev_var rfl) (ev_var rfl) (sq_of x1) x2) (sq_of x3)
      (fun j σ' H'' => ∃ (o5 : Option V) (ks' : List Nat), σ' = [some (.ref p), some (.ref q), some (.ref d), some (.ref fd), some (iv a), o5] ∧ Ex H H'' ∧ H'' qa = some (.lst (nv (lk Ls a))) ∧ DkAt H'' fd ks' ∧ ks'.Nodup ∧ ∀ n, n ∈ ks' ↔ n ∉ ks ∧ ((∃ a ∈ l.take i, n ∈ lk Ls a) ∨ n ∈ (lk Ls a).take j))
      (fun H2 e2 => ⟨o5, ks', rfl, e1.trans e2, e2 _ _ x3, hf.mono e2, hnd, fun n => by rw [hmem n]; simp⟩) (fun j σ' H'' _ ⟨_, _, _, _, h, _⟩ => sq_of h)
      (fun j v σ' H'' hv ⟨o5, ks2, hσ, e2, hqa, hf2, hnd2, hmem2⟩ => ?_) (fun σ' H'' ⟨o5, ks2, hσ, e2, hqa, hf2, hnd2, hmem2⟩ => ?_)
    · subst hσ
      obtain ⟨n0, hn0, rfl⟩ := map_get hv
      have hk61 : ks2.length ≤ 61 := nd_len 61 ks2 hnd2 fun x hx => by
        obtain ⟨_, h | h⟩ := (hmem2 x).mp hx
        · obtain ⟨b, _, hb⟩ := h
          exact mem61 x b hb
        · exact mem61 x a (List.mem_of_mem_take h)
      refine s_when (et_notin (hd.mono e2) (ev_var rfl) (ev_var rfl)) (fun hb H3 e3 => ?_) (fun hb H3 e3 => ?_)
      · have hn : n0 ∉ ks := fun z => by rw [List.contains_iff_mem.mpr z] at hb; cases hb
        refine s_put (hf2.mono e3) (ev_var rfl) (ev_var rfl) ev_c (by omega) fun H4 o e4 hd4 => ?_
        have hf4 := (hf2.mono e3).mono e4
        obtain ⟨kvs, f1, _⟩ := hf4
        refine ⟨_, insK ks2 n0, rfl, Ex.mut ((e2.trans e3).trans e4) hfd, ?_, hd4, nd_insK hnd2, fun n => ?_⟩
        · exact (upd_ne (ne_of (e4 _ _ (e3 _ _ hqa)) f1 (fun z => nomatch z))).trans (e4 _ _ (e3 _ _ hqa))
        · rw [mem_insK, hmem2 n, take_more hn0, List.mem_append, List.mem_singleton]
          constructor
          · rintro (⟨h1, h2 | h2⟩ | rfl)
            · exact ⟨h1, .inl h2⟩
            · exact ⟨h1, .inr (.inl h2)⟩
            · exact ⟨hn, .inr (.inr rfl)⟩
          · rintro ⟨h1, h2 | h2 | h2⟩
            · exact .inl ⟨h1, .inl h2⟩
            · exact .inl ⟨h1, .inr h2⟩
            · exact .inr h2
      · have hn : n0 ∈ ks := by
          rw [Bool.not_eq_false'] at hb
          exact List.contains_iff_mem.mp hb
        refine ⟨_, ks2, rfl, e2.trans e3, e3 _ _ hqa, hf2.mono e3, hnd2, fun n => ?_⟩
        rw [hmem2 n, take_more hn0, List.mem_append, List.mem_singleton]
        constructor
        · rintro ⟨h1, h2 | h2⟩
          · exact ⟨h1, .inl h2⟩
          · exact ⟨h1, .inr (.inl h2)⟩
        · rintro ⟨h1, h2 | h2 | h2⟩
          · exact ⟨h1, .inl h2⟩
          · exact ⟨h1, .inr h2⟩
          · exact absurd hn (h2 ▸ h1)
    · subst hσ
      rw [List.length_map, List.take_length] at hmem2
      refine ⟨_, _, ks2, rfl, e2, hf2, hnd2, fun n => ?_⟩
      rw [hmem2 n, take_more ha]
      constructor
      · rintro ⟨h1, ⟨b, hb, h2⟩ | h2⟩
        · exact ⟨h1, b, List.mem_append_left _ hb, h2⟩
        · exact ⟨h1, a, List.mem_append_right _ List.mem_cons_self, h2⟩
      · rintro ⟨h1, b, hb, h2⟩
        rcases List.mem_append.mp hb with hb | hb
        · exact ⟨h1, .inl ⟨b, hb, h2⟩⟩
        · rw [List.mem_singleton.mp hb] at h2
          exact ⟨h1, .inr h2⟩
  · subst hσ
    rw [List.length_map, List.take_length] at hmem
    refine s_retL (el_sortedN (el_keys hf (ev_var rfl)) hnd next_lt fun n => ?_) fun r H2 hr e2 h2 => k r H2 (fresh_back e1 hr) (e1.trans e2) h2
    rw [hmem n, mem_next]
    constructor
    · rintro ⟨h1, a, ha, h2⟩
      exact ⟨ok.2 a n h2, h1, a, ha, h2⟩
    · rintro ⟨_, h1, a, ha, h2⟩
      exact ⟨h1, a, ha, h2⟩
end Sg
set_option Elab.async false
set_option linter.all false
set_option maxRecDepth 100000
set_option maxHeartbeats 4000000
/-! SgL4: the defs of links, last: levels, paths, light. -/
namespace Sg
open PySem PySem.Spec PyProof.Rows L2 Evl

theorem ok_levels_from {g : Ctx} (T : Txt g) (D : DefAt g "levels_from" s_levels_from) (C_next_level : H_next_level g) : H_levels_from g := by
  refine mk_def D sc_levels_from (fun _ _ _ _ _ _ us hl => match us, hl with | [_, _], _ => rfl) (by rintro vs H Q E ⟨_, _, _, _, rfl, _⟩; rfl) fun f cdv A outer s H vs Q E hr h => ⟨_, (pss_cons (ps_set (i := 2) sc_levels_from.nd rfl (Or.inl rfl) (pe_lst pa_nil)) (pss_cons (ps_set (i := 3) sc_levels_from.nd rfl (Or.inl rfl) (pe_callTy (g_listOf g.K) (by rfl) T.list (by decide +kernel) (pa_cons (pv 1) pa_nil))) (pss_cons (ps_set (i := 4) sc_levels_from.nd rfl (Or.inl rfl) pe_dnewK) (pss_cons (ps_while PassesOwn.never (pt_cmpR (g_neD g.K hr.units) (pv 3) (pe_lst pa_nil) (nomark _)) (pss_cons (ps_for PassesOwn.never rfl (gi_list g.K (pv 3)) (pg_name (i := 5) sc_levels_from.nd rfl (Or.inl rfl)) (pss_one (ps_dput (hu_of hr) (pv 4) (pv 5) pe_bl rfl))) (pss_cons (ps_expr (g_bm g.K PySem.F.plainAttrs_list PySem.F.slot_list_append PySem.F.type_list_append mt_append (pv 2) (pa_cons (pv 3) pa_nil))) (pss_one (ps_set (i := 3) sc_levels_from.nd rfl (Or.inl rfl) (pe_fn C_next_level hr (pa_cons (pv 0) (pa_cons (pv 3) (pa_cons (pv 4) pa_nil))))))))) (pss_one (ps_ret (pv 2))))))), ?_⟩
  obtain ⟨p, q, Ls, src, rfl, hLs, ok, hq, hl, k⟩ := h
  refine q_asgL (el_lst ea_nil (Nat.zero_le _)) fun r H1 hr e1 h1 => ?_
  refine q_asgL (el_list (ev_var rfl) (sq_of (e1 _ _ hq))) fun lv H2 hlv e2 h2 => ?_
  refine fun d hd => ?_
  have hd2 : Ex H2 (upd H2 d (.dK [])) := Ex.new hd
  have hdH : H d = none := fresh_back (e1.trans e2) hd
  have hne0 : lv ≠ r := Ne.symm (ne_of_none h1 hlv)
  refine q_while (fun f σ' H' => ∃ (lv : Addr) (o : Option V) (lev been ks : List Nat) (qs : List (Addr × List Nat)), σ' = [some (.ref p), some (.ref q), some (.ref r), some (.ref lv), some (.ref d), o] ∧ Ex H H' ∧
      H' lv = some (.lst (nv lev)) ∧ lv ≠ r ∧ H' r = some (.lst (qs.map fun u => V.ref u.1)) ∧ (∀ u ∈ qs, H' u.1 = some (.lst (nv u.2)) ∧ u.1 ≠ r) ∧ DkAt H' d ks ∧ ks.Nodup ∧ (∀ x ∈ ks, x < Ls.length) ∧ (∀ x ∈ lev, x < Ls.length) ∧
      (∀ x, x ∈ been ↔ x ∈ ks ∨ x ∈ lev) ∧ qs.map (·.2) ++ lvF Ls f been lev = levelsL Ls src ∧ (lev = [] ∨ unb Ls.length been < f)) 61
    ⟨lv, none, src, src, [], [], rfl, (e1.trans e2).trans hd2, hd2 _ _ h2, hne0, hd2 _ _ (e2 _ _ h1), fun u hu => absurd hu List.not_mem_nil, ⟨[], upd_same, rfl⟩, List.nodup_nil, fun x hx => absurd hx List.not_mem_nil, hl, fun x => by simp, rfl, ?_⟩ ?_
  · cases src with
    | nil => exact .inl rfl
    | cons a s =>
      have := unb_start (c := Ls.length) (src := a :: s) ⟨a, List.mem_cons_self, hl a List.mem_cons_self⟩
      have := ok.1
      exact .inr (by omega)
  · rintro f σ' H' ⟨lv, o, lev, been, ks, qs, rfl, e3, h3, hne, hr3, hqs, hdk, hnd, hks, hlev, hbeen, hdone, hfuel⟩
    have hlist : nv lev = (ofN lev).map V.int := nv_ints lev
    refine ⟨!(ofN lev == ([] : List Int)), et_test (ev_opL (xs := ([] : List Int).map V.int) (ev_var rfl) (el_lst ea_nil (Nat.zero_le _)) fun u H4 hu e4 => rv_neL (sq_of (by rw [e4 _ _ h3, hlist])) (sq_of hu)), fun hb H4 e4 => ⟨_, fun _ _ z => z, ?_⟩, fun hb H4 e4 => ?_⟩
    · have hlne : lev ≠ [] := fun z => by rw [z] at hb; cases hb
      obtain ⟨f, rfl⟩ : ∃ f', f = f' + 1 := ⟨f - 1, by have := hfuel.resolve_left hlne; omega⟩
      have hub := hfuel.resolve_left hlne
      -- for one in level: reached[one] = True
      refine q_forLn (xs := nv lev) (ev_var rfl) (sq_of (e4 _ _ h3))
        (fun i σ' H' => ∃ (o : Option V) (ks' : List Nat), σ' = [some (.ref p), some (.ref q), some (.ref r), some (.ref lv), some (.ref d), o] ∧ Ex H H' ∧ H' lv = some (.lst (nv lev)) ∧ H' r = some (.lst (qs.map fun u => V.ref u.1)) ∧ (∀ u ∈ qs, H' u.1 = some (.lst (nv u.2))) ∧
          DkAt H' d ks' ∧ ks'.Nodup ∧ (∀ x ∈ ks', x < Ls.length) ∧ ∀ x, x ∈ ks' ↔ x ∈ ks ∨ x ∈ lev.take i)
        (fun H5 e5 => ⟨o, ks, rfl, (e3.trans e4).trans e5, e5 _ _ (e4 _ _ h3), e5 _ _ (e4 _ _ hr3), fun u hu => e5 _ _ (e4 _ _ (hqs u hu).1), (hdk.mono e4).mono e5, hnd, hks, fun x => by simp⟩) (fun i σ' H' _ ⟨_, _, _, _, h, _⟩ => sq_of h)
        (fun i v σ' H5 hv ⟨o, ks', hσ, e5, g1, g2, g3, g4, g5, g6, g7⟩ => ?_) (fun σ' H5 ⟨o, ks', hσ, e5, g1, g2, g3, g4, g5, g6, g7⟩ => ?_)
      · subst hσ
        obtain ⟨a, ha, rfl⟩ := map_get hv
        have hk61 : ks'.length ≤ 61 := by
          have := nd_len Ls.length ks' g5 g6
          have := ok.1
          omega
        refine s_put g4 (ev_var rfl) (ev_var rfl) ev_c (by omega) fun H6 o6 e6 hd6 => ?_
        obtain ⟨kvs, d1, _⟩ := g4.mono e6
        have nd : ∀ (c : Addr) (xs : List V), H6 c = some (.lst xs) → upd H6 d o6 c = some (.lst xs) := fun c xs hc => (upd_ne (ne_of hc d1 (fun z => nomatch z))).trans hc
        refine ⟨_, insK ks' a, rfl, Ex.mut (e5.trans e6) hdH, nd _ _ (e6 _ _ g1), nd _ _ (e6 _ _ g2), fun u hu => nd _ _ (e6 _ _ (g3 u hu)), hd6, nd_insK g5, fun x hx => ?_, fun x => ?_⟩
        · rcases mem_insK.mp hx with h | rfl
          · exact g6 x h
          · exact hlev _ (List.mem_of_getElem? ha)
        · rw [mem_insK, g7 x, take_more ha, List.mem_append, List.mem_singleton]
          constructor
          · rintro ((h | h) | h)
            · exact .inl h
            · exact .inr (.inl h)
            · exact .inr (.inr h)
          · rintro (h | h | h)
            · exact .inl (.inl h)
            · exact .inl (.inr h)
            · exact .inr h
      · subst hσ
        rw [List.length_map, List.take_length] at g7
        have hdl : qs.length ≤ 61 := by
          have h61 := lvF_len (Ls := Ls) 61 src src
          have := congrArg List.length hdone
          rw [List.length_append, List.length_map] at this
          unfold levelsL at this
          omega
        refine q_app g2 (ev_var rfl) (ev_var (v := .ref lv) rfl) (by rw [List.length_map]; omega) fun H6 e6 => ?_
        have hrH : H r = none := hr
        have e7 : Ex H (upd H6 r (.lst (qs.map (fun u => V.ref u.1) ++ [V.ref lv]))) := Ex.mut (e5.trans e6) hrH
        have keepr : ∀ (c : Addr) (o : HO), H6 c = some o → c ≠ r → upd H6 r (.lst (qs.map (fun u => V.ref u.1) ++ [V.ref lv])) c = some o := fun c o hc hn => (upd_ne hn).trans hc
        have hdk7 : DkAt (upd H6 r (.lst (qs.map (fun u => V.ref u.1) ++ [V.ref lv]))) d ks' := by
          obtain ⟨kvs, d1, d2⟩ := g4.mono e6
          exact ⟨kvs, keepr _ _ d1 (ne_of d1 (e6 _ _ g2) (fun z => nomatch z)), d2⟩
        refine s_asgL (el_fn (ea_cons (ev_var rfl) (ea_cons (ev_var rfl) (ea_cons (ev_var rfl) ea_nil))) (sl_next (hLs.mono e7) ok (keepr _ _ (e6 _ _ g1) hne) hlev hdk7)) fun lv2 H8 hlv2 e8 h8 => ?_
        have hb2 : ∀ x, x ∈ ks' ↔ x ∈ been := fun x => by rw [g7 x, hbeen x]
        have hnx : nextL Ls ks' lev = nextL Ls been lev := nextL_congr hb2
        refine ⟨f, Nat.lt_succ_self _, lv2, _, nextL Ls been lev, been ++ nextL Ls been lev, ks', qs ++ [(lv, lev)], rfl, e7.trans e8, by rw [h8, hnx], ?_, ?_, fun u hu => ?_, hdk7.mono e8, g5, g6, fun x hx => (mem_next.mp hx).1, fun x => ?_, ?_, ?_⟩
        · exact Ne.symm (ne_of_none upd_same hlv2)
        · rw [e8 _ _ upd_same, List.map_append]
          rfl
        · rcases List.mem_append.mp hu with hu | hu
          · exact ⟨e8 _ _ (keepr _ _ (e6 _ _ (g3 u hu)) (hqs u hu).2), (hqs u hu).2⟩
          · have e := List.mem_singleton.mp hu
            subst e
            exact ⟨e8 _ _ (keepr _ _ (e6 _ _ g1) hne), hne⟩
        · rw [List.mem_append, hb2 x]
        · rw [← hdone, List.map_append, List.append_assoc]
          refine congrArg _ ?_
          show lev :: lvF Ls f _ _ = lvF Ls (f + 1) been lev
          conv => rhs; unfold lvF
          rw [if_neg (by
            intro z
            exact hlne (List.isEmpty_iff.mp z))]
        · by_cases hz : nextL Ls been lev = []
          · exact .inl hz
          · obtain ⟨x, xs, hx⟩ := List.exists_cons_of_ne_nil hz
            have hm : x ∈ nextL Ls been lev := by rw [hx]; exact List.mem_cons_self
            have h1 := mem_next.mp hm
            have := unb_lt (c := Ls.length) (been := been) (new := nextL Ls been lev) ⟨x, hm, h1.1, h1.2.1⟩
            exact .inr (by omega)
    · have hl0 : lev = [] := by
        cases lev with
        | nil => rfl
        | cons a s => cases hb
      refine s_ret (v := .ref r) (ev_var rfl) fun H5 e5 => ?_
      have hend : lvF Ls f been lev = [] := by
        rw [hl0]
        cases f with
        | zero => rfl
        | succ f => rfl
      rw [hend, List.append_nil] at hdone
      refine k r H5 ((e3.trans e4).trans e5) ⟨qs.map fun u => (u.1, nv u.2), ?_, ?_, fun y hy => ?_⟩
      · rw [e5 _ _ (e4 _ _ hr3), List.map_map]
        rfl
      · rw [← hdone, List.map_map, List.map_map]
        rfl
      · obtain ⟨u, hu, rfl⟩ := List.mem_map.mp hy
        exact e5 _ _ (e4 _ _ (hqs u hu).1)
theorem ok_spaces_in {g : Ctx} (T : Txt g) (D : DefAt g "spaces_in" s_spaces_in) : H_spaces_in g := by
  refine mk_def D sc_spaces_in (fun _ _ _ _ _ _ us hl => match us, hl with | [_], _ => rfl) (by rintro vs H Q E ⟨_, _, rfl, _⟩; rfl) fun f cdv A outer s H vs Q E hr h => ⟨_, (pss_cons (ps_set (i := 1) sc_spaces_in.nd rfl (Or.inl rfl) (pe_lst pa_nil)) (pss_cons (ps_for PassesOwn.never rfl (gi_list g.K (pv 0)) (pg_name (i := 2) sc_spaces_in.nd rfl (Or.inl rfl)) (pss_one (ps_expr (g_bm g.K PySem.F.plainAttrs_list PySem.F.slot_list_extend PySem.F.type_list_extend mt_extend (pv 1) (pa_cons (pv 2) pa_nil))))) (pss_one (ps_ret (pv 1))))), ?_⟩
  obtain ⟨r, lv, rfl, hr, hl, k⟩ := h
  obtain ⟨qs, r1, r2, r3⟩ := hr
  refine q_asgL (el_lst ea_nil (Nat.zero_le _)) fun p H1 hp e1 h1 => ?_
  refine q_forLn (xs := qs.map fun u => V.ref u.1) (ev_var rfl) (sq_of (e1 _ _ r1))
    (fun i σ' H' => ∃ o : Option V, σ' = [some (.ref r), some (.ref p), o] ∧ Ex H H' ∧ H' p = some (.lst (nv (lv.take i).flatten)))
    (fun H2 e2 => ⟨none, rfl, e1.trans e2, by rw [List.take_zero]; exact e2 _ _ h1⟩) (fun i σ' H' _ ⟨_, _, e, _⟩ => sq_of (e _ _ r1)) (fun i v σ' H' hv ⟨o, hσ, e2, h2⟩ => ?_) (fun σ' H' ⟨o, hσ, e2, h2⟩ => ?_)
  · subst hσ
    obtain ⟨u, hu, rfl⟩ := map_get hv
    have e3 : (lv.map nv)[i]? = some u.2 := by rw [← r2, List.getElem?_map, hu]; rfl
    rw [List.getElem?_map] at e3
    obtain ⟨l, hl1, hl2⟩ := Option.map_eq_some_iff.mp e3
    have hflat : (lv.take (i + 1)).flatten = (lv.take i).flatten ++ l := by rw [take_more hl1, List.flatten_append]; simp
    have hsz : (lv.take (i + 1)).flatten.length ≤ 10000 := by
      refine Nat.le_trans ?_ hl
      have e : lv.flatten = (lv.take (i + 1)).flatten ++ (lv.drop (i + 1)).flatten := by rw [← List.flatten_append, List.take_append_drop]
      rw [e, List.length_append]
      omega
    have hu3 := e2 _ _ (r3 u (List.mem_of_getElem? hu))
    rw [← hl2] at hu3
    refine ⟨_, rfl, Or.inl ⟨rfl, _, sq_of h2⟩, _, rfl, p, u.1, _, _, rfl, rfl, h2, hu3, ?_, _, rfl, Ex.mut e2 hp, ?_⟩
    · rw [hflat, List.length_append] at hsz
      rw [List.length_map, List.length_map]
      exact sz_of (by omega)
    · rw [upd_same, hflat]
      unfold nv
      rw [List.map_append]
  · subst hσ
    have : (qs.map fun u => V.ref u.1).length = lv.length := by
      have := congrArg List.length r2
      rw [List.length_map, List.length_map] at this
      rw [List.length_map, this]
    rw [this, List.take_length] at h2
    exact s_ret (v := .ref p) (ev_var rfl) fun H2 e3 => k p H2 hp (e2.trans e3) (e3 _ _ h2)
theorem ok_reached_from {g : Ctx} (T : Txt g) (D : DefAt g "reached_from" s_reached_from) (C_spaces_in : H_spaces_in g) (C_levels_from : H_levels_from g) : H_reached_from g := by
  refine mk_def D sc_reached_from (fun _ _ _ _ _ _ us hl => match us, hl with | [_, _], _ => rfl) (by rintro vs H Q E ⟨_, _, _, _, rfl, _⟩; rfl) fun f cdv A outer s H vs Q E hr h => ⟨_, (pss_one (ps_ret (pe_fn C_spaces_in hr (pa_cons (pe_fn C_levels_from hr (pa_cons (pv 0) (pa_cons (pv 1) pa_nil))) pa_nil)))), ?_⟩
  obtain ⟨p, q, Ls, src, rfl, hLs, ok, hq, hl, hz, k⟩ := h
  exact ⟨_, rfl, _, rfl, p, q, Ls, src, rfl, hLs, ok, hq, hl, fun r H2 e2 hr => ⟨r, _, rfl, hr, reachL_len ok hz, fun p' H3 hp e3 h3 => k p' H3 (fresh_back e2 hp) (e2.trans e3) h3⟩⟩
theorem first_range {p : Nat → Bool} {n k : Nat} (hk : k < n) (h1 : p k = true) (h2 : ∀ j, j < k → p j = false) : ((List.range n).filter p)[0]? = some k := by
  have e : List.range n = List.range k ++ (List.range (n - k)).map fun j => k + j := by
    have h : k + (n - k) = n := by omega
    rw [← List.range_add, h]
  have e1 : (List.range k).filter p = [] := List.filter_eq_nil_iff.mpr fun j hj => by rw [h2 j (List.mem_range.mp hj)]; exact Bool.false_ne_true
  obtain ⟨m, hm⟩ : ∃ m, n - k = m + 1 := ⟨n - k - 1, by omega⟩
  rw [e, List.filter_append, e1, List.nil_append, hm, List.range_succ_eq_map, List.map_cons, Nat.add_zero, List.filter_cons, if_pos h1]
  rfl
theorem ok_depth_of {g : Ctx} (T : Txt g) (D : DefAt g "depth_of" s_depth_of) : H_depth_of g := by
  refine mk_def D sc_depth_of (fun _ _ _ _ _ _ us hl => match us, hl with | [_, _], _ => rfl) (by rintro vs H Q E ⟨_, _, _, rfl, _⟩; rfl) fun f cdv A outer s H vs Q E hr h => ⟨_, (pss_one (ps_ret (pe_ix (gx_list g.K) (pe_lc (own := [("depth", 2)]) rfl sc_depth_of.nd (pi_range1 rfl T.range (pa_cons (pe_callB (g_len g.K) (by rfl) T.len (by decide +kernel) (pa_cons (pv 0) pa_nil)) pa_nil)) (blkOk_by (own := [("depth", 2)]) (N := ["levels", "goal", "depth"]) (sc := defScope s_depth_of) (by decide +kernel)) (fun _ _ _ _ _ => (pg_name (i := 2) sc_depth_of.nd rfl (Or.inl rfl))) (fun _ _ _ _ _ => (pts_one (pt_cmpR (g_in g.K) (pv 1) (pe_ix (gx_list g.K) (pv 0) (pv 2) (fun _ _ => rfl)) (by rfl)))) (fun _ _ _ _ _ => (pv 2))) pe_int (fun _ _ => rfl)))), ?_⟩
  obtain ⟨r, lv, n, rfl, hr, hn, hl, k⟩ := h
  obtain ⟨xs0, hx0, hxl⟩ := LLAt.len hr
  obtain ⟨l, hl1, hl2⟩ := depth_at hn
  have hdl : depthL lv n < lv.length := (List.getElem?_eq_some_iff.mp hl1).1
  refine s_ret (ev_opL1 (xs := ((List.range lv.length).filter fun i => (lk lv i).contains n).map iv) (y := iv 0) ?_ (fun H1 e1 => ev_c) (fun p H1 h1 e1 => rv_ixL (sq_of h1) (atI_nat (j := 0) ?_))) k
  · refine el_lcR lv.length (fun i => (lk lv i).contains n) iv (ea_cons (ev_lenS (ev_var rfl) (sq_of hx0) (congrArg V.int (congrArg Int.ofNat hxl))) ea_nil) (by omega) (fun _ => rfl) (fun i hi H1 e1 => ?_) (fun i hi _ H1 e1 => ev_var rfl)
    obtain ⟨xs, q, x1, x2, x3, _⟩ := LLAt.at_ (hr.mono e1) hi
    have := ev_inO (K := g.K) (H := H1) (σ := List.set (wipe [some (V.ref r), some (iv n), none] [2]) 2 (some (iv i))) (ta := tVar 1) (tb := tOp (rIxL g.K) (tVar 0) (tVar 2)) (x := iv n) (ev_var rfl) (ev_ix (ev_var rfl) (ev_var rfl) (sq_of x1) x2) (sq_of x3) rfl (nv_flat _)
    rw [inV_nv] at this
    exact et_test this
  · rw [List.getElem?_map, first_range (k := depthL lv n) hdl]
    · rfl
    · show (lk lv (depthL lv n)).contains n = true
      unfold lk
      rw [getD_of hl1]
      exact List.contains_iff_mem.mpr hl2
    · intro j hj
      have hj2 : j < lv.length := by omega
      have := List.not_of_lt_findIdx hj
      unfold lk
      rw [getD_of (List.getElem?_eq_getElem hj2)]
      simpa using this
end Sg
set_option Elab.async false
set_option linter.all false
set_option maxRecDepth 100000
set_option maxHeartbeats 4000000
/-! SgL5: paths, sources of light. -/
namespace Sg
open PySem PySem.Spec PyProof.Rows L2 Evl

theorem nv_snoc (l : List Nat) (n : Nat) : nv (l ++ [n]) = nv l ++ [iv n] := by
  unfold nv
  rw [List.map_append]
  rfl
theorem ok_path_to {g : Ctx} (T : Txt g) (D : DefAt g "path_to" s_path_to) (C_depth_of : H_depth_of g) : H_path_to g := by
  refine mk_def D sc_path_to (fun _ _ _ _ _ _ us hl => match us, hl with | [_, _, _], _ => rfl) (by rintro vs H Q E ⟨_, _, _, _, _, rfl, _⟩; rfl) fun f cdv A outer s H vs Q E hr h => ⟨_, (pss_cons (ps_set (i := 3) sc_path_to.nd rfl (Or.inr rfl) (pe_lst (pa_cons (pv 2) pa_nil))) (pss_cons (ps_for PassesOwn.never rfl (pi_range1 rfl T.range (pa_cons (pe_fn C_depth_of hr (pa_cons (pv 1) (pa_cons (pv 2) pa_nil))) pa_nil)) (pg_name (i := 4) sc_path_to.nd rfl (Or.inl rfl)) (pss_cons (ps_set (i := 5) sc_path_to.nd rfl (Or.inl rfl) (pe_ix (gx_list g.K) (pv 1) (pe_op op_sub (pe_fn C_depth_of hr (pa_cons (pv 1) (pa_cons (pe_ix (gx_list g.K) (pv 3) (pe_un un_neg pe_int) (fun _ _ => rfl)) pa_nil))) pe_int) (fun _ _ => rfl))) (pss_one (ps_expr (g_bm g.K PySem.F.plainAttrs_list PySem.F.slot_list_append PySem.F.type_list_append mt_append (pv 3) (pa_cons (pe_ix (gx_list g.K) (pe_lc (own := [("one", 6)]) rfl sc_path_to.nd (gi_list g.K (pv 5)) (blkOk_by (own := [("one", 6)]) (N := ["links", "levels", "goal", "path", "back", "ahead", "one"]) (sc := defScope s_path_to) (by decide +kernel)) (fun _ _ _ _ _ => (pg_name (i := 6) sc_path_to.nd rfl (Or.inl rfl))) (fun _ _ _ _ _ => (pts_one (pt_cmpR (g_in g.K) (pe_ix (gx_list g.K) (pv 3) (pe_un un_neg pe_int) (fun _ _ => rfl)) (pe_ix (gx_list g.K) (pv 0) (pv 6) (fun _ _ => rfl)) (by rfl)))) (fun _ _ _ _ _ => (pv 6))) pe_int (fun _ _ => rfl)) pa_nil)))))) (pss_one (ps_ret (g_rev g.K (pv 3)))))), ?_⟩
  obtain ⟨p, r, Ls, lv, n, rfl, hLs, hr, ok, hn, hl, hz, hx, k⟩ := h
  obtain ⟨l0, hl1, hl2⟩ := depth_at hn
  have hdl : depthL lv n < lv.length := (List.getElem?_eq_some_iff.mp hl1).1
  refine q_asgL (el_lst (ea_cons (ev_var rfl) ea_nil) (by show 1 ≤ 100000; decide)) fun pa H1 hpa e1 h1 => ?_
  refine q_forR1 (n := (depthL lv n : Int)) (ea_cons (ev_fn (ea_cons (ev_var rfl) (ea_cons (ev_var rfl) ea_nil)) (sv_depth (hr.mono e1) hn hl)) ea_nil) ⟨by omega, by omega⟩
    (fun i σ' H' => ∃ (o4 o5 : Option V) (pre : List Nat) (cur : Nat), σ' = [some (.ref p), some (.ref r), some (iv n), some (.ref pa), o4, o5, none] ∧ Ex H H' ∧ H' pa = some (.lst (nv pre ++ [iv cur])) ∧ pre.length = i ∧
      pre ++ backL Ls lv (depthL lv n - i) cur = backL Ls lv (depthL lv n) n ∧ ∃ l, lv[depthL lv n - i]? = some l ∧ cur ∈ l)
    (fun H2 e2 => ⟨none, none, [], n, rfl, e1.trans e2, e2 _ _ h1, rfl, rfl, l0, hl1, hl2⟩) (fun i σ' H' hi ⟨o4, o5, pre, cur, hσ, e2, h2, hpre, hback, l, hll, hcur⟩ => ?_) (fun σ' H' ⟨o4, o5, pre, cur, hσ, e2, h2, hpre, hback, l, hll, hcur⟩ => ?_)
  · subst hσ
    obtain ⟨j, hj⟩ : ∃ j, depthL lv n - i = j + 1 := ⟨depthL lv n - i - 1, by omega⟩
    rw [hj] at hback hll
    obtain ⟨l', a1, a2, ⟨rr, a3⟩, a4, _⟩ := ahead_at ok hll hcur
    have hcf : cur ∈ lv.flatten := List.mem_flatten.mpr ⟨l, List.mem_of_getElem? hll, hcur⟩
    have hjl : j < lv.length := (List.getElem?_eq_some_iff.mp a1).1
    have hlast : ∀ (σ : L2.St) (H3 : Hp), Ex H' H3 → σ[3]? = some (some (.ref pa)) → Ev (tOp (rIxL g.K) (tVar 3) (tUn (rU fun i => .int (-i)) (tC (.int 1)))) σ H3 (iv cur) := fun σ H3 e3 s3 => ev_ix (ev_var s3) (ev_un ev_c ru_neg) (sq_of (e3 _ _ h2)) (atI_last _ _)
    obtain ⟨xs, q, x1, x2, x3, _⟩ := LLAt.at_ (hr.mono e2) hjl
    have hlj : lk lv j = l' := by unfold lk; rw [getD_of a1]
    rw [hlj] at x3
    refine q_asg (v := .ref q) (ev_ix (i := (j : Int)) (ev_var rfl) (ev_I (ev_fn (ea_cons (ev_var rfl) (ea_cons (hlast _ _ (Ex.refl _) rfl) ea_nil)) (sv_depth (hr.mono e2) hcf hl)) ev_c (by
      refine congrArg V.int ?_
      show (depthL lv cur : Int) - 1 = j
      rw [a2]
      omega)) (sq_of x1) x2) fun H3 e3 => ?_
    have hlen' : l'.length ≤ 10000 := by
      refine Nat.le_trans ?_ hz
      have e : lv.flatten = (lv.take j).flatten ++ (l' ++ (lv.drop (j + 1)).flatten) := by
        have h1 : lv.drop j = l' :: lv.drop (j + 1) := by
          rw [List.drop_eq_getElem_cons hjl]
          have := List.getElem?_eq_getElem hjl
          rw [this] at a1
          rw [Option.some.inj a1]
        have h2 : lv.flatten = (lv.take j).flatten ++ (lv.drop j).flatten := by rw [← List.flatten_append, List.take_append_drop]
        rw [h2, h1, List.flatten_cons]
      rw [e, List.length_append, List.length_append]
      omega
    have hpl : pre.length ≤ 100 := by omega
    refine s_app (e3 _ _ h2) (ev_var rfl) (ev_opL1 (xs := (l'.filter fun a => (lk Ls a).contains cur).map iv) (y := iv 0) (z := iv (aheadL Ls lv cur)) (el_lcM l' iv (fun a => (lk Ls a).contains cur) iv (ev_var rfl) (sq_of (e3 _ _ x3)) (by omega) (fun _ => rfl)
      (fun a ha H4 e4 => ?_) (fun a ha _ H4 e4 => ev_var rfl)) (fun H4 e4 => ev_c) (fun u H4 h4 e4 => rv_ixL (sq_of h4) (atI_nat (j := 0) (by rw [a3]; rfl)))) (by rw [List.length_append, List.length_map]; show pre.length + 1 < 100000; omega) fun H4 e4 => ?_
    · have hax : a < Ls.length := hx a (List.mem_flatten.mpr ⟨l', List.mem_of_getElem? a1, ha⟩)
      obtain ⟨ys, qa, y1, y2, y3, _⟩ := LLAt.at_ (((hLs.mono e2).mono e3).mono e4) hax
      have := ev_inO (K := g.K) (H := H4) (σ := List.set (wipe [some (.ref p), some (.ref r), some (iv n), some (.ref pa), some (iv i), some (.ref q), none] [6]) 6 (some (iv a))) (tb := tOp (rIxL g.K) (tVar 0) (tVar 6)) (x := iv cur) (hlast _ H4 (e3.trans e4) rfl) (ev_ix (ev_var rfl) (ev_var rfl) (sq_of y1) y2) (sq_of y3) rfl (nv_flat _)
      rw [inV_nv] at this
      exact et_test this
    · refine ⟨_, _, pre ++ [cur], aheadL Ls lv cur, rfl, Ex.mut ((e2.trans e3).trans e4) hpa, ?_, by rw [List.length_append, hpre]; rfl, ?_, l', ?_, a4⟩
      · rw [upd_same, nv_snoc]
      · rw [← hback, List.append_assoc]
        have : depthL lv n - (i + 1) = j := by omega
        rw [this]
        rfl
      · have : depthL lv n - (i + 1) = j := by omega
        rw [this]
        exact a1
  · subst hσ
    have e0 : depthL lv n - (depthL lv n : Int).toNat = 0 := by omega
    rw [e0] at hback
    have hb : pre ++ [cur] = backL Ls lv (depthL lv n) n := hback
    refine ⟨_, rfl, pa, _, rfl, sq_of h2, fun u hu => ?_⟩
    refine k u _ (fresh_back e2 hu) (e2.trans (Ex.new hu)) ?_
    rw [upd_same]
    unfold pathL
    rw [← hb, ← nv_snoc]
    unfold nv
    rw [List.map_reverse]
theorem ok_light_sources {g : Ctx} (T : Txt g) (D : DefAt g "light_sources" s_light_sources) (C_World_numbers : H_World_numbers g) (C_World_has_trait : H_World_has_trait g) (C_lies_in : H_lies_in g) : H_light_sources g := by
  refine mk_def D sc_light_sources (fun _ _ _ _ _ _ us hl => match us, hl with | [_], _ => rfl) (by rintro vs H Q E ⟨_, _, rfl, _⟩; rfl) fun f cdv A outer s H vs Q E hr h => ⟨_, (pss_cons (ps_set (i := 1) sc_light_sources.nd rfl (Or.inl rfl) pe_dnewK) (pss_cons (ps_for PassesOwn.never rfl (gi_list g.K (pe_md0 C_World_numbers T.clW hr (pv 0))) (pg_name (i := 2) sc_light_sources.nd rfl (Or.inl rfl)) (pss_one (ps_if (pt_val (pe_md C_World_has_trait T.clW hr (pv 0) (pa_cons (pv 2) (pa_cons (pe_kn T.cLUMINOUS) pa_nil)))) (pss_one (ps_dput (hu_of hr) (pv 1) (pe_fn C_lies_in hr (pa_cons (pv 0) (pa_cons (pv 2) pa_nil))) pe_bl rfl)) pss_nil))) (pss_one (ps_ret (pe_callB (g_sortedI g.K) (by rfl) T.sorted (by decide +kernel) (pa_cons (pe_callTy (call_list_dK rfl) (by rfl) T.list (by decide +kernel) (pa_cons (pv 1) pa_nil)) pa_nil)))))), ?_⟩
  obtain ⟨L, w, rfl, hw, k⟩ := h
  have hc := hw.good.cnt
  refine fun fd hfd => ?_
  have hw0 := hw.mono (Ex.new (o := .dK []) hfd)
  refine q_forNLn (xs := nv (Vbtaac.objectNumbers w)) (el_wm hw0.at_ (ev_var rfl) (fun _ _ => wo_none) ea_nil (sl_numbers hw0))
    (fun pl i σ' H' => ∃ (o : Option V) (ks : List Nat), σ' = [some (.ref L.a), some (.ref fd), o] ∧ Ex H H' ∧ H' pl = some (.lst (nv (Vbtaac.objectNumbers w))) ∧ DkAt H' fd ks ∧ ks.Nodup ∧
      ∀ h, h ∈ ks ↔ ∃ m ∈ (Vbtaac.objectNumbers w).take i, Vbtaac.hasProperty w m Vbtaac.luminousBit = true ∧ Vbtaac.spaceOf w m = h)
    (fun pl H1 hpl e1 h1 => ⟨none, [], rfl, (Ex.new hfd).trans e1, h1, DkAt.mono ⟨[], upd_same, rfl⟩ e1, List.nodup_nil, fun h => ⟨fun z => absurd z List.not_mem_nil, fun ⟨m, hm, _⟩ => absurd hm List.not_mem_nil⟩⟩) (fun pl i σ' H' _ ⟨_, _, _, _, h, _⟩ => sq_of h)
    (fun pl i v σ' H' hv ⟨o, ks, hσ, e1, h1, hdk, hnd, hmem⟩ => ?_) (fun pl σ' H' ⟨o, ks, hσ, e1, h1, hdk, hnd, hmem⟩ => ?_)
  · subst hσ
    obtain ⟨m, hm, rfl⟩ := map_get hv
    have hn : ex w m := mem_numbers.mp (List.mem_of_getElem? hm)
    have hw1 := hw.mono e1
    refine s_when (b := Vbtaac.hasProperty w m Vbtaac.luminousBit) (et_B (ev_wm hw1.at_ (ev_var rfl) (fun _ _ => wo_none) (ea_cons (ev_var rfl) (ea_cons ev_c ea_nil)) (sv_has_trait hw1 hn 6))) (fun hb H2 e2 => ?_) (fun hb H2 e2 => ?_)
    · have hk61 : ks.length ≤ 61 := nd_len 61 ks hnd fun x hx => by
        obtain ⟨m', hm', _, rfl⟩ := (hmem x).mp hx
        have := mem_numbers.mp (List.mem_of_mem_take hm')
        have := (spc_ok hw.good this.1 this.2).2
        omega
      have hw2 := hw1.mono e2
      refine s_put (n := Vbtaac.spaceOf w m) (hdk.mono e2) (ev_var rfl) (ev_fn (ea_cons (ev_var rfl) (ea_cons (ev_var rfl) ea_nil)) (sv_lies_in hw2 hn)) ev_c (by omega) fun H3 o3 e3 hd3 => ?_
      obtain ⟨kvs, d1, _⟩ := (hdk.mono e2).mono e3
      refine ⟨_, _, rfl, Ex.mut ((e1.trans e2).trans e3) hfd, ?_, hd3, nd_insK hnd, fun h => ?_⟩
      · exact (upd_ne (ne_of (e3 _ _ (e2 _ _ h1)) d1 (fun z => nomatch z))).trans (e3 _ _ (e2 _ _ h1))
      · rw [mem_insK, hmem h, take_more hm]
        constructor
        · rintro (⟨m', hm', q1, q2⟩ | rfl)
          · exact ⟨m', List.mem_append_left _ hm', q1, q2⟩
          · exact ⟨m, List.mem_append_right _ List.mem_cons_self, hb, rfl⟩
        · rintro ⟨m', hm', q1, q2⟩
          rcases List.mem_append.mp hm' with hm' | hm'
          · exact .inl ⟨m', hm', q1, q2⟩
          · rw [List.mem_singleton.mp hm'] at q2
            exact .inr q2.symm
    · refine ⟨_, ks, rfl, e1.trans e2, e2 _ _ h1, hdk.mono e2, hnd, fun h => ?_⟩
      rw [hmem h, take_more hm]
      constructor
      · rintro ⟨m', hm', q⟩
        exact ⟨m', List.mem_append_left _ hm', q⟩
      · rintro ⟨m', hm', q1, q2⟩
        rcases List.mem_append.mp hm' with hm' | hm'
        · exact ⟨m', hm', q1, q2⟩
        · rw [List.mem_singleton.mp hm', hb] at q1
          cases q1
  · subst hσ
    rw [List.length_map, List.take_length] at hmem
    refine s_retL (el_sortedN (el_keys hdk (ev_var rfl)) hnd light_lt fun n => ?_) fun r H2 hr e2 h2 => k r H2 (fresh_back e1 hr) (e1.trans e2) h2
    rw [hmem n, light_mem hw.good]
    constructor
    · rintro ⟨m, hm, q1, q2⟩
      have := mem_numbers.mp hm
      exact ⟨m, this.1, this.2, q1, q2⟩
    · rintro ⟨m, h1, h2, q1, q2⟩
      exact ⟨m, mem_numbers.mpr ⟨h1, h2⟩, q1, q2⟩
end Sg
set_option Elab.async false
set_option linter.all false
set_option maxRecDepth 100000
set_option maxHeartbeats 4000000
/-! SgS1: the view, what is seen and reached. -/
namespace Sg
open PySem PySem.Spec PyProof.Rows L2 Evl

/-! ### an instance beside the world changes -/
section
variable {g : Ctx} {L : Lay} {H : Hp} {w : Wd} {p C dx : Addr} {fs : List (Str × V)} {o : HO}
theorem WG.off (h : WG g L H w) (hp : H p = some (.ins C dx fs)) (h1 : p ≠ L.a) (h2 : p ∉ L.its) : WG g L (upd H p o) w := by
  refine ⟨?_, h.good, h.win⟩
  obtain ⟨d, lw, ws, a1, a2, a3, a4, a5⟩ := h.at_.ex
  refine ⟨h.at_.len, h.at_.nd, ⟨d, lw, ws, (upd_ne (Ne.symm h1)).trans a1, a2, (upd_ne (ne_of a3 hp (fun z => nomatch z))).trans a3, a4, fun u hu => (upd_ne (ne_of (a5 u hu) hp (fun z => nomatch z))).trans (a5 u hu)⟩, (upd_ne (ne_of h.at_.ths hp (fun z => nomatch z))).trans h.at_.ths, fun i x hx => ?_⟩
  obtain ⟨t, dt, b1, b2⟩ := h.at_.th i x hx
  exact ⟨t, dt, b1, (upd_ne (fun z : t = p => h2 (by rw [← z]; exact List.mem_of_getElem? b1))).trans b2⟩
theorem WG.notIn (h : WG g L H w) (hp : H p = some (.ins C dx [])) : p ≠ L.a ∧ p ∉ L.its := by
  constructor
  · intro z
    obtain ⟨d, lw, a1⟩ := h.at_.ins
    rw [z, a1] at hp
    have := Option.some.inj hp
    injection this with _ _ e
    cases e
  · intro z
    obtain ⟨i, hi⟩ := List.getElem?_of_mem z
    have hlt := (List.getElem?_eq_some_iff.mp hi).1
    rw [h.at_.len] at hlt
    obtain ⟨t, dt, b1, b2⟩ := h.at_.th i _ (List.getElem?_eq_getElem hlt)
    have e : t = p := Option.some.inj (b1.symm.trans hi)
    rw [e, hp] at b2
    have := Option.some.inj b2
    injection this with _ _ e
    cases e
theorem LVAt.off {q : Addr} {vss : List (List V)} (h : LVAt H q vss) (hp : H p = some (.ins C dx fs)) : LVAt (upd H p o) q vss := by
  obtain ⟨qs, h1, h2, h3⟩ := h
  exact ⟨qs, (upd_ne (ne_of h1 hp (fun z => nomatch z))).trans h1, h2, fun u hu => (upd_ne (ne_of (h3 u hu) hp (fun z => nomatch z))).trans (h3 u hu)⟩
theorem lst_off {q : Addr} {xs : List V} (h : H q = some (.lst xs)) (hp : H p = some (.ins C dx fs)) : upd H p o q = some (.lst xs) := (upd_ne (ne_of h hp (fun z => nomatch z))).trans h
end
/-! ### the attributes of a view -/
section
variable {s l sl ll se li : Addr}
theorem vi_sl : (viF s l sl ll se li).lookup ("sight_links" : Str) = some (.ref s) := lk_here
theorem vi_ll : (viF s l sl ll se li).lookup ("light_links" : Str) = some (.ref l) := (lk_past (by decide +kernel)).trans lk_here
theorem vi_sv : (viF s l sl ll se li).lookup ("sight_levels" : Str) = some (.ref sl) := (lk_past (by decide +kernel)).trans ((lk_past (by decide +kernel)).trans lk_here)
theorem vi_lv : (viF s l sl ll se li).lookup ("light_levels" : Str) = some (.ref ll) := (lk_past (by decide +kernel)).trans ((lk_past (by decide +kernel)).trans ((lk_past (by decide +kernel)).trans lk_here))
theorem vi_se : (viF s l sl ll se li).lookup ("seen" : Str) = some (.ref se) := (lk_past (by decide +kernel)).trans ((lk_past (by decide +kernel)).trans ((lk_past (by decide +kernel)).trans ((lk_past (by decide +kernel)).trans lk_here)))
theorem vi_li : (viF s l sl ll se li).lookup ("lit" : Str) = some (.ref li) := (lk_past (by decide +kernel)).trans ((lk_past (by decide +kernel)).trans ((lk_past (by decide +kernel)).trans ((lk_past (by decide +kernel)).trans ((lk_past (by decide +kernel)).trans lk_here))))
theorem vi_none {m : Str} (h1 : (m == ("sight_links" : Str)) = false := by decide +kernel) (h2 : (m == ("light_links" : Str)) = false := by decide +kernel) (h3 : (m == ("sight_levels" : Str)) = false := by decide +kernel) (h4 : (m == ("light_levels" : Str)) = false := by decide +kernel)
    (h5 : (m == ("seen" : Str)) = false := by decide +kernel) (h6 : (m == ("lit" : Str)) = false := by decide +kernel) : (viF s l sl ll se li).lookup m = none :=
  (lk_past h1).trans ((lk_past h2).trans ((lk_past h3).trans ((lk_past h4).trans ((lk_past h5).trans ((lk_past h6).trans rfl)))))
abbrev v1F (s : Addr) : List (Str × V) := [("sight_links", .ref s)]
abbrev v2F (s l : Addr) : List (Str × V) := [("sight_links", .ref s), ("light_links", .ref l)]
abbrev v3F (s l sl : Addr) : List (Str × V) := [("sight_links", .ref s), ("light_links", .ref l), ("sight_levels", .ref sl)]
abbrev v4F (s l sl ll : Addr) : List (Str × V) := [("sight_links", .ref s), ("light_links", .ref l), ("sight_levels", .ref sl), ("light_levels", .ref ll)]
abbrev v5F (s l sl ll se : Addr) : List (Str × V) := [("sight_links", .ref s), ("light_links", .ref l), ("sight_levels", .ref sl), ("light_levels", .ref ll), ("seen", .ref se)]
theorem put1 : putF ("sight_links" : Str) (V.ref s) [] = v1F s := rfl
theorem put2 : putF ("light_links" : Str) (V.ref l) (v1F s) = v2F s l := (put_past (by decide +kernel)).trans rfl
theorem put3 : putF ("sight_levels" : Str) (V.ref sl) (v2F s l) = v3F s l sl := (put_past (by decide +kernel)).trans (congrArg _ ((put_past (by decide +kernel)).trans rfl))
theorem put4 : putF ("light_levels" : Str) (V.ref ll) (v3F s l sl) = v4F s l sl ll := (put_past (by decide +kernel)).trans (congrArg _ ((put_past (by decide +kernel)).trans (congrArg _ ((put_past (by decide +kernel)).trans rfl))))
theorem put5 : putF ("seen" : Str) (V.ref se) (v4F s l sl ll) = v5F s l sl ll se := (put_past (by decide +kernel)).trans (congrArg _ ((put_past (by decide +kernel)).trans (congrArg _ ((put_past (by decide +kernel)).trans (congrArg _ ((put_past (by decide +kernel)).trans rfl))))))
theorem put6 : putF ("lit" : Str) (V.ref li) (v5F s l sl ll se) = viF s l sl ll se li :=
  (put_past (by decide +kernel)).trans (congrArg _ ((put_past (by decide +kernel)).trans (congrArg _ ((put_past (by decide +kernel)).trans (congrArg _ ((put_past (by decide +kernel)).trans (congrArg _ ((put_past (by decide +kernel)).trans rfl))))))))
end
theorem spc_lt {w : Wd} (g : Good w) {mode v : Nat} {Ls : List (List Nat)} (r : LRep w mode Ls) (hv : ex w v) : ∀ x ∈ [Vbtaac.spaceOf w v], x < Ls.length := fun x hx => by
  have h := spc_ok g hv.1 hv.2
  rw [List.mem_singleton.mp hx, r.len]
  omega
theorem light_len {w : Wd} (g : Good w) {mode : Nat} {Ls : List (List Nat)} (r : LRep w mode Ls) : (∀ x ∈ Vbtaac.lightSources w, x < Ls.length) ∧ (Vbtaac.lightSources w).length ≤ 100 := by
  have hc := g.cnt
  have h1 : ∀ x ∈ Vbtaac.lightSources w, x < 61 ∧ x < Ls.length := fun x hx => by
    obtain ⟨n, a, b, _, rfl⟩ := (light_mem g).mp hx
    have := spc_ok g a b
    rw [r.len]
    omega
  refine ⟨fun x hx => (h1 x hx).2, ?_⟩
  have := nd_len 61 (Vbtaac.lightSources w) light_nd fun x hx => (h1 x hx).1
  omega

theorem ok_View_init {g : Ctx} (T : Txt g) (D : MkAt g g.CV "View" "View.__init__" s_View_init) (C_links_for : H_links_for g) (C_levels_from : H_levels_from g) (C_spaces_in : H_spaces_in g) (C_light_sources : H_light_sources g) (C_lies_in : H_lies_in g) : H_View_init g := by
  refine mk_ini D sc_View_init (fun _ _ _ _ _ _ us hl => match us, hl with | [_, _, _], _ => rfl) (by rintro vs H Q E ⟨_, _, _, _, _, rfl, _⟩; rfl) fun f cdv A outer s H vs Q E hr h => ⟨_, (pss_cons (gs_fld g.K (pv 0) (pe_fn C_links_for hr (pa_cons (pv 1) (pa_cons (pe_kn T.cSIGHT) pa_nil)))) (pss_cons (gs_fld g.K (pv 0) (pe_fn C_links_for hr (pa_cons (pv 1) (pa_cons (pe_kn T.cLIGHT) pa_nil)))) (pss_cons (gs_fld g.K (pv 0) (pe_fn C_levels_from hr (pa_cons (g_fld g.K (pv 0)) (pa_cons (pe_lst (pa_cons (pe_fn C_lies_in hr (pa_cons (pv 1) (pa_cons (pv 2) pa_nil))) pa_nil)) pa_nil)))) (pss_cons (gs_fld g.K (pv 0) (pe_fn C_levels_from hr (pa_cons (g_fld g.K (pv 0)) (pa_cons (pe_fn C_light_sources hr (pa_cons (pv 1) pa_nil)) pa_nil)))) (pss_cons (gs_fld g.K (pv 0) (pe_fn C_spaces_in hr (pa_cons (g_fld g.K (pv 0)) pa_nil))) (pss_one (gs_fld g.K (pv 0) (pe_fn C_spaces_in hr (pa_cons (g_fld g.K (pv 0)) pa_nil))))))))), ?_⟩
  obtain ⟨p, dx, L, w, v, rfl, hp, hw, hv, k⟩ := h
  obtain ⟨n1, n2⟩ := hw.notIn hp
  have hg := hw.good
  -- self.sight_links
  refine ⟨_, rfl, L, w, 1, rfl, hw, by decide, fun s H1 Ss e1 rS bS hS => ?_⟩
  have p1 := e1 _ _ hp
  refine ⟨_, rfl, p, g.CV, dx, _, rfl, p1, T.clV, T.nVsl, (by show 0 < 1000; decide), ?_⟩
  rw [put1]
  have w1 : WG g L (upd H1 p (.ins g.CV dx (v1F s))) w := (hw.mono e1).off p1 n1 n2
  have S1 : LLAt (upd H1 p (.ins g.CV dx (v1F s))) s Ss := LVAt.off hS p1
  -- self.light_links
  refine ⟨_, rfl, L, w, 0, rfl, w1, by decide, fun l H2 Ll e2 rL bL hL => ?_⟩
  have p2 := e2 _ _ upd_same
  refine ⟨_, rfl, p, g.CV, dx, _, rfl, p2, T.clV, T.nVll, (by show 1 < 1000; decide), ?_⟩
  rw [put2]
  have w2 : WG g L (upd H2 p (.ins g.CV dx (v2F s l))) w := (w1.mono e2).off p2 n1 n2
  have S2 : LLAt (upd H2 p (.ins g.CV dx (v2F s l))) s Ss := LVAt.off (S1.mono e2) p2
  have L2 : LLAt (upd H2 p (.ins g.CV dx (v2F s l))) l Ll := LVAt.off hL p2
  -- self.sight_levels
  refine ⟨_, rfl, p, g.CV, dx, _, _, rfl, upd_same, T.clV, T.nVsl, lk_here, ?_⟩
  refine ⟨_, rfl, _, rfl, L, w, v, rfl, w2, hv, fun H3 e3 => ⟨by show 1 ≤ sizeLine; decide, fun c hc => ?_⟩⟩
  have e3' := e3.trans (Ex.new (o := .lst [iv (Vbtaac.spaceOf w v)]) hc)
  refine ⟨s, c, Ss, [Vbtaac.spaceOf w v], rfl, S2.mono e3', rS.ok hg, upd_same, spc_lt hg rS hv, fun sl H4 e4 hsl => ?_⟩
  have e24 := e3'.trans e4
  have p4 := e24 _ _ upd_same
  refine ⟨_, rfl, p, g.CV, dx, _, rfl, p4, T.clV, T.nVsv, (by show 2 < 1000; decide), ?_⟩
  rw [put3]
  have w4 : WG g L (upd H4 p (.ins g.CV dx (v3F s l sl))) w := (w2.mono e24).off p4 n1 n2
  have S4 : LLAt (upd H4 p (.ins g.CV dx (v3F s l sl))) s Ss := LVAt.off (S2.mono e24) p4
  have L4 : LLAt (upd H4 p (.ins g.CV dx (v3F s l sl))) l Ll := LVAt.off (L2.mono e24) p4
  have SV4 : LLAt (upd H4 p (.ins g.CV dx (v3F s l sl))) sl (levelsL Ss [Vbtaac.spaceOf w v]) := LVAt.off hsl p4
  -- self.light_levels
  obtain ⟨ll1, ll2⟩ := light_len hg rL
  refine ⟨_, rfl, p, g.CV, dx, _, _, rfl, upd_same, T.clV, T.nVll, (lk_past (by decide +kernel)).trans lk_here, ?_⟩
  refine ⟨_, rfl, L, w, rfl, w4, fun c H5 hc e5 h5 => ?_⟩
  refine ⟨l, c, Ll, Vbtaac.lightSources w, rfl, L4.mono e5, rL.ok hg, h5, ll1, fun ll H6 e6 hll => ?_⟩
  have e46 := e5.trans e6
  have p6 := e46 _ _ upd_same
  refine ⟨_, rfl, p, g.CV, dx, _, rfl, p6, T.clV, T.nVlv, (by show 3 < 1000; decide), ?_⟩
  rw [put4]
  have w6 : WG g L (upd H6 p (.ins g.CV dx (v4F s l sl ll))) w := (w4.mono e46).off p6 n1 n2
  have S6 : LLAt (upd H6 p (.ins g.CV dx (v4F s l sl ll))) s Ss := LVAt.off (S4.mono e46) p6
  have L6 : LLAt (upd H6 p (.ins g.CV dx (v4F s l sl ll))) l Ll := LVAt.off (L4.mono e46) p6
  have SV6 : LLAt (upd H6 p (.ins g.CV dx (v4F s l sl ll))) sl (levelsL Ss [Vbtaac.spaceOf w v]) := LVAt.off (SV4.mono e46) p6
  have LV6 : LLAt (upd H6 p (.ins g.CV dx (v4F s l sl ll))) ll (levelsL Ll (Vbtaac.lightSources w)) := LVAt.off hll p6
  -- self.seen
  refine ⟨_, rfl, p, g.CV, dx, _, _, rfl, upd_same, T.clV, T.nVsv, (lk_past (by decide +kernel)).trans ((lk_past (by decide +kernel)).trans lk_here), ?_⟩
  refine ⟨sl, _, rfl, SV6, reachL_len (rS.ok hg) (by show 1 ≤ 100; decide), fun se H7 hse e7 h7 => ?_⟩
  have p7 := e7 _ _ upd_same
  refine ⟨_, rfl, p, g.CV, dx, _, rfl, p7, T.clV, T.nVse, (by show 4 < 1000; decide), ?_⟩
  rw [put5]
  have S7 : LLAt (upd H7 p (.ins g.CV dx (v5F s l sl ll se))) s Ss := LVAt.off (S6.mono e7) p7
  have L7 : LLAt (upd H7 p (.ins g.CV dx (v5F s l sl ll se))) l Ll := LVAt.off (L6.mono e7) p7
  have SV7 : LLAt (upd H7 p (.ins g.CV dx (v5F s l sl ll se))) sl (levelsL Ss [Vbtaac.spaceOf w v]) := LVAt.off (SV6.mono e7) p7
  have LV7 : LLAt (upd H7 p (.ins g.CV dx (v5F s l sl ll se))) ll (levelsL Ll (Vbtaac.lightSources w)) := LVAt.off (LV6.mono e7) p7
  have se7 : upd H7 p (.ins g.CV dx (v5F s l sl ll se)) se = some (.lst (nv (levelsL Ss [Vbtaac.spaceOf w v]).flatten)) := lst_off h7 p7
  -- self.lit
  refine ⟨_, rfl, p, g.CV, dx, _, _, rfl, upd_same, T.clV, T.nVlv, (lk_past (by decide +kernel)).trans ((lk_past (by decide +kernel)).trans ((lk_past (by decide +kernel)).trans lk_here)), ?_⟩
  refine ⟨ll, _, rfl, LV7, reachL_len (rL.ok hg) ll2, fun li H8 hli e8 h8 => ?_⟩
  have p8 := e8 _ _ upd_same
  refine ⟨_, rfl, p, g.CV, dx, _, rfl, p8, T.clV, T.nVli, (by show 5 < 1000; decide), ?_⟩
  rw [put6]
  refine k _ ⟨dx, s, l, sl, ll, se, li, Ss, Ll, upd_same, rS, rL, LVAt.off (S7.mono e8) p8, LVAt.off (L7.mono e8) p8, LVAt.off (SV7.mono e8) p8, LVAt.off (LV7.mono e8) p8, ?_, ?_⟩ fun b o hb hne => ?_
  · rw [lst_off (e8 _ _ se7) p8, ← rS.reach]
    rfl
  · have e : Vbtaac.litSpaces w = (levelsL Ll (Vbtaac.lightSources w)).flatten := by
      show Vbtaac.reachableSpaces w 0 (Vbtaac.lightSources w) = _
      rw [← rL.reach]
      rfl
    rw [lst_off h8 p8, e]
  · have a1 : upd H1 p (.ins g.CV dx (v1F s)) b = some o := (upd_ne hne).trans (e1 _ _ hb)
    have a2 : upd H2 p (.ins g.CV dx (v2F s l)) b = some o := (upd_ne hne).trans (e2 _ _ a1)
    have a4 : upd H4 p (.ins g.CV dx (v3F s l sl)) b = some o := (upd_ne hne).trans (e24 _ _ a2)
    have a6 : upd H6 p (.ins g.CV dx (v4F s l sl ll)) b = some o := (upd_ne hne).trans (e46 _ _ a4)
    have a7 : upd H7 p (.ins g.CV dx (v5F s l sl ll se)) b = some o := (upd_ne hne).trans (e7 _ _ a6)
    exact (upd_ne hne).trans (e8 _ _ a7)
end Sg
set_option Elab.async false
set_option linter.all false
set_option maxRecDepth 100000
set_option maxHeartbeats 4000000
/-! SgS2: what is seen and reached. -/
namespace Sg
open PySem PySem.Spec PyProof.Rows L2 Evl

section
variable {g : Ctx} {L : Lay} {H : Hp} {w : Wd} {v x : Nat} {p q : Addr} {sp : List Nat} {σ : L2.St} {ta tb te : TE} {tr : TA} {E : XK} {m : Str} {vs xs : List V} {z : V} {s : Sp}
theorem sl_goals (h : ViewAt g H p w v) (hq : H q = some (.lst (nv sp))) (hz : sp.length ≤ 100) : SpL (sp_View_goals g) [.ref p, .ref q] H (nv (goalsM w v sp)) := fun H1 e Q k _ => ⟨p, q, w, v, sp, rfl, h.mono e, e _ _ hq, hz, k⟩
theorem sv_sees (h : ViewAt g H p w v) (hw : WG g L H w) (hx : ex w x) : SpV (sp_View_does_see g) [.ref p, .ref L.a, iv x] H (.bl (Vbtaac.canSee w v x)) := fun H1 e Q k _ => ⟨p, L, w, v, x, rfl, h.mono e, hw.mono e, hx, k⟩
theorem sl_hands (hw : WG g L H w) (hv : ex w v) : SpL (sp_hands_from g) [.ref L.a, iv v] H (nv (Vbtaac.reachableSpaces w 2 [Vbtaac.spaceOf w v])) := fun H1 e Q k _ => ⟨L, w, v, rfl, hw.mono e, hv, k⟩
theorem sv_is_reached (hw : WG g L H w) (h : ViewAt g H p w v) (hq : H q = some (.lst (nv (Vbtaac.reachableSpaces w 2 [Vbtaac.spaceOf w v])))) (hx : ex w x) : SpV (sp_is_reached g) [.ref L.a, .ref p, .ref q, iv v, iv x] H (.bl (Vbtaac.canReach w v x)) := fun H1 e Q k _ => ⟨L, w, p, q, v, x, rfl, hw.mono e, h.mono e, e _ _ hq, hx, k⟩
theorem sv_does_reach (hw : WG g L H w) (hv : ex w v) (hx : ex w x) : SpV (sp_does_reach g) [.ref L.a, iv v, iv x] H (.bl (Vbtaac.canReach w v x)) := fun H1 e Q k _ => ⟨L, w, v, x, rfl, hw.mono e, hv, hx, k⟩
theorem sl_visible (hw : WG g L H w) (hv : ex w v) : SpL (sp_visible_to g) [.ref L.a, iv v] H (nv ((Vbtaac.objectNumbers w).filter fun x => Vbtaac.canSee w v x)) := fun H1 e Q k _ => ⟨L, w, v, rfl, hw.mono e, hv, k⟩
theorem sl_reachable (hw : WG g L H w) (hv : ex w v) : SpL (sp_reachable_by g) [.ref L.a, iv v] H (nv ((Vbtaac.objectNumbers w).filter fun x => Vbtaac.canReach w v x)) := fun H1 e Q k _ => ⟨L, w, v, rfl, hw.mono e, hv, k⟩
/-- View(world, v) -/
theorem view_made (hw : WG g L H w) (hv : ex w v) (ha : Ev ta σ H (.ref L.a)) (hb : Ev tb σ H (iv v)) : ∀ H1, Ex H H1 → ∀ Q : VK, (∀ p H2, H1 p = none → Ex H1 H2 → ViewAt g H2 p w v → Q (.ref p) H2) → tMake g.CV (sp_View_init g) [] E (tCons ta (tCons tb tNil)) σ H1 Q := fun H1 e Q k =>
  ha H1 e _ fun H2 e2 => hb H2 (e.trans e2) _ fun H3 e3 x dx nx nd ne => by
    have e4 : Ex H3 (upd (upd H3 dx (.own x)) x (.ins g.CV dx [])) := (Ex.new nd).trans (Ex.new ((upd_ne (Ne.symm ne)).trans nx))
    have e13 := e2.trans e3
    refine ⟨x, dx, L, w, v, rfl, upd_same, hw.mono ((e.trans e13).trans e4), hv, fun H5 hview kp => ⟨rfl, ?_⟩⟩
    refine k x H5 (fresh_back e13 nx) (fun b o hb => ?_) hview
    exact kp b o (e4 _ _ (e13 _ _ hb)) (ne_of_none (e13 _ _ hb) nx)
theorem view_fld (h : ViewAt g H p w v) : ∃ dx s l sl ll se li, H p = some (.ins g.CV dx (viF s l sl ll se li)) ∧ H se = some (.lst (nv (Vbtaac.reachableSpaces w 1 [Vbtaac.spaceOf w v]))) ∧ H li = some (.lst (nv (Vbtaac.litSpaces w))) := by
  obtain ⟨dx, s, l, sl, ll, se, li, Ss, Ll, h1, _, _, _, _, _, _, h8, h9⟩ := h
  exact ⟨dx, s, l, sl, ll, se, li, h1, h8, h9⟩
end
/-! ### what evaluates to something of which this is true -/
def EvP (te : TE) (σ : L2.St) (H : Hp) (P : V → Hp → Prop) : Prop := ∀ H1, Ex H H1 → ∀ Q : VK, (∀ v H2, Ex H1 H2 → P v H2 → Q v H2) → te σ H1 Q
section
variable {g : Ctx} {L : Lay} {H : Hp} {w : Wd} {v x : Nat} {σ : L2.St} {ta tb te : TE} {tz : TS} {D : Ends} {E : XK} {P P2 : V → Hp → Prop} {K : PySem.W.Frag} {n i j : Nat}
theorem EvL.toP {xs : List V} (h : EvL te σ H xs) : EvP te σ H (fun v H2 => ∃ p, v = .ref p ∧ H2 p = some (.lst xs)) := fun H1 e Q k => h H1 e _ fun p H2 _ e2 h2 => k _ H2 e2 ⟨p, rfl, h2⟩
theorem q_asgP (h : EvP te σ H P) (k : ∀ v H1, Ex H H1 → P v H1 → tz D (σ.set i (some v)) H1) : tSeq (tAsg te (gName i)) tz D σ H := h H (Ex.refl H) _ fun v H1 e p => k v H1 e p
/-- a, b = x, y by way of the pair -/
theorem q_pairP (ha : EvP ta σ H P) (hb : ∀ H1, Ex H H1 → EvP tb σ H1 P2) (hm : ∀ x H1 H2, P x H1 → Ex H1 H2 → P x H2) (hm2 : ∀ x H1 H2, P2 x H1 → Ex H1 H2 → P2 x H2) (hn : n = 2) (k : ∀ x y H1, Ex H H1 → P x H1 → P2 y H1 → tz D ((σ.set i (some x)).set j (some y)) H1) :
    tSeq (tAsg (tTup (tCons ta (tCons tb tNil))) (gTup K n (gCons (gName i) (gCons (gName j) gNil)))) tz D σ H :=
  ha H (Ex.refl H) _ fun x H1 e1 h1 => hb H1 e1 H1 (Ex.refl H1) _ fun y H2 e2 h2 => ⟨by show 2 ≤ sizeLine; decide, fun t ht =>
    ⟨t, _, rfl, st_of upd_same, hn.symm, _, _, rfl, _, _, rfl, rfl, k x y _ ((e1.trans e2).trans (Ex.new ht)) (hm _ _ _ (hm _ _ _ h1 e2) (Ex.new ht)) (hm2 _ _ _ h2 (Ex.new ht))⟩⟩
theorem ep_view (hw : WG g L H w) (hv : ex w v) (ha : Ev ta σ H (.ref L.a)) (hb : Ev tb σ H (iv v)) : EvP (tMake g.CV (sp_View_init g) [] E (tCons ta (tCons tb tNil))) σ H (fun z H2 => ∃ p, z = .ref p ∧ ViewAt g H2 p w v) := fun H1 e Q k =>
  view_made hw hv ha hb H1 e Q fun p H2 _ e2 h2 => k _ H2 e2 ⟨p, rfl, h2⟩
end
theorem met_len {w : Wd} {x : Nat} : (Vbtaac.meetingSpaces w x).length ≤ 2 := by
  unfold Vbtaac.meetingSpaces
  split
  · show 1 ≤ 2
    omega
  · split
    · exact Nat.le_refl _
    · show 1 ≤ 2
      omega
theorem filter_all {α : Type} (l : List α) : (l.filter fun _ => true) = l := List.filter_eq_self.mpr fun _ _ => rfl
theorem ofN_nil {l : List Nat} : (ofN l == ([] : List Int)) = l.isEmpty := by cases l <;> rfl

theorem ok_View_goals {g : Ctx} (T : Txt g) (D : MetAt g g.CV "goals" "View.goals" s_View_goals) : H_View_goals g := by
  refine mk_met D sc_View_goals (fun _ _ _ _ _ _ us hl => match us, hl with | [_, _], _ => rfl) (by rintro vs H Q E ⟨_, _, _, _, _, rfl, _⟩; rfl) fun f cdv A outer s H vs Q E hr h => ⟨_, (pss_one (ps_ret (pe_lc (own := [("space", 2)]) rfl sc_View_goals.nd (gi_list g.K (pv 1)) (blkOk_by (own := [("space", 2)]) (N := ["self", "spaces", "space"]) (sc := defScope s_View_goals) (by decide +kernel)) (fun _ _ _ _ _ => (pg_name (i := 2) sc_View_goals.nd rfl (Or.inl rfl))) (fun _ _ _ _ _ => (pts_one (PW.pt (pw_and (pt_cmpR (g_in g.K) (pv 2) (g_fld g.K (pv 0)) (by rfl)) (pw_and1 (pt_cmpR (g_in g.K) (pv 2) (g_fld g.K (pv 0)) (by rfl))))))) (fun _ _ _ _ _ => (pv 2))))), ?_⟩
  obtain ⟨p, q, w, v, sp, rfl, hv, hq, hz, k⟩ := h
  obtain ⟨dx, s, l, sl, ll, se, li, h1, h8, h9⟩ := view_fld hv
  refine s_retL (el_lcM sp iv (fun h => (Vbtaac.reachableSpaces w 1 [Vbtaac.spaceOf w v]).contains h && Vbtaac.isLit w h) iv (ev_var rfl) (sq_of hq) (by omega) (fun _ => rfl) (fun a ha H1 e1 => ?_) (fun a ha _ H1 e1 => ev_var rfl)) k
  have hse := ev_inO (K := g.K) (H := H1) (σ := List.set (wipe (L2.start ["self", "spaces", "space"] [.ref p, .ref q]) [2]) 2 (some (iv a))) (ta := tVar 2) (tb := tFld g.K (tVar 0) "seen") (x := iv a) (ev_var rfl) (ev_fld (ev_var rfl) (e1 _ _ h1) T.clV T.nVse vi_se) (sq_of (e1 _ _ h8)) rfl (nv_flat _)
  have hli := ev_inO (K := g.K) (H := H1) (σ := List.set (wipe (L2.start ["self", "spaces", "space"] [.ref p, .ref q]) [2]) 2 (some (iv a))) (ta := tVar 2) (tb := tFld g.K (tVar 0) "lit") (x := iv a) (ev_var rfl) (ev_fld (ev_var rfl) (e1 _ _ h1) T.clV T.nVli vi_li) (sq_of (e1 _ _ h9)) rfl (nv_flat _)
  rw [inV_nv] at hse hli
  exact et_and (et_test hse) (fun _ => et_test hli)
theorem ok_View_does_see {g : Ctx} (T : Txt g) (D : MetAt g g.CV "does_see" "View.does_see" s_View_does_see) (C_View_goals : H_View_goals g) (C_met_in : H_met_in g) : H_View_does_see g := by
  refine mk_met D sc_View_does_see (fun _ _ _ _ _ _ us hl => match us, hl with | [_, _, _], _ => rfl) (by rintro vs H Q E ⟨_, _, _, _, _, rfl, _⟩; rfl) fun f cdv A outer s H vs Q E hr h => ⟨_, (pss_one (ps_ret (pe_cmpR (g_neD g.K hr.units) (pe_md C_View_goals T.clV hr (pv 0) (pa_cons (pe_fn C_met_in hr (pa_cons (pv 1) (pa_cons (pv 2) pa_nil))) pa_nil)) (pe_lst pa_nil) (nomark _)))), ?_⟩
  obtain ⟨p, L, w, v, x, rfl, hv, hw, hx, k⟩ := h
  obtain ⟨dx, s, l, sl, ll, se, li, h1, h8, h9⟩ := view_fld hv
  have e : Vbtaac.canSee w v x = !(ofN (goalsM w v (Vbtaac.meetingSpaces w x)) == ([] : List Int)) := by
    rw [ofN_nil]
    rfl
  rw [e] at k
  refine s_ret (ev_opLL (xs := nv (goalsM w v (Vbtaac.meetingSpaces w x))) (ys := ([] : List Int).map V.int) (fun H1 e1 Q q => ?_) (el_lst ea_nil (Nat.zero_le _)) fun a b H1 ha hb e1 => rv_neL (sq_of (by rw [ha, nv_ints])) (sq_of hb)) k
  refine ⟨_, rfl, p, dx, _, rfl, e1 _ _ h1, vi_none, ?_⟩
  refine (el_fn (ea_cons (ev_var rfl) (ea_cons (ev_var rfl) ea_nil)) (sl_met_in hw hx) : EvL (tCall (sp_met_in g) [] E0 (tCons (tVar 1) (tCons (tVar 2) tNil))) _ H _) H1 e1 _ fun c H2 hc e2 h2 => ?_
  have := met_len (w := w) (x := x)
  exact ⟨p, c, w, v, _, rfl, (hv.mono e1).mono e2, h2, by omega, fun u H3 hu e3 h3 => q u H3 (fresh_back e2 hu) (e2.trans e3) h3⟩
theorem ok_hands_from {g : Ctx} (T : Txt g) (D : DefAt g "hands_from" s_hands_from) (C_reached_from : H_reached_from g) (C_links_for : H_links_for g) (C_lies_in : H_lies_in g) : H_hands_from g := by
  refine mk_def D sc_hands_from (fun _ _ _ _ _ _ us hl => match us, hl with | [_, _], _ => rfl) (by rintro vs H Q E ⟨_, _, _, rfl, _⟩; rfl) fun f cdv A outer s H vs Q E hr h => ⟨_, (pss_one (ps_ret (pe_fn C_reached_from hr (pa_cons (pe_fn C_links_for hr (pa_cons (pv 0) (pa_cons (pe_kn T.cHANDS) pa_nil))) (pa_cons (pe_lst (pa_cons (pe_fn C_lies_in hr (pa_cons (pv 0) (pa_cons (pv 1) pa_nil))) pa_nil)) pa_nil))))), ?_⟩
  obtain ⟨L, w, v, rfl, hw, hv, k⟩ := h
  refine ⟨_, rfl, L, w, 2, rfl, hw, by decide, fun p H1 Ls e1 rL bL hL => ?_⟩
  refine ⟨_, rfl, _, rfl, L, w, v, rfl, hw.mono e1, hv, fun H2 e2 => ⟨by show 1 ≤ sizeLine; decide, fun c hc => ?_⟩⟩
  have e3 := e2.trans (Ex.new (o := .lst [iv (Vbtaac.spaceOf w v)]) hc)
  refine ⟨p, c, Ls, [Vbtaac.spaceOf w v], rfl, hL.mono e3, rL.ok hw.good, upd_same, spc_lt hw.good rL hv, by show 1 ≤ 100; decide, fun r H4 hr e4 h4 => ?_⟩
  rw [rL.reach] at h4
  exact k r H4 (fresh_back (e1.trans e3) hr) ((e1.trans e3).trans e4) h4
theorem ok_is_reached {g : Ctx} (T : Txt g) (D : DefAt g "is_reached" s_is_reached) (C_View_does_see : H_View_does_see g) (C_does_carry : H_does_carry g) (C_met_in : H_met_in g) : H_is_reached g := by
  refine mk_def D sc_is_reached (fun _ _ _ _ _ _ us hl => match us, hl with | [_, _, _, _, _], _ => rfl) (by rintro vs H Q E ⟨_, _, _, _, _, _, rfl, _⟩; rfl) fun f cdv A outer s H vs Q E hr h => ⟨_, (pss_cons (ps_if (pt_not (pt_val (pe_callB (g_any g.K) (by rfl) T.any (by decide +kernel) (pa_cons (pe_lc (own := [("space", 5)]) rfl sc_is_reached.nd (gi_list g.K (pe_fn C_met_in hr (pa_cons (pv 0) (pa_cons (pv 4) pa_nil)))) (blkOk_by (own := [("space", 5)]) (N := ["world", "view", "hands", "v", "x", "space"]) (sc := defScope s_is_reached) (by decide +kernel)) (fun _ _ _ _ _ => (pg_name (i := 5) sc_is_reached.nd rfl (Or.inl rfl))) (fun _ _ _ _ _ => pts_nil) (fun _ _ _ _ _ => (pe_cmpR (g_in g.K) (pv 5) (pv 2) (by rfl)))) pa_nil)))) (pss_one (ps_ret pe_bl)) pss_nil) (pss_one (ps_ret (pe_or (pe_md C_View_does_see T.clV hr (pv 1) (pa_cons (pv 0) (pa_cons (pv 4) pa_nil))) (pe_one (pe_fn C_does_carry hr (pa_cons (pv 0) (pa_cons (pv 3) (pa_cons (pv 4) pa_nil))))))))), ?_⟩
  obtain ⟨L, w, p, q, v, x, rfl, hw, hv, hq, hx, k⟩ := h
  have hml := met_len (w := w) (x := x)
  have hcr : Vbtaac.canReach w v x = ((Vbtaac.meetingSpaces w x).any (fun h => (Vbtaac.reachableSpaces w 2 [Vbtaac.spaceOf w v]).contains h) && (Vbtaac.canSee w v x || Vbtaac.isCarried w v x)) := by
    show (_ && (_ || _)) = _
    rw [Bool.or_comm]
  rw [hcr] at k
  refine q_when (b := !(Vbtaac.meetingSpaces w x).any fun h => (Vbtaac.reachableSpaces w 2 [Vbtaac.spaceOf w v]).contains h) (et_not (et_B (ev_anyN (bs := (Vbtaac.meetingSpaces w x).map fun h => (Vbtaac.reachableSpaces w 2 [Vbtaac.spaceOf w v]).contains h) ?_ (by rw [List.any_map]; rfl)))) (fun hb H1 e1 => ?_) (fun hb H1 e1 => ?_)
  · have := el_lcN (K := g.K) (H := H) (σ := L2.start ["world", "view", "hands", "v", "x", "space"] [.ref L.a, .ref p, .ref q, iv v, iv x]) (tl := tCall (sp_met_in g) [] E0 (tCons (tVar 0) (tCons (tVar 4) tNil))) (te := tOp (rIn g.K false) (tVar 5) (tVar 2)) (t := tYes) (j := 5) (vs := [5])
      (Vbtaac.meetingSpaces w x) iv (fun _ => true) (fun h => .bl ((Vbtaac.reachableSpaces w 2 [Vbtaac.spaceOf w v]).contains h)) (el_fn (ea_cons (ev_var rfl) (ea_cons (ev_var rfl) ea_nil)) (sl_met_in hw hx)) (by omega) (fun _ => rfl) (fun a ha H1 e1 => et_yes) (fun a ha _ H1 e1 => by
        have := ev_inO (K := g.K) (H := H1) (σ := List.set (wipe (L2.start ["world", "view", "hands", "v", "x", "space"] [.ref L.a, .ref p, .ref q, iv v, iv x]) [5]) 5 (some (iv a))) (ta := tVar 5) (tb := tVar 2) (x := iv a) (ev_var rfl) (ev_var rfl) (sq_of (e1 _ _ hq)) rfl (nv_flat _)
        rw [inV_nv] at this
        exact this)
    rw [filter_all] at this
    rw [List.map_map]
    exact this
  · rw [Bool.not_eq_true'] at hb
    rw [hb, Bool.false_and] at k
    exact s_ret ev_c (fun H2 e2 => k H2 (e1.trans e2))
  · rw [Bool.not_eq_false'] at hb
    rw [hb, Bool.true_and] at k
    obtain ⟨dx, s, l, sl, ll, se, li, h1, _, _⟩ := view_fld hv
    have hw1 := hw.mono e1
    exact s_ret (ev_orV (ev_md (ev_var rfl) (e1 _ _ h1) vi_none (ea_cons (ev_var rfl) (ea_cons (ev_var rfl) ea_nil)) (sv_sees (hv.mono e1) hw1 hx)) (fun _ => ev_fn (ea_cons (ev_var rfl) (ea_cons (ev_var rfl) (ea_cons (ev_var rfl) ea_nil))) (sv_does_carry hw1 hx))) (fun H2 e2 => k H2 (e1.trans e2))
theorem ok_does_reach {g : Ctx} (T : Txt g) (D : DefAt g "does_reach" s_does_reach) (C_is_reached : H_is_reached g) (C_View_init : H_View_init g) (C_hands_from : H_hands_from g) : H_does_reach g := by
  refine mk_def D sc_does_reach (fun _ _ _ _ _ _ us hl => match us, hl with | [_, _, _], _ => rfl) (by rintro vs H Q E ⟨_, _, _, _, rfl, _⟩; rfl) fun f cdv A outer s H vs Q E hr h => ⟨_, (pss_one (ps_ret (pe_fn C_is_reached hr (pa_cons (pv 0) (pa_cons (pe_mk C_View_init hr (pa_cons (pv 0) (pa_cons (pv 1) pa_nil))) (pa_cons (pe_fn C_hands_from hr (pa_cons (pv 0) (pa_cons (pv 1) pa_nil))) (pa_cons (pv 1) (pa_cons (pv 2) pa_nil)))))))), ?_⟩
  obtain ⟨L, w, v, x, rfl, hw, hv, hx, k⟩ := h
  refine ⟨_, rfl, ?_⟩
  refine (view_made hw hv (ev_var rfl) (ev_var rfl) : ∀ H1, Ex H H1 → ∀ Q : VK, _ → tMake g.CV (sp_View_init g) [] E0 (tCons (tVar 0) (tCons (tVar 1) tNil)) (L2.start ["world", "v", "x"] [.ref L.a, iv v, iv x]) H1 Q) H (Ex.refl H) _ fun p H1 hp e1 hview => ?_
  refine (el_fn (ea_cons (ev_var rfl) (ea_cons (ev_var rfl) ea_nil)) (sl_hands (hw.mono e1) hv) : EvL (tCall (sp_hands_from g) [] E0 (tCons (tVar 0) (tCons (tVar 1) tNil))) (L2.start ["world", "v", "x"] [.ref L.a, iv v, iv x]) H1 _) H1 (Ex.refl H1) _ fun q H2 hq e2 h2 => ?_
  exact ⟨_, rfl, _, rfl, L, w, p, q, v, x, rfl, (hw.mono e1).mono e2, hview.mono e2, h2, hx, fun H3 e3 => k H3 ((e1.trans e2).trans e3)⟩
theorem ok_visible_to {g : Ctx} (T : Txt g) (D : DefAt g "visible_to" s_visible_to) (C_View_init : H_View_init g) (C_World_numbers : H_World_numbers g) (C_View_does_see : H_View_does_see g) : H_visible_to g := by
  refine mk_def D sc_visible_to (fun _ _ _ _ _ _ us hl => match us, hl with | [_, _], _ => rfl) (by rintro vs H Q E ⟨_, _, _, rfl, _⟩; rfl) fun f cdv A outer s H vs Q E hr h => ⟨_, (pss_cons (ps_set (i := 2) sc_visible_to.nd rfl (Or.inr rfl) (pe_mk C_View_init hr (pa_cons (pv 0) (pa_cons (pv 1) pa_nil)))) (pss_one (ps_ret (pe_lc (own := [("x", 3)]) rfl sc_visible_to.nd (gi_list g.K (pe_md0 C_World_numbers T.clW hr (pv 0))) (blkOk_by (own := [("x", 3)]) (N := ["world", "v", "view", "x"]) (sc := defScope s_visible_to) (by decide +kernel)) (fun _ _ _ _ _ => (pg_name (i := 3) sc_visible_to.nd rfl (Or.inl rfl))) (fun _ _ _ _ _ => (pts_one (pt_val (pe_md C_View_does_see T.clV hr (pv 2) (pa_cons (pv 0) (pa_cons (pv 3) pa_nil)))))) (fun _ _ _ _ _ => (pv 3)))))), ?_⟩
  obtain ⟨L, w, v, rfl, hw, hv, k⟩ := h
  have hc := hw.good.cnt
  refine q_asgP (ep_view hw hv (ev_var rfl) (ev_var rfl)) fun z H1 e1 ⟨p, hz, hview⟩ => ?_
  subst hz
  have hw1 := hw.mono e1
  obtain ⟨dx, s, l, sl, ll, se, li, h1, _, _⟩ := view_fld hview
  refine s_retL (el_lcN (Vbtaac.objectNumbers w) iv (fun x => Vbtaac.canSee w v x) iv (el_wm hw1.at_ (ev_var rfl) (fun _ _ => wo_none) ea_nil (sl_numbers hw1)) (by rw [numbers_length]; omega) (fun _ => rfl) (fun x hx H2 e2 => ?_) (fun x hx _ H2 e2 => ev_var rfl)) fun r H2 hr e2 h2 => k r H2 (fresh_back e1 hr) (e1.trans e2) h2
  exact et_B (ev_md (ev_var rfl) (e2 _ _ h1) vi_none (ea_cons (ev_var rfl) (ea_cons (ev_var rfl) ea_nil)) (sv_sees (hview.mono e2) (hw1.mono e2) (mem_numbers.mp hx)))
theorem ok_reachable_by {g : Ctx} (T : Txt g) (D : DefAt g "reachable_by" s_reachable_by) (C_View_init : H_View_init g) (C_hands_from : H_hands_from g) (C_World_numbers : H_World_numbers g) (C_is_reached : H_is_reached g) : H_reachable_by g := by
  refine mk_def D sc_reachable_by (fun _ _ _ _ _ _ us hl => match us, hl with | [_, _], _ => rfl) (by rintro vs H Q E ⟨_, _, _, rfl, _⟩; rfl) fun f cdv A outer s H vs Q E hr h => ⟨_, (pss_cons (ps_asg (pe_tup (pa_cons (pe_mk C_View_init hr (pa_cons (pv 0) (pa_cons (pv 1) pa_nil))) (pa_cons (pe_fn C_hands_from hr (pa_cons (pv 0) (pa_cons (pv 1) pa_nil))) pa_nil))) (gg_tup g.K (n := 2) (pgs_cons (pg_name (i := 2) sc_reachable_by.nd rfl (Or.inr rfl)) (pgs_cons (pg_name (i := 3) sc_reachable_by.nd rfl (Or.inr rfl)) pgs_nil)))) (pss_one (ps_ret (pe_lc (own := [("x", 4)]) rfl sc_reachable_by.nd (gi_list g.K (pe_md0 C_World_numbers T.clW hr (pv 0))) (blkOk_by (own := [("x", 4)]) (N := ["world", "v", "view", "hands", "x"]) (sc := defScope s_reachable_by) (by decide +kernel)) (fun _ _ _ _ _ => (pg_name (i := 4) sc_reachable_by.nd rfl (Or.inl rfl))) (fun _ _ _ _ _ => (pts_one (pt_val (pe_fn C_is_reached hr (pa_cons (pv 0) (pa_cons (pv 2) (pa_cons (pv 3) (pa_cons (pv 1) (pa_cons (pv 4) pa_nil))))))))) (fun _ _ _ _ _ => (pv 4)))))), ?_⟩
  obtain ⟨L, w, v, rfl, hw, hv, k⟩ := h
  have hc := hw.good.cnt
  refine q_pairP (ep_view hw hv (ev_var rfl) (ev_var rfl)) (fun H1 e1 => EvL.toP (el_fn (ea_cons (ev_var rfl) (ea_cons (ev_var rfl) ea_nil)) (sl_hands (hw.mono e1) hv))) (fun z H1 H2 ⟨p, e, h⟩ e2 => ⟨p, e, h.mono e2⟩) (fun z H1 H2 ⟨p, e, h⟩ e2 => ⟨p, e, e2 _ _ h⟩) rfl fun z y H3 e3 ⟨p, hz, hview⟩ ⟨q, hy, hq3⟩ => ?_
  subst hz hy
  have hw3 := hw.mono e3
  refine s_retL (el_lcN (Vbtaac.objectNumbers w) iv (fun x => Vbtaac.canReach w v x) iv (el_wm hw3.at_ (ev_var rfl) (fun _ _ => wo_none) ea_nil (sl_numbers hw3)) (by rw [numbers_length]; omega) (fun _ => rfl) (fun x hx H4 e4 => ?_) (fun x hx _ H4 e4 => ev_var rfl)) fun r H4 hr e4 h4 => k r H4 (fresh_back e3 hr) (e3.trans e4) h4
  exact et_B (ev_fn (ea_cons (ev_var rfl) (ea_cons (ev_var rfl) (ea_cons (ev_var rfl) (ea_cons (ev_var rfl) (ea_cons (ev_var rfl) ea_nil))))) (sv_is_reached (hw3.mono e4) (hview.mono e4) (e4 _ _ hq3) (mem_numbers.mp hx)))
end Sg
set_option Elab.async false
set_option linter.all false
set_option maxRecDepth 100000
set_option maxHeartbeats 4000000
/-! SgS3: generated proofs, the path of light. -/
namespace Sg
open PySem PySem.Spec PyProof.Rows L2 Evl

section
variable {g : Ctx} {L : Lay} {H : Hp} {w : Wd} {v x mode n : Nat} {σ : L2.St} {ta tb tc te : TE} {tz : TS} {D : Ends} {E : XK} {K : PySem.W.Frag} {p : Addr} {Ls : List (List Nat)}
/-- return (a, b, [..]) -/
theorem s_retU3 {y z : V} {zs : List V} (ha : Ev ta σ H y) (hb : Ev tb σ H z) (hc : EvL tc σ H zs) (k : ∀ t r H1, Ex H H1 → H1 t = some (.tup [y, z, .ref r]) → H1 r = some (.lst zs) → D.rt (.ref t) H1) : tRet (tTup (tCons ta (tCons tb (tCons tc tNil)))) D σ H :=
  ha H (Ex.refl H) _ fun H1 e1 => hb H1 e1 _ fun H2 e2 => hc H2 (e1.trans e2) _ fun r H3 _ e3 h3 => ⟨by show 3 ≤ sizeLine; decide, fun t ht =>
    k t r _ (((e1.trans e2).trans e3).trans (Ex.new ht)) upd_same ((upd_ne (ne_of_none h3 ht)).trans h3)⟩
theorem ep_links (hw : WG g L H w) (hm : mode ≤ 2) (ha : Ev ta σ H (.ref L.a)) (hb : Ev tb σ H (mv mode)) : EvP (tCall (sp_links_for g) [] E (tCons ta (tCons tb tNil))) σ H (fun z H2 => ∃ p Ls, z = .ref p ∧ LRep w mode Ls ∧ (∀ l ∈ Ls, l.length ≤ 10000) ∧ LLAt H2 p Ls) := fun H1 e Q k =>
  ha H1 e _ fun H2 e2 => hb H2 (e.trans e2) _ fun H3 e3 => ⟨L, w, mode, rfl, hw.mono ((e.trans e2).trans e3), hm, fun p H4 Ls e4 r b hL => k _ H4 ((e2.trans e3).trans e4) ⟨p, Ls, rfl, r, b, hL⟩⟩
/-- levels_from(links, light_sources(world)) -/
theorem ep_lightLv (hw : WG g L H w) (r : LRep w mode Ls) (hL : LLAt H p Ls) (ha : Ev ta σ H (.ref p)) (hb : Ev tb σ H (.ref L.a)) : EvP (tCall (sp_levels_from g) [] E (tCons ta (tCons (tCall (sp_light_sources g) [] E (tCons tb tNil)) tNil))) σ H (fun z H2 => ∃ q, z = .ref q ∧ LLAt H2 q (levelsL Ls (Vbtaac.lightSources w))) := fun H1 e Q k =>
  ha H1 e _ fun H2 e2 => hb H2 (e.trans e2) _ fun H3 e3 => ⟨L, w, rfl, hw.mono ((e.trans e2).trans e3), fun c H4 hc e4 h4 =>
    ⟨p, c, Ls, _, rfl, hL.mono (((e.trans e2).trans e3).trans e4), r.ok hw.good, h4, (light_len hw.good r).1, fun q H5 e5 hq => k _ H5 (((e2.trans e3).trans e4).trans e5) ⟨q, rfl, hq⟩⟩⟩
end
/-- a path may be asked for -/
theorem path_ok {w : Wd} (g : Good w) {mode : Nat} {Ls : List (List Nat)} (r : LRep w mode Ls) {src : List Nat} (hs : ∀ x ∈ src, x < Ls.length) (hz : src.length ≤ 100) : (levelsL Ls src).length ≤ 100 ∧ (levelsL Ls src).flatten.length ≤ 10000 ∧ ∀ x ∈ (levelsL Ls src).flatten, x < Ls.length := by
  refine ⟨?_, reachL_len (r.ok g) hz, lvF_lt 61 src src hs⟩
  have := lvF_len (Ls := Ls) 61 src src
  unfold levelsL
  omega

theorem ok_proof_of {g : Ctx} (T : Txt g) (D : DefAt g "proof_of" s_proof_of) (C_View_goals : H_View_goals g) (C_path_to : H_path_to g) (C_View_init : H_View_init g) (C_met_in : H_met_in g) (C_reached_from : H_reached_from g) : H_proof_of g := by
  refine mk_def D sc_proof_of (fun _ _ _ _ _ _ us hl => match us, hl with | [_, _, _], _ => rfl) (by rintro vs H Q E ⟨_, _, _, _, rfl, _⟩; rfl) fun f cdv A outer s H vs Q E hr h => ⟨_, (pss_cons (ps_asg (pe_tup (pa_cons (pe_mk C_View_init hr (pa_cons (pv 0) (pa_cons (pv 1) pa_nil))) (pa_cons (pe_fn C_met_in hr (pa_cons (pv 0) (pa_cons (pv 2) pa_nil))) pa_nil))) (gg_tup g.K (n := 2) (pgs_cons (pg_name (i := 3) sc_proof_of.nd rfl (Or.inr rfl)) (pgs_cons (pg_name (i := 4) sc_proof_of.nd rfl (Or.inl rfl)) pgs_nil)))) (pss_cons (ps_set (i := 5) sc_proof_of.nd rfl (Or.inl rfl) (pe_md C_View_goals T.clV hr (pv 3) (pa_cons (pv 4) pa_nil))) (pss_cons (ps_if (pt_cmpR (g_eqD g.K hr.units) (pv 5) (pe_lst pa_nil) (nomark _)) (pss_cons (ps_setLc (i := 6) (own := [("space", 7)]) rfl sc_proof_of.nd rfl rfl (sw_true rfl rfl rfl (by decide +kernel)) (gi_list g.K (pv 4)) (blkOk_by (own := [("space", 7)]) (N := ["world", "v", "x", "view", "spaces", "goals", "sources", "space", "sight_path"]) (sc := defScope s_proof_of) (by decide +kernel)) (fun _ _ _ _ _ => (pg_name (i := 7) sc_proof_of.nd rfl (Or.inl rfl))) (fun _ _ _ _ _ => (pts_one (pt_cmpR (g_in g.K) (pv 7) (g_fld g.K (pv 3)) (by rfl)))) (fun _ _ _ _ _ => (pv 7))) (pss_one (ps_ret (pe_tup (pa_cons pe_int (pa_cons (g_fld g.K (pv 3)) (pa_cons (pe_fn C_reached_from hr (pa_cons (g_fld g.K (pv 3)) (pa_cons (pv 6) pa_nil))) pa_nil))))))) pss_nil) (pss_cons (ps_set (i := 8) sc_proof_of.nd rfl (Or.inl rfl) (pe_fn C_path_to hr (pa_cons (g_fld g.K (pv 3)) (pa_cons (g_fld g.K (pv 3)) (pa_cons (pe_ix (gx_list g.K) (pv 5) pe_int (fun _ _ => rfl)) pa_nil))))) (pss_one (ps_ret (pe_tup (pa_cons pe_int (pa_cons (pv 8) (pa_cons (pe_fn C_path_to hr (pa_cons (g_fld g.K (pv 3)) (pa_cons (g_fld g.K (pv 3)) (pa_cons (pe_ix (gx_list g.K) (pv 5) pe_int (fun _ _ => rfl)) pa_nil)))) pa_nil)))))))))), ?_⟩
  obtain ⟨L, w, v, x, rfl, hw, hv, hx, k⟩ := h
  have hg := hw.good
  refine q_pairP (ep_view hw hv (ev_var rfl) (ev_var rfl)) (fun H1 e1 => EvL.toP (el_fn (ea_cons (ev_var rfl) (ea_cons (ev_var rfl) ea_nil)) (sl_met_in (hw.mono e1) hx))) (fun z H1 H2 ⟨p, e, h⟩ e2 => ⟨p, e, h.mono e2⟩) (fun z H1 H2 ⟨p, e, h⟩ e2 => ⟨p, e, e2 _ _ h⟩) rfl fun z y H1 e1 ⟨p, hz, hview⟩ ⟨q, hy, hq⟩ => ?_
  subst hz hy
  have hml := met_len (w := w) (x := x)
  obtain ⟨dx, s, l, sl, ll, se, li, Ss, Ll, h1, rS, rL, hS, hL, hsl, hll, hse, hli⟩ := hview
  refine q_asgL (el_md (ev_var rfl) h1 vi_none (ea_cons (ev_var rfl) ea_nil) (sl_goals ⟨dx, s, l, sl, ll, se, li, Ss, Ll, h1, rS, rL, hS, hL, hsl, hll, hse, hli⟩ hq (by omega))) fun gl H2 hgl e2 h2 => ?_
  have hgl2 : nv (goalsM w v (Vbtaac.meetingSpaces w x)) = (ofN (goalsM w v (Vbtaac.meetingSpaces w x))).map V.int := nv_ints _
  have hvis : Vbtaac.visibleSpaces w v x = goalsM w v (Vbtaac.meetingSpaces w x) := rfl
  obtain ⟨ll1, ll2⟩ := light_len hg rL
  refine q_when (b := (goalsM w v (Vbtaac.meetingSpaces w x)).isEmpty) (et_test (ev_opL (xs := ([] : List Int).map V.int) (ev_var rfl) (el_lst ea_nil (Nat.zero_le _)) fun u H3 hu e3 => by
    rw [← ofN_nil]
    exact rv_eqL (sq_of (by rw [e3 _ _ h2, hgl2])) (sq_of hu))) (fun hb H3 e3 => ?_) (fun hb H3 e3 => ?_)
  · have hnil : goalsM w v (Vbtaac.meetingSpaces w x) = [] := List.isEmpty_iff.mp hb
    have hcs : Vbtaac.canSee w v x = false := by
      show (!(Vbtaac.visibleSpaces w v x).isEmpty) = false
      rw [hvis, hnil]
      rfl
    have hpf : Vbtaac.visibilityProof w v x = (Vbtaac.reachableSpaces w 1 [Vbtaac.spaceOf w v], Vbtaac.reachableSpaces w 0 ((Vbtaac.meetingSpaces w x).filter fun h => (Vbtaac.reachableSpaces w 1 [Vbtaac.spaceOf w v]).contains h)) := by
      unfold Vbtaac.visibilityProof
      rw [hvis, hnil]
    rw [hcs, hpf, if_neg Bool.false_ne_true] at k
    have e13 := e2.trans e3
    refine q_asgL (el_lcM (Vbtaac.meetingSpaces w x) iv (fun h => (Vbtaac.reachableSpaces w 1 [Vbtaac.spaceOf w v]).contains h) iv (ev_var rfl) (sq_of (e13 _ _ hq)) (by omega) (fun _ => rfl) (fun a ha H4 e4 => ?_) (fun a ha _ H4 e4 => ev_var rfl)) fun sr H4 hsr e4 h4 => ?_
    · have := ev_inO (K := g.K) (H := H4) (σ := List.set (wipe (((L2.start ["world", "v", "x", "view", "spaces", "goals", "sources", "space", "sight_path"] [.ref L.a, iv v, iv x]).set 3 (some (.ref p))).set 4 (some (.ref q)) |>.set 5 (some (.ref gl))) [7]) 7 (some (iv a))) (ta := tVar 7) (tb := tFld g.K (tVar 3) "seen") (x := iv a) (ev_var rfl)
        (ev_fld (ev_var rfl) ((e13.trans e4) _ _ h1) T.clV T.nVse vi_se) (sq_of ((e13.trans e4) _ _ hse)) rfl (nv_flat _)
      rw [inV_nv] at this
      exact et_test this
    · have e14 := e13.trans e4
      have hlt : ∀ y ∈ (Vbtaac.meetingSpaces w x).filter fun h => (Vbtaac.reachableSpaces w 1 [Vbtaac.spaceOf w v]).contains h, y < Ll.length := fun y hy => by
        have hy2 := List.contains_iff_mem.mp (List.mem_filter.mp hy).2
        rw [← rS.reach] at hy2
        have := lvF_lt (Ls := Ss) 61 _ _ (spc_lt hg rS hv) y hy2
        rw [rL.len]
        rw [rS.len] at this
        exact this
      refine s_retU3 (ev_c (v := iv 0)) (ev_fld (ev_var rfl) (e14 _ _ h1) T.clV T.nVse vi_se) (el_fn (ea_cons (ev_fld (ev_var rfl) (e14 _ _ h1) T.clV T.nVll vi_ll) (ea_cons (ev_var rfl) ea_nil)) (sl_reached (hL.mono e14) (rL.ok hg) h4 hlt (by
        have := List.length_filter_le (fun h => (Vbtaac.reachableSpaces w 1 [Vbtaac.spaceOf w v]).contains h) (Vbtaac.meetingSpaces w x)
        omega))) fun t r H5 e5 h5 h6 => ?_
      rw [rL.reach] at h6
      exact k t se r H5 ((e1.trans e14).trans e5) h5 ((e14.trans e5) _ _ hse) h6
  · obtain ⟨h0, rest, hgo⟩ : ∃ h0 rest, goalsM w v (Vbtaac.meetingSpaces w x) = h0 :: rest := by
      cases e : goalsM w v (Vbtaac.meetingSpaces w x) with
      | nil => rw [e] at hb; cases hb
      | cons a r => exact ⟨a, r, rfl⟩
    have hcs : Vbtaac.canSee w v x = true := by
      show (!(Vbtaac.visibleSpaces w v x).isEmpty) = true
      rw [hvis, hgo]
      rfl
    have hpf : Vbtaac.visibilityProof w v x = (Vbtaac.shortestPath w 1 [Vbtaac.spaceOf w v] h0, Vbtaac.shortestPath w 0 (Vbtaac.lightSources w) h0) := by
      unfold Vbtaac.visibilityProof
      rw [hvis, hgo]
    have hmem : h0 ∈ goalsM w v (Vbtaac.meetingSpaces w x) := by rw [hgo]; exact List.mem_cons_self
    have hm2 := (List.mem_filter.mp hmem).2
    rw [Bool.and_eq_true] at hm2
    have hs1 : h0 ∈ reachL Ss [Vbtaac.spaceOf w v] := by rw [rS.reach]; exact List.contains_iff_mem.mp hm2.1
    have hs2 : h0 ∈ reachL Ll (Vbtaac.lightSources w) := by rw [rL.reach]; exact List.contains_iff_mem.mp hm2.2
    rw [hcs, hpf, if_pos rfl, ← rS.path hs1, ← rL.path hs2] at k
    rw [hgo] at h2
    have e13 := e2.trans e3
    obtain ⟨a1, a2, a3⟩ := path_ok hg rS (spc_lt hg rS hv) (by show 1 ≤ 100; decide)
    obtain ⟨b1, b2, b3⟩ := path_ok hg rL ll1 ll2
    have hgoal : ∀ (σ : L2.St) (H4 : Hp), Ex H3 H4 → σ[5]? = some (some (.ref gl)) → Ev (tOp (rIxL g.K) (tVar 5) (tC (.int 0))) σ H4 (iv h0) := fun σ H4 e4 s5 => ev_ix (ev_var s5) ev_c (sq_of (e4 _ _ (e3 _ _ h2))) (atI_nat (j := 0) rfl)
    refine q_asgL (el_fn (ea_cons (ev_fld (ev_var rfl) (e13 _ _ h1) T.clV T.nVsl vi_sl) (ea_cons (ev_fld (ev_var rfl) (e13 _ _ h1) T.clV T.nVsv vi_sv) (ea_cons (hgoal _ _ (Ex.refl _) rfl) ea_nil))) (sl_path (n := h0) (Ls := Ss) (lv := levelsL Ss [Vbtaac.spaceOf w v]) (hS.mono e13) (hsl.mono e13) (levelsL_ok Ss _) hs1 a1 a2 a3)) fun sp H4 hsp e4 h4 => ?_
    have e14 := e13.trans e4
    refine s_retU3 (ev_c (v := iv 1)) (ev_var rfl) (el_fn (ea_cons (ev_fld (ev_var rfl) (e14 _ _ h1) T.clV T.nVll vi_ll) (ea_cons (ev_fld (ev_var rfl) (e14 _ _ h1) T.clV T.nVlv vi_lv) (ea_cons (hgoal _ _ e4 rfl) ea_nil))) (sl_path (n := h0) (Ls := Ll) (lv := levelsL Ll (Vbtaac.lightSources w)) (hL.mono e14) (hll.mono e14) (levelsL_ok Ll _) hs2 b1 b2 b3)) fun t r H5 e5 h5 h6 => ?_
    exact k t sp r H5 ((e1.trans e14).trans e5) h5 (e5 _ _ h4) h6
theorem ok_light_path {g : Ctx} (T : Txt g) (D : DefAt g "light_path" s_light_path) (C_links_for : H_links_for g) (C_levels_from : H_levels_from g) (C_path_to : H_path_to g) (C_light_sources : H_light_sources g) (C_spaces_in : H_spaces_in g) : H_light_path g := by
  refine mk_def D sc_light_path (fun _ _ _ _ _ _ us hl => match us, hl with | [_, _], _ => rfl) (by rintro vs H Q E ⟨_, _, _, rfl, _⟩; rfl) fun f cdv A outer s H vs Q E hr h => ⟨_, (pss_cons (ps_set (i := 2) sc_light_path.nd rfl (Or.inl rfl) (pe_fn C_links_for hr (pa_cons (pv 0) (pa_cons (pe_kn T.cLIGHT) pa_nil)))) (pss_cons (ps_set (i := 3) sc_light_path.nd rfl (Or.inl rfl) (pe_fn C_levels_from hr (pa_cons (pv 2) (pa_cons (pe_fn C_light_sources hr (pa_cons (pv 0) pa_nil)) pa_nil)))) (pss_cons (ps_if (pt_cmpR (g_notIn g.K) (pv 1) (pe_fn C_spaces_in hr (pa_cons (pv 3) pa_nil)) (by rfl)) (pss_one (ps_ret (pe_lst pa_nil))) pss_nil) (pss_one (ps_ret (pe_fn C_path_to hr (pa_cons (pv 2) (pa_cons (pv 3) (pa_cons (pv 1) pa_nil))))))))), ?_⟩
  obtain ⟨L, w, h, rfl, hw, hh, k⟩ := h
  have hg := hw.good
  refine q_asgP (ep_links (mode := 0) hw (by decide) (ev_var rfl) ev_c) fun z H1 e1 ⟨p, Ls, hz, r, b, hL⟩ => ?_
  subst hz
  have hw1 := hw.mono e1
  obtain ⟨ll1, ll2⟩ := light_len hg r
  refine q_asgP (ep_lightLv hw1 r hL (ev_var rfl) (ev_var rfl)) fun z H2 e2 ⟨q, hz, hq⟩ => ?_
  subst hz
  have hlit : Vbtaac.isLit w h = (levelsL Ls (Vbtaac.lightSources w)).flatten.contains h := by
    have := r.reach (Vbtaac.lightSources w)
    show (Vbtaac.reachableSpaces w 0 (Vbtaac.lightSources w)).contains h = _
    rw [← this]
    rfl
  unfold litPath at k
  have hin := ev_ninN (K := g.K) (H := H2) (σ := ((L2.start ["world", "space", "links", "levels"] [.ref L.a, iv h]).set 2 (some (.ref p))).set 3 (some (.ref q))) (ta := tVar 1) (tb := tCall (sp_spaces_in g) [] E0 (tCons (tVar 3) tNil)) (x := iv h) (ev_var rfl) (el_fn (ea_cons (ev_var rfl) ea_nil) (sl_spaces hq (reachL_len (r.ok hg) ll2))) rfl (nv_flat _)
  rw [inV_nv, ← hlit] at hin
  refine q_when (b := !Vbtaac.isLit w h) (et_test hin) (fun hb H3 e3 => ?_) (fun hb H3 e3 => ?_)
  · rw [Bool.not_eq_true'] at hb
    rw [hb, if_neg Bool.false_ne_true] at k
    exact s_retL (el_lst ea_nil (Nat.zero_le _)) fun u H4 hu e4 h4 => k u H4 (fresh_back ((e1.trans e2).trans e3) hu) (((e1.trans e2).trans e3).trans e4) h4
  · rw [Bool.not_eq_false'] at hb
    rw [hb, if_pos rfl] at k
    rw [hlit] at hb
    have hmem : h ∈ reachL Ls (Vbtaac.lightSources w) := List.contains_iff_mem.mp hb
    rw [← r.path hmem] at k
    obtain ⟨b1, b2, b3⟩ := path_ok hg r ll1 ll2
    exact s_retL (el_fn (ea_cons (ev_var rfl) (ea_cons (ev_var rfl) (ea_cons (ev_var rfl) ea_nil))) (sl_path (n := h) (Ls := Ls) (lv := levelsL Ls (Vbtaac.lightSources w)) ((hL.mono e2).mono e3) (hq.mono e3) (levelsL_ok Ls _) hmem b1 b2 b3)) fun u H4 hu e4 h4 => k u H4 (fresh_back ((e1.trans e2).trans e3) hu) (((e1.trans e2).trans e3).trans e4) h4
end Sg
set_option Elab.async false
set_option linter.all false
set_option maxRecDepth 100000
set_option maxHeartbeats 4000000
/-! SgS4: the checker of proofs. -/
namespace Sg
open PySem PySem.Spec PyProof.Rows L2 Evl

def lcScope : Expr → Scope
  | .ListComp _ _ sc _ => sc
  | _ => { kind := .function, names := [], isGenerator := false, isCoroutine := false }
def scOut : Expr := match defBody s_is_closed with
  | [.Return (some (.Call _ [e] _ _)) _] => e
  | _ => .Constant (.int 0) 0 ⟨0, 0, 0, 0⟩
section
variable {g : Ctx} {L : Lay} {H : Hp} {w : Wd} {mode n : Nat} {σ : L2.St} {ta tb te tl : TE} {t : TT} {E : XK} {K : PySem.W.Frag} {p q : Addr} {Ls : List (List Nat)} {ps : List Nat} {j : Nat} {vs : List Nat} {α : Type}
abbrev isL (xs : List V) : V → Hp → Prop := fun v H2 => ∃ a, v = .ref a ∧ H2 a = some (.lst xs)
theorem ep_linked (hL : LLAt H p Ls) (ha : Ev ta σ H (.ref p)) (hb : Ev tb σ H (iv n)) : EvP (tCall (sp_linked_to g) [] E (tCons ta (tCons tb tNil))) σ H (isL (nv (lk Ls n))) := fun H1 e Q k =>
  ha H1 e _ fun H2 e2 => hb H2 (e.trans e2) _ fun H3 e3 => ⟨p, n, Ls, rfl, hL.mono ((e.trans e2).trans e3), fun q H4 e4 h4 => k _ H4 ((e2.trans e3).trans e4) ⟨q, rfl, h4⟩⟩
theorem ev_inP {x : V} {xs : List V} (ha : Ev ta σ H x) (hb : EvP tb σ H (isL xs)) (hx : flatV x = true) (hf : xs.all flatV = true) : Ev (tOp (rIn K false) ta tb) σ H (.bl (inV x xs)) := fun H1 e Q k =>
  ha H1 e _ fun H2 e2 => hb H2 (e.trans e2) _ fun v H3 e3 ⟨a, hv, h3⟩ => by
    subst hv
    exact ⟨a, xs, rfl, Or.inl (sq_of h3), hx, hf, k H3 (e2.trans e3)⟩
/-- [te for x in tl if t], tl some list -/
theorem el_lcP (l : List α) (u0 : α → V) (pr : α → Bool) (u : α → V) (h : EvP tl σ H (isL (l.map u0))) (hz : l.length ≤ 40000) (hw : ∀ x, wipe ((wipe σ vs).set j (some x)) vs = wipe σ vs)
    (ht : ∀ x, x ∈ l → ∀ H1, Ex H H1 → EvT t ((wipe σ vs).set j (some (u0 x))) H1 (pr x)) (he : ∀ x, x ∈ l → pr x = true → ∀ H1, Ex H H1 → Ev te ((wipe σ vs).set j (some (u0 x))) H1 (u x)) :
    EvL (tLc (iList K tl) (gName j) t te vs) σ H ((l.filter pr).map u) := fun H0 e Q k => h H0 e _ fun v H1 e1 ⟨a, hv, h1⟩ => by
  subst hv
  have := el_lcM (K := K) (σ := σ) (H := H1) (tl := tC (.ref a)) (te := te) (t := t) (j := j) (vs := vs) l u0 pr u ev_c (sq_of h1) hz hw (fun x hx H2 e2 => ht x hx H2 ((e.trans e1).trans e2)) (fun x hx hp H2 e2 => he x hx hp H2 ((e.trans e1).trans e2))
  exact this H1 (Ex.refl H1) Q fun p H2 hp e2 h2 => k p H2 (fresh_back e1 hp) (e1.trans e2) h2
theorem sv_is_path (hL : LLAt H p Ls) (r : LRep w mode Ls) (hq : H q = some (.lst (nv ps))) (h0 : ps ≠ []) (hz : ps.length ≤ 100) : SpV (sp_is_path g) [.ref p, .ref q] H (.bl (Vbtaac.isPath w mode ps)) := fun H1 e Q k _ => ⟨p, q, w, mode, Ls, ps, rfl, hL.mono e, r, e _ _ hq, h0, hz, k⟩
theorem sv_is_closed (hL : LLAt H p Ls) (r : LRep w mode Ls) (hb : ∀ l ∈ Ls, l.length ≤ 10000) (hq : H q = some (.lst (nv ps))) (hz : ps.length ≤ 100) : SpV (sp_is_closed g) [.ref p, .ref q] H (.bl (Vbtaac.isClosedUnder w mode ps)) := fun H1 e Q k _ => ⟨p, q, w, mode, Ls, ps, rfl, hL.mono e, r, hb, e _ _ hq, hz, k⟩
/-- is_path(links_for(world, ..), ps), is_closed(..) -/
theorem ev_pathOf (hw : WG g L H w) (hm : mode ≤ 2) (ha : Ev ta σ H (.ref L.a)) (hb : Ev tb σ H (mv mode)) (hc : Ev te σ H (.ref q)) (hq : H q = some (.lst (nv ps))) (h0 : ps ≠ []) (hz : ps.length ≤ 100) :
    Ev (tCall (sp_is_path g) [] E (tCons (tCall (sp_links_for g) [] E (tCons ta (tCons tb tNil))) (tCons te tNil))) σ H (.bl (Vbtaac.isPath w mode ps)) := fun H1 e Q k =>
  ep_links hw hm ha hb H1 e _ fun v H2 e2 ⟨p, Ls, hv, r, b, hL⟩ => by
    subst hv
    exact hc H2 (e.trans e2) _ fun H3 e3 => sv_is_path (g := g) (hL.mono e3) r ((e.trans e2).trans e3 _ _ hq) h0 hz H3 (Ex.refl H3) Q (fun H4 e4 => k H4 ((e2.trans e3).trans e4)) E
theorem ev_closedOf (hw : WG g L H w) (hm : mode ≤ 2) (ha : Ev ta σ H (.ref L.a)) (hb : Ev tb σ H (mv mode)) (hc : Ev te σ H (.ref q)) (hq : H q = some (.lst (nv ps))) (hz : ps.length ≤ 100) :
    Ev (tCall (sp_is_closed g) [] E (tCons (tCall (sp_links_for g) [] E (tCons ta (tCons tb tNil))) (tCons te tNil))) σ H (.bl (Vbtaac.isClosedUnder w mode ps)) := fun H1 e Q k =>
  ep_links hw hm ha hb H1 e _ fun v H2 e2 ⟨p, Ls, hv, r, b, hL⟩ => by
    subst hv
    exact hc H2 (e.trans e2) _ fun H3 e3 => sv_is_closed (g := g) (hL.mono e3) r b ((e.trans e2).trans e3 _ _ hq) hz H3 (Ex.refl H3) Q (fun H4 e4 => k H4 ((e2.trans e3).trans e4)) E
end
theorem isPath_range {w : Wd} {mode : Nat} : ∀ {ps : List Nat}, ps ≠ [] → Vbtaac.isPath w mode ps = (List.range (ps.length - 1)).all fun i => Vbtaac.isLinked w mode (ps.getD i 0) (ps.getD (i + 1) 0)
  | [], h => absurd rfl h
  | [a], _ => rfl
  | a :: b :: r, _ => by
    have ih := isPath_range (w := w) (mode := mode) (ps := b :: r) (by simp)
    show (Vbtaac.isLinked w mode a b && Vbtaac.isPath w mode (b :: r)) = _
    rw [ih]
    show _ = (List.range (r.length + 1)).all _
    rw [List.range_succ_eq_map, List.all_cons, List.all_map]
    rfl
theorem closed_is {w : Wd} {mode : Nat} {Ls : List (List Nat)} (r : LRep w mode Ls) (ps : List Nat) : Vbtaac.isClosedUnder w mode ps = ps.all fun a => (lk Ls a).all fun b => ps.contains b := by
  unfold Vbtaac.isClosedUnder
  rw [Bool.eq_iff_iff, List.all_eq_true, List.all_eq_true]
  constructor
  · intro h a ha
    rw [List.all_eq_true]
    intro b hb
    have hl := (r.mem a b).mp hb
    have hs := (linked_space hl).2
    have hb2 : b ∈ Vbtaac.allSpaces w := List.mem_filter.mpr ⟨mem_numbers.mpr (isSpace_exists hs), hs⟩
    have := List.all_eq_true.mp (h a ha) b hb2
    rw [hl] at this
    simpa using this
  · intro h a ha
    rw [List.all_eq_true]
    intro b _
    cases hl : Vbtaac.isLinked w mode a b with
    | false => rfl
    | true =>
      have := List.all_eq_true.mp (h a ha) b ((r.mem a b).mpr hl)
      rw [this]
      rfl
theorem light_any {w : Wd} (g : Good w) (h : Nat) : ((Vbtaac.objectNumbers w).any fun n => Vbtaac.hasProperty w n Vbtaac.luminousBit && Vbtaac.spaceOf w n == h) = (Vbtaac.lightSources w).contains h := by
  rw [Bool.eq_iff_iff, List.any_eq_true, List.contains_iff_mem, light_mem g]
  constructor
  · rintro ⟨n, hn, q⟩
    rw [Bool.and_eq_true, beq_iff_eq] at q
    have := mem_numbers.mp hn
    exact ⟨n, this.1, this.2, q.1, q.2⟩
  · rintro ⟨n, h1, h2, q1, q2⟩
    exact ⟨n, mem_numbers.mpr ⟨h1, h2⟩, by rw [q1, Bool.true_and, beq_iff_eq]; exact q2⟩
theorem last_at {l : List Nat} {z : Nat} (h : l.getLast? = some z) : atI (nv l) (-1) = some (iv z) := by
  have hne : l ≠ [] := fun e => by rw [e] at h; cases h
  have e : l = l.dropLast ++ [z] := by
    have := List.dropLast_concat_getLast hne
    rw [List.getLast?_eq_some_getLast hne] at h
    rw [Option.some.inj h] at this
    exact this.symm
  rw [e, nv_snoc]
  exact atI_last _ _

theorem ok_is_path {g : Ctx} (T : Txt g) (D : DefAt g "is_path" s_is_path) (C_linked_to : H_linked_to g) : H_is_path g := by
  refine mk_def D sc_is_path (fun _ _ _ _ _ _ us hl => match us, hl with | [_, _], _ => rfl) (by rintro vs H Q E ⟨_, _, _, _, _, _, rfl, _⟩; rfl) fun f cdv A outer s H vs Q E hr h => ⟨_, (pss_one (ps_ret (pe_callB (g_all g.K) (by rfl) T.all (by decide +kernel) (pa_cons (pe_lc (own := [("at", 2)]) rfl sc_is_path.nd (pi_range1 rfl T.range (pa_cons (pe_op op_sub (pe_callB (g_len g.K) (by rfl) T.len (by decide +kernel) (pa_cons (pv 1) pa_nil)) pe_int) pa_nil)) (blkOk_by (own := [("at", 2)]) (N := ["links", "numbers", "at"]) (sc := defScope s_is_path) (by decide +kernel)) (fun _ _ _ _ _ => (pg_name (i := 2) sc_is_path.nd rfl (Or.inl rfl))) (fun _ _ _ _ _ => pts_nil) (fun _ _ _ _ _ => (pe_cmpR (g_in g.K) (pe_ix (gx_list g.K) (pv 1) (pe_op op_add (pv 2) pe_int) (fun _ _ => rfl)) (pe_fn C_linked_to hr (pa_cons (pv 0) (pa_cons (pe_ix (gx_list g.K) (pv 1) (pv 2) (fun _ _ => rfl)) pa_nil))) (by rfl)))) pa_nil)))), ?_⟩
  obtain ⟨p, q, w, mode, Ls, ps, rfl, hL, r, hq, h0, hz, k⟩ := h
  have hpl : 0 < ps.length := List.length_pos_iff.mpr h0
  rw [isPath_range h0] at k
  refine s_ret (ev_allN (bs := (List.range (ps.length - 1)).map fun i => Vbtaac.isLinked w mode (ps.getD i 0) (ps.getD (i + 1) 0)) ?_ (by rw [List.all_map]; rfl)) k
  have hat : ∀ (σ : L2.St) (H1 : Hp) (i : Nat) (te : TE), Ex H H1 → σ[1]? = some (some (.ref q)) → i < ps.length → Ev te σ H1 (.int (i : Int)) → Ev (tOp (rIxL g.K) (tVar 1) te) σ H1 (iv (ps.getD i 0)) := fun σ H1 i te e1 s1 hi he => by
    refine ev_ix (ev_var s1) he (sq_of (e1 _ _ hq)) (atI_nat ?_)
    rw [List.getElem?_map, List.getElem?_eq_getElem hi]
    show some (iv _) = some (iv _)
    rw [getD_of (List.getElem?_eq_getElem hi)]
  have := el_lcR (H := H) (σ := L2.start ["links", "numbers", "at"] [.ref p, .ref q]) (ta := tCons (tOp (rI0 fun i j => .int (i - j)) (tCB (rLenS g.K) (tCons (tVar 1) tNil)) (tC (.int 1))) tNil)
    (te := tOp (rIn g.K false) (tOp (rIxL g.K) (tVar 1) (tOp (rI0 fun i j => .int (i + j)) (tVar 2) (tC (.int 1)))) (tCall (sp_linked_to g) [] E0 (tCons (tVar 0) (tCons (tOp (rIxL g.K) (tVar 1) (tVar 2)) tNil)))) (t := tYes) (j := 2) (vs := [2])
    (ps.length - 1) (fun _ => true) (fun i => .bl (Vbtaac.isLinked w mode (ps.getD i 0) (ps.getD (i + 1) 0))) (ea_cons (ev_I (ev_lenS (z := iv ps.length) (ev_var rfl) (sq_of hq) (by rw [List.length_map])) ev_c (congrArg V.int (by omega))) ea_nil) (by omega) (fun _ => rfl) (fun i hi H1 e1 => et_yes) (fun i hi _ H1 e1 => by
      have a1 : Ev (tOp (rIxL g.K) (tVar 1) (tOp (rI0 fun i j => .int (i + j)) (tVar 2) (tC (.int 1)))) (List.set (wipe (L2.start ["links", "numbers", "at"] [.ref p, .ref q]) [2]) 2 (some (iv i))) H1 (iv (ps.getD (i + 1) 0)) :=
        hat _ H1 (i + 1) _ e1 rfl (by omega) (ev_I (i := (i : Int)) (j := 1) (ev_var rfl) ev_c (congrArg V.int (by omega)))
      have a2 : Ev (tOp (rIxL g.K) (tVar 1) (tVar 2)) (List.set (wipe (L2.start ["links", "numbers", "at"] [.ref p, .ref q]) [2]) 2 (some (iv i))) H1 (iv (ps.getD i 0)) := hat _ H1 i _ e1 rfl (by omega) (ev_var rfl)
      have := ev_inP (K := g.K) a1 (ep_linked (g := g) (E := E0) (ta := tVar 0) (hL.mono e1) (ev_var rfl) a2) rfl (nv_flat _)
      rw [inV_nv, r.contains] at this
      exact this)
  rw [filter_all] at this
  rw [List.map_map]
  exact this
theorem ok_is_closed {g : Ctx} (T : Txt g) (D : DefAt g "is_closed" s_is_closed) (C_linked_to : H_linked_to g) : H_is_closed g := by
  refine mk_def D sc_is_closed (fun _ _ _ _ _ _ us hl => match us, hl with | [_, _], _ => rfl) (by rintro vs H Q E ⟨_, _, _, _, _, _, rfl, _⟩; rfl) fun f cdv A outer s H vs Q E hr h => ⟨_, (pss_one (ps_ret (pe_callB (g_all g.K) (by rfl) T.all (by decide +kernel) (pa_cons (pe_lc (own := [("one", 3)]) rfl sc_is_closed.nd (gi_list g.K (pv 1)) (blkOk_by (own := [("one", 3)]) (N := ["links", "numbers", "other", "one"]) (sc := defScope s_is_closed) (by decide +kernel)) (fun _ _ _ _ _ => (pg_name (i := 3) sc_is_closed.nd rfl (Or.inl rfl))) (fun _ _ _ _ _ => pts_nil) (fun _ _ _ _ _ => (pe_callB (g_all g.K) (by rfl) T.all (by decide +kernel) (pa_cons (pe_lc (own := [("other", 2)]) rfl sc_is_closed.nd (gi_list g.K (pe_fn C_linked_to hr (pa_cons (pv 0) (pa_cons (pv 3) pa_nil)))) (blkOk_by (own := [("other", 2)]) (N := ["links", "numbers", "other", "one"]) (sc := relS (lcScope scOut) (defScope s_is_closed)) (by decide +kernel)) (fun _ _ _ _ _ => (pg_name (i := 2) sc_is_closed.nd rfl (Or.inl rfl))) (fun _ _ _ _ _ => pts_nil) (fun _ _ _ _ _ => (pe_cmpR (g_in g.K) (pv 2) (pv 1) (by rfl)))) pa_nil)))) pa_nil)))), ?_⟩
  obtain ⟨p, q, w, mode, Ls, ps, rfl, hL, r, hb, hq, hz, k⟩ := h
  rw [closed_is r] at k
  refine s_ret (ev_allN (bs := ps.map fun a => (lk Ls a).all fun b => ps.contains b) ?_ (by rw [List.all_map]; rfl)) k
  have hlk : ∀ a, (lk Ls a).length ≤ 10000 := fun a => by
    unfold lk
    rw [List.getD_eq_getElem?_getD]
    cases e : Ls[a]? with
    | none => exact Nat.zero_le _
    | some l => exact hb l (List.mem_of_getElem? e)
  have := el_lcM (K := g.K) (H := H) (σ := L2.start ["links", "numbers", "other", "one"] [.ref p, .ref q]) (tl := tVar 1)
    (te := tCB (rAll g.K) (tCons (tLc (iList g.K (tCall (sp_linked_to g) [] E0 (tCons (tVar 0) (tCons (tVar 3) tNil)))) (gName 2) tYes (tOp (rIn g.K false) (tVar 2) (tVar 1)) [2]) tNil)) (t := tYes) (j := 3) (vs := [3])
    ps iv (fun _ => true) (fun a => .bl ((lk Ls a).all fun b => ps.contains b)) (ev_var rfl) (sq_of hq) (by omega) (fun _ => rfl) (fun a ha H1 e1 => et_yes) (fun a ha _ H1 e1 => by
      refine ev_allN (bs := (lk Ls a).map fun b => ps.contains b) ?_ (by rw [List.all_map]; rfl)
      have := el_lcP (K := g.K) (H := H1) (σ := List.set (wipe (L2.start ["links", "numbers", "other", "one"] [.ref p, .ref q]) [3]) 3 (some (iv a))) (tl := tCall (sp_linked_to g) [] E0 (tCons (tVar 0) (tCons (tVar 3) tNil))) (te := tOp (rIn g.K false) (tVar 2) (tVar 1)) (t := tYes) (j := 2) (vs := [2])
        (lk Ls a) iv (fun _ => true) (fun b => .bl (ps.contains b)) (ep_linked (hL.mono e1) (ev_var rfl) (ev_var rfl)) (Nat.le_trans (hlk a) (by decide)) (fun _ => rfl) (fun b hb H2 e2 => et_yes) (fun b hb _ H2 e2 => by
          have := ev_inO (K := g.K) (H := H2) (σ := List.set (wipe (List.set (wipe (L2.start ["links", "numbers", "other", "one"] [.ref p, .ref q]) [3]) 3 (some (iv a))) [2]) 2 (some (iv b))) (ta := tVar 2) (tb := tVar 1) (x := iv b) (ev_var rfl) (ev_var rfl) (sq_of ((e1.trans e2) _ _ hq)) rfl (nv_flat _)
          rw [inV_nv] at this
          exact this)
      rw [filter_all] at this
      rw [List.map_map]
      exact this)
  rw [filter_all] at this
  rw [List.map_map]
  exact this
end Sg
set_option Elab.async false
set_option linter.all false
set_option maxRecDepth 100000
set_option maxHeartbeats 4000000
/-! SgS5: the checker of proofs, both kinds. -/
namespace Sg
open PySem PySem.Spec PyProof.Rows L2 Evl

theorem not_dec {a b : Nat} : (!decide (iv a = iv b)) = !(a == b) := by rw [iv_eq]
theorem last_ex {l : List Nat} (h : l ≠ []) : ∃ z, l.getLast? = some z := ⟨_, List.getLast?_eq_some_getLast h⟩
theorem pos_is {w : Wd} (g : Good w) {v x a b c d : Nat} {p q : List Nat} (hc : (a :: p).getLast? = some c) (hd : (b :: q).getLast? = some d) : Vbtaac.acceptsProof w v x true (a :: p) (b :: q) =
    ((a == Vbtaac.spaceOf w v && (Vbtaac.lightSources w).contains b) && ((Vbtaac.isPath w 1 (a :: p) && Vbtaac.isPath w 0 (b :: q)) && (c == d && (Vbtaac.meetingSpaces w x).contains c))) := by
  unfold Vbtaac.acceptsProof
  rw [if_pos rfl, hc, hd]
  show ((some a == some (Vbtaac.spaceOf w v)) && (Vbtaac.isPath w 1 (a :: p) && (Vbtaac.isPath w 0 (b :: q) && (((Vbtaac.objectNumbers w).any fun n => Vbtaac.hasProperty w n Vbtaac.luminousBit && Vbtaac.spaceOf w n == b) && ((some c == some d) && (Vbtaac.meetingSpaces w x).any fun h => some c == some h))))) = _
  rw [light_any g]
  have e1 : ∀ m n : Nat, (some m == some n) = (m == n) := fun m n => rfl
  have e2 : ((Vbtaac.meetingSpaces w x).any fun h => some c == some h) = (Vbtaac.meetingSpaces w x).contains c := by
    rw [Bool.eq_iff_iff, List.any_eq_true, List.contains_iff_mem]
    constructor
    · rintro ⟨h, hh, e⟩
      have e : (c == h) = true := e
      rw [beq_iff_eq] at e
      rw [e]
      exact hh
    · intro h
      exact ⟨c, h, beq_self_eq_true c⟩
  rw [e1, e1, e2]
  cases (a == Vbtaac.spaceOf w v) <;> cases (Vbtaac.lightSources w).contains b <;> cases Vbtaac.isPath w 1 (a :: p) <;> cases Vbtaac.isPath w 0 (b :: q) <;> rfl
theorem neg_is {w : Wd} (g : Good w) {v x : Nat} {p q : List Nat} : Vbtaac.acceptsProof w v x false p q =
    ((p.contains (Vbtaac.spaceOf w v) && Vbtaac.isClosedUnder w 1 p) && (Vbtaac.isClosedUnder w 0 q && ((((Vbtaac.meetingSpaces w x).filter fun h => p.contains h).all fun h => q.contains h) && !(Vbtaac.lightSources w).any fun h => q.contains h))) := by
  unfold Vbtaac.acceptsProof
  rw [if_neg Bool.false_ne_true, Bool.and_assoc]
  congr 3
  congr 1
  · rw [List.all_filter]
  · rw [Bool.eq_iff_iff, List.all_eq_true, Bool.not_eq_true', List.any_eq_false]
    constructor
    · intro h s hs hq
      obtain ⟨n, h1, h2, h3, rfl⟩ := (light_mem g).mp hs
      have := h n (mem_numbers.mpr ⟨h1, h2⟩)
      rw [h3, hq] at this
      cases this
    · intro h n hn
      rw [Bool.not_eq_true', Bool.and_eq_false_iff]
      cases e : Vbtaac.hasProperty w n Vbtaac.luminousBit with
      | false => exact .inl rfl
      | true =>
        right
        have hn := mem_numbers.mp hn
        have := h (Vbtaac.spaceOf w n) ((light_mem g).mpr ⟨n, hn.1, hn.2, e, rfl⟩)
        simpa using this

theorem ok_is_positive_proof {g : Ctx} (T : Txt g) (D : DefAt g "is_positive_proof" s_is_positive_proof) (C_lies_in : H_lies_in g) (C_light_sources : H_light_sources g) (C_is_path : H_is_path g) (C_met_in : H_met_in g) (C_links_for : H_links_for g) : H_is_positive_proof g := by
  refine mk_def D sc_is_positive_proof (fun _ _ _ _ _ _ us hl => match us, hl with | [_, _, _, _, _], _ => rfl) (by rintro vs H Q E ⟨_, _, _, _, _, _, _, _, rfl, _⟩; rfl) fun f cdv A outer s H vs Q E hr h => ⟨_, (pss_cons (ps_if (PW.pt (pw_or (pt_cmpR (g_eqD g.K hr.units) (pv 3) (pe_lst pa_nil) (nomark _)) (pw_or1 (pt_cmpR (g_eqD g.K hr.units) (pv 4) (pe_lst pa_nil) (nomark _))))) (pss_one (ps_ret pe_bl)) pss_nil) (pss_cons (ps_if (PW.pt (pw_or (pt_cmpR op_ne (pe_ix (gx_list g.K) (pv 3) pe_int (fun _ _ => rfl)) (pe_fn C_lies_in hr (pa_cons (pv 0) (pa_cons (pv 1) pa_nil))) (nomark _)) (pw_or1 (pt_cmpR (g_notIn g.K) (pe_ix (gx_list g.K) (pv 4) pe_int (fun _ _ => rfl)) (pe_fn C_light_sources hr (pa_cons (pv 0) pa_nil)) (by rfl))))) (pss_one (ps_ret pe_bl)) pss_nil) (pss_cons (ps_if (PW.pt (pw_or (pt_not (pt_val (pe_fn C_is_path hr (pa_cons (pe_fn C_links_for hr (pa_cons (pv 0) (pa_cons (pe_kn T.cSIGHT) pa_nil))) (pa_cons (pv 3) pa_nil))))) (pw_or1 (pt_not (pt_val (pe_fn C_is_path hr (pa_cons (pe_fn C_links_for hr (pa_cons (pv 0) (pa_cons (pe_kn T.cLIGHT) pa_nil))) (pa_cons (pv 4) pa_nil)))))))) (pss_one (ps_ret pe_bl)) pss_nil) (pss_one (ps_ret (pe_and (pe_cmpR op_eq (pe_ix (gx_list g.K) (pv 3) (pe_un un_neg pe_int) (fun _ _ => rfl)) (pe_ix (gx_list g.K) (pv 4) (pe_un un_neg pe_int) (fun _ _ => rfl)) (nomark _)) (pe_one (pe_cmpR (g_in g.K) (pe_ix (gx_list g.K) (pv 3) (pe_un un_neg pe_int) (fun _ _ => rfl)) (pe_fn C_met_in hr (pa_cons (pv 0) (pa_cons (pv 2) pa_nil))) (by rfl))))))))), ?_⟩
  obtain ⟨L, w, v, x, a, b, p, q, rfl, hw, hv, hx, hp, hq, hpl, hql, k⟩ := h
  have hg := hw.good
  have hml := met_len (w := w) (x := x)
  have isn : ∀ (σ : L2.St) (H1 : Hp) (i : Nat) (c : Addr) (l : List Nat), σ[i]? = some (some (.ref c)) → H1 c = some (.lst (nv l)) → EvT (tTest (tOp (rEqD g.K) (tVar i) (tLst tNil))) σ H1 l.isEmpty := fun σ H1 i c l s1 hc => by
    rw [← ofN_nil]
    exact et_test (ev_opL (xs := ([] : List Int).map V.int) (ev_var s1) (el_lst ea_nil (Nat.zero_le _)) fun u H2 hu e2 => rv_eqL (sq_of (by rw [e2 _ _ hc, nv_ints])) (sq_of hu))
  refine q_when (b := p.isEmpty || q.isEmpty) (et_or (isn _ H 3 a p rfl hp) (fun _ => isn _ H 4 b q rfl hq)) (fun hb H1 e1 => ?_) (fun hb H1 e1 => ?_)
  · have e : Vbtaac.acceptsProof w v x true p q = false := by
      unfold Vbtaac.acceptsProof
      rw [if_pos rfl]
      cases p with
      | nil => rfl
      | cons a p =>
        cases q with
        | nil => simp
        | cons b q => cases hb
    rw [e] at k
    exact s_ret ev_c (fun H2 e2 => k H2 (e1.trans e2))
  rw [Bool.or_eq_false_iff] at hb
  obtain ⟨p0, p', rfl⟩ : ∃ z r, p = z :: r := by
    cases p with
    | nil => cases hb.1
    | cons z r => exact ⟨z, r, rfl⟩
  obtain ⟨q0, q', rfl⟩ : ∃ z r, q = z :: r := by
    cases q with
    | nil => cases hb.2
    | cons z r => exact ⟨z, r, rfl⟩
  obtain ⟨c, hc⟩ := last_ex (l := p0 :: p') (by simp)
  obtain ⟨d, hd⟩ := last_ex (l := q0 :: q') (by simp)
  rw [pos_is hg hc hd] at k
  have hw1 := hw.mono e1
  refine q_when (b := !(p0 == Vbtaac.spaceOf w v) || !(Vbtaac.lightSources w).contains q0) (et_or (et_test (ev_ne (y := iv (Vbtaac.spaceOf w v)) (ev_ix (ev_var rfl) ev_c (sq_of (e1 _ _ hp)) (atI_nat (j := 0) rfl)) (ev_fn (ea_cons (ev_var rfl) (ea_cons (ev_var rfl) ea_nil)) (sv_lies_in hw1 hv)) rfl not_dec))
    (fun _ => ?_)) (fun hb2 H2 e2 => ?_) (fun hb2 H2 e2 => ?_)
  · have := ev_ninN (K := g.K) (H := H1) (σ := L2.start ["world", "v", "x", "p", "q"] [.ref L.a, iv v, iv x, .ref a, .ref b]) (ta := tOp (rIxL g.K) (tVar 4) (tC (.int 0))) (tb := tCall (sp_light_sources g) [] E0 (tCons (tVar 0) tNil)) (x := iv q0)
      (ev_ix (ev_var rfl) ev_c (sq_of (e1 _ _ hq)) (atI_nat (j := 0) rfl)) (el_fn (ea_cons (ev_var rfl) ea_nil) (sl_light hw1)) rfl (nv_flat _)
    rw [inV_nv] at this
    exact et_test this
  · rw [← Bool.not_and, Bool.not_eq_true'] at hb2
    rw [hb2, Bool.false_and] at k
    exact s_ret ev_c (fun H3 e3 => k H3 ((e1.trans e2).trans e3))
  rw [← Bool.not_and, Bool.not_eq_false'] at hb2
  rw [hb2, Bool.true_and] at k
  have hw2 := hw1.mono e2
  have hp2 := e2 _ _ (e1 _ _ hp)
  have hq2 := e2 _ _ (e1 _ _ hq)
  refine q_when (b := !Vbtaac.isPath w 1 (p0 :: p') || !Vbtaac.isPath w 0 (q0 :: q')) (et_or (et_not (et_B (ev_pathOf (mode := 1) hw2 (by decide) (ev_var rfl) ev_c (ev_var rfl) hp2 (by simp) (by omega))))
    (fun _ => et_not (et_B (ev_pathOf (mode := 0) hw2 (by decide) (ev_var rfl) ev_c (ev_var rfl) hq2 (by simp) (by omega))))) (fun hb3 H3 e3 => ?_) (fun hb3 H3 e3 => ?_)
  · rw [← Bool.not_and, Bool.not_eq_true'] at hb3
    rw [hb3, Bool.false_and] at k
    exact s_ret ev_c (fun H4 e4 => k H4 (((e1.trans e2).trans e3).trans e4))
  rw [← Bool.not_and, Bool.not_eq_false'] at hb3
  rw [hb3, Bool.true_and] at k
  have lastp : ∀ (σ : L2.St), σ[3]? = some (some (.ref a)) → Ev (tOp (rIxL g.K) (tVar 3) (tUn (rU fun i => .int (-i)) (tC (.int 1)))) σ H3 (iv c) := fun σ s3 => ev_ix (ev_var s3) (ev_un ev_c ru_neg) (sq_of (e3 _ _ hp2)) (last_at hc)
  have lastq : ∀ (σ : L2.St), σ[4]? = some (some (.ref b)) → Ev (tOp (rIxL g.K) (tVar 4) (tUn (rU fun i => .int (-i)) (tC (.int 1)))) σ H3 (iv d) := fun σ s4 => ev_ix (ev_var s4) (ev_un ev_c ru_neg) (sq_of (e3 _ _ hq2)) (last_at hd)
  refine s_ret (ev_andV (ev_eq (lastp _ rfl) (lastq _ rfl) rfl iv_eq) (fun _ => ?_)) (fun H4 e4 => k H4 (((e1.trans e2).trans e3).trans e4))
  have := ev_inN (K := g.K) (H := H3) (σ := L2.start ["world", "v", "x", "p", "q"] [.ref L.a, iv v, iv x, .ref a, .ref b]) (ta := tOp (rIxL g.K) (tVar 3) (tUn (rU fun i => .int (-i)) (tC (.int 1)))) (tb := tCall (sp_met_in g) [] E0 (tCons (tVar 0) (tCons (tVar 2) tNil))) (x := iv c)
    (lastp _ rfl) (el_fn (ea_cons (ev_var rfl) (ea_cons (ev_var rfl) ea_nil)) (sl_met_in (hw2.mono e3) hx)) rfl (nv_flat _)
  rw [inV_nv] at this
  exact this
theorem ok_is_negative_proof {g : Ctx} (T : Txt g) (D : DefAt g "is_negative_proof" s_is_negative_proof) (C_is_closed : H_is_closed g) (C_lies_in : H_lies_in g) (C_links_for : H_links_for g) (C_met_in : H_met_in g) (C_light_sources : H_light_sources g) : H_is_negative_proof g := by
  refine mk_def D sc_is_negative_proof (fun _ _ _ _ _ _ us hl => match us, hl with | [_, _, _, _, _], _ => rfl) (by rintro vs H Q E ⟨_, _, _, _, _, _, _, _, rfl, _⟩; rfl) fun f cdv A outer s H vs Q E hr h => ⟨_, (pss_cons (ps_if (PW.pt (pw_or (pt_cmpR (g_notIn g.K) (pe_fn C_lies_in hr (pa_cons (pv 0) (pa_cons (pv 1) pa_nil))) (pv 3) (by rfl)) (pw_or1 (pt_not (pt_val (pe_fn C_is_closed hr (pa_cons (pe_fn C_links_for hr (pa_cons (pv 0) (pa_cons (pe_kn T.cSIGHT) pa_nil))) (pa_cons (pv 3) pa_nil)))))))) (pss_one (ps_ret pe_bl)) pss_nil) (pss_cons (ps_if (pt_not (pt_val (pe_fn C_is_closed hr (pa_cons (pe_fn C_links_for hr (pa_cons (pv 0) (pa_cons (pe_kn T.cLIGHT) pa_nil))) (pa_cons (pv 4) pa_nil))))) (pss_one (ps_ret pe_bl)) pss_nil) (pss_cons (ps_if (pt_not (pt_val (pe_callB (g_all g.K) (by rfl) T.all (by decide +kernel) (pa_cons (pe_lc (own := [("space", 5)]) rfl sc_is_negative_proof.nd (gi_list g.K (pe_fn C_met_in hr (pa_cons (pv 0) (pa_cons (pv 2) pa_nil)))) (blkOk_by (own := [("space", 5)]) (N := ["world", "v", "x", "p", "q", "space"]) (sc := defScope s_is_negative_proof) (by decide +kernel)) (fun _ _ _ _ _ => (pg_name (i := 5) sc_is_negative_proof.nd rfl (Or.inl rfl))) (fun _ _ _ _ _ => (pts_one (pt_cmpR (g_in g.K) (pv 5) (pv 3) (by rfl)))) (fun _ _ _ _ _ => (pe_cmpR (g_in g.K) (pv 5) (pv 4) (by rfl)))) pa_nil)))) (pss_one (ps_ret pe_bl)) pss_nil) (pss_one (ps_ret (pe_not (pe_callB (g_any g.K) (by rfl) T.any (by decide +kernel) (pa_cons (pe_lc (own := [("space", 5)]) rfl sc_is_negative_proof.nd (gi_list g.K (pe_fn C_light_sources hr (pa_cons (pv 0) pa_nil))) (blkOk_by (own := [("space", 5)]) (N := ["world", "v", "x", "p", "q", "space"]) (sc := defScope s_is_negative_proof) (by decide +kernel)) (fun _ _ _ _ _ => (pg_name (i := 5) sc_is_negative_proof.nd rfl (Or.inl rfl))) (fun _ _ _ _ _ => pts_nil) (fun _ _ _ _ _ => (pe_cmpR (g_in g.K) (pv 5) (pv 4) (by rfl)))) pa_nil)))))))), ?_⟩
  obtain ⟨L, w, v, x, a, b, p, q, rfl, hw, hv, hx, hp, hq, hpl, hql, k⟩ := h
  have hg := hw.good
  have hml := met_len (w := w) (x := x)
  rw [neg_is hg] at k
  refine q_when (b := !p.contains (Vbtaac.spaceOf w v) || !Vbtaac.isClosedUnder w 1 p) (et_or ?_ (fun _ => et_not (et_B (ev_closedOf (mode := 1) hw (by decide) (ev_var rfl) ev_c (ev_var rfl) hp (by omega))))) (fun hb H1 e1 => ?_) (fun hb H1 e1 => ?_)
  · have := ev_ninO (K := g.K) (H := H) (σ := L2.start ["world", "v", "x", "p", "q", "space"] [.ref L.a, iv v, iv x, .ref a, .ref b]) (ta := tCall (sp_lies_in g) [] E0 (tCons (tVar 0) (tCons (tVar 1) tNil))) (tb := tVar 3) (x := iv (Vbtaac.spaceOf w v)) (ev_fn (ea_cons (ev_var rfl) (ea_cons (ev_var rfl) ea_nil)) (sv_lies_in hw hv)) (ev_var rfl) (sq_of hp) rfl (nv_flat _)
    rw [inV_nv] at this
    exact et_test this
  · rw [← Bool.not_and, Bool.not_eq_true'] at hb
    rw [hb, Bool.false_and] at k
    exact s_ret ev_c (fun H2 e2 => k H2 (e1.trans e2))
  rw [← Bool.not_and, Bool.not_eq_false'] at hb
  rw [hb, Bool.true_and] at k
  have hw1 := hw.mono e1
  refine q_when (b := !Vbtaac.isClosedUnder w 0 q) (et_not (et_B (ev_closedOf (mode := 0) hw1 (by decide) (ev_var rfl) ev_c (ev_var rfl) (e1 _ _ hq) (by omega)))) (fun hb2 H2 e2 => ?_) (fun hb2 H2 e2 => ?_)
  · rw [Bool.not_eq_true'] at hb2
    rw [hb2, Bool.false_and] at k
    exact s_ret ev_c (fun H3 e3 => k H3 ((e1.trans e2).trans e3))
  rw [Bool.not_eq_false'] at hb2
  rw [hb2, Bool.true_and] at k
  have e12 := e1.trans e2
  have hw2 := hw.mono e12
  have inO : ∀ (σ : L2.St) (H3 : Hp) (j : Nat) (c : Addr) (l : List Nat) (n : Nat), σ[j]? = some (some (.ref c)) → H3 c = some (.lst (nv l)) → σ[5]? = some (some (iv n)) → Ev (tOp (rIn g.K false) (tVar 5) (tVar j)) σ H3 (.bl (l.contains n)) := fun σ H3 j c l n s1 hc s5 => by
    have := ev_inO (K := g.K) (H := H3) (σ := σ) (ta := tVar 5) (tb := tVar j) (x := iv n) (ev_var s5) (ev_var s1) (sq_of hc) rfl (nv_flat l)
    rw [inV_nv] at this
    exact this
  refine q_when (b := !((Vbtaac.meetingSpaces w x).filter fun h => p.contains h).all fun h => q.contains h) (et_not (et_B (ev_allN (bs := ((Vbtaac.meetingSpaces w x).filter fun h => p.contains h).map fun h => q.contains h) ?_ (by rw [List.all_map]; rfl)))) (fun hb3 H3 e3 => ?_) (fun hb3 H3 e3 => ?_)
  · rw [List.map_map]
    exact el_lcN (Vbtaac.meetingSpaces w x) iv (fun h => p.contains h) (fun h => .bl (q.contains h)) (el_fn (ea_cons (ev_var rfl) (ea_cons (ev_var rfl) ea_nil)) (sl_met_in hw2 hx)) (by omega) (fun _ => rfl) (fun h hh H3 e3 => et_test (inO _ H3 3 a p h rfl ((e12.trans e3) _ _ hp) rfl)) (fun h hh _ H3 e3 => inO _ H3 4 b q h rfl ((e12.trans e3) _ _ hq) rfl)
  · rw [Bool.not_eq_true'] at hb3
    rw [hb3, Bool.false_and] at k
    exact s_ret ev_c (fun H4 e4 => k H4 ((e12.trans e3).trans e4))
  rw [Bool.not_eq_false'] at hb3
  rw [hb3, Bool.true_and] at k
  have hw3 := hw2.mono e3
  have hll : (Vbtaac.lightSources w).length ≤ 100 := by
    have h1 := nd_len 61 (Vbtaac.lightSources w) light_nd fun y hy => by
      obtain ⟨n, h1, h2, _, rfl⟩ := (light_mem hg).mp hy
      have := spc_ok hg h1 h2
      have := hg.cnt
      omega
    omega
  refine s_ret (ev_notV (ev_anyN (bs := (Vbtaac.lightSources w).map fun h => q.contains h) ?_ (by rw [List.any_map]; rfl))) (fun H4 e4 => k H4 ((e12.trans e3).trans e4))
  have := el_lcN (K := g.K) (H := H3) (σ := L2.start ["world", "v", "x", "p", "q", "space"] [.ref L.a, iv v, iv x, .ref a, .ref b]) (tl := tCall (sp_light_sources g) [] E0 (tCons (tVar 0) tNil)) (te := tOp (rIn g.K false) (tVar 5) (tVar 4)) (t := tYes) (j := 5) (vs := [5])
    (Vbtaac.lightSources w) iv (fun _ => true) (fun h => .bl (q.contains h)) (el_fn (ea_cons (ev_var rfl) ea_nil) (sl_light hw3)) (by omega) (fun _ => rfl) (fun h hh H4 e4 => et_yes) (fun h hh _ H4 e4 => inO _ H4 4 b q h rfl (((e12.trans e3).trans e4) _ _ hq) rfl)
  rw [filter_all] at this
  rw [List.map_map]
  exact this
end Sg
set_option Elab.async false
set_option linter.all false
set_option maxRecDepth 100000
set_option maxHeartbeats 4000000
/-! SgP3: the promises of asks, changes, ranges, desk. -/
namespace Sg
open PySem PySem.Spec PyProof.Rows L2 Evl

/-! ### an answer, the world perhaps another -/
abbrev an (xs : List Int) : List V := xs.map V.int
def RetO (g : Ctx) (L : Lay) (w' : Wd) (xs : List Int) (H : Hp) (Q : VK) : Prop := ∀ p H' L', L'.a = L.a → L'.lt = L.lt → WAt g L' H' w' → Keep L H H' → (∀ b ys, H b = some (.lst ys) → b ≠ L.lt → p ≠ b) → H' p = some (.lst (an xs)) → Q (.ref p) H'
theorem RetO.go {g : Ctx} {L L' : Lay} {w' : Wd} {xs : List Int} {H H1 H2 : Hp} {Q : VK} {p : Addr} (k : RetO g L w' xs H Q) (ea : L'.a = L.a) (el : L'.lt = L.lt) (hw : WAt g L' H1 w') (kp : Keep L H H1) (hp : H1 p = none) (e : Ex H1 H2) (h2 : H2 p = some (.lst (an xs))) : Q (.ref p) H2 :=
  k p H2 L' ea el (hw.mono e) (kp.trans (Keep.of e)) (fun b ys hb hl z => by
    have := kp.lst hb hl
    rw [← z, hp] at this
    cases this) h2
theorem RetO.toL {g : Ctx} {L : Lay} {w' : Wd} {xs : List Int} {H : Hp} {Q : VK} (k : RetO g L w' xs H Q) (hw : WAt g L H w') : RetL (an xs) H Q := fun p H2 hp e h2 => k.go rfl rfl hw (Keep.of (Ex.refl H)) hp e h2
theorem RetO.back {g : Ctx} {L : Lay} {w' : Wd} {xs : List Int} {H H1 : Hp} {Q : VK} (k : RetO g L w' xs H Q) (e : Ex H H1) : RetO g L w' xs H1 Q := fun p H' L' ea el hw kp hf h2 => k p H' L' ea el hw ((Keep.of e).trans kp) (fun b ys hb hl => hf b ys (e _ _ hb) hl) h2
theorem an_ofN (l : List Nat) : an (ofN l) = nv l := (nv_ints l).symm

/-! ### asks -/
def spAsk (g : Ctx) (k : Nat) : Sp := fun vs H Q _ => ∃ (L : Lay) (w : Wd) (q : Addr) (ms : List Nat), vs = [.ref L.a, .ref q] ∧ WG g L H w ∧ H q = some (.lst (nv ms)) ∧ okM w k ms ∧ actorM w k ms ∧ (opM w k ms [] []).2.length ≤ 16000000 ∧ RetL (an (opM w k ms [] []).2) H Q
def spChg (g : Ctx) (k : Nat) : Sp := fun vs H Q _ => ∃ (L : Lay) (w : Wd) (q : Addr) (ms : List Nat), vs = [.ref L.a, .ref q] ∧ WG g L H w ∧ H q = some (.lst (nv ms)) ∧ okM w k ms ∧ actorM w k ms ∧ RetO g L (opM w k ms [] []).1 (opM w k ms [] []).2 H Q
def sp_with_length (g : Ctx) : Sp := fun vs H Q _ => ∃ (p : Addr) (l : List Nat), vs = [.ref p] ∧ H p = some (.lst (nv l)) ∧ l.length ≤ 16000000 ∧ RetL (an (lenL l)) H Q
abbrev H_with_length (g : Ctx) : Prop := Cal g.P g.w g.K g.mg g.base 1 "with_length" ["some"] (sp_with_length g)
def sp_locate (g : Ctx) : Sp := spAsk g 9
abbrev H_locate (g : Ctx) : Prop := Cal g.P g.w g.K g.mg g.base 4 "locate" ["world", "numbers"] (sp_locate g)
def sp_list_contents (g : Ctx) : Sp := spAsk g 10
abbrev H_list_contents (g : Ctx) : Prop := Cal g.P g.w g.K g.mg g.base 2 "list_contents" ["world", "numbers"] (sp_list_contents g)
def sp_can_see (g : Ctx) : Sp := spAsk g 11
abbrev H_can_see (g : Ctx) : Prop := Cal g.P g.w g.K g.mg g.base 9 "can_see" ["world", "numbers"] (sp_can_see g)
def sp_check_proof (g : Ctx) : Sp := fun vs H Q _ => ∃ (L : Lay) (w : Wd) (q a b : Addr) (ms p r : List Nat), vs = [.ref L.a, .ref q, .ref a, .ref b] ∧ WG g L H w ∧ H q = some (.lst (nv ms)) ∧ okM w 12 ms ∧ H a = some (.lst (nv p)) ∧ H b = some (.lst (nv r)) ∧ p.length ≤ 60 ∧ r.length ≤ 60 ∧ RetL (an (opM w 12 ms p r).2) H Q
abbrev H_check_proof (g : Ctx) : Prop := Cal g.P g.w g.K g.mg g.base 7 "check_proof" ["world", "numbers", "p", "q"] (sp_check_proof g)
def sp_is_lit (g : Ctx) : Sp := spAsk g 13
abbrev H_is_lit (g : Ctx) : Prop := Cal g.P g.w g.K g.mg g.base 7 "is_lit" ["world", "numbers"] (sp_is_lit g)
def sp_list_visible (g : Ctx) : Sp := spAsk g 14
abbrev H_list_visible (g : Ctx) : Prop := Cal g.P g.w g.K g.mg g.base 9 "list_visible" ["world", "numbers"] (sp_list_visible g)
def sp_list_reachable (g : Ctx) : Sp := spAsk g 15
abbrev H_list_reachable (g : Ctx) : Prop := Cal g.P g.w g.K g.mg g.base 9 "list_reachable" ["world", "numbers"] (sp_list_reachable g)
def sp_get_load (g : Ctx) : Sp := spAsk g 16
abbrev H_get_load (g : Ctx) : Prop := Cal g.P g.w g.K g.mg g.base 4 "get_load" ["world", "numbers"] (sp_get_load g)
def sp_up_to_common (g : Ctx) : Sp := fun vs H Q _ => ∃ (p q : Addr) (l m : List Nat), vs = [.ref p, .ref q] ∧ H p = some (.lst (nv l)) ∧ H q = some (.lst (nv m)) ∧ l.length ≤ 100 ∧ RetL (nv (l.takeWhile fun h => !m.contains h)) H Q
abbrev H_up_to_common (g : Ctx) : Prop := Cal g.P g.w g.K g.mg g.base 1 "up_to_common" ["some", "others"] (sp_up_to_common g)
def sp_compare_spaces (g : Ctx) : Sp := spAsk g 17
abbrev H_compare_spaces (g : Ctx) : Prop := Cal g.P g.w g.K g.mg g.base 5 "compare_spaces" ["world", "numbers"] (sp_compare_spaces g)
def sp_get_properties (g : Ctx) : Sp := spAsk g 18
abbrev H_get_properties (g : Ctx) : Prop := Cal g.P g.w g.K g.mg g.base 2 "get_properties" ["world", "numbers"] (sp_get_properties g)
def sp_list_windows (g : Ctx) : Sp := spAsk g 19
abbrev H_list_windows (g : Ctx) : Prop := Cal g.P g.w g.K g.mg g.base 1 "list_windows" ["world", "numbers"] (sp_list_windows g)

/-! ### changes -/
def sp_add_place (g : Ctx) : Sp := spChg g 0
abbrev H_add_place (g : Ctx) : Prop := Cal g.P g.w g.K g.mg g.base 3 "add_place" ["world", "numbers"] (sp_add_place g)
def sp_add_object (g : Ctx) : Sp := spChg g 1
abbrev H_add_object (g : Ctx) : Prop := Cal g.P g.w g.K g.mg g.base 4 "add_object" ["world", "numbers"] (sp_add_object g)
def sp_move_object (g : Ctx) : Sp := spChg g 2
abbrev H_move_object (g : Ctx) : Prop := Cal g.P g.w g.K g.mg g.base 6 "move_object" ["world", "numbers"] (sp_move_object g)
def sp_set_property (g : Ctx) : Sp := spChg g 3
abbrev H_set_property (g : Ctx) : Prop := Cal g.P g.w g.K g.mg g.base 4 "set_property" ["world", "numbers"] (sp_set_property g)
def sp_set_window (g : Ctx) : Sp := spChg g 4
abbrev H_set_window (g : Ctx) : Prop := Cal g.P g.w g.K g.mg g.base 3 "set_window" ["world", "numbers"] (sp_set_window g)
def sp_is_kept_back (g : Ctx) : Sp := fun vs H Q _ => ∃ (L : Lay) (w : Wd) (v x : Nat), vs = [.ref L.a, iv v, iv x] ∧ WG g L H w ∧ ex w x ∧ RetV (.bl (keptM w v x)) H Q
abbrev H_is_kept_back (g : Ctx) : Prop := Cal g.P g.w g.K g.mg g.base 2 "is_kept_back" ["world", "v", "x"] (sp_is_kept_back g)
def sp_take_object (g : Ctx) : Sp := spChg g 5
abbrev H_take_object (g : Ctx) : Prop := Cal g.P g.w g.K g.mg g.base 9 "take_object" ["world", "numbers"] (sp_take_object g)
def sp_is_held_by (g : Ctx) : Sp := fun vs H Q _ => ∃ (L : Lay) (w : Wd) (v x : Nat), vs = [.ref L.a, iv v, iv x] ∧ WG g L H w ∧ ex w x ∧ RetV (.bl (heldM w v x)) H Q
abbrev H_is_held_by (g : Ctx) : Prop := Cal g.P g.w g.K g.mg g.base 2 "is_held_by" ["world", "v", "x"] (sp_is_held_by g)
def sp_does_fit (g : Ctx) : Sp := fun vs H Q _ => ∃ (L : Lay) (w : Wd) (v h r : Nat), vs = [.ref L.a, iv v, iv h, iv r] ∧ WG g L H w ∧ ex w v ∧ ex w h ∧ (1 ≤ r ∧ r ≤ 5) ∧ RetV (.bl (fitsM w v h r)) H Q
abbrev H_does_fit (g : Ctx) : Prop := Cal g.P g.w g.K g.mg g.base 6 "does_fit" ["world", "v", "h", "relation"] (sp_does_fit g)
def sp_put_object (g : Ctx) : Sp := spChg g 6
abbrev H_put_object (g : Ctx) : Prop := Cal g.P g.w g.K g.mg g.base 9 "put_object" ["world", "numbers"] (sp_put_object g)
def sp_drop_object (g : Ctx) : Sp := spChg g 7
abbrev H_drop_object (g : Ctx) : Prop := Cal g.P g.w g.K g.mg g.base 5 "drop_object" ["world", "numbers"] (sp_drop_object g)
def sp_open_or_close (g : Ctx) : Sp := spChg g 8
abbrev H_open_or_close (g : Ctx) : Prop := Cal g.P g.w g.K g.mg g.base 9 "open_or_close" ["world", "numbers"] (sp_open_or_close g)

/-! ### ranges -/
def sp_is_between (g : Ctx) : Sp := fun vs H Q _ => ∃ (n : Int) (b : Addr) (r : Int × Int), vs = [.int n, .ref b] ∧ SqT g.K H b [.int r.1, .int r.2] ∧ RetV (.bl (btw n r)) H Q
abbrev H_is_between (g : Ctx) : Prop := Cal g.P g.w g.K g.mg g.base 1 "is_between" ["number", "bounds"] (sp_is_between g)
def sp_is_proof_list (g : Ctx) : Sp := fun vs H Q _ => ∃ (p : Addr) (ns : List Int), vs = [.ref p] ∧ H p = some (.lst (an ns)) ∧ RetV (.bl (isProofM ns)) H Q
abbrev H_is_proof_list (g : Ctx) : Prop := Cal g.P g.w g.K g.mg g.base 2 "is_proof_list" ["some"] (sp_is_proof_list g)
def sp_are_in_range (g : Ctx) : Sp := fun vs H Q _ => ∃ (k : Nat) (p : Addr) (ns : List Int), vs = [iv k, .ref p] ∧ k < 20 ∧ H p = some (.lst (an ns)) ∧ ns.length = (rangesM k).length ∧ RetV (.bl (inRangeM k ns)) H Q
abbrev H_are_in_range (g : Ctx) : Prop := Cal g.P g.w g.K g.mg g.base 2 "are_in_range" ["word", "numbers"] (sp_are_in_range g)
def sp_are_there (g : Ctx) : Sp := fun vs H Q _ => ∃ (L : Lay) (w : Wd) (k : Nat) (p : Addr) (ns : List Int), vs = [.ref L.a, iv k, .ref p] ∧ WG g L H w ∧ k < 20 ∧ H p = some (.lst (an ns)) ∧ ns.length = (rangesM k).length ∧ RetV (.bl (thereM w k ns)) H Q
abbrev H_are_there (g : Ctx) : Prop := Cal g.P g.w g.K g.mg g.base 2 "are_there" ["world", "word", "numbers"] (sp_are_there g)
def sp_common_error (g : Ctx) : Sp := fun vs H Q _ => ∃ (L : Lay) (w : Wd) (k : Nat) (p ls : Addr) (ns : List Int) (lls : List (List Int)), vs = [.ref L.a, iv k, .ref p, .ref ls] ∧ WG g L H w ∧ k < 20 ∧ H p = some (.lst (an ns)) ∧ ns.length = (rangesM k).length ∧ LVAt H ls (lls.map an) ∧ lls.length ≤ 2 ∧ RetV (.int (codeM w k ns lls)) H Q
abbrev H_common_error (g : Ctx) : Prop := Cal g.P g.w g.K g.mg g.base 3 "common_error" ["world", "word", "numbers", "lists"] (sp_common_error g)

/-! ### desk -/
def sp_changed (g : Ctx) : Sp := fun vs H Q _ => ∃ (L : Lay) (w : Wd) (k : Nat) (q : Addr) (ms : List Nat), vs = [.ref L.a, iv k, .ref q] ∧ WG g L H w ∧ H q = some (.lst (nv ms)) ∧ k ≤ 8 ∧ okM w k ms ∧ actorM w k ms ∧ RetO g L (opM w k ms [] []).1 (opM w k ms [] []).2 H Q
abbrev H_changed (g : Ctx) : Prop := Cal g.P g.w g.K g.mg g.base 10 "changed" ["world", "word", "numbers"] (sp_changed g)
def sp_asked (g : Ctx) : Sp := fun vs H Q _ => ∃ (L : Lay) (w : Wd) (k : Nat) (q : Addr) (ms : List Nat), vs = [.ref L.a, iv k, .ref q] ∧ WG g L H w ∧ H q = some (.lst (nv ms)) ∧ 9 ≤ k ∧ k < 20 ∧ k ≠ 12 ∧ okM w k ms ∧ actorM w k ms ∧ (opM w k ms [] []).2.length ≤ 16000000 ∧ RetL (an (opM w k ms [] []).2) H Q
abbrev H_asked (g : Ctx) : Prop := Cal g.P g.w g.K g.mg g.base 10 "asked" ["world", "word", "numbers"] (sp_asked g)
def sp_answer_of (g : Ctx) : Sp := fun vs H Q _ => ∃ (L : Lay) (w : Wd) (k : Nat) (q ls : Addr) (ns : List Int) (lls : List (List Int)), vs = [.ref L.a, iv k, .ref q, .ref ls] ∧ WG g L H w ∧ k < 20 ∧ H q = some (.lst (an ns)) ∧ ns.length = (rangesM k).length ∧ LVAt H ls (lls.map an) ∧ lls.length = (if k = 12 then 2 else 0) ∧
  (answerM w k ns lls).2.length ≤ 16000000 ∧ RetO g L (answerM w k ns lls).1 (answerM w k ns lls).2 H Q
abbrev H_answer_of (g : Ctx) : Prop := Cal g.P g.w g.K g.mg g.base 11 "answer_of" ["world", "word", "numbers", "lists"] (sp_answer_of g)
def sp_list_at (g : Ctx) : Sp := fun vs H Q _ => ∃ (p : Addr) (l : List Int) (at' c : Nat), vs = [.ref p, iv at'] ∧ SqL g.K H p (an l) ∧ l[at']? = some (c : Int) ∧ RetL (an ((l.drop (at' + 1)).take c)) H Q
abbrev H_list_at (g : Ctx) : Prop := Cal g.P g.w g.K g.mg g.base 1 "list_at" ["calls", "at"] (sp_list_at g)

/-! ### lists one behind another -/
section
variable {σ : L2.St} {H : Hp} {ta tb : TE} {b : Addr} {xs ys : List V} {D : Ends} {g : Ctx} {L : Lay} {w : Wd} {te : TE}
theorem el_catNN (ha : EvL ta σ H xs) (hb : EvL tb σ H ys) (hz : xs.length + ys.length ≤ 16000001) : EvL (tOp rCat ta tb) σ H (xs ++ ys) := fun H1 e Q k =>
  ha H1 e _ fun p H2 hp e2 h2 => hb H2 (e.trans e2) _ fun q H3 hq e3 h3 => ⟨p, q, xs, ys, rfl, rfl, e3 _ _ h2, h3, Nat.le_trans hz (by decide), fun r hr =>
    k r _ (fresh_back (e2.trans e3) hr) ((e2.trans e3).trans (Ex.new hr)) upd_same⟩
theorem el_catNV (ha : EvL ta σ H xs) (hb : Ev tb σ H (.ref b)) (h : H b = some (.lst ys)) (hz : xs.length + ys.length ≤ 16000001) : EvL (tOp rCat ta tb) σ H (xs ++ ys) := fun H1 e Q k =>
  ha H1 e _ fun p H2 hp e2 h2 => hb H2 (e.trans e2) _ fun H3 e3 => ⟨p, b, xs, ys, rfl, rfl, e3 _ _ h2, ((e.trans e2).trans e3) _ _ h, Nat.le_trans hz (by decide), fun r hr =>
    k r _ (fresh_back (e2.trans e3) hr) ((e2.trans e3).trans (Ex.new hr)) upd_same⟩
theorem el_catVN (ha : Ev ta σ H (.ref b)) (h : H b = some (.lst xs)) (hb : EvL tb σ H ys) (hz : xs.length + ys.length ≤ 16000001) : EvL (tOp rCat ta tb) σ H (xs ++ ys) := fun H1 e Q k =>
  ha H1 e _ fun H2 e2 => hb H2 (e.trans e2) _ fun q H3 hq e3 h3 => ⟨b, q, xs, ys, rfl, rfl, ((e.trans e2).trans e3) _ _ h, h3, Nat.le_trans hz (by decide), fun r hr =>
    k r _ (fresh_back (e2.trans e3) hr) ((e2.trans e3).trans (Ex.new hr)) upd_same⟩
theorem ev_int1 {b : Bool} (h : Ev te σ H (.bl b)) : Ev (tCB (fun xs H Q => (∃ i, xs = [.int i] ∧ Q (.int i) H) ∨ ∃ k, xs = [.bl k] ∧ Q (.int (if k then 1 else 0)) H) (tCons te tNil)) σ H (.int (Vbtaac.boolToInt b)) := fun H1 e Q k =>
  h H1 e _ fun H2 e2 => Or.inr ⟨b, rfl, by
    have := k H2 e2
    cases b <;> exact this⟩
theorem s_retA {zs : List Int} (h : EvL te σ H xs) (k : RetL (an zs) H D.rt) (e : xs = an zs) : tRet te D σ H := s_retL h fun p H1 hp e1 h1 => k p H1 hp e1 (by rw [h1, e])
end
section
variable {g : Ctx} {H : Hp} {p q : Addr} {l m : List Nat}
theorem sl_with (h : H p = some (.lst (nv l))) (hz : l.length ≤ 16000000) : SpL (sp_with_length g) [.ref p] H (an (lenL l)) := fun H1 e Q k _ => ⟨p, l, rfl, e _ _ h, hz, k⟩
theorem sl_upto (h : H p = some (.lst (nv l))) (h2 : H q = some (.lst (nv m))) (hz : l.length ≤ 100) : SpL (sp_up_to_common g) [.ref p, .ref q] H (nv (l.takeWhile fun h => !m.contains h)) := fun H1 e Q k _ => ⟨p, q, l, m, rfl, e _ _ h, e _ _ h2, hz, k⟩
end
end Sg
set_option Elab.async false
set_option linter.all false
set_option maxRecDepth 100000
set_option maxHeartbeats 4000000
/-! SgK1: the defs of asks. -/
namespace Sg
open PySem PySem.Spec PyProof.Rows L2 Evl

section
variable {w : Wd} {k : Nat} {ms : List Nat}
theorem oks1 (o : okM w k ms) {P : Nat → Prop} (h : ∀ n, okM w k [n] → P n) (h0 : okM w k [] → False) (h2 : ∀ a b r, okM w k (a :: b :: r) → False) : ∃ n, ms = [n] ∧ P n := by
  match ms, o with
  | [], o => exact (h0 o).elim
  | [n], o => exact ⟨n, rfl, h n o⟩
  | a :: b :: r, o => exact (h2 a b r o).elim
theorem oks2 (o : okM w k ms) {P : Nat → Nat → Prop} (h : ∀ n m, okM w k [n, m] → P n m) (h0 : okM w k [] → False) (h1 : ∀ n, okM w k [n] → False) (h2 : ∀ a b c r, okM w k (a :: b :: c :: r) → False) : ∃ n m, ms = [n, m] ∧ P n m := by
  match ms, o with
  | [], o => exact (h0 o).elim
  | [n], o => exact (h1 n o).elim
  | [n, m], o => exact ⟨n, m, rfl, h n m o⟩
  | a :: b :: c :: r, o => exact (h2 a b c r o).elim
theorem oks3 (o : okM w k ms) {P : Nat → Nat → Nat → Prop} (h : ∀ n m l, okM w k [n, m, l] → P n m l) (h0 : okM w k [] → False) (h1 : ∀ n, okM w k [n] → False) (h2 : ∀ n m, okM w k [n, m] → False) (h4 : ∀ a b c d r, okM w k (a :: b :: c :: d :: r) → False) : ∃ n m l, ms = [n, m, l] ∧ P n m l := by
  match ms, o with
  | [], o => exact (h0 o).elim
  | [n], o => exact (h1 n o).elim
  | [n, m], o => exact (h2 n m o).elim
  | [n, m, l], o => exact ⟨n, m, l, rfl, h n m l o⟩
  | a :: b :: c :: d :: r, o => exact (h4 a b c d r o).elim
end
section
variable {σ : L2.St} {H : Hp} {D : Ends} {K : PySem.W.Frag} {q : Addr} {a b c d e : V} {i j l m n s : Nat} {tz : TS} {ta te : TE} {xs ys : List V}
theorem q_unl2 (hs : σ[s]? = some (some (.ref q))) (hq : H q = some (.lst [a, b])) (k : tz D ((σ.set i (some a)).set j (some b)) H) : tSeq (tAsg (tVar s) (gUnl K 2 (gCons (gName i) (gCons (gName j) gNil)))) tz D σ H := ⟨_, hs, q, [a, b], rfl, sq_of hq, rfl, a, [b], rfl, b, [], rfl, rfl, k⟩
theorem q_unl3 (hs : σ[s]? = some (some (.ref q))) (hq : H q = some (.lst [a, b, c])) (k : tz D (((σ.set i (some a)).set j (some b)).set l (some c)) H) : tSeq (tAsg (tVar s) (gUnl K 3 (gCons (gName i) (gCons (gName j) (gCons (gName l) gNil))))) tz D σ H := ⟨_, hs, q, [a, b, c], rfl, sq_of hq, rfl, a, [b, c], rfl, b, [c], rfl, c, [], rfl, rfl, k⟩
theorem q_unl4 (hs : σ[s]? = some (some (.ref q))) (hq : H q = some (.lst [a, b, c, d])) (k : tz D ((((σ.set i (some a)).set j (some b)).set l (some c)).set m (some d)) H) : tSeq (tAsg (tVar s) (gUnl K 4 (gCons (gName i) (gCons (gName j) (gCons (gName l) (gCons (gName m) gNil)))))) tz D σ H := ⟨_, hs, q, [a, b, c, d], rfl, sq_of hq, rfl, a, [b, c, d], rfl, b, [c, d], rfl, c, [d], rfl, d, [], rfl, rfl, k⟩
theorem q_unl5 (hs : σ[s]? = some (some (.ref q))) (hq : H q = some (.lst [a, b, c, d, e])) (k : tz D (((((σ.set i (some a)).set j (some b)).set l (some c)).set m (some d)).set n (some e)) H) : tSeq (tAsg (tVar s) (gUnl K 5 (gCons (gName i) (gCons (gName j) (gCons (gName l) (gCons (gName m) (gCons (gName n) gNil))))))) tz D σ H := ⟨_, hs, q, [a, b, c, d, e], rfl, sq_of hq, rfl, a, [b, c, d, e], rfl, b, [c, d, e], rfl, c, [d, e], rfl, d, [e], rfl, e, [], rfl, rfl, k⟩
/-- numbers[0] -/
theorem ev_first (hs : σ[s]? = some (some (.ref q))) (hq : H q = some (.lst (a :: xs))) : Ev (tOp (rIxL K) (tVar s) (tC (.int 0))) σ H a := ev_ix (ev_var hs) ev_c (sq_of hq) (atI_nat (j := 0) rfl)
theorem s_ext {l : Addr} (hl : H l = some (.lst xs)) (ha : Ev ta σ H (.ref l)) (h : EvL te σ H ys) (hz : xs.length + ys.length ≤ 100000) (k : ∀ H1, Ex H H1 → D.nx σ (upd H1 l (.lst (xs ++ ys)))) :
    tDrop (tBM K "list" rExtend ta (tCons te tNil)) D σ H := ha H (Ex.refl H) _ fun H1 e1 =>
  ⟨Or.inl ⟨rfl, xs, sq_of (e1 l _ hl)⟩, h H1 e1 _ fun p H2 hp e2 h2 => ⟨l, p, xs, ys, rfl, rfl, e2 l _ (e1 l _ hl), h2, Nat.le_trans hz (by decide), k H2 (e1.trans e2)⟩⟩
end
theorem an_cons {x : Int} {xs : List Int} : an (x :: xs) = .int x :: an xs := rfl
theorem an_app {xs ys : List Int} : an (xs ++ ys) = an xs ++ an ys := List.map_append
theorem lenL_len (l : List Nat) : (lenL l).length = l.length + 1 := by
  unfold lenL
  rw [List.length_cons, List.length_map]

theorem ok_with_length {g : Ctx} (T : Txt g) (D : DefAt g "with_length" s_with_length) : H_with_length g := by
  refine mk_def D sc_with_length (fun _ _ _ _ _ _ us hl => match us, hl with | [_], _ => rfl) (by rintro vs H Q E ⟨_, _, rfl, _⟩; rfl) fun f cdv A outer s H vs Q E hr h => ⟨_, (pss_one (ps_ret (pe_op op_cat (pe_lst (pa_cons (pe_callB (g_len g.K) (by rfl) T.len (by decide +kernel) (pa_cons (pv 0) pa_nil)) pa_nil)) (pv 0)))), ?_⟩
  obtain ⟨p, l, rfl, hp, hz, k⟩ := h
  refine s_retA (el_catNV (xs := [iv l.length]) (el_lst (ea_cons (ev_lenS (ev_var rfl) (sq_of hp) (by rw [List.length_map])) ea_nil) (by show 1 ≤ 100000; decide)) (ev_var rfl) hp ?_) k ?_
  · rw [List.length_map]
    show 1 + _ ≤ _
    omega
  · show iv l.length :: nv l = iv l.length :: an (ofN l)
    rw [an_ofN]
theorem ok_locate {g : Ctx} (T : Txt g) (D : DefAt g "locate" s_locate) (C_World_thing : H_World_thing g) (C_holders_of : H_holders_of g) (C_lies_in : H_lies_in g) : H_locate g := by
  refine mk_def D sc_locate (fun _ _ _ _ _ _ us hl => match us, hl with | [_, _], _ => rfl) (by rintro vs H Q E ⟨_, _, _, _, rfl, _⟩; rfl) fun f cdv A outer s H vs Q E hr h => ⟨_, (pss_cons (ps_set (i := 2) sc_locate.nd rfl (Or.inl rfl) (pe_ix (gx_list g.K) (pv 1) pe_int (fun _ _ => rfl))) (pss_cons (ps_set (i := 3) sc_locate.nd rfl (Or.inl rfl) (pe_md C_World_thing T.clW hr (pv 0) (pa_cons (pv 2) pa_nil))) (pss_one (ps_ret (pe_op op_cat (pe_lst (pa_cons pe_int (pa_cons (g_fld g.K (pv 3)) (pa_cons (g_fld g.K (pv 3)) (pa_cons (pe_fn C_lies_in hr (pa_cons (pv 0) (pa_cons (pv 2) pa_nil))) pa_nil))))) (pe_fn C_holders_of hr (pa_cons (pv 0) (pa_cons (pv 2) pa_nil)))))))), ?_⟩
  obtain ⟨L, w, q, ms, rfl, hw, hq, hok, _, hz, k⟩ := h
  obtain ⟨n, rfl, hn⟩ := oks1 hok (P := fun n => ex w n) (fun _ o => o) (fun o => o) (fun _ _ _ o => o)
  obtain ⟨t, dt, x, hx, ht1, ht2⟩ := thing_at hw hn
  refine q_asg (ev_first rfl hq) fun H1 e1 => ?_
  refine q_asg (ev_wm (hw.mono e1).at_ (ev_var rfl) (fun _ _ => wo_none) (ea_cons (ev_var rfl) ea_nil) (sv_thing (hw.mono e1) hn.1 ht1)) fun H2 e2 => ?_
  have e12 := e1.trans e2
  have hw2 := hw.mono e12
  have hal := anc_len (w := w) Vbtaac.maxObjects n
  have hm60 : Vbtaac.maxObjects = 60 := rfl
  refine s_retA (zs := locateM w n) (el_catNN (el_lst (ea_cons ev_c (ea_cons (ev_fld (ev_var rfl) (ht2 _ e12) T.clT T.nTho th_holder) (ea_cons (ev_fld (ev_var rfl) (ht2 _ e12) T.clT T.nTre th_relation) (ea_cons (ev_fn (ea_cons (ev_var rfl) (ea_cons (ev_var rfl) ea_nil)) (sv_lies_in hw2 hn)) ea_nil)))) (by show 4 ≤ 100000; decide))
    (el_fn (ea_cons (ev_var rfl) (ea_cons (ev_var rfl) ea_nil)) (sl_holders hw2 hn)) ?_) (fun p H3 hp e3 h3 => k p H3 (fresh_back e12 hp) (e12.trans e3) h3) ?_
  · rw [List.length_map]
    show 4 + _ ≤ _
    omega
  · show _ = V.int 0 :: iv (Vbtaac.holderOf w n) :: iv (Vbtaac.relationOf w n) :: iv (Vbtaac.spaceOf w n) :: an (ofN _)
    rw [an_ofN, holder_at hx, relation_at hx]
    rfl
theorem ok_can_see {g : Ctx} (T : Txt g) (D : DefAt g "can_see" s_can_see) (C_proof_of : H_proof_of g) (C_with_length : H_with_length g) : H_can_see g := by
  refine mk_def D sc_can_see (fun _ _ _ _ _ _ us hl => match us, hl with | [_, _], _ => rfl) (by rintro vs H Q E ⟨_, _, _, _, rfl, _⟩; rfl) fun f cdv A outer s H vs Q E hr h => ⟨_, (pss_cons (ps_asg (pv 1) (gg_unl g.K (n := 2) (pgs_cons (pg_name (i := 2) sc_can_see.nd rfl (Or.inl rfl)) (pgs_cons (pg_name (i := 3) sc_can_see.nd rfl (Or.inl rfl)) pgs_nil)))) (pss_cons (ps_asg (pe_fn C_proof_of hr (pa_cons (pv 0) (pa_cons (pv 2) (pa_cons (pv 3) pa_nil)))) (gg_tup g.K (n := 3) (pgs_cons (pg_name (i := 4) sc_can_see.nd rfl (Or.inl rfl)) (pgs_cons (pg_name (i := 5) sc_can_see.nd rfl (Or.inl rfl)) (pgs_cons (pg_name (i := 6) sc_can_see.nd rfl (Or.inl rfl)) pgs_nil))))) (pss_one (ps_ret (pe_op op_cat (pe_op op_cat (pe_lst (pa_cons pe_int (pa_cons (pv 4) pa_nil))) (pe_fn C_with_length hr (pa_cons (pv 5) pa_nil))) (pe_fn C_with_length hr (pa_cons (pv 6) pa_nil))))))), ?_⟩
  obtain ⟨L, w, q, ms, rfl, hw, hq, hok, _, hz, k⟩ := h
  obtain ⟨v, x, rfl, hv, hx⟩ := oks2 hok (P := fun n m => ex w n ∧ ex w m) (fun _ _ o => o) (fun o => o) (fun _ o => o) (fun _ _ _ _ o => o)
  refine q_unl2 rfl hq ?_
  have hz : (canSeeM w v x).length ≤ 16000000 := hz
  have hcl : (canSeeM w v x).length = 2 + ((Vbtaac.visibilityProof w v x).1.length + 1 + ((Vbtaac.visibilityProof w v x).2.length + 1)) := by
    unfold canSeeM
    rw [List.length_cons, List.length_cons, List.length_append, lenL_len, lenL_len]
    omega
  refine ⟨_, rfl, _, rfl, _, rfl, L, w, v, x, rfl, hw, hv, hx, fun t a b H1 e1 ht ha hb => ⟨t, _, rfl, st_of ht, rfl, _, _, rfl, _, _, rfl, _, _, rfl, rfl, ?_⟩⟩
  refine s_retA (zs := canSeeM w v x) (el_catNN (el_catNN (el_lst (ea_cons ev_c (ea_cons (ev_var rfl) ea_nil)) (by show 2 ≤ 100000; decide)) (el_fn (ea_cons (ev_var rfl) ea_nil) (sl_with ha (by omega))) ?_) (el_fn (ea_cons (ev_var rfl) ea_nil) (sl_with hb (by omega))) ?_) (fun p H3 hp e3 h3 => k p H3 (fresh_back e1 hp) (e1.trans e3) h3) ?_
  · rw [List.length_map, lenL_len]
    show 2 + _ ≤ _
    omega
  · rw [List.length_append, List.length_map, List.length_map, lenL_len, lenL_len]
    show 2 + _ + _ ≤ _
    omega
  · unfold canSeeM
    rw [an_cons, an_cons, an_app]
    cases Vbtaac.canSee w v x <;> simp [Vbtaac.boolToInt]
theorem ok_check_proof {g : Ctx} (T : Txt g) (D : DefAt g "check_proof" s_check_proof) (C_is_negative_proof : H_is_negative_proof g) (C_is_positive_proof : H_is_positive_proof g) : H_check_proof g := by
  refine mk_def D sc_check_proof (fun _ _ _ _ _ _ us hl => match us, hl with | [_, _, _, _], _ => rfl) (by rintro vs H Q E ⟨_, _, _, _, _, _, _, _, rfl, _⟩; rfl) fun f cdv A outer s H vs Q E hr h => ⟨_, (pss_cons (ps_asg (pv 1) (gg_unl g.K (n := 3) (pgs_cons (pg_name (i := 4) sc_check_proof.nd rfl (Or.inl rfl)) (pgs_cons (pg_name (i := 5) sc_check_proof.nd rfl (Or.inl rfl)) (pgs_cons (pg_name (i := 6) sc_check_proof.nd rfl (Or.inl rfl)) pgs_nil))))) (pss_cons (ps_if (pt_cmpR op_eq (pv 6) pe_int (nomark _)) (pss_one (ps_ret (pe_lst (pa_cons pe_int (pa_cons (pe_callTy call_int1 (by rfl) T.int (by decide +kernel) (pa_cons (pe_fn C_is_positive_proof hr (pa_cons (pv 0) (pa_cons (pv 4) (pa_cons (pv 5) (pa_cons (pv 2) (pa_cons (pv 3) pa_nil)))))) pa_nil)) pa_nil))))) pss_nil) (pss_one (ps_ret (pe_lst (pa_cons pe_int (pa_cons (pe_callTy call_int1 (by rfl) T.int (by decide +kernel) (pa_cons (pe_fn C_is_negative_proof hr (pa_cons (pv 0) (pa_cons (pv 4) (pa_cons (pv 5) (pa_cons (pv 2) (pa_cons (pv 3) pa_nil)))))) pa_nil)) pa_nil))))))), ?_⟩
  obtain ⟨L, w, q, a, b, ms, p, r, rfl, hw, hq, hok, ha, hb, hpl, hrl, k⟩ := h
  obtain ⟨v, x, y, rfl, hv, hx, hy⟩ := oks3 hok (P := fun n m l => ex w n ∧ ex w m ∧ l ≤ 1) (fun _ _ _ o => o) (fun o => o) (fun _ o => o) (fun _ _ o => o) (fun _ _ _ _ _ o => o)
  have k : RetL (an (checkM w v x y p r)) H Q := k
  refine q_unl3 rfl hq ?_
  refine q_when (b := y == 1) (et_test (ev_eq (y := iv 1) (ev_var rfl) ev_c rfl iv_eq)) (fun hb1 H1 e1 => ?_) (fun hb1 H1 e1 => ?_)
  · refine s_retA (zs := checkM w v x y p r) (el_lst (ea_cons ev_c (ea_cons (ev_int1 (ev_fn (ea_cons (ev_var rfl) (ea_cons (ev_var rfl) (ea_cons (ev_var rfl) (ea_cons (ev_var rfl) (ea_cons (ev_var rfl) ea_nil))))) (sp := sp_is_positive_proof g) (z := .bl (Vbtaac.acceptsProof w v x true p r)) fun H2 e2 Q k2 _ => ⟨L, w, v, x, a, b, p, r, rfl, hw.mono (e1.trans e2), hv, hx, (e1.trans e2) _ _ ha, (e1.trans e2) _ _ hb, hpl, hrl, k2⟩)) ea_nil)) (by show 2 ≤ 100000; decide))
      (fun p H3 hp e3 h3 => k p H3 (fresh_back e1 hp) (e1.trans e3) h3) ?_
    unfold checkM
    rw [hb1]
    rfl
  · refine s_retA (zs := checkM w v x y p r) (el_lst (ea_cons ev_c (ea_cons (ev_int1 (ev_fn (ea_cons (ev_var rfl) (ea_cons (ev_var rfl) (ea_cons (ev_var rfl) (ea_cons (ev_var rfl) (ea_cons (ev_var rfl) ea_nil))))) (sp := sp_is_negative_proof g) (z := .bl (Vbtaac.acceptsProof w v x false p r)) fun H2 e2 Q k2 _ => ⟨L, w, v, x, a, b, p, r, rfl, hw.mono (e1.trans e2), hv, hx, (e1.trans e2) _ _ ha, (e1.trans e2) _ _ hb, hpl, hrl, k2⟩)) ea_nil)) (by show 2 ≤ 100000; decide))
      (fun p H3 hp e3 h3 => k p H3 (fresh_back e1 hp) (e1.trans e3) h3) ?_
    unfold checkM
    rw [hb1]
    rfl
theorem ok_list_visible {g : Ctx} (T : Txt g) (D : DefAt g "list_visible" s_list_visible) (C_visible_to : H_visible_to g) : H_list_visible g := by
  refine mk_def D sc_list_visible (fun _ _ _ _ _ _ us hl => match us, hl with | [_, _], _ => rfl) (by rintro vs H Q E ⟨_, _, _, _, rfl, _⟩; rfl) fun f cdv A outer s H vs Q E hr h => ⟨_, (pss_one (ps_ret (pe_op op_cat (pe_lst (pa_cons pe_int pa_nil)) (pe_fn C_visible_to hr (pa_cons (pv 0) (pa_cons (pe_ix (gx_list g.K) (pv 1) pe_int (fun _ _ => rfl)) pa_nil)))))), ?_⟩
  obtain ⟨L, w, q, ms, rfl, hw, hq, hok, _, hz, k⟩ := h
  obtain ⟨v, rfl, hv⟩ := oks1 hok (P := fun n => ex w n) (fun _ o => o) (fun o => o) (fun _ _ _ o => o)
  have k : RetL (an (visibleM w v)) H Q := k
  have hz : (visibleM w v).length ≤ 16000000 := hz
  refine s_retA (zs := visibleM w v) (el_catNN (el_lst (ea_cons ev_c ea_nil) (by show 1 ≤ 100000; decide)) (el_fn (ea_cons (ev_var rfl) (ea_cons (ev_first rfl hq) ea_nil)) (sl_visible hw hv)) ?_) k ?_
  · unfold visibleM at hz
    rw [List.length_cons, List.length_map] at hz
    rw [List.length_map]
    show 1 + _ ≤ _
    omega
  · unfold visibleM
    rw [an_cons, an_ofN]
    rfl
theorem ok_list_reachable {g : Ctx} (T : Txt g) (D : DefAt g "list_reachable" s_list_reachable) (C_reachable_by : H_reachable_by g) : H_list_reachable g := by
  refine mk_def D sc_list_reachable (fun _ _ _ _ _ _ us hl => match us, hl with | [_, _], _ => rfl) (by rintro vs H Q E ⟨_, _, _, _, rfl, _⟩; rfl) fun f cdv A outer s H vs Q E hr h => ⟨_, (pss_one (ps_ret (pe_op op_cat (pe_lst (pa_cons pe_int pa_nil)) (pe_fn C_reachable_by hr (pa_cons (pv 0) (pa_cons (pe_ix (gx_list g.K) (pv 1) pe_int (fun _ _ => rfl)) pa_nil)))))), ?_⟩
  obtain ⟨L, w, q, ms, rfl, hw, hq, hok, _, hz, k⟩ := h
  obtain ⟨v, rfl, hv⟩ := oks1 hok (P := fun n => ex w n) (fun _ o => o) (fun o => o) (fun _ _ _ o => o)
  have k : RetL (an (reachableM w v)) H Q := k
  have hz : (reachableM w v).length ≤ 16000000 := hz
  refine s_retA (zs := reachableM w v) (el_catNN (el_lst (ea_cons ev_c ea_nil) (by show 1 ≤ 100000; decide)) (el_fn (ea_cons (ev_var rfl) (ea_cons (ev_first rfl hq) ea_nil)) (sl_reachable hw hv)) ?_) k ?_
  · unfold reachableM at hz
    rw [List.length_cons, List.length_map] at hz
    rw [List.length_map]
    show 1 + _ ≤ _
    omega
  · unfold reachableM
    rw [an_cons, an_ofN]
    rfl
theorem ok_get_properties {g : Ctx} (T : Txt g) (D : DefAt g "get_properties" s_get_properties) (C_World_thing : H_World_thing g) : H_get_properties g := by
  refine mk_def D sc_get_properties (fun _ _ _ _ _ _ us hl => match us, hl with | [_, _], _ => rfl) (by rintro vs H Q E ⟨_, _, _, _, rfl, _⟩; rfl) fun f cdv A outer s H vs Q E hr h => ⟨_, (pss_cons (ps_set (i := 2) sc_get_properties.nd rfl (Or.inl rfl) (pe_md C_World_thing T.clW hr (pv 0) (pa_cons (pe_ix (gx_list g.K) (pv 1) pe_int (fun _ _ => rfl)) pa_nil))) (pss_one (ps_ret (pe_lst (pa_cons pe_int (pa_cons (g_fld g.K (pv 2)) (pa_cons (g_fld g.K (pv 2)) (pa_cons (g_fld g.K (pv 2)) pa_nil)))))))), ?_⟩
  obtain ⟨L, w, q, ms, rfl, hw, hq, hok, _, hz, k⟩ := h
  obtain ⟨n, rfl, hn⟩ := oks1 hok (P := fun n => ex w n) (fun _ o => o) (fun o => o) (fun _ _ _ o => o)
  have k : RetL (an (propsM w n)) H Q := k
  obtain ⟨t, dt, x, hx, ht1, ht2⟩ := thing_at hw hn
  have e : propsM w n = [0, (x.properties : Int), (x.bulk : Int), (x.capacity : Int)] := by unfold propsM; rw [hx]
  refine q_asg (ev_wm hw.at_ (ev_var rfl) (fun _ _ => wo_none) (ea_cons (ev_first rfl hq) ea_nil) (sv_thing hw hn.1 ht1)) fun H1 e1 => ?_
  refine s_retA (zs := propsM w n) (el_lst (ea_cons ev_c (ea_cons (ev_fld (ev_var rfl) (ht2 _ e1) T.clT T.nTtr th_traits) (ea_cons (ev_fld (ev_var rfl) (ht2 _ e1) T.clT T.nTbu th_bulk) (ea_cons (ev_fld (ev_var rfl) (ht2 _ e1) T.clT T.nTca th_capacity) ea_nil)))) (by show 4 ≤ 100000; decide)) (fun p H3 hp e3 h3 => k p H3 (fresh_back e1 hp) (e1.trans e3) h3) ?_
  rw [e]
  rfl
theorem ok_is_lit {g : Ctx} (T : Txt g) (D : DefAt g "is_lit" s_is_lit) (C_light_path : H_light_path g) (C_World_is_place : H_World_is_place g) (C_World_has_trait : H_World_has_trait g) : H_is_lit g := by
  refine mk_def D sc_is_lit (fun _ _ _ _ _ _ us hl => match us, hl with | [_, _], _ => rfl) (by rintro vs H Q E ⟨_, _, _, _, rfl, _⟩; rfl) fun f cdv A outer s H vs Q E hr h => ⟨_, (pss_cons (ps_set (i := 2) sc_is_lit.nd rfl (Or.inl rfl) (pe_ix (gx_list g.K) (pv 1) pe_int (fun _ _ => rfl))) (pss_cons (ps_if (PW.pt (pw_and (pt_not (pt_val (pe_md C_World_is_place T.clW hr (pv 0) (pa_cons (pv 2) pa_nil)))) (pw_and1 (pt_not (pt_val (pe_md C_World_has_trait T.clW hr (pv 0) (pa_cons (pv 2) (pa_cons (pe_kn T.cCONTAINER) pa_nil)))))))) (pss_one (ps_ret (pe_lst (pa_cons (pe_un un_neg pe_int) pa_nil)))) pss_nil) (pss_cons (ps_set (i := 3) sc_is_lit.nd rfl (Or.inl rfl) (pe_fn C_light_path hr (pa_cons (pv 0) (pa_cons (pv 2) pa_nil)))) (pss_one (ps_ret (pe_op op_cat (pe_lst (pa_cons pe_int (pa_cons (pe_callTy call_int1 (by rfl) T.int (by decide +kernel) (pa_cons (pe_cmpR (g_neD g.K hr.units) (pv 3) (pe_lst pa_nil) (nomark _)) pa_nil)) pa_nil))) (pv 3))))))), ?_⟩
  obtain ⟨L, w, q, ms, rfl, hw, hq, hok, _, hz, k⟩ := h
  obtain ⟨n, rfl, hn⟩ := oks1 hok (P := fun n => ex w n) (fun _ o => o) (fun o => o) (fun _ _ _ o => o)
  have k : RetL (an (isLitM w n)) H Q := k
  have hz : (isLitM w n).length ≤ 16000000 := hz
  refine q_asg (ev_first rfl hq) fun H1 e1 => ?_
  have hw1 := hw.mono e1
  refine q_when (b := !Vbtaac.isPlace w n && !Vbtaac.hasProperty w n 0) (et_and (et_not (et_test (ev_wm hw1.at_ (ev_var rfl) (fun _ _ => wo_none) (ea_cons (ev_var rfl) ea_nil) (sv_is_place hw1 hn)))) (fun _ => et_not (et_test (ev_wm hw1.at_ (ev_var rfl) (fun _ _ => wo_none) (ea_cons (ev_var rfl) (ea_cons ev_c ea_nil)) (sv_has_trait hw1 hn 0))))) (fun hb H2 e2 => ?_) (fun hb H2 e2 => ?_)
  · rw [← Bool.not_or, Bool.not_eq_true'] at hb
    refine s_retA (zs := isLitM w n) (el_lst (ea_cons (ev_un ev_c ru_neg) ea_nil) (by show 1 ≤ 100000; decide)) (fun p H3 hp e3 h3 => k p H3 (fresh_back (e1.trans e2) hp) ((e1.trans e2).trans e3) h3) ?_
    unfold isLitM
    rw [if_pos (show Vbtaac.isSpace w n = false from hb)]
    rfl
  · rw [← Bool.not_or, Bool.not_eq_false'] at hb
    have hs : ¬ Vbtaac.isSpace w n = false := by rw [show Vbtaac.isSpace w n = true from hb]; exact Bool.noConfusion
    unfold isLitM at hz k
    rw [if_neg hs] at hz k
    have e12 := e1.trans e2
    refine q_asgL (xs := nv (litPath w n)) (el_fn (ea_cons (ev_var rfl) (ea_cons (ev_var rfl) ea_nil)) (fun H3 e3 Q k2 _ => ⟨L, w, n, rfl, (hw1.mono e2).mono e3, hn, k2⟩)) fun pp H3 hp e3 h3 => ?_
    have e13 := e12.trans e3
    have hne : (!(ofN (litPath w n) == ([] : List Int))) = Vbtaac.isLit w n := by
      rw [ofN_nil]
      unfold litPath
      cases c : Vbtaac.isLit w n with
      | false => rfl
      | true =>
        rw [if_pos rfl]
        have hpb : ∀ lv m, Vbtaac.pathBack w 0 lv m ≠ [] := by
          intro lv m
          cases lv with
          | nil => intro z; cases z
          | cons l r =>
            unfold Vbtaac.pathBack
            split <;> intro z <;> cases z
        cases c2 : Vbtaac.shortestPath w 0 (Vbtaac.lightSources w) n with
        | nil =>
          unfold Vbtaac.shortestPath at c2
          exact absurd (List.reverse_eq_nil_iff.mp c2) (hpb _ _)
        | cons a r => rfl
    have hcmp : Ev (tOp (rNeD g.K) (tVar 3) (tLst tNil)) (((L2.start ["world", "numbers", "h", "path"] [V.ref L.a, V.ref q]).set 2 (some (iv n))).set 3 (some (V.ref pp))) H3 (.bl (Vbtaac.isLit w n)) := by
      rw [← hne]
      exact ev_opL (xs := ([] : List Int).map V.int) (ev_var rfl) (el_lst ea_nil (Nat.zero_le _)) fun u H4 hu e4 => rv_neL (sq_of (by rw [e4 _ _ h3, nv_ints])) (sq_of hu)
    refine s_retA (zs := 0 :: Vbtaac.boolToInt (Vbtaac.isLit w n) :: ofN (litPath w n)) (el_catNV (el_lst (ea_cons ev_c (ea_cons (ev_int1 hcmp) ea_nil)) (by show 2 ≤ 100000; decide)) (ev_var rfl) h3 ?_) (fun p H4 hp e4 h4 => k p H4 (fresh_back e13 hp) (e13.trans e4) h4) ?_
    · have hz : (litPath w n).length + 2 ≤ 16000000 := by
        have := hz
        rw [List.length_cons, List.length_cons, List.length_map] at this
        exact this
      rw [List.length_map]
      show 2 + _ ≤ _
      omega
    · rw [an_cons, an_cons, an_ofN]
      rfl
end Sg
set_option Elab.async false
set_option linter.all false
set_option maxRecDepth 100000
set_option maxHeartbeats 4000000
/-! SgK2: the defs of asks with loops. -/
namespace Sg
open PySem PySem.Spec PyProof.Rows L2 Evl

theorem flat_filter {α β : Type} {p : α → Bool} {f : α → List β} : ∀ l : List α, (l.filter p).flatMap f = l.flatMap fun x => if p x = true then f x else []
  | [] => rfl
  | x :: r => by
    rw [List.filter_cons, List.flatMap_cons]
    cases p x with
    | true => rw [if_pos rfl, if_pos rfl, List.flatMap_cons, flat_filter r]
    | false => rw [if_neg Bool.false_ne_true, if_neg Bool.false_ne_true, flat_filter r, List.nil_append]
theorem flat_len {α β : Type} {f : α → List β} {c : Nat} (h : ∀ x, (f x).length ≤ c) : ∀ l : List α, (l.flatMap f).length ≤ c * l.length
  | [] => Nat.zero_le _
  | x :: r => by
    rw [List.flatMap_cons, List.length_append, List.length_cons]
    have := flat_len h r
    have := h x
    rw [Nat.mul_add]
    omega
def contStep (w : Wd) (h n : Nat) : List Int := if (Vbtaac.holderOf w n == h) = true then [(n : Int), (Vbtaac.relationOf w n : Int)] else []
theorem cont_len (w : Wd) (h n : Nat) : (contStep w h n).length ≤ 2 := by
  unfold contStep
  split
  · exact Nat.le_refl _
  · exact Nat.zero_le _
theorem contents_is (w : Wd) (h : Nat) : contentsM w h = 0 :: (Vbtaac.objectNumbers w).flatMap (contStep w h) := by
  unfold contentsM Vbtaac.childrenOf
  rw [flat_filter]
  rfl
section
variable {g : Ctx} {L : Lay} {H : Hp} {w : Wd} {σ : L2.St} {ta tb te : TE} {D : Ends} {tz : TS} {i j n : Nat} {v : V} {xs ys : List V} {f : Str} {E : XK}
theorem q_parVL (ha : Ev ta σ H v) (hb : EvL tb σ H xs) (k : ∀ p H1, H p = none → Ex H H1 → H1 p = some (.lst xs) → tz D ((σ.set i (some v)).set j (some (.ref p))) H1) : tSeq (tPar i j (tCons ta (tCons tb tNil))) tz D σ H :=
  ha H (Ex.refl H) _ fun H1 e1 => hb H1 e1 _ fun p H2 hp e2 h2 => ⟨_, _, rfl, k p H2 (fresh_back e1 hp) (e1.trans e2) h2⟩
theorem q_parLL (ha : EvL ta σ H xs) (hb : EvL tb σ H ys) (k : ∀ p q H1, Ex H H1 → H1 p = some (.lst xs) → H1 q = some (.lst ys) → tz D ((σ.set i (some (.ref p))).set j (some (.ref q))) H1) : tSeq (tPar i j (tCons ta (tCons tb tNil))) tz D σ H :=
  ha H (Ex.refl H) _ fun p H1 hp e1 h1 => hb H1 e1 _ fun q H2 hq e2 h2 => ⟨_, _, rfl, k p q H2 (e1.trans e2) (e2 _ _ h1) h2⟩
/-- world.thing(n).f -/
theorem ev_thf (T : Txt g) {fl : Ob → Nat} {z : V} (hw : WG g L H w) (hn : ex w n) (ha : Ev ta σ H (.ref L.a)) (hb : Ev tb σ H (iv n)) (hna : NoAttr g.K g.CT f) (hl : ∀ x, (thF x).lookup f = some (iv (fl x))) (hx : ∀ x, Vbtaac.objectAt w n = some x → z = iv (fl x)) :
    Ev (tFld g.K (tMeth g.CW "thing" (sp_World_thing g) [] E ta (tCons tb tNil)) f) σ H z := by
  obtain ⟨t, dt, x, h1, ht1, ht2⟩ := thing_at hw hn
  rw [hx x h1]
  exact ev_fld (ev_wm hw.at_ ha (fun _ _ => wo_none) (ea_cons hb ea_nil) (sv_thing hw hn.1 ht1)) (ht2 H (Ex.refl H)) T.clT hna (hl x)
end

theorem ok_list_contents {g : Ctx} (T : Txt g) (D : DefAt g "list_contents" s_list_contents) (C_World_numbers : H_World_numbers g) (C_World_thing : H_World_thing g) : H_list_contents g := by
  refine mk_def D sc_list_contents (fun _ _ _ _ _ _ us hl => match us, hl with | [_, _], _ => rfl) (by rintro vs H Q E ⟨_, _, _, _, rfl, _⟩; rfl) fun f cdv A outer s H vs Q E hr h => ⟨_, (pss_cons (ps_par (i := 2) (j := 3) rfl sc_list_contents.nd rfl rfl (by decide) rfl rfl (pa_cons (pe_ix (gx_list g.K) (pv 1) pe_int (fun _ _ => rfl)) (pa_cons (pe_lst (pa_cons pe_int pa_nil)) pa_nil)) (by rfl)) (pss_cons (ps_for PassesOwn.never rfl (gi_list g.K (pe_md0 C_World_numbers T.clW hr (pv 0))) (pg_name (i := 4) sc_list_contents.nd rfl (Or.inl rfl)) (pss_one (ps_if (pt_cmpR op_eq (g_fld g.K (pe_md C_World_thing T.clW hr (pv 0) (pa_cons (pv 4) pa_nil))) (pv 2) (nomark _)) (pss_one (ps_expr (g_bm g.K PySem.F.plainAttrs_list PySem.F.slot_list_extend PySem.F.type_list_extend mt_extend (pv 3) (pa_cons (pe_lst (pa_cons (pv 4) (pa_cons (g_fld g.K (pe_md C_World_thing T.clW hr (pv 0) (pa_cons (pv 4) pa_nil))) pa_nil))) pa_nil)))) pss_nil))) (pss_one (ps_ret (pv 3))))), ?_⟩
  obtain ⟨L, w, q, ms, rfl, hw, hq, hok, _, hz, k⟩ := h
  obtain ⟨h, rfl, hh⟩ := oks1 hok (P := fun n => ex w n) (fun _ o => o) (fun o => o) (fun _ _ _ o => o)
  have k : RetL (an (contentsM w h)) H Q := k
  rw [contents_is] at k
  have hc := hw.good.cnt
  have hnl := numbers_length (w := w)
  refine q_parVL (ev_first rfl hq) (el_lst (ea_cons ev_c ea_nil) (by show 1 ≤ 100000; decide)) fun p H1 hp e1 h1 => ?_
  refine q_forNLn (xs := nv (Vbtaac.objectNumbers w)) (el_wm (hw.mono e1).at_ (ev_var rfl) (fun _ _ => wo_none) ea_nil (sl_numbers (hw.mono e1)))
    (fun pl i σ' H' => ∃ o : Option V, σ' = [some (.ref L.a), some (.ref q), some (iv h), some (.ref p), o] ∧ Ex H H' ∧ H' pl = some (.lst (nv (Vbtaac.objectNumbers w))) ∧ pl ≠ p ∧ H' p = some (.lst (an (0 :: ((Vbtaac.objectNumbers w).take i).flatMap (contStep w h)))))
    (fun pl H2 hpl e2 h2 => ⟨none, rfl, e1.trans e2, h2, ?_, e2 _ _ h1⟩) (fun pl i σ' H' _ ⟨_, _, _, h2, _⟩ => sq_of h2) (fun pl i x σ' H' hx ⟨o, hσ, e3, h3, hne, hpr⟩ => ?_) (fun pl σ' H' ⟨o, hσ, e3, h3, hne, hpr⟩ => ?_)
  · intro z
    rw [z, h1] at hpl
    cases hpl
  · subst hσ
    obtain ⟨n, hn0, rfl⟩ := map_get hx
    have hn : ex w n := mem_numbers.mp (List.mem_of_getElem? hn0)
    have hw3 := hw.mono e3
    rw [flatMap_more hn0]
    have hbnd : (((Vbtaac.objectNumbers w).take i).flatMap (contStep w h)).length ≤ 120 := by
      refine Nat.le_trans (flat_len (cont_len w h) _) ?_
      have : ((Vbtaac.objectNumbers w).take i).length ≤ (Vbtaac.objectNumbers w).length := List.length_take_le' _ _
      omega
    refine s_when (b := Vbtaac.holderOf w n == h) (et_test (ev_eq (y := iv h) (ev_thf T hw3 hn (ev_var rfl) (ev_var rfl) T.nTho (fl := fun x => x.holder) (fun x => th_holder) (fun x hx => congrArg iv (holder_at hx))) (ev_var rfl) rfl iv_eq)) (fun hb H4 e4 => ?_) (fun hb H4 e4 => ?_)
    · have es : contStep w h n = [(n : Int), (Vbtaac.relationOf w n : Int)] := by unfold contStep; rw [if_pos hb]
      refine s_ext (e4 _ _ hpr) (ev_var rfl) (el_lst (ea_cons (ev_var rfl) (ea_cons (ev_thf T (hw3.mono e4) hn (ev_var rfl) (ev_var rfl) T.nTre (fl := fun x => x.relation) (z := iv (Vbtaac.relationOf w n)) (fun x => th_relation) (fun x hx => congrArg iv (relation_at hx))) ea_nil)) (by show 2 ≤ 100000; decide)) ?_ (fun H5 e5 => ⟨_, rfl, Ex.mut ((e3.trans e4).trans e5) hp, ?_, hne, ?_⟩)
      · rw [List.length_map, List.length_cons]
        show _ + 2 ≤ _
        omega
      · rw [upd_ne hne]
        exact e5 _ _ (e4 _ _ h3)
      · rw [es, upd_same]
        show some (HO.lst (an _ ++ an [(n : Int), (Vbtaac.relationOf w n : Int)])) = _
        rw [← an_app]
        rfl
    · have es : contStep w h n = [] := by unfold contStep; rw [if_neg (by rw [hb]; exact Bool.false_ne_true)]
      rw [es, List.append_nil]
      exact ⟨_, rfl, e3.trans e4, e4 _ _ h3, hne, e4 _ _ hpr⟩
  · subst hσ
    rw [List.length_map, List.take_length] at hpr
    exact s_ret (ev_var rfl) fun H4 e4 => k p H4 hp (e3.trans e4) (e4 _ _ hpr)
theorem ok_get_load {g : Ctx} (T : Txt g) (D : DefAt g "get_load" s_get_load) (C_load_of : H_load_of g) (C_World_numbers : H_World_numbers g) (C_is_within : H_is_within g) (C_World_thing : H_World_thing g) : H_get_load g := by
  refine mk_def D sc_get_load (fun _ _ _ _ _ _ us hl => match us, hl with | [_, _], _ => rfl) (by rintro vs H Q E ⟨_, _, _, _, rfl, _⟩; rfl) fun f cdv A outer s H vs Q E hr h => ⟨_, (pss_cons (ps_set (i := 2) sc_get_load.nd rfl (Or.inr rfl) (pe_ix (gx_list g.K) (pv 1) pe_int (fun _ _ => rfl))) (pss_cons (ps_setLc (i := 3) (own := [("n", 4)]) rfl sc_get_load.nd rfl rfl (sw_true rfl rfl rfl (by decide +kernel)) (gi_list g.K (pe_md0 C_World_numbers T.clW hr (pv 0))) (blkOk_by (own := [("n", 4)]) (N := ["world", "numbers", "h", "inner", "n", "bulk"]) (sc := defScope s_get_load) (by decide +kernel)) (fun _ _ _ _ _ => (pg_name (i := 4) sc_get_load.nd rfl (Or.inl rfl))) (fun _ _ _ _ _ => (pts_one (pt_val (pe_fn C_is_within hr (pa_cons (pv 0) (pa_cons (pv 4) (pa_cons (pv 2) pa_nil))))))) (fun _ _ _ _ _ => (pv 4))) (pss_cons (ps_set (i := 5) sc_get_load.nd rfl (Or.inl rfl) (pe_callB (g_sum g.K) (by rfl) T.sum (by decide +kernel) (pa_cons (pe_lc (own := [("n", 4)]) rfl sc_get_load.nd (gi_list g.K (pv 3)) (blkOk_by (own := [("n", 4)]) (N := ["world", "numbers", "h", "inner", "n", "bulk"]) (sc := defScope s_get_load) (by decide +kernel)) (fun _ _ _ _ _ => (pg_name (i := 4) sc_get_load.nd rfl (Or.inl rfl))) (fun _ _ _ _ _ => pts_nil) (fun _ _ _ _ _ => (g_fld g.K (pe_md C_World_thing T.clW hr (pv 0) (pa_cons (pv 4) pa_nil))))) pa_nil))) (pss_one (ps_ret (pe_lst (pa_cons pe_int (pa_cons (pe_fn C_load_of hr (pa_cons (pv 0) (pa_cons (pv 2) pa_nil))) (pa_cons (g_fld g.K (pe_md C_World_thing T.clW hr (pv 0) (pa_cons (pv 2) pa_nil))) (pa_cons (pe_callB (g_len g.K) (by rfl) T.len (by decide +kernel) (pa_cons (pv 3) pa_nil)) (pa_cons (pv 5) pa_nil))))))))))), ?_⟩
  obtain ⟨L, w, q, ms, rfl, hw, hq, hok, _, hz, k⟩ := h
  obtain ⟨h, rfl, hh⟩ := oks1 hok (P := fun n => ex w n) (fun _ o => o) (fun o => o) (fun _ _ _ o => o)
  have k : RetL (an (loadM w h)) H Q := k
  have hc := hw.good.cnt
  have hnl := numbers_length (w := w)
  refine q_asg (ev_first rfl hq) fun H1 e1 => ?_
  have hw1 := hw.mono e1
  have hlc := el_lcN (K := g.K) (H := H1) (σ := ((L2.start ["world", "numbers", "h", "inner", "n", "bulk"] [V.ref L.a, V.ref q]).set 2 (some (iv h)))) (tl := tMeth g.CW "numbers" (sp_World_numbers g) [] E0 (tVar 0) tNil) (te := tVar 4) (t := tTest (tCall (sp_is_within g) [] E0 (tCons (tVar 0) (tCons (tVar 4) (tCons (tVar 2) tNil))))) (j := 4) (vs := [4])
    (Vbtaac.objectNumbers w) iv (fun n => Vbtaac.isWithin w n h) iv (el_wm hw1.at_ (ev_var rfl) (fun _ _ => wo_none) ea_nil (sl_numbers hw1)) (by omega) (fun _ => rfl)
    (fun n hn H2 e2 => et_test (ev_fn (ea_cons (ev_var rfl) (ea_cons (ev_var rfl) (ea_cons (ev_var rfl) ea_nil))) (sv_is_within (hw1.mono e2) (mem_numbers.mp hn)))) (fun n hn _ H2 e2 => ev_var rfl)
  refine q_asgL hlc fun p H2 hp e2 h2 => ?_
  have hw2 := hw1.mono e2
  have hin : ∀ n ∈ (Vbtaac.objectNumbers w).filter (fun n => Vbtaac.isWithin w n h), ex w n := fun n hn => mem_numbers.mp (List.mem_filter.mp hn).1
  have hil : ((Vbtaac.objectNumbers w).filter (fun n => Vbtaac.isWithin w n h)).length ≤ 60 := by
    have := List.length_filter_le (fun n => Vbtaac.isWithin w n h) (Vbtaac.objectNumbers w)
    omega
  have hsum := el_lcM (K := g.K) (H := H2) (σ := ((L2.start ["world", "numbers", "h", "inner", "n", "bulk"] [V.ref L.a, V.ref q]).set 2 (some (iv h))).set 3 (some (V.ref p))) (tl := tVar 3) (te := tFld g.K (tMeth g.CW "thing" (sp_World_thing g) [] E0 (tVar 0) (tCons (tVar 4) tNil)) "bulk") (t := tYes) (j := 4) (vs := [4])
    ((Vbtaac.objectNumbers w).filter (fun n => Vbtaac.isWithin w n h)) iv (fun _ => true) (fun n => iv (Vbtaac.bulkOf w n)) (ev_var rfl) (sq_of h2) (by omega) (fun _ => rfl) (fun n hn H3 e3 => et_yes)
    (fun n hn _ H3 e3 => ev_thf T (hw2.mono e3) (hin n hn) (ev_var rfl) (ev_var rfl) T.nTbu (fl := fun x => x.bulk) (fun x => th_bulk) (fun x hx => by unfold Vbtaac.bulkOf; rw [hx]))
  rw [filter_all] at hsum
  refine q_asg (v := iv (Vbtaac.sumList (((Vbtaac.objectNumbers w).filter fun n => Vbtaac.isWithin w n h).map fun n => Vbtaac.bulkOf w n))) (ev_sumN (ns := (((Vbtaac.objectNumbers w).filter fun n => Vbtaac.isWithin w n h).map fun n => Vbtaac.bulkOf w n).map fun (n : Nat) => (n : Int)) ?_ ?_) fun H3 e3 => ?_
  · rw [List.map_map, List.map_map]
    exact hsum
  · rw [sumList_int]
  · have e12 := e1.trans e2
    have e13 := e12.trans e3
    have hw3 := hw2.mono e3
    refine s_retA (zs := loadM w h) (el_lst (ea_cons ev_c (ea_cons (ev_fn (ea_cons (ev_var rfl) (ea_cons (ev_var rfl) ea_nil)) (sv_load_of hw3 hh)) (ea_cons (ev_thf T hw3 hh (ev_var rfl) (ev_var rfl) T.nTca (fl := fun x => x.capacity) (z := iv (Vbtaac.capacityOf w h)) (fun x => th_capacity) (fun x hx => by unfold Vbtaac.capacityOf; rw [hx]))
      (ea_cons (ev_lenS (z := iv ((Vbtaac.objectNumbers w).filter (fun n => Vbtaac.isWithin w n h)).length) (ev_var rfl) (sq_of (e3 _ _ h2)) (by rw [List.length_map])) (ea_cons (ev_var rfl) ea_nil))))) (by show 5 ≤ 100000; decide)) (fun r H4 hr e4 h4 => k r H4 (fresh_back e13 hr) (e13.trans e4) h4) ?_
    rfl
theorem ok_up_to_common {g : Ctx} (T : Txt g) (D : DefAt g "up_to_common" s_up_to_common) : H_up_to_common g := by
  refine mk_def D sc_up_to_common (fun _ _ _ _ _ _ us hl => match us, hl with | [_, _], _ => rfl) (by rintro vs H Q E ⟨_, _, _, _, rfl, _⟩; rfl) fun f cdv A outer s H vs Q E hr h => ⟨_, (pss_cons (ps_set (i := 2) sc_up_to_common.nd rfl (Or.inl rfl) (pe_lst pa_nil)) (pss_cons (ps_for PassesOwn.never rfl (gi_list g.K (pv 0)) (pg_name (i := 3) sc_up_to_common.nd rfl (Or.inl rfl)) (pss_cons (ps_if (pt_cmpR (g_in g.K) (pv 3) (pv 1) (by rfl)) (pss_one (ps_ret (pv 2))) pss_nil) (pss_one (ps_expr (g_bm g.K PySem.F.plainAttrs_list PySem.F.slot_list_append PySem.F.type_list_append mt_append (pv 2) (pa_cons (pv 3) pa_nil)))))) (pss_one (ps_ret (pv 2))))), ?_⟩
  obtain ⟨p, q, l, m, rfl, hp, hq, hl, k⟩ := h
  refine q_asgL (el_lst ea_nil (Nat.zero_le _)) fun r H1 hr e1 h1 => ?_
  refine q_forLn (xs := nv l) (ev_var rfl) (sq_of (e1 _ _ hp))
    (fun i σ' H' => ∃ o : Option V, σ' = [some (.ref p), some (.ref q), some (.ref r), o] ∧ Ex H H' ∧ H' r = some (.lst (nv (l.take i))) ∧ (l.takeWhile fun h => !m.contains h) = l.take i ++ (l.drop i).takeWhile fun h => !m.contains h)
    (fun H2 e2 => ⟨none, rfl, e1.trans e2, by rw [List.take_zero]; exact e2 _ _ h1, rfl⟩) (fun i σ' H' _ ⟨_, _, e, _⟩ => sq_of (e _ _ hp)) (fun i v σ' H' hv ⟨o, hσ, e2, h2, he⟩ => ?_) (fun σ' H' ⟨o, hσ, e2, h2, he⟩ => ?_)
  · subst hσ
    obtain ⟨n, hn0, rfl⟩ := map_get hv
    obtain ⟨hil, hge⟩ := List.getElem?_eq_some_iff.mp hn0
    have hd : l.drop i = n :: l.drop (i + 1) := by rw [List.drop_eq_getElem_cons hil, hge]
    rw [hd, List.takeWhile_cons] at he
    refine q_when (b := m.contains n) (et_test ?_) (fun hb H3 e3 => ?_) (fun hb H3 e3 => ?_)
    · have := ev_inO (K := g.K) (H := H') (σ := [some (.ref p), some (.ref q), some (.ref r), some (iv n)]) (ta := tVar 3) (tb := tVar 1) (x := iv n) (ev_var rfl) (ev_var rfl) (sq_of (e2 _ _ hq)) rfl (nv_flat _)
      rw [inV_nv] at this
      exact this
    · rw [hb] at he
      have he : (l.takeWhile fun h => !m.contains h) = l.take i := by rw [he]; simp
      rw [he] at k
      exact s_ret (ev_var rfl) fun H4 e4 => k r H4 hr ((e2.trans e3).trans e4) (e4 _ _ (e3 _ _ h2))
    · rw [hb] at he
      refine s_app (e3 _ _ h2) (ev_var rfl) (ev_var rfl) ?_ fun H4 e4 => ⟨_, rfl, Ex.mut ((e2.trans e3).trans e4) hr, ?_, ?_⟩
      · rw [List.length_map, List.length_take]
        omega
      · rw [upd_same, take_more hn0]
        show some (HO.lst (nv (l.take i) ++ [iv n])) = some (HO.lst (nv (l.take i ++ [n])))
        rw [nv_snoc]
      · rw [he, take_more hn0]
        simp
  · subst hσ
    rw [List.length_map] at h2 he
    rw [List.drop_length, List.takeWhile_nil, List.append_nil] at he
    rw [he] at k
    exact s_ret (ev_var rfl) fun H4 e4 => k r H4 hr (e2.trans e4) (e4 _ _ h2)
theorem ok_compare_spaces {g : Ctx} (T : Txt g) (D : DefAt g "compare_spaces" s_compare_spaces) (C_enclosing : H_enclosing g) (C_with_length : H_with_length g) (C_up_to_common : H_up_to_common g) : H_compare_spaces g := by
  refine mk_def D sc_compare_spaces (fun _ _ _ _ _ _ us hl => match us, hl with | [_, _], _ => rfl) (by rintro vs H Q E ⟨_, _, _, _, rfl, _⟩; rfl) fun f cdv A outer s H vs Q E hr h => ⟨_, (pss_cons (ps_asg (pv 1) (gg_unl g.K (n := 2) (pgs_cons (pg_name (i := 2) sc_compare_spaces.nd rfl (Or.inl rfl)) (pgs_cons (pg_name (i := 3) sc_compare_spaces.nd rfl (Or.inl rfl)) pgs_nil)))) (pss_cons (ps_par (i := 4) (j := 5) rfl sc_compare_spaces.nd rfl rfl (by decide) rfl rfl (pa_cons (pe_fn C_enclosing hr (pa_cons (pv 0) (pa_cons (pv 2) pa_nil))) (pa_cons (pe_fn C_enclosing hr (pa_cons (pv 0) (pa_cons (pv 3) pa_nil))) pa_nil)) (by rfl)) (pss_cons (ps_set (i := 6) sc_compare_spaces.nd rfl (Or.inl rfl) (pe_lst (pa_cons pe_int (pa_cons (pe_callTy call_int1 (by rfl) T.int (by decide +kernel) (pa_cons (pe_cmpR op_eq (pe_ix (gx_list g.K) (pv 4) (pe_un un_neg pe_int) (fun _ _ => rfl)) (pe_ix (gx_list g.K) (pv 5) (pe_un un_neg pe_int) (fun _ _ => rfl)) (nomark _)) pa_nil)) pa_nil)))) (pss_one (ps_ret (pe_op op_cat (pe_op op_cat (pv 6) (pe_fn C_with_length hr (pa_cons (pe_fn C_up_to_common hr (pa_cons (pv 4) (pa_cons (pv 5) pa_nil))) pa_nil))) (pe_fn C_with_length hr (pa_cons (pe_fn C_up_to_common hr (pa_cons (pv 5) (pa_cons (pv 4) pa_nil))) pa_nil)))))))), ?_⟩
  obtain ⟨L, w, q, ms, rfl, hw, hq, hok, _, hz, k⟩ := h
  obtain ⟨a, b, rfl, ha, hb⟩ := oks2 hok (P := fun n m => ex w n ∧ ex w m) (fun _ _ o => o) (fun o => o) (fun _ o => o) (fun _ _ _ _ o => o)
  have k : RetL (an (compareM w a b)) H Q := k
  have hlx := enc_len2 (w := w) (Vbtaac.maxObjects + 1) (Vbtaac.spaceOf w a)
  have hly := enc_len2 (w := w) (Vbtaac.maxObjects + 1) (Vbtaac.spaceOf w b)
  have hm60 : Vbtaac.maxObjects = 60 := rfl
  have hne : ∀ n, Vbtaac.enclosingSpaces w (Vbtaac.maxObjects + 1) n ≠ [] := fun n => by
    show Vbtaac.enclosingSpaces w (60 + 1) n ≠ []
    unfold Vbtaac.enclosingSpaces
    split <;> intro z <;> cases z
  refine q_unl2 rfl hq ?_
  unfold compareM at k
  simp only [] at k
  obtain ⟨c, hc⟩ := last_ex (hne (Vbtaac.spaceOf w a))
  obtain ⟨d, hd⟩ := last_ex (hne (Vbtaac.spaceOf w b))
  refine q_parLL (el_fn (ea_cons (ev_var rfl) (ea_cons (ev_var rfl) ea_nil)) (sl_enclosing hw ha)) (el_fn (ea_cons (ev_var rfl) (ea_cons (ev_var rfl) ea_nil)) (sl_enclosing hw hb)) fun p r H1 e1 hp hr => ?_
  generalize Vbtaac.enclosingSpaces w (Vbtaac.maxObjects + 1) (Vbtaac.spaceOf w a) = x at *
  generalize Vbtaac.enclosingSpaces w (Vbtaac.maxObjects + 1) (Vbtaac.spaceOf w b) = y at *
  refine q_asgL (xs := [iv 0, V.int (Vbtaac.boolToInt (c == d))]) (el_lst (ea_cons ev_c (ea_cons (ev_int1 (ev_eq (ev_ix (ev_var rfl) (ev_un ev_c ru_neg) (sq_of hp) (last_at hc)) (ev_ix (ev_var rfl) (ev_un ev_c ru_neg) (sq_of hr) (last_at hd)) rfl iv_eq)) ea_nil)) (by show 2 ≤ 100000; decide)) fun t H2 ht e2 h2 => ?_
  have hp2 := e2 _ _ hp
  have hr2 := e2 _ _ hr
  have lw : ∀ (l m : List Nat), l.length ≤ 61 → (l.takeWhile fun h => !m.contains h).length ≤ 61 := fun l m hl => Nat.le_trans (List.takeWhile_prefix _).length_le hl
  have l1 := lw x y (by omega)
  have l2 := lw y x (by omega)
  have wu : ∀ (σ : L2.St) (i j : Nat) (u v : Addr) (l m : List Nat), σ[i]? = some (some (.ref u)) → σ[j]? = some (some (.ref v)) → H2 u = some (.lst (nv l)) → H2 v = some (.lst (nv m)) → l.length ≤ 61 → EvL (tCall (sp_with_length g) [] E0 (tCons (tCall (sp_up_to_common g) [] E0 (tCons (tVar i) (tCons (tVar j) tNil))) tNil)) σ H2 (an (lenL (l.takeWhile fun h => !m.contains h))) := fun σ i j u v l m s1 s2 hu hv hl H3 e3 Q k =>
    el_fn (sp := sp_up_to_common g) (ea_cons (ev_var s1) (ea_cons (ev_var s2) ea_nil)) (sl_upto hu hv (by omega)) H3 e3 _ fun z H4 hz e4 h4 => ⟨z, _, rfl, h4, by have := lw l m hl; omega, fun z2 H5 hz2 e5 h5 => k z2 H5 (fresh_back e4 hz2) (e4.trans e5) h5⟩
  refine s_retA (zs := 0 :: Vbtaac.boolToInt (x.getLast? == y.getLast?) :: (lenL (x.takeWhile fun h => !y.contains h) ++ lenL (y.takeWhile fun h => !x.contains h))) (el_catNN (el_catVN (ev_var rfl) h2 (wu _ 4 5 p r x y rfl rfl hp2 hr2 (by omega)) ?_) (wu _ 5 4 r p y x rfl rfl hr2 hp2 (by omega)) ?_) (fun z H3 hz3 e3 h3 => k z H3 (fresh_back (e1.trans e2) hz3) ((e1.trans e2).trans e3) h3) ?_
  · rw [List.length_map, lenL_len]
    show 2 + _ ≤ _
    omega
  · rw [List.length_append, List.length_map, List.length_map, lenL_len, lenL_len]
    show 2 + _ + _ ≤ _
    omega
  · rw [hc, hd, an_cons, an_cons, an_app]
    show _ = V.int 0 :: V.int (Vbtaac.boolToInt (c == d)) :: _
    rfl
theorem ok_list_windows {g : Ctx} (T : Txt g) (D : DefAt g "list_windows" s_list_windows) : H_list_windows g := by
  refine mk_def D sc_list_windows (fun _ _ _ _ _ _ us hl => match us, hl with | [_, _], _ => rfl) (by rintro vs H Q E ⟨_, _, _, _, rfl, _⟩; rfl) fun f cdv A outer s H vs Q E hr h => ⟨_, (pss_cons (ps_set (i := 2) sc_list_windows.nd rfl (Or.inl rfl) (pe_lst (pa_cons pe_int pa_nil))) (pss_cons (ps_for PassesOwn.never rfl (gi_list g.K (g_fld g.K (pv 0))) (gg_tup g.K (n := 3) (pgs_cons (pg_name (i := 3) sc_list_windows.nd rfl (Or.inl rfl)) (pgs_cons (pg_name (i := 4) sc_list_windows.nd rfl (Or.inl rfl)) (pgs_cons (pg_name (i := 5) sc_list_windows.nd rfl (Or.inl rfl)) pgs_nil)))) (pss_one (ps_expr (g_bm g.K PySem.F.plainAttrs_list PySem.F.slot_list_extend PySem.F.type_list_extend mt_extend (pv 2) (pa_cons (pe_lst (pa_cons (pv 3) (pa_cons (pv 4) (pa_cons (pv 5) pa_nil)))) pa_nil))))) (pss_one (ps_ret (pv 2))))), ?_⟩
  obtain ⟨L, w, q, ms, rfl, hw, hq, hok, _, hz, k⟩ := h
  have e0 : ms = [] := by
    match ms, hok with
    | [], _ => rfl
    | a :: r, o => exact False.elim o
  subst e0
  have k : RetL (an (windowsM w)) H Q := k
  unfold windowsM at k
  obtain ⟨dx, lw, ws, a1, a2, a3, a4, a5⟩ := hw.at_.ex
  have hwl : ws.length ≤ 1000 := by
    have := congrArg List.length a4
    rw [List.length_map] at this
    rw [this]
    exact hw.win
  refine q_asgL (el_lst (ea_cons ev_c ea_nil) (by show 1 ≤ 100000; decide)) fun p H1 hp e1 h1 => ?_
  refine q_forL (xs := ws.map fun q => V.ref q.1) (ev_fld (ev_var rfl) (e1 _ _ a1) T.clW T.nWwi wo_windows) (sq_of (e1 _ _ a3))
    (fun i σ' H' => ∃ o1 o2 o3 : Option V, σ' = [some (.ref L.a), some (.ref q), some (.ref p), o1, o2, o3] ∧ Ex H H' ∧ H' p = some (.lst (an (0 :: (w.windows.take i).flatMap fun x => [(x.first : Int), (x.second : Int), (x.kind : Int)]))))
    (fun H2 e2 => ⟨none, none, none, rfl, e1.trans e2, e2 _ _ h1⟩) (fun i σ' H' _ ⟨_, _, _, _, e, _⟩ => sq_of (e _ _ a3)) (fun i v σ' H' hv ⟨o1, o2, o3, hσ, e2, h2⟩ => ?_) (fun σ' H' ⟨o1, o2, o3, hσ, e2, h2⟩ => ?_)
  · subst hσ
    obtain ⟨u, hu, rfl⟩ := map_get hv
    have hu2 : w.windows[i]? = some u.2 := by rw [← a4, List.getElem?_map, hu]; rfl
    have hu3 := e2 _ _ (a5 u (List.mem_of_getElem? hu))
    refine ⟨u.1, _, rfl, st_of hu3, rfl, _, _, rfl, _, _, rfl, _, _, rfl, rfl, ?_⟩
    refine s_ext h2 (ev_var rfl) (el_lst (ea_cons (ev_var rfl) (ea_cons (ev_var rfl) (ea_cons (ev_var rfl) ea_nil))) (by show 3 ≤ 100000; decide)) ?_ (fun H5 e5 => ⟨_, _, _, rfl, Ex.mut (e2.trans e5) hp, ?_⟩)
    · have hb : ((w.windows.take i).flatMap fun x => [(x.first : Int), (x.second : Int), (x.kind : Int)]).length ≤ 3 * (w.windows.take i).length := flat_len (c := 3) (fun x => by show 3 ≤ 3; exact Nat.le_refl 3) _
      have h2 : (w.windows.take i).length ≤ w.windows.length := List.length_take_le' _ _
      have := hw.win
      rw [List.length_map, List.length_cons]
      refine Nat.le_trans (Nat.add_le_add_right (Nat.succ_le_succ hb) 3) ?_
      omega
    · rw [upd_same, flatMap_more hu2]
      show some (HO.lst (an _ ++ an [(u.2.first : Int), (u.2.second : Int), (u.2.kind : Int)])) = _
      rw [← an_app]
      rfl
  · subst hσ
    have hl : w.windows.length = ws.length := by rw [← a4, List.length_map]
    rw [List.length_map, ← hl, List.take_length] at h2
    exact s_ret (ev_var rfl) fun H4 e4 => k p H4 hp (e2.trans e4) (e4 _ _ h2)
end Sg
set_option Elab.async false
set_option linter.all false
set_option maxRecDepth 100000
set_option maxHeartbeats 4000000
/-! SgC1: the defs of changes. -/
namespace Sg
open PySem PySem.Spec PyProof.Rows L2 Evl

section
variable {w : Wd} {k : Nat} {ms : List Nat}
theorem oks4 (o : okM w k ms) {P : Nat → Nat → Nat → Nat → Prop} (h : ∀ n m l j, okM w k [n, m, l, j] → P n m l j) (h0 : okM w k [] → False) (h1 : ∀ n, okM w k [n] → False) (h2 : ∀ n m, okM w k [n, m] → False) (h3 : ∀ n m l, okM w k [n, m, l] → False) (h4 : ∀ a b c d e r, okM w k (a :: b :: c :: d :: e :: r) → False) : ∃ n m l j, ms = [n, m, l, j] ∧ P n m l j := by
  match ms, o with
  | [], o => exact (h0 o).elim
  | [n], o => exact (h1 n o).elim
  | [n, m], o => exact (h2 n m o).elim
  | [n, m, l], o => exact (h3 n m l o).elim
  | [n, m, l, j], o => exact ⟨n, m, l, j, rfl, h n m l j o⟩
  | a :: b :: c :: d :: e :: r, o => exact (h4 a b c d e r o).elim
theorem oks5 (o : okM w k ms) {P : Nat → Nat → Nat → Nat → Nat → Prop} (h : ∀ n m l j i, okM w k [n, m, l, j, i] → P n m l j i) (h0 : okM w k [] → False) (h1 : ∀ n, okM w k [n] → False) (h2 : ∀ n m, okM w k [n, m] → False) (h3 : ∀ n m l, okM w k [n, m, l] → False) (h5 : ∀ n m l j, okM w k [n, m, l, j] → False) (h4 : ∀ a b c d e f r, okM w k (a :: b :: c :: d :: e :: f :: r) → False) : ∃ n m l j i, ms = [n, m, l, j, i] ∧ P n m l j i := by
  match ms, o with
  | [], o => exact (h0 o).elim
  | [n], o => exact (h1 n o).elim
  | [n, m], o => exact (h2 n m o).elim
  | [n, m, l], o => exact (h3 n m l o).elim
  | [n, m, l, j], o => exact (h5 n m l j o).elim
  | [n, m, l, j, i], o => exact ⟨n, m, l, j, i, rfl, h n m l j i o⟩
  | a :: b :: c :: d :: e :: f :: r, o => exact (h4 a b c d e f r o).elim
end
section
variable {g : Ctx} {L : Lay} {H H1 : Hp} {w w' : Wd} {σ : L2.St} {ta tb tc td te : TE} {tr : TA} {D : Ends} {tz : TS} {m : Str} {sp : Sp} {E E' E2 E3 : XK} {vs ys : List V} {zs : List Int} {v : Nat}
theorem s_retM (k : RetO g L w' zs H D.rt) (hw : WAt g L H1 w') (kp : Keep L H H1) (h : EvL te σ H1 ys) (he : ys = an zs) : tRet te D σ H1 := s_retL h fun p H2 hp e2 h2 => k.go rfl rfl hw kp hp e2 (by rw [h2, he])
/-- a method that changes the world -/
theorem q_mut (hw : WG g L H w) (ha : Ev ta σ H (.ref L.a)) (hm : ∀ lt lw, (woF lt lw).lookup m = none) (hr : EvA tr σ H vs) (hs : ∀ H1, Ex H H1 → ∀ Q : VK, (∀ H2, WAt g L H2 w' → Keep L H1 H2 → Q .non H2) → sp (.ref L.a :: (vs ++ [])) H1 Q E) (k : ∀ H2, WAt g L H2 w' → Keep L H H2 → tz D σ H2) :
    tSeq (tDrop (tMeth g.CW m sp [] E ta tr)) tz D σ H := by
  obtain ⟨dx, lw, h1⟩ := hw.at_.ins
  exact ha H (Ex.refl H) _ fun H1 e1 => ⟨L.a, dx, _, rfl, e1 _ _ h1, hm _ _, hr H1 e1 _ fun H2 e2 => hs H2 (e1.trans e2) _ fun H3 hw3 kp => k H3 hw3 ((Keep.of (e1.trans e2)).trans kp)⟩
theorem WAt.its_some (h : WAt g L H w) {t : Addr} (ht : t ∈ L.its) : ∃ o, H t = some o := by
  obtain ⟨i, hi⟩ := List.getElem?_of_mem ht
  have hlt := (List.getElem?_eq_some_iff.mp hi).1
  rw [h.len] at hlt
  obtain ⟨u, dt, b1, b2⟩ := h.th i _ (List.getElem?_eq_getElem hlt)
  have e : u = t := Option.some.inj (b1.symm.trans hi)
  rw [e] at b2
  exact ⟨_, b2⟩
/-- [0, world.take_in(Thing(..))] -/
theorem s_take (x : Ob) (k : RetO g L { w with objects := w.objects ++ [x] } [0, ((Vbtaac.objectCount w + 1 : Nat) : Int)] H D.rt) (hw : WG g L H1 w) (kp : Keep L H H1) (ha : Ev ta σ H1 (.ref L.a)) (hr : EvA tr σ H1 [iv x.holder, iv x.relation, iv x.properties, iv x.bulk, iv x.capacity]) :
    tRet (tLst (tCons (tC (.int 0)) (tCons (tMeth g.CW "take_in" (sp_World_take_in g) [] E ta (tCons (tMake g.CT (sp_Thing_init g) [] E' tr) tNil)) tNil))) D σ H1 := by
  obtain ⟨dx, lw, h1⟩ := hw.at_.ins
  refine ha H1 (Ex.refl H1) _ fun H2 e2 => ⟨L.a, dx, _, rfl, e2 _ _ h1, wo_none, hr H2 e2 _ fun H3 e3 => fun t dt ht hdt hne => ?_⟩
  refine ⟨t, dt, x, rfl, upd_same, fun H4 h4 hk => ⟨rfl, ?_⟩⟩
  have e4 : Ex H3 H4 := fun b o hb => hk b o (by
    have n1 : b ≠ t := fun z => by rw [z, ht] at hb; cases hb
    have n2 : b ≠ dt := fun z => by rw [z, hdt] at hb; cases hb
    rw [upd_ne n1, upd_ne n2]
    exact hb) (fun z => by rw [z, ht] at hb; cases hb)
  have e14 := (e2.trans e3).trans e4
  refine ⟨L, w, t, dt, x, rfl, hw.mono e14, h4, fun z => ?_, fun H5 hw5 kp5 => ⟨by show 2 ≤ sizeLine; decide, fun p hp => ?_⟩⟩
  · obtain ⟨o, ho⟩ := (hw.mono (e2.trans e3)).at_.its_some z
    rw [ho] at ht
    cases ht
  · exact k.go (L' := ⟨L.a, L.lt, L.its ++ [t]⟩) rfl rfl hw5 ((kp.trans (Keep.of e14)).trans kp5) hp (Ex.new hp) upd_same
theorem el_hands (hw : WG g L H w) (hv : ex w v) (ha : Ev ta σ H (.ref L.a)) (hb : Ev tb σ H (mv 2)) (hc : Ev tc σ H (.ref L.a)) (hd : Ev td σ H (iv v)) :
    EvL (tCall (sp_reached_from g) [] E (tCons (tCall (sp_links_for g) [] E2 (tCons ta (tCons tb tNil))) (tCons (tLst (tCons (tCall (sp_lies_in g) [] E3 (tCons tc (tCons td tNil))) tNil)) tNil))) σ H (nv (Vbtaac.reachableSpaces w 2 [Vbtaac.spaceOf w v])) := fun H1 e Q k =>
  ep_links hw (by decide) ha hb H1 e _ fun z H2 e2 ⟨p, Ls, hz, rL, bL, hL⟩ => by
    subst hz
    exact (el_lst (ea_cons (ev_fn (ea_cons hc (ea_cons hd ea_nil)) (sv_lies_in hw hv)) ea_nil) (by show 1 ≤ 100000; decide)) H2 (e.trans e2) _ fun c H3 hc e3 h3 => ⟨p, c, Ls, [Vbtaac.spaceOf w v], rfl, hL.mono e3, rL.ok hw.good, h3, spc_lt hw.good rL hv, by show 1 ≤ 100; decide, fun r H4 hr e4 h4 =>
      k r H4 (fresh_back (e2.trans e3) hr) ((e2.trans e3).trans e4) (by rw [rL.reach] at h4; exact h4)⟩
end
theorem bl_eq {a b : Bool} : decide (V.bl a = V.bl b) = (a == b) := by cases a <;> cases b <;> rfl

theorem ok_is_kept_back {g : Ctx} (T : Txt g) (D : DefAt g "is_kept_back" s_is_kept_back) (C_World_thing : H_World_thing g) : H_is_kept_back g := by
  refine mk_def D sc_is_kept_back (fun _ _ _ _ _ _ us hl => match us, hl with | [_, _, _], _ => rfl) (by rintro vs H Q E ⟨_, _, _, _, rfl, _⟩; rfl) fun f cdv A outer s H vs Q E hr h => ⟨_, (pss_cons (ps_set (i := 3) sc_is_kept_back.nd rfl (Or.inl rfl) (pe_md C_World_thing T.clW hr (pv 0) (pa_cons (pv 2) pa_nil))) (pss_cons (ps_if (pt_cmpR op_eq (g_fld g.K (pv 3)) (pe_kn T.cPART) (nomark _)) (pss_one (ps_ret pe_bl)) pss_nil) (pss_one (ps_ret (pe_and (pe_cmpR op_ge (g_fld g.K (pv 3)) (pe_kn T.cHELD) (nomark _)) (pe_one (pe_cmpR op_ne (g_fld g.K (pv 3)) (pv 1) (nomark _)))))))), ?_⟩
  obtain ⟨L, w, v, x, rfl, hw, hx, k⟩ := h
  obtain ⟨t, dt, o, ho, ht1, ht2⟩ := thing_at hw hx
  unfold keptM at k
  rw [relation_at ho, holder_at ho] at k
  refine q_asg (ev_wm hw.at_ (ev_var rfl) (fun _ _ => wo_none) (ea_cons (ev_var rfl) ea_nil) (sv_thing hw hx.1 ht1)) fun H1 e1 => ?_
  refine q_when (b := o.relation == 5) (et_test (ev_eq (y := iv 5) (ev_fld (ev_var rfl) (ht2 _ e1) T.clT T.nTre th_relation) ev_c rfl iv_eq)) (fun hb H2 e2 => ?_) (fun hb H2 e2 => ?_)
  · rw [hb, Bool.true_or] at k
    exact s_ret ev_c fun H3 e3 => k H3 ((e1.trans e2).trans e3)
  · rw [hb, Bool.false_or] at k
    refine s_ret (ev_andV (ev_I (ev_fld (ev_var rfl) (ht2 _ (e1.trans e2)) T.clT T.nTre th_relation) ev_c (z := .bl (decide (3 ≤ o.relation))) ?_) (fun _ => ev_ne (y := iv v) (b := o.holder != v) (ev_fld (ev_var rfl) (ht2 _ (e1.trans e2)) T.clT T.nTho th_holder) (ev_var rfl) rfl (by rw [iv_eq]; rfl))) fun H3 e3 => k H3 ((e1.trans e2).trans e3)
    refine congrArg V.bl ?_
    rw [Bool.eq_iff_iff, decide_eq_true_iff, decide_eq_true_iff]
    omega
theorem ok_is_held_by {g : Ctx} (T : Txt g) (D : DefAt g "is_held_by" s_is_held_by) (C_World_thing : H_World_thing g) : H_is_held_by g := by
  refine mk_def D sc_is_held_by (fun _ _ _ _ _ _ us hl => match us, hl with | [_, _, _], _ => rfl) (by rintro vs H Q E ⟨_, _, _, _, rfl, _⟩; rfl) fun f cdv A outer s H vs Q E hr h => ⟨_, (pss_cons (ps_set (i := 3) sc_is_held_by.nd rfl (Or.inl rfl) (pe_md C_World_thing T.clW hr (pv 0) (pa_cons (pv 2) pa_nil))) (pss_one (ps_ret (pe_and (pe_cmpR op_eq (g_fld g.K (pv 3)) (pv 1) (nomark _)) (pe_one (pe_cmpR op_eq (g_fld g.K (pv 3)) (pe_kn T.cHELD) (nomark _))))))), ?_⟩
  obtain ⟨L, w, v, x, rfl, hw, hx, k⟩ := h
  obtain ⟨t, dt, o, ho, ht1, ht2⟩ := thing_at hw hx
  unfold heldM at k
  rw [relation_at ho, holder_at ho] at k
  refine q_asg (ev_wm hw.at_ (ev_var rfl) (fun _ _ => wo_none) (ea_cons (ev_var rfl) ea_nil) (sv_thing hw hx.1 ht1)) fun H1 e1 => ?_
  exact s_ret (ev_andV (ev_eq (y := iv v) (ev_fld (ev_var rfl) (ht2 _ e1) T.clT T.nTho th_holder) (ev_var rfl) rfl iv_eq) (fun _ => ev_eq (y := iv 3) (ev_fld (ev_var rfl) (ht2 _ e1) T.clT T.nTre th_relation) ev_c rfl iv_eq)) fun H3 e3 => k H3 (e1.trans e3)
theorem ok_does_fit {g : Ctx} (T : Txt g) (D : DefAt g "does_fit" s_does_fit) (C_can_hold : H_can_hold g) (C_reached_from : H_reached_from g) (C_links_for : H_links_for g) (C_lies_in : H_lies_in g) : H_does_fit g := by
  refine mk_def D sc_does_fit (fun _ _ _ _ _ _ us hl => match us, hl with | [_, _, _, _], _ => rfl) (by rintro vs H Q E ⟨_, _, _, _, _, rfl, _⟩; rfl) fun f cdv A outer s H vs Q E hr h => ⟨_, (pss_cons (ps_if (pt_not (pt_val (pe_fn C_can_hold hr (pa_cons (pv 0) (pa_cons (pv 2) (pa_cons (pv 3) pa_nil)))))) (pss_one (ps_ret pe_bl)) pss_nil) (pss_one (ps_ret (pe_or (pe_cmpR op_ne (pv 3) (pe_kn T.cINSIDE) (nomark _)) (pe_one (pe_cmpR (g_in g.K) (pv 2) (pe_fn C_reached_from hr (pa_cons (pe_fn C_links_for hr (pa_cons (pv 0) (pa_cons (pe_kn T.cHANDS) pa_nil))) (pa_cons (pe_lst (pa_cons (pe_fn C_lies_in hr (pa_cons (pv 0) (pa_cons (pv 1) pa_nil))) pa_nil)) pa_nil))) (by rfl))))))), ?_⟩
  obtain ⟨L, w, v, h, r, rfl, hw, hv, hh, hr1, k⟩ := h
  unfold fitsM at k
  refine q_when (b := !Vbtaac.canHold w h r) (et_not (et_test (ev_fn (ea_cons (ev_var rfl) (ea_cons (ev_var rfl) (ea_cons (ev_var rfl) ea_nil))) (sv_can_hold hw hh hr1)))) (fun hb H1 e1 => ?_) (fun hb H1 e1 => ?_)
  · rw [Bool.not_eq_true'] at hb
    rw [hb, Bool.false_and] at k
    exact s_ret ev_c fun H3 e3 => k H3 (e1.trans e3)
  · rw [Bool.not_eq_false'] at hb
    rw [hb, Bool.true_and] at k
    have hw1 := hw.mono e1
    refine s_ret (ev_orV (ev_ne (y := iv 1) (b := r != 1) (ev_var rfl) ev_c rfl (by rw [iv_eq]; rfl)) (fun _ => ?_)) fun H3 e3 => k H3 (e1.trans e3)
    have := ev_inN (K := g.K) (H := H1) (σ := L2.start ["world", "v", "h", "relation"] [.ref L.a, iv v, iv h, iv r]) (ta := tVar 2) (x := iv h) (ev_var rfl) (el_hands (E := E0) (E2 := E0) (E3 := E0) (ta := tVar 0) (tb := tC (.int 3)) (tc := tVar 0) (td := tVar 1) hw1 hv (ev_var rfl) ev_c (ev_var rfl) (ev_var rfl)) rfl (nv_flat _)
    rw [inV_nv] at this
    exact this
theorem ok_add_place {g : Ctx} (T : Txt g) (D : DefAt g "add_place" s_add_place) (C_World_many : H_World_many g) (C_World_take_in : H_World_take_in g) (C_Thing_init : H_Thing_init g) : H_add_place g := by
  refine mk_def D sc_add_place (fun _ _ _ _ _ _ us hl => match us, hl with | [_, _], _ => rfl) (by rintro vs H Q E ⟨_, _, _, _, rfl, _⟩; rfl) fun f cdv A outer s H vs Q E hr h => ⟨_, (pss_cons (ps_set (i := 2) sc_add_place.nd rfl (Or.inl rfl) (pe_ix (gx_list g.K) (pv 1) pe_int (fun _ _ => rfl))) (pss_cons (ps_if (pt_cmpR op_eq (pe_md0 C_World_many T.clW hr (pv 0)) (pe_kn T.cMOST_THINGS) (nomark _)) (pss_one (ps_ret (pe_lst (pa_cons (pe_un un_neg pe_int) pa_nil)))) pss_nil) (pss_one (ps_ret (pe_lst (pa_cons pe_int (pa_cons (pe_md C_World_take_in T.clW hr (pv 0) (pa_cons (pe_mk C_Thing_init hr (pa_cons pe_int (pa_cons pe_int (pa_cons (pe_op op_mul (pe_kn T.cLUMINOUS) (pv 2)) (pa_cons pe_int (pa_cons pe_int pa_nil)))))) pa_nil)) pa_nil))))))), ?_⟩
  obtain ⟨L, w, q, ms, rfl, hw, hq, hok, _, k⟩ := h
  obtain ⟨f, rfl, hf⟩ := oks1 hok (P := fun n => n ≤ 1) (fun _ o => o) (fun o => o) (fun _ _ _ o => o)
  have k : RetO g L (addPlaceM w f).1 (addPlaceM w f).2 H Q := k
  unfold addPlaceM at k
  refine q_asg (ev_first rfl hq) fun H1 e1 => ?_
  have hw1 := hw.mono e1
  refine q_when (b := Vbtaac.objectCount w == 60) (et_test (ev_eq (y := iv 60) (ev_wm hw1.at_ (ev_var rfl) (fun _ _ => wo_none) ea_nil (sv_many hw1)) ev_c rfl iv_eq)) (fun hb H2 e2 => ?_) (fun hb H2 e2 => ?_)
  · rw [beq_iff_eq] at hb
    rw [if_pos hb] at k
    exact s_retM k (hw1.mono e2).at_ (Keep.of (e1.trans e2)) (el_lst (ea_cons (ev_un ev_c ru_neg) ea_nil) (by show 1 ≤ 100000; decide)) rfl
  · rw [beq_eq_false_iff_ne] at hb
    rw [if_neg hb] at k
    exact s_take ⟨0, 0, 64 * f, 0, 0⟩ k (hw1.mono e2) (Keep.of (e1.trans e2)) (ev_var rfl) (ea_cons ev_c (ea_cons ev_c (ea_cons (ev_IC (i := 64) (j := (f : Int)) ev_c (ev_var rfl) (Or.inl ⟨by decide, by decide⟩) (congrArg V.int (by show (64 : Int) * (f : Int) = ((64 * f : Nat) : Int); omega))) (ea_cons ev_c (ea_cons ev_c ea_nil)))))
theorem ok_add_object {g : Ctx} (T : Txt g) (D : DefAt g "add_object" s_add_object) (C_is_too_much : H_is_too_much g) (C_World_many : H_World_many g) (C_can_hold : H_can_hold g) (C_World_take_in : H_World_take_in g) (C_Thing_init : H_Thing_init g) (C_load_of : H_load_of g) : H_add_object g := by
  refine mk_def D sc_add_object (fun _ _ _ _ _ _ us hl => match us, hl with | [_, _], _ => rfl) (by rintro vs H Q E ⟨_, _, _, _, rfl, _⟩; rfl) fun f cdv A outer s H vs Q E hr h => ⟨_, (pss_cons (ps_asg (pv 1) (gg_unl g.K (n := 5) (pgs_cons (pg_name (i := 2) sc_add_object.nd rfl (Or.inl rfl)) (pgs_cons (pg_name (i := 3) sc_add_object.nd rfl (Or.inl rfl)) (pgs_cons (pg_name (i := 4) sc_add_object.nd rfl (Or.inl rfl)) (pgs_cons (pg_name (i := 5) sc_add_object.nd rfl (Or.inl rfl)) (pgs_cons (pg_name (i := 6) sc_add_object.nd rfl (Or.inl rfl)) pgs_nil))))))) (pss_cons (ps_if (PW.pt (pw_and (pt_cmpR op_le (pv 3) (pe_kn T.cHELD) (nomark _)) (pw_and1 (pt_val (pe_fn C_is_too_much hr (pa_cons (pv 0) (pa_cons (pv 2) (pa_cons (pe_op op_add (pe_fn C_load_of hr (pa_cons (pv 0) (pa_cons (pv 2) pa_nil))) (pv 5)) pa_nil)))))))) (pss_one (ps_ret (pe_lst (pa_cons (pe_un un_neg pe_int) pa_nil)))) pss_nil) (pss_cons (ps_if (pt_cmpR op_eq (pe_md0 C_World_many T.clW hr (pv 0)) (pe_kn T.cMOST_THINGS) (nomark _)) (pss_one (ps_ret (pe_lst (pa_cons (pe_un un_neg pe_int) pa_nil)))) pss_nil) (pss_cons (ps_if (pt_not (pt_val (pe_fn C_can_hold hr (pa_cons (pv 0) (pa_cons (pv 2) (pa_cons (pv 3) pa_nil)))))) (pss_one (ps_ret (pe_lst (pa_cons (pe_un un_neg pe_int) pa_nil)))) pss_nil) (pss_one (ps_ret (pe_lst (pa_cons pe_int (pa_cons (pe_md C_World_take_in T.clW hr (pv 0) (pa_cons (pe_mk C_Thing_init hr (pa_cons (pv 2) (pa_cons (pv 3) (pa_cons (pv 4) (pa_cons (pv 5) (pa_cons (pv 6) pa_nil)))))) pa_nil)) pa_nil))))))))), ?_⟩
  obtain ⟨L, w, q, ms, rfl, hw, hq, hok, _, k⟩ := h
  obtain ⟨h, r, b, l, m, rfl, hh, hr1, hb1, hl1, hm1⟩ := oks5 hok (P := fun h r b k m => ex w h ∧ (1 ≤ r ∧ r ≤ 5) ∧ b ≤ 127 ∧ k ≤ 1000000 ∧ m ≤ 1000000) (fun _ _ _ _ _ o => o) (fun o => o) (fun _ o => o) (fun _ _ o => o) (fun _ _ _ o => o) (fun _ _ _ _ o => o) (fun _ _ _ _ _ _ _ o => o)
  have k : RetO g L (addObjM w h r b l m).1 (addObjM w h r b l m).2 H Q := k
  unfold addObjM at k
  refine q_unl5 rfl hq ?_
  refine q_when (b := decide (r ≤ 3) && muchM w h (Vbtaac.loadOf w h + l)) (et_and (et_test (ev_I (z := .bl (decide (r ≤ 3))) (ev_var rfl) ev_c (congrArg V.bl (by rw [Bool.eq_iff_iff, decide_eq_true_iff, decide_eq_true_iff]; omega))))
    (fun _ => et_test (ev_fn (ea_cons (ev_var rfl) (ea_cons (ev_var rfl) (ea_cons (ev_I (z := iv (Vbtaac.loadOf w h + l)) (ev_fn (ea_cons (ev_var rfl) (ea_cons (ev_var rfl) ea_nil)) (sv_load_of hw hh)) (ev_var rfl) (congrArg V.int (by omega))) ea_nil))) (sv_too_much hw hh)))) (fun hb H1 e1 => ?_) (fun hb H1 e1 => ?_)
  · unfold muchM at hb
    rw [if_pos hb] at k
    exact s_retM k (hw.mono e1).at_ (Keep.of e1) (el_lst (ea_cons (ev_un ev_c ru_neg) ea_nil) (by show 1 ≤ 100000; decide)) rfl
  · unfold muchM at hb
    rw [if_neg (by rw [hb]; exact Bool.false_ne_true)] at k
    have hw1 := hw.mono e1
    refine q_when (b := Vbtaac.objectCount w == 60) (et_test (ev_eq (y := iv 60) (ev_wm hw1.at_ (ev_var rfl) (fun _ _ => wo_none) ea_nil (sv_many hw1)) ev_c rfl iv_eq)) (fun hb H2 e2 => ?_) (fun hb H2 e2 => ?_)
    · rw [beq_iff_eq] at hb
      rw [if_pos hb] at k
      exact s_retM k (hw1.mono e2).at_ (Keep.of (e1.trans e2)) (el_lst (ea_cons (ev_un ev_c ru_neg) ea_nil) (by show 1 ≤ 100000; decide)) rfl
    · rw [beq_eq_false_iff_ne] at hb
      rw [if_neg hb] at k
      have hw2 := hw1.mono e2
      refine q_when (b := !Vbtaac.canHold w h r) (et_not (et_test (ev_fn (ea_cons (ev_var rfl) (ea_cons (ev_var rfl) (ea_cons (ev_var rfl) ea_nil))) (sv_can_hold hw2 hh hr1)))) (fun hb H3 e3 => ?_) (fun hb H3 e3 => ?_)
      · rw [Bool.not_eq_true'] at hb
        rw [if_pos hb] at k
        exact s_retM k (hw2.mono e3).at_ (Keep.of ((e1.trans e2).trans e3)) (el_lst (ea_cons (ev_un ev_c ru_neg) ea_nil) (by show 1 ≤ 100000; decide)) rfl
      · rw [Bool.not_eq_false'] at hb
        rw [if_neg (by rw [hb]; exact Bool.noConfusion)] at k
        exact s_take ⟨h, r, b, l, m⟩ k (hw2.mono e3) (Keep.of ((e1.trans e2).trans e3)) (ev_var rfl) (ea_cons (ev_var rfl) (ea_cons (ev_var rfl) (ea_cons (ev_var rfl) (ea_cons (ev_var rfl) (ea_cons (ev_var rfl) ea_nil)))))
theorem ok_move_object {g : Ctx} (T : Txt g) (D : DefAt g "move_object" s_move_object) (C_would_exceed : H_would_exceed g) (C_World_hand_to : H_World_hand_to g) (C_World_is_place : H_World_is_place g) (C_is_within : H_is_within g) (C_can_hold : H_can_hold g) : H_move_object g := by
  refine mk_def D sc_move_object (fun _ _ _ _ _ _ us hl => match us, hl with | [_, _], _ => rfl) (by rintro vs H Q E ⟨_, _, _, _, rfl, _⟩; rfl) fun f cdv A outer s H vs Q E hr h => ⟨_, (pss_cons (ps_asg (pv 1) (gg_unl g.K (n := 3) (pgs_cons (pg_name (i := 2) sc_move_object.nd rfl (Or.inl rfl)) (pgs_cons (pg_name (i := 3) sc_move_object.nd rfl (Or.inl rfl)) (pgs_cons (pg_name (i := 4) sc_move_object.nd rfl (Or.inl rfl)) pgs_nil))))) (pss_cons (ps_if (PW.pt (pw_or (pt_val (pe_md C_World_is_place T.clW hr (pv 0) (pa_cons (pv 2) pa_nil))) (pw_or (pt_cmpR op_eq (pv 3) (pv 2) (nomark _)) (pw_or1 (pt_val (pe_fn C_is_within hr (pa_cons (pv 0) (pa_cons (pv 3) (pa_cons (pv 2) pa_nil))))))))) (pss_one (ps_ret (pe_lst (pa_cons (pe_un un_neg pe_int) pa_nil)))) pss_nil) (pss_cons (ps_if (pt_val (pe_fn C_would_exceed hr (pa_cons (pv 0) (pa_cons (pv 2) (pa_cons (pv 3) (pa_cons (pv 4) pa_nil)))))) (pss_one (ps_ret (pe_lst (pa_cons (pe_un un_neg pe_int) pa_nil)))) pss_nil) (pss_cons (ps_if (pt_not (pt_val (pe_fn C_can_hold hr (pa_cons (pv 0) (pa_cons (pv 3) (pa_cons (pv 4) pa_nil)))))) (pss_one (ps_ret (pe_lst (pa_cons (pe_un un_neg pe_int) pa_nil)))) pss_nil) (pss_cons (ps_expr (pe_md C_World_hand_to T.clW hr (pv 0) (pa_cons (pv 2) (pa_cons (pv 3) (pa_cons (pv 4) pa_nil))))) (pss_one (ps_ret (pe_lst (pa_cons pe_int pa_nil))))))))), ?_⟩
  obtain ⟨L, w, q, ms, rfl, hw, hq, hok, _, k⟩ := h
  obtain ⟨n, h, r, rfl, hn, hh, hr1⟩ := oks3 hok (P := fun n h r => ex w n ∧ ex w h ∧ 1 ≤ r ∧ r ≤ 5) (fun _ _ _ o => o) (fun o => o) (fun _ o => o) (fun _ _ o => o) (fun _ _ _ _ _ o => o)
  have k : RetO g L (moveM w n h r).1 (moveM w n h r).2 H Q := k
  unfold moveM at k
  refine q_unl3 rfl hq ?_
  refine q_when (b := Vbtaac.isPlace w n || (h == n || Vbtaac.isWithin w h n)) (et_or (et_test (ev_wm hw.at_ (ev_var rfl) (fun _ _ => wo_none) (ea_cons (ev_var rfl) ea_nil) (sv_is_place hw hn))) (fun _ => et_or (et_test (ev_eq (y := iv n) (ev_var rfl) (ev_var rfl) rfl iv_eq))
    (fun _ => et_test (ev_fn (ea_cons (ev_var rfl) (ea_cons (ev_var rfl) (ea_cons (ev_var rfl) ea_nil))) (sv_is_within hw hh))))) (fun hb H1 e1 => ?_) (fun hb H1 e1 => ?_)
  · rw [if_pos hb] at k
    exact s_retM k (hw.mono e1).at_ (Keep.of e1) (el_lst (ea_cons (ev_un ev_c ru_neg) ea_nil) (by show 1 ≤ 100000; decide)) rfl
  rw [if_neg (by rw [hb]; exact Bool.false_ne_true)] at k
  have hw1 := hw.mono e1
  refine q_when (b := !Vbtaac.hasCapacity w h r n) (et_test (ev_fn (ea_cons (ev_var rfl) (ea_cons (ev_var rfl) (ea_cons (ev_var rfl) (ea_cons (ev_var rfl) ea_nil)))) (sv_would_exceed hw1 hn hh hr1.1))) (fun hb H2 e2 => ?_) (fun hb H2 e2 => ?_)
  · rw [Bool.not_eq_true'] at hb
    rw [if_pos hb] at k
    exact s_retM k (hw1.mono e2).at_ (Keep.of (e1.trans e2)) (el_lst (ea_cons (ev_un ev_c ru_neg) ea_nil) (by show 1 ≤ 100000; decide)) rfl
  rw [Bool.not_eq_false'] at hb
  rw [if_neg (by rw [hb]; exact Bool.noConfusion)] at k
  have hw2 := hw1.mono e2
  refine q_when (b := !Vbtaac.canHold w h r) (et_not (et_test (ev_fn (ea_cons (ev_var rfl) (ea_cons (ev_var rfl) (ea_cons (ev_var rfl) ea_nil))) (sv_can_hold hw2 hh hr1)))) (fun hb H3 e3 => ?_) (fun hb H3 e3 => ?_)
  · rw [Bool.not_eq_true'] at hb
    rw [if_pos hb] at k
    exact s_retM k (hw2.mono e3).at_ (Keep.of ((e1.trans e2).trans e3)) (el_lst (ea_cons (ev_un ev_c ru_neg) ea_nil) (by show 1 ≤ 100000; decide)) rfl
  rw [Bool.not_eq_false'] at hb
  rw [if_neg (by rw [hb]; exact Bool.noConfusion)] at k
  have hw3 := hw2.mono e3
  refine q_mut (w' := Vbtaac.moveObject w n h r) hw3 (ev_var rfl) (fun _ _ => wo_none) (ea_cons (ev_var rfl) (ea_cons (ev_var rfl) (ea_cons (ev_var rfl) ea_nil))) (fun H4 e4 Q k4 => ⟨L, w, n, h, r, rfl, hw3.mono e4, hn, k4⟩) fun H4 hw4 kp => ?_
  exact s_retM k hw4 ((Keep.of ((e1.trans e2).trans e3)).trans kp) (el_lst (ea_cons ev_c ea_nil) (by show 1 ≤ 100000; decide)) rfl
theorem ok_set_property {g : Ctx} (T : Txt g) (D : DefAt g "set_property" s_set_property) (C_World_set_trait : H_World_set_trait g) (C_World_is_place : H_World_is_place g) : H_set_property g := by
  refine mk_def D sc_set_property (fun _ _ _ _ _ _ us hl => match us, hl with | [_, _], _ => rfl) (by rintro vs H Q E ⟨_, _, _, _, rfl, _⟩; rfl) fun f cdv A outer s H vs Q E hr h => ⟨_, (pss_cons (ps_asg (pv 1) (gg_unl g.K (n := 3) (pgs_cons (pg_name (i := 2) sc_set_property.nd rfl (Or.inl rfl)) (pgs_cons (pg_name (i := 3) sc_set_property.nd rfl (Or.inl rfl)) (pgs_cons (pg_name (i := 4) sc_set_property.nd rfl (Or.inl rfl)) pgs_nil))))) (pss_cons (ps_if (PW.pt (pw_and (pt_val (pe_md C_World_is_place T.clW hr (pv 0) (pa_cons (pv 2) pa_nil))) (pw_and1 (pt_cmpR op_ne (pv 3) (pe_kn T.cLUMINOUS_NUMBER) (nomark _))))) (pss_one (ps_ret (pe_lst (pa_cons (pe_un un_neg pe_int) pa_nil)))) pss_nil) (pss_cons (ps_expr (pe_md C_World_set_trait T.clW hr (pv 0) (pa_cons (pv 2) (pa_cons (pe_op op_shl pe_int (pv 3)) (pa_cons (pv 4) pa_nil))))) (pss_one (ps_ret (pe_lst (pa_cons pe_int pa_nil))))))), ?_⟩
  obtain ⟨L, w, q, ms, rfl, hw, hq, hok, _, k⟩ := h
  obtain ⟨n, b, f, rfl, hn, hb1, hf⟩ := oks3 hok (P := fun n b f => ex w n ∧ (3 ≤ b ∧ b ≤ 6) ∧ f ≤ 1) (fun _ _ _ o => o) (fun o => o) (fun _ o => o) (fun _ _ o => o) (fun _ _ _ _ _ o => o)
  have k : RetO g L (setProM w n b f).1 (setProM w n b f).2 H Q := k
  unfold setProM at k
  refine q_unl3 rfl hq ?_
  refine q_when (b := Vbtaac.isPlace w n && b != 6) (et_and (et_test (ev_wm hw.at_ (ev_var rfl) (fun _ _ => wo_none) (ea_cons (ev_var rfl) ea_nil) (sv_is_place hw hn))) (fun _ => et_test (ev_ne (y := iv 6) (b := b != 6) (ev_var rfl) ev_c rfl (by rw [iv_eq]; rfl)))) (fun hb H1 e1 => ?_) (fun hb H1 e1 => ?_)
  · rw [if_pos hb] at k
    exact s_retM k (hw.mono e1).at_ (Keep.of e1) (el_lst (ea_cons (ev_un ev_c ru_neg) ea_nil) (by show 1 ≤ 100000; decide)) rfl
  rw [if_neg (by rw [hb]; exact Bool.false_ne_true)] at k
  have hw1 := hw.mono e1
  refine q_mut (w' := Vbtaac.updateObject w n fun x => { x with properties := Vbtaac.setProperty x.properties b (f == 1) }) hw1 (ev_var rfl) (fun _ _ => wo_none)
    (ea_cons (ev_var rfl) (ea_cons (ev_IC (i := 1) (j := (b : Int)) (z := bit b) ev_c (ev_var rfl) ⟨by omega, by omega, by decide⟩ (by rcases (by omega : b = 3 ∨ b = 4 ∨ b = 5 ∨ b = 6) with rfl | rfl | rfl | rfl <;> rfl)) (ea_cons (ev_var rfl) ea_nil))) (fun H4 e4 Q k4 => ⟨L, w, n, b, f, rfl, hw1.mono e4, hn, hf, k4⟩) fun H4 hw4 kp => ?_
  exact s_retM k hw4 ((Keep.of e1).trans kp) (el_lst (ea_cons ev_c ea_nil) (by show 1 ≤ 100000; decide)) rfl
theorem ok_set_window {g : Ctx} (T : Txt g) (D : DefAt g "set_window" s_set_window) (C_World_set_window : H_World_set_window g) (C_World_is_place : H_World_is_place g) : H_set_window g := by
  refine mk_def D sc_set_window (fun _ _ _ _ _ _ us hl => match us, hl with | [_, _], _ => rfl) (by rintro vs H Q E ⟨_, _, _, _, rfl, _⟩; rfl) fun f cdv A outer s H vs Q E hr h => ⟨_, (pss_cons (ps_asg (pv 1) (gg_unl g.K (n := 3) (pgs_cons (pg_name (i := 2) sc_set_window.nd rfl (Or.inl rfl)) (pgs_cons (pg_name (i := 3) sc_set_window.nd rfl (Or.inl rfl)) (pgs_cons (pg_name (i := 4) sc_set_window.nd rfl (Or.inl rfl)) pgs_nil))))) (pss_cons (ps_if (pt_cmpR op_eq (pv 2) (pv 3) (nomark _)) (pss_one (ps_ret (pe_lst (pa_cons (pe_un un_neg pe_int) pa_nil)))) pss_nil) (pss_cons (ps_if (PW.pt (pw_or (pt_not (pt_val (pe_md C_World_is_place T.clW hr (pv 0) (pa_cons (pv 2) pa_nil)))) (pw_or1 (pt_not (pt_val (pe_md C_World_is_place T.clW hr (pv 0) (pa_cons (pv 3) pa_nil))))))) (pss_one (ps_ret (pe_lst (pa_cons (pe_un un_neg pe_int) pa_nil)))) pss_nil) (pss_cons (ps_expr (pe_md C_World_set_window T.clW hr (pv 0) (pa_cons (pv 2) (pa_cons (pv 3) (pa_cons (pv 4) pa_nil))))) (pss_one (ps_ret (pe_lst (pa_cons pe_int pa_nil)))))))), ?_⟩
  obtain ⟨L, w, q, ms, rfl, hw, hq, hok, _, k⟩ := h
  obtain ⟨a, b, l, rfl, ha, hb1, hl⟩ := oks3 hok (P := fun a b k => ex w a ∧ ex w b ∧ k ≤ 3) (fun _ _ _ o => o) (fun o => o) (fun _ o => o) (fun _ _ o => o) (fun _ _ _ _ _ o => o)
  have k : RetO g L (setWinM w a b l).1 (setWinM w a b l).2 H Q := k
  unfold setWinM at k
  refine q_unl3 rfl hq ?_
  refine q_when (b := a == b) (et_test (ev_eq (y := iv b) (ev_var rfl) (ev_var rfl) rfl iv_eq)) (fun hb H1 e1 => ?_) (fun hb H1 e1 => ?_)
  · rw [if_pos hb] at k
    exact s_retM k (hw.mono e1).at_ (Keep.of e1) (el_lst (ea_cons (ev_un ev_c ru_neg) ea_nil) (by show 1 ≤ 100000; decide)) rfl
  rw [if_neg (by rw [hb]; exact Bool.false_ne_true)] at k
  have hw1 := hw.mono e1
  refine q_when (b := !Vbtaac.isPlace w a || !Vbtaac.isPlace w b) (et_or (et_not (et_test (ev_wm hw1.at_ (ev_var rfl) (fun _ _ => wo_none) (ea_cons (ev_var rfl) ea_nil) (sv_is_place hw1 ha)))) (fun _ => et_not (et_test (ev_wm hw1.at_ (ev_var rfl) (fun _ _ => wo_none) (ea_cons (ev_var rfl) ea_nil) (sv_is_place hw1 hb1))))) (fun hb H2 e2 => ?_) (fun hb H2 e2 => ?_)
  · rw [if_pos hb] at k
    exact s_retM k (hw1.mono e2).at_ (Keep.of (e1.trans e2)) (el_lst (ea_cons (ev_un ev_c ru_neg) ea_nil) (by show 1 ≤ 100000; decide)) rfl
  rw [if_neg (by rw [hb]; exact Bool.false_ne_true)] at k
  have hw2 := hw1.mono e2
  refine q_mut (w' := { w with windows := Vbtaac.replaceWindow w a b l }) hw2 (ev_var rfl) (fun _ _ => wo_none) (ea_cons (ev_var rfl) (ea_cons (ev_var rfl) (ea_cons (ev_var rfl) ea_nil))) (fun H4 e4 Q k4 => ⟨L, w, a, b, l, rfl, hw2.mono e4, k4⟩) fun H4 hw4 kp => ?_
  exact s_retM k hw4 ((Keep.of (e1.trans e2)).trans kp) (el_lst (ea_cons ev_c ea_nil) (by show 1 ≤ 100000; decide)) rfl
theorem ok_take_object {g : Ctx} (T : Txt g) (D : DefAt g "take_object" s_take_object) (C_would_exceed : H_would_exceed g) (C_is_kept_back : H_is_kept_back g) (C_World_hand_to : H_World_hand_to g) (C_does_reach : H_does_reach g) (C_World_is_place : H_World_is_place g) (C_is_within : H_is_within g) : H_take_object g := by
  refine mk_def D sc_take_object (fun _ _ _ _ _ _ us hl => match us, hl with | [_, _], _ => rfl) (by rintro vs H Q E ⟨_, _, _, _, rfl, _⟩; rfl) fun f cdv A outer s H vs Q E hr h => ⟨_, (pss_cons (ps_asg (pv 1) (gg_unl g.K (n := 2) (pgs_cons (pg_name (i := 2) sc_take_object.nd rfl (Or.inl rfl)) (pgs_cons (pg_name (i := 3) sc_take_object.nd rfl (Or.inl rfl)) pgs_nil)))) (pss_cons (ps_if (pt_not (pt_val (pe_fn C_does_reach hr (pa_cons (pv 0) (pa_cons (pv 2) (pa_cons (pv 3) pa_nil)))))) (pss_one (ps_ret (pe_lst (pa_cons (pe_un un_neg pe_int) pa_nil)))) pss_nil) (pss_cons (ps_if (PW.pt (pw_or (pt_val (pe_md C_World_is_place T.clW hr (pv 0) (pa_cons (pv 3) pa_nil))) (pw_or (pt_cmpR op_eq (pv 3) (pv 2) (nomark _)) (pw_or1 (pt_val (pe_fn C_is_within hr (pa_cons (pv 0) (pa_cons (pv 2) (pa_cons (pv 3) pa_nil))))))))) (pss_one (ps_ret (pe_lst (pa_cons (pe_un un_neg pe_int) pa_nil)))) pss_nil) (pss_cons (ps_if (pt_val (pe_fn C_would_exceed hr (pa_cons (pv 0) (pa_cons (pv 3) (pa_cons (pv 2) (pa_cons (pe_kn T.cHELD) pa_nil)))))) (pss_one (ps_ret (pe_lst (pa_cons (pe_un un_neg pe_int) pa_nil)))) pss_nil) (pss_cons (ps_if (pt_val (pe_fn C_is_kept_back hr (pa_cons (pv 0) (pa_cons (pv 2) (pa_cons (pv 3) pa_nil))))) (pss_one (ps_ret (pe_lst (pa_cons (pe_un un_neg pe_int) pa_nil)))) pss_nil) (pss_cons (ps_expr (pe_md C_World_hand_to T.clW hr (pv 0) (pa_cons (pv 3) (pa_cons (pv 2) (pa_cons (pe_kn T.cHELD) pa_nil))))) (pss_one (ps_ret (pe_lst (pa_cons pe_int pa_nil)))))))))), ?_⟩
  obtain ⟨L, w, q, ms, rfl, hw, hq, hok, _, k⟩ := h
  obtain ⟨v, x, rfl, hv, hx⟩ := oks2 hok (P := fun n m => ex w n ∧ ex w m) (fun _ _ o => o) (fun o => o) (fun _ o => o) (fun _ _ _ _ o => o)
  have k : RetO g L (takeM w v x).1 (takeM w v x).2 H Q := k
  unfold takeM at k
  refine q_unl2 rfl hq ?_
  refine q_when (b := !Vbtaac.canReach w v x) (et_not (et_test (ev_fn (ea_cons (ev_var rfl) (ea_cons (ev_var rfl) (ea_cons (ev_var rfl) ea_nil))) (sv_does_reach hw hv hx)))) (fun hb H1 e1 => ?_) (fun hb H1 e1 => ?_)
  · rw [Bool.not_eq_true'] at hb
    rw [if_pos hb] at k
    exact s_retM k (hw.mono e1).at_ (Keep.of e1) (el_lst (ea_cons (ev_un ev_c ru_neg) ea_nil) (by show 1 ≤ 100000; decide)) rfl
  rw [Bool.not_eq_false'] at hb
  rw [if_neg (by rw [hb]; exact Bool.noConfusion)] at k
  have hw1 := hw.mono e1
  refine q_when (b := Vbtaac.isPlace w x || (x == v || Vbtaac.isWithin w v x)) (et_or (et_test (ev_wm hw1.at_ (ev_var rfl) (fun _ _ => wo_none) (ea_cons (ev_var rfl) ea_nil) (sv_is_place hw1 hx))) (fun _ => et_or (et_test (ev_eq (y := iv v) (ev_var rfl) (ev_var rfl) rfl iv_eq))
    (fun _ => et_test (ev_fn (ea_cons (ev_var rfl) (ea_cons (ev_var rfl) (ea_cons (ev_var rfl) ea_nil))) (sv_is_within hw1 hv))))) (fun hb H2 e2 => ?_) (fun hb H2 e2 => ?_)
  · rw [if_pos hb] at k
    exact s_retM k (hw1.mono e2).at_ (Keep.of (e1.trans e2)) (el_lst (ea_cons (ev_un ev_c ru_neg) ea_nil) (by show 1 ≤ 100000; decide)) rfl
  rw [if_neg (by rw [hb]; exact Bool.false_ne_true)] at k
  have hw2 := hw1.mono e2
  refine q_when (b := !Vbtaac.hasCapacity w v 3 x) (et_test (ev_fn (ea_cons (ev_var rfl) (ea_cons (ev_var rfl) (ea_cons (ev_var rfl) (ea_cons ev_c ea_nil)))) (sv_would_exceed (r := 3) hw2 hx hv (by decide)))) (fun hb H3 e3 => ?_) (fun hb H3 e3 => ?_)
  · rw [Bool.not_eq_true'] at hb
    rw [if_pos hb] at k
    exact s_retM k (hw2.mono e3).at_ (Keep.of ((e1.trans e2).trans e3)) (el_lst (ea_cons (ev_un ev_c ru_neg) ea_nil) (by show 1 ≤ 100000; decide)) rfl
  rw [Bool.not_eq_false'] at hb
  rw [if_neg (by rw [hb]; exact Bool.noConfusion)] at k
  have hw3 := hw2.mono e3
  have e13 := (e1.trans e2).trans e3
  refine q_when (b := keptM w v x) (et_test (ev_fn (ea_cons (ev_var rfl) (ea_cons (ev_var rfl) (ea_cons (ev_var rfl) ea_nil))) (fun H4 e4 Q k4 _ => ⟨L, w, v, x, rfl, hw3.mono e4, hx, k4⟩))) (fun hb H4 e4 => ?_) (fun hb H4 e4 => ?_)
  · rw [if_pos hb] at k
    exact s_retM k (hw3.mono e4).at_ (Keep.of (e13.trans e4)) (el_lst (ea_cons (ev_un ev_c ru_neg) ea_nil) (by show 1 ≤ 100000; decide)) rfl
  rw [if_neg (by rw [hb]; exact Bool.noConfusion)] at k
  have hw4 := hw3.mono e4
  refine q_mut (w' := Vbtaac.moveObject w x v 3) hw4 (ev_var rfl) (fun _ _ => wo_none) (ea_cons (ev_var rfl) (ea_cons (ev_var rfl) (ea_cons ev_c ea_nil))) (fun H5 e5 Q k5 => ⟨L, w, x, v, 3, rfl, hw4.mono e5, hx, k5⟩) fun H5 hw5 kp => ?_
  exact s_retM k hw5 ((Keep.of (e13.trans e4)).trans kp) (el_lst (ea_cons ev_c ea_nil) (by show 1 ≤ 100000; decide)) rfl
theorem ok_put_object {g : Ctx} (T : Txt g) (D : DefAt g "put_object" s_put_object) (C_would_exceed : H_would_exceed g) (C_World_hand_to : H_World_hand_to g) (C_does_reach : H_does_reach g) (C_is_within : H_is_within g) (C_is_held_by : H_is_held_by g) (C_does_fit : H_does_fit g) : H_put_object g := by
  refine mk_def D sc_put_object (fun _ _ _ _ _ _ us hl => match us, hl with | [_, _], _ => rfl) (by rintro vs H Q E ⟨_, _, _, _, rfl, _⟩; rfl) fun f cdv A outer s H vs Q E hr h => ⟨_, (pss_cons (ps_asg (pv 1) (gg_unl g.K (n := 4) (pgs_cons (pg_name (i := 2) sc_put_object.nd rfl (Or.inl rfl)) (pgs_cons (pg_name (i := 3) sc_put_object.nd rfl (Or.inl rfl)) (pgs_cons (pg_name (i := 4) sc_put_object.nd rfl (Or.inl rfl)) (pgs_cons (pg_name (i := 5) sc_put_object.nd rfl (Or.inl rfl)) pgs_nil)))))) (pss_cons (ps_if (pt_not (pt_val (pe_fn C_does_reach hr (pa_cons (pv 0) (pa_cons (pv 2) (pa_cons (pv 4) pa_nil)))))) (pss_one (ps_ret (pe_lst (pa_cons (pe_un un_neg pe_int) pa_nil)))) pss_nil) (pss_cons (ps_if (PW.pt (pw_or (pt_cmpR op_eq (pv 4) (pv 3) (nomark _)) (pw_or1 (pt_val (pe_fn C_is_within hr (pa_cons (pv 0) (pa_cons (pv 4) (pa_cons (pv 3) pa_nil)))))))) (pss_one (ps_ret (pe_lst (pa_cons (pe_un un_neg pe_int) pa_nil)))) pss_nil) (pss_cons (ps_if (pt_val (pe_fn C_would_exceed hr (pa_cons (pv 0) (pa_cons (pv 3) (pa_cons (pv 4) (pa_cons (pv 5) pa_nil)))))) (pss_one (ps_ret (pe_lst (pa_cons (pe_un un_neg pe_int) pa_nil)))) pss_nil) (pss_cons (ps_if (pt_not (pt_val (pe_fn C_is_held_by hr (pa_cons (pv 0) (pa_cons (pv 2) (pa_cons (pv 3) pa_nil)))))) (pss_one (ps_ret (pe_lst (pa_cons (pe_un un_neg pe_int) pa_nil)))) pss_nil) (pss_cons (ps_if (pt_not (pt_val (pe_fn C_does_fit hr (pa_cons (pv 0) (pa_cons (pv 2) (pa_cons (pv 4) (pa_cons (pv 5) pa_nil))))))) (pss_one (ps_ret (pe_lst (pa_cons (pe_un un_neg pe_int) pa_nil)))) pss_nil) (pss_cons (ps_expr (pe_md C_World_hand_to T.clW hr (pv 0) (pa_cons (pv 3) (pa_cons (pv 4) (pa_cons (pv 5) pa_nil))))) (pss_one (ps_ret (pe_lst (pa_cons pe_int pa_nil))))))))))), ?_⟩
  obtain ⟨L, w, q, ms, rfl, hw, hq, hok, _, k⟩ := h
  obtain ⟨v, x, h, r, rfl, hv, hx, hh, hr1⟩ := oks4 hok (P := fun v x h r => ex w v ∧ ex w x ∧ ex w h ∧ 1 ≤ r ∧ r ≤ 2) (fun _ _ _ _ o => o) (fun o => o) (fun _ o => o) (fun _ _ o => o) (fun _ _ _ o => o) (fun _ _ _ _ _ _ o => o)
  have k : RetO g L (putM w v x h r).1 (putM w v x h r).2 H Q := k
  unfold putM at k
  refine q_unl4 rfl hq ?_
  refine q_when (b := !Vbtaac.canReach w v h) (et_not (et_test (ev_fn (ea_cons (ev_var rfl) (ea_cons (ev_var rfl) (ea_cons (ev_var rfl) ea_nil))) (sv_does_reach hw hv hh)))) (fun hb H1 e1 => ?_) (fun hb H1 e1 => ?_)
  · rw [Bool.not_eq_true'] at hb
    rw [if_pos hb] at k
    exact s_retM k (hw.mono e1).at_ (Keep.of e1) (el_lst (ea_cons (ev_un ev_c ru_neg) ea_nil) (by show 1 ≤ 100000; decide)) rfl
  rw [Bool.not_eq_false'] at hb
  rw [if_neg (by rw [hb]; exact Bool.noConfusion)] at k
  have hw1 := hw.mono e1
  refine q_when (b := h == x || Vbtaac.isWithin w h x) (et_or (et_test (ev_eq (y := iv x) (ev_var rfl) (ev_var rfl) rfl iv_eq)) (fun _ => et_test (ev_fn (ea_cons (ev_var rfl) (ea_cons (ev_var rfl) (ea_cons (ev_var rfl) ea_nil))) (sv_is_within hw1 hh)))) (fun hb H2 e2 => ?_) (fun hb H2 e2 => ?_)
  · rw [if_pos hb] at k
    exact s_retM k (hw1.mono e2).at_ (Keep.of (e1.trans e2)) (el_lst (ea_cons (ev_un ev_c ru_neg) ea_nil) (by show 1 ≤ 100000; decide)) rfl
  rw [if_neg (by rw [hb]; exact Bool.false_ne_true)] at k
  have hw2 := hw1.mono e2
  refine q_when (b := !Vbtaac.hasCapacity w h r x) (et_test (ev_fn (ea_cons (ev_var rfl) (ea_cons (ev_var rfl) (ea_cons (ev_var rfl) (ea_cons (ev_var rfl) ea_nil)))) (sv_would_exceed hw2 hx hh hr1.1))) (fun hb H3 e3 => ?_) (fun hb H3 e3 => ?_)
  · rw [Bool.not_eq_true'] at hb
    rw [if_pos hb] at k
    exact s_retM k (hw2.mono e3).at_ (Keep.of ((e1.trans e2).trans e3)) (el_lst (ea_cons (ev_un ev_c ru_neg) ea_nil) (by show 1 ≤ 100000; decide)) rfl
  rw [Bool.not_eq_false'] at hb
  rw [if_neg (by rw [hb]; exact Bool.noConfusion)] at k
  have hw3 := hw2.mono e3
  have e13 := (e1.trans e2).trans e3
  refine q_when (b := !heldM w v x) (et_not (et_test (ev_fn (ea_cons (ev_var rfl) (ea_cons (ev_var rfl) (ea_cons (ev_var rfl) ea_nil))) (fun H4 e4 Q k4 _ => ⟨L, w, v, x, rfl, hw3.mono e4, hx, k4⟩)))) (fun hb H4 e4 => ?_) (fun hb H4 e4 => ?_)
  · rw [Bool.not_eq_true'] at hb
    rw [if_pos hb] at k
    exact s_retM k (hw3.mono e4).at_ (Keep.of (e13.trans e4)) (el_lst (ea_cons (ev_un ev_c ru_neg) ea_nil) (by show 1 ≤ 100000; decide)) rfl
  rw [Bool.not_eq_false'] at hb
  rw [if_neg (by rw [hb]; exact Bool.noConfusion)] at k
  have hw4 := hw3.mono e4
  have e14 := e13.trans e4
  refine q_when (b := !fitsM w v h r) (et_not (et_test (ev_fn (ea_cons (ev_var rfl) (ea_cons (ev_var rfl) (ea_cons (ev_var rfl) (ea_cons (ev_var rfl) ea_nil)))) (fun H5 e5 Q k5 _ => ⟨L, w, v, h, r, rfl, hw4.mono e5, hv, hh, ⟨hr1.1, by omega⟩, k5⟩)))) (fun hb H5 e5 => ?_) (fun hb H5 e5 => ?_)
  · rw [Bool.not_eq_true'] at hb
    rw [if_pos hb] at k
    exact s_retM k (hw4.mono e5).at_ (Keep.of (e14.trans e5)) (el_lst (ea_cons (ev_un ev_c ru_neg) ea_nil) (by show 1 ≤ 100000; decide)) rfl
  rw [Bool.not_eq_false'] at hb
  rw [if_neg (by rw [hb]; exact Bool.noConfusion)] at k
  have hw5 := hw4.mono e5
  refine q_mut (w' := Vbtaac.moveObject w x h r) hw5 (ev_var rfl) (fun _ _ => wo_none) (ea_cons (ev_var rfl) (ea_cons (ev_var rfl) (ea_cons (ev_var rfl) ea_nil))) (fun H6 e6 Q k6 => ⟨L, w, x, h, r, rfl, hw5.mono e6, hx, k6⟩) fun H6 hw6 kp => ?_
  exact s_retM k hw6 ((Keep.of (e14.trans e5)).trans kp) (el_lst (ea_cons ev_c ea_nil) (by show 1 ≤ 100000; decide)) rfl
theorem ok_drop_object {g : Ctx} (T : Txt g) (D : DefAt g "drop_object" s_drop_object) (C_landing : H_landing g) (C_is_too_much : H_is_too_much g) (C_World_hand_to : H_World_hand_to g) (C_load_with : H_load_with g) (C_is_held_by : H_is_held_by g) : H_drop_object g := by
  refine mk_def D sc_drop_object (fun _ _ _ _ _ _ us hl => match us, hl with | [_, _], _ => rfl) (by rintro vs H Q E ⟨_, _, _, _, rfl, _⟩; rfl) fun f cdv A outer s H vs Q E hr h => ⟨_, (pss_cons (ps_asg (pv 1) (gg_unl g.K (n := 2) (pgs_cons (pg_name (i := 2) sc_drop_object.nd rfl (Or.inl rfl)) (pgs_cons (pg_name (i := 3) sc_drop_object.nd rfl (Or.inl rfl)) pgs_nil)))) (pss_cons (ps_asg (pe_fn C_landing hr (pa_cons (pv 0) (pa_cons (pv 2) pa_nil))) (gg_tup g.K (n := 2) (pgs_cons (pg_name (i := 4) sc_drop_object.nd rfl (Or.inl rfl)) (pgs_cons (pg_name (i := 5) sc_drop_object.nd rfl (Or.inl rfl)) pgs_nil)))) (pss_cons (ps_if (pt_val (pe_fn C_is_too_much hr (pa_cons (pv 0) (pa_cons (pv 4) (pa_cons (pe_fn C_load_with hr (pa_cons (pv 0) (pa_cons (pv 4) (pa_cons (pv 3) pa_nil)))) pa_nil))))) (pss_one (ps_ret (pe_lst (pa_cons (pe_un un_neg pe_int) pa_nil)))) pss_nil) (pss_cons (ps_if (pt_not (pt_val (pe_fn C_is_held_by hr (pa_cons (pv 0) (pa_cons (pv 2) (pa_cons (pv 3) pa_nil)))))) (pss_one (ps_ret (pe_lst (pa_cons (pe_un un_neg pe_int) pa_nil)))) pss_nil) (pss_cons (ps_expr (pe_md C_World_hand_to T.clW hr (pv 0) (pa_cons (pv 3) (pa_cons (pv 4) (pa_cons (pv 5) pa_nil))))) (pss_one (ps_ret (pe_lst (pa_cons pe_int (pa_cons (pv 4) (pa_cons (pv 5) pa_nil))))))))))), ?_⟩
  obtain ⟨L, w, q, ms, rfl, hw, hq, hok, _, k⟩ := h
  obtain ⟨v, x, rfl, hv, hx⟩ := oks2 hok (P := fun n m => ex w n ∧ ex w m) (fun _ _ o => o) (fun o => o) (fun _ o => o) (fun _ _ _ _ o => o)
  have k : RetO g L (dropM w v x).1 (dropM w v x).2 H Q := k
  unfold dropM at k
  simp only [] at k
  obtain ⟨d1, ⟨d2, d3⟩, d4, d5⟩ := drop_ok hw.good v hv
  refine q_unl2 rfl hq ?_
  refine ⟨_, rfl, _, rfl, L, w, v, rfl, hw, hv, fun t H1 e1 ht => ⟨t, _, rfl, st_of ht, rfl, _, _, rfl, _, _, rfl, rfl, ?_⟩⟩
  generalize (Vbtaac.dropTarget w Vbtaac.maxObjects v).1 = h at *
  generalize (Vbtaac.dropTarget w Vbtaac.maxObjects v).2 = r at *
  have hw1 := hw.mono e1
  have hex : muchM w h (withM w h x) = !Vbtaac.hasCapacity w h r x := by
    rw [← exceed_is hw.good hx d1.1 d2]
    have : decide (r ≤ 3) = true := decide_eq_true (by omega)
    rw [this, Bool.true_and]
  dsimp only
  refine q_when (b := !Vbtaac.hasCapacity w h r x) (et_B ?_) (fun hb H2 e2 => ?_) (fun hb H2 e2 => ?_)
  · rw [← hex]
    exact ev_fn (ea_cons (ev_var rfl) (ea_cons (ev_var rfl) (ea_cons (ev_fn (ea_cons (ev_var rfl) (ea_cons (ev_var rfl) (ea_cons (ev_var rfl) ea_nil))) (sv_load_with hw1 d1 hx)) ea_nil))) (sv_too_much hw1 d1)
  · rw [Bool.not_eq_true'] at hb
    rw [if_pos hb] at k
    exact s_retM k (hw1.mono e2).at_ (Keep.of (e1.trans e2)) (el_lst (ea_cons (ev_un ev_c ru_neg) ea_nil) (by show 1 ≤ 100000; decide)) rfl
  rw [Bool.not_eq_false'] at hb
  rw [if_neg (by rw [hb]; exact Bool.noConfusion)] at k
  have hw2 := hw1.mono e2
  have e12 := e1.trans e2
  refine q_when (b := !heldM w v x) (et_not (et_test (ev_fn (ea_cons (ev_var rfl) (ea_cons (ev_var rfl) (ea_cons (ev_var rfl) ea_nil))) (fun H4 e4 Q k4 _ => ⟨L, w, v, x, rfl, hw2.mono e4, hx, k4⟩)))) (fun hb H4 e4 => ?_) (fun hb H4 e4 => ?_)
  · rw [Bool.not_eq_true'] at hb
    rw [if_pos hb] at k
    exact s_retM k (hw2.mono e4).at_ (Keep.of (e12.trans e4)) (el_lst (ea_cons (ev_un ev_c ru_neg) ea_nil) (by show 1 ≤ 100000; decide)) rfl
  rw [Bool.not_eq_false'] at hb
  rw [if_neg (by rw [hb]; exact Bool.noConfusion)] at k
  have hw4 := hw2.mono e4
  refine q_mut (w' := Vbtaac.moveObject w x h r) hw4 (ev_var rfl) (fun _ _ => wo_none) (ea_cons (ev_var rfl) (ea_cons (ev_var rfl) (ea_cons (ev_var rfl) ea_nil))) (fun H6 e6 Q k6 => ⟨L, w, x, h, r, rfl, hw4.mono e6, hx, k6⟩) fun H6 hw6 kp => ?_
  exact s_retM k hw6 ((Keep.of (e12.trans e4)).trans kp) (el_lst (ea_cons ev_c (ea_cons (ev_var rfl) (ea_cons (ev_var rfl) ea_nil))) (by show 3 ≤ 100000; decide)) rfl
theorem ok_open_or_close {g : Ctx} (T : Txt g) (D : DefAt g "open_or_close" s_open_or_close) (C_World_set_trait : H_World_set_trait g) (C_does_reach : H_does_reach g) (C_World_has_trait : H_World_has_trait g) : H_open_or_close g := by
  refine mk_def D sc_open_or_close (fun _ _ _ _ _ _ us hl => match us, hl with | [_, _], _ => rfl) (by rintro vs H Q E ⟨_, _, _, _, rfl, _⟩; rfl) fun f cdv A outer s H vs Q E hr h => ⟨_, (pss_cons (ps_asg (pv 1) (gg_unl g.K (n := 3) (pgs_cons (pg_name (i := 2) sc_open_or_close.nd rfl (Or.inl rfl)) (pgs_cons (pg_name (i := 3) sc_open_or_close.nd rfl (Or.inl rfl)) (pgs_cons (pg_name (i := 4) sc_open_or_close.nd rfl (Or.inl rfl)) pgs_nil))))) (pss_cons (ps_if (pt_not (pt_val (pe_fn C_does_reach hr (pa_cons (pv 0) (pa_cons (pv 2) (pa_cons (pv 3) pa_nil)))))) (pss_one (ps_ret (pe_lst (pa_cons (pe_un un_neg pe_int) pa_nil)))) pss_nil) (pss_cons (ps_if (pt_not (pt_val (pe_md C_World_has_trait T.clW hr (pv 0) (pa_cons (pv 3) (pa_cons (pe_kn T.cHINGED) pa_nil))))) (pss_one (ps_ret (pe_lst (pa_cons (pe_un un_neg pe_int) pa_nil)))) pss_nil) (pss_cons (ps_if (pt_cmpR op_eq (pe_md C_World_has_trait T.clW hr (pv 0) (pa_cons (pv 3) (pa_cons (pe_kn T.cOPENED) pa_nil))) (pe_cmpR op_eq (pv 4) pe_int (nomark _)) (nomark _)) (pss_one (ps_ret (pe_lst (pa_cons (pe_un un_neg pe_int) pa_nil)))) pss_nil) (pss_cons (ps_expr (pe_md C_World_set_trait T.clW hr (pv 0) (pa_cons (pv 3) (pa_cons (pe_kn T.cOPENED) (pa_cons (pv 4) pa_nil))))) (pss_one (ps_ret (pe_lst (pa_cons pe_int pa_nil))))))))), ?_⟩
  obtain ⟨L, w, q, ms, rfl, hw, hq, hok, _, k⟩ := h
  obtain ⟨v, n, f, rfl, hv, hn, hf⟩ := oks3 hok (P := fun v n f => ex w v ∧ ex w n ∧ f ≤ 1) (fun _ _ _ o => o) (fun o => o) (fun _ o => o) (fun _ _ o => o) (fun _ _ _ _ _ o => o)
  have k : RetO g L (openM w v n f).1 (openM w v n f).2 H Q := k
  unfold openM at k
  refine q_unl3 rfl hq ?_
  refine q_when (b := !Vbtaac.canReach w v n) (et_not (et_test (ev_fn (ea_cons (ev_var rfl) (ea_cons (ev_var rfl) (ea_cons (ev_var rfl) ea_nil))) (sv_does_reach hw hv hn)))) (fun hb H1 e1 => ?_) (fun hb H1 e1 => ?_)
  · rw [Bool.not_eq_true'] at hb
    rw [if_pos hb] at k
    exact s_retM k (hw.mono e1).at_ (Keep.of e1) (el_lst (ea_cons (ev_un ev_c ru_neg) ea_nil) (by show 1 ≤ 100000; decide)) rfl
  rw [Bool.not_eq_false'] at hb
  rw [if_neg (by rw [hb]; exact Bool.noConfusion)] at k
  have hw1 := hw.mono e1
  refine q_when (b := !Vbtaac.hasProperty w n 3) (et_not (et_test (ev_wm hw1.at_ (ev_var rfl) (fun _ _ => wo_none) (ea_cons (ev_var rfl) (ea_cons ev_c ea_nil)) (sv_has_trait hw1 hn 3)))) (fun hb H2 e2 => ?_) (fun hb H2 e2 => ?_)
  · rw [Bool.not_eq_true'] at hb
    rw [if_pos (show Vbtaac.hasProperty w n Vbtaac.hingedBit = false from hb)] at k
    exact s_retM k (hw1.mono e2).at_ (Keep.of (e1.trans e2)) (el_lst (ea_cons (ev_un ev_c ru_neg) ea_nil) (by show 1 ≤ 100000; decide)) rfl
  rw [Bool.not_eq_false'] at hb
  rw [if_neg (show ¬ Vbtaac.hasProperty w n Vbtaac.hingedBit = false by show ¬ Vbtaac.hasProperty w n 3 = false; rw [hb]; exact Bool.noConfusion)] at k
  have hw2 := hw1.mono e2
  have e12 := e1.trans e2
  refine q_when (b := Vbtaac.hasProperty w n 4 == (f == 1)) (et_test (ev_eq (ev_wm hw2.at_ (ev_var rfl) (fun _ _ => wo_none) (ea_cons (ev_var rfl) (ea_cons ev_c ea_nil)) (sv_has_trait hw2 hn 4)) (ev_eq (y := iv 1) (ev_var rfl) ev_c rfl iv_eq) rfl bl_eq)) (fun hb H4 e4 => ?_) (fun hb H4 e4 => ?_)
  · rw [if_pos (show (Vbtaac.hasProperty w n Vbtaac.openBit == (f == 1)) = true from hb)] at k
    exact s_retM k (hw2.mono e4).at_ (Keep.of (e12.trans e4)) (el_lst (ea_cons (ev_un ev_c ru_neg) ea_nil) (by show 1 ≤ 100000; decide)) rfl
  rw [if_neg (show ¬ (Vbtaac.hasProperty w n Vbtaac.openBit == (f == 1)) = true by show ¬ (Vbtaac.hasProperty w n 4 == (f == 1)) = true; rw [hb]; exact Bool.noConfusion)] at k
  have hw4 := hw2.mono e4
  refine q_mut (w' := Vbtaac.updateObject w n fun x => { x with properties := Vbtaac.setProperty x.properties 4 (f == 1) }) hw4 (ev_var rfl) (fun _ _ => wo_none) (ea_cons (ev_var rfl) (ea_cons ev_c (ea_cons (ev_var rfl) ea_nil))) (fun H6 e6 Q k6 => ⟨L, w, n, 4, f, rfl, hw4.mono e6, hn, hf, k6⟩) fun H6 hw6 kp => ?_
  exact s_retM k hw6 ((Keep.of (e12.trans e4)).trans kp) (el_lst (ea_cons ev_c ea_nil) (by show 1 ≤ 100000; decide)) rfl
end Sg
set_option Elab.async false
set_option linter.all false
set_option maxRecDepth 100000
set_option maxHeartbeats 4000000
/-! SgZ: zip(a list, a tuple). -/
namespace Sg
open PySem PySem.Spec PyProof.Rows L2 Evl RZ
section
variable {pg : Program} {wl : World} {Ar : Around} {Ex0 : Value → Shared → Prop} {sh : Shared}
variable {z p o j k la lb : Addr} {n m : Nat} {as bs : Array Value} {u v c d : Value}
/-- the zip at z of a list and a tuple, its turn -/
structure ZS (h : Heap) (z p o j k la lb : Addr) (i : Nat) : Prop where
  qz : IsZip h z p o .none
  qp : IsPair h p (.ref j) (.ref k)
  qo : ∃ c d, IsPair h o c d
  qj : h.IsListIter j la i
  qk : h.IsTupleIter k lb i
/-- one turn's tuple: the heap behind it -/
structure ZN (h h' : Heap) (z p o j k la lb : Addr) (i : Nat) (u v : Value) : Prop where
  qz : IsZip h' z p o (rawInt h.objs.size)
  qo : IsPair h' o u v
  qj : h'.IsListIter j la (i + 1)
  qk : h'.IsTupleIter k lb (i + 1)
  nw : IsPair h' h.objs.size u v
  old : ∀ b ob, b ≠ z → b ≠ o → b ≠ j → b ≠ k → h.get? b = some ob → h'.get? b = some ob
theorem zl_item {Q : Value → Shared → Prop} (A : ZipApart z p o j k la lb) (S : ZS sh.heap z p o j k la lb n) (La : sh.heap.IsList la as) (Lb : sh.heap.IsTuple lb bs) (hu : as[n]? = some u) (hv : bs[n]? = some v)
    (q : ∀ h', ZN sh.heap h' z p o j k la lb n u v → Q (.ref sh.heap.objs.size) { sh with heap := h' }) : wpAny (model pg wl) Ar (Builtin.«zip.__next__» ⟨[.ref z], []⟩) (fun fin s' => ∃ r, fin = .done (.ret r) ∧ Q r s') Ex0 sh := by
  obtain ⟨Sz, Sp, ⟨c, d, So⟩, Sj, Sk⟩ := S
  show wpAny (model pg wl) Ar (field (.ref z) 2 >>= _) _ _ sh
  refine wpAny_bind (wpAny_field Sz rfl (x := .bool false) rfl ?_)
  show wpAny (model pg wl) Ar (field (.ref z) 3 >>= _) _ _ sh
  refine wpAny_bind (wpAny_field Sz rfl (x := .ref p) rfl (wpAny_bind (wpAny_seqItems Sp rfl ?_)))
  show wpAny (model pg wl) Ar (Builtin.SmallTypes.ownedTupleIsFree (.ref z) >>= _) _ _ sh
  unfold Builtin.SmallTypes.ownedTupleIsFree
  refine wpAny_bind (wpAny_bind (wpAny_field Sz rfl (x := .none) rfl (wpAny_pure ?_)))
  simp only [if_true]
  refine wpAny_bind (wpAny_rule (wpAny_bind (wpAny_field Sz rfl (x := .ref o) rfl (wpAny_bind (wpAny_setField_rec Sz (by simp) fun g1 z1 t1 => wpAny_bind ?_)))))
  have z1 : IsZip g1 z p o .ellipsis := z1
  simp only [List.zipIdx_cons, List.zipIdx_nil, List.forIn_cons, List.forIn_nil]
  refine wpAny_bind (wpAny_bind (wpAny_onRaise (?_ : wpAny (model pg wl) _ (Builtin.SmallTypes.nextOf (.ref j) >>= _) _ _ _)))
  refine wpAny_bind (wpAny_nextOf_list_item (Sj.extBut t1.extBut A.i1z) (La.extBut t1.extBut A.l1z) hu fun g2 j2 t2 => wpAny_pure ?_)
  have o2 : IsPair g2 o c d := t2.extBut _ _ A.TOi1 (t1.extBut _ _ A.TOz So)
  refine wpAny_bind (wpAny_seqItems o2 rfl (wpAny_bind (wpAny_updateSeq_pair o2 fun g3 o3 t3 => wpAny_bind (wpAny_letGo (wpAny_pure ?_)))))
  have o3 : IsPair g3 o u d := o3
  refine wpAny_bind (wpAny_bind (wpAny_onRaise (?_ : wpAny (model pg wl) _ (Builtin.SmallTypes.nextOf (.ref k) >>= _) _ _ _)))
  have k3 := ((Sk.extBut t1.extBut A.i2z).extBut t2.extBut A.i12.symm).extBut t3.extBut A.TOi2.symm
  have b3 := ((Lb.extBut t1.extBut A.l2z).extBut t2.extBut A.l2i1).extBut t3.extBut A.l2TO
  refine wpAny_bind (RZ.nextOf_tuple_item k3 b3 hv fun g4 k4 t4 => wpAny_pure ?_)
  have o4 : IsPair g4 o u d := t4.extBut _ _ A.TOi2 o3
  refine wpAny_bind (wpAny_seqItems o4 rfl (wpAny_bind (wpAny_updateSeq_pair o4 fun g5 o5 t5 => wpAny_bind (wpAny_letGo (wpAny_pure (wpAny_pure ?_))))))
  have o5 : IsPair g5 o u v := o5
  refine wpAny_bind (wpAny_seqItems o5 rfl (wpAny_bind (wpAny_newTuple ?_)))
  have sz : g5.objs.size = sh.heap.objs.size := t5.1.trans (t4.1.trans (t3.1.trans (t2.1.trans t1.1)))
  have z5 : IsZip g5 z p o .ellipsis := t5.extBut _ _ A.TOz.symm (t4.extBut _ _ A.i2z.symm (t3.extBut _ _ A.TOz.symm (t2.extBut _ _ A.i1z.symm z1)))
  have old5 : ∀ b ob, b ≠ z → b ≠ o → b ≠ j → b ≠ k → sh.heap.get? b = some ob → g5.get? b = some ob := fun b ob n1 n2 n3 n4 e => t5.extBut _ _ n2 (t4.extBut _ _ n4 (t3.extBut _ _ n2 (t2.extBut _ _ n3 (t1.extBut _ _ n1 e))))
  have j5 := ((j2.extBut t3.extBut A.TOi1.symm).extBut t4.extBut A.i12).extBut t5.extBut A.TOi1.symm
  have k5 := k4.extBut t5.extBut A.TOi2.symm
  have lz : z < g5.objs.size := Heap.lt_size z5
  show wpAny (model pg wl) Ar (Builtin.SmallTypes.ownedTupleHandOut (.ref z) (.ref g5.objs.size) >>= _) _ _ _
  unfold Builtin.SmallTypes.ownedTupleHandOut
  have z6 : IsZip (g5.push { cls := .type "tuple", data := .seq #[u, v] }) z p o .ellipsis := Heap.get?_push_of_some _ z5
  refine wpAny_bind (wpAny_bind (wpAny_setField_rec z6 (by simp) fun g7 z7 t7 => ?_))
  have z7 : IsZip g7 z p o (rawInt g5.objs.size) := z7
  refine wpAny_setField_rec z7 (by simp) fun g8 z8 t8 => ?_
  have z8 : IsZip g8 z p o (rawInt g5.objs.size) := z8
  have up : ∀ b ob, b ≠ z → g5.get? b = some ob → g8.get? b = some ob := fun b ob n1 e => t8.extBut _ _ n1 (t7.extBut _ _ n1 (Heap.get?_push_of_some _ e))
  have nw : IsPair g8 g5.objs.size u v := t8.extBut _ _ (Nat.ne_of_gt lz) (t7.extBut _ _ (Nat.ne_of_gt lz) (Heap.get?_push_size _ rfl))
  refine wpAny_pure ⟨_, rfl, (?_ : Q (.ref g5.objs.size) _)⟩
  rw [sz] at z8 nw ⊢
  exact q g8 ⟨z8, up _ _ A.TOz o5, j5.at fun ob e => up _ ob A.i1z e, k5.at fun ob e => up _ ob A.i2z e, nw, fun b ob n1 n2 n3 n4 e => up b ob n1 (old5 b ob n1 n2 n3 n4 e)⟩
theorem zl_end {Q : Fin → Shared → Prop} (nh : Ar.handled = none) (A : ZipApart z p o j k la lb) (S : ZS sh.heap z p o j k la lb n) (La : sh.heap.IsList la as) (Lb : sh.heap.IsTuple lb bs) (he : as[n]? = none ∨ bs[n]? = none)
    (q : ∀ h' x, (∀ b ob, b ≠ z → b ≠ o → b ≠ j → b ≠ k → sh.heap.get? b = some ob → h'.get? b = some ob) → (∃ ob, h'.get? x = some ob ∧ ob.cls = .type "StopIteration") → Ex0 (.ref x) { sh with heap := h' }) : wpAny (model pg wl) Ar (Builtin.«zip.__next__» ⟨[.ref z], []⟩) Q Ex0 sh := by
  obtain ⟨Sz, Sp, ⟨c, d, So⟩, Sj, Sk⟩ := S
  show wpAny (model pg wl) Ar (field (.ref z) 2 >>= _) _ _ sh
  refine wpAny_bind (wpAny_field Sz rfl (x := .bool false) rfl ?_)
  show wpAny (model pg wl) Ar (field (.ref z) 3 >>= _) _ _ sh
  refine wpAny_bind (wpAny_field Sz rfl (x := .ref p) rfl (wpAny_bind (wpAny_seqItems Sp rfl ?_)))
  show wpAny (model pg wl) Ar (Builtin.SmallTypes.ownedTupleIsFree (.ref z) >>= _) _ _ sh
  unfold Builtin.SmallTypes.ownedTupleIsFree
  refine wpAny_bind (wpAny_bind (wpAny_field Sz rfl (x := .none) rfl (wpAny_pure ?_)))
  simp only [if_true]
  refine wpAny_bind (wpAny_rule (wpAny_bind (wpAny_field Sz rfl (x := .ref o) rfl (wpAny_bind (wpAny_setField_rec Sz (by simp) fun g1 z1 t1 => wpAny_bind ?_)))))
  have z1 : IsZip g1 z p o .ellipsis := z1
  simp only [List.zipIdx_cons, List.zipIdx_nil, List.forIn_cons, List.forIn_nil]
  refine wpAny_bind (wpAny_bind (wpAny_onRaise (?_ : wpAny (model pg wl) _ (Builtin.SmallTypes.nextOf (.ref j) >>= _) _ _ _)))
  cases hu : as[n]? with
  | none =>
    refine wpAny_bind (wpAny_nextOf_list_end nh (Sj.extBut t1.extBut A.i1z) (La.extBut t1.extBut A.l1z) hu fun g2 x t2 ⟨ox, hox, cx⟩ => ?_)
    have z2 : IsZip g2 z p o .ellipsis := t2 _ _ A.i1z.symm z1
    have xz : x ≠ z := fun e => by subst e; rw [z2] at hox; cases hox; simp at cx
    exact wpAny_setField_rec z2 (by simp) fun g3 _ t3 => q g3 x (fun b ob n1 _ n3 _ e => t3.extBut _ _ n1 (t2 _ _ n3 (t1.extBut _ _ n1 e))) ⟨ox, t3.extBut _ _ xz hox, cx⟩
  | some u =>
    have hv : bs[n]? = none := he.resolve_left (by rw [hu]; exact fun e => nomatch e)
    refine wpAny_bind (wpAny_nextOf_list_item (Sj.extBut t1.extBut A.i1z) (La.extBut t1.extBut A.l1z) hu fun g2 j2 t2 => wpAny_pure ?_)
    have o2 : IsPair g2 o c d := t2.extBut _ _ A.TOi1 (t1.extBut _ _ A.TOz So)
    refine wpAny_bind (wpAny_seqItems o2 rfl (wpAny_bind (wpAny_updateSeq_pair o2 fun g3 o3 t3 => wpAny_bind (wpAny_letGo (wpAny_pure ?_)))))
    refine wpAny_bind (wpAny_bind (wpAny_onRaise (?_ : wpAny (model pg wl) _ (Builtin.SmallTypes.nextOf (.ref k) >>= _) _ _ _)))
    have k3 := ((Sk.extBut t1.extBut A.i2z).extBut t2.extBut A.i12.symm).extBut t3.extBut A.TOi2.symm
    have b3 := ((Lb.extBut t1.extBut A.l2z).extBut t2.extBut A.l2i1).extBut t3.extBut A.l2TO
    refine wpAny_bind (RZ.nextOf_tuple_end nh k3 b3 hv fun g4 x t4 ⟨ox, hox, cx⟩ => ?_)
    have z4 : IsZip g4 z p o .ellipsis := t4 _ _ A.i2z.symm (t3.extBut _ _ A.TOz.symm (t2.extBut _ _ A.i1z.symm z1))
    have xz : x ≠ z := fun e => by subst e; rw [z4] at hox; cases hox; simp at cx
    exact wpAny_setField_rec z4 (by simp) fun g5 _ t5 => q g5 x (fun b ob n1 n2 n3 n4 e => t5.extBut _ _ n1 (t4 _ _ n4 (t3.extBut _ _ n2 (t2.extBut _ _ n3 (t1.extBut _ _ n1 e))))) ⟨ox, t5.extBut _ _ xz hox, cx⟩
theorem nx_item {Q : Option Value → Shared → Prop} (A : ZipApart z p o j k la lb) (S : ZS sh.heap z p o j k la lb n) (La : sh.heap.IsList la as) (Lb : sh.heap.IsTuple lb bs) (hu : as[n]? = some u) (hv : bs[n]? = some v)
    (q : ∀ h', ZN sh.heap h' z p o j k la lb n u v → Q (some (.ref sh.heap.objs.size)) { sh with heap := h' }) : wpAny (model pg wl) Ar (pyNext (.ref z)) Q Ex0 sh := by
  have ty : sh.TypeIs (.ref z) "zip" := ⟨_, S.qz, rfl⟩
  unfold pyNext
  exact wpAny_bind (wpAny_attempt (wpAny_callSpecial?_slot (name := Str.ofString "__next__") ty F.slot_zip_next (wpAny_call_entry F.slot_zip_next ty F.entry_zip_next (zl_item A S La Lb hu hv fun h' N => wpAny_pure (q h' N)) (F.args_zip_next_1 _))))
theorem nx_end {Q : Option Value → Shared → Prop} (nh : Ar.handled = none) (A : ZipApart z p o j k la lb) (S : ZS sh.heap z p o j k la lb n) (La : sh.heap.IsList la as) (Lb : sh.heap.IsTuple lb bs) (he : as[n]? = none ∨ bs[n]? = none)
    (q : ∀ h', (∀ b ob, b ≠ z → b ≠ o → b ≠ j → b ≠ k → sh.heap.get? b = some ob → h'.get? b = some ob) → Q none { sh with heap := h' }) : wpAny (model pg wl) Ar (pyNext (.ref z)) Q Ex0 sh := by
  have ty : sh.TypeIs (.ref z) "zip" := ⟨_, S.qz, rfl⟩
  unfold pyNext
  refine wpAny_bind (wpAny_attempt (wpAny_callSpecial?_slot (name := Str.ofString "__next__") ty F.slot_zip_next (wpAny_call_entry F.slot_zip_next ty F.entry_zip_next (zl_end nh A S La Lb he fun h' x old ⟨ox, hox, cx⟩ => ?_) (F.args_zip_next_1 _))))
  exact wpAny_bind (wpAny_isInstance (T := "StopIteration") (b := true) ⟨ox, hox, cx⟩ isSubtype_stop (wpAny_pure (q h' old)))
end
/-! ### the call -/
abbrev zh1 (h : Heap) (la : Addr) : Heap := h.push { cls := .type "list_iterator", data := .fields #[.ref la, .int 0 0] }
abbrev zh2 (h : Heap) (la lb : Addr) : Heap := (zh1 h la).push { cls := .type "tuple_iterator", data := .fields #[.ref lb, .int 0 0] }
abbrev zh3 (h : Heap) (la lb : Addr) : Heap := (zh2 h la lb).push { cls := .type "tuple", data := .seq #[.ref h.objs.size, .ref (zh1 h la).objs.size] }
abbrev zh4 (h : Heap) (la lb : Addr) : Heap := (zh3 h la lb).push { cls := .type "tuple", data := .seq #[.none, .none] }
abbrev zh5 (h : Heap) (la lb : Addr) : Heap := (zh4 h la lb).push { cls := .type "zip", data := .fields #[.none, .bool false, .bool false, .ref (zh2 h la lb).objs.size, .ref (zh3 h la lb).objs.size] }
theorem zl_new (la lb : Addr) (as bs : Array Value) : Meets (Builtin.«zip.__new__» ⟨[.type "zip", .ref la, .ref lb], []⟩) (fun _ R s => s.heap.IsList la as ∧ s.heap.IsTuple lb bs ∧ R (.ok (.ret (.ref (zh4 s.heap la lb).objs.size))) { s with heap := zh5 s.heap la lb }) :=
  .of_wp fun prog w A R s h => by
    obtain ⟨hp, gl, dd, tk, os⟩ := s
    obtain ⟨m1, m2, h⟩ := h
    have hsub := sub_zip
    have n1 : Heap.IsList (Shared.heap ⟨hp, gl, dd, tk, os⟩) la as := m1
    have n2 : Heap.IsTuple (Shared.heap ⟨hp.push { cls := .type "list_iterator", data := .fields #[.ref la, .int 0 0] }, gl, dd, tk, os⟩) lb bs := Heap.IsTuple.push m2 _
    wp_walk using wpAny_pyIter_list n1, wpAny_pyIter_tuple n2
    exact ⟨_, rfl, h⟩
theorem zl_call {pg : Program} {wl : World} {Ar : Around} {Ex0 : Value → Shared → Prop} {sh : Shared} {la lb : Addr} {as bs : Array Value} {Q : Value → Shared → Prop} (La : sh.heap.IsList la as) (Lb : sh.heap.IsTuple lb bs)
    (q : ∀ h', ZS h' (sh.heap.objs.size + 4) (sh.heap.objs.size + 2) (sh.heap.objs.size + 3) sh.heap.objs.size (sh.heap.objs.size + 1) la lb 0 → (∀ b ob, sh.heap.get? b = some ob → h'.get? b = some ob) → Q (.ref (sh.heap.objs.size + 4)) { sh with heap := h' }) :
    wpAny (model pg wl) Ar (call (.type "zip") [.ref la, .ref lb]) Q Ex0 sh := by
  refine callType_new F.called_zip (by decide) (F.typeCall_zip_2 _ _) (F.newCall_zip_2 _ _) (fun obj => F.args_object_init_3 obj _ _) F.entry_zip_new (zl_new la lb as bs) ⟨La, Lb, ?_⟩
  have s1 : (zh1 sh.heap la).objs.size = sh.heap.objs.size + 1 := Heap.size_push ..
  have s2 : (zh2 sh.heap la lb).objs.size = sh.heap.objs.size + 2 := (Heap.size_push ..).trans (congrArg (· + 1) s1)
  have s3 : (zh3 sh.heap la lb).objs.size = sh.heap.objs.size + 3 := (Heap.size_push ..).trans (congrArg (· + 1) s2)
  have s4 : (zh4 sh.heap la lb).objs.size = sh.heap.objs.size + 4 := (Heap.size_push ..).trans (congrArg (· + 1) s3)
  have g5 : (zh5 sh.heap la lb).get? (zh4 sh.heap la lb).objs.size = some _ := Heap.get?_push_size _ rfl
  have g4 : (zh5 sh.heap la lb).get? (zh3 sh.heap la lb).objs.size = some _ := Heap.get?_push_of_some _ (Heap.get?_push_size _ rfl)
  have g3 : (zh5 sh.heap la lb).get? (zh2 sh.heap la lb).objs.size = some _ := Heap.get?_push_of_some _ (Heap.get?_push_of_some _ (Heap.get?_push_size _ rfl))
  have g2 : (zh5 sh.heap la lb).get? (zh1 sh.heap la).objs.size = some _ := Heap.get?_push_of_some _ (Heap.get?_push_of_some _ (Heap.get?_push_of_some _ (Heap.get?_push_size _ rfl)))
  have g1 : (zh5 sh.heap la lb).get? sh.heap.objs.size = some _ := Heap.get?_push_of_some _ (Heap.get?_push_of_some _ (Heap.get?_push_of_some _ (Heap.get?_push_of_some _ (Heap.get?_push_size _ rfl))))
  rw [s2, s3, s4] at g5
  rw [s1, s2] at g3
  rw [s3] at g4
  rw [s1] at g2
  rw [s4]
  exact ⟨⟨_, g5, rfl⟩, q _ ⟨g5, g3, ⟨_, _, g4⟩, ⟨_, g1, rfl, rfl⟩, ⟨_, g2, rfl, rfl⟩⟩ fun b ob e => Heap.get?_push_of_some _ (Heap.get?_push_of_some _ (Heap.get?_push_of_some _ (Heap.get?_push_of_some _ (Heap.get?_push_of_some _ e))))⟩
/-! ### the iterator -/
def ItLT (K : PySem.W.Frag) (a b : Addr) : It where
  go := fun i H => ∃ (xs ys : List V) (x y : V), (SqL K H a xs ∧ xs[i]? = some x) ∧ SqT K H b ys ∧ ys[i]? = some y
  yld := fun i H v H' => ∃ t x y, v = .ref t ∧ H t = none ∧ H' = upd H t (.tup [x, y]) ∧ (∀ xs, SqL K H a xs → xs[i]? = some x) ∧ ∀ ys, SqT K H b ys → ys[i]? = some y
  stop := fun i H => ∃ xs ys : List V, (SqL K H a xs ∧ SqT K H b ys) ∧ (xs.length ≤ i ∨ ys.length ≤ i)
theorem in5 {b z p o j k : Addr} (h : b ∈ [z, p, o, j, k]) : b = z ∨ b = p ∨ b = o ∨ b = j ∨ b = k := by simpa using h
theorem ZS.has {h : Heap} {z p o j k la lb : Addr} {i : Nat} (S : ZS h z p o j k la lb i) {b : Addr} (hb : b ∈ [z, p, o, j, k]) : ∃ ob, h.get? b = some ob ∧ ∀ v, ob.data ≠ .cell v := by
  obtain ⟨Sz, Sp, ⟨c, d, So⟩, ⟨oj, ej, _, dj⟩, ⟨ok, ek, _, dk⟩⟩ := S
  rcases in5 hb with rfl | rfl | rfl | rfl | rfl
  · exact ⟨_, Sz, fun v e => nomatch e⟩
  · exact ⟨_, Sp, fun v e => nomatch e⟩
  · exact ⟨_, So, fun v e => nomatch e⟩
  · exact ⟨oj, ej, fun v e => by rw [dj] at e; cases e⟩
  · exact ⟨ok, ek, fun v e => by rw [dk] at e; cases e⟩
theorem turn_LT {P : Program} {wl : World} {K : PySem.W.Frag} {elts : List Expr} {kk : Nat} {tp : Pos} {a b z p o j k : Addr} (A : ZipApart z p o j k a b) :
    Turn P wl K (.Tuple elts kk tp) (ItLT K a b) [z, p, o, j, k] z (fun i h => ZS h z p o j k a b i) where
  mem := List.mem_cons_self
  obj := fun i h S c hc => S.has hc
  keep := fun i h h' S kp => ⟨kp z (by simp) _ S.qz, kp p (by simp) _ S.qp, S.qo.elim fun c ⟨d, e⟩ => ⟨c, d, kp o (by simp) _ e⟩, S.qj.at fun ob e => kp j (by simp) ob e, S.qk.at fun ob e => kp k (by simp) ob e⟩
  item := by
    intro X eP ew eK calm i pins s σ H E I fp S hg
    subst eP ew eK
    obtain ⟨xs, ys, x, y, ⟨qx, hx⟩, qy, hy⟩ := hg
    obtain ⟨vx, rx, lx, _⟩ := I.list qx
    obtain ⟨vy, ry, ly, _⟩ := I.tuple qy
    obtain ⟨u, hu, ru⟩ := rx.get hx
    obtain ⟨v, hv, rv⟩ := ry.get hy
    have lz : z < s.heap.objs.size := Heap.lt_size S.qz
    refine nx_item A S lx.isList ly (u := u) (v := v) (by simpa using hu) (by simpa using hv) fun h1 N => ⟨_, rfl, ?_⟩
    refine wpAny_letOwnedTupleGo_zip (s := { s with heap := h1 }) N.qz fun h2 z2 sb => ?_
    have nw : h2.get? s.heap.objs.size = some { cls := .type "tuple", data := .seq #[u, v] } := (sb.2 _ (Nat.ne_of_gt lz)).trans N.nw
    have ok : ObjOk X.prog X.w (upd H s.heap.objs.size (.tup [x, y])) h2 s.heap.objs.size (.tup [x, y]) := ⟨show 2 ≤ sizeLine by decide, [u, v], .cons ru (.cons rv .nil), ⟨_, nw, rfl, _, rfl⟩⟩
    have old : ∀ c ob, c ∉ [z, p, o, j, k] → s.heap.get? c = some ob → h2.get? c = some ob := fun c ob hc e => by
      have hc : c ≠ z ∧ c ≠ p ∧ c ≠ o ∧ c ≠ j ∧ c ≠ k := by simpa using hc
      exact (sb.2 c hc.1).trans (N.old c ob hc.1 hc.2.2.1 hc.2.2.2.1 hc.2.2.2.2 e)
    refine ⟨.ref s.heap.objs.size, _, I.turnedNew (t' := s.toks) (ch := [z, p, o, j, k]) old fp (Nat.le_refl _) ok, rfl, ⟨_, x, y, rfl, I.hok.fresh (Nat.le_refl _), rfl, fun l hl => by rw [I.list_inj hl qx]; exact hx, fun l hl => by rw [I.tuple_inj hl qy]; exact hy⟩, ?_, fun c hc => ?_⟩
    · exact ⟨z2, (sb.2 _ A.TIz).trans (N.old _ _ A.TIz A.TITO A.TIi1 A.TIi2 S.qp), ⟨u, v, (sb.2 _ A.TOz).trans N.qo⟩, N.qj.at fun ob e => (sb.2 _ A.i1z).trans e, N.qk.at fun ob e => (sb.2 _ A.i2z).trans e⟩
    · obtain ⟨ob, e, _⟩ := S.has hc
      rw [upd_ne (Nat.ne_of_lt (Heap.lt_size e))]
      exact (fp c hc).1
  done := by
    intro X eP ew eK calm i pins s σ H E I fp S hg
    subst eP ew eK
    obtain ⟨xs, ys, ⟨qx, qy⟩, he⟩ := hg
    obtain ⟨vx, rx, lx, _⟩ := I.list qx
    obtain ⟨vy, ry, ly, _⟩ := I.tuple qy
    have n1 := rx.length
    have n2 := ry.length
    have he : vx.toArray[i]? = none ∨ vy.toArray[i]? = none := he.imp (fun e => by simp; omega) (fun e => by simp; omega)
    exact nx_end (I.ok.hd calm) A S lx.isList ly he fun h' old => ⟨rfl, I.turnedL (t' := s.toks) (ch := [z, p, o, j, k]) (fun c ob hc e => by
      have hc : c ≠ z ∧ c ≠ p ∧ c ≠ o ∧ c ≠ j ∧ c ≠ k := by simpa using hc
      exact old c ob hc.1 hc.2.2.1 hc.2.2.2.1 hc.2.2.2.2 e) fp⟩
  self := fun _ _ _ _ _ S q => wpAny_pyIter_zip S.qz q
def iZLT (K : PySem.W.Frag) (ta : TA) : TI := fun σ H R => ta σ H fun vs H1 => ∃ a b xs ys, vs = [.ref a, .ref b] ∧ SqL K H1 a xs ∧ SqT K H1 b ys ∧ R (ItLT K a b) H1
theorem pi_zipLT {X : Cx} {e e2 : Expr} {ta : TA} {p pos tpos : Pos} {elts : List Expr} {kk : Nat} {K : PySem.W.Frag} (hg : Gl X "zip") (hm : X.mg "zip" = none) (ha : PA X [e, e2] ta)
    (hs : starEach [e, e2] X.env = (false, eval e X.env) :: starEach [e2] X.env := by rfl) (hpl : (backTo pos (starEach [e2] X.env)).any (·.1) = false := by rfl) (hK : X.K = K := by rfl) : PI X (.Tuple elts kk tpos) (.Call (.Name "zip" p) [e, e2] [] pos) (iZLT K ta) := by
  subst hK
  refine ⟨fun pins s σ H R I h => Call_ (ld_blt I hg hm PyProof.Rows.boot_zip (PyProof.Rows.callWith_type1 (thn (ha.run pos pins s σ H _ I h) fun us s1 ⟨vs, H1, I1, r1, q1⟩ => ?_) hs hpl))⟩
  obtain ⟨a, b, xs, ys, ev, qx, qy, q⟩ := q1
  subst ev
  obtain ⟨ua, ub, rfl, ra, rb⟩ : ∃ ua ub, us = [ua, ub] ∧ RelV (.ref a) ua ∧ RelV (.ref b) ub := by
    cases r1 with
    | cons c1 r2 =>
      cases r2 with
      | cons c2 r3 =>
        cases r3
        exact ⟨_, _, rfl, c1, c2⟩
  cases ra
  cases rb
  obtain ⟨vx, _, lx, _⟩ := I1.list qx
  obtain ⟨vy, _, ly, _⟩ := I1.tuple qy
  obtain ⟨ob, hob, _⟩ := id ly
  refine zl_call lx.isList (show s1.heap.IsTuple b vy.toArray from ly) fun h' S old => wpAny_pyIter_zip S.qz ?_
  refine ⟨s1.heap.objs.size + 4, [s1.heap.objs.size + 4, s1.heap.objs.size + 2, s1.heap.objs.size + 3, s1.heap.objs.size, s1.heap.objs.size + 1], _, _, H1, rfl, I1.kept (t' := s1.toks) old, turn_LT (PySem.W.ktu_apart s1.heap.objs.size a b lx.lt (Heap.lt_size hob)), S, fun c hc => ?_, q⟩
  have hle : s1.heap.objs.size ≤ c := by
    rcases in5 hc with e | e | e | e | e <;> rw [e]
    · exact Nat.le_add_right _ _
    · exact Nat.le_add_right _ _
    · exact Nat.le_add_right _ _
    · exact Nat.le_refl _
    · exact Nat.le_add_right _ _
  exact I1.fpOk hle (I1.hok.fresh hle)
/-- [te for x, y in zip(a list, a tuple)] -/
theorem el_zipLT {K : PySem.W.Frag} {σ : L2.St} {H : Hp} {ta : TA} {te : TE} {i j : Nat} {vs : List Nat} {a b : Addr} (xs ys : List V) (v : Nat → V) (h : EvA ta σ H [.ref a, .ref b]) (qx : SqL K H a xs) (qy : ∀ H, SqT K H b ys) (hl : xs.length = ys.length) (hz : xs.length ≤ 40000)
    (hw : ∀ x y, wipe (((wipe σ vs).set i (some x)).set j (some y)) vs = wipe σ vs) (he : ∀ n x y, xs[n]? = some x → ys[n]? = some y → ∀ H1, Ex H H1 → Ev te (((wipe σ vs).set i (some x)).set j (some y)) H1 (v n)) :
    EvL (tLc (iZLT K ta) (gTup K 2 (gCons (gName i) (gCons (gName j) gNil))) tYes te vs) σ H ((List.range xs.length).map v) := fun H0 e Q q => h H0 e _ fun H1 e1 => ⟨a, b, xs, ys, rfl, ex_l (e.trans e1) qx, qy H1, fun Dl hD => by
  have e01 := e.trans e1
  refine ⟨fun n m H' => m = xs.length - n ∧ n ≤ xs.length ∧ Ex H1 H' ∧ H' Dl = some (.lst ((List.range n).map v)), ⟨_, rfl, Nat.zero_le _, Ex.new hD, upd_same⟩, ?_⟩
  rintro n m H2 ⟨rfl, hn, e2, h2⟩
  have q2 := ex_l (e01.trans e2) qx
  by_cases hlt : n < xs.length
  · have gx : xs[n]? = some xs[n] := List.getElem?_eq_getElem hlt
    have gy : ys[n]? = some ys[n] := List.getElem?_eq_getElem (by omega)
    refine .inr ⟨⟨xs, ys, _, _, ⟨q2, gx⟩, qy H2, gy⟩, fun H' => Ex H1 H' ∧ H' Dl = some (.lst ((List.range (n + 1)).map v)), fun H' p' => ⟨_, by omega, rfl, hlt, p'⟩, ?_⟩
    rintro _ _ ⟨t, x, y, rfl, ht, rfl, fx, fy⟩
    have ex := fx xs q2
    have ey := fy ys (qy H2)
    have e3 : Ex H2 (upd H2 t (.tup [x, y])) := Ex.new ht
    refine ⟨t, [x, y], rfl, st_of upd_same, rfl, x, [y], rfl, y, [], rfl, rfl, hw x y, ?_⟩
    refine he n x y ex ey _ (e01.trans (e2.trans e3)) _ (Ex.refl _) _ fun H4 e4 => ⟨(List.range n).map v, e4 _ _ (e3 _ _ h2), sz_lt (by rw [List.length_map, List.length_range]; omega), Ex.mut (e2.trans (e3.trans e4)) hD, ?_⟩
    rw [upd_same, List.range_succ, List.map_append]
    rfl
  · have en : n = xs.length := by omega
    subst en
    exact .inl ⟨⟨xs, ys, ⟨q2, qy H2⟩, .inl (Nat.le_refl _)⟩, q Dl H2 (fresh_back e1 hD) (e1.trans e2) h2⟩⟩
end Sg
set_option Elab.async false
set_option linter.all false
set_option maxRecDepth 100000
set_option maxHeartbeats 4000000
/-! SgR1: the defs of ranges. -/
namespace Sg
open PySem PySem.Spec PyProof.Rows L2 Evl

theorem zip_rng {α β : Type} {l : List α} {m : List β} {a : α} {b : β} (h : l.length = m.length) : l.zip m = (List.range l.length).map fun i => (l.getD i a, m.getD i b) := by
  refine List.ext_getElem? fun i => ?_
  rw [List.getElem?_map]
  by_cases hi : i < l.length
  · have h1 : l[i]? = some l[i] := List.getElem?_eq_getElem hi
    have h2 : m[i]? = some m[i] := List.getElem?_eq_getElem (by omega)
    rw [List.getElem?_range hi]
    show _ = some (l.getD i a, m.getD i b)
    rw [getD_of h1, getD_of h2]
    exact List.getElem?_zip_eq_some.mpr ⟨h1, h2⟩
  · rw [List.getElem?_eq_none (by rw [List.length_zip]; omega), List.getElem?_eq_none (by rw [List.length_range]; omega)]
    rfl
theorem rangesM_at {k : Nat} (hk : k < 20) : rangesL[k]? = some (rangesM k) := by
  have hl : k < rangesL.length := hk
  unfold rangesM
  rw [getD_of (List.getElem?_eq_getElem hl), List.getElem?_eq_getElem hl]
section
variable {g : Ctx} {k : Nat}
theorem rng_at (T : Txt g) (hk : k < 20) : ∃ (rs : List V) (r : Addr) (bs : List Addr), (∀ H, SqT g.K H g.aR rs) ∧ atI rs (k : Int) = some (.ref r) ∧ (∀ H, SqT g.K H r (bs.map V.ref)) ∧ bs.length = (rangesM k).length ∧
    ∀ (i : Nat) (p : Int × Int), (rangesM k)[i]? = some p → ∃ b, bs[i]? = some b ∧ ∀ H, SqT g.K H b [.int p.1, .int p.2] := by
  obtain ⟨rs, hl, h1, h2⟩ := T.rng
  obtain ⟨r, bs, a1, a2, a3, a4⟩ := h2 k _ (rangesM_at hk)
  exact ⟨_, r, bs, h1, atI_nat (by rw [List.getElem?_map, a1]; rfl), a2, a3, a4⟩
end
section
variable {σ : L2.St} {H : Hp} {ta tb tc : TE} {i j l : Int}
theorem ev_chain (ha : Ev ta σ H (.int i)) (hb : Ev tb σ H (.int j)) (hc : Ev tc σ H (.int l)) : Ev (tChain (rI0 fun i j => .bl (decide (i ≤ j))) (rI0 fun i j => .bl (decide (i ≤ j))) ta tb tc) σ H (.bl (decide (i ≤ j) && decide (j ≤ l))) := fun H1 e Q k =>
  ha H1 e _ fun H2 e2 => hb H2 (e.trans e2) _ fun H3 e3 => ⟨i, j, rfl, rfl, decide (i ≤ j), rfl, by
    cases c : decide (i ≤ j) with
    | false =>
      rw [c] at k
      exact k H3 (e2.trans e3)
    | true =>
      rw [c] at k
      exact hc H3 ((e.trans e2).trans e3) _ fun H4 e4 => ⟨j, l, rfl, rfl, k H4 ((e2.trans e3).trans e4)⟩⟩
end
theorem lists_of {H : Hp} {p : Addr} {lls : List (List Int)} (h : LVAt H p (lls.map an)) : ∃ ts : List (Addr × List Int), H p = some (.lst (ts.map fun t => V.ref t.1)) ∧ ts.map (·.2) = lls ∧ ∀ t ∈ ts, H t.1 = some (.lst (an t.2)) := by
  obtain ⟨qs, h1, h2, h3⟩ := h
  have key : ∀ (qs : List (Addr × List V)) (lls : List (List Int)), qs.map (·.2) = lls.map an → (∀ q ∈ qs, H q.1 = some (.lst q.2)) → ∃ ts : List (Addr × List Int), (ts.map fun t => V.ref t.1) = (qs.map fun q => V.ref q.1) ∧ ts.map (·.2) = lls ∧ ∀ t ∈ ts, H t.1 = some (.lst (an t.2)) := by
    intro qs
    induction qs with
    | nil =>
      intro lls h _
      cases lls with
      | nil => exact ⟨[], rfl, rfl, fun t ht => absurd ht List.not_mem_nil⟩
      | cons a r => cases h
    | cons q r ih =>
      intro lls h hq
      cases lls with
      | nil => cases h
      | cons a l =>
        rw [List.map_cons, List.map_cons] at h
        injection h with e1 e2
        obtain ⟨ts, t1, t2, t3⟩ := ih l e2 fun x hx => hq x (List.mem_cons_of_mem _ hx)
        refine ⟨(q.1, a) :: ts, by rw [List.map_cons, List.map_cons, t1], by rw [List.map_cons, t2], fun t ht => ?_⟩
        rcases List.mem_cons.mp ht with e | ht
        · rw [e]
          show H q.1 = some (.lst (an a))
          rw [← e1]
          exact hq q List.mem_cons_self
        · exact t3 t ht
  obtain ⟨ts, t1, t2, t3⟩ := key qs lls h2 h3
  exact ⟨ts, by rw [t1]; exact h1, t2, t3⟩
theorem first_obj {k : Nat} (hk : k < 20) (h : byActor k = true) : ∃ r, rangesM k = rObj :: r := by
  rcases (by omega : k = 0 ∨ k = 1 ∨ k = 2 ∨ k = 3 ∨ k = 4 ∨ k = 5 ∨ k = 6 ∨ k = 7 ∨ k = 8 ∨ k = 9 ∨ k = 10 ∨ k = 11 ∨ k = 12 ∨ k = 13 ∨ k = 14 ∨ k = 15 ∨ k = 16 ∨ k = 17 ∨ k = 18 ∨ k = 19) with
    rfl | rfl | rfl | rfl | rfl | rfl | rfl | rfl | rfl | rfl | rfl | rfl | rfl | rfl | rfl | rfl | rfl | rfl | rfl | rfl
  all_goals first | exact ⟨_, rfl⟩ | exact absurd h (by decide)
theorem actor_first {w : Wd} {k : Nat} {ns : List Int} (hk : k < 20) (h : byActor k = true) (h1 : inRangeM k ns = true) (h2 : thereM w k ns = true) (hl : ns.length = (rangesM k).length) : ∃ (n : Nat) (r : List Int), ns = (n : Int) :: r ∧ ex w n := by
  obtain ⟨r, hr⟩ := first_obj hk h
  rw [hr] at hl
  cases ns with
  | nil => cases hl
  | cons a t =>
    unfold inRangeM at h1
    unfold thereM objsM at h2
    rw [hr, List.zip_cons_cons] at h1 h2
    rw [List.all_cons, Bool.and_eq_true] at h1
    rw [List.filter_cons, if_pos (decide_eq_true rfl), List.map_cons, List.all_cons, Bool.and_eq_true, decide_eq_true_iff] at h2
    obtain ⟨n, rfl, b1, b2⟩ := nat_of (lo := 1) (hi := 60) h1.1 (by decide)
    have := h2.1
    exact ⟨n, t, rfl, by omega, by have : (n : Int) ≤ (Vbtaac.objectCount w : Int) := this; omega⟩

theorem ok_is_between {g : Ctx} (T : Txt g) (D : DefAt g "is_between" s_is_between) : H_is_between g := by
  refine mk_def D sc_is_between (fun _ _ _ _ _ _ us hl => match us, hl with | [_, _], _ => rfl) (by rintro vs H Q E ⟨_, _, _, rfl, _⟩; rfl) fun f cdv A outer s H vs Q E hr h => ⟨_, (pss_one (ps_ret (pe_chain op_le op_le (pe_ix (gx_tup g.K) (pv 1) pe_int (fun _ _ => rfl)) (pv 0) (pe_ix (gx_tup g.K) (pv 1) pe_int (fun _ _ => rfl))))), ?_⟩
  obtain ⟨n, b, r, rfl, hb, k⟩ := h
  exact s_ret (ev_chain (ev_ixT (ev_var rfl) ev_c hb (atI_nat (j := 0) rfl)) (ev_var rfl) (ev_ixT (ev_var rfl) ev_c hb (atI_nat (j := 1) rfl))) k
theorem ok_is_proof_list {g : Ctx} (T : Txt g) (D : DefAt g "is_proof_list" s_is_proof_list) (C_is_between : H_is_between g) : H_is_proof_list g := by
  refine mk_def D sc_is_proof_list (fun _ _ _ _ _ _ us hl => match us, hl with | [_], _ => rfl) (by rintro vs H Q E ⟨_, _, rfl, _⟩; rfl) fun f cdv A outer s H vs Q E hr h => ⟨_, (pss_one (ps_ret (pe_and (pe_cmpR op_le (pe_callB (g_len g.K) (by rfl) T.len (by decide +kernel) (pa_cons (pv 0) pa_nil)) (pe_kn T.cMOST_IN_PROOF) (nomark _)) (pe_one (pe_callB (g_all g.K) (by rfl) T.all (by decide +kernel) (pa_cons (pe_lc (own := [("number", 1)]) rfl sc_is_proof_list.nd (gi_list g.K (pv 0)) (blkOk_by (own := [("number", 1)]) (N := ["some", "number"]) (sc := defScope s_is_proof_list) (by decide +kernel)) (fun _ _ _ _ _ => (pg_name (i := 1) sc_is_proof_list.nd rfl (Or.inl rfl))) (fun _ _ _ _ _ => pts_nil) (fun _ _ _ _ _ => (pe_fn C_is_between hr (pa_cons (pv 1) (pa_cons (pe_glob (v := .ref g.aO) rfl T.gOBJECT rfl) pa_nil))))) pa_nil)))))), ?_⟩
  obtain ⟨p, ns, rfl, hp, k⟩ := h
  unfold isProofM at k
  refine s_ret (ev_andV (ev_I (z := .bl (decide (ns.length ≤ 60))) (ev_lenS (ev_var rfl) (sq_of hp) rfl) ev_c ?_) (fun hz => ?_)) k
  · refine congrArg V.bl ?_
    rw [Bool.eq_iff_iff, decide_eq_true_iff, decide_eq_true_iff, List.length_map]
    omega
  · rw [decide_eq_true_iff] at hz
    have := el_lcM (K := g.K) (H := H) (σ := L2.start ["some", "number"] [.ref p]) (tl := tVar 0) (te := tCall (sp_is_between g) [] E0 (tCons (tVar 1) (tCons (tC (.ref g.aO)) tNil))) (t := tYes) (j := 1) (vs := [1])
      ns V.int (fun _ => true) (fun n => .bl (btw n rObj)) (ev_var rfl) (sq_of hp) (by omega) (fun _ => rfl) (fun n hn H1 e1 => et_yes) (fun n hn _ H1 e1 => ev_fn (ea_cons (ev_var rfl) (ea_cons ev_c ea_nil)) (fun H2 e2 Q k2 _ => ⟨n, g.aO, rObj, rfl, T.obj H2, k2⟩))
    rw [filter_all] at this
    refine ev_allN (bs := ns.map fun n => btw n rObj) ?_ (by rw [List.all_map]; rfl)
    rw [List.map_map]
    exact this
theorem ok_are_in_range {g : Ctx} (T : Txt g) (D : DefAt g "are_in_range" s_are_in_range) (C_is_between : H_is_between g) : H_are_in_range g := by
  refine mk_def D sc_are_in_range (fun _ _ _ _ _ _ us hl => match us, hl with | [_, _], _ => rfl) (by rintro vs H Q E ⟨_, _, _, rfl, _⟩; rfl) fun f cdv A outer s H vs Q E hr h => ⟨_, (pss_one (ps_ret (pe_callB (g_all g.K) (by rfl) T.all (by decide +kernel) (pa_cons (pe_lc (own := [("number", 2), ("bounds", 3)]) rfl sc_are_in_range.nd (pi_zipLT rfl T.zip (pa_cons (pv 1) (pa_cons (pe_ix (gx_tup g.K) (pe_glob (v := .ref g.aR) rfl T.gRANGES rfl) (pv 0) (fun _ _ => rfl)) pa_nil))) (blkOk_by (own := [("number", 2), ("bounds", 3)]) (N := ["word", "numbers", "number", "bounds"]) (sc := defScope s_are_in_range) (by decide +kernel)) (fun _ _ _ _ _ => (gg_tup g.K (n := 2) (pgs_cons (pg_name (i := 2) sc_are_in_range.nd rfl (Or.inl rfl)) (pgs_cons (pg_name (i := 3) sc_are_in_range.nd rfl (Or.inl rfl)) pgs_nil)))) (fun _ _ _ _ _ => pts_nil) (fun _ _ _ _ _ => (pe_fn C_is_between hr (pa_cons (pv 2) (pa_cons (pv 3) pa_nil))))) pa_nil)))), ?_⟩
  obtain ⟨k', p, ns, rfl, hk, hp, hl, k⟩ := h
  obtain ⟨rs, r, bs, hR, hr0, hrs, hbl, hb⟩ := rng_at T hk
  have e : inRangeM k' ns = ((List.range ns.length).map fun i => btw (ns.getD i 0) ((rangesM k').getD i (0, 0))).all id := by
    unfold inRangeM
    rw [zip_rng (a := 0) (b := (0, 0)) hl, List.all_map, List.all_map]
    rfl
  rw [e] at k
  have hlen : ns.length ≤ 5 := by
    rw [hl]
    rcases (by omega : k' = 0 ∨ k' = 1 ∨ k' = 2 ∨ k' = 3 ∨ k' = 4 ∨ k' = 5 ∨ k' = 6 ∨ k' = 7 ∨ k' = 8 ∨ k' = 9 ∨ k' = 10 ∨ k' = 11 ∨ k' = 12 ∨ k' = 13 ∨ k' = 14 ∨ k' = 15 ∨ k' = 16 ∨ k' = 17 ∨ k' = 18 ∨ k' = 19) with
      rfl | rfl | rfl | rfl | rfl | rfl | rfl | rfl | rfl | rfl | rfl | rfl | rfl | rfl | rfl | rfl | rfl | rfl | rfl | rfl <;> decide
  refine s_ret (ev_allN (bs := (List.range ns.length).map fun i => btw (ns.getD i 0) ((rangesM k').getD i (0, 0))) ?_ rfl) k
  have := el_zipLT (K := g.K) (σ := L2.start ["word", "numbers", "number", "bounds"] [iv k', .ref p]) (H := H) (ta := tCons (tVar 1) (tCons (tOp (rIxT g.K) (tC (.ref g.aR)) (tVar 0)) tNil)) (te := tCall (sp_is_between g) [] E0 (tCons (tVar 2) (tCons (tVar 3) tNil))) (i := 2) (j := 3) (vs := [2, 3])
    (an ns) (bs.map V.ref) (fun i => .bl (btw (ns.getD i 0) ((rangesM k').getD i (0, 0)))) (ea_cons (ev_var rfl) (ea_cons (ev_ixT ev_c (ev_var rfl) (hR H) hr0) ea_nil)) (sq_of hp) hrs (by rw [List.length_map, List.length_map, hl, hbl]) (by rw [List.length_map]; omega) (fun _ _ => rfl) (fun i x y hx hy H1 e1 => by
      obtain ⟨n, hn, rfl⟩ := map_get hx
      obtain ⟨b, hb1, rfl⟩ := map_get hy
      have hi : i < (rangesM k').length := by
        have := (List.getElem?_eq_some_iff.mp hn).1
        omega
      obtain ⟨b', h1, h2⟩ := hb i _ (List.getElem?_eq_getElem hi)
      have eb : b' = b := Option.some.inj (h1.symm.trans hb1)
      subst eb
      rw [getD_of hn, getD_of (List.getElem?_eq_getElem hi)]
      exact ev_fn (ea_cons (ev_var rfl) (ea_cons (ev_var rfl) ea_nil)) (fun H2 e2 Q k2 _ => ⟨n, b', _, rfl, h2 H2, k2⟩))
  rw [List.length_map] at this
  rw [List.map_map]
  exact this
theorem ok_are_there {g : Ctx} (T : Txt g) (D : DefAt g "are_there" s_are_there) (C_World_many : H_World_many g) : H_are_there g := by
  refine mk_def D sc_are_there (fun _ _ _ _ _ _ us hl => match us, hl with | [_, _, _], _ => rfl) (by rintro vs H Q E ⟨_, _, _, _, _, rfl, _⟩; rfl) fun f cdv A outer s H vs Q E hr h => ⟨_, (pss_cons (ps_setLc (i := 3) (own := [("at", 4)]) rfl sc_are_there.nd rfl rfl (sw_true rfl rfl rfl (by decide +kernel)) (pi_range1 rfl T.range (pa_cons (pe_callB (g_len g.K) (by rfl) T.len (by decide +kernel) (pa_cons (pv 2) pa_nil)) pa_nil)) (blkOk_by (own := [("at", 4)]) (N := ["world", "word", "numbers", "some", "at", "number"]) (sc := defScope s_are_there) (by decide +kernel)) (fun _ _ _ _ _ => (pg_name (i := 4) sc_are_there.nd rfl (Or.inl rfl))) (fun _ _ _ _ _ => (pts_one (pt_cmpR (g_eqD g.K hr.units) (pe_ix (gx_tup g.K) (pe_ix (gx_tup g.K) (pe_glob (v := .ref g.aR) rfl T.gRANGES rfl) (pv 1) (fun _ _ => rfl)) (pv 4) (fun _ _ => rfl)) (pe_glob (v := .ref g.aO) rfl T.gOBJECT rfl) (nomark _)))) (fun _ _ _ _ _ => (pe_ix (gx_list g.K) (pv 2) (pv 4) (fun _ _ => rfl)))) (pss_one (ps_ret (pe_callB (g_all g.K) (by rfl) T.all (by decide +kernel) (pa_cons (pe_lc (own := [("number", 5)]) rfl sc_are_there.nd (gi_list g.K (pv 3)) (blkOk_by (own := [("number", 5)]) (N := ["world", "word", "numbers", "some", "at", "number"]) (sc := defScope s_are_there) (by decide +kernel)) (fun _ _ _ _ _ => (pg_name (i := 5) sc_are_there.nd rfl (Or.inl rfl))) (fun _ _ _ _ _ => pts_nil) (fun _ _ _ _ _ => (pe_cmpR op_le (pv 5) (pe_md0 C_World_many T.clW hr (pv 0)) (nomark _)))) pa_nil))))), ?_⟩
  obtain ⟨L, w, k', p, ns, rfl, hw, hk, hp, hl, k⟩ := h
  obtain ⟨rs, r, bs, hR, hr0, hrs, hbl, hb⟩ := rng_at T hk
  have hlen : ns.length ≤ 5 := by
    rw [hl]
    rcases (by omega : k' = 0 ∨ k' = 1 ∨ k' = 2 ∨ k' = 3 ∨ k' = 4 ∨ k' = 5 ∨ k' = 6 ∨ k' = 7 ∨ k' = 8 ∨ k' = 9 ∨ k' = 10 ∨ k' = 11 ∨ k' = 12 ∨ k' = 13 ∨ k' = 14 ∨ k' = 15 ∨ k' = 16 ∨ k' = 17 ∨ k' = 18 ∨ k' = 19) with
      rfl | rfl | rfl | rfl | rfl | rfl | rfl | rfl | rfl | rfl | rfl | rfl | rfl | rfl | rfl | rfl | rfl | rfl | rfl | rfl <;> decide
  have e : objsM k' ns = ((List.range ns.length).filter fun i => decide ((rangesM k').getD i (0, 0) = rObj)).map fun i => ns.getD i 0 := by
    unfold objsM
    rw [zip_rng (a := 0) (b := (0, 0)) hl, List.filter_map, List.map_map]
    rfl
  have hol : (objsM k' ns).length ≤ 5 := by
    rw [e, List.length_map]
    have := List.length_filter_le (fun i => decide ((rangesM k').getD i (0, 0) = rObj)) (List.range ns.length)
    rw [List.length_range] at this
    omega
  have hlc := el_lcR (H := H) (σ := L2.start ["world", "word", "numbers", "some", "at", "number"] [.ref L.a, iv k', .ref p]) (ta := tCons (tCB (rLenS g.K) (tCons (tVar 2) tNil)) tNil)
    (te := tOp (rIxL g.K) (tVar 2) (tVar 4)) (t := tTest (tOp (rEqD g.K) (tOp (rIxT g.K) (tOp (rIxT g.K) (tC (.ref g.aR)) (tVar 1)) (tVar 4)) (tC (.ref g.aO)))) (j := 4) (vs := [4])
    ns.length (fun i => decide ((rangesM k').getD i (0, 0) = rObj)) (fun i => .int (ns.getD i 0)) (ea_cons (ev_lenS (ev_var rfl) (sq_of hp) (by rw [List.length_map])) ea_nil) (by omega) (fun _ => rfl)
    (fun i hi H1 e1 => by
      have hi2 : i < (rangesM k').length := by omega
      obtain ⟨b, h1, h2⟩ := hb i _ (List.getElem?_eq_getElem hi2)
      rw [getD_of (List.getElem?_eq_getElem hi2)]
      have eq : decide ((rangesM k')[i] = rObj) = ([(rangesM k')[i].1, (rangesM k')[i].2] == [(1 : Int), 60]) := by
        rw [Bool.eq_iff_iff, decide_eq_true_iff, beq_iff_eq]
        constructor
        · intro z
          rw [z]
          rfl
        · intro z
          injection z with z1 z2
          injection z2 with z2
          exact Prod.ext z1 z2
      rw [eq]
      exact et_test (ev_op (ev_ixT (ev_ixT ev_c (ev_var rfl) (hR H1) hr0) (ev_var rfl) (hrs H1) (atI_nat (by rw [List.getElem?_map, h1]; rfl))) ev_c (rv_eqT (ns := [(rangesM k')[i].1, (rangesM k')[i].2]) (ms := [1, 60]) (h2 H1) (T.obj H1))))
    (fun i hi _ H1 e1 => by
      rw [getD_of (List.getElem?_eq_getElem hi)]
      exact ev_ix (ev_var rfl) (ev_var rfl) (sq_of (e1 _ _ hp)) (atI_nat (by rw [List.getElem?_map, List.getElem?_eq_getElem hi]; rfl)))
  have hlc2 : ((List.range ns.length).filter fun i => decide ((rangesM k').getD i (0, 0) = rObj)).map (fun i => V.int (ns.getD i 0)) = an (objsM k' ns) := by
    rw [e, an, List.map_map]
    rfl
  rw [hlc2] at hlc
  refine q_asgL hlc fun q H1 hq e1 h1 => ?_
  unfold thereM at k
  have hw1 := hw.mono e1
  refine s_ret (ev_allN (bs := (objsM k' ns).map fun n => decide (n ≤ (Vbtaac.objectCount w : Int))) ?_ (by rw [List.all_map]; rfl)) fun H2 e2 => k H2 (e1.trans e2)
  have := el_lcM (K := g.K) (H := H1) (σ := (L2.start ["world", "word", "numbers", "some", "at", "number"] [.ref L.a, iv k', .ref p]).set 3 (some (.ref q))) (tl := tVar 3) (te := tOp (rI0 fun i j => .bl (decide (i ≤ j))) (tVar 5) (tMeth g.CW "many" (sp_World_many g) [] E0 (tVar 0) tNil)) (t := tYes) (j := 5) (vs := [5])
    (objsM k' ns) V.int (fun _ => true) (fun n => .bl (decide (n ≤ (Vbtaac.objectCount w : Int)))) (ev_var rfl) (sq_of h1) (by omega) (fun _ => rfl) (fun n hn H2 e2 => et_yes) (fun n hn _ H2 e2 => ev_I (ev_var rfl) (ev_wm (hw1.mono e2).at_ (ev_var rfl) (fun _ _ => wo_none) ea_nil (sv_many (hw1.mono e2))) rfl)
  rw [filter_all] at this
  rw [List.map_map]
  exact this
theorem ok_common_error {g : Ctx} (T : Txt g) (D : DefAt g "common_error" s_common_error) (C_are_there : H_are_there g) (C_are_in_range : H_are_in_range g) (C_World_has_trait : H_World_has_trait g) (C_is_proof_list : H_is_proof_list g) : H_common_error g := by
  refine mk_def D sc_common_error (fun _ _ _ _ _ _ us hl => match us, hl with | [_, _, _, _], _ => rfl) (by rintro vs H Q E ⟨_, _, _, _, _, _, _, rfl, _⟩; rfl) fun f cdv A outer s H vs Q E hr h => ⟨_, (pss_cons (ps_if (PW.pt (pw_or (pt_not (pt_val (pe_fn C_are_in_range hr (pa_cons (pv 1) (pa_cons (pv 2) pa_nil))))) (pw_or1 (pt_not (pt_val (pe_callB (g_all g.K) (by rfl) T.all (by decide +kernel) (pa_cons (pe_lc (own := [("some", 4)]) rfl sc_common_error.nd (gi_list g.K (pv 3)) (blkOk_by (own := [("some", 4)]) (N := ["world", "word", "numbers", "lists", "some"]) (sc := defScope s_common_error) (by decide +kernel)) (fun _ _ _ _ _ => (pg_name (i := 4) sc_common_error.nd rfl (Or.inl rfl))) (fun _ _ _ _ _ => pts_nil) (fun _ _ _ _ _ => (pe_fn C_is_proof_list hr (pa_cons (pv 4) pa_nil)))) pa_nil))))))) (pss_one (ps_ret (pe_un un_neg pe_int))) pss_nil) (pss_cons (ps_if (pt_not (pt_val (pe_fn C_are_there hr (pa_cons (pv 0) (pa_cons (pv 1) (pa_cons (pv 2) pa_nil)))))) (pss_one (ps_ret (pe_un un_neg pe_int))) pss_nil) (pss_cons (ps_if (PW.pt (pw_and (pt_cmpR (g_in g.K) (pv 1) (pe_glob (v := .ref g.aB) rfl T.gBY_ACTORS rfl) (by rfl)) (pw_and1 (pt_not (pt_val (pe_md C_World_has_trait T.clW hr (pv 0) (pa_cons (pe_ix (gx_list g.K) (pv 2) pe_int (fun _ _ => rfl)) (pa_cons (pe_kn T.cACTOR) pa_nil)))))))) (pss_one (ps_ret (pe_un un_neg pe_int))) pss_nil) (pss_one (ps_ret pe_int))))), ?_⟩
  obtain ⟨L, w, k', p, ls, ns, lls, rfl, hw, hk, hp, hl, hls, hll, k⟩ := h
  obtain ⟨ts, t1, t2, t3⟩ := lists_of hls
  have htl : ts.length ≤ 2 := by
    have := congrArg List.length t2
    rw [List.length_map] at this
    omega
  unfold codeM at k
  refine q_when (b := !inRangeM k' ns || !lls.all isProofM) (et_or (et_not (et_test (ev_fn (ea_cons (ev_var rfl) (ea_cons (ev_var rfl) ea_nil)) (fun H1 e1 Q k1 _ => ⟨k', p, ns, rfl, hk, e1 _ _ hp, hl, k1⟩)))) (fun _ => et_not (et_test (ev_allN (bs := ts.map fun t => isProofM t.2) ?_ ?_)))) (fun hb H1 e1 => ?_) (fun hb H1 e1 => ?_)
  · have := el_lcM (K := g.K) (H := H) (σ := L2.start ["world", "word", "numbers", "lists", "some"] [.ref L.a, iv k', .ref p, .ref ls]) (tl := tVar 3) (te := tCall (sp_is_proof_list g) [] E0 (tCons (tVar 4) tNil)) (t := tYes) (j := 4) (vs := [4])
      ts (fun t => V.ref t.1) (fun _ => true) (fun t => .bl (isProofM t.2)) (ev_var rfl) (sq_of t1) (by omega) (fun _ => rfl) (fun n hn H2 e2 => et_yes) (fun t ht _ H2 e2 => ev_fn (ea_cons (ev_var rfl) ea_nil) (fun H3 e3 Q k3 _ => ⟨t.1, t.2, rfl, (e2.trans e3) _ _ (t3 t ht), k3⟩))
    rw [filter_all] at this
    rw [List.map_map]
    exact this
  · rw [← t2, List.all_map, List.all_map]
    rfl
  · rw [if_pos hb] at k
    exact s_ret (ev_un ev_c ru_neg) fun H2 e2 => k H2 (e1.trans e2)
  rw [if_neg (by rw [hb]; exact Bool.false_ne_true)] at k
  rw [Bool.or_eq_false_iff, Bool.not_eq_false', Bool.not_eq_false'] at hb
  have hw1 := hw.mono e1
  refine q_when (b := !thereM w k' ns) (et_not (et_test (ev_fn (ea_cons (ev_var rfl) (ea_cons (ev_var rfl) (ea_cons (ev_var rfl) ea_nil))) (fun H2 e2 Q k2 _ => ⟨L, w, k', p, ns, rfl, hw1.mono e2, hk, (e1.trans e2) _ _ hp, hl, k2⟩)))) (fun hb2 H2 e2 => ?_) (fun hb2 H2 e2 => ?_)
  · rw [Bool.not_eq_true'] at hb2
    rw [if_pos hb2] at k
    exact s_ret (ev_un ev_c ru_neg) fun H3 e3 => k H3 ((e1.trans e2).trans e3)
  rw [Bool.not_eq_false'] at hb2
  rw [if_neg (by rw [hb2]; exact Bool.noConfusion)] at k
  have hw2 := hw1.mono e2
  have e12 := e1.trans e2
  refine q_when (b := byActor k' && !Vbtaac.hasProperty w (ns.headD 0).toNat Vbtaac.actorBit) (et_and (et_test ?_) (fun ha => et_not (et_test ?_))) (fun hb3 H3 e3 => ?_) (fun hb3 H3 e3 => ?_)
  · have := ev_op (r := rIn g.K false) (σ := L2.start ["world", "word", "numbers", "lists", "some"] [.ref L.a, iv k', .ref p, .ref ls]) (H := H2) (ta := tVar 1) (tb := tC (.ref g.aB)) (x := iv k') (ev_var rfl) ev_c (rv_isT (T.byA H2) rfl (nv_flat _))
    rw [inV_nv] at this
    exact this
  · obtain ⟨n, r, rfl, hn⟩ := actor_first hk ha hb.1 hb2 hl
    exact ev_wm hw2.at_ (ev_var rfl) (fun _ _ => wo_none) (ea_cons (ev_first rfl (e12 _ _ hp)) (ea_cons ev_c ea_nil)) (sv_has_trait hw2 hn 2)
  · rw [if_pos hb3] at k
    exact s_ret (ev_un ev_c ru_neg) fun H4 e4 => k H4 ((e12.trans e3).trans e4)
  · rw [if_neg (by rw [hb3]; exact Bool.false_ne_true)] at k
    exact s_ret ev_c fun H4 e4 => k H4 ((e12.trans e3).trans e4)
end Sg
set_option Elab.async false
set_option linter.all false
set_option maxRecDepth 100000
set_option maxHeartbeats 4000000
/-! SgD1: the defs of desk, but for answers. -/
namespace Sg
open PySem PySem.Spec PyProof.Rows L2 Evl

section
variable {g : Ctx} {L : Lay} {w : Wd} {σ : L2.St} {H H1 : Hp} {D : Ends} {q : Addr} {ms : List Nat} {k : Nat} {E : XK}
theorem s_chg (hw : WG g L H1 w) (hq : H1 q = some (.lst (nv ms))) (ok : okM w k ms) (ac : actorM w k ms) (kk : RetO g L (opM w k ms [] []).1 (opM w k ms [] []).2 H1 D.rt) (s0 : σ[0]? = some (some (.ref L.a))) (s2 : σ[2]? = some (some (.ref q))) :
    tRet (tCall (spChg g k) [] E (tCons (tVar 0) (tCons (tVar 2) tNil))) D σ H1 := ⟨_, s0, _, s2, L, w, q, ms, rfl, hw, hq, ok, ac, kk⟩
theorem s_ask (hw : WG g L H1 w) (hq : H1 q = some (.lst (nv ms))) (ok : okM w k ms) (ac : actorM w k ms) (hz : (opM w k ms [] []).2.length ≤ 16000000) (kk : RetL (an (opM w k ms [] []).2) H1 D.rt) (s0 : σ[0]? = some (some (.ref L.a))) (s2 : σ[2]? = some (some (.ref q))) :
    tRet (tCall (spAsk g k) [] E (tCons (tVar 0) (tCons (tVar 2) tNil))) D σ H1 := ⟨_, s0, _, s2, L, w, q, ms, rfl, hw, hq, ok, ac, hz, kk⟩
theorem RetL.back {xs : List V} {Q : VK} (k : RetL xs H Q) (e : Ex H H1) : RetL xs H1 Q := fun p H2 hp e2 h2 => k p H2 (fresh_back e hp) (e.trans e2) h2
end

theorem cut_nat {l : List Int} {a c : Nat} (h : a ≤ l.length) : cutV (an l) (some ((a : Nat) : Int)) (some ((a + c : Nat) : Int)) = an ((l.drop a).take c) := by
  unfold cutV
  rw [HT.sIx_nat, HT.sIx_nat, List.length_map, Nat.min_eq_left h]
  rw [an, an, ← List.map_drop, ← List.map_take]
  refine congrArg _ ?_
  by_cases z : a + c ≤ l.length
  · rw [Nat.min_eq_left z, Nat.add_sub_cancel_left]
  · rw [Nat.min_eq_right (by omega), List.take_of_length_le (by rw [List.length_drop]; omega), List.take_of_length_le (by rw [List.length_drop]; omega)]

theorem ok_changed {g : Ctx} (T : Txt g) (D : DefAt g "changed" s_changed) (C_open_or_close : H_open_or_close g) (C_add_place : H_add_place g) (C_add_object : H_add_object g) (C_move_object : H_move_object g) (C_set_property : H_set_property g) (C_set_window : H_set_window g) (C_take_object : H_take_object g) (C_put_object : H_put_object g) (C_drop_object : H_drop_object g) : H_changed g := by
  refine mk_def D sc_changed (fun _ _ _ _ _ _ us hl => match us, hl with | [_, _, _], _ => rfl) (by rintro vs H Q E ⟨_, _, _, _, _, rfl, _⟩; rfl) fun f cdv A outer s H vs Q E hr h => ⟨_, (pss_cons (ps_if (pt_cmpR op_eq (pv 1) pe_int (nomark _)) (pss_one (ps_ret (pe_fn C_add_place hr (pa_cons (pv 0) (pa_cons (pv 2) pa_nil))))) pss_nil) (pss_cons (ps_if (pt_cmpR op_eq (pv 1) pe_int (nomark _)) (pss_one (ps_ret (pe_fn C_add_object hr (pa_cons (pv 0) (pa_cons (pv 2) pa_nil))))) pss_nil) (pss_cons (ps_if (pt_cmpR op_eq (pv 1) pe_int (nomark _)) (pss_one (ps_ret (pe_fn C_move_object hr (pa_cons (pv 0) (pa_cons (pv 2) pa_nil))))) pss_nil) (pss_cons (ps_if (pt_cmpR op_eq (pv 1) pe_int (nomark _)) (pss_one (ps_ret (pe_fn C_set_property hr (pa_cons (pv 0) (pa_cons (pv 2) pa_nil))))) pss_nil) (pss_cons (ps_if (pt_cmpR op_eq (pv 1) pe_int (nomark _)) (pss_one (ps_ret (pe_fn C_set_window hr (pa_cons (pv 0) (pa_cons (pv 2) pa_nil))))) pss_nil) (pss_cons (ps_if (pt_cmpR op_eq (pv 1) pe_int (nomark _)) (pss_one (ps_ret (pe_fn C_take_object hr (pa_cons (pv 0) (pa_cons (pv 2) pa_nil))))) pss_nil) (pss_cons (ps_if (pt_cmpR op_eq (pv 1) pe_int (nomark _)) (pss_one (ps_ret (pe_fn C_put_object hr (pa_cons (pv 0) (pa_cons (pv 2) pa_nil))))) pss_nil) (pss_cons (ps_if (pt_cmpR op_eq (pv 1) pe_int (nomark _)) (pss_one (ps_ret (pe_fn C_drop_object hr (pa_cons (pv 0) (pa_cons (pv 2) pa_nil))))) pss_nil) (pss_one (ps_ret (pe_fn C_open_or_close hr (pa_cons (pv 0) (pa_cons (pv 2) pa_nil))))))))))))), ?_⟩
  obtain ⟨L, w, k', q, ms, rfl, hw, hq, hk, ok, ac, kk⟩ := h
  have e0 : Ex H H := Ex.refl H
  refine q_when (b := k' == 0) (et_test (ev_eq (y := iv 0) (ev_var rfl) ev_c rfl iv_eq)) (fun hb H1 e => ?_) (fun hb0 H1 e => ?_)
  · have hb : k' = 0 := by simpa using hb
    subst hb
    have e := e0.trans e
    exact s_chg (hw.mono e) (e _ _ hq) ok ac (kk.back e) rfl rfl
  have e1 := e0.trans e
  have n0 : k' ≠ 0 := by simpa using hb0
  refine q_when (b := k' == 1) (et_test (ev_eq (y := iv 1) (ev_var rfl) ev_c rfl iv_eq)) (fun hb H2 e => ?_) (fun hb1 H2 e => ?_)
  · have hb : k' = 1 := by simpa using hb
    subst hb
    have e := e1.trans e
    exact s_chg (hw.mono e) (e _ _ hq) ok ac (kk.back e) rfl rfl
  have e2 := e1.trans e
  have n1 : k' ≠ 1 := by simpa using hb1
  refine q_when (b := k' == 2) (et_test (ev_eq (y := iv 2) (ev_var rfl) ev_c rfl iv_eq)) (fun hb H3 e => ?_) (fun hb2 H3 e => ?_)
  · have hb : k' = 2 := by simpa using hb
    subst hb
    have e := e2.trans e
    exact s_chg (hw.mono e) (e _ _ hq) ok ac (kk.back e) rfl rfl
  have e3 := e2.trans e
  have n2 : k' ≠ 2 := by simpa using hb2
  refine q_when (b := k' == 3) (et_test (ev_eq (y := iv 3) (ev_var rfl) ev_c rfl iv_eq)) (fun hb H4 e => ?_) (fun hb3 H4 e => ?_)
  · have hb : k' = 3 := by simpa using hb
    subst hb
    have e := e3.trans e
    exact s_chg (hw.mono e) (e _ _ hq) ok ac (kk.back e) rfl rfl
  have e4 := e3.trans e
  have n3 : k' ≠ 3 := by simpa using hb3
  refine q_when (b := k' == 4) (et_test (ev_eq (y := iv 4) (ev_var rfl) ev_c rfl iv_eq)) (fun hb H5 e => ?_) (fun hb4 H5 e => ?_)
  · have hb : k' = 4 := by simpa using hb
    subst hb
    have e := e4.trans e
    exact s_chg (hw.mono e) (e _ _ hq) ok ac (kk.back e) rfl rfl
  have e5 := e4.trans e
  have n4 : k' ≠ 4 := by simpa using hb4
  refine q_when (b := k' == 5) (et_test (ev_eq (y := iv 5) (ev_var rfl) ev_c rfl iv_eq)) (fun hb H6 e => ?_) (fun hb5 H6 e => ?_)
  · have hb : k' = 5 := by simpa using hb
    subst hb
    have e := e5.trans e
    exact s_chg (hw.mono e) (e _ _ hq) ok ac (kk.back e) rfl rfl
  have e6 := e5.trans e
  have n5 : k' ≠ 5 := by simpa using hb5
  refine q_when (b := k' == 6) (et_test (ev_eq (y := iv 6) (ev_var rfl) ev_c rfl iv_eq)) (fun hb H7 e => ?_) (fun hb6 H7 e => ?_)
  · have hb : k' = 6 := by simpa using hb
    subst hb
    have e := e6.trans e
    exact s_chg (hw.mono e) (e _ _ hq) ok ac (kk.back e) rfl rfl
  have e7 := e6.trans e
  have n6 : k' ≠ 6 := by simpa using hb6
  refine q_when (b := k' == 7) (et_test (ev_eq (y := iv 7) (ev_var rfl) ev_c rfl iv_eq)) (fun hb H8 e => ?_) (fun hb7 H8 e => ?_)
  · have hb : k' = 7 := by simpa using hb
    subst hb
    have e := e7.trans e
    exact s_chg (hw.mono e) (e _ _ hq) ok ac (kk.back e) rfl rfl
  have e8 := e7.trans e
  have n7 : k' ≠ 7 := by simpa using hb7
  have hb : k' = 8 := by omega
  subst hb
  exact s_chg (hw.mono e8) (e8 _ _ hq) ok ac (kk.back e8) rfl rfl
theorem ok_asked {g : Ctx} (T : Txt g) (D : DefAt g "asked" s_asked) (C_list_windows : H_list_windows g) (C_locate : H_locate g) (C_list_contents : H_list_contents g) (C_can_see : H_can_see g) (C_is_lit : H_is_lit g) (C_list_visible : H_list_visible g) (C_list_reachable : H_list_reachable g) (C_get_load : H_get_load g) (C_compare_spaces : H_compare_spaces g) (C_get_properties : H_get_properties g) : H_asked g := by
  refine mk_def D sc_asked (fun _ _ _ _ _ _ us hl => match us, hl with | [_, _, _], _ => rfl) (by rintro vs H Q E ⟨_, _, _, _, _, rfl, _⟩; rfl) fun f cdv A outer s H vs Q E hr h => ⟨_, (pss_cons (ps_if (pt_cmpR op_eq (pv 1) pe_int (nomark _)) (pss_one (ps_ret (pe_fn C_locate hr (pa_cons (pv 0) (pa_cons (pv 2) pa_nil))))) pss_nil) (pss_cons (ps_if (pt_cmpR op_eq (pv 1) pe_int (nomark _)) (pss_one (ps_ret (pe_fn C_list_contents hr (pa_cons (pv 0) (pa_cons (pv 2) pa_nil))))) pss_nil) (pss_cons (ps_if (pt_cmpR op_eq (pv 1) pe_int (nomark _)) (pss_one (ps_ret (pe_fn C_can_see hr (pa_cons (pv 0) (pa_cons (pv 2) pa_nil))))) pss_nil) (pss_cons (ps_if (pt_cmpR op_eq (pv 1) pe_int (nomark _)) (pss_one (ps_ret (pe_fn C_is_lit hr (pa_cons (pv 0) (pa_cons (pv 2) pa_nil))))) pss_nil) (pss_cons (ps_if (pt_cmpR op_eq (pv 1) pe_int (nomark _)) (pss_one (ps_ret (pe_fn C_list_visible hr (pa_cons (pv 0) (pa_cons (pv 2) pa_nil))))) pss_nil) (pss_cons (ps_if (pt_cmpR op_eq (pv 1) pe_int (nomark _)) (pss_one (ps_ret (pe_fn C_list_reachable hr (pa_cons (pv 0) (pa_cons (pv 2) pa_nil))))) pss_nil) (pss_cons (ps_if (pt_cmpR op_eq (pv 1) pe_int (nomark _)) (pss_one (ps_ret (pe_fn C_get_load hr (pa_cons (pv 0) (pa_cons (pv 2) pa_nil))))) pss_nil) (pss_cons (ps_if (pt_cmpR op_eq (pv 1) pe_int (nomark _)) (pss_one (ps_ret (pe_fn C_compare_spaces hr (pa_cons (pv 0) (pa_cons (pv 2) pa_nil))))) pss_nil) (pss_cons (ps_if (pt_cmpR op_eq (pv 1) pe_int (nomark _)) (pss_one (ps_ret (pe_fn C_get_properties hr (pa_cons (pv 0) (pa_cons (pv 2) pa_nil))))) pss_nil) (pss_one (ps_ret (pe_fn C_list_windows hr (pa_cons (pv 0) (pa_cons (pv 2) pa_nil)))))))))))))), ?_⟩
  obtain ⟨L, w, k', q, ms, rfl, hw, hq, hk, hk2, hk3, ok, ac, hz, kk⟩ := h
  have e0 : Ex H H := Ex.refl H
  refine q_when (b := k' == 9) (et_test (ev_eq (y := iv 9) (ev_var rfl) ev_c rfl iv_eq)) (fun hb H1 e => ?_) (fun hb9 H1 e => ?_)
  · have hb : k' = 9 := by simpa using hb
    subst hb
    have e := e0.trans e
    exact s_ask (hw.mono e) (e _ _ hq) ok ac hz (RetL.back kk e) rfl rfl
  have e1 := e0.trans e
  have n9 : k' ≠ 9 := by simpa using hb9
  refine q_when (b := k' == 10) (et_test (ev_eq (y := iv 10) (ev_var rfl) ev_c rfl iv_eq)) (fun hb H2 e => ?_) (fun hb10 H2 e => ?_)
  · have hb : k' = 10 := by simpa using hb
    subst hb
    have e := e1.trans e
    exact s_ask (hw.mono e) (e _ _ hq) ok ac hz (RetL.back kk e) rfl rfl
  have e2 := e1.trans e
  have n10 : k' ≠ 10 := by simpa using hb10
  refine q_when (b := k' == 11) (et_test (ev_eq (y := iv 11) (ev_var rfl) ev_c rfl iv_eq)) (fun hb H3 e => ?_) (fun hb11 H3 e => ?_)
  · have hb : k' = 11 := by simpa using hb
    subst hb
    have e := e2.trans e
    exact s_ask (hw.mono e) (e _ _ hq) ok ac hz (RetL.back kk e) rfl rfl
  have e3 := e2.trans e
  have n11 : k' ≠ 11 := by simpa using hb11
  refine q_when (b := k' == 13) (et_test (ev_eq (y := iv 13) (ev_var rfl) ev_c rfl iv_eq)) (fun hb H4 e => ?_) (fun hb13 H4 e => ?_)
  · have hb : k' = 13 := by simpa using hb
    subst hb
    have e := e3.trans e
    exact s_ask (hw.mono e) (e _ _ hq) ok ac hz (RetL.back kk e) rfl rfl
  have e4 := e3.trans e
  have n13 : k' ≠ 13 := by simpa using hb13
  refine q_when (b := k' == 14) (et_test (ev_eq (y := iv 14) (ev_var rfl) ev_c rfl iv_eq)) (fun hb H5 e => ?_) (fun hb14 H5 e => ?_)
  · have hb : k' = 14 := by simpa using hb
    subst hb
    have e := e4.trans e
    exact s_ask (hw.mono e) (e _ _ hq) ok ac hz (RetL.back kk e) rfl rfl
  have e5 := e4.trans e
  have n14 : k' ≠ 14 := by simpa using hb14
  refine q_when (b := k' == 15) (et_test (ev_eq (y := iv 15) (ev_var rfl) ev_c rfl iv_eq)) (fun hb H6 e => ?_) (fun hb15 H6 e => ?_)
  · have hb : k' = 15 := by simpa using hb
    subst hb
    have e := e5.trans e
    exact s_ask (hw.mono e) (e _ _ hq) ok ac hz (RetL.back kk e) rfl rfl
  have e6 := e5.trans e
  have n15 : k' ≠ 15 := by simpa using hb15
  refine q_when (b := k' == 16) (et_test (ev_eq (y := iv 16) (ev_var rfl) ev_c rfl iv_eq)) (fun hb H7 e => ?_) (fun hb16 H7 e => ?_)
  · have hb : k' = 16 := by simpa using hb
    subst hb
    have e := e6.trans e
    exact s_ask (hw.mono e) (e _ _ hq) ok ac hz (RetL.back kk e) rfl rfl
  have e7 := e6.trans e
  have n16 : k' ≠ 16 := by simpa using hb16
  refine q_when (b := k' == 17) (et_test (ev_eq (y := iv 17) (ev_var rfl) ev_c rfl iv_eq)) (fun hb H8 e => ?_) (fun hb17 H8 e => ?_)
  · have hb : k' = 17 := by simpa using hb
    subst hb
    have e := e7.trans e
    exact s_ask (hw.mono e) (e _ _ hq) ok ac hz (RetL.back kk e) rfl rfl
  have e8 := e7.trans e
  have n17 : k' ≠ 17 := by simpa using hb17
  refine q_when (b := k' == 18) (et_test (ev_eq (y := iv 18) (ev_var rfl) ev_c rfl iv_eq)) (fun hb H9 e => ?_) (fun hb18 H9 e => ?_)
  · have hb : k' = 18 := by simpa using hb
    subst hb
    have e := e8.trans e
    exact s_ask (hw.mono e) (e _ _ hq) ok ac hz (RetL.back kk e) rfl rfl
  have e9 := e8.trans e
  have n18 : k' ≠ 18 := by simpa using hb18
  have hb : k' = 19 := by omega
  subst hb
  exact s_ask (hw.mono e9) (e9 _ _ hq) ok ac hz (RetL.back kk e9) rfl rfl
theorem ok_answer_of {g : Ctx} (T : Txt g) (D : DefAt g "answer_of" s_answer_of) (C_common_error : H_common_error g) (C_asked : H_asked g) (C_check_proof : H_check_proof g) (C_changed : H_changed g) : H_answer_of g := by
  refine mk_def D sc_answer_of (fun _ _ _ _ _ _ us hl => match us, hl with | [_, _, _, _], _ => rfl) (by rintro vs H Q E ⟨_, _, _, _, _, _, _, rfl, _⟩; rfl) fun f cdv A outer s H vs Q E hr h => ⟨_, (pss_cons (ps_set (i := 4) sc_answer_of.nd rfl (Or.inl rfl) (pe_fn C_common_error hr (pa_cons (pv 0) (pa_cons (pv 1) (pa_cons (pv 2) (pa_cons (pv 3) pa_nil)))))) (pss_cons (ps_if (pt_cmpR op_ne (pv 4) pe_int (nomark _)) (pss_one (ps_ret (pe_lst (pa_cons (pv 4) pa_nil)))) pss_nil) (pss_cons (ps_if (pt_cmpR op_eq (pv 1) (pe_kn T.cCHECK_PROOF) (nomark _)) (pss_one (ps_ret (pe_fn C_check_proof hr (pa_cons (pv 0) (pa_cons (pv 2) (pa_cons (pe_ix (gx_list g.K) (pv 3) pe_int (fun _ _ => rfl)) (pa_cons (pe_ix (gx_list g.K) (pv 3) pe_int (fun _ _ => rfl)) pa_nil))))))) pss_nil) (pss_cons (ps_if (pt_cmpR op_lt (pv 1) pe_int (nomark _)) (pss_one (ps_ret (pe_fn C_changed hr (pa_cons (pv 0) (pa_cons (pv 1) (pa_cons (pv 2) pa_nil)))))) pss_nil) (pss_one (ps_ret (pe_fn C_asked hr (pa_cons (pv 0) (pa_cons (pv 1) (pa_cons (pv 2) pa_nil)))))))))), ?_⟩
  obtain ⟨L, w, k', q, ls, ns, lls, rfl, hw, hk, hq, hl, hls, hll, hz, kk⟩ := h
  have hl2 : lls.length ≤ 2 := by rw [hll]; split <;> decide
  refine q_asg (v := .int (codeM w k' ns lls)) (ev_fn (ea_cons (ev_var rfl) (ea_cons (ev_var rfl) (ea_cons (ev_var rfl) (ea_cons (ev_var rfl) ea_nil)))) (fun H1 e1 Q k1 _ => ⟨L, w, k', q, ls, ns, lls, rfl, hw.mono e1, hk, e1 _ _ hq, hl, hls.mono e1, hl2, k1⟩)) fun H1 e1 => ?_
  unfold answerM at kk hz
  refine q_when (b := !decide (codeM w k' ns lls = 0)) (et_test (ev_ne (y := .int 0) (ev_var rfl) ev_c rfl ?_)) (fun hb H2 e2 => ?_) (fun hb H2 e2 => ?_)
  · refine congrArg Bool.not ?_
    rw [Bool.eq_iff_iff, decide_eq_true_iff, decide_eq_true_iff]
    exact ⟨fun z => V.int.inj z, fun z => congrArg V.int z⟩
  · have hb : codeM w k' ns lls ≠ 0 := by simpa using hb
    rw [if_pos hb] at kk
    exact s_retM kk (hw.mono (e1.trans e2)).at_ (Keep.of (e1.trans e2)) (el_lst (ea_cons (ev_var rfl) ea_nil) (by show 1 ≤ 100000; decide)) rfl
  have hb : codeM w k' ns lls = 0 := by simpa using hb
  rw [if_neg (fun z => z hb)] at kk hz
  obtain ⟨ms, rfl, em, ok, ac⟩ := code_ok hk hl hb
  rw [em] at kk hz
  have e12 := e1.trans e2
  have hq0 : H q = some (.lst (nv ms)) := by rw [hq, an_ofN]
  refine q_when (b := k' == 12) (et_test (ev_eq (y := iv 12) (ev_var rfl) ev_c rfl iv_eq)) (fun hb2 H3 e3 => ?_) (fun hb2 H3 e3 => ?_)
  · have hb2 : k' = 12 := by simpa using hb2
    subst hb2
    obtain ⟨a, b, rfl⟩ := two_of hll
    have c0 := (code0 hb).2.1
    have c0 : (isProofM a && (isProofM b && true)) = true := c0
    rw [Bool.and_eq_true, Bool.and_eq_true] at c0
    obtain ⟨p, rfl, hp1, _, hp2⟩ := proof_of c0.1
    obtain ⟨r, rfl, hr1, _, hr2⟩ := proof_of c0.2.1
    have kk : RetO g L (opM w 12 ms p r).1 (opM w 12 ms p r).2 H Q := by
      have : ([ofN p, ofN r].getD 0 []).map Int.toNat = p := hp2
      rw [this] at kk
      have : ([ofN p, ofN r].getD 1 []).map Int.toNat = r := hr2
      rw [this] at kk
      exact kk
    have e13 := e12.trans e3
    obtain ⟨ts, t1, t2, t3⟩ := lists_of hls
    obtain ⟨x, y, rfl⟩ := lst2 (l := ts) (by have := congrArg List.length t2; rw [List.length_map] at this; exact this)
    injection t2 with u1 u2
    injection u2 with u2 _
    have h3 := t3 x List.mem_cons_self
    have h4 := t3 y (List.mem_cons_of_mem _ List.mem_cons_self)
    have u1 : x.2 = ofN p := u1
    have u2 : y.2 = ofN r := u2
    rw [u1, an_ofN] at h3
    rw [u2, an_ofN] at h4
    have ew : (opM w 12 ms p r).1 = w := by
      unfold opM
      split <;> first | rfl | omega
    rw [ew] at kk
    have k2 : RetL (an (opM w 12 ms p r).2) H3 Q := (kk.back e13).toL (hw.mono e13).at_
    exact ⟨_, rfl, _, rfl, _, rfl, ls, _, 0, V.ref x.1, rfl, rfl, sq_of (e13 _ _ t1), atI_nat (j := 0) rfl, _, rfl, ls, _, 1, V.ref y.1, rfl, rfl, sq_of (e13 _ _ t1), atI_nat (j := 1) rfl, L, w, q, x.1, y.1, ms, p, r, rfl, hw.mono e13, e13 _ _ hq0, ok, e13 _ _ h3, e13 _ _ h4, hp1, hr1, k2⟩
  have hb2 : k' ≠ 12 := by simpa using hb2
  rw [opM_pq hb2] at kk hz
  refine q_when (b := decide (k' < 9)) (et_test (ev_I (ev_var rfl) ev_c (congrArg V.bl (by rw [Bool.eq_iff_iff, decide_eq_true_iff, decide_eq_true_iff]; omega)))) (fun hb3 H4 e4 => ?_) (fun hb3 H4 e4 => ?_)
  · rw [decide_eq_true_iff] at hb3
    have e14 := (e12.trans e3).trans e4
    exact ⟨_, rfl, _, rfl, _, rfl, L, w, k', q, ms, rfl, hw.mono e14, e14 _ _ hq0, by omega, ok, ac, kk.back e14⟩
  · rw [decide_eq_false_iff_not] at hb3
    have e14 := (e12.trans e3).trans e4
    have ew : (opM w k' ms [] []).1 = w := by
      unfold opM
      split <;> first | rfl | omega
    rw [ew] at kk
    exact ⟨_, rfl, _, rfl, _, rfl, L, w, k', q, ms, rfl, hw.mono e14, e14 _ _ hq0, by omega, hk, hb2, ok, ac, hz, (kk.back e14).toL (hw.mono e14).at_⟩
theorem ok_list_at {g : Ctx} (T : Txt g) (D : DefAt g "list_at" s_list_at) : H_list_at g := by
  refine mk_def D sc_list_at (fun _ _ _ _ _ _ us hl => match us, hl with | [_, _], _ => rfl) (by rintro vs H Q E ⟨_, _, _, _, rfl, _⟩; rfl) fun f cdv A outer s H vs Q E hr h => ⟨_, (pss_one (ps_ret (pe_slice (gs_list g.K) (pv 0) (po_some (pe_op op_add (pv 1) pe_int)) (po_some (pe_op op_add (pe_op op_add (pv 1) pe_int) (pe_ix (gx_list g.K) (pv 0) (pv 1) (fun _ _ => rfl))))))), ?_⟩
  obtain ⟨p, l, i, c, rfl, hp, hc, k⟩ := h
  have hi := (List.getElem?_eq_some_iff.mp hc).1
  refine s_retA (zs := (l.drop (i + 1)).take c) (el_sl (lo := some ((i + 1 : Nat) : Int)) (hi := some ((i + 1 + c : Nat) : Int)) (ev_var rfl) (eo_some (ev_I (ev_var rfl) ev_c (congrArg V.int (by omega)))) (eo_some (ev_I (i := ((i + 1 : Nat) : Int)) (j := (c : Int)) (ev_I (ev_var rfl) ev_c (congrArg V.int (by omega))) (ev_ix (ev_var rfl) (ev_var rfl) hp (atI_nat (v := V.int (c : Int)) (by rw [List.getElem?_map, hc]; rfl))) (congrArg V.int (by omega)))) hp) k ?_
  exact cut_nat (by omega)
end Sg
set_option Elab.async false
set_option linter.all false
set_option maxRecDepth 100000
set_option maxHeartbeats 4000000
/-! SgD2: answers. -/
namespace Sg
open PySem PySem.Spec PyProof.Rows L2 Evl

/-- the list handed in, apart from the two that grow -/
def Giv (g : Ctx) (l : List Int) (p lt fd : Addr) (H : Hp) : Prop := (∃ o, H p = some o ∧ (o = .lst (an l) ∨ ∃ o', o = .frz o' (.lst (an l))) ∧ p ≠ lt ∧ p ≠ fd) ∨ ∀ H', SqL g.K H' p (an l)
section
variable {g : Ctx} {l : List Int} {p lt fd : Addr} {H H' : Hp}
theorem Giv.sq (h : Giv g l p lt fd H) : SqL g.K H p (an l) := by
  rcases h with ⟨o, h1, h2, _⟩ | h
  · rcases h2 with rfl | ⟨o', rfl⟩
    · exact .inl (.inl h1)
    · exact .inl (.inr ⟨o', h1⟩)
  · exact h H
theorem Giv.mono (h : Giv g l p lt fd H) (e : Ex H H') : Giv g l p lt fd H' := by
  rcases h with ⟨o, h1, h2⟩ | h
  · exact .inl ⟨o, e _ _ h1, h2⟩
  · exact .inr h
theorem Giv.keep {L : Lay} (h : Giv g l p lt fd H) (hl : L.lt = lt) (k : Keep L H H') : Giv g l p lt fd H' := by
  rcases h with ⟨o, h1, h2, h3, h4⟩ | h
  · refine .inl ⟨o, k.old _ _ h1 (by rw [hl]; exact h3) (fun C d fs z => ?_), h2, h3, h4⟩
    rcases h2 with rfl | ⟨o', rfl⟩ <;> cases z
  · exact .inr h
theorem Giv.upd {o : HO} (h : Giv g l p lt fd H) : Giv g l p lt fd (upd H fd o) := by
  rcases h with ⟨o', h1, h2, h3, h4⟩ | h
  · exact .inl ⟨o', (upd_ne h4).trans h1, h2, h3, h4⟩
  · exact .inr h
theorem Giv.of (h : SqL g.K H p (an l)) : (∃ o, H p = some o ∧ (o = .lst (an l) ∨ ∃ o', o = .frz o' (.lst (an l)))) ∨ ∀ H', SqL g.K H' p (an l) := by
  rcases h with (h | ⟨o, h⟩) | h
  · exact .inl ⟨_, h, .inl rfl⟩
  · exact .inl ⟨_, h, .inr ⟨o, rfl⟩⟩
  · exact .inr fun _ => .inr h
/-- the world beside another list that changes -/
theorem WAt.off2 {L : Lay} {w : Wd} {xs : List V} {o : HO} {q : Addr} (h : WAt g L H w) (hq : H q = some (.lst xs)) (h1 : q ≠ L.lt) (h2 : NotW L H q) : WAt g L (L2.upd H q o) w := by
  obtain ⟨dx, lw, ws, a1, a2, a3, a4, a5⟩ := h.ex
  obtain ⟨C, d, lt', lw', b1, b2⟩ := h2
  have e : lw = lw' := by
    rw [a1] at b1
    have b1 := Option.some.inj b1
    injection b1 with _ _ b1
    injection b1 with _ b1
    injection b1 with b1 _
    injection b1 with _ b1
    exact V.ref.inj b1
  refine ⟨h.len, h.nd, ⟨dx, lw, ws, (upd_ne (ne_of a1 hq (fun z => nomatch z))).trans a1, a2, (upd_ne (fun z => b2 (by rw [← e, z]))).trans a3, a4, fun u hu => (upd_ne (ne_of (a5 u hu) hq (fun z => nomatch z))).trans (a5 u hu)⟩, (upd_ne (Ne.symm h1)).trans h.ths, fun i x hx => ?_⟩
  obtain ⟨t, dt, b1, b2⟩ := h.th i x hx
  exact ⟨t, dt, b1, (upd_ne (ne_of b2 hq (fun z => nomatch z))).trans b2⟩
theorem NotW.mono {L : Lay} {q : Addr} (h : NotW L H q) (e : Ex H H') : NotW L H' q := by
  obtain ⟨C, d, lt', lw', b1, b2⟩ := h
  exact ⟨C, d, lt', lw', e _ _ b1, b2⟩
theorem NotW.upd {L : Lay} {q : Addr} {xs : List V} {o : HO} (h : NotW L H q) (hq : H q = some (.lst xs)) : NotW L (L2.upd H q o) q := by
  obtain ⟨C, d, lt', lw', b1, b2⟩ := h
  exact ⟨C, d, lt', lw', (upd_ne (ne_of b1 hq (fun z => nomatch z))).trans b1, b2⟩
end
section
variable {σ : L2.St} {H : Hp} {D : Ends} {K : PySem.W.Frag} {tz : TS} {t : TS} {ta tb te : TE} {xs ys : List V} {v : V} {i j : Nat}
theorem q_share (M : L2.St → Hp → Prop) (h : (∀ σ' H', M σ' H' → tz D σ' H') → tSeq t tz D σ H) (k : ∀ σ' H', M σ' H' → tz D σ' H') : tSeq t tz D σ H := h k
theorem q_parNN (ha : EvL ta σ H xs) (hb : EvL tb σ H ys) (k : ∀ p q H1, H p = none → H q = none → p ≠ q → Ex H H1 → H1 p = some (.lst xs) → H1 q = some (.lst ys) → tz D ((σ.set i (some (.ref p))).set j (some (.ref q))) H1) : tSeq (tPar i j (tCons ta (tCons tb tNil))) tz D σ H :=
  ha H (Ex.refl H) _ fun p H1 hp e1 h1 => hb H1 e1 _ fun q H2 hq e2 h2 => ⟨_, _, rfl, k p q H2 hp (fresh_back e1 hq) (fun z => by rw [← z, h1] at hq; cases hq) (e1.trans e2) (e2 _ _ h1) h2⟩
theorem ev_lenT {p : Addr} {z : V} (ha : Ev ta σ H (.ref p)) (h : ∀ H, SqT K H p xs) (hz : V.int (xs.length : Int) = z) : Ev (tCB (rLenS K) (tCons ta tNil)) σ H z := fun H1 e Q q =>
  ha H1 e _ fun H2 e2 => ⟨p, xs, rfl, .inr (h H2), by rw [hz]; exact q H2 e2⟩
theorem q_appB {l : Addr} (hl : H l = some (.lst xs)) (ha : Ev ta σ H (.ref l)) (h : Ev te σ H v) (hz : xs.length < 16000000) (k : ∀ H1, Ex H H1 → tz D σ (upd H1 l (.lst (xs ++ [v])))) : tSeq (tDrop (tBM K "list" rAppend ta (tCons te tNil))) tz D σ H := ha H (Ex.refl H) _ fun H1 e1 =>
  ⟨Or.inl ⟨rfl, xs, sq_of (e1 l _ hl)⟩, h H1 e1 _ fun H2 e2 => ⟨l, xs, v, rfl, rfl, e2 l _ (e1 l _ hl), Nat.lt_of_lt_of_le hz (by decide), k H2 (e1.trans e2)⟩⟩
theorem q_extB {l b : Addr} (hl : H l = some (.lst xs)) (hb : H b = some (.lst ys)) (ha : Ev ta σ H (.ref l)) (h : Ev te σ H (.ref b)) (hz : xs.length + ys.length ≤ 16000000) (k : ∀ H1, Ex H H1 → tz D σ (upd H1 l (.lst (xs ++ ys)))) : tSeq (tDrop (tBM K "list" rExtend ta (tCons te tNil))) tz D σ H := ha H (Ex.refl H) _ fun H1 e1 =>
  ⟨Or.inl ⟨rfl, xs, sq_of (e1 l _ hl)⟩, h H1 e1 _ fun H2 e2 => ⟨l, b, xs, ys, rfl, rfl, e2 l _ (e1 l _ hl), e2 b _ (e1 b _ hb), Nat.le_trans hz (by decide), k H2 (e1.trans e2)⟩⟩
end
theorem lv_of {H : Hp} {p : Addr} {ts : List (Addr × List Int)} {lls : List (List Int)} (h : H p = some (.lst (ts.map fun t => V.ref t.1))) (h2 : ts.map (·.2) = lls) (h3 : ∀ t ∈ ts, H t.1 = some (.lst (an t.2))) : LVAt H p (lls.map an) := by
  refine ⟨ts.map fun t => (t.1, an t.2), by rw [h, List.map_map]; rfl, by rw [← h2, List.map_map, List.map_map]; rfl, fun q hq => ?_⟩
  obtain ⟨t, ht, rfl⟩ := List.mem_map.mp hq
  exact h3 t ht
def sp_answers (g : Ctx) : Sp := fun vs H Q _ => ∃ (p : Addr) (l : List Int) (cs : List (List (List Int))), vs = [.ref p] ∧ SqL g.K H p (an l) ∧ PyFlat.calls PyVbtaac.shape l.length l = some cs ∧ cs.length ≤ 400 ∧ (tail Vbtaac.start cs).length ≤ 10000000 ∧
  ∀ q H2, H2 q = some (.lst (an (tail Vbtaac.start cs))) → Q (.ref q) H2

theorem okF_answers {g : Ctx} (T : Txt g) {f : Addr} {fd : FuncData} (F : FnS g "answers" "answers" s_answers f fd) (C_World_init : H_World_init g) (C_answer_of : H_answer_of g) (C_list_at : H_list_at g) : FnOk g.P g.w g.K g.mg g.base CX0 12 f fd ["calls"] (sp_answers g) := by
  refine fn_ok F sc_answers (by rintro vs H Q E ⟨_, _, _, rfl, _⟩; rfl) fun f cdv A outer s H vs Q E hr h => ⟨_, (pss_cons (ps_par3 (i := 1) (j := 2) (l := 3) rfl sc_answers.nd rfl rfl rfl (by decide) (by decide) (by decide) rfl rfl rfl (pa_cons (pe_mk0 C_World_init hr) (pa_cons (pe_lst pa_nil) (pa_cons pe_int pa_nil))) (by rfl)) (pss_cons (ps_while PassesOwn.never (pt_cmpR op_lt (pv 3) (pe_callB (g_len g.K) (by rfl) T.len (by decide +kernel) (pa_cons (pv 0) pa_nil)) (nomark _)) (pss_cons (ps_set (i := 4) sc_answers.nd rfl (Or.inl rfl) (pe_ix (gx_list g.K) (pv 0) (pv 3) (fun _ _ => rfl))) (pss_cons (ps_set (i := 5) sc_answers.nd rfl (Or.inl rfl) (pe_op op_add (pe_op op_add (pv 3) pe_int) (pe_callB (g_len g.K) (by rfl) T.len (by decide +kernel) (pa_cons (pe_ix (gx_tup g.K) (pe_glob (v := .ref g.aR) rfl T.gRANGES rfl) (pv 4) (fun _ _ => rfl)) pa_nil)))) (pss_cons (ps_par (i := 6) (j := 7) rfl sc_answers.nd rfl rfl (by decide) rfl rfl (pa_cons (pe_slice (gs_list g.K) (pv 0) (po_some (pe_op op_add (pv 3) pe_int)) (po_some (pv 5))) (pa_cons (pe_lst pa_nil) pa_nil)) (by rfl)) (pss_cons (ps_if (pt_cmpR op_eq (pv 4) (pe_kn T.cCHECK_PROOF) (nomark _)) (pss_one (ps_for PassesOwn.never rfl (pi_range1 rfl T.range (pa_cons pe_int pa_nil)) (pg_name (i := 8) sc_answers.nd rfl (Or.inl rfl)) (pss_cons (ps_expr (g_bm g.K PySem.F.plainAttrs_list PySem.F.slot_list_append PySem.F.type_list_append mt_append (pv 7) (pa_cons (pe_fn C_list_at hr (pa_cons (pv 0) (pa_cons (pv 5) pa_nil))) pa_nil))) (pss_one (ps_set (i := 5) sc_answers.nd rfl (Or.inl rfl) (pe_op op_add (pe_op op_add (pv 5) pe_int) (pe_ix (gx_list g.K) (pv 0) (pv 5) (fun _ _ => rfl)))))))) pss_nil) (pss_cons (ps_set (i := 9) sc_answers.nd rfl (Or.inl rfl) (pe_fn C_answer_of hr (pa_cons (pv 1) (pa_cons (pv 4) (pa_cons (pv 6) (pa_cons (pv 7) pa_nil)))))) (pss_cons (ps_expr (g_bm g.K PySem.F.plainAttrs_list PySem.F.slot_list_append PySem.F.type_list_append mt_append (pv 2) (pa_cons (pe_callB (g_len g.K) (by rfl) T.len (by decide +kernel) (pa_cons (pv 9) pa_nil)) pa_nil))) (pss_cons (ps_expr (g_bm g.K PySem.F.plainAttrs_list PySem.F.slot_list_extend PySem.F.type_list_extend mt_extend (pv 2) (pa_cons (pv 9) pa_nil))) (pss_one (ps_set (i := 3) sc_answers.nd rfl (Or.inl rfl) (pv 5))))))))))) (pss_one (ps_ret (pv 2))))), ?_⟩
  obtain ⟨p, l, cs, rfl, hp, hcs, hc4, hcz, k⟩ := h
  refine fun x dx hx hdx hne => ⟨x, dx, rfl, upd_same, fun H1 lt hw1 hlt hk => ⟨rfl, ⟨by show 0 ≤ sizeLine; decide, fun fd hfd => ⟨_, _, _, rfl, ?_⟩⟩⟩⟩
  have hlt0 : H lt = none := by
    have n1 : lt ≠ x := fun z => by rw [z, upd_same] at hlt; cases hlt
    have n2 : lt ≠ dx := fun z => by rw [z, upd_ne hne, upd_same] at hlt; cases hlt
    rw [upd_ne n1, upd_ne n2] at hlt
    exact hlt
  have e1 : Ex H H1 := fun b o hb => hk b o (by
    have n1 : b ≠ x := fun z => by rw [z, hx] at hb; cases hb
    have n2 : b ≠ dx := fun z => by rw [z, hdx] at hb; cases hb
    rw [upd_ne n1, upd_ne n2]
    exact hb) (fun z => by rw [z, hx] at hb; cases hb)
  have e2 : Ex H1 (upd H1 fd (.lst [])) := Ex.new hfd
  have hg : Giv g l p lt fd (upd H1 fd (.lst [])) := by
    rcases Giv.of hp with ⟨o, h1, h2⟩ | h1
    · exact .inl ⟨o, e2 _ _ (e1 _ _ h1), h2, (fun z => by rw [z, hlt0] at h1; cases h1), (fun z => by rw [z] at h1; rw [e1 _ _ h1] at hfd; cases hfd)⟩
    · exact .inr h1
  have hnw : NotW ⟨x, lt, []⟩ (upd H1 fd (.lst [])) fd := by
    obtain ⟨dx', lw, ws, a1, a2, a3, _⟩ := hw1.ex
    exact ⟨_, _, _, lw, e2 _ _ a1, fun z => by rw [z, a3] at hfd; cases hfd⟩
  have hfl : fd ≠ lt := fun z => by
    have : H1 lt = _ := hw1.ths
    rw [z, this] at hfd
    cases hfd
  refine q_while (fun m σ' H' => ∃ (L : Lay) (w : Wd) (i f : Nat) (cs' : List (List (List Int))) (done : List Int) (o4 o5 o6 o7 o8 o9 : Option V), σ' = [some (.ref p), some (.ref L.a), some (.ref fd), some (iv i), o4, o5, o6, o7, o8, o9] ∧ WAt g L H' w ∧ L.lt = lt ∧ Good w ∧ w.windows.length + cs'.length ≤ 400 ∧ Giv g l p lt fd H' ∧
      H' fd = some (.lst (an done)) ∧ NotW L H' fd ∧ i ≤ l.length ∧ PyFlat.calls PyVbtaac.shape f (l.drop i) = some cs' ∧ done ++ tail w cs' = tail Vbtaac.start cs ∧ m = l.length - i) _
    ⟨⟨x, lt, []⟩, Vbtaac.start, 0, l.length, cs, [], none, none, none, none, none, none, rfl, hw1.mono e2, rfl, good_start, by show 0 + _ ≤ 400; omega, hg, upd_same, hnw, Nat.zero_le _, hcs, rfl, rfl⟩ ?_
  rintro m σ' H2 ⟨L, w, i, f, cs', done, o4, o5, o6, o7, o8, o9, rfl, hw, hL, hgd, hwin, hgv, hfd2, hnw2, hi, hcall, htot, rfl⟩
  refine ⟨decide (i < l.length), et_test (ev_I (ev_var rfl) (ev_lenS (ev_var rfl) hgv.sq rfl) (congrArg V.bl (by rw [Bool.eq_iff_iff, decide_eq_true_iff, decide_eq_true_iff, List.length_map]; omega))), fun hb H3 e3 => ⟨_, fun _ _ q => q, ?_⟩, fun hb H3 e3 => ?_⟩
  · rw [decide_eq_true_iff] at hb
    obtain ⟨k', f', ns, t, lls, cs2, hk20, hnl, hll, hdrop, rfl, hcall2⟩ := one_call hcall (by rw [List.drop_eq_getElem_cons hb]; exact fun z => nomatch z)
    rw [tail_cons hgd hk20 hnl hll] at htot
    have hlen := congrArg List.length htot
    rw [List.length_append, List.length_cons, List.length_append] at hlen
    obtain ⟨_, d1, d2, d3⟩ := drop_at hdrop
    have hgv3 := hgv.mono e3
    obtain ⟨rs, r, bs, hR, hr0, hrs, hbl, _⟩ := rng_at T hk20
    refine q_asg (v := iv k') (ev_ix (ev_var rfl) (ev_var rfl) hgv3.sq (atI_nat (by rw [List.getElem?_map, d1]; rfl))) fun H4 e4 => ?_
    refine q_asg (v := iv (i + 1 + ns.length)) (ev_I (i := ((i + 1 : Nat) : Int)) (j := (ns.length : Int)) (ev_I (ev_var rfl) ev_c (congrArg V.int (by omega))) (ev_lenT (ev_ixT ev_c (ev_var rfl) (hR H4) hr0) hrs (by rw [List.length_map, hbl, hnl])) (congrArg V.int (by omega))) fun H5 e5 => ?_
    have e35 := (e3.trans e4).trans e5
    have hgv5 := hgv.mono e35
    have hw5 : WG g L H5 w := ⟨hw.mono e35, hgd, by omega⟩
    have hcut : cutV (an l) (some ((i + 1 : Nat) : Int)) (some ((i + 1 + ns.length : Nat) : Int)) = an ns := by rw [cut_nat (by omega), d2]
    have hnum := el_sl (te := tVar 0) (σ := [some (.ref p), some (.ref L.a), some (.ref fd), some (iv i), some (iv k'), some (iv (i + 1 + ns.length)), o6, o7, o8, o9]) (H := H5) (tl := tPart (tOp (rI0 fun i j => .int (i + j)) (tVar 3) (tC (.int 1)))) (th := tPart (tVar 5)) (lo := some ((i + 1 : Nat) : Int)) (hi := some ((i + 1 + ns.length : Nat) : Int)) (ev_var rfl) (eo_some (ev_I (ev_var rfl) ev_c (congrArg V.int (by omega)))) (eo_some (ev_var rfl)) hgv5.sq
    rw [hcut] at hnum
    refine q_parNN hnum (el_lst ea_nil (Nat.zero_le _)) fun nq lq H6 hnq hlq hnl2 e6 h6 h7 => ?_
    refine q_share (fun σ' H' => ∃ (e : Nat) (o8 : Option V), σ' = [some (.ref p), some (.ref L.a), some (.ref fd), some (iv i), some (iv k'), some (iv e), some (.ref nq), some (.ref lq), o8, o9] ∧ Ex H5 H' ∧ H' nq = some (.lst (an ns)) ∧ LVAt H' lq (lls.map an) ∧ l.drop e = t ∧ i < e ∧ e ≤ l.length) (fun cont => ?_) ?_
    · refine q_when (b := k' == 12) (et_test (ev_eq (y := iv 12) (ev_var rfl) ev_c rfl iv_eq)) (fun hb2 H7 e7 => ?_) (fun hb2 H7 e7 => ?_)
      · have hb2 : k' = 12 := by simpa using hb2
        subst hb2
        have hll : lls.length = 2 := hll
        refine s_forR1 (n := 2) (ea_cons ev_c ea_nil) (by decide) (fun j σ' H' => ∃ (e : Nat) (o8 : Option V) (ts : List (Addr × List Int)) (rest : List (List Int)), σ' = [some (.ref p), some (.ref L.a), some (.ref fd), some (iv i), some (iv 12), some (iv e), some (.ref nq), some (.ref lq), o8, o9] ∧ Ex H5 H' ∧ H' nq = some (.lst (an ns)) ∧
            H' lq = some (.lst (ts.map fun t => V.ref t.1)) ∧ (∀ t ∈ ts, H' t.1 = some (.lst (an t.2)) ∧ t.1 ≠ lq) ∧ ts.map (·.2) ++ rest = lls ∧ ts.length = j ∧ l.drop e = PyFlat.putRows rest ++ t ∧ i < e ∧ e ≤ l.length)
          (fun H8 e8 => ⟨i + 1 + ns.length, o8, [], lls, rfl, (e6.trans e7).trans e8, e8 _ _ (e7 _ _ h6), e8 _ _ (e7 _ _ h7), fun u hu => absurd hu List.not_mem_nil, rfl, rfl, d3, by omega, ?_⟩) (fun j σ' H' hj ⟨e, o, ts, rest, hσ, x1, x2, x3, x4, x5, x6, x7, x8, x9⟩ => ?_) (fun σ' H' ⟨e, o, ts, rest, hσ, x1, x2, x3, x4, x5, x6, x7, x8, x9⟩ => ?_)
        · have := congrArg List.length hdrop
          rw [List.length_drop, List.length_cons, List.length_append] at this
          omega
        · subst hσ
          have hrl : rest.length = 2 - j := by
            have := congrArg List.length x5
            rw [List.length_append, List.length_map, x6, hll] at this
            omega
          cases rest with
          | nil => exact absurd hrl (by show ¬ 0 = _; omega)
          | cons a rest =>
            have x7 : l.drop e = (a.length : Int) :: (a ++ (PyFlat.putRows rest ++ t)) := by
              rw [x7]
              show ((a.length : Int) :: a ++ PyFlat.putRows rest) ++ t = _
              rw [List.append_assoc]
              rfl
            obtain ⟨y0, y1, y2, y3⟩ := drop_at x7
            refine q_appL (ys := an a) x3 (ev_var rfl) (el_fn (ea_cons (ev_var rfl) (ea_cons (ev_var rfl) ea_nil)) (fun H8 e8 Q2 k2 _ => ⟨p, l, e, a.length, rfl, (hgv5.mono (x1.trans e8)).sq, y1, by rw [y2]; exact k2⟩)) (by rw [List.length_map]; omega) fun aq H8 haq e8 h8 => ?_
            have naq : aq ≠ lq := fun z => by rw [z, x3] at haq; cases haq
            refine s_asg (v := iv (e + 1 + a.length)) (ev_I (i := ((e + 1 : Nat) : Int)) (j := (a.length : Int)) (ev_I (ev_var rfl) ev_c (congrArg V.int (by omega))) (ev_ix (ev_var rfl) (ev_var rfl) ((hgv5.mono (Ex.mut (x1.trans e8) hlq)).sq) (atI_nat (by rw [List.getElem?_map, y1]; rfl))) (congrArg V.int (by omega))) fun H9 e9 => ?_
            have e89 : Ex H8 H8 := Ex.refl H8
            refine ⟨e + 1 + a.length, _, ts ++ [(aq, a)], rest, rfl, (Ex.mut (x1.trans e8) hlq).trans e9, e9 _ _ ((upd_ne hnl2).trans (e8 _ _ x2)), ?_, fun u hu => ?_, ?_, ?_, y3, by omega, ?_⟩
            · refine e9 _ _ (upd_same.trans ?_)
              rw [List.map_append]
              rfl
            · rcases List.mem_append.mp hu with hu | hu
              · obtain ⟨z1, z2⟩ := x4 u hu
                exact ⟨e9 _ _ ((upd_ne z2).trans (e8 _ _ z1)), z2⟩
              · have := List.mem_singleton.mp hu
                subst this
                exact ⟨e9 _ _ ((upd_ne naq).trans h8), naq⟩
            · rw [List.map_append, List.append_assoc]
              exact x5
            · rw [List.length_append, x6]
              rfl
            · have := congrArg List.length x7
              rw [List.length_drop, List.length_cons, List.length_append] at this
              omega
        · have hrest : rest = [] := by
            have := congrArg List.length x5
            rw [List.length_append, List.length_map, x6, hll] at this
            have : rest.length = 0 := by have z : ((2 : Int).toNat) = 2 := rfl; omega
            exact List.eq_nil_of_length_eq_zero this
          subst hrest
          rw [List.append_nil] at x5
          exact cont σ' H' ⟨e, o, hσ, x1, x2, lv_of x3 x5 (fun u hu => (x4 u hu).1), x7, x8, x9⟩
      · have hb2 : k' ≠ 12 := by simpa using hb2
        rw [if_neg hb2] at hll
        have e0 : lls = [] := List.eq_nil_of_length_eq_zero hll
        subst e0
        refine cont _ _ ⟨i + 1 + ns.length, o8, rfl, e6.trans e7, e7 _ _ h6, ⟨[], e7 _ _ h7, rfl, fun u hu => absurd hu List.not_mem_nil⟩, d3, by omega, ?_⟩
        have := congrArg List.length hdrop
        rw [List.length_drop, List.length_cons, List.length_append] at this
        omega
    · rintro σ' H7 ⟨e, o8', rfl, e7, h8, h9, hde, hie, hel⟩
      have hwg7 : WG g L H7 w := hw5.mono e7
      have e37 := e35.trans e7
      have hfd7 := e37 _ _ hfd2
      have hfL : fd ≠ L.lt := by rw [hL]; exact hfl
      refine ⟨_, rfl, _, rfl, _, rfl, _, rfl, L, w, k', nq, lq, ns, lls, rfl, hwg7, hk20, h8, hnl, h9, hll, by omega, fun aq H8 L' ea el hw8 kp hf h10 => ?_⟩
      have hfd8 := kp.lst hfd7 hfL
      have naf : aq ≠ fd := hf fd _ hfd7 hfL
      have hgv8 : Giv g l p lt fd H8 := (hgv.mono e37).keep hL kp
      have hnw8 : NotW L' H8 fd := by
        have := kp.win fd _ hfd7 hfL (hnw2.mono e37)
        unfold NotW at this ⊢
        rw [ea]
        exact this
      have hfL' : fd ≠ L'.lt := by rw [el]; exact hfL
      generalize (answerM w k' ns lls).2 = told at *
      refine q_appB (v := .int (told.length : Int)) hfd8 (ev_var rfl) (ev_lenS (ev_var rfl) (sq_of h10) (by rw [List.length_map])) (by rw [List.length_map]; omega) fun H9 e9 => ?_
      have hfd9 := e9 _ _ hfd8
      have hw9 : WAt g L' (upd H9 fd (.lst (an done ++ [.int (told.length : Int)]))) _ := (hw8.mono e9).off2 hfd9 hfL' (hnw8.mono e9)
      have hnw9 : NotW L' (upd H9 fd (.lst (an done ++ [.int (told.length : Int)]))) fd := (hnw8.mono e9).upd hfd9
      refine q_extB (xs := an done ++ [.int (told.length : Int)]) (ys := an told) upd_same ((upd_ne naf).trans (e9 _ _ h10)) (ev_var rfl) (ev_var rfl) (by rw [List.length_append, List.length_map, List.length_map]; show _ + 1 + _ ≤ _; omega) fun H10 e10 => ?_
      have hfd10 := e10 _ _ (upd_same (H := H9) (a := fd) (o := .lst (an done ++ [.int (told.length : Int)])))
      refine s_asg (ev_var rfl) fun H11 e11 => ?_
      refine ⟨_, (by omega : l.length - e < l.length - i), L', (answerM w k' ns lls).1, e, f', cs2, done ++ ((told.length : Int) :: told), _, _, _, _, _, _, by rw [← ea]; rfl, ((hw9.mono e10).off2 hfd10 hfL' (hnw9.mono e10)).mono e11, el.trans hL, good_answer hgd hk20 hnl, ?_, ?_, ?_, ((hnw9.mono e10).upd hfd10).mono e11, hel, by rw [hde]; exact hcall2, ?_, rfl⟩
      · have := win_answer (w := w) (k := k') (ns := ns) (lls := lls)
        rw [List.length_cons] at hwin
        omega
      · exact ((((hgv8.mono e9).upd).mono e10).upd).mono e11
      · refine e11 _ _ (upd_same.trans ?_)
        show some (HO.lst ((an done ++ an [(told.length : Int)]) ++ an told)) = _
        rw [← an_app, ← an_app, List.append_assoc]
        rfl
      · rw [← htot, List.append_assoc]
        rfl
  · rw [decide_eq_false_iff_not] at hb
    have hnil : l.drop i = [] := List.drop_eq_nil_of_le (by omega)
    rw [hnil] at hcall
    have e0 : cs' = [] := by
      have : some ([] : List (List (List Int))) = some cs' := by
        rw [← hcall]
        cases f <;> rfl
      exact (Option.some.inj this).symm
    subst e0
    rw [tail_nil, List.append_nil] at htot
    rw [htot] at hfd2
    exact s_ret (ev_var rfl) fun H4 e4 => k fd H4 (e4 _ _ (e3 _ _ hfd2))
end Sg
set_option Elab.async false
set_option linter.all false
set_option maxRecDepth 100000
set_option maxHeartbeats 4000000
/-! SgEnd: the head's facts put together, every def's promise, the row. -/
namespace SgH
open PySem PySem.Spec PyProof.Rows L2 Evl Sg

theorem all2_get {α β : Type} {f : α → β → Bool} : ∀ {l : List α} {m : List β}, all2 f l m = true → l.length = m.length ∧ ∀ (i : Nat) (b : β), m[i]? = some b → ∃ a, l[i]? = some a ∧ f a b = true
  | [], [], _ => ⟨rfl, fun i b h => by cases i <;> cases h⟩
  | [], _ :: _, h => Bool.noConfusion h
  | _ :: _, [], h => Bool.noConfusion h
  | a :: l, b :: m, h => by
    have h : (f a b && all2 f l m) = true := h
    rw [Bool.and_eq_true] at h
    obtain ⟨h1, h2⟩ := all2_get h.2
    refine ⟨congrArg (· + 1) h1, fun i b' hb => ?_⟩
    cases i with
    | zero => exact ⟨a, rfl, by rw [← Option.some.inj hb]; exact h.1⟩
    | succ i => exact h2 i b' hb
theorem tup_at {K : PySem.W.Frag} {a : Addr} {us : List Value} (h : tupAt K a = some us) {vs : List V} (hv : Vals vs us) (H : Hp) : SqT K H a vs := by
  unfold tupAt at h
  cases q : K.lookup a with
  | none =>
    rw [q] at h
    cases h
  | some ob =>
    obtain ⟨oc, od, dt, osl⟩ := ob
    rw [q] at h
    cases oc with
    | type c =>
      cases dt with
      | seq its n =>
        have h : (if (decide (c = "tuple") && decide (its.size ≤ sizeLine)) = true then some its.toList else none) = some us := h
        split at h
        · rename_i z
          rw [Bool.and_eq_true] at z
          have e := Option.some.inj h
          subst e
          exact Or.inr ⟨_, its, n, q, congrArg Value.type (of_decide_eq_true z.1), rfl, of_decide_eq_true z.2, hv⟩
        · cases h
      | _ => cases h
    | _ => cases dt <;> cases h
theorem ints_at {K : PySem.W.Frag} {x : Str} {l : List Int} (h : intsB K x l = true) (H : Hp) : SqT K H (He.ga K x) (l.map V.int) := by
  unfold intsB at h
  cases q : tupAt K (He.ga K x) with
  | none =>
    rw [q] at h
    cases h
  | some us =>
    rw [q] at h
    exact tup_at q (He.relAll_ok h) H
theorem bnd_at {K : PySem.W.Frag} {u : Value} {p : Int × Int} (h : bndB K u p = true) : ∃ b, u = .ref b ∧ ∀ H, SqT K H b [.int p.1, .int p.2] := by
  unfold bndB at h
  cases u with
  | ref b =>
    have h : (match tupAt K b with
      | some us => He.relAll [.int p.1, .int p.2] us
      | none => false) = true := h
    cases q : tupAt K b with
    | none =>
      rw [q] at h
      cases h
    | some us =>
      rw [q] at h
      exact ⟨b, rfl, fun H => tup_at q (He.relAll_ok h) H⟩
  | _ => cases h
/-- values that are all objects -/
theorem refs_of : ∀ {us : List Value}, (∀ u ∈ us, ∃ b, u = Value.ref b) → ∃ bs : List Addr, us = bs.map Value.ref ∧ Vals (bs.map V.ref) us
  | [], _ => ⟨[], rfl, .nil⟩
  | u :: r, h => by
    obtain ⟨b, rfl⟩ := h u List.mem_cons_self
    obtain ⟨bs, h1, h2⟩ := refs_of fun x hx => h x (List.mem_cons_of_mem _ hx)
    exact ⟨b :: bs, by rw [h1]; rfl, .cons rfl h2⟩
theorem all2_mem {α β : Type} {f : α → β → Bool} {l : List α} {m : List β} (h : all2 f l m = true) {a : α} (ha : a ∈ l) : ∃ b, f a b = true := by
  obtain ⟨h1, h2⟩ := all2_get h
  obtain ⟨i, hi⟩ := List.getElem?_of_mem ha
  have hl := (List.getElem?_eq_some_iff.mp hi).1
  obtain ⟨a', x1, x2⟩ := h2 i _ (List.getElem?_eq_getElem (by omega : i < m.length))
  have e : a' = a := Option.some.inj (x1.symm.trans hi)
  subst e
  exact ⟨_, x2⟩
theorem row_at {K : PySem.W.Frag} {u : Value} {l : List (Int × Int)} (h : rowB K u l = true) : ∃ (r : Addr) (bs : List Addr), u = .ref r ∧ (∀ H, SqT K H r (bs.map V.ref)) ∧ bs.length = l.length ∧ ∀ (i : Nat) (p : Int × Int), l[i]? = some p → ∃ b, bs[i]? = some b ∧ ∀ H, SqT K H b [.int p.1, .int p.2] := by
  unfold rowB at h
  cases u with
  | ref r =>
    have h : (match tupAt K r with
      | some us => all2 (bndB K) us l
      | none => false) = true := h
    cases q : tupAt K r with
    | none =>
      rw [q] at h
      cases h
    | some us =>
      rw [q] at h
      obtain ⟨h1, h2⟩ := all2_get h
      obtain ⟨bs, e, hv⟩ := refs_of fun u hu => by
        obtain ⟨p, hp⟩ := all2_mem h hu
        obtain ⟨b, hb, _⟩ := bnd_at hp
        exact ⟨b, hb⟩
      subst e
      refine ⟨r, bs, rfl, fun H => tup_at q hv H, by rw [← h1, List.length_map], fun i p hp => ?_⟩
      obtain ⟨a, x1, x2⟩ := h2 i p hp
      obtain ⟨b, rfl, hb⟩ := bnd_at x2
      rw [List.getElem?_map] at x1
      obtain ⟨b', y1, y2⟩ := Option.map_eq_some_iff.mp x1
      cases y2
      exact ⟨b, y1, hb⟩
  | _ => cases h
theorem rng_parts {K : PySem.W.Frag} (h : rngB K = true) : (∃ us, tupAt K (He.ga K "RANGES") = some us ∧ all2 (rowB K) us rangesL = true) ∧ intsB K "OBJECT" [1, 60] = true ∧ intsB K "BY_ACTORS" [5, 6, 7, 8, 11, 12, 14, 15] = true := by
  unfold rngB at h
  rw [Bool.and_eq_true, Bool.and_eq_true] at h
  refine ⟨?_, h.2⟩
  cases q : tupAt K (He.ga K "RANGES") with
  | none =>
    rw [q] at h
    cases h.1
  | some us =>
    rw [q] at h
    exact ⟨us, rfl, h.1⟩
theorem rng_of {K : PySem.W.Frag} (h : ∃ us, tupAt K (He.ga K "RANGES") = some us ∧ all2 (rowB K) us rangesL = true) : ∃ rs : List Addr, rs.length = 20 ∧ (∀ H, SqT K H (He.ga K "RANGES") (rs.map V.ref)) ∧ ∀ (k : Nat) (l : List (Int × Int)), rangesL[k]? = some l →
    ∃ (r : Addr) (bs : List Addr), rs[k]? = some r ∧ (∀ H, SqT K H r (bs.map V.ref)) ∧ bs.length = l.length ∧ ∀ (i : Nat) (p : Int × Int), l[i]? = some p → ∃ b, bs[i]? = some b ∧ ∀ H, SqT K H b [.int p.1, .int p.2] := by
  obtain ⟨us, q, h⟩ := h
  obtain ⟨h1, h2⟩ := all2_get h
  obtain ⟨rs, e, hv⟩ := refs_of fun u hu => by
    obtain ⟨l, hl⟩ := all2_mem h hu
    obtain ⟨r, _, hr, _⟩ := row_at hl
    exact ⟨r, hr⟩
  subst e
  rw [List.length_map] at h1
  refine ⟨rs, h1, fun H => tup_at q hv H, fun k l hk => ?_⟩
  obtain ⟨a, x1, x2⟩ := h2 k l hk
  obtain ⟨r, bs, rfl, y1, y2, y3⟩ := row_at x2
  rw [List.getElem?_map] at x1
  obtain ⟨r', z1, z2⟩ := Option.map_eq_some_iff.mp x1
  cases z2
  exact ⟨r, bs, z1, y1, y2, y3⟩
/-! ### one hook of all -/
theorem two_maps {α β γ δ ε : Type} {x : Option α} {a : α → β} {b : α → γ} {c : α → δ} {d : α → ε} {u : β} {v : γ} {p : δ} {q : ε} (h1 : x.map (fun s => (a s, b s, c s)) = some (u, v, p)) (h2 : x.map d = some q) : x.map (fun s => (a s, b s, d s)) = some (u, v, q) := by
  cases x with
  | none => cases h1
  | some s =>
    have e1 := Option.some.inj h1
    have e2 : d s = q := Option.some.inj h2
    injection e1 with e3 e4
    injection e4 with e5 e6
    show some (a s, b s, d s) = _
    rw [e3, e5, e2]
def obs2 (g : Addr → Option Obj) : He.AlD × Bool := (He.obsD fa fn (fr g), rngB (fr g))
def hk2 : PySem.W.Hook where
  α := He.AlD × Bool
  obs := fun s => obs2 s.heap.get?
  val := fun _ => (He.valD fn, true)
  says := fun _ h => ∃ K : PySem.W.Frag, K.In h ∧ He.SaysD fa fn K ∧ rngB K = true
  of := fun _ s e => by
    unfold obs2 at e
    injection e with e1 e2
    exact ⟨fr s.heap.get?, He.frG_in, e1, e2⟩
  keeps := fun _ _ _ ⟨K, hK, c⟩ k => ⟨K, PySem.W.Frag.In.keeps hK k, c⟩
def ob2 (s : PySem.W.SharedT) : hk2.α := obs2 (HandSHeadRun.getT s)
theorem ob2_eq (s : PySem.W.SharedT) : ob2 s = hk2.obs s.abs := by
  have e : HandSHeadRun.getT s = s.abs.heap.get? := funext fun a => HandSHeadRun.getT_eq s a
  show obs2 (HandSHeadRun.getT s) = obs2 s.abs.heap.get?
  rw [e]
theorem run_all (w : World) : HandSHeadRun.RunEqS R qv hk2 ob2 4000 names w := fun os => two_maps (runA w os) (runB w os)
/-! ### the end, where what is written is told by the heap -/
theorem walk_E {r : PySem.W.OpenSpec} {k : Nat} {q : Program} {loose : List Str} {XP : (Str → Option Value) → Heap → Prop} {YP : World → Heap → Prop} {d : DefRec} {ps : List Str} (wl : r.wellSaid = true) (nd : d.params.defaults = []) (ln : r.args.length = ps.length) (rm : Room k callerA)
    (F : ∀ (w : World) (mg : Str → Option Value) (fa : Addr) (h : Heap), YP w h → h.Ns mainGlobals mg → mg d.name = some (.ref fa) → ∃ (K : PySem.W.Frag) (fd : FuncData) (sp : Sp), K.In h ∧ (∀ (s : Shared) (us : List Value), us.length = ps.length → BindsTo s fd ⟨us, []⟩ (ps.zip us)) ∧
      (∀ (H : Hp) (xs : List V) (a : PySem.W.Codec.denoteAll r.args), PySem.W.Codec.app r.args r.asked a = true → DwAll K H xs (PySem.W.Codec.encAll r.args a) → sp xs H (fun v H' => Dw K H' v (r.ret.enc (PySem.W.Codec.app r.args r.f a))) fun _ _ _ => False) ∧
      ∀ base : Heap, K.In base → base.Ns mainGlobals mg → FnOk r.prog w K mg base CX0 k fa fd ps sp) : PySem.W.WalkOS q loose XP YP r d [] (fun f vs => PySem.call f vs) := by
  intro w s0 s1 mg mb G Y fa ob pm cd doc dV kV ho hd hcd hD hmg hg args vals as hpre hlay hrd hwl hlo
  obtain ⟨a, x1, x2⟩ := PySem.W.os_pre_some hpre
  obtain ⟨x3, x4⟩ := PySem.W.Codec.encAll_of_decAll r.args args a x1
  subst x3
  obtain ⟨K, fd, sp, KX, hbind, hsp, hF⟩ := F w mg fa _ Y G.T.g hmg
  have call := spec_call (R := []) (cl := classAt s0.heap) (d0 := r.ret.enc (PySem.W.Codec.app r.args r.f a)) KX G.T.g G.T.b G.T.builtins G.T.nolimit hg hwl (pl_encAll _ _) (layable_weight hlay) rm hF hbind (by rw [encAll_len]; exact ln) (fun H xs _ hS => hsp H xs a x2 hS) fun _ _ _ z => z
  refine PySem.W.enter_call (codeAny_mono call fun res s2 z => ?_)
  obtain ⟨u, bs, rfl, z1, z2, z3, z4⟩ := z
  exact ⟨.inl ⟨u, _, bs, rfl, fun _ => rfl, z1, (PySem.W.OpenSpec.post_iff wl x4 _ _).mpr rfl, fun y => Bool.noConfusion (show false = true from y)⟩, z2, z3, z4⟩
def mkg (K : PySem.W.Frag) (mg : Str → Option Value) (w : World) (base : Heap) : Sg.Ctx := ⟨R.prog, w, K, mg, base, He.ga K "World", He.ga K "Thing", He.ga K "View", He.ga K "RANGES", He.ga K "OBJECT", He.ga K "BY_ACTORS"⟩
theorem txt {K : PySem.W.Frag} {h : Heap} {mg : Str → Option Value} (w : World) (base : Heap) (X : K.In h) (G : h.Ns mainGlobals mg) (c : He.SaysD fa fn K) (cB : rngB K = true) : Txt (mkg K mg w base) where
  clW := He.cls_ok (c.fact 4 (f := .cls "World") rfl)
  clT := He.cls_ok (c.fact 1 (f := .cls "Thing") rfl)
  clV := He.cls_ok (c.fact 42 (f := .cls "View") rfl)
  nWth := He.noat_ok (c.fact 92 (f := .noat "World" "things") rfl)
  nWwi := He.noat_ok (c.fact 93 (f := .noat "World" "windows") rfl)
  nTho := He.noat_ok (c.fact 94 (f := .noat "Thing" "holder") rfl)
  nTre := He.noat_ok (c.fact 95 (f := .noat "Thing" "relation") rfl)
  nTtr := He.noat_ok (c.fact 96 (f := .noat "Thing" "traits") rfl)
  nTbu := He.noat_ok (c.fact 97 (f := .noat "Thing" "bulk") rfl)
  nTca := He.noat_ok (c.fact 98 (f := .noat "Thing" "capacity") rfl)
  nVsl := He.noat_ok (c.fact 99 (f := .noat "View" "sight_links") rfl)
  nVll := He.noat_ok (c.fact 100 (f := .noat "View" "light_links") rfl)
  nVsv := He.noat_ok (c.fact 101 (f := .noat "View" "sight_levels") rfl)
  nVlv := He.noat_ok (c.fact 102 (f := .noat "View" "light_levels") rfl)
  nVse := He.noat_ok (c.fact 103 (f := .noat "View" "seen") rfl)
  nVli := He.noat_ok (c.fact 104 (f := .noat "View" "lit") rfl)
  len := He.free_ok X G (c.fact 105 (f := .free "len") rfl)
  sum := He.free_ok X G (c.fact 106 (f := .free "sum") rfl)
  any := He.free_ok X G (c.fact 107 (f := .free "any") rfl)
  all := He.free_ok X G (c.fact 108 (f := .free "all") rfl)
  list := He.free_ok X G (c.fact 109 (f := .free "list") rfl)
  range := He.free_ok X G (c.fact 110 (f := .free "range") rfl)
  sorted := He.free_ok X G (c.fact 111 (f := .free "sorted") rfl)
  int := He.free_ok X G (c.fact 112 (f := .free "int") rfl)
  zip := He.free_ok X G (c.fact 113 (f := .free "zip") rfl)
  cCONTAINER := He.int_ok X G (c.fact 114 (f := .int "CONTAINER" 1) rfl)
  cSUPPORTER := He.int_ok X G (c.fact 115 (f := .int "SUPPORTER" 2) rfl)
  cACTOR := He.int_ok X G (c.fact 116 (f := .int "ACTOR" 4) rfl)
  cHINGED := He.int_ok X G (c.fact 117 (f := .int "HINGED" 8) rfl)
  cOPENED := He.int_ok X G (c.fact 118 (f := .int "OPENED" 16) rfl)
  cTRANSPARENT := He.int_ok X G (c.fact 119 (f := .int "TRANSPARENT" 32) rfl)
  cLUMINOUS := He.int_ok X G (c.fact 120 (f := .int "LUMINOUS" 64) rfl)
  cINSIDE := He.int_ok X G (c.fact 121 (f := .int "INSIDE" 1) rfl)
  cATOP := He.int_ok X G (c.fact 122 (f := .int "ATOP" 2) rfl)
  cHELD := He.int_ok X G (c.fact 123 (f := .int "HELD" 3) rfl)
  cPART := He.int_ok X G (c.fact 124 (f := .int "PART" 5) rfl)
  cMOST_THINGS := He.int_ok X G (c.fact 125 (f := .int "MOST_THINGS" 60) rfl)
  cLIGHT := He.int_ok X G (c.fact 126 (f := .int "LIGHT" 1) rfl)
  cSIGHT := He.int_ok X G (c.fact 127 (f := .int "SIGHT" 2) rfl)
  cHANDS := He.int_ok X G (c.fact 128 (f := .int "HANDS" 3) rfl)
  cOPEN_WINDOW := He.int_ok X G (c.fact 129 (f := .int "OPEN_WINDOW" 2) rfl)
  cONE_WAY := He.int_ok X G (c.fact 130 (f := .int "ONE_WAY" 3) rfl)
  cLUMINOUS_NUMBER := He.int_ok X G (c.fact 131 (f := .int "LUMINOUS_NUMBER" 6) rfl)
  cMOST_IN_PROOF := He.int_ok X G (c.fact 132 (f := .int "MOST_IN_PROOF" 60) rfl)
  cCHECK_PROOF := He.int_ok X G (c.fact 133 (f := .int "CHECK_PROOF" 12) rfl)
  gRANGES := (He.glo_ok X G (c.fact 134 (f := .glo "RANGES") rfl))
  gOBJECT := (He.glo_ok X G (c.fact 135 (f := .glo "OBJECT") rfl))
  gBY_ACTORS := (He.glo_ok X G (c.fact 136 (f := .glo "BY_ACTORS") rfl))
  byA := ints_at (rng_parts cB).2.2
  obj := ints_at (rng_parts cB).2.1
  rng := rng_of (rng_parts cB).1
theorem all_defs {K : PySem.W.Frag} {h : Heap} {mg : Str → Option Value} (w : World) (base : Heap) (X : K.In h) (G : h.Ns mainGlobals mg) (c : He.SaysD fa fn K) (cB : rngB K = true) {fd : FuncData}
    (F : FunD K "answers" "answers" (defArgs s_answers) (defBody s_answers) (defScope s_answers) [] [] (He.ga K "answers") fd) : FnOk R.prog w K mg base CX0 12 (He.ga K "answers") fd ["calls"] (sp_answers (mkg K mg w base)) := by
  have T := txt w base X G c cB
  obtain ⟨_, e_World_init⟩ := c.def_ 1 (d := d_World_init) rfl
  have p_World_init : H_World_init (mkg K mg w base) := ok_World_init T ⟨_, _, e_World_init, He.mkr_ok (c.fact 5 (f := .mkr "World") rfl), (He.glo_ok X G (c.fact 3 (f := .glo "World") rfl))⟩
  obtain ⟨_, e_World_many⟩ := c.def_ 2 (d := d_World_many) rfl
  have p_World_many : H_World_many (mkg K mg w base) := ok_World_many T ⟨_, _, e_World_many, He.meth_ok (c.fact 6 (f := .meth "World" "many") rfl)⟩
  obtain ⟨_, e_are_there⟩ := c.def_ 79 (d := d_are_there) rfl
  have p_are_there : H_are_there (mkg K mg w base) := ok_are_there T ⟨_, _, e_are_there, (He.glo_ok X G (c.fact 85 (f := .glo "are_there") rfl))⟩ p_World_many
  obtain ⟨_, e_is_between⟩ := c.def_ 76 (d := d_is_between) rfl
  have p_is_between : H_is_between (mkg K mg w base) := ok_is_between T ⟨_, _, e_is_between, (He.glo_ok X G (c.fact 82 (f := .glo "is_between") rfl))⟩
  obtain ⟨_, e_are_in_range⟩ := c.def_ 78 (d := d_are_in_range) rfl
  have p_are_in_range : H_are_in_range (mkg K mg w base) := ok_are_in_range T ⟨_, _, e_are_in_range, (He.glo_ok X G (c.fact 84 (f := .glo "are_in_range") rfl))⟩ p_is_between
  obtain ⟨_, e_World_thing⟩ := c.def_ 3 (d := d_World_thing) rfl
  have p_World_thing : H_World_thing (mkg K mg w base) := ok_World_thing T ⟨_, _, e_World_thing, He.meth_ok (c.fact 7 (f := .meth "World" "thing") rfl)⟩
  obtain ⟨_, e_World_has_trait⟩ := c.def_ 6 (d := d_World_has_trait) rfl
  have p_World_has_trait : H_World_has_trait (mkg K mg w base) := ok_World_has_trait T ⟨_, _, e_World_has_trait, He.meth_ok (c.fact 10 (f := .meth "World" "has_trait") rfl)⟩ p_World_thing
  obtain ⟨_, e_is_proof_list⟩ := c.def_ 77 (d := d_is_proof_list) rfl
  have p_is_proof_list : H_is_proof_list (mkg K mg w base) := ok_is_proof_list T ⟨_, _, e_is_proof_list, (He.glo_ok X G (c.fact 83 (f := .glo "is_proof_list") rfl))⟩ p_is_between
  obtain ⟨_, e_common_error⟩ := c.def_ 80 (d := d_common_error) rfl
  have p_common_error : H_common_error (mkg K mg w base) := ok_common_error T ⟨_, _, e_common_error, (He.glo_ok X G (c.fact 86 (f := .glo "common_error") rfl))⟩ p_are_there p_are_in_range p_World_has_trait p_is_proof_list
  obtain ⟨_, e_list_windows⟩ := c.def_ 63 (d := d_list_windows) rfl
  have p_list_windows : H_list_windows (mkg K mg w base) := ok_list_windows T ⟨_, _, e_list_windows, (He.glo_ok X G (c.fact 69 (f := .glo "list_windows") rfl))⟩
  obtain ⟨_, e_holders_of⟩ := c.def_ 13 (d := d_holders_of) rfl
  have p_holders_of : H_holders_of (mkg K mg w base) := ok_holders_of T ⟨_, _, e_holders_of, (He.glo_ok X G (c.fact 17 (f := .glo "holders_of") rfl))⟩ p_World_thing
  obtain ⟨_, e_World_is_place⟩ := c.def_ 5 (d := d_World_is_place) rfl
  have p_World_is_place : H_World_is_place (mkg K mg w base) := ok_World_is_place T ⟨_, _, e_World_is_place, He.meth_ok (c.fact 9 (f := .meth "World" "is_place") rfl)⟩ p_World_thing
  obtain ⟨_, e_lies_in⟩ := c.def_ 20 (d := d_lies_in) rfl
  have p_lies_in : H_lies_in (mkg K mg w base) := ok_lies_in T ⟨_, _, e_lies_in, (He.glo_ok X G (c.fact 24 (f := .glo "lies_in") rfl))⟩ p_World_is_place p_World_thing
  obtain ⟨_, e_locate⟩ := c.def_ 52 (d := d_locate) rfl
  have p_locate : H_locate (mkg K mg w base) := ok_locate T ⟨_, _, e_locate, (He.glo_ok X G (c.fact 58 (f := .glo "locate") rfl))⟩ p_World_thing p_holders_of p_lies_in
  obtain ⟨_, e_World_numbers⟩ := c.def_ 4 (d := d_World_numbers) rfl
  have p_World_numbers : H_World_numbers (mkg K mg w base) := ok_World_numbers T ⟨_, _, e_World_numbers, He.meth_ok (c.fact 8 (f := .meth "World" "numbers") rfl)⟩
  obtain ⟨_, e_list_contents⟩ := c.def_ 53 (d := d_list_contents) rfl
  have p_list_contents : H_list_contents (mkg K mg w base) := ok_list_contents T ⟨_, _, e_list_contents, (He.glo_ok X G (c.fact 59 (f := .glo "list_contents") rfl))⟩ p_World_numbers p_World_thing
  obtain ⟨_, e_View_goals⟩ := c.def_ 38 (d := d_View_goals) rfl
  have p_View_goals : H_View_goals (mkg K mg w base) := ok_View_goals T ⟨_, _, e_View_goals, He.meth_ok (c.fact 44 (f := .meth "View" "goals") rfl)⟩
  obtain ⟨_, e_depth_of⟩ := c.def_ 34 (d := d_depth_of) rfl
  have p_depth_of : H_depth_of (mkg K mg w base) := ok_depth_of T ⟨_, _, e_depth_of, (He.glo_ok X G (c.fact 38 (f := .glo "depth_of") rfl))⟩
  obtain ⟨_, e_path_to⟩ := c.def_ 35 (d := d_path_to) rfl
  have p_path_to : H_path_to (mkg K mg w base) := ok_path_to T ⟨_, _, e_path_to, (He.glo_ok X G (c.fact 39 (f := .glo "path_to") rfl))⟩ p_depth_of
  obtain ⟨_, e_World_is_box⟩ := c.def_ 7 (d := d_World_is_box) rfl
  have p_World_is_box : H_World_is_box (mkg K mg w base) := ok_World_is_box T ⟨_, _, e_World_is_box, He.meth_ok (c.fact 11 (f := .meth "World" "is_box") rfl)⟩ p_World_has_trait p_World_is_place
  obtain ⟨_, e_does_pass_wall⟩ := c.def_ 25 (d := d_does_pass_wall) rfl
  have p_does_pass_wall : H_does_pass_wall (mkg K mg w base) := ok_does_pass_wall T ⟨_, _, e_does_pass_wall, (He.glo_ok X G (c.fact 29 (f := .glo "does_pass_wall") rfl))⟩ p_World_has_trait
  obtain ⟨_, e_wall_ways⟩ := c.def_ 26 (d := d_wall_ways) rfl
  have p_wall_ways : H_wall_ways (mkg K mg w base) := ok_wall_ways T ⟨_, _, e_wall_ways, (He.glo_ok X G (c.fact 30 (f := .glo "wall_ways") rfl))⟩ p_World_numbers p_World_is_box p_does_pass_wall p_lies_in
  obtain ⟨_, e_window_ways⟩ := c.def_ 27 (d := d_window_ways) rfl
  have p_window_ways : H_window_ways (mkg K mg w base) := ok_window_ways T ⟨_, _, e_window_ways, (He.glo_ok X G (c.fact 31 (f := .glo "window_ways") rfl))⟩
  obtain ⟨_, e_links_for⟩ := c.def_ 28 (d := d_links_for) rfl
  have p_links_for : H_links_for (mkg K mg w base) := ok_links_for T ⟨_, _, e_links_for, (He.glo_ok X G (c.fact 32 (f := .glo "links_for") rfl))⟩ p_wall_ways p_window_ways p_World_many
  obtain ⟨_, e_next_level⟩ := c.def_ 30 (d := d_next_level) rfl
  have p_next_level : H_next_level (mkg K mg w base) := ok_next_level T ⟨_, _, e_next_level, (He.glo_ok X G (c.fact 34 (f := .glo "next_level") rfl))⟩
  obtain ⟨_, e_levels_from⟩ := c.def_ 31 (d := d_levels_from) rfl
  have p_levels_from : H_levels_from (mkg K mg w base) := ok_levels_from T ⟨_, _, e_levels_from, (He.glo_ok X G (c.fact 35 (f := .glo "levels_from") rfl))⟩ p_next_level
  obtain ⟨_, e_spaces_in⟩ := c.def_ 32 (d := d_spaces_in) rfl
  have p_spaces_in : H_spaces_in (mkg K mg w base) := ok_spaces_in T ⟨_, _, e_spaces_in, (He.glo_ok X G (c.fact 36 (f := .glo "spaces_in") rfl))⟩
  obtain ⟨_, e_light_sources⟩ := c.def_ 36 (d := d_light_sources) rfl
  have p_light_sources : H_light_sources (mkg K mg w base) := ok_light_sources T ⟨_, _, e_light_sources, (He.glo_ok X G (c.fact 40 (f := .glo "light_sources") rfl))⟩ p_World_numbers p_World_has_trait p_lies_in
  obtain ⟨_, e_View_init⟩ := c.def_ 37 (d := d_View_init) rfl
  have p_View_init : H_View_init (mkg K mg w base) := ok_View_init T ⟨_, _, e_View_init, He.mkr_ok (c.fact 43 (f := .mkr "View") rfl), (He.glo_ok X G (c.fact 41 (f := .glo "View") rfl))⟩ p_links_for p_levels_from p_spaces_in p_light_sources p_lies_in
  obtain ⟨_, e_met_in⟩ := c.def_ 21 (d := d_met_in) rfl
  have p_met_in : H_met_in (mkg K mg w base) := ok_met_in T ⟨_, _, e_met_in, (He.glo_ok X G (c.fact 25 (f := .glo "met_in") rfl))⟩ p_World_is_box p_lies_in
  obtain ⟨_, e_reached_from⟩ := c.def_ 33 (d := d_reached_from) rfl
  have p_reached_from : H_reached_from (mkg K mg w base) := ok_reached_from T ⟨_, _, e_reached_from, (He.glo_ok X G (c.fact 37 (f := .glo "reached_from") rfl))⟩ p_spaces_in p_levels_from
  obtain ⟨_, e_proof_of⟩ := c.def_ 45 (d := d_proof_of) rfl
  have p_proof_of : H_proof_of (mkg K mg w base) := ok_proof_of T ⟨_, _, e_proof_of, (He.glo_ok X G (c.fact 51 (f := .glo "proof_of") rfl))⟩ p_View_goals p_path_to p_View_init p_met_in p_reached_from
  obtain ⟨_, e_with_length⟩ := c.def_ 51 (d := d_with_length) rfl
  have p_with_length : H_with_length (mkg K mg w base) := ok_with_length T ⟨_, _, e_with_length, (He.glo_ok X G (c.fact 57 (f := .glo "with_length") rfl))⟩
  obtain ⟨_, e_can_see⟩ := c.def_ 54 (d := d_can_see) rfl
  have p_can_see : H_can_see (mkg K mg w base) := ok_can_see T ⟨_, _, e_can_see, (He.glo_ok X G (c.fact 60 (f := .glo "can_see") rfl))⟩ p_proof_of p_with_length
  obtain ⟨_, e_light_path⟩ := c.def_ 46 (d := d_light_path) rfl
  have p_light_path : H_light_path (mkg K mg w base) := ok_light_path T ⟨_, _, e_light_path, (He.glo_ok X G (c.fact 52 (f := .glo "light_path") rfl))⟩ p_links_for p_levels_from p_path_to p_light_sources p_spaces_in
  obtain ⟨_, e_is_lit⟩ := c.def_ 56 (d := d_is_lit) rfl
  have p_is_lit : H_is_lit (mkg K mg w base) := ok_is_lit T ⟨_, _, e_is_lit, (He.glo_ok X G (c.fact 62 (f := .glo "is_lit") rfl))⟩ p_light_path p_World_is_place p_World_has_trait
  obtain ⟨_, e_View_does_see⟩ := c.def_ 39 (d := d_View_does_see) rfl
  have p_View_does_see : H_View_does_see (mkg K mg w base) := ok_View_does_see T ⟨_, _, e_View_does_see, He.meth_ok (c.fact 45 (f := .meth "View" "does_see") rfl)⟩ p_View_goals p_met_in
  obtain ⟨_, e_visible_to⟩ := c.def_ 43 (d := d_visible_to) rfl
  have p_visible_to : H_visible_to (mkg K mg w base) := ok_visible_to T ⟨_, _, e_visible_to, (He.glo_ok X G (c.fact 49 (f := .glo "visible_to") rfl))⟩ p_View_init p_World_numbers p_View_does_see
  obtain ⟨_, e_list_visible⟩ := c.def_ 57 (d := d_list_visible) rfl
  have p_list_visible : H_list_visible (mkg K mg w base) := ok_list_visible T ⟨_, _, e_list_visible, (He.glo_ok X G (c.fact 63 (f := .glo "list_visible") rfl))⟩ p_visible_to
  obtain ⟨_, e_hands_from⟩ := c.def_ 40 (d := d_hands_from) rfl
  have p_hands_from : H_hands_from (mkg K mg w base) := ok_hands_from T ⟨_, _, e_hands_from, (He.glo_ok X G (c.fact 46 (f := .glo "hands_from") rfl))⟩ p_reached_from p_links_for p_lies_in
  obtain ⟨_, e_does_carry⟩ := c.def_ 23 (d := d_does_carry) rfl
  have p_does_carry : H_does_carry (mkg K mg w base) := ok_does_carry T ⟨_, _, e_does_carry, (He.glo_ok X G (c.fact 27 (f := .glo "does_carry") rfl))⟩ p_World_thing
  obtain ⟨_, e_is_reached⟩ := c.def_ 41 (d := d_is_reached) rfl
  have p_is_reached : H_is_reached (mkg K mg w base) := ok_is_reached T ⟨_, _, e_is_reached, (He.glo_ok X G (c.fact 47 (f := .glo "is_reached") rfl))⟩ p_View_does_see p_does_carry p_met_in
  obtain ⟨_, e_reachable_by⟩ := c.def_ 44 (d := d_reachable_by) rfl
  have p_reachable_by : H_reachable_by (mkg K mg w base) := ok_reachable_by T ⟨_, _, e_reachable_by, (He.glo_ok X G (c.fact 50 (f := .glo "reachable_by") rfl))⟩ p_View_init p_hands_from p_World_numbers p_is_reached
  obtain ⟨_, e_list_reachable⟩ := c.def_ 58 (d := d_list_reachable) rfl
  have p_list_reachable : H_list_reachable (mkg K mg w base) := ok_list_reachable T ⟨_, _, e_list_reachable, (He.glo_ok X G (c.fact 64 (f := .glo "list_reachable") rfl))⟩ p_reachable_by
  obtain ⟨_, e_does_count⟩ := c.def_ 15 (d := d_does_count) rfl
  have p_does_count : H_does_count (mkg K mg w base) := ok_does_count T ⟨_, _, e_does_count, (He.glo_ok X G (c.fact 19 (f := .glo "does_count") rfl))⟩ p_World_thing
  obtain ⟨_, e_load_of⟩ := c.def_ 16 (d := d_load_of) rfl
  have p_load_of : H_load_of (mkg K mg w base) := ok_load_of T ⟨_, _, e_load_of, (He.glo_ok X G (c.fact 20 (f := .glo "load_of") rfl))⟩ p_World_thing p_World_numbers p_does_count
  obtain ⟨_, e_is_within⟩ := c.def_ 14 (d := d_is_within) rfl
  have p_is_within : H_is_within (mkg K mg w base) := ok_is_within T ⟨_, _, e_is_within, (He.glo_ok X G (c.fact 18 (f := .glo "is_within") rfl))⟩ p_holders_of
  obtain ⟨_, e_get_load⟩ := c.def_ 59 (d := d_get_load) rfl
  have p_get_load : H_get_load (mkg K mg w base) := ok_get_load T ⟨_, _, e_get_load, (He.glo_ok X G (c.fact 65 (f := .glo "get_load") rfl))⟩ p_load_of p_World_numbers p_is_within p_World_thing
  obtain ⟨_, e_enclosing⟩ := c.def_ 22 (d := d_enclosing) rfl
  have p_enclosing : H_enclosing (mkg K mg w base) := ok_enclosing T ⟨_, _, e_enclosing, (He.glo_ok X G (c.fact 26 (f := .glo "enclosing") rfl))⟩ p_lies_in p_World_is_place
  obtain ⟨_, e_up_to_common⟩ := c.def_ 60 (d := d_up_to_common) rfl
  have p_up_to_common : H_up_to_common (mkg K mg w base) := ok_up_to_common T ⟨_, _, e_up_to_common, (He.glo_ok X G (c.fact 66 (f := .glo "up_to_common") rfl))⟩
  obtain ⟨_, e_compare_spaces⟩ := c.def_ 61 (d := d_compare_spaces) rfl
  have p_compare_spaces : H_compare_spaces (mkg K mg w base) := ok_compare_spaces T ⟨_, _, e_compare_spaces, (He.glo_ok X G (c.fact 67 (f := .glo "compare_spaces") rfl))⟩ p_enclosing p_with_length p_up_to_common
  obtain ⟨_, e_get_properties⟩ := c.def_ 62 (d := d_get_properties) rfl
  have p_get_properties : H_get_properties (mkg K mg w base) := ok_get_properties T ⟨_, _, e_get_properties, (He.glo_ok X G (c.fact 68 (f := .glo "get_properties") rfl))⟩ p_World_thing
  obtain ⟨_, e_asked⟩ := c.def_ 82 (d := d_asked) rfl
  have p_asked : H_asked (mkg K mg w base) := ok_asked T ⟨_, _, e_asked, (He.glo_ok X G (c.fact 88 (f := .glo "asked") rfl))⟩ p_list_windows p_locate p_list_contents p_can_see p_is_lit p_list_visible p_list_reachable p_get_load p_compare_spaces p_get_properties
  obtain ⟨_, e_linked_to⟩ := c.def_ 29 (d := d_linked_to) rfl
  have p_linked_to : H_linked_to (mkg K mg w base) := ok_linked_to T ⟨_, _, e_linked_to, (He.glo_ok X G (c.fact 33 (f := .glo "linked_to") rfl))⟩
  obtain ⟨_, e_is_closed⟩ := c.def_ 48 (d := d_is_closed) rfl
  have p_is_closed : H_is_closed (mkg K mg w base) := ok_is_closed T ⟨_, _, e_is_closed, (He.glo_ok X G (c.fact 54 (f := .glo "is_closed") rfl))⟩ p_linked_to
  obtain ⟨_, e_is_negative_proof⟩ := c.def_ 50 (d := d_is_negative_proof) rfl
  have p_is_negative_proof : H_is_negative_proof (mkg K mg w base) := ok_is_negative_proof T ⟨_, _, e_is_negative_proof, (He.glo_ok X G (c.fact 56 (f := .glo "is_negative_proof") rfl))⟩ p_is_closed p_lies_in p_links_for p_met_in p_light_sources
  obtain ⟨_, e_is_path⟩ := c.def_ 47 (d := d_is_path) rfl
  have p_is_path : H_is_path (mkg K mg w base) := ok_is_path T ⟨_, _, e_is_path, (He.glo_ok X G (c.fact 53 (f := .glo "is_path") rfl))⟩ p_linked_to
  obtain ⟨_, e_is_positive_proof⟩ := c.def_ 49 (d := d_is_positive_proof) rfl
  have p_is_positive_proof : H_is_positive_proof (mkg K mg w base) := ok_is_positive_proof T ⟨_, _, e_is_positive_proof, (He.glo_ok X G (c.fact 55 (f := .glo "is_positive_proof") rfl))⟩ p_lies_in p_light_sources p_is_path p_met_in p_links_for
  obtain ⟨_, e_check_proof⟩ := c.def_ 55 (d := d_check_proof) rfl
  have p_check_proof : H_check_proof (mkg K mg w base) := ok_check_proof T ⟨_, _, e_check_proof, (He.glo_ok X G (c.fact 61 (f := .glo "check_proof") rfl))⟩ p_is_negative_proof p_is_positive_proof
  obtain ⟨_, e_World_set_trait⟩ := c.def_ 10 (d := d_World_set_trait) rfl
  have p_World_set_trait : H_World_set_trait (mkg K mg w base) := ok_World_set_trait T ⟨_, _, e_World_set_trait, He.meth_ok (c.fact 14 (f := .meth "World" "set_trait") rfl)⟩ p_World_thing p_World_has_trait
  obtain ⟨_, e_does_reach⟩ := c.def_ 42 (d := d_does_reach) rfl
  have p_does_reach : H_does_reach (mkg K mg w base) := ok_does_reach T ⟨_, _, e_does_reach, (He.glo_ok X G (c.fact 48 (f := .glo "does_reach") rfl))⟩ p_is_reached p_View_init p_hands_from
  obtain ⟨_, e_open_or_close⟩ := c.def_ 75 (d := d_open_or_close) rfl
  have p_open_or_close : H_open_or_close (mkg K mg w base) := ok_open_or_close T ⟨_, _, e_open_or_close, (He.glo_ok X G (c.fact 81 (f := .glo "open_or_close") rfl))⟩ p_World_set_trait p_does_reach p_World_has_trait
  obtain ⟨_, e_World_take_in⟩ := c.def_ 8 (d := d_World_take_in) rfl
  have p_World_take_in : H_World_take_in (mkg K mg w base) := ok_World_take_in T ⟨_, _, e_World_take_in, He.meth_ok (c.fact 12 (f := .meth "World" "take_in") rfl)⟩
  obtain ⟨_, e_Thing_init⟩ := c.def_ 0 (d := d_Thing_init) rfl
  have p_Thing_init : H_Thing_init (mkg K mg w base) := ok_Thing_init T ⟨_, _, e_Thing_init, He.mkr_ok (c.fact 2 (f := .mkr "Thing") rfl), (He.glo_ok X G (c.fact 0 (f := .glo "Thing") rfl))⟩
  obtain ⟨_, e_add_place⟩ := c.def_ 64 (d := d_add_place) rfl
  have p_add_place : H_add_place (mkg K mg w base) := ok_add_place T ⟨_, _, e_add_place, (He.glo_ok X G (c.fact 70 (f := .glo "add_place") rfl))⟩ p_World_many p_World_take_in p_Thing_init
  obtain ⟨_, e_is_too_much⟩ := c.def_ 17 (d := d_is_too_much) rfl
  have p_is_too_much : H_is_too_much (mkg K mg w base) := ok_is_too_much T ⟨_, _, e_is_too_much, (He.glo_ok X G (c.fact 21 (f := .glo "is_too_much") rfl))⟩ p_World_is_place p_World_thing
  obtain ⟨_, e_can_hold⟩ := c.def_ 12 (d := d_can_hold) rfl
  have p_can_hold : H_can_hold (mkg K mg w base) := ok_can_hold T ⟨_, _, e_can_hold, (He.glo_ok X G (c.fact 16 (f := .glo "can_hold") rfl))⟩ p_World_has_trait p_World_is_place
  obtain ⟨_, e_add_object⟩ := c.def_ 65 (d := d_add_object) rfl
  have p_add_object : H_add_object (mkg K mg w base) := ok_add_object T ⟨_, _, e_add_object, (He.glo_ok X G (c.fact 71 (f := .glo "add_object") rfl))⟩ p_is_too_much p_World_many p_can_hold p_World_take_in p_Thing_init p_load_of
  obtain ⟨_, e_load_with⟩ := c.def_ 18 (d := d_load_with) rfl
  have p_load_with : H_load_with (mkg K mg w base) := ok_load_with T ⟨_, _, e_load_with, (He.glo_ok X G (c.fact 22 (f := .glo "load_with") rfl))⟩ p_load_of p_does_count p_World_thing
  obtain ⟨_, e_would_exceed⟩ := c.def_ 19 (d := d_would_exceed) rfl
  have p_would_exceed : H_would_exceed (mkg K mg w base) := ok_would_exceed T ⟨_, _, e_would_exceed, (He.glo_ok X G (c.fact 23 (f := .glo "would_exceed") rfl))⟩ p_is_too_much p_load_with
  obtain ⟨_, e_World_hand_to⟩ := c.def_ 9 (d := d_World_hand_to) rfl
  have p_World_hand_to : H_World_hand_to (mkg K mg w base) := ok_World_hand_to T ⟨_, _, e_World_hand_to, He.meth_ok (c.fact 13 (f := .meth "World" "hand_to") rfl)⟩ p_World_thing
  obtain ⟨_, e_move_object⟩ := c.def_ 66 (d := d_move_object) rfl
  have p_move_object : H_move_object (mkg K mg w base) := ok_move_object T ⟨_, _, e_move_object, (He.glo_ok X G (c.fact 72 (f := .glo "move_object") rfl))⟩ p_would_exceed p_World_hand_to p_World_is_place p_is_within p_can_hold
  obtain ⟨_, e_set_property⟩ := c.def_ 67 (d := d_set_property) rfl
  have p_set_property : H_set_property (mkg K mg w base) := ok_set_property T ⟨_, _, e_set_property, (He.glo_ok X G (c.fact 73 (f := .glo "set_property") rfl))⟩ p_World_set_trait p_World_is_place
  obtain ⟨_, e_World_set_window⟩ := c.def_ 11 (d := d_World_set_window) rfl
  have p_World_set_window : H_World_set_window (mkg K mg w base) := ok_World_set_window T ⟨_, _, e_World_set_window, He.meth_ok (c.fact 15 (f := .meth "World" "set_window") rfl)⟩
  obtain ⟨_, e_set_window⟩ := c.def_ 68 (d := d_set_window) rfl
  have p_set_window : H_set_window (mkg K mg w base) := ok_set_window T ⟨_, _, e_set_window, (He.glo_ok X G (c.fact 74 (f := .glo "set_window") rfl))⟩ p_World_set_window p_World_is_place
  obtain ⟨_, e_is_kept_back⟩ := c.def_ 69 (d := d_is_kept_back) rfl
  have p_is_kept_back : H_is_kept_back (mkg K mg w base) := ok_is_kept_back T ⟨_, _, e_is_kept_back, (He.glo_ok X G (c.fact 75 (f := .glo "is_kept_back") rfl))⟩ p_World_thing
  obtain ⟨_, e_take_object⟩ := c.def_ 70 (d := d_take_object) rfl
  have p_take_object : H_take_object (mkg K mg w base) := ok_take_object T ⟨_, _, e_take_object, (He.glo_ok X G (c.fact 76 (f := .glo "take_object") rfl))⟩ p_would_exceed p_is_kept_back p_World_hand_to p_does_reach p_World_is_place p_is_within
  obtain ⟨_, e_is_held_by⟩ := c.def_ 71 (d := d_is_held_by) rfl
  have p_is_held_by : H_is_held_by (mkg K mg w base) := ok_is_held_by T ⟨_, _, e_is_held_by, (He.glo_ok X G (c.fact 77 (f := .glo "is_held_by") rfl))⟩ p_World_thing
  obtain ⟨_, e_does_fit⟩ := c.def_ 72 (d := d_does_fit) rfl
  have p_does_fit : H_does_fit (mkg K mg w base) := ok_does_fit T ⟨_, _, e_does_fit, (He.glo_ok X G (c.fact 78 (f := .glo "does_fit") rfl))⟩ p_can_hold p_reached_from p_links_for p_lies_in
  obtain ⟨_, e_put_object⟩ := c.def_ 73 (d := d_put_object) rfl
  have p_put_object : H_put_object (mkg K mg w base) := ok_put_object T ⟨_, _, e_put_object, (He.glo_ok X G (c.fact 79 (f := .glo "put_object") rfl))⟩ p_would_exceed p_World_hand_to p_does_reach p_is_within p_is_held_by p_does_fit
  obtain ⟨_, e_landing⟩ := c.def_ 24 (d := d_landing) rfl
  have p_landing : H_landing (mkg K mg w base) := ok_landing T ⟨_, _, e_landing, (He.glo_ok X G (c.fact 28 (f := .glo "landing") rfl))⟩ p_World_is_place p_World_thing
  obtain ⟨_, e_drop_object⟩ := c.def_ 74 (d := d_drop_object) rfl
  have p_drop_object : H_drop_object (mkg K mg w base) := ok_drop_object T ⟨_, _, e_drop_object, (He.glo_ok X G (c.fact 80 (f := .glo "drop_object") rfl))⟩ p_landing p_is_too_much p_World_hand_to p_load_with p_is_held_by
  obtain ⟨_, e_changed⟩ := c.def_ 81 (d := d_changed) rfl
  have p_changed : H_changed (mkg K mg w base) := ok_changed T ⟨_, _, e_changed, (He.glo_ok X G (c.fact 87 (f := .glo "changed") rfl))⟩ p_open_or_close p_add_place p_add_object p_move_object p_set_property p_set_window p_take_object p_put_object p_drop_object
  obtain ⟨_, e_answer_of⟩ := c.def_ 83 (d := d_answer_of) rfl
  have p_answer_of : H_answer_of (mkg K mg w base) := ok_answer_of T ⟨_, _, e_answer_of, (He.glo_ok X G (c.fact 89 (f := .glo "answer_of") rfl))⟩ p_common_error p_asked p_check_proof p_changed
  obtain ⟨_, e_list_at⟩ := c.def_ 84 (d := d_list_at) rfl
  have p_list_at : H_list_at (mkg K mg w base) := ok_list_at T ⟨_, _, e_list_at, (He.glo_ok X G (c.fact 90 (f := .glo "list_at") rfl))⟩
  exact okF_answers (g := mkg K mg w base) T F p_World_init p_answer_of p_list_at
end SgH
open PySem PySem.W PySem.Calls PyProof.Rows
set_option maxHeartbeats 8000000 in
theorem PySem.Challenge.cw_sightnest_s01_answers_holds : PySem.Challenge.rw_sightnest_s01_answers.Holds := by
  w_on
  refine HandSHeadRun.head_spec (r := PySem.Challenge.rw_sightnest_s01_answers) (q := SgH.qv) (H := SgH.hk2) (ob := SgH.ob2) (M := 4000) (loose := SgH.names) (d := HandSHeadRun.topDef PySem.Challenge.rw_sightnest_s01_answers.prog 107) (kwd := []) SgH.ob2_eq (by kernel_rfl) (fun s => by kernel_rfl) SgH.run_all
    (by kernel_rfl) (by kernel_rfl) (by kernel_rfl) os_shapes (by first | assumption | decide +kernel) (by decide +kernel) ⟨rfl, rfl, rfl, rfl, rfl, by decide +kernel⟩ ?hw ?hc
  case hw => exact ⟨[.list [.int 19]], by decide +kernel, by decide +kernel⟩
  case hc =>
    refine SgH.walk_E (k := 12) (ps := ["calls"]) (by decide +kernel) (by kernel_rfl) rfl ⟨rfl, by decide, by decide⟩ ?_
    intro w mg fa h Y G hmg
    obtain ⟨K, X, c, cB⟩ := Y
    have hmg : mg ("answers" : PySem.Str) = some (.ref fa) := by
      have e : (HandSHeadRun.topDef PySem.Challenge.rw_sightnest_s01_answers.prog 107).name = ("answers" : PySem.Str) := by kernel_rfl
      rw [← e]
      exact hmg
    obtain ⟨fd, F⟩ := c.def_ 85 (d := SgH.d_answers) rfl
    have ea := hmg.symm.trans (He.glo_ok X G (c.fact 91 (f := .glo "answers") rfl))
    cases ea
    refine ⟨K, fd, Sg.sp_answers (SgH.mkg K mg w h), X, L2.FunD.bindsA (ps := ["calls"]) F fun _ _ _ _ _ _ us hl => match us, hl with | [_], _ => rfl, fun H xs a hask hx => ?_, fun base hb hn => SgH.all_defs w base X G c cB F⟩
    cases hx with
    | cons h1 h2 =>
      cases h2
      cases h1 with
      | lst hs ha =>
        have e := L2.ints_dw a.1 _ ha
        subst e
        obtain ⟨cs, q1, q2, q3⟩ := Sg.asked_of (l := a.1) hask
        refine ⟨_, a.1, cs, rfl, hs, q1, q2, q3, fun p H2 hp => ?_⟩
        show L2.Dw K H2 (.ref p) (.list ((PyVbtaac.answers a.1).map WData.int))
        rw [Sg.answers_is q1]
        exact .lst (Evl.sq_of hp) (L2.dw_ints _)
