import PyProof.Rows.All
import Wide.All
import OpenK.AllK
import Wide.FinOn
import HandS.ForMost
import PySem.Challenge.RW_passlights_k17_whole_rows
import HandS.Sort
import HandS.SortOrd
import HandS.Keys
import HandS.Deep
import HandS.DictTup
import HandS.TupSets
import KE.KDictSum
import KE.KDictCopyH
import KE.KDictWalk
import PyProof.TupleOfSeq
import HandS.Walk
import KE.GoesMore
import KE.GoesEnum
import KE.KDictDisplayH
import HandS.IsInst
import HandS.Style
import HandS.Conv
import HandS.WordsDict
import HandS.Codes
set_option Elab.async false
set_option linter.all false
set_option maxRecDepth 100000
set_option maxHeartbeats 8000000
/-! The abstract part: lamps on the whole line of integers, A the standing at first, B the one that is to come. -/
namespace Wr
section
variable (A B : Int → Prop)
/-- going on, a lamp of B is met before any of A -/
def nextN (j : Int) : Prop := ∃ s : Int, 1 ≤ s ∧ B (j + s) ∧ ∀ t : Int, 1 ≤ t → t ≤ s → ¬ A (j + t)
/-- going back, a lamp of A is met before any of B -/
def prevO (j : Int) : Prop := ∃ s : Int, 1 ≤ s ∧ A (j - s) ∧ ∀ t : Int, 1 ≤ t → t ≤ s → ¬ B (j - t)
open Classical in
/-- what a lamp costs -/
noncomputable def cost (j : Int) : Nat := if (A j ↔ B j) then (if ¬ A j ∧ (nextN A B j ∨ prevO A B j) then 2 else 0) else 1
def F1 : Prop := ∀ b, B b → ∃ a, A a ∧ a ≤ b
def F2 : Prop := ∀ a, A a → ∃ b, B b ∧ a ≤ b
end
variable {A B C K : Int → Prop}
theorem cost_ne {j : Int} (h : ¬ (A j ↔ B j)) : cost A B j = 1 := if_neg h
theorem cost_both {j : Int} (h : A j) (h' : B j) : cost A B j = 0 := by
  unfold cost
  rw [if_pos ⟨fun _ => h', fun _ => h⟩, if_neg (fun z => z.1 h)]
theorem cost_two {j : Int} (h : ¬ A j) (h' : ¬ B j) (q : nextN A B j ∨ prevO A B j) : cost A B j = 2 := by
  unfold cost
  rw [if_pos ⟨fun z => (h z).elim, fun z => (h' z).elim⟩, if_pos ⟨h, q⟩]
theorem cost_zero {j : Int} (h : ¬ A j) (h' : ¬ B j) (q : ¬ (nextN A B j ∨ prevO A B j)) : cost A B j = 0 := by
  unfold cost
  rw [if_pos ⟨fun z => (h z).elim, fun z => (h' z).elim⟩, if_neg (fun z => q z.2)]
theorem cost_le2 (j : Int) : cost A B j ≤ 2 := by
  unfold cost
  split
  · split <;> omega
  · omega
/-- the two standings are alike at j -/
theorem cost_mono {j : Int} (e : C j ↔ B j) (h : ¬ A j → ¬ B j → (nextN A C j ∨ prevO A C j) → nextN A B j ∨ prevO A B j) : cost A C j ≤ cost A B j := by
  by_cases ha : A j
  · by_cases hb : B j
    · rw [cost_both ha (e.mpr hb)]; omega
    · rw [cost_ne (A := A) (B := C) (fun z => hb (e.mp (z.mp ha))), cost_ne (fun z => hb (z.mp ha))]; omega
  · by_cases hb : B j
    · rw [cost_ne (A := A) (B := C) (fun z => ha (z.mpr (e.mpr hb))), cost_ne (fun z => ha (z.mpr hb))]; omega
    · by_cases q : nextN A C j ∨ prevO A C j
      · rw [cost_two ha hb (h ha hb q)]; exact cost_le2 j
      · rw [cost_zero ha (fun z => hb (e.mp z)) q]; omega

/-! ### a deed costs at most one -/
/-- K is lit: C is B and K -/
theorem light_le (hb : ∀ i, K i → ¬ B i ∧ C i ∧ B (i - 1)) (hs : ∀ i, ¬ K i → (C i ↔ B i)) :
    (∀ j, ¬ K j → cost A C j ≤ cost A B j) ∧ ∀ j, K j → cost A C j ≤ cost A B j + 1 := by
  refine ⟨fun j hj => cost_mono (hs j hj) fun na nb q => ?_, fun j hj => ?_⟩
  · rcases q with ⟨s, h1, h2, h3⟩ | ⟨s, h1, h2, h3⟩
    · left
      by_cases hk : K (j + s)
      · have hp := (hb _ hk).2.2
        by_cases e : s = 1
        · exact (nb (by rw [e, Int.add_sub_cancel] at hp; exact hp)).elim
        · exact ⟨s - 1, by omega, by rw [← Int.add_sub_assoc]; exact hp, fun t t1 t2 => h3 t t1 (by omega)⟩
      · exact ⟨s, h1, (hs _ hk).mp h2, h3⟩
    · right
      refine ⟨s, h1, h2, fun t t1 t2 z => h3 t t1 t2 ?_⟩
      by_cases hk : K (j - t)
      · exact (hb _ hk).2.1
      · exact (hs _ hk).mpr z
  · have hc := (hb j hj).2.1
    by_cases ha : A j
    · rw [cost_both ha hc]; omega
    · rw [cost_ne (A := A) (B := C) (fun z => ha (z.mpr hc))]; omega
/-- K is put out: C is B without K -/
theorem quench_le (hb : ∀ i, K i → B i ∧ ¬ C i ∧ C (i + 1)) (hs : ∀ i, ¬ K i → (C i ↔ B i)) :
    (∀ j, ¬ K j → cost A C j ≤ cost A B j) ∧ ∀ j, K j → cost A C j ≤ cost A B j + 1 := by
  have sub : ∀ i, C i → B i := fun i z => by
    by_cases hk : K i
    · exact (hb i hk).1
    · exact (hs i hk).mp z
  refine ⟨fun j hj => cost_mono (hs j hj) fun na nb q => ?_, fun j hj => ?_⟩
  · rcases q with ⟨s, h1, h2, h3⟩ | ⟨s, h1, h2, h3⟩
    · exact .inl ⟨s, h1, sub _ h2, h3⟩
    · right
      refine ⟨s, h1, h2, fun t t1 t2 z => ?_⟩
      by_cases hk : K (j - t)
      · have hp := (hb _ hk).2.2
        by_cases e : t = 1
        · rw [e, Int.sub_add_cancel] at hp
          exact nb (sub _ hp)
        · refine h3 (t - 1) (by omega) (by omega) ?_
          have e2 : j - (t - 1) = j - t + 1 := by omega
          rw [e2]; exact hp
      · exact h3 t t1 t2 ((hs _ hk).mpr z)
  · obtain ⟨h1, h2, _⟩ := hb j hj
    by_cases ha : A j
    · rw [cost_ne (A := A) (B := C) (fun z => h2 (z.mp ha))]; omega
    · rw [cost_ne (A := A) (B := B) (fun z => ha (z.mpr h1))]
      exact cost_le2 j

/-! ### a deed back that gains one -/
/-- K, of B alone, was lit last -/
theorem back_light (hb : ∀ i, K i → ¬ A i ∧ B i ∧ ¬ C i ∧ C (i - 1) ∧ ¬ nextN A B i) (hs : ∀ i, ¬ K i → (C i ↔ B i)) :
    (∀ j, ¬ K j → cost A C j ≤ cost A B j) ∧ ∀ j, K j → cost A C j + 1 ≤ cost A B j := by
  have sub : ∀ i, C i → B i := fun i z => by
    by_cases hk : K i
    · exact (hb i hk).2.1
    · exact (hs i hk).mp z
  refine ⟨fun j hj => cost_mono (hs j hj) fun na nb q => ?_, fun j hj => ?_⟩
  · rcases q with ⟨s, h1, h2, h3⟩ | ⟨s, h1, h2, h3⟩
    · exact .inl ⟨s, h1, sub _ h2, h3⟩
    · right
      refine ⟨s, h1, h2, fun t t1 t2 z => ?_⟩
      by_cases hk : K (j - t)
      · obtain ⟨k1, _, _, k4, _⟩ := hb _ hk
        have ne : t ≠ s := fun e => k1 (by rw [e]; exact h2)
        refine h3 (t + 1) (by omega) (by omega) ?_
        have e2 : j - (t + 1) = j - t - 1 := by omega
        rw [e2]; exact k4
      · exact h3 t t1 t2 ((hs _ hk).mpr z)
  · obtain ⟨k1, k2, k3, k4, k5⟩ := hb j hj
    rw [cost_ne (A := A) (B := B) (fun z => k1 (z.mpr k2)), cost_zero k1 k3 (fun q => ?_)]
    · omega
    · rcases q with ⟨s, h1, h2, h3⟩ | ⟨s, h1, h2, h3⟩
      · exact k5 ⟨s, h1, sub _ h2, h3⟩
      · exact h3 1 (by omega) h1 k4
/-- K, of A alone, was put out last -/
theorem back_old (hb : ∀ i, K i → A i ∧ ¬ B i ∧ C i) (hs : ∀ i, ¬ K i → (C i ↔ B i)) :
    (∀ j, ¬ K j → cost A C j ≤ cost A B j) ∧ ∀ j, K j → cost A C j + 1 ≤ cost A B j := by
  refine ⟨fun j hj => cost_mono (hs j hj) fun na nb q => ?_, fun j hj => ?_⟩
  · rcases q with ⟨s, h1, h2, h3⟩ | ⟨s, h1, h2, h3⟩
    · left
      by_cases hk : K (j + s)
      · exact (h3 s h1 (by omega) (hb _ hk).1).elim
      · exact ⟨s, h1, (hs _ hk).mp h2, h3⟩
    · right
      refine ⟨s, h1, h2, fun t t1 t2 z => h3 t t1 t2 ?_⟩
      by_cases hk : K (j - t)
      · exact (hb _ hk).2.2
      · exact (hs _ hk).mpr z
  · obtain ⟨k1, k2, k3⟩ := hb j hj
    rw [cost_ne (A := A) (B := B) (fun z => k2 (z.mp k1)), cost_both k1 k3]; omega
/-- K, dark in both, was put out last -/
theorem back_dark (hb : ∀ i, K i → ¬ A i ∧ ¬ B i ∧ C i ∧ (nextN A B i ∨ prevO A B i)) (hs : ∀ i, ¬ K i → (C i ↔ B i)) :
    (∀ j, ¬ K j → cost A C j ≤ cost A B j) ∧ ∀ j, K j → cost A C j + 1 ≤ cost A B j := by
  refine ⟨fun j hj => cost_mono (hs j hj) fun na nb q => ?_, fun j hj => ?_⟩
  · rcases q with ⟨s, h1, h2, h3⟩ | ⟨s, h1, h2, h3⟩
    · by_cases hk : K (j + s)
      · rcases (hb _ hk).2.2.2 with ⟨u, u1, u2, u3⟩ | ⟨u, u1, u2, u3⟩
        · left
          refine ⟨s + u, by omega, by rw [← Int.add_assoc]; exact u2, fun t t1 t2 => ?_⟩
          by_cases ht : t ≤ s
          · exact h3 t t1 ht
          · have := u3 (t - s) (by omega) (by omega)
            have e : j + s + (t - s) = j + t := by omega
            rw [e] at this; exact this
        · right
          by_cases hu : s < u
          · refine ⟨u - s, by omega, ?_, fun t t1 t2 => ?_⟩
            · have e : j - (u - s) = j + s - u := by omega
              rw [e]; exact u2
            · have := u3 (s + t) (by omega) (by omega)
              have e : j + s - (s + t) = j - t := by omega
              rw [e] at this; exact this
          · by_cases e : u = s
            · have e2 : j + s - u = j := by omega
              rw [e2] at u2
              exact (na u2).elim
            · have := h3 (s - u) (by omega) (by omega)
              have e2 : j + (s - u) = j + s - u := by omega
              rw [e2] at this
              exact (this u2).elim
      · exact .inl ⟨s, h1, (hs _ hk).mp h2, h3⟩
    · right
      refine ⟨s, h1, h2, fun t t1 t2 z => h3 t t1 t2 ?_⟩
      by_cases hk : K (j - t)
      · exact (hb _ hk).2.2.1
      · exact (hs _ hk).mpr z
  · obtain ⟨k1, k2, k3, k4⟩ := hb j hj
    rw [cost_two k1 k2 k4, cost_ne (A := A) (B := C) (fun z => k1 (z.mpr k3))]; omega

/-! ### that it can come stays -/
theorem light_F (f1 : F1 A B) (f2 : F2 A B) (hb : ∀ i, K i → ¬ B i ∧ C i ∧ B (i - 1)) (hs : ∀ i, ¬ K i → (C i ↔ B i)) : F1 A C ∧ F2 A C := by
  refine ⟨fun b h => ?_, fun a h => ?_⟩
  · by_cases hk : K b
    · obtain ⟨a, h1, h2⟩ := f1 _ (hb b hk).2.2
      exact ⟨a, h1, by omega⟩
    · exact f1 b ((hs b hk).mp h)
  · obtain ⟨b, h1, h2⟩ := f2 a h
    refine ⟨b, ?_, h2⟩
    by_cases hk : K b
    · exact (hb b hk).2.1
    · exact (hs b hk).mpr h1
theorem quench_F (f1 : F1 A B) (f2 : F2 A B) (hb : ∀ i, K i → B i ∧ ¬ C i ∧ C (i + 1)) (hs : ∀ i, ¬ K i → (C i ↔ B i)) : F1 A C ∧ F2 A C := by
  refine ⟨fun b h => ?_, fun a h => ?_⟩
  · by_cases hk : K b
    · exact f1 b (hb b hk).1
    · exact f1 b ((hs b hk).mp h)
  · obtain ⟨b, h1, h2⟩ := f2 a h
    by_cases hk : K b
    · exact ⟨b + 1, (hb b hk).2.2, by omega⟩
    · exact ⟨b, (hs b hk).mpr h1, h2⟩
theorem back_light_F (f1 : F1 A B) (f2 : F2 A B) (hb : ∀ i, K i → ¬ A i ∧ B i ∧ ¬ C i ∧ C (i - 1) ∧ ¬ nextN A B i) (hs : ∀ i, ¬ K i → (C i ↔ B i)) : F1 A C ∧ F2 A C := by
  refine ⟨fun b h => ?_, fun a h => ?_⟩
  · by_cases hk : K b
    · exact f1 b (hb b hk).2.1
    · exact f1 b ((hs b hk).mp h)
  · obtain ⟨b, h1, h2⟩ := f2 a h
    by_cases hk : K b
    · obtain ⟨k1, _, _, k4, _⟩ := hb b hk
      have ne : a ≠ b := fun e => k1 (by rw [← e]; exact h)
      exact ⟨b - 1, k4, by omega⟩
    · exact ⟨b, (hs b hk).mpr h1, h2⟩
theorem back_old_F (f1 : F1 A B) (f2 : F2 A B) (hb : ∀ i, K i → A i ∧ ¬ B i ∧ C i) (hs : ∀ i, ¬ K i → (C i ↔ B i)) : F1 A C ∧ F2 A C := by
  refine ⟨fun b h => ?_, fun a h => ?_⟩
  · by_cases hk : K b
    · exact ⟨b, (hb b hk).1, by omega⟩
    · exact f1 b ((hs b hk).mp h)
  · obtain ⟨b, h1, h2⟩ := f2 a h
    refine ⟨b, ?_, h2⟩
    by_cases hk : K b
    · exact (hb b hk).2.2
    · exact (hs b hk).mpr h1
theorem low_of (f1 : F1 A B) {j : Int} (h : ¬ A j) (q : nextN A B j ∨ prevO A B j) : ∃ a, A a ∧ a ≤ j := by
  rcases q with ⟨s, h1, h2, h3⟩ | ⟨s, h1, h2, h3⟩
  · obtain ⟨a, a1, a2⟩ := f1 _ h2
    refine ⟨a, a1, ?_⟩
    by_cases e : a ≤ j
    · exact e
    · have := h3 (a - j) (by omega) (by omega)
      have e2 : j + (a - j) = a := by omega
      rw [e2] at this
      exact (this a1).elim
  · exact ⟨_, h2, by omega⟩
theorem back_dark_F (f1 : F1 A B) (f2 : F2 A B) (hb : ∀ i, K i → ¬ A i ∧ ¬ B i ∧ C i ∧ (nextN A B i ∨ prevO A B i)) (hs : ∀ i, ¬ K i → (C i ↔ B i)) : F1 A C ∧ F2 A C := by
  refine ⟨fun b h => ?_, fun a h => ?_⟩
  · by_cases hk : K b
    · exact low_of f1 (hb b hk).1 (hb b hk).2.2.2
    · exact f1 b ((hs b hk).mp h)
  · obtain ⟨b, h1, h2⟩ := f2 a h
    refine ⟨b, ?_, h2⟩
    by_cases hk : K b
    · exact (hb b hk).2.2.1
    · exact (hs b hk).mpr h1

/-! ### there is a deed back -/
def Back (A B : Int → Prop) : Prop := (∃ p, B p ∧ ¬ A p ∧ ¬ nextN A B p ∧ B (p - 1)) ∨ (∃ p, A p ∧ ¬ B p ∧ B (p + 1)) ∨ ∃ p, ¬ A p ∧ ¬ B p ∧ B (p + 1) ∧ (nextN A B p ∨ prevO A B p)
theorem back_new : ∀ (d : Nat) (p a : Int), (a - p).toNat ≤ d → p < a → B p → ¬ A p → (A a ∨ ∀ i, a ≤ i → ¬ B i) → Back A B
  | 0, p, a, hd, hp, _, _, _ => by omega
  | d + 1, p, a, hd, hp, hb, hn, ha => by
    by_cases q : nextN A B p
    · obtain ⟨s, h1, h2, h3⟩ := q
      have lt : p + s < a := by
        rcases ha with ha | ha
        · by_cases e : p + s < a
          · exact e
          · have := h3 (a - p) (by omega) (by omega)
            have e2 : p + (a - p) = a := by omega
            rw [e2] at this
            exact (this ha).elim
        · by_cases e : p + s < a
          · exact e
          · exact (ha _ (by omega) h2).elim
      exact back_new d (p + s) a (by omega) lt h2 (h3 s h1 (by omega)) ha
    · by_cases hb' : B (p - 1)
      · exact .inl ⟨p, hb, hn, q, hb'⟩
      · by_cases ha' : A (p - 1)
        · exact .inr (.inl ⟨p - 1, ha', hb', by rw [Int.sub_add_cancel]; exact hb⟩)
        · refine .inr (.inr ⟨p - 1, ha', hb', by rw [Int.sub_add_cancel]; exact hb, .inl ⟨1, by omega, by rw [Int.sub_add_cancel]; exact hb, fun t t1 t2 => ?_⟩⟩)
          have e : p - 1 + t = p := by omega
          rw [e]; exact hn
theorem back_gone : ∀ (d : Nat) (p b : Int), (b - p).toNat ≤ d → p < b → A p → ¬ B p → B b → Back A B
  | 0, p, b, hd, hp, _, _, _ => by omega
  | d + 1, p, b, hd, hp, ha, hn, hb => by
    by_cases e1 : b - 1 = p
    · exact .inr (.inl ⟨p, ha, hn, by rw [← e1, Int.sub_add_cancel]; exact hb⟩)
    · by_cases q : ∃ c, p < c ∧ c < b ∧ B c
      · obtain ⟨c, c1, c2, c3⟩ := q
        exact back_gone d p c (by omega) c1 ha hn c3
      · have no : ∀ c, p ≤ c → c < b → ¬ B c := fun c c1 c2 z => by
          by_cases e : c = p
          · rw [e] at z; exact hn z
          · exact q ⟨c, by omega, c2, z⟩
        by_cases ha' : A (b - 1)
        · exact .inr (.inl ⟨b - 1, ha', no _ (by omega) (by omega), by rw [Int.sub_add_cancel]; exact hb⟩)
        · refine .inr (.inr ⟨b - 1, ha', no _ (by omega) (by omega), by rw [Int.sub_add_cancel]; exact hb, .inr ⟨b - 1 - p, by omega, ?_, fun t t1 t2 => no _ (by omega) (by omega)⟩⟩)
          have e : b - 1 - (b - 1 - p) = p := by omega
          rw [e]; exact ha
theorem back_is (f2 : F2 A B) (hf : ∀ p, B p → ∃ a, p < a ∧ (A a ∨ ∀ i, a ≤ i → ¬ B i)) {i : Int} (h : ¬ (A i ↔ B i)) : Back A B := by
  by_cases ha : A i
  · have hb : ¬ B i := fun z => h ⟨fun _ => z, fun _ => ha⟩
    obtain ⟨b, h1, h2⟩ := f2 i ha
    have ne : i ≠ b := fun e => hb (by rw [e]; exact h1)
    exact back_gone _ i b (Nat.le_refl _) (by omega) ha hb h1
  · have hb : B i := Classical.byContradiction fun z => h ⟨fun q => (ha q).elim, fun q => (z q).elim⟩
    obtain ⟨a, h1, h2⟩ := hf i hb
    exact back_new _ i a (Nat.le_refl _) h1 hb ha h2
end Wr


/-! Rows and rings of n lamps: standings as lists, deeds, the cost of a standing. -/
namespace Wr
theorem emod_add_emod' (m n k : Int) : (m % n + k) % n = (m + k) % n := Int.emod_add_emod m n k
/-- the lamp at a place of the line -/
def wr (n : Nat) (ring : Bool) (i : Int) : Int := if ring = true then i % (n : Int) else i
theorem wr_add (n : Nat) (ring : Bool) (i c : Int) : wr n ring (wr n ring i + c) = wr n ring (i + c) := by
  unfold wr
  cases ring
  · rfl
  · exact Int.emod_add_emod i n c
theorem wr_sub (n : Nat) (ring : Bool) (i c : Int) : wr n ring (wr n ring i - c) = wr n ring (i - c) := by
  rw [Int.sub_eq_add_neg, Int.sub_eq_add_neg]; exact wr_add n ring i (-c)
theorem wr_id {n : Nat} {ring : Bool} {k : Int} (h0 : 0 ≤ k) (h1 : k < n) : wr n ring k = k := by
  unfold wr
  cases ring
  · rfl
  · exact Int.emod_eq_of_lt h0 h1
theorem wr_bd {n : Nat} {i : Int} (hn : 0 < n) : 0 ≤ wr n true i ∧ wr n true i < n := by
  unfold wr
  exact ⟨Int.emod_nonneg _ (by omega), Int.emod_lt_of_pos _ (by omega)⟩
/-- the lamp at place i burns in S -/
def E (n : Nat) (ring : Bool) (S : List Int) (i : Int) : Prop := wr n ring i ∈ S
theorem E_lamp {n : Nat} {ring : Bool} {S : List Int} {k : Int} (h0 : 0 ≤ k) (h1 : k < n) : E n ring S k ↔ k ∈ S := by
  unfold E; rw [wr_id h0 h1]
structure Stand (n : Nat) (S : List Int) : Prop where
  asc : S.Pairwise (· < ·)
  bd : ∀ x ∈ S, 0 ≤ x ∧ x < (n : Int)
theorem asc_ext : ∀ {S T : List Int}, S.Pairwise (· < ·) → T.Pairwise (· < ·) → (∀ x, x ∈ S ↔ x ∈ T) → S = T
  | [], [], _, _, _ => rfl
  | [], y :: T, _, _, h => absurd ((h y).mpr List.mem_cons_self) (by simp)
  | x :: S, [], _, _, h => absurd ((h x).mp List.mem_cons_self) (by simp)
  | x :: S, y :: T, hs, ht, h => by
    have hs' := List.pairwise_cons.mp hs
    have ht' := List.pairwise_cons.mp ht
    have e : x = y := by
      rcases List.mem_cons.mp ((h x).mp List.mem_cons_self) with e | m
      · exact e
      · rcases List.mem_cons.mp ((h y).mpr List.mem_cons_self) with e | m'
        · exact e.symm
        · have := ht'.1 x m
          have := hs'.1 y m'
          omega
    subst e
    rw [asc_ext hs'.2 ht'.2 fun z => ⟨fun m => ?_, fun m => ?_⟩]
    · rcases List.mem_cons.mp ((h z).mp (List.mem_cons_of_mem _ m)) with e | m'
      · have := hs'.1 z m; omega
      · exact m'
    · rcases List.mem_cons.mp ((h z).mpr (List.mem_cons_of_mem _ m)) with e | m'
      · have := ht'.1 z m; omega
      · exact m'
theorem Stand.ext {n : Nat} {S T : List Int} (hs : Stand n S) (ht : Stand n T) (h : ∀ x, x ∈ S ↔ x ∈ T) : S = T := asc_ext hs.asc ht.asc h
theorem Stand.nil (n : Nat) : Stand n [] := ⟨List.Pairwise.nil, fun x h => absurd h (by simp)⟩
/-- the standing of the lamps of which p is true -/
def pick (n : Nat) (p : Int → Bool) : List Int := ((List.range n).map fun (i : Nat) => (i : Int)).filter p
theorem mem_pick {n : Nat} {p : Int → Bool} {x : Int} : x ∈ pick n p ↔ (0 ≤ x ∧ x < n) ∧ p x = true := by
  unfold pick
  rw [List.mem_filter, List.mem_map]
  constructor
  · rintro ⟨⟨i, hi, rfl⟩, h⟩
    exact ⟨⟨by omega, by have := List.mem_range.mp hi; omega⟩, h⟩
  · rintro ⟨⟨h0, h1⟩, h⟩
    exact ⟨⟨x.toNat, List.mem_range.mpr (by omega), by omega⟩, h⟩
theorem pick_stand (n : Nat) (p : Int → Bool) : Stand n (pick n p) := by
  refine ⟨?_, fun x h => (mem_pick.mp h).1⟩
  unfold pick
  refine List.Pairwise.filter _ (List.pairwise_map.mpr ?_)
  exact List.Pairwise.imp (fun h => by omega) List.pairwise_lt_range
/-! ### deeds -/
/-- k is changed -/
def Tog (k : Int) (S T : List Int) : Prop := ∀ x, x ∈ T ↔ (x ∈ S ∧ x ≠ k) ∨ (x ∉ S ∧ x = k)
def CanL (n : Nat) (ring : Bool) (S : List Int) (k : Int) : Prop := (0 ≤ k ∧ k < n) ∧ k ∉ S ∧ E n ring S (k - 1)
def CanQ (n : Nat) (ring : Bool) (S : List Int) (k : Int) : Prop := k ∈ S ∧ E n ring S (k + 1)
structure Deed (n : Nat) (ring : Bool) (S T : List Int) (k : Int) : Prop where
  can : CanL n ring S k ∨ CanQ n ring S k
  tog : Tog k S T
theorem Tog.symm {k : Int} {S T : List Int} (h : Tog k S T) : Tog k T S := fun x => by
  rw [h x]
  by_cases e : x = k
  · subst e
    by_cases m : x ∈ S <;> simp [m]
  · by_cases m : x ∈ S <;> simp [e, m]
/-- the standing with k changed -/
def flip (n : Nat) (S : List Int) (k : Int) : List Int := pick n fun x => decide ((x ∈ S ∧ x ≠ k) ∨ (x ∉ S ∧ x = k))
theorem flip_stand (n : Nat) (S : List Int) (k : Int) : Stand n (flip n S k) := pick_stand _ _
theorem flip_tog {n : Nat} {S : List Int} {k : Int} (hs : Stand n S) (h : 0 ≤ k ∧ k < n) : Tog k S (flip n S k) := fun x => by
  unfold flip
  rw [mem_pick, decide_eq_true_eq]
  constructor
  · exact fun z => z.2
  · intro z
    refine ⟨?_, z⟩
    rcases z with z | z
    · exact hs.bd x z.1
    · rw [z.2]; exact h

/-! ### sums -/
def sumN (f : Int → Nat) (n : Nat) : Nat := ((List.range n).map fun (i : Nat) => f i).sum
theorem sumN_zero (f : Int → Nat) : sumN f 0 = 0 := rfl
theorem sumN_succ (f : Int → Nat) (n : Nat) : sumN f (n + 1) = sumN f n + f n := by
  unfold sumN
  rw [List.range_succ, List.map_append, List.sum_append]
  simp
theorem sumN_le {f g : Int → Nat} : ∀ {n : Nat}, (∀ i : Int, 0 ≤ i → i < n → f i ≤ g i) → sumN f n ≤ sumN g n
  | 0, _ => Nat.le_refl _
  | n + 1, h => by
    rw [sumN_succ, sumN_succ]
    have := sumN_le (f := f) (g := g) (n := n) fun i h0 h1 => h i h0 (by omega)
    have := h n (by omega) (by omega)
    omega
theorem sumN_eq {f g : Int → Nat} {n : Nat} (h : ∀ i : Int, 0 ≤ i → i < n → f i = g i) : sumN f n = sumN g n :=
  Nat.le_antisymm (sumN_le fun i h0 h1 => Nat.le_of_eq (h i h0 h1)) (sumN_le fun i h0 h1 => Nat.le_of_eq (h i h0 h1).symm)
theorem sumN_le1 {f g : Int → Nat} {k : Int} : ∀ {n : Nat}, (∀ i : Int, 0 ≤ i → i < n → i ≠ k → f i ≤ g i) → f k ≤ g k + 1 → sumN f n ≤ sumN g n + 1
  | 0, _, _ => by rw [sumN_zero]; omega
  | n + 1, h, hk => by
    rw [sumN_succ, sumN_succ]
    by_cases e : (n : Int) = k
    · have := sumN_le (f := f) (g := g) (n := n) fun i h0 h1 => h i h0 (by omega) (by omega)
      rw [e]
      omega
    · have := sumN_le1 (f := f) (g := g) (k := k) (n := n) (fun i h0 h1 => h i h0 (by omega)) hk
      have := h n (by omega) (by omega) e
      omega
theorem sumN_lt1 {f g : Int → Nat} {k : Int} : ∀ {n : Nat}, 0 ≤ k → k < n → (∀ i : Int, 0 ≤ i → i < n → i ≠ k → f i ≤ g i) → f k + 1 ≤ g k → sumN f n + 1 ≤ sumN g n
  | 0, h0, h1, _, _ => by omega
  | n + 1, h0, h1, h, hk => by
    rw [sumN_succ, sumN_succ]
    by_cases e : (n : Int) = k
    · have := sumN_le (f := f) (g := g) (n := n) fun i h0 h1 => h i h0 (by omega) (by omega)
      rw [e]
      omega
    · have := sumN_lt1 (f := f) (g := g) (k := k) (n := n) h0 (by omega) (fun i h0 h1 => h i h0 (by omega)) hk
      have := h n (by omega) (by omega) e
      omega
theorem sumN_bd {f : Int → Nat} {b : Nat} : ∀ {n : Nat}, (∀ i : Int, f i ≤ b) → sumN f n ≤ b * n
  | 0, _ => by rw [sumN_zero]; omega
  | n + 1, h => by
    rw [sumN_succ, Nat.mul_succ]
    have := sumN_bd (f := f) (b := b) (n := n) h
    have := h n
    omega

/-! ### the cost of a standing -/
section
variable (n : Nat) (ring : Bool)
/-- it can come, at c deeds -/
structure Dist (A B : List Int) (c : Nat) : Prop where
  f1 : F1 (E n ring A) (E n ring B)
  f2 : F2 (E n ring A) (E n ring B)
  sum : sumN (cost (E n ring A) (E n ring B)) n = c
end
variable {n : Nat} {ring : Bool} {A B C : List Int}
theorem Dist.uniq {c d : Nat} (h : Dist n ring A B c) (h' : Dist n ring A B d) : c = d := h.sum.symm.trans h'.sum
theorem Dist.le {c : Nat} (h : Dist n ring A B c) : c ≤ 2 * n := by
  rw [← h.sum]
  exact sumN_bd fun i => cost_le2 i
theorem dist_self (n : Nat) (ring : Bool) (A : List Int) : Dist n ring A A 0 := by
  refine ⟨fun b h => ⟨b, h, Int.le_refl _⟩, fun b h => ⟨b, h, Int.le_refl _⟩, ?_⟩
  have : sumN (cost (E n ring A) (E n ring A)) n ≤ 0 * n := sumN_bd fun i => by
    by_cases h : E n ring A i
    · rw [cost_both h h]; exact Nat.le_refl _
    · rw [cost_zero h h]
      · exact Nat.le_refl _
      · rintro (⟨s, h1, h2, h3⟩ | ⟨s, h1, h2, h3⟩)
        · exact h3 s h1 (Int.le_refl _) h2
        · exact h3 s h1 (Int.le_refl _) h2
  omega
/-- the places of a lamp -/
def Pl (n : Nat) (ring : Bool) (k i : Int) : Prop := wr n ring i = k
theorem pl_add {k i : Int} (c : Int) (h : Pl n ring k i) : wr n ring (i + c) = wr n ring (k + c) := by
  have h : wr n ring i = k := h
  rw [← h, wr_add]
theorem pl_sub {k i : Int} (c : Int) (h : Pl n ring k i) : wr n ring (i - c) = wr n ring (k - c) := by
  have h : wr n ring i = k := h
  rw [← h, wr_sub]
theorem E_add {S : List Int} {k i : Int} (c : Int) (h : Pl n ring k i) : E n ring S (i + c) ↔ E n ring S (k + c) := by
  unfold E; rw [pl_add c h]
theorem E_sub {S : List Int} {k i : Int} (c : Int) (h : Pl n ring k i) : E n ring S (i - c) ↔ E n ring S (k - c) := by
  unfold E; rw [pl_sub c h]
theorem E_at {S : List Int} {k i : Int} (h : Pl n ring k i) : E n ring S i ↔ k ∈ S := by
  have h : wr n ring i = k := h
  unfold E; rw [h]
theorem E_pl {S : List Int} {k i : Int} (h : Pl n ring k i) : E n ring S i ↔ E n ring S k := by
  have := E_add (S := S) 0 h
  simpa using this
theorem nextN_pl {k i : Int} (h : Pl n ring k i) : nextN (E n ring A) (E n ring B) i ↔ nextN (E n ring A) (E n ring B) k := by
  unfold nextN
  constructor
  · rintro ⟨s, h1, h2, h3⟩
    exact ⟨s, h1, (E_add s h).mp h2, fun t t1 t2 z => h3 t t1 t2 ((E_add t h).mpr z)⟩
  · rintro ⟨s, h1, h2, h3⟩
    exact ⟨s, h1, (E_add s h).mpr h2, fun t t1 t2 z => h3 t t1 t2 ((E_add t h).mp z)⟩
theorem prevO_pl {k i : Int} (h : Pl n ring k i) : prevO (E n ring A) (E n ring B) i ↔ prevO (E n ring A) (E n ring B) k := by
  unfold prevO
  constructor
  · rintro ⟨s, h1, h2, h3⟩
    exact ⟨s, h1, (E_sub s h).mp h2, fun t t1 t2 z => h3 t t1 t2 ((E_sub t h).mpr z)⟩
  · rintro ⟨s, h1, h2, h3⟩
    exact ⟨s, h1, (E_sub s h).mpr h2, fun t t1 t2 z => h3 t t1 t2 ((E_sub t h).mp z)⟩
theorem tog_other {k i : Int} (h : Tog k B C) (hi : ¬ Pl n ring k i) : E n ring C i ↔ E n ring B i := by
  have ne : wr n ring i ≠ k := hi
  unfold E
  rw [h]
  constructor
  · rintro (z | z)
    · exact z.1
    · exact (ne z.2).elim
  · exact fun z => .inl ⟨z, ne⟩
/-- two lamps side by side are two -/
theorem side_add (hn : ring = true → 2 ≤ n) {k : Int} (h : 0 ≤ k ∧ k < n) : wr n ring (k + 1) ≠ k := by
  unfold wr
  cases ring
  · intro e
    have e : k + 1 = k := e
    omega
  · intro e
    have e : (k + 1) % (n : Int) = k := e
    have := hn rfl
    by_cases hk : k + 1 < n
    · rw [Int.emod_eq_of_lt (by omega) hk] at e; omega
    · have e2 : k + 1 = n := by omega
      rw [e2, Int.emod_self] at e; omega
theorem side_sub (hn : ring = true → 2 ≤ n) {k : Int} (h : 0 ≤ k ∧ k < n) : wr n ring (k - 1) ≠ k := by
  intro e
  have := wr_add n ring (k - 1) 1
  rw [e, Int.sub_add_cancel] at this
  rw [wr_id h.1 h.2] at this
  exact side_add hn h this
theorem lamp_of (hb : Stand n B) {i : Int} (h : E n ring B i) : 0 ≤ wr n ring i ∧ wr n ring i < n := hb.bd _ h
/-- a deed costs at most one -/
theorem dist_deed (hn : ring = true → 2 ≤ n) (hB : Stand n B) {k : Int} {c : Nat} (h : Dist n ring A B c) (d : Deed n ring B C k) : ∃ c', c' ≤ c + 1 ∧ Dist n ring A C c' := by
  have hs : ∀ i, ¬ Pl n ring k i → (E n ring C i ↔ E n ring B i) := fun i hi => tog_other d.tog hi
  rcases d.can with ⟨hk, h1, h2⟩ | ⟨h1, h2⟩
  · have hb : ∀ i, Pl n ring k i → ¬ E n ring B i ∧ E n ring C i ∧ E n ring B (i - 1) := fun i hi =>
      ⟨fun z => h1 ((E_at hi).mp z), (E_at hi).mpr ((d.tog k).mpr (.inr ⟨h1, rfl⟩)), (E_sub 1 hi).mpr h2⟩
    obtain ⟨g1, g2⟩ := light_F h.f1 h.f2 hb hs
    obtain ⟨l1, l2⟩ := light_le (A := E n ring A) hb hs
    refine ⟨_, ?_, g1, g2, rfl⟩
    rw [← h.sum]
    refine sumN_le1 (k := k) (fun i i0 i1 ne => l1 i fun z => ?_) (l2 k (wr_id hk.1 hk.2))
    have z : wr n ring i = k := z
    rw [wr_id i0 i1] at z
    exact ne z
  · have hk := hB.bd k h1
    have hb : ∀ i, Pl n ring k i → E n ring B i ∧ ¬ E n ring C i ∧ E n ring C (i + 1) := fun i hi =>
      ⟨(E_at hi).mpr h1, fun z => by
        rcases (d.tog k).mp ((E_at hi).mp z) with z | z
        · exact z.2 rfl
        · exact z.1 h1, (E_add 1 hi).mpr ((d.tog _).mpr (.inl ⟨h2, side_add hn hk⟩))⟩
    obtain ⟨g1, g2⟩ := quench_F h.f1 h.f2 hb hs
    obtain ⟨l1, l2⟩ := quench_le (A := E n ring A) hb hs
    refine ⟨_, ?_, g1, g2, rfl⟩
    rw [← h.sum]
    refine sumN_le1 (k := k) (fun i i0 i1 ne => l1 i fun z => ?_) (l2 k (wr_id hk.1 hk.2))
    have z : wr n ring i = k := z
    rw [wr_id i0 i1] at z
    exact ne z
/-- there is a standing from which a deed leads there, one nearer -/
theorem dist_back (hn : ring = true → 2 ≤ n) (h0 : 0 < n) (hA : Stand n A) (hB : Stand n B) {c : Nat} (h : Dist n ring A B c) (ne : A ≠ B) : ∃ C k c', Stand n C ∧ Deed n ring C B k ∧ c' + 1 ≤ c ∧ Dist n ring A C c' := by
  -- some place differs
  have ⟨i, hi⟩ : ∃ i, ¬ (E n ring A i ↔ E n ring B i) := Classical.byContradiction fun q => ne (hA.ext hB fun x => by
    by_cases hx : 0 ≤ x ∧ x < n
    · have : E n ring A x ↔ E n ring B x := Classical.byContradiction fun z => q ⟨x, z⟩
      rw [E_lamp hx.1 hx.2, E_lamp hx.1 hx.2] at this
      exact this
    · exact ⟨fun m => (hx (hA.bd x m)).elim, fun m => (hx (hB.bd x m)).elim⟩)
  have hf : ∀ p, E n ring B p → ∃ a, p < a ∧ (E n ring A a ∨ ∀ i, a ≤ i → ¬ E n ring B i) := fun p hp => by
    cases er : ring with
    | false =>
      subst er
      refine ⟨n, (hB.bd p hp).2, .inr fun i hi z => ?_⟩
      have := (hB.bd i z).2
      omega
    | true =>
      subst er
      obtain ⟨a, a1, a2⟩ := h.f1 p hp
      refine ⟨a + (p - a + 1) * n, ?_, .inl ?_⟩
      · have : (p - a + 1) * 1 ≤ (p - a + 1) * (n : Int) := Int.mul_le_mul_of_nonneg_left (by omega) (by omega)
        omega
      · unfold E wr at a1 ⊢
        rw [if_pos rfl] at a1 ⊢
        rw [Int.add_mul_emod_self_right]; exact a1
  rcases back_is h.f2 hf hi with ⟨p, b1, b2, b3, b4⟩ | ⟨p, b1, b2, b3⟩ | ⟨p, b1, b2, b3, b4⟩
  · -- lit last
    have hk := hB.bd _ b1
    have pp : Pl n ring (wr n ring p) p := rfl
    refine ⟨flip n B (wr n ring p), wr n ring p, ?_⟩
    have tg := flip_tog hB hk
    have hs : ∀ i, ¬ Pl n ring (wr n ring p) i → (E n ring (flip n B (wr n ring p)) i ↔ E n ring B i) := fun i hi => tog_other tg hi
    have nk : wr n ring p ∉ flip n B (wr n ring p) := fun z => by
      rcases (tg _).mp z with z | z
      · exact z.2 rfl
      · exact z.1 b1
    have q4 : E n ring (flip n B (wr n ring p)) (wr n ring p - 1) := by
      refine (tg _).mpr (.inl ⟨?_, side_sub hn hk⟩)
      rw [wr_sub]; exact b4
    have hb : ∀ i, Pl n ring (wr n ring p) i → ¬ E n ring A i ∧ E n ring B i ∧ ¬ E n ring (flip n B (wr n ring p)) i ∧ E n ring (flip n B (wr n ring p)) (i - 1) ∧ ¬ nextN (E n ring A) (E n ring B) i := fun i hi =>
      ⟨fun z => b2 ((E_at hi).mp z), (E_at hi).mpr b1, fun z => nk ((E_at hi).mp z), (E_sub 1 hi).mpr q4, fun z => b3 ((nextN_pl pp).mpr ((nextN_pl hi).mp z))⟩
    obtain ⟨g1, g2⟩ := back_light_F h.f1 h.f2 hb hs
    obtain ⟨l1, l2⟩ := back_light (A := E n ring A) hb hs
    refine ⟨_, flip_stand _ _ _, ⟨.inl ⟨hk, nk, q4⟩, tg.symm⟩, ?_, g1, g2, rfl⟩
    rw [← h.sum]
    refine sumN_lt1 (k := wr n ring p) hk.1 hk.2 (fun i i0 i1 ne => l1 i fun z => ?_) (l2 _ (wr_id hk.1 hk.2))
    have z : wr n ring i = wr n ring p := z
    rw [wr_id i0 i1] at z
    exact ne z
  · -- put out last, of A
    have hk := hA.bd _ b1
    refine ⟨flip n B (wr n ring p), wr n ring p, ?_⟩
    have tg := flip_tog hB hk
    have hs : ∀ i, ¬ Pl n ring (wr n ring p) i → (E n ring (flip n B (wr n ring p)) i ↔ E n ring B i) := fun i hi => tog_other tg hi
    have yk : wr n ring p ∈ flip n B (wr n ring p) := (tg _).mpr (.inr ⟨b2, rfl⟩)
    have hb : ∀ i, Pl n ring (wr n ring p) i → E n ring A i ∧ ¬ E n ring B i ∧ E n ring (flip n B (wr n ring p)) i := fun i hi =>
      ⟨(E_at hi).mpr b1, fun z => b2 ((E_at hi).mp z), (E_at hi).mpr yk⟩
    obtain ⟨g1, g2⟩ := back_old_F h.f1 h.f2 hb hs
    obtain ⟨l1, l2⟩ := back_old hb hs
    refine ⟨_, flip_stand _ _ _, ⟨.inr ⟨yk, (tg _).mpr (.inl ⟨by rw [wr_add]; exact b3, side_add hn hk⟩)⟩, tg.symm⟩, ?_, g1, g2, rfl⟩
    rw [← h.sum]
    refine sumN_lt1 (k := wr n ring p) hk.1 hk.2 (fun i i0 i1 ne => l1 i fun z => ?_) (l2 _ (wr_id hk.1 hk.2))
    have z : wr n ring i = wr n ring p := z
    rw [wr_id i0 i1] at z
    exact ne z
  · -- put out last, dark in both
    have hk : 0 ≤ wr n ring p ∧ wr n ring p < n := by
      cases er : ring with
      | true => exact wr_bd h0
      | false =>
        subst er
        obtain ⟨a, a1, a2⟩ := low_of h.f1 b1 b4
        have := (hA.bd a a1).1
        have := (hB.bd _ b3).2
        have e : wr n false (p + 1) = p + 1 := rfl
        have e2 : wr n false p = p := rfl
        rw [e] at this
        rw [e2]
        omega
    have pp : Pl n ring (wr n ring p) p := rfl
    refine ⟨flip n B (wr n ring p), wr n ring p, ?_⟩
    have tg := flip_tog hB hk
    have hs : ∀ i, ¬ Pl n ring (wr n ring p) i → (E n ring (flip n B (wr n ring p)) i ↔ E n ring B i) := fun i hi => tog_other tg hi
    have yk : wr n ring p ∈ flip n B (wr n ring p) := (tg _).mpr (.inr ⟨b2, rfl⟩)
    have hb : ∀ i, Pl n ring (wr n ring p) i → ¬ E n ring A i ∧ ¬ E n ring B i ∧ E n ring (flip n B (wr n ring p)) i ∧ (nextN (E n ring A) (E n ring B) i ∨ prevO (E n ring A) (E n ring B) i) := fun i hi =>
      ⟨fun z => b1 ((E_at hi).mp z), fun z => b2 ((E_at hi).mp z), (E_at hi).mpr yk, by
        rw [nextN_pl hi, prevO_pl hi, ← nextN_pl pp, ← prevO_pl pp]; exact b4⟩
    obtain ⟨g1, g2⟩ := back_dark_F h.f1 h.f2 hb hs
    obtain ⟨l1, l2⟩ := back_dark hb hs
    refine ⟨_, flip_stand _ _ _, ⟨.inr ⟨yk, (tg _).mpr (.inl ⟨by rw [wr_add]; exact b3, side_add hn hk⟩)⟩, tg.symm⟩, ?_, g1, g2, rfl⟩
    rw [← h.sum]
    refine sumN_lt1 (k := wr n ring p) hk.1 hk.2 (fun i i0 i1 ne => l1 i fun z => ?_) (l2 _ (wr_id hk.1 hk.2))
    have z : wr n ring i = wr n ring p := z
    rw [wr_id i0 i1] at z
    exact ne z
/-- .. at just one less -/
theorem dist_pred (hn : ring = true → 2 ≤ n) (h0 : 0 < n) (hA : Stand n A) (hB : Stand n B) {c : Nat} (h : Dist n ring A B (c + 1)) : ∃ C k, Stand n C ∧ Deed n ring C B k ∧ Dist n ring A C c := by
  have ne : A ≠ B := fun e => by
    have := h.uniq (by rw [← e]; exact dist_self n ring A)
    omega
  obtain ⟨C, k, c', h1, h2, h3, h4⟩ := dist_back hn h0 hA hB h ne
  obtain ⟨c2, h5, h6⟩ := dist_deed hn h1 h4 h2
  have := h.uniq h6
  have e : c' = c := by omega
  exact ⟨C, k, h1, h2, by rw [← e]; exact h4⟩
end Wr


/-! When a standing can come, by its first and last lamps. -/
namespace Wr
variable {n : Nat} {ring : Bool} {A B : List Int}
theorem stand_E {S : List Int} (h : Stand n S) {x : Int} (m : x ∈ S) : E n ring S x := (E_lamp (h.bd x m).1 (h.bd x m).2).mpr m
theorem stand_Er {S : List Int} {x : Int} : E n false S x ↔ x ∈ S := Iff.rfl
theorem comes_nil (hA : Stand n A) (hB : Stand n B) (h : A = [] ∨ B = []) : (F1 (E n ring A) (E n ring B) ∧ F2 (E n ring A) (E n ring B)) ↔ A = B := by
  constructor
  · rintro ⟨f1, f2⟩
    rcases h with h | h
    · subst h
      cases B with
      | nil => rfl
      | cons b B =>
        obtain ⟨a, h1, _⟩ := f1 b (stand_E hB List.mem_cons_self)
        exact absurd h1 (by unfold E; simp)
    · subst h
      cases A with
      | nil => rfl
      | cons a A =>
        obtain ⟨b, h1, _⟩ := f2 a (stand_E hA List.mem_cons_self)
        exact absurd h1 (by unfold E; simp)
  · rintro rfl
    exact ⟨fun b h => ⟨b, h, Int.le_refl _⟩, fun b h => ⟨b, h, Int.le_refl _⟩⟩
theorem head_le {x : Int} : ∀ {S : List Int}, S.Pairwise (· < ·) → S.head? = some x → ∀ y ∈ S, x ≤ y
  | [], _, h, _, _ => by simp at h
  | z :: S, hs, h, y, hy => by
    simp at h
    subst h
    rcases List.mem_cons.mp hy with e | m
    · omega
    · have := (List.pairwise_cons.mp hs).1 y m
      omega
theorem le_last {x : Int} : ∀ {S : List Int}, S.Pairwise (· < ·) → S.getLast? = some x → ∀ y ∈ S, y ≤ x
  | [], _, h, _, _ => by simp at h
  | [z], _, h, y, hy => by
    simp at h hy
    omega
  | z :: u :: S, hs, h, y, hy => by
    rw [List.getLast?_cons_cons] at h
    have hs' := List.pairwise_cons.mp hs
    have ih := le_last hs'.2 h
    rcases List.mem_cons.mp hy with e | m
    · have h1 := hs'.1 u List.mem_cons_self
      have h2 := ih u List.mem_cons_self
      omega
    · exact ih y m
theorem comes_row (hA : Stand n A) (hB : Stand n B) {a0 al b0 bl : Int} (h1 : A.head? = some a0) (h2 : A.getLast? = some al) (h3 : B.head? = some b0) (h4 : B.getLast? = some bl) :
    (F1 (E n false A) (E n false B) ∧ F2 (E n false A) (E n false B)) ↔ a0 ≤ b0 ∧ al ≤ bl := by
  have m1 := List.mem_of_head? h1
  have m2 := List.mem_of_getLast? h2
  have m3 := List.mem_of_head? h3
  have m4 := List.mem_of_getLast? h4
  constructor
  · rintro ⟨f1, f2⟩
    obtain ⟨a, p1, p2⟩ := f1 b0 m3
    obtain ⟨b, q1, q2⟩ := f2 al m2
    have := head_le hA.asc h1 a p1
    have := le_last hB.asc h4 b q1
    omega
  · rintro ⟨e1, e2⟩
    refine ⟨fun b hb => ⟨a0, m1, ?_⟩, fun a ha => ⟨bl, m4, ?_⟩⟩
    · have := head_le hB.asc h3 b hb
      omega
    · have := le_last hA.asc h2 a ha
      omega
theorem comes_ring (h0 : 0 < n) (hA : Stand n A) (hB : Stand n B) (hA0 : A ≠ []) (hB0 : B ≠ []) : F1 (E n true A) (E n true B) ∧ F2 (E n true A) (E n true B) := by
  obtain ⟨a, ha⟩ := List.exists_mem_of_ne_nil A hA0
  obtain ⟨b, hb⟩ := List.exists_mem_of_ne_nil B hB0
  have key : ∀ (S : List Int) (x y t : Int), Stand n S → x ∈ S → y = x + t * n → E n true S y := fun S x y t hS hx e => by
    unfold E wr
    rw [if_pos rfl, e, Int.add_mul_emod_self_right, Int.emod_eq_of_lt (hS.bd x hx).1 (hS.bd x hx).2]
    exact hx
  have hn : (n : Int) ≠ 0 := by omega
  refine ⟨fun i _ => ⟨a + (i - a) / n * n, key A a _ _ hA ha rfl, ?_⟩, fun i _ => ⟨b - (b - i) / n * n, ?_, ?_⟩⟩
  · have := Int.ediv_mul_le (i - a) hn
    omega
  · refine key B b _ (-((b - i) / n)) hB hb ?_
    rw [Int.neg_mul]
    omega
  · have := Int.ediv_mul_le (b - i) hn
    omega
end Wr


namespace Wr
open PySem
/-- these names are built-ins still -/
structure Blts (mg : Str → Option Value) : Prop where
  b_isinstance : mg "isinstance" = none
  b_int : mg "int" = none
  b_bool : mg "bool" = none
  b_tuple : mg "tuple" = none
  b_enumerate : mg "enumerate" = none
  b_range : mg "range" = none
  b_list : mg "list" = none
  b_len : mg "len" = none
  b_sorted : mg "sorted" = none
  b_max : mg "max" = none
  b_str : mg "str" = none
end Wr
/-! ### the text by places -/
namespace Wr
open PySem PySem.Spec PyProof.Rows L2
def topS (i : Nat) : Stmt := PySem.Challenge.pw_passlights_k17_whole_rows.main.body.getD i (.Pass ⟨0, 0, 0, 0⟩)
abbrev sIsIn : Stmt := topS 5
abbrev sNeedMany : Stmt := topS 8
abbrev sNeedBurning : Stmt := topS 9
abbrev sRowComes : Stmt := topS 10
abbrev sSortsOf : Stmt := topS 11
abbrev sSpareIn : Stmt := topS 12
abbrev sRowParts : Stmt := topS 13
abbrev sRingParts : Stmt := topS 14
abbrev sNeedTwo : Stmt := topS 15
abbrev sRowFewest : Stmt := topS 16
abbrev sRingFewest : Stmt := topS 17
abbrev sTaken : Stmt := topS 19
abbrev sPick : Stmt := topS 20
abbrev sRowBurning : Stmt := topS 21
abbrev sChanged : Stmt := topS 22
abbrev sLight : Stmt := topS 23
abbrev sQuench : Stmt := topS 24
abbrev sAfter : Stmt := topS 25
abbrev sFrom : Stmt := topS 26
abbrev sAlike : Stmt := topS 27
abbrev sRowCost : Stmt := topS 28
abbrev sLaw : Stmt := topS 29
abbrev nIsIn : List Str := ["value", "least", "most"]
abbrev nNeedMany : List Str := ["many", "least"]
abbrev nNeedBurning : List Str := ["many", "burning", "index", "one"]
abbrev nRowComes : List Str := ["one", "other"]
abbrev nSortsOf : List Str := ["many", "one", "other", "found", "k"]
abbrev nSpareIn : List Str := ["sorts", "order", "found", "last", "k"]
abbrev nRowParts : List Str := ["many", "one", "other", "sorts", "order", "spare", "lit", "k"]
abbrev nRingParts : List Str := ["many", "one", "other", "sorts", "order", "begin", "end", "lights", "outs", "spare", "lit", "k"]
abbrev nNeedTwo : List Str := ["many", "least", "one", "other"]
abbrev nRowFewest : List Str := ["many", "one", "other", "found"]
abbrev nRingFewest : List Str := ["many", "one", "other", "found"]
abbrev nTaken : List Str := ["_law_row", "_law_many", "_law_found", "_law_cell"]
abbrev nPick : List Str := ["_law_row", "_law_things"]
abbrev nRowBurning : List Str := ["_law_row", "_law_many", "_law_thin", "_law_k"]
abbrev nChanged : List Str := ["_law_burning", "_law_lamp", "_law_k"]
abbrev nLight : List Str := ["_law_web", "_law_burning", "_law_k", "_law_one"]
abbrev nQuench : List Str := ["_law_web", "_law_burning", "_law_k", "_law_one"]
abbrev nAfter : List Str := ["_law_web", "_law_burning", "_law_k"]
abbrev nFrom : List Str := ["_law_web", "_law_burning", "_law_found", "_law_rows", "_law_more", "_law_here", "_law_lamp", "_law_there"]
abbrev nAlike : List Str := ["_law_found", "_law_due", "_law_k"]
abbrev nRowCost : List Str := ["_law_many", "_law_is_ring", "_law_one", "_law_other", "_law_found", "_law_k", "_law_ahead", "_law_back", "_law_next_one", "_law_last_one", "_law_step", "_law_j"]
abbrev nLaw : List Str := ["_law_script", "_law_row", "_law_many", "_law_is_ring", "_law_web", "_law_one", "_law_known", "_law_work", "_law_other", "_law_k"]
theorem scIsIn : FnScope ["value", "least", "most"] ["value", "least", "most"] (defScope sIsIn) := ⟨rfl, rfl, rfl, by decide +kernel, rfl, by decide +kernel, by decide +kernel⟩
theorem scNeedMany : FnScope ["many", "least"] ["many", "least"] (defScope sNeedMany) := ⟨rfl, rfl, rfl, by decide +kernel, rfl, by decide +kernel, by decide +kernel⟩
theorem scNeedBurning : FnScope ["many", "burning", "index", "one"] ["many", "burning"] (defScope sNeedBurning) := ⟨rfl, rfl, rfl, by decide +kernel, rfl, by decide +kernel, by decide +kernel⟩
theorem scRowComes : FnScope ["one", "other"] ["one", "other"] (defScope sRowComes) := ⟨rfl, rfl, rfl, by decide +kernel, rfl, by decide +kernel, by decide +kernel⟩
theorem scSortsOf : FnScope ["many", "one", "other", "found", "k"] ["many", "one", "other"] (defScope sSortsOf) := ⟨rfl, rfl, rfl, by decide +kernel, rfl, by decide +kernel, by decide +kernel⟩
theorem scSpareIn : FnScope ["sorts", "order", "found", "last", "k"] ["sorts", "order"] (defScope sSpareIn) := ⟨rfl, rfl, rfl, by decide +kernel, rfl, by decide +kernel, by decide +kernel⟩
theorem scRowParts : FnScope ["many", "one", "other", "sorts", "order", "spare", "lit", "k"] ["many", "one", "other"] (defScope sRowParts) := ⟨rfl, rfl, rfl, by decide +kernel, rfl, by decide +kernel, by decide +kernel⟩
theorem scRingParts : FnScope ["many", "one", "other", "sorts", "order", "begin", "end", "lights", "outs", "spare", "lit", "k"] ["many", "one", "other"] (defScope sRingParts) := ⟨rfl, rfl, rfl, by decide +kernel, rfl, by decide +kernel, by decide +kernel⟩
theorem scNeedTwo : FnScope ["many", "least", "one", "other"] ["many", "least", "one", "other"] (defScope sNeedTwo) := ⟨rfl, rfl, rfl, by decide +kernel, rfl, by decide +kernel, by decide +kernel⟩
theorem scRowFewest : FnScope ["many", "one", "other", "found"] ["many", "one", "other"] (defScope sRowFewest) := ⟨rfl, rfl, rfl, by decide +kernel, rfl, by decide +kernel, by decide +kernel⟩
theorem scRingFewest : FnScope ["many", "one", "other", "found"] ["many", "one", "other"] (defScope sRingFewest) := ⟨rfl, rfl, rfl, by decide +kernel, rfl, by decide +kernel, by decide +kernel⟩
theorem scTaken : FnScope ["_law_row", "_law_many", "_law_found", "_law_cell"] ["_law_row", "_law_many"] (defScope sTaken) := ⟨rfl, rfl, rfl, by decide +kernel, rfl, by decide +kernel, by decide +kernel⟩
theorem scPick : FnScope ["_law_row", "_law_things"] ["_law_row", "_law_things"] (defScope sPick) := ⟨rfl, rfl, rfl, by decide +kernel, rfl, by decide +kernel, by decide +kernel⟩
theorem scRowBurning : FnScope ["_law_row", "_law_many", "_law_thin", "_law_k"] ["_law_row", "_law_many"] (defScope sRowBurning) := ⟨rfl, rfl, rfl, by decide +kernel, rfl, by decide +kernel, by decide +kernel⟩
theorem scChanged : FnScope ["_law_burning", "_law_lamp", "_law_k"] ["_law_burning", "_law_lamp"] (defScope sChanged) := ⟨rfl, rfl, rfl, by decide +kernel, rfl, by decide +kernel, by decide +kernel⟩
theorem scLight : FnScope ["_law_web", "_law_burning", "_law_k", "_law_one"] ["_law_web", "_law_burning"] (defScope sLight) := ⟨rfl, rfl, rfl, by decide +kernel, rfl, by decide +kernel, by decide +kernel⟩
theorem scQuench : FnScope ["_law_web", "_law_burning", "_law_k", "_law_one"] ["_law_web", "_law_burning"] (defScope sQuench) := ⟨rfl, rfl, rfl, by decide +kernel, rfl, by decide +kernel, by decide +kernel⟩
theorem scAfter : FnScope ["_law_web", "_law_burning", "_law_k"] ["_law_web", "_law_burning"] (defScope sAfter) := ⟨rfl, rfl, rfl, by decide +kernel, rfl, by decide +kernel, by decide +kernel⟩
theorem scFrom : FnScope ["_law_web", "_law_burning", "_law_found", "_law_rows", "_law_more", "_law_here", "_law_lamp", "_law_there"] ["_law_web", "_law_burning"] (defScope sFrom) := ⟨rfl, rfl, rfl, by decide +kernel, rfl, by decide +kernel, by decide +kernel⟩
theorem scAlike : FnScope ["_law_found", "_law_due", "_law_k"] ["_law_found", "_law_due"] (defScope sAlike) := ⟨rfl, rfl, rfl, by decide +kernel, rfl, by decide +kernel, by decide +kernel⟩
theorem scRowCost : FnScope ["_law_many", "_law_is_ring", "_law_one", "_law_other", "_law_found", "_law_k", "_law_ahead", "_law_back", "_law_next_one", "_law_last_one", "_law_step", "_law_j"] ["_law_many", "_law_is_ring", "_law_one", "_law_other"] (defScope sRowCost) := ⟨rfl, rfl, rfl, by decide +kernel, rfl, by decide +kernel, by decide +kernel⟩
theorem scLaw : FnScope ["_law_script", "_law_row", "_law_many", "_law_is_ring", "_law_web", "_law_one", "_law_known", "_law_work", "_law_other", "_law_k"] ["_law_script"] (defScope sLaw) := ⟨rfl, rfl, rfl, by decide +kernel, rfl, by decide +kernel, by decide +kernel⟩
/-- a def of the module, under its name, all its parameters given -/
structure Def (K : PySem.W.Frag) (mg : Str → Option Value) (x : Str) (ps : List Str) (st : Stmt) (f : Addr) (fd : FuncData) : Prop where
  fn : Fun K x x st f fd
  mgf : mg x = some (.ref f)
  bi : Binds K fd ps []
/-- a def that may be called by its name -/
structure Cal (P : Program) (w : World) (K : PySem.W.Frag) (mg : Str → Option Value) (base : Heap) (k : Nat) (x : Str) (sp : Sp) : Prop where
  ex : ∃ (f : Addr) (fd : FuncData) (ps : List Str), FnOk P w K mg base CX0 k f fd ps sp ∧ mg x = some (.ref f) ∧ PySem.W.keepIn K (.ref f) = true ∧ Binds K fd ps []
section
variable {P : Program} {w : World} {K : PySem.W.Frag} {mg : Str → Option Value} {base : Heap}
theorem cal_of {x : Str} {ps N : List Str} {st : Stmt} {f : Addr} {fd : FuncData} {k : Nat} {sp : Sp} (D : Def K mg x ps st f fd) (S : FnScope N ps (defScope st)) (len : ∀ vs H Q E, sp vs H Q E → vs.length = ps.length)
    (hbody : ∀ (cdv : Value) (A : Around) (outer : List Env) (s : Shared) (H : Hp) (vs : List V) (Q : VK) (E : XK), Room k (A.deeper (envOfC x (defScope st) s.heap.objs.size f cdv)) → sp vs H Q E →
      ∃ t, PSs (cxOf CX0 P w K mg base N x (defScope st) f cdv A outer s H E).nox (defBody st) t ∧ t { nx := fun _ H' => Q .non H', rt := Q } (start N vs) H) : Cal P w K mg base (k + 1) x sp :=
  ⟨f, fd, ps, D.fn.ok S len hbody, D.mgf, D.fn.kp, D.bi⟩
end
section
variable {X : Cx} {k j : Nat} {x : Str} {sp : Sp} {p pos : Pos} {e : Expr} {es : List Expr} {t : TA}
def tCal (sp : Sp) (t : TA) : TE := fun σ H Q => t σ H fun vs H1 => sp vs H1 Q E0
theorem pe_c (c : Cal X.prog X.w X.K X.mg X.base k x sp) (hr : Room j X.A) (hk : k ≤ j) (hg : Gl X x) (ha : PA X (e :: es) t)
    (hdb : (x == ("__debug__" : Str)) = false := by decide) (he : starEach (e :: es) X.env = (false, eval e X.env) :: starEach es X.env := by rfl) (hpl : (backTo pos (starEach es X.env)).any (·.1) = false := by rfl) :
    PE X (.Call (.Name x p) (e :: es) [] pos) (tCal sp t) := by
  obtain ⟨f, fd, ps, F, hm, kp, b⟩ := c.ex
  refine ⟨fun pins s σ H Q I h => ?_⟩
  refine (pe_call (E := E0) (dvs := []) F (hr.mono hk) hg hm kp b .nil pass0 ha hdb he hpl).run pins s σ H Q I ?_
  have e0 : (fun (vs : List V) (H1 : Hp) => sp (vs ++ []) H1 Q E0) = fun vs H1 => sp vs H1 Q E0 := by
    funext vs H1
    rw [List.append_nil]
  show t σ H (fun vs H1 => sp (vs ++ []) H1 Q E0)
  rw [e0]
  exact h
end
end Wr


/-! The promises of the defs. -/
namespace Wr
open PySem PySem.Spec L2
/-! ### heaps -/
theorem same_upd {H : Hp} {p : Addr} {o : HO} (h : H p = none) : Same H (upd H p o) := fun b x e => by
  rw [upd_ne (ne_of_none e h)]
  exact e
/-- all but the object at r is as it was -/
def SameBut (r : Addr) (H H' : Hp) : Prop := ∀ b o, b ≠ r → H b = some o → H' b = some o
theorem SameBut.refl (r : Addr) (H : Hp) : SameBut r H H := fun _ _ _ h => h
theorem SameBut.trans {r : Addr} {H H1 H2 : Hp} (a : SameBut r H H1) (b : SameBut r H1 H2) : SameBut r H H2 := fun c o n h => b c o n (a c o n h)
theorem Same.but {H H' : Hp} (h : Same H H') (r : Addr) : SameBut r H H' := fun b o _ e => h b o e
theorem sameBut_upd {H : Hp} {r : Addr} {o : HO} : SameBut r H (upd H r o) := fun b x n e => by
  rw [upd_ne n]
  exact e
/-- r is not where the list is, or the list is one that no one writes at -/
def Apart (K : PySem.W.Frag) (r a : Addr) (xs : List V) : Prop := a ≠ r ∨ ∀ H : Hp, SqL K H a xs
theorem apart_of {K : PySem.W.Frag} {r a : Addr} {xs : List V} {H : Hp} (h : SqL K H a xs) (n : H r = none) : Apart K r a xs := by
  rcases h with (h | ⟨o, h⟩) | h
  · exact .inl (ne_of_none h n)
  · exact .inl (ne_of_none h n)
  · exact .inr fun _ => .inr h
theorem SameBut.seq {K : PySem.W.Frag} {r : Addr} {H H' : Hp} {a : Addr} {xs : List V} (e : SameBut r H H') (n : Apart K r a xs) (h : SqL K H a xs) : SqL K H' a xs := by
  rcases n with n | n
  case inr => exact n H'
  rcases h with (h | ⟨o, h⟩) | h
  · exact .inl (.inl (e _ _ n h))
  · exact .inl (.inr ⟨o, e _ _ n h⟩)
  · exact .inr h
/-- a standing, as a tuple at a -/
def StAt (n : Nat) (H : Hp) (a : Addr) (S : List Int) : Prop := H a = some (.tup (S.map V.int)) ∧ Stand n S
theorem StAt.same {n : Nat} {H H' : Hp} {a : Addr} {S : List Int} (h : StAt n H a S) (k : Same H H') : StAt n H' a S := ⟨k _ _ h.1, h.2⟩
theorem StAt.but {n : Nat} {H H' : Hp} {r a : Addr} {S : List Int} (h : StAt n H a S) (k : SameBut r H H') (hr : ∀ xs, H r ≠ some (.tup xs)) : StAt n H' a S := ⟨k _ _ (fun e => hr _ (by rw [← e]; exact h.1)) h.1, h.2⟩
/-! ### what the functions are to tell -/
/-- the answer: the number of deeds, or None -/
def Ans (n : Nat) (ring : Bool) (A B : List Int) (v : V) : Prop := (∃ c : Nat, Dist n ring A B c ∧ v = .int c) ∨ ((∀ c, ¬ Dist n ring A B c) ∧ v = .non)
theorem Ans.uniq {n : Nat} {ring : Bool} {A B : List Int} {v u : V} (h : Ans n ring A B v) (h' : Ans n ring A B u) : v = u := by
  rcases h with ⟨c, h1, rfl⟩ | ⟨h1, rfl⟩ <;> rcases h' with ⟨d, h2, rfl⟩ | ⟨h2, rfl⟩
  · rw [h1.uniq h2]
  · exact (h2 _ h1).elim
  · exact (h1 _ h2).elim
  · rfl
def Comes (n : Nat) (ring : Bool) (A B : List Int) : Prop := F1 (E n ring A) (E n ring B) ∧ F2 (E n ring A) (E n ring B)
theorem dist_of (n : Nat) (ring : Bool) (A B : List Int) (h : Comes n ring A B) : Dist n ring A B (sumN (cost (E n ring A) (E n ring B)) n) := ⟨h.1, h.2, rfl⟩
/-- two standings are handed in; None, or the number of deeds comes back -/
def spFewest (ring : Bool) (least : Nat) : Sp := fun vs H Q _ => ∃ (n : Nat) (a b : Addr) (A B : List Int), vs = [.int n, .ref a, .ref b] ∧ least ≤ n ∧ n ≤ 40 ∧ StAt n H a A ∧ StAt n H b B ∧
  ∀ H' v, Same H H' → Ans n ring A B v → Q v H'
def spIsIn : Sp := fun vs H Q _ => ∃ v lo hi : Int, vs = [.int v, .int lo, .int hi] ∧ lo ≤ v ∧ v ≤ hi ∧ Q (.bl true) H
def spNeedMany : Sp := fun vs H Q _ => ∃ v lo : Int, vs = [.int v, .int lo] ∧ lo ≤ v ∧ v ≤ 40 ∧ Q .non H
def spNeedBurning : Sp := fun vs H Q _ => ∃ (n : Nat) (a : Addr) (A : List Int), vs = [.int n, .ref a] ∧ StAt n H a A ∧ ∀ H', Same H H' → Q .non H'
def spNeedTwo : Sp := fun vs H Q _ => ∃ (n : Nat) (lo : Int) (a b : Addr) (A B : List Int), vs = [.int n, .int lo, .ref a, .ref b] ∧ lo ≤ n ∧ n ≤ 40 ∧ StAt n H a A ∧ StAt n H b B ∧ ∀ H', Same H H' → Q .non H'
def spRowComes : Sp := fun vs H Q _ => ∃ (n : Nat) (a b : Addr) (A B : List Int), vs = [.ref a, .ref b] ∧ StAt n H a A ∧ StAt n H b B ∧ ∀ H' c, Same H H' → (c = true ↔ Comes n false A B) → Q (.bl c) H'
/-- what a lamp is -/
def sortS (A B : List Int) (k : Int) : Str := if k ∈ A then (if k ∈ B then "both" else "old") else if k ∈ B then "new" else "dark"
def sorts (A B : List Int) (n : Nat) : List V := (List.range n).map fun (k : Nat) => V.str (sortS A B k)
def spSortsOf : Sp := fun vs H Q _ => ∃ (n : Nat) (a b : Addr) (A B : List Int), vs = [.int n, .ref a, .ref b] ∧ n ≤ 40 ∧ StAt n H a A ∧ StAt n H b B ∧ ∀ H' p, Same H H' → H p = none → H' p = some (.lst (sorts A B n)) → Q (.ref p) H'
/-- the last one of these that isn't dark -/
def lastS (A B : List Int) (L : List Int) : Str := L.foldl (fun l k => if sortS A B k = "dark" then l else sortS A B k) "dark"
/-- the lamps of L that are changed twice -/
def SpareIn (A B L fs : List Int) : Prop := ∀ (j : Nat) (k : Int), L[j]? = some k → (k ∈ fs ↔ (k ∉ A ∧ k ∉ B) ∧ (lastS A B (L.take j) = "old" ∨ lastS A B (L.drop (j + 1)).reverse = "new"))
def spSpareIn : Sp := fun vs H Q _ => ∃ (n : Nat) (s o : Addr) (A B L : List Int), vs = [.ref s, .ref o] ∧ n ≤ 40 ∧ H s = some (.lst (sorts A B n)) ∧ H o = some (.lst (L.map V.int)) ∧ L.Nodup ∧ (∀ k ∈ L, 0 ≤ k ∧ k < (n : Int)) ∧ L.length ≤ 40 ∧
  ∀ H' p (fs : List Int), Same H H' → H p = none → H' p = some (.lst (fs.map V.int)) → SpareIn A B L fs → Q (.ref p) H'
def spParts (ring : Bool) : Sp := fun vs H Q _ => ∃ (n : Nat) (a b : Addr) (A B : List Int), vs = [.int n, .ref a, .ref b] ∧ 1 ≤ n ∧ n ≤ 40 ∧ StAt n H a A ∧ StAt n H b B ∧
  (∀ H', Same H H' → ¬ Comes n ring A B → Q .non H') ∧
  ∀ H' p l1 l2 xs ys, Same H H' → H' p = some (.tup [.ref l1, .ref l2]) → H' l1 = some (.lst xs) → H' l2 = some (.lst ys) → Dist n ring A B (xs.length + ys.length) → Q (.ref p) H'
/-! ### the law's own -/
/-- the row of draws at r: the script, a place, a seed, a rest -/
def RowAt (K : PySem.W.Frag) (H : Hp) (r sc : Addr) (ns : List Int) : Prop := ∃ i s c : Int, H r = some (.lst [.ref sc, .int i, .int s, .int c]) ∧ SqL K H sc (ns.map V.int) ∧ Apart K r sc (ns.map V.int) ∧ 0 ≤ i ∧ 0 ≤ s ∧ s < 2147483647
theorem RowAt.same {K : PySem.W.Frag} {H H' : Hp} {r sc : Addr} {ns : List Int} (h : RowAt K H r sc ns) (k : Same H H') : RowAt K H' r sc ns := by
  obtain ⟨i, s, c, h1, h2, h3⟩ := h
  exact ⟨i, s, c, k _ _ h1, k.seq h2, h3⟩
theorem RowAt.notTup {K : PySem.W.Frag} {H : Hp} {r sc : Addr} {ns : List Int} (h : RowAt K H r sc ns) : ∀ xs, H r ≠ some (.tup xs) := fun xs e => by
  obtain ⟨i, s, c, h1, _⟩ := h
  rw [h1] at e
  cases e
def spTaken (K : PySem.W.Frag) : Sp := fun vs H Q _ => ∃ (r sc : Addr) (ns : List Int) (m : Int), vs = [.ref r, .int m] ∧ RowAt K H r sc ns ∧ 1 ≤ m ∧ m ≤ 1000000 ∧
  ∀ H' v, SameBut r H H' → RowAt K H' r sc ns → 0 ≤ v → v < m → Q (.int v) H'
def spPick (K : PySem.W.Frag) : Sp := fun vs H Q _ => ∃ (r sc t : Addr) (ns : List Int) (xs : List V), vs = [.ref r, .ref t] ∧ RowAt K H r sc ns ∧ t ≠ r ∧ H t = some (.lst xs) ∧ 1 ≤ xs.length ∧ xs.length ≤ 1000000 ∧
  ∀ H' x, SameBut r H H' → RowAt K H' r sc ns → x ∈ xs → Q x H'
def spRowBurning (K : PySem.W.Frag) : Sp := fun vs H Q _ => ∃ (r sc : Addr) (ns : List Int) (n : Nat), vs = [.ref r, .int n] ∧ RowAt K H r sc ns ∧ 1 ≤ n ∧ n ≤ 40 ∧
  ∀ H' t S, SameBut r H H' → RowAt K H' r sc ns → StAt n H' t S → Q (.ref t) H'
def spChanged : Sp := fun vs H Q _ => ∃ (n : Nat) (a : Addr) (S : List Int) (k : Int), vs = [.ref a, .int k] ∧ n ≤ 40 ∧ StAt n H a S ∧ 0 ≤ k ∧ k < n ∧ ∀ H' t T, Same H H' → StAt n H' t T → Tog k S T → Q (.ref t) H'
def Arrow (n : Nat) (ring : Bool) (i j : Int) : Prop := (0 ≤ i ∧ j = i + 1 ∧ j < n) ∨ (ring = true ∧ i = (n : Int) - 1 ∧ j = 0)
/-- a web at w -/
def WebAt (n : Nat) (ring : Bool) (H : Hp) (w : Addr) : Prop := ∃ (t : Addr) (ar : List (Addr × Int × Int)), H w = some (.tup [.int n, .ref t]) ∧ H t = some (.tup (ar.map fun z => V.ref z.1)) ∧
  (∀ z ∈ ar, H z.1 = some (.tup [.int z.2.1, .int z.2.2])) ∧ ∀ i j, (∃ z ∈ ar, z.2 = (i, j)) ↔ Arrow n ring i j
theorem WebAt.same {n : Nat} {ring : Bool} {H H' : Hp} {w : Addr} (h : WebAt n ring H w) (k : Same H H') : WebAt n ring H' w := by
  obtain ⟨t, ar, h1, h2, h3, h4⟩ := h
  exact ⟨t, ar, k _ _ h1, k _ _ h2, fun z hz => k _ _ (h3 z hz), h4⟩
def spCan (P : Nat → Bool → List Int → Int → Prop) : Sp := fun vs H Q _ => ∃ (n : Nat) (ring : Bool) (w a : Addr) (S : List Int), vs = [.ref w, .ref a] ∧ 1 ≤ n ∧ n ≤ 40 ∧ WebAt n ring H w ∧ StAt n H a S ∧
  ∀ H' l (ks : List Int), Same H H' → H' l = some (.lst (ks.map V.int)) → (∀ k, k ∈ ks ↔ P n ring S k) → ks.length ≤ n → Q (.ref l) H'
/-- what comes behind a deed: the pair's address, the lamp, the standing's address, the standing -/
structure Nxt where
  p : Addr
  k : Int
  t : Addr
  T : List Int
structure NxtAt (n : Nat) (ring : Bool) (S : List Int) (H : Hp) (r : Nxt) : Prop where
  pair : H r.p = some (.tup [.int r.k, .ref r.t])
  st : StAt n H r.t r.T
  deed : Deed n ring S r.T r.k
theorem NxtAt.same {n : Nat} {ring : Bool} {S : List Int} {H H' : Hp} {r : Nxt} (h : NxtAt n ring S H r) (k : Same H H') : NxtAt n ring S H' r := ⟨k _ _ h.pair, h.st.same k, h.deed⟩
def spAfter : Sp := fun vs H Q _ => ∃ (n : Nat) (ring : Bool) (w a : Addr) (S : List Int), vs = [.ref w, .ref a] ∧ 1 ≤ n ∧ n ≤ 31 ∧ WebAt n ring H w ∧ StAt n H a S ∧
  ∀ H' l (rs : List Nxt), Same H H' → H l = none → H' l = some (.lst (rs.map fun r => V.ref r.p)) → (∀ r ∈ rs, NxtAt n ring S H' r) → (∀ T k, Stand n T → Deed n ring S T k → ∃ r ∈ rs, r.T = T) → Q (.ref l) H'
/-- a standing as a key of a dict -/
def keyT (S : List Int) : List Key := S.map Sum.inl
theorem keyT_map (S : List Int) : (keyT S).map kV = S.map V.int := by
  unfold keyT
  rw [List.map_map]
  rfl
theorem keyT_inj {S T : List Int} (h : keyT S = keyT T) : S = T := by
  have e := congrArg (List.map kV) h
  rw [keyT_map, keyT_map] at e
  exact List.map_inj_right (fun x y z => V.int.inj z) |>.mp e
/-- the table of all that can come from A -/
structure Known (n : Nat) (ring : Bool) (A : List Int) (kvs : List (List Key × V)) : Prop where
  snd : ∀ e ∈ kvs, ∃ (S : List Int) (c : Nat), Stand n S ∧ e = (keyT S, V.int c) ∧ Dist n ring A S c
  all : ∀ S c, Stand n S → Dist n ring A S c → ∃ v, (keyT S, v) ∈ kvs
  nd : (kvs.map Prod.fst).Nodup
def spFrom : Sp := fun vs H Q _ => ∃ (n : Nat) (ring : Bool) (w a : Addr) (A : List Int), vs = [.ref w, .ref a] ∧ 1 ≤ n ∧ n ≤ 8 ∧ (ring = true → 2 ≤ n) ∧ WebAt n ring H w ∧ StAt n H a A ∧
  ∀ H' d kvs, Same H H' → H' d = some (.dT kvs) → Known n ring A kvs → kvs.length ≤ 256 → Q (.ref d) H'
def spAlike : Sp := fun vs H Q _ => ∃ v : V, vs = [v, v] ∧ ((∃ i : Int, v = .int i) ∨ v = .non) ∧ ∀ H', Same H H' → Q (.bl true) H'
def spRowCost : Sp := fun vs H Q _ => ∃ (n : Nat) (ring : Bool) (a b : Addr) (A B : List Int), vs = [.int n, .bl ring, .ref a, .ref b] ∧ 1 ≤ n ∧ n ≤ 40 ∧ (ring = true → 2 ≤ n) ∧ StAt n H a A ∧ StAt n H b B ∧
  ∀ H' v, Same H H' → Ans n ring A B v → Q v H'
def spLaw (K : PySem.W.Frag) : Sp := fun vs H Q _ => ∃ (a : Addr) (ns : List Int), vs = [.ref a] ∧ SqL K H a (ns.map V.int) ∧ ns.length ≤ 63 ∧ ∀ H', Q (.bl true) H'
end Wr


/-! Tuples and lists of ints as data; lists that comprehensions make. -/
namespace Wr
open PySem PySem.Spec L2
def dI (S : List Int) : List PyData := S.map PyData.int
theorem dI_lay : ∀ S : List Int, PyData.canLayAll0 (dI S) = true
  | [] => by simp [dI, PyData.canLayAll0]
  | x :: S => by
    have h := dI_lay S
    unfold dI at h ⊢
    simp [PyData.canLayAll0, PyData.canLay0, h]
theorem dI_depth : ∀ S : List Int, PyData.depthAll (dI S) ≤ 1
  | [] => by simp [dI, PyData.depthAll]
  | x :: S => by
    have h := dI_depth S
    unfold dI at h ⊢
    simp only [List.map_cons, PyData.depthAll, PyData.depth]
    omega
theorem shaped_of {d : PyData} (h1 : d.canLay0 = true) (h2 : d.depth ≤ 64) : SeqAt.shaped d = true := by
  show (d.canLay0 && decide (d.depth ≤ 64)) = true
  rw [Bool.and_eq_true]
  exact ⟨h1, decide_eq_true h2⟩
theorem shaped_t (S : List Int) : SeqAt.shaped (.tuple (dI S)) = true := by
  have h := dI_depth S
  refine shaped_of (by simp only [PyData.canLay0]; exact dI_lay S) ?_
  simp only [PyData.depth]
  omega
theorem shaped_l (S : List Int) : SeqAt.shaped (.list (dI S)) = true := by
  have h := dI_depth S
  refine shaped_of (by simp only [PyData.canLay0]; exact dI_lay S) ?_
  simp only [PyData.depth]
  omega
theorem eqvAll_dI : ∀ S T : List Int, PyData.eqvAll (dI S) (dI T) = decide (S = T)
  | [], [] => by simp [dI, PyData.eqvAll]
  | [], y :: T => by simp [dI, PyData.eqvAll]
  | x :: S, [] => by simp [dI, PyData.eqvAll]
  | x :: S, y :: T => by
    have h := eqvAll_dI S T
    unfold dI at h ⊢
    simp only [List.map_cons, PyData.eqvAll, PyData.eqv]
    rw [h]
    by_cases e : x = y <;> by_cases e2 : S = T <;> simp [e, e2]
theorem eqv_t (S T : List Int) : PyData.eqv (.tuple (dI S)) (.tuple (dI T)) = decide (S = T) := by
  simp only [PyData.eqv]
  exact eqvAll_dI S T
theorem eqv_l (S T : List Int) : PyData.eqv (.list (dI S)) (.list (dI T)) = decide (S = T) := by
  simp only [PyData.eqv]
  exact eqvAll_dI S T
section
variable {K : PySem.W.Frag} {H : Hp} {a : Addr}
theorem dpI : ∀ S : List Int, DpAll K H (S.map V.int) (dI S)
  | [] => .nil
  | x :: S => .cons (.int x) (dpI S)
theorem dp_t {S : List Int} (h : H a = some (.tup (S.map V.int))) : Dp K H (.ref a) (.tuple (dI S)) := .tup (SqT.of h) (dpI S)
theorem dp_l {S : List Int} (h : H a = some (.lst (S.map V.int))) : Dp K H (.ref a) (.list (dI S)) := .lst (SqL.of h) (dpI S)
end
/-! ### a filtered and mapped range, list, turn by turn -/
section
variable {α β : Type}
def fm (p : α → Bool) (g : α → β) (l : List α) : List β := (l.filter p).map g
theorem fm_nil (p : α → Bool) (g : α → β) : fm p g [] = [] := rfl
theorem fm_snoc (p : α → Bool) (g : α → β) (l : List α) (x : α) : fm p g (l ++ [x]) = fm p g l ++ if p x = true then [g x] else [] := by
  unfold fm
  rw [List.filter_append, List.map_append]
  congr 1
  by_cases h : p x = true
  · rw [if_pos h, List.filter_cons_of_pos h]
    rfl
  · rw [if_neg h, List.filter_cons_of_neg h]
    rfl
theorem fm_yes {p : α → Bool} {g : α → β} {l : List α} {x : α} (h : p x = true) : fm p g (l ++ [x]) = fm p g l ++ [g x] := by rw [fm_snoc, if_pos h]
theorem fm_no {p : α → Bool} {g : α → β} {l : List α} {x : α} (h : p x = false) : fm p g (l ++ [x]) = fm p g l := by rw [fm_snoc, if_neg (by rw [h]; decide), List.append_nil]
theorem fm_len (p : α → Bool) (g : α → β) (l : List α) : (fm p g l).length ≤ l.length := by
  unfold fm
  rw [List.length_map]
  exact List.length_filter_le p l
theorem take_snoc {l : List α} {i : Nat} {x : α} (h : l[i]? = some x) : l.take (i + 1) = l.take i ++ [x] := by
  rw [List.take_add_one, h]
  rfl
end
theorem range_snoc (i : Nat) : List.range (i + 1) = List.range i ++ [i] := List.range_succ
/-- inV of ints -/
theorem inV_int (k : Int) (S : List Int) : inV (.int k) (S.map V.int) = decide (k ∈ S) := by
  unfold inV
  induction S with
  | nil => rfl
  | cons x S ih =>
    rw [List.map_cons, List.any_cons, ih]
    have e : eqV (.int x) (.int k) = decide (x = k) := by
      show (x == k) = decide (x = k)
      by_cases e : x = k
      · subst e; simp
      · simp [e]
    rw [e]
    by_cases e1 : x = k
    · subst e1; simp
    · have : ¬ k = x := fun z => e1 z.symm
      by_cases m : k ∈ S <;> simp [e1, m, this]
theorem flat_ints (S : List Int) : (S.map V.int).all flatV = true := by
  rw [List.all_eq_true]
  intro x hx
  obtain ⟨i, _, rfl⟩ := List.mem_map.mp hx
  rfl
section
variable {X : Cx}
/-- k in S, k not in S: ints in a list or a tuple -/
theorem op_inI : OpR X (compareOp .In) (fun x y H Q => ∃ (k : Int) (p : Addr) (S : List Int), x = .int k ∧ y = .ref p ∧ (H p = some (.lst (S.map V.int)) ∨ H p = some (.tup (S.map V.int))) ∧ Q (.bl (decide (k ∈ S))) H) :=
  fun pins s σ H x y v u Q I rx ry h => op_in_seq pins s σ H x y v u Q I rx ry (by
    obtain ⟨k, p, S, e1, e2, e3, q⟩ := h
    refine ⟨p, S.map V.int, e2, e3.imp SqL.of SqT.of, by rw [e1]; rfl, flat_ints S, ?_⟩
    rw [e1, inV_int]
    exact q)
theorem op_notInI : OpR X (compareOp .NotIn) (fun x y H Q => ∃ (k : Int) (p : Addr) (S : List Int), x = .int k ∧ y = .ref p ∧ (H p = some (.lst (S.map V.int)) ∨ H p = some (.tup (S.map V.int))) ∧ Q (.bl (!decide (k ∈ S))) H) :=
  fun pins s σ H x y v u Q I rx ry h => op_notIn_seq pins s σ H x y v u Q I rx ry (by
    obtain ⟨k, p, S, e1, e2, e3, q⟩ := h
    refine ⟨p, S.map V.int, e2, e3.imp SqL.of SqT.of, by rw [e1]; rfl, flat_ints S, ?_⟩
    rw [e1, inV_int]
    exact q)
end
end Wr


/-! sorted of tuples of ints of any lengths: out of a tuple of pairs, out of the keys of a dict. -/
namespace Wr
open PySem PyProof.Rows Srt SrtO
/-! ### the order of lists of ints -/
theorem lex_asym : ∀ (x y : List Int), HT.lexLt x y = true → HT.lexLt y x = false
  | [], [], h => by rw [HT.lexLt_nil_nil] at h; cases h
  | [], y :: ys, _ => HT.lexLt_cons_nil y ys
  | x :: xs, [], h => by rw [HT.lexLt_cons_nil] at h; cases h
  | x :: xs, y :: ys, h => by
    rw [HT.lexLt_cons] at h ⊢
    by_cases e : x = y
    · rw [if_pos e] at h
      rw [if_pos e.symm]
      exact lex_asym xs ys h
    · rw [if_neg e] at h
      rw [if_neg (fun z => e z.symm)]
      have := of_decide_eq_true h
      exact decide_eq_false (by omega)
theorem lex_tr : ∀ (x y z : List Int), HT.lexLt y x = false → HT.lexLt z y = false → HT.lexLt z x = false
  | [], y, [], _, _ => HT.lexLt_nil_nil
  | [], y, z :: zs, _, _ => HT.lexLt_cons_nil z zs
  | x :: xs, [], z, h, _ => by rw [HT.lexLt_nil_cons] at h; cases h
  | x :: xs, y :: ys, [], _, h => by rw [HT.lexLt_nil_cons] at h; cases h
  | x :: xs, y :: ys, z :: zs, h1, h2 => by
    rw [HT.lexLt_cons] at h1 h2 ⊢
    by_cases e1 : y = x
    · rw [if_pos e1] at h1
      by_cases e2 : z = y
      · rw [if_pos e2] at h2
        rw [if_pos (e2.trans e1)]
        exact lex_tr xs ys zs h1 h2
      · rw [if_neg e2] at h2
        have := of_decide_eq_false h2
        rw [if_neg (by omega)]
        exact decide_eq_false (by omega)
    · rw [if_neg e1] at h1
      have := of_decide_eq_false h1
      by_cases e2 : z = y
      · rw [if_neg (by omega)]
        exact decide_eq_false (by omega)
      · rw [if_neg e2] at h2
        have := of_decide_eq_false h2
        rw [if_neg (by omega)]
        exact decide_eq_false (by omega)
theorem swo_lexL (k : Value → List Int) : Swo fun v u => HT.lexLt (k v) (k u) := ⟨fun x y => lex_asym _ _, fun x y z => lex_tr _ _ _⟩
section
variable {prog : Program} {w : World} {A : Around} {E : Value → Shared → Prop} {s : Shared} {Q : Bool → Shared → Prop}
theorem lex_any {b : Bool} {xs ys : List Value} {ns ms : List Int} (i : Nat) (hx : IntsAre xs ns) (hy : IntsAre ys ms) (h : Q (HT.lexLt ns ms) s) :
    PySem.W.KatLex prog w A b (decide (ns.length < ms.length)) Q (xs.zip ys) i s := by
  induction hx generalizing ys ms i with
  | nil =>
    cases hy with
    | nil => exact PySem.W.kat_nil h
    | cons q u hy => exact PySem.W.kat_nil h
  | @cons p t xs ns hx ih =>
    cases hy with
    | nil => exact PySem.W.kat_nil h
    | @cons q u ys ms hy =>
      show PySem.W.KatLex prog w A b _ Q ((Value.int p t, Value.int q u) :: xs.zip ys) i s
      refine PySem.W.kat_cons (wpAny_eqBool_int ?_)
      rw [HT.lexLt_cons] at h
      have el : decide ((p :: ns).length < (q :: ms).length) = decide (ns.length < ms.length) := by
        rw [List.length_cons, List.length_cons]
        exact decide_eq_decide.mpr (by omega)
      rw [el]
      by_cases e : p = q
      · subst e
        rw [beq_self_eq_true]
        rw [if_pos rfl] at h
        exact PySem.W.kat_yes (ih (i + 1) hy h)
      · rw [if_neg e] at h
        rw [show (p == q) = false from beq_eq_false_iff_ne.mpr e]
        exact PySem.W.kat_no (TS.oneLt_ints _ h)
theorem firsts_any {h : Heap} : ∀ vs : List Value, (∀ v ∈ vs, ∃ ns, TS.TupInts h v ns ∧ 1 ≤ ns.length) → ∃ fs, PySem.W.KatTups h vs fs ∧ fs.length = vs.length ∧ ∀ f, f ∈ fs → ∃ n t, f = Value.int n t
  | [], _ => ⟨[], PySem.W.KatTups.nil, rfl, fun f hf => by simp at hf⟩
  | v :: vs, x => by
    obtain ⟨fs, k, hl, hi⟩ := firsts_any vs fun u hu => x u (List.mem_cons_of_mem _ hu)
    obtain ⟨ns, ⟨a, xs, rfl, ⟨o, ho, hc, n, hdt⟩, i⟩, hn⟩ := x v (List.mem_cons_self ..)
    obtain ⟨y, ys, e⟩ : ∃ y ys, xs.toList = y :: ys := by
      cases q : xs.toList with
      | nil =>
        rw [q] at i
        have l := i.length
        rw [List.length_nil] at l
        omega
      | cons y ys => exact ⟨y, ys, rfl⟩
    obtain ⟨m, t, hy⟩ := i.all y (by rw [e]; exact List.mem_cons_self ..)
    refine ⟨y :: fs, PySem.W.KatTups.cons ho hc hdt ?_ k, by simp [hl], ?_⟩
    · have z := congrArg (fun l : List Value => l[0]?) e
      simpa using z
    · intro f hf
      rcases List.mem_cons.mp hf with rfl | hf
      · exact ⟨m, t, hy⟩
      · exact hi f hf
theorem tups_sortableL {a : Addr} {vs : List Value} {k : Value → List Int} (h0 : 0 < vs.length) (hp : ∀ v ∈ vs, TS.TupInts s.heap v (k v) ∧ 1 ≤ (k v).length) (ha : ∀ o, s.heap.get? a = some o → o.cls ≠ .type "tuple") :
    SortableO prog w A s a vs fun v u => HT.lexLt (k v) (k u) := by
  intro h' keep
  have hp' : ∀ v ∈ vs, TS.TupInts h' v (k v) := fun v hm => (hp v hm).1.keeps fun b o e c => keep b o (fun z => by subst z; exact ha o e c) e
  obtain ⟨fs, h1, h2, h3⟩ := firsts_any (h := h') vs fun v hm => ⟨_, hp' v hm, (hp v hm).2⟩
  refine ⟨tuples' true, fun Q E hq => ?_, fun p q hm hm' => ?_⟩
  · refine PySem.W.kat_kind (T := .type "int") h1 (by omega) (fun f hm => ?_) (by rfl) ?_
    · obtain ⟨x, t, rfl⟩ := h3 f hm
      exact PySem.W.Looks.now
    · have e : (Value.type "int" != Value.type "tuple") = true := by first | decide +kernel | rfl | decide
      rw [e]
      exact hq
  · have t1 := hp' _ hm
    have t2 := hp' _ hm'
    show wpAny (model prog w) A (keyLt' (tuples' true) p.1 q.1) (fun r s' => s' = { s with heap := h' } ∧ r = HT.lexLt (k p.1) (k q.1)) (fun _ _ => False) { s with heap := h' }
    generalize k p.1 = ns at t1 ⊢
    generalize k q.1 = ms at t2 ⊢
    obtain ⟨x, xs, e1, ⟨o, ho, hc, n, hd⟩, i1⟩ := t1
    obtain ⟨y, ys, e2, ⟨o', ho', hc', n', hd'⟩, i2⟩ := t2
    rw [e1, e2]
    refine PySem.W.kat_lt ho hd ho' hd' ?_
    have el : decide (xs.size < ys.size) = decide (ns.length < ms.length) := by
      have l1 := i1.length
      have l2 := i2.length
      rw [Array.length_toList] at l1 l2
      rw [l1, l2]
    rw [el]
    exact lex_any 0 i1 i2 ⟨rfl, rfl⟩
end
section
variable {prog : Program} {w : World} {A : Around} {E : Value → Shared → Prop} {s : Shared}
/-- sorted of what is collected as tuples of ints: the same ones, in a new list -/
theorem sorted_col {v : Value} {G : List Value → Prop} {Q : Value → Shared → Prop}
    (hcol : ∀ (R : List Value → Shared → Prop) (E : Value → Shared → Prop), (∀ h' tk vs, (∀ b o, s.heap.get? b = some o → h'.get? b = some o) → G vs → R vs { s with heap := h', toks := tk }) → wpAny (model prog w) A.in1 (collect v) R E s)
    (hG : ∀ vs, G vs → vs.length ≤ sizeLine ∧ (2 ≤ vs.length → ∃ k : Value → List Int, ∀ u ∈ vs, TS.TupInts s.heap u (k u) ∧ 1 ≤ (k u).length))
    (h : ∀ (h1 h' : Heap) (tk : Nat) (d : Addr) (vs out : List Value), G vs → out.Perm vs → (∀ b o, s.heap.get? b = some o → h1.get? b = some o) → (∀ b o, h1.get? b = some o → h'.get? b = some o) → h1.objs.size ≤ d → (∃ n, h'.get? d = some (seqObj "list" out.toArray n)) → Q (.ref d) { s with heap := h', toks := tk }) :
    wpAny (model prog w) A (call (.builtin "sorted") [v]) Q E s := by
  refine Calls.call_function_entry kind_sorted plain_sorted entry_sorted (args_sorted1 _) ?_
  unfold Builtin.«sorted»
  refine wpAny_bind (m := checkCount "sorted" 1 1 _) (wpAny_pure ?_)
  refine wpAny_bind (hcol _ _ fun h' tk vs hk g => ?_)
  obtain ⟨hz, hint⟩ := hG vs g
  refine wpAny_bind (wpAny_newList ?_ hz)
  have hoL : (h'.push (seqObj "list" vs.toArray 0)).get? h'.objs.size = some (seqObj "list" vs.toArray 0) := Heap.get?_push_size _ rfl
  have keep1 : ∀ b o, h'.get? b = some o → b ≠ h'.objs.size ∧ (h'.push (seqObj "list" vs.toArray 0)).get? b = some o := fun b o q =>
    ⟨Nat.ne_of_lt (Heap.lt_size q), Heap.get?_push_of_some _ q⟩
  have keep : ∀ b o, s.heap.get? b = some o → b ≠ h'.objs.size ∧ (h'.push (seqObj "list" vs.toArray 0)).get? b = some o := fun b o q => keep1 b o (hk b o q)
  have fin : ∀ out : List Value, out.Perm vs → Q (.ref h'.objs.size) { s with heap := sortedHeap (h'.push (seqObj "list" vs.toArray 0)) h'.objs.size vs out.toArray, toks := tk } := fun out hp =>
    h h' _ tk _ vs out g hp hk (fun b o e => (PyProof.Rows.sortedHeap_old (keep1 b o e).1 (Heap.lt_size (keep1 b o e).2)).trans (keep1 b o e).2) (Nat.le_refl _) (PyProof.Rows.sortedHeap_at (vs := vs) (out := out.toArray) hoL)
  show wpAny _ _ _ _ _ { s with heap := h'.push (seqObj "list" vs.toArray 0), toks := tk }
  by_cases h2 : 2 ≤ vs.length
  · obtain ⟨k, hk2⟩ := hint h2
    refine wpAny_bind (wpAny_holding (wpAny_call_entry slot_list_sort ⟨_, hoL, rfl⟩ entry_list_sort (list_sort_ord (s := { s with heap := h'.push (seqObj "list" vs.toArray 0), toks := tk }) (swo_lexL k) hoL hz (fun h2 => ?_) fun out hs hb => ⟨_, rfl, ?_⟩) (args_list_sort _)))
    · refine tups_sortableL (s := { s with heap := h'.push (seqObj "list" vs.toArray 0), toks := tk }) (by omega) (fun u hu => ⟨(hk2 u hu).1.keeps fun b o e _ => (keep b o e).2, (hk2 u hu).2⟩) fun o e => ?_
      have e' : some o = some (seqObj "list" vs.toArray 0) := e.symm.trans hoL
      cases e'
      intro c
      exact absurd (Value.type.inj c) (by decide)
    · exact wpAny_pure ⟨_, rfl, fin out hb.perm⟩
  · refine wpAny_bind (wpAny_holding (wpAny_call_entry slot_list_sort ⟨_, hoL, rfl⟩ entry_list_sort (list_sort_ord (s := { s with heap := h'.push (seqObj "list" vs.toArray 0), toks := tk }) (swo_lexL fun _ => []) hoL hz (fun h3 => absurd h3 h2) fun out hs hb => ⟨_, rfl, ?_⟩) (args_list_sort _)))
    exact wpAny_pure ⟨_, rfl, fin out hb.perm⟩
end
end Wr

/-! ### as rules of the layer -/
namespace Wr
open PySem PySem.Spec L2
/-- the view d.keys() at p -/
def keysO (p d : Addr) : HO := .ext fun h => PySem.W.KdlKeysView h p d
theorem keysO_ok {P : Program} {w : World} {H : Hp} {h : Heap} {p d : Addr} (e : h.get? p = some { cls := .type "dict_keys", data := .fields #[.ref d] }) : ObjOk P w H h p (keysO p d) :=
  ⟨⟨_, e, rfl, rfl⟩, ⟨_, e⟩, fun h1 h2 x k => let ⟨o, ho, r⟩ := x; ⟨o, k o ho, r⟩⟩
section
variable {X : Cx}
def rKeysT : V → List V → Hp → VK → Prop := fun x xs H Q => ∃ (a : Addr) (kvs : List (List L2.Key × V)), x = .ref a ∧ xs = [] ∧ H a = some (.dT kvs) ∧ ∀ p, H p = none → Q (.ref p) (upd H p (keysO p a))
theorem mt_keysT : MtR X "dict.keys" rKeysT := by
  intro pins s σ H x xs v us Q I rx rxs h
  obtain ⟨a, kvs, rfl, rfl, ha, q⟩ := h
  cases rx
  cases rxs
  obtain ⟨z, hd, xs', rel, o, es, ep, ho, hx, hdat, _⟩ := dt_of I.hok ha
  have raw : s.heap.DictRaw a es ep := ⟨o, ho, hx, hdat⟩
  refine call_meetsIn PySem.F.slot_dict_keys raw.typeIs PySem.F.entry_dict_keys (PySem.F.args_dict_keys_1 _) (meets_dict_keys_raw a hd) ⟨⟨es, ep, raw⟩, ?_⟩
  have hf : H s.heap.objs.size = none := I.hok.fresh (Nat.le_refl _)
  exact ⟨.ref s.heap.objs.size, upd H s.heap.objs.size (keysO s.heap.objs.size a), I.laid (t' := s.toks) (fun b u e => Heap.get?_push_of_some _ e) (Nat.le_refl _) (keysO_ok (Heap.get?_push_size _ rfl)), rfl, q _ hf⟩
/-- sorted(t), t a tuple of tuples of ints: a new list of the same -/
def rSortedTT (K : PySem.W.Frag) : List V → Hp → VK → Prop := fun vs H Q => ∃ (a : Addr) (xs : List V), vs = [V.ref a] ∧ SqT K H a xs ∧ (∀ x ∈ xs, ∃ ns, TupI K H x ns ∧ 1 ≤ ns.length) ∧
  ∀ (ys : List V) (p : Addr), ys.Perm xs → H p = none → Q (.ref p) (upd H p (.lst ys))
theorem cr_sortedTT : CallR X (.builtin "sorted") (rSortedTT X.K) := by
  intro pins s σ H vs us Q I r h
  obtain ⟨a, xs, rfl, hs, hx, q⟩ := h
  obtain ⟨its, rv, ⟨o, ho, hc, n, hd⟩, hz⟩ := I.tuple hs
  rw [Vals.ref1 r]
  obtain ⟨e1, e2⟩ := bkV_refs rv fun x m => by
    obtain ⟨ns, ⟨t, e, _⟩, _⟩ := hx x m
    exact ⟨t, e⟩
  have hlen : its.length ≤ sizeLine := by rw [← rv.length]; exact hz
  refine sorted_col (G := fun vs => vs = its) (fun R E hR => PySem.wpAny_collect_seq a (.inr rfl) ho hc hd (fun h' hk => hR h' s.toks its hk rfl) (by rw [List.size_toArray]; exact hlen)) (fun vs g => ?_) fun h1 h' tk d vs out g hp k1 k2 hd1 hn => ?_
  · subst g
    refine ⟨hlen, fun _ => ⟨fun v => TS.intsOf s.heap v, fun u hu => ?_⟩⟩
    obtain ⟨t, rfl⟩ := e2 u hu
    have hm : V.ref t ∈ xs := by
      rw [e1]
      exact List.mem_map.mpr ⟨_, hu, rfl⟩
    obtain ⟨ns, ⟨t', e, ht⟩, hn⟩ := hx _ hm
    cases e
    have z := tupI_raw I ht
    show TS.TupInts s.heap (Value.ref t) (TS.intsOf s.heap (.ref t)) ∧ 1 ≤ (TS.intsOf s.heap (.ref t)).length
    rw [z.ints]
    exact ⟨z, hn⟩
  · subst g
    have h3 : ∀ u ∈ out, ∃ a, u = Value.ref a := fun u hu => e2 u (hp.mem_iff.mp hu)
    obtain ⟨n', hn⟩ := hn
    have I1 := I.kept (t' := tk) k1
    have hb : (out.map bkV).Perm xs := by
      rw [e1]
      exact hp.map bkV
    refine ⟨.ref d, upd H d (.lst (out.map bkV)), I1.laid (t' := tk) k2 hd1 ⟨?_, out, n', bkV_vals h3, hn⟩, rfl, q _ d hb (I1.hok.fresh hd1)⟩
    rw [hb.length_eq]
    exact hz
/-- sorted(d.keys()), the keys tuples of ints, none empty if they are two: a new list of the same -/
def rSortedKT (K : PySem.W.Frag) : List V → Hp → VK → Prop := fun vs H Q => ∃ (p a : Addr) (kvs : List (List L2.Key × V)), vs = [.ref p] ∧ H p = some (keysO p a) ∧ H a = some (.dT kvs) ∧
  (2 ≤ kvs.length → ∀ e ∈ kvs, ∃ ns : List Int, e.1 = ns.map Sum.inl ∧ 1 ≤ ns.length) ∧
  ∀ (ys : List Addr) (l : Addr), ys.length = kvs.length → (∀ y ∈ ys, ∃ e ∈ kvs, H y = some (.tup (e.1.map kV))) → H l = none → Q (.ref l) (upd H l (.lst (ys.map V.ref)))
theorem bk_refs : ∀ {us : List Value}, (∀ u ∈ us, ∃ a, u = Value.ref a) → ∃ ys : List Addr, us = ys.map Value.ref
  | [], _ => ⟨[], rfl⟩
  | u :: us, h => by
    obtain ⟨a, e⟩ := h u List.mem_cons_self
    obtain ⟨ys, e2⟩ := bk_refs fun v hv => h v (List.mem_cons_of_mem _ hv)
    exact ⟨a :: ys, by rw [e, e2]; rfl⟩
theorem vals_refs : ∀ ys : List Addr, Vals (ys.map V.ref) (ys.map Value.ref)
  | [] => .nil
  | y :: ys => .cons (show RelV (.ref y) (.ref y) from rfl) (vals_refs ys)
theorem cr_sortedKT (hc : X.calm = true) : CallR X (.builtin "sorted") (rSortedKT X.K) := by
  intro pins s σ H vs us Q I r h
  obtain ⟨p, a, kvs, rfl, hp, ha, hne, q⟩ := h
  obtain rfl := Vals.ref1 r
  have view : PySem.W.KdlKeysView s.heap p a := (show ObjOk X.prog X.w H s.heap p (keysO p a) from I.hok p _ hp).1
  obtain ⟨z, hd, xs', rel, o, es, ep, ho, hx, hdat, hes, his, hn⟩ := dt_of I.hok ha
  have raw : s.heap.DictRaw a es ep := ⟨o, ho, hx, hdat⟩
  have l1 : kvs.length = xs'.length := Paired.length rel
  have l2 : es.size = xs'.length := by
    have := congrArg List.length hes
    rw [Array.length_toList, List.length_map] at this
    exact this
  have hh : X.A.handled = none := I.ok.hd hc
  -- the keys, one by one
  have key : ∀ (i : Nat) (hi : i < es.size), ∃ (e : List L2.Key × V) (b : Addr), e ∈ kvs ∧ es[i].key = .ref b ∧ H b = some (.tup (e.1.map kV)) := by
    intro i hi
    have hx' : i < xs'.length := by omega
    have e1 : es[i] = entryOfKey (tupleKind (mixKind X.prog X.w)) xs'[i] := by
      have z1 : es.toList[i]? = some es[i] := by rw [Array.getElem?_toList]; simp [hi]
      rw [hes, List.getElem?_map, List.getElem?_eq_getElem hx'] at z1
      exact (Option.some.inj z1).symm
    obtain ⟨e0, he0, r1, r2, r3⟩ := L2.DX.pget rel (List.getElem?_eq_getElem hx')
    exact ⟨e0, xs'[i].2.1, List.mem_of_getElem? he0, by rw [e1] <;> rfl, r2⟩
  have all : ∀ vs : List Value, PySem.ItemsOf (fun i v => ∃ hi : i < es.size, v = es[i].key) vs.toArray es.size → ∀ u ∈ vs, ∃ (e : List L2.Key × V) (b : Addr), e ∈ kvs ∧ u = .ref b ∧ H b = some (.tup (e.1.map kV)) := by
    intro vs hv u hu
    obtain ⟨j, hj⟩ := List.mem_iff_getElem?.mp hu
    obtain ⟨hi, e⟩ := hv.2 j u (by simpa using hj)
    obtain ⟨e0, b, m, eb, hb⟩ := key j hi
    exact ⟨e0, b, m, e.trans eb, hb⟩
  refine sorted_col (G := fun vs => PySem.ItemsOf (fun i v => ∃ hi : i < es.size, v = es[i].key) vs.toArray es.size) (fun R E hR => ?_) (fun vs g => ?_) fun h1 h' tk d vs out g hpm k1 k2 hd1 hnn => ?_
  · exact PySem.W.kdu_collect (A := X.A.in1) (PySem.KdlSrc.rawKeys (r := p) (d := a) (es := es) (ep := ep)) hh ⟨view, raw⟩ (by rw [l2, ← l1]; exact z) fun h' tk acc hk hacc => hR h' tk acc.toList hk (by simpa using hacc)
  · have hl : vs.length = es.size := by simpa using g.1
    refine ⟨by rw [hl, l2, ← l1]; exact z, fun h2 => ⟨fun v => TS.intsOf s.heap v, fun u hu => ?_⟩⟩
    obtain ⟨e, b, m, rfl, hb⟩ := all vs g u hu
    obtain ⟨ns, en, h1⟩ := hne (by omega) e m
    have hb' : SqT X.K H b (ns.map V.int) := by
      refine SqT.of ?_
      rw [hb, en, List.map_map]
      rfl
    have zz := tupI_raw I hb'
    show TS.TupInts s.heap (Value.ref b) (TS.intsOf s.heap (.ref b)) ∧ 1 ≤ (TS.intsOf s.heap (.ref b)).length
    rw [zz.ints]
    exact ⟨zz, h1⟩
  · obtain ⟨ys, e3⟩ := bk_refs (us := out) fun u hu => by
      obtain ⟨e, b, m, eb, hb⟩ := all vs g u (hpm.mem_iff.mp hu)
      exact ⟨b, eb⟩
    obtain ⟨n', hnn⟩ := hnn
    have hl : vs.length = es.size := by simpa using g.1
    have hly : ys.length = kvs.length := by
      have := hpm.length_eq
      rw [e3, List.length_map] at this
      omega
    have I1 := I.kept (t' := tk) k1
    refine ⟨.ref d, upd H d (.lst (ys.map V.ref)), I1.laid (t' := tk) k2 hd1 ⟨?_, out, n', ?_, hnn⟩, rfl, q ys d hly (fun y hy => ?_) (I1.hok.fresh hd1)⟩
    · rw [List.length_map, hly]; exact z
    · rw [e3]; exact vals_refs ys
    · obtain ⟨e, b, m, eb, hb⟩ := all vs g (.ref y) (hpm.mem_iff.mp (by rw [e3]; exact List.mem_map.mpr ⟨y, hy, rfl⟩))
      cases eb
      exact ⟨e, m, hb⟩
end
end Wr


/-! More rules: x in a tuple of data, enumerate of a tuple, a display of one pair whose key is a tuple. -/
namespace Wr
open PySem PySem.Spec L2
section
variable {X : Cx}
/-! ### x in t, the items data of any depth -/
def rInDT (K : PySem.W.Frag) : R2 := fun x y H Q => ∃ d ds, Dp K H x d ∧ Dp K H y (.tuple ds) ∧ SeqAt.shaped d = true ∧ SeqAt.shaped (.tuple ds) = true ∧ Q (.bl (ds.any fun z => PyData.eqv z d)) H
theorem op_inDT (hu : X.A.units + 65 < cLine) : OpR X (compareOp .In) (rInDT X.K) := by
  intro pins s σ H x y v u Q I rx ry h
  obtain ⟨d, ds, hd, he, sd, se, q⟩ := h
  obtain ⟨as, r1⟩ := Dp.reads I d x v hd rx
  obtain ⟨bs, r2⟩ := Dp.reads I (.tuple ds) y u he ry
  exact SeqAt.in_tuple_reads r2 r1 (SeqAt.canLay_of_shaped se) (SeqAt.canLay_of_shaped sd) (PyProof.Rows.room_in_shaped sd hu) ⟨.bl _, H, I, rfl, q⟩
end
/-! ### enumerate(tuple) -/
theorem meets_enumerate_newT {v : Value} {o : Obj} {G : Heap → Prop} (B : Begins v o G) :
    Meets (Builtin.«enumerate.__new__» ⟨[.type "enumerate", v], []⟩) (fun _ R s => G s.heap ∧
      R (.ok (.ret (.ref (s.heap.push o).objs.size))) { s with heap := (s.heap.push o).push { cls := .type "enumerate", data := .fields #[.none, .bool false, .ref s.heap.objs.size, rawInt 0, .none, .none] } }) :=
  .of_wp fun prog w A R s h => by
    obtain ⟨hp, g, d, tk, os⟩ := s; obtain ⟨h1, h⟩ := h
    have hsub := sub_enumerate
    have q1 : ∀ {A' : Around} {E : Value → Shared → Prop} {Q : Value → Shared → Prop}, Q (.ref hp.objs.size) ⟨hp.push o, g, d, tk, os⟩ → wpAny (model prog w) A' (pyIter v) Q E ⟨hp, g, d, tk, os⟩ :=
      fun q => B.iter prog w _ _ ⟨hp, g, d, tk, os⟩ _ h1 q
    wp_walk using q1
    refine wpAny_stack_any fun st => wpAny_pure ?_
    split
    · rename_i c _ _ _ _ _
      cases (c == Value.type "enumerate")
      · wp_walk using q1
        exact ⟨_, rfl, h⟩
      · wp_walk using q1
        exact ⟨_, rfl, h⟩
    · wp_walk using q1
      exact ⟨_, rfl, h⟩
theorem call_enumerate_tuple {prog : Program} {w : World} {A : Around} {E : Value → Shared → Prop} {s : Shared} {l : Addr} {items : Array Value} {Q : Value → Shared → Prop} (hL : s.heap.IsTuple l items)
    (h : ∀ h', IsEnum h' (s.heap.objs.size + 1) s.heap.objs.size 0 .none → h'.IsTupleIter s.heap.objs.size l 0 →
      (∀ b o, s.heap.get? b = some o → h'.get? b = some o) → Q (.ref (s.heap.objs.size + 1)) { s with heap := h' }) :
    wpAny (model prog w) A (call (.type "enumerate") [.ref l]) Q E s := by
  refine callType_new F.called_enumerate (by decide) (F.typeCall_enumerate_1 _) (F.newCall_enumerate_1 _) (fun obj => F.args_object_init_2 obj _) F.entry_enumerate_new
    (meets_enumerate_newT (begins_tuple l items)) ⟨hL, ?_⟩
  have hz : (s.heap.push { cls := .type "tuple_iterator", data := .fields #[.ref l, .int 0 0] }).objs.size = s.heap.objs.size + 1 := Heap.size_push ..
  show _ ∧ _
  rw [hz]
  have he : IsEnum ((s.heap.push { cls := .type "tuple_iterator", data := .fields #[.ref l, .int 0 0] }).push
      { cls := .type "enumerate", data := .fields #[.none, .bool false, .ref s.heap.objs.size, rawInt 0, .none, .none] }) (s.heap.objs.size + 1) s.heap.objs.size 0 .none := by
    have := Heap.get?_push_size (s.heap.push { cls := .type "tuple_iterator", data := .fields #[.ref l, .int 0 0] })
      (o := { cls := .type "enumerate", data := .fields #[.none, .bool false, .ref s.heap.objs.size, rawInt 0, .none, .none] }) rfl
    rw [hz] at this; exact this
  refine ⟨⟨_, he, rfl⟩, h _ he ⟨_, Heap.get?_push_of_some _ (Heap.get?_push_size _ rfl), rfl, rfl⟩ fun b o x => Heap.get?_push_of_some _ (Heap.get?_push_of_some _ x)⟩
def IteT (K : PySem.W.Frag) (a : Addr) : It :=
  ⟨fun i H => ∃ (xs : List V) (x : V), SqT K H a xs ∧ xs[i]? = some x, fun i H v H' => ∃ T x, v = .ref T ∧ H T = none ∧ H' = upd H T (.tup [.int (i : Nat), x]) ∧ ∀ xs, SqT K H a xs → xs[i]? = some x, fun i H => ∃ xs : List V, SqT K H a xs ∧ xs.length ≤ i⟩
theorem turn_enumT {P : Program} {w : World} {K : PySem.W.Frag} {elts : List Expr} {kk : Nat} {tpos : Pos} (a e it : Addr) :
    Turn P w K (.Tuple elts kk tpos) (IteT K a) [e, it] e (fun i h => (∃ old, IsEnum h e it ((i : Nat) : Int) old) ∧ h.IsTupleIter it a i ∧ e ≠ it ∧ a ≠ it ∧ a ≠ e) where
  mem := by simp
  obj := fun i h st b hb => by
    obtain ⟨⟨old, he⟩, ⟨o, ho, hc, hd⟩, _⟩ := st
    have e' : b = e ∨ b = it := by simpa using hb
    rcases e' with z | z
    · rw [z]; exact ⟨_, he, fun v q => nomatch q⟩
    · rw [z]; exact ⟨o, ho, fun v q => by rw [hd] at q; cases q⟩
  keep := fun i h h' st k => let ⟨⟨old, he⟩, hi, hne⟩ := st; ⟨⟨old, k e (by simp) _ he⟩, hi.at fun o q => k it (by simp) o q, hne⟩
  item := by
    intro X hP hw hK hc i pins s σ H E I hf st hg
    subst hP hw hK
    obtain ⟨⟨old, he⟩, hit, hne, hai, hae⟩ := st
    obtain ⟨xs, x, hq, hx⟩ := hg
    obtain ⟨its, rv, p, hz⟩ := I.tuple hq
    obtain ⟨u, hu, ru⟩ := rv.get hx
    have hel : e < s.heap.objs.size := Heap.lt_size he
    have hil : it < s.heap.objs.size := by obtain ⟨_, q, _⟩ := hit; exact Heap.lt_size q
    have hlt : i < its.toArray.size := by
      have := (List.getElem?_eq_some_iff.mp hu).1
      simpa using this
    have hef : e ∉ [it, a] := by
      intro m
      rcases List.mem_cons.mp m with z | m
      · exact hne z
      · exact hae (List.mem_singleton.mp m).symm
    refine wpAny_pyNext_enum_itemD (Draws.tuple (prog := X.prog) (w := X.w) (A := X.A.in1) (I.ok.hd hc) it a hai its.toArray) he ⟨hit, p⟩ hlt hne hef fun x' h' tk hP ho hit' hT hsz hk => ?_
    have ex : x' = u := by
      have z : its.toArray[i]? = some u := by simpa using hu
      exact Option.some.inj (hP.symm.trans z)
    subst ex
    refine ⟨_, rfl, wpAny_letOwnedTupleGo_enum (s := { s with heap := h', toks := tk + 1 }) ho fun h'' he' sb => ?_⟩
    have hT2 : h''.get? s.heap.objs.size = some { cls := .type "tuple", data := .seq #[.int i tk, x'] } := (sb.2 _ (Nat.ne_of_gt hel)).trans hT
    have new : ObjOk X.prog X.w (upd H s.heap.objs.size (.tup [.int (i : Nat), x])) h'' s.heap.objs.size (.tup [.int (i : Nat), x]) :=
      ⟨by show 2 ≤ sizeLine; decide, [.int i tk, x'], .cons ⟨_, rfl⟩ (.cons ru .nil), ⟨_, hT2, rfl, _, rfl⟩⟩
    have I1 : Inv X pins σ (upd H s.heap.objs.size (.tup [.int (i : Nat), x])) { s with heap := h'', toks := tk + 1 } :=
      I.turnedNew (ch := [e, it]) (fun b ob hb q => (sb.2 b (fun z => hb (by simp [z]))).trans (hk b ob (fun z => hb (by simp [z])) (fun z => hb (by simp [z])) q)) hf (Nat.le_refl _) new
    refine ⟨.ref s.heap.objs.size, _, I1, rfl, ⟨_, x, rfl, I.hok.fresh (Nat.le_refl _), rfl, fun ys hy => by rw [I.tuple_inj hy hq]; exact hx⟩, ⟨⟨x', ?_⟩, hit'.1.at fun o q => (sb.2 it (Ne.symm hne)).trans q, hne, hai, hae⟩, fun b hb => ?_⟩
    · have e1 : ((i + 1 : Nat) : Int) = (i : Int) + 1 := by omega
      rw [e1]; exact he'
    · have hb' : b < s.heap.objs.size := by
        have e' : b = e ∨ b = it := by simpa using hb
        rcases e' with z | z
        · rw [z]; exact hel
        · rw [z]; exact hil
      rw [upd_ne (Nat.ne_of_lt hb')]
      exact (hf b hb).1
  done := by
    intro X hP hw hK hc i pins s σ H E I hf st hg
    subst hP hw hK
    obtain ⟨⟨old, he⟩, hit, hne, hai, hae⟩ := st
    obtain ⟨xs, hq, hx⟩ := hg
    obtain ⟨its, rv, p, hz⟩ := I.tuple hq
    obtain ⟨f0, f1, f2, f3, f4, f5⟩ := hf it (by simp)
    have hl := rv.length
    have hT : s.TypeIs (.ref e) "enumerate" := ⟨_, he, rfl⟩
    unfold pyNext
    refine wpAny_bind (wpAny_attempt (wpAny_callSpecial?_slot (name := Str.ofString "__next__") hT F.slot_enumerate_next
      (wpAny_call_entry F.slot_enumerate_next hT F.entry_enumerate_next ?_ (F.args_enumerate_next_1 _))))
    show wpAny _ _ (field (.ref e) 2 >>= _) _ _ _
    refine wpAny_bind (wpAny_field he rfl (x := .ref it) rfl ?_)
    refine wpAny_bind (PySem.wpAny_nextOf_tuple_end (A := X.A.in1) (I.ok.hd hc) hit p (by simp; omega) fun h' x he' hx' => ?_)
    obtain ⟨o, ho, hcx⟩ := hx'
    refine wpAny_bind (wpAny_isInstance (T := "StopIteration") (b := true) ⟨o, ho, hcx⟩ isSubtype_stop ?_)
    exact wpAny_pure ⟨rfl, I.turned (t' := s.toks) (fun b o hb q => he' b o hb q) f0 f1 f3 f4 f5⟩
  self := fun A i s Q E st h => let ⟨⟨_, he⟩, _⟩ := st; wpAny_pyIter_enum he h
def iEnumT (K : PySem.W.Frag) (ta : TA) : TI := fun σ H R => ta σ H fun vs H1 => ∃ a xs, vs = [.ref a] ∧ SqT K H1 a xs ∧ R (IteT K a) H1
theorem pi_enumT {X : Cx} {e : Expr} {ta : TA} {p pos tpos : Pos} {elts : List Expr} {kk : Nat} (hg : Gl X "enumerate") (hm : X.mg "enumerate" = none) (ha : PA X [e] ta) (hs : starEach [e] X.env = [(false, eval e X.env)] := by rfl) :
    PI X (.Tuple elts kk tpos) (.Call (.Name "enumerate" p) [e] [] pos) (iEnumT X.K ta) := by
  refine ⟨fun pins s σ H R I h => ?_⟩
  refine PyProof.Rows.Call_ (ld_blt I hg hm PyProof.Rows.boot_enumerate (PyProof.Rows.callWith_type1 (thn (ha.run pos pins s σ H _ I h) fun us s1 ⟨vs, H1, I1, r1, q1⟩ => ?_) hs rfl))
  obtain ⟨a, xs, ex, hq, q⟩ := q1
  subst ex
  cases r1 with
  | cons r rr =>
    cases rr
    cases r
    obtain ⟨its, rv, p', hz⟩ := I1.tuple hq
    have hal : a < s1.heap.objs.size := by obtain ⟨_, q, _⟩ := p'; exact Heap.lt_size q
    refine call_enumerate_tuple p' fun h' he hit hk => wpAny_pyIter_enum he ?_
    have I2 : Inv X pins σ H1 { s1 with heap := h' } := I1.kept (t' := s1.toks) hk
    refine ⟨s1.heap.objs.size + 1, [s1.heap.objs.size + 1, s1.heap.objs.size], _, _, H1, rfl, I2, turn_enumT a (s1.heap.objs.size + 1) s1.heap.objs.size, ⟨⟨.none, he⟩, hit, Nat.succ_ne_self _, Nat.ne_of_lt hal, Nat.ne_of_lt (Nat.lt_succ_of_lt hal)⟩, fun b hb => ?_, q⟩
    have e' : b = s1.heap.objs.size + 1 ∨ b = s1.heap.objs.size := by simpa using hb
    have hle : s1.heap.objs.size ≤ b := by
      rcases e' with z | z
      · rw [z]; exact Nat.le_add_right _ _
      · rw [z]; exact Nat.le_refl _
    exact I1.fpOk hle (I1.hok.fresh hle)
theorem walk_enumT {K : PySem.W.Frag} {a : Addr} {xs : List V} : Walk (IteT K a) xs.length (fun H => SqT K H a xs) (YPair (fun i => some (.int (i : Nat))) (fun i => xs[i]?)) := by
  refine ⟨fun i _ hi q => ⟨xs, xs[i], q, by simp [hi]⟩, fun _ q => ⟨xs, q, Nat.le_refl _⟩, fun i H v H' _ q y => ?_⟩
  obtain ⟨T, x, h1, h2, h3, h4⟩ := y
  exact ⟨T, .int (i : Nat), x, h1, h2, h3, rfl, h4 xs q⟩
/-! ### {k: v}, k a tuple -/
def tDispT1 (tk tv : TE) : TE := fun σ H Q => ∀ p, H p = none → tPairs [(tk, tv)] σ (upd H p (.dT [])) fun ps H2 => H2 p = some (.dT []) ∧ ∃ (y : V) (k : List L2.Key) (b : Addr), ps = [(.ref b, y)] ∧ H2 b = some (.tup (k.map kV)) ∧ Q (.ref p) (upd H2 p (.dT [(k, y)]))
theorem pe_dispT1 {X : Cx} {pos : Pos} {k v : Expr} {tk tv : TE} (hu : X.A.units + 1 < cLine) (hk : PE X k tk) (hv : PE X v tv) : PE X (.Dict [some k] [v] pos) (tDispT1 tk tv) := by
  refine ⟨fun pins s σ H Q I q => ?_⟩
  have hn := I.hok.fresh (Nat.le_refl s.heap.objs.size)
  have I1 := I.laid (a := s.heap.objs.size) (o := .dT []) (h' := s.heap.push { cls := .type "dict", data := .dict #[] }) (t' := s.toks) (fun _ _ q => Heap.get?_push_of_some _ q) (Nat.le_refl _) (dt_empty s.heap I.big)
  have pp : PPs X pos [some k] [v] [(tk, tv)] := pps_cons hk hv pps_nil
  rw [arm_eval_Dict]
  have hshape : (evalEachOpt [some k] X.env).zip ((evalEach [v] X.env).map fun v => do let x ← v; standAt pos; pure x) = (pairTrees [some k] [v] X.env pos).map fun p => (some p.1, p.2) := by rfl
  rw [hshape, dictDisplay_pairs _ (by intro z; exact nomatch (show _ :: _ = [] from z)) (by show 1 < 17; decide)]
  refine wpAny_bind (wpAny_standAt (wpAny_bind (wpAny_subDictH (knd := tupleKind (mixKind X.prog X.w)) (Q := fun d s' => wpAny (model X.prog X.w) X.A (pure (Value.ref d)) (EP X pins σ Q) X.xe s') (show X.A.units < cLine by omega) (by show 1 ≤ 15; decide) ?_)))
  refine thn (pp.run pins _ σ _ _ I1 (q _ hn)) fun ws s2 ⟨ps, H2, I2, rel, e, y, kk, b, eps, hb, q2⟩ => ?_
  subst eps
  obtain ⟨uy, rfl, ry⟩ : ∃ uy, ws = [(Value.ref b, uy)] ∧ RelV y uy := by
    cases rel with
    | @cons p0 w0 l1 l2 r rr =>
      cases rr
      obtain ⟨a1, a2⟩ := w0
      obtain ⟨r1, r2⟩ := r
      cases (show a1 = Value.ref b from r1)
      exact ⟨a2, rfl, r2⟩
  obtain ⟨z, hd, xs', rel', dd⟩ := dt_of I2.hok e
  cases rel'
  refine ⟨[(kk, b, uy)], ⟨rfl, rfl, key_of I2.hok hb, True.intro⟩, dd, fun h' tk' dd' hs => wpAny_pure ⟨.ref s.heap.objs.size, _, ?_, rfl, q2⟩⟩
  obtain ⟨o, es, ep, hq, h2, h3, h4, _, h5⟩ := dd'
  refine d_write I2 (by rw [e]; exact True.intro) hs ⟨o, hq⟩ ⟨by show 1 ≤ sizeLine; decide, hd, [(kk, b, uy)], .cons ⟨rfl, ?_, ry⟩ .nil, o, es, ep, hq, h2, h3, h4, h5⟩
  show (upd H2 s.heap.objs.size (.dT [(kk, y)])) b = _
  rw [upd_ne (ne_of hb e (fun z => nomatch z))]
  exact hb
end Wr


/-! is_in, need_many, need_burning, need_two, row_comes -/
namespace Wr
open PySem PySem.Spec L2
section
variable {P : Program} {w : World} {K : PySem.W.Frag} {mg : Str → Option Value} {base : Heap}
theorem ok_is_in {f : Addr} {fd : FuncData} (D : Def K mg "is_in" ["value", "least", "most"] sIsIn f fd) (B : Blts mg) : Cal P w K mg base 1 "is_in" spIsIn := by
  refine cal_of D scIsIn (fun vs H Q E h => ?_) (fun cdv A outer s H vs Q E hr h => ?_)
  · obtain ⟨v, lo, hi, rfl, _⟩ := h
    rfl
  · obtain ⟨v, lo, hi, rfl, h1, h2, q⟩ := h
    refine ⟨_, pss_one (ps_ret (pe_and (pe_callB call_isi (by rfl) B.b_isinstance (by decide +kernel) (pa_cons (pv 0) (pa_cons (pe_bltn (v := .ty "int") (u := .type "int") (by rfl) B.b_int (by decide +kernel) rfl) pa_nil)))
      (pe_and (pe_not (pe_callB call_isi (by rfl) B.b_isinstance (by decide +kernel) (pa_cons (pv 0) (pa_cons (pe_bltn (v := .ty "bool") (u := .type "bool") (by rfl) B.b_bool (by decide +kernel) rfl) pa_nil))))
        (pe_one (pe_chain op_le op_le (pv 1) (pv 0) (pv 2)))))), ?_⟩
    refine ⟨.int v, rfl, _, _, _, _, true, rfl, .ty "int", .base (.int v), kit_ty (by decide +kernel), true, rfl, iteT ?_⟩
    refine ⟨.int v, rfl, _, _, _, _, false, rfl, .ty "bool", .base (.int v), kit_ty (by decide +kernel), false, rfl, true, rfl, iteT ?_⟩
    refine ⟨_, rfl, _, rfl, _, _, rfl, rfl, true, ?_, iteT ?_⟩
    · show V.bl (decide (lo ≤ v)) = .bl true
      rw [decide_eq_true h1]
    · refine ⟨_, rfl, _, _, rfl, rfl, ?_⟩
      show Q (V.bl (decide (v ≤ hi))) H
      rw [decide_eq_true h2]
      exact q
theorem ok_need_many {f : Addr} {fd : FuncData} {t : Tok} (D : Def K mg "need_many" ["many", "least"] sNeedMany f fd) (gM : mg "MOST_ROW" = some (.int 40 t)) (CI : Cal P w K mg base 1 "is_in" spIsIn) : Cal P w K mg base 2 "need_many" spNeedMany := by
  refine cal_of D scNeedMany (fun vs H Q E h => ?_) (fun cdv A outer s H vs Q E hr h => ?_)
  · obtain ⟨v, lo, rfl, _⟩ := h
    rfl
  · obtain ⟨v, lo, rfl, h1, h2, q⟩ := h
    refine ⟨_, pss_one (ps_if (pt_not (pt_val (pe_c CI hr (by decide) (by rfl) (pa_cons (pv 0) (pa_cons (pv 1) (pa_cons (pe_glob (v := .int 40) (by rfl) gM ⟨_, rfl⟩) pa_nil)))))) pss_never pss_nil), ?_⟩
    exact ⟨_, rfl, _, rfl, _, _, _, rfl, h1, h2, true, rfl, iteF q⟩
theorem ok_need_burning {f : Addr} {fd : FuncData} (D : Def K mg "need_burning" ["many", "burning"] sNeedBurning f fd) (B : Blts mg) (CI : Cal P w K mg base 1 "is_in" spIsIn) : Cal P w K mg base 2 "need_burning" spNeedBurning := by
  refine cal_of D scNeedBurning (fun vs H Q E h => ?_) (fun cdv A outer s H vs Q E hr h => ?_)
  · obtain ⟨n, a, S, rfl, _⟩ := h
    rfl
  · obtain ⟨n, a, S, rfl, hS, q⟩ := h
    refine ⟨_, pss_cons (ps_if (pt_not (pt_val (pe_callB call_isi (by rfl) B.b_isinstance (by decide +kernel) (pa_cons (pv 1) (pa_cons (pe_bltn (v := .ty "tuple") (u := .type "tuple") (by rfl) B.b_tuple (by decide +kernel) rfl) pa_nil))))) pss_never pss_nil)
      (pss_one (ps_for PassesOwn.never rfl (pi_enumT (by rfl) B.b_enumerate (pa_cons (pv 1) pa_nil))
        (pg_tup rfl (pgs_cons (pg_name (i := 2) scNeedBurning.nd rfl (.inl rfl)) (pgs_cons (pg_name (i := 3) scNeedBurning.nd rfl (.inl rfl)) pgs_nil)))
        (pss_one (ps_if (PW.pt (pw_or (pt_not (pt_val (pe_c CI hr (by decide) (by rfl) (pa_cons (pv 3) (pa_cons pe_int (pa_cons (pe_op op_sub (pv 0) pe_int) pa_nil))))))
            (pw_or1 (PW.pt (pw_and (pt_cmpR op_gt (pv 2) pe_int (nomark _)) (pw_and1 (pt_cmpR op_le (pv 3) (pe_ix ix_tup (pv 1) (pe_op op_sub (pv 2) pe_int) (fun _ _ => rfl)) (nomark _)))))))) pss_never pss_nil)))), ?_⟩
    refine ⟨_, rfl, _, _, _, _, true, rfl, .ty "tuple", .base (.tup hS.1), kit_ty (by decide +kernel), true, rfl, iteF ?_⟩
    refine ⟨_, rfl, a, S.map V.int, rfl, SqT.of hS.1, for_it walk_enumT (fun i σ H' => ∃ x y, σ = [some (.int n), some (.ref a), x, y] ∧ Same H H') ⟨none, none, rfl, Same.refl H⟩ (fun i σ H' hi ⟨_, _, _, sm⟩ => SqT.of (sm _ _ hS.1)) ?_ ?_⟩
    · rintro i x σ H1 H2 hi ⟨x0, y0, rfl, sm⟩ ⟨T, u, v, rfl, nT, rfl, eu, ev⟩
      cases eu
      rw [List.length_map] at hi
      have eS : S[i]? = some S[i] := List.getElem?_eq_getElem hi
      have ev : (S.map V.int)[i]? = some v := ev
      rw [List.getElem?_map, eS] at ev
      cases ev
      have sm2 : Same H (upd H1 T (.tup [.int (i : Nat), .int S[i]])) := sm.trans (same_upd nT)
      have hm := hS.2.bd S[i] (List.getElem_mem hi)
      refine ⟨T, _, rfl, SqT.of upd_same, rfl, _, _, rfl, _, _, rfl, rfl, ?_⟩
      refine ⟨_, rfl, _, rfl, _, _, rfl, rfl, _, _, _, rfl, hm.1, by omega, true, rfl, iteF ?_⟩
      refine ⟨_, rfl, _, _, rfl, rfl, _, rfl, ite2 (fun hp => ?_) (fun hp => iteF ⟨_, _, rfl, sm2⟩)⟩
      have hp := of_decide_eq_true hp
      have hi1 : i - 1 < S.length := by omega
      have e1 : S[i - 1]? = some S[i - 1] := List.getElem?_eq_getElem hi1
      refine ⟨_, rfl, _, rfl, _, rfl, _, _, rfl, rfl, a, S.map V.int, _, .int S[i - 1], rfl, rfl, SqT.of (sm2 _ _ hS.1), ?_, _, _, rfl, rfl, _, rfl, ?_⟩
      · have ez : ((i : Nat) : Int) - 1 = ((i - 1 : Nat) : Int) := by omega
        rw [ez]
        refine atI_nat ?_
        rw [List.getElem?_map, e1]
        rfl
      · have lt : S[i - 1] < S[i] := List.pairwise_iff_getElem.mp hS.2.asc (i - 1) i hi1 hi (by omega)
        have ef : decide (S[i] ≤ S[i - 1]) = false := decide_eq_false (by omega)
        rw [ef]
        exact iteF ⟨_, _, rfl, sm2⟩
    · rintro σ H' ⟨x, y, rfl, sm⟩
      exact q _ sm
theorem ok_need_two {f : Addr} {fd : FuncData} (D : Def K mg "need_two" ["many", "least", "one", "other"] sNeedTwo f fd) (CM : Cal P w K mg base 2 "need_many" spNeedMany) (CB : Cal P w K mg base 2 "need_burning" spNeedBurning) : Cal P w K mg base 3 "need_two" spNeedTwo := by
  refine cal_of D scNeedTwo (fun vs H Q E h => ?_) (fun cdv A outer s H vs Q E hr h => ?_)
  · obtain ⟨n, lo, a, b, A, B, rfl, _⟩ := h
    rfl
  · obtain ⟨n, lo, a, b, A, B, rfl, h1, h2, hA, hB, q⟩ := h
    refine ⟨_, pss_cons (ps_expr (pe_c CM hr (by decide) (by rfl) (pa_cons (pv 0) (pa_cons (pv 1) pa_nil)))) (pss_cons (ps_expr (pe_c CB hr (by decide) (by rfl) (pa_cons (pv 0) (pa_cons (pv 2) pa_nil))))
      (pss_one (ps_expr (pe_c CB hr (by decide) (by rfl) (pa_cons (pv 0) (pa_cons (pv 3) pa_nil)))))), ?_⟩
    refine ⟨_, rfl, _, rfl, _, _, rfl, h1, by omega, ?_⟩
    refine ⟨_, rfl, _, rfl, n, a, A, rfl, hA, fun H1 s1 => ?_⟩
    exact ⟨_, rfl, _, rfl, n, b, B, rfl, hB.same s1, fun H2 s2 => q H2 (s1.trans s2)⟩
end
end Wr


/-! row_comes, sorts_of -/
namespace Wr
open PySem PySem.Spec L2
theorem ends_of {S : List Int} (h : S ≠ []) : ∃ x y, S.head? = some x ∧ S.getLast? = some y ∧ atI (S.map V.int) 0 = some (.int x) ∧ atI (S.map V.int) (-1) = some (.int y) := by
  cases S with
  | nil => exact absurd rfl h
  | cons x S =>
    refine ⟨x, (x :: S).getLast (List.cons_ne_nil _ _), rfl, List.getLast?_eq_getLast (List.cons_ne_nil _ _), atI_nat (j := 0) rfl, ?_⟩
    have hz : ((x :: S).map V.int) = ((x :: S).dropLast.map V.int) ++ [.int ((x :: S).getLast (List.cons_ne_nil _ _))] := by
      rw [← List.map_singleton, ← List.map_append, List.dropLast_concat_getLast]
    rw [hz]
    exact atI_last _ _
section
variable {P : Program} {w : World} {K : PySem.W.Frag} {mg : Str → Option Value} {base : Heap}
theorem ok_row_comes {f : Addr} {fd : FuncData} (D : Def K mg "row_comes" ["one", "other"] sRowComes f fd) : Cal P w K mg base 1 "row_comes" spRowComes := by
  refine cal_of D scRowComes (fun vs H Q E h => ?_) (fun cdv A outer s H vs Q E hr h => ?_)
  · obtain ⟨n, a, b, A, B, rfl, _⟩ := h
    rfl
  · obtain ⟨n, a, b, A, B, rfl, hA, hB, q⟩ := h
    have hu := hr.units
    refine ⟨_, pss_cons (ps_if (PW.pt (pw_or (pt_cmpR (op_eqD hu) (pv 0) (pe_tup pa_nil) (nomark _)) (pw_or1 (pt_cmpR (op_eqD hu) (pv 1) (pe_tup pa_nil) (nomark _)))))
        (pss_one (ps_ret (pe_cmpR (op_eqD hu) (pv 0) (pv 1) (nomark _)))) pss_nil)
      (pss_one (ps_ret (pe_and (pe_cmpR op_ge (pe_ix ix_tup (pv 1) pe_int (fun _ _ => rfl)) (pe_ix ix_tup (pv 0) pe_int (fun _ _ => rfl)) (nomark _))
        (pe_one (pe_cmpR op_ge (pe_ix ix_tup (pv 1) (pe_un un_neg pe_int) (fun _ _ => rfl)) (pe_ix ix_tup (pv 0) (pe_un un_neg pe_int) (fun _ _ => rfl)) (nomark _)))))), ?_⟩
    refine ⟨_, rfl, Nat.zero_le _, fun p np => ?_⟩
    have s1 : Same H (upd H p (.tup [])) := same_upd np
    refine ⟨_, _, dp_t (s1 _ _ hA.1), dp_t (S := []) upd_same, shaped_t _, shaped_t _, _, rfl, ?_⟩
    rw [eqv_t]
    -- the way where one is empty
    have eq : ∀ H' : Hp, Same H H' → (A = [] ∨ B = []) → Q (.bl (PyData.eqv (.tuple (dI A)) (.tuple (dI B)))) H' := fun H' sm he => by
      refine q H' _ sm ?_
      rw [eqv_t, decide_eq_true_eq]
      exact (comes_nil hA.2 hB.2 he).symm
    refine ite2 (fun e => ?_) (fun e => ?_)
    · have e := of_decide_eq_true e
      refine iteT ⟨_, rfl, _, rfl, _, _, dp_t (s1 _ _ hA.1), dp_t (s1 _ _ hB.1), shaped_t _, shaped_t _, eq _ s1 (.inl e)⟩
    · have hA0 : A ≠ [] := fun z => e (decide_eq_true z)
      refine ⟨_, rfl, Nat.zero_le _, fun p2 np2 => ?_⟩
      have s2 : Same H (upd (upd H p (.tup [])) p2 (.tup [])) := s1.trans (same_upd np2)
      refine ⟨_, _, dp_t (s2 _ _ hB.1), dp_t (S := []) upd_same, shaped_t _, shaped_t _, _, rfl, ?_⟩
      rw [eqv_t]
      refine ite2 (fun e => ?_) (fun e => ?_)
      · have e := of_decide_eq_true e
        exact ⟨_, rfl, _, rfl, _, _, dp_t (s2 _ _ hA.1), dp_t (s2 _ _ hB.1), shaped_t _, shaped_t _, eq _ s2 (.inr e)⟩
      · have hB0 : B ≠ [] := fun z => e (decide_eq_true z)
        obtain ⟨a0, al, h1, h2, h3, h4⟩ := ends_of hA0
        obtain ⟨b0, bl, g1, g2, g3, g4⟩ := ends_of hB0
        have iff := comes_row hA.2 hB.2 h1 h2 g1 g2
        refine ⟨_, rfl, b, _, _, _, rfl, rfl, SqT.of (s2 _ _ hB.1), g3, _, rfl, a, _, _, _, rfl, rfl, SqT.of (s2 _ _ hA.1), h3, _, _, rfl, rfl, _, rfl, ?_⟩
        refine ite2 (fun e => ?_) (fun e => ?_)
        · have e := of_decide_eq_true e
          refine ⟨_, rfl, 1, rfl, b, _, _, _, rfl, rfl, SqT.of (s2 _ _ hB.1), g4, _, rfl, 1, rfl, a, _, _, _, rfl, rfl, SqT.of (s2 _ _ hA.1), h4, _, _, rfl, rfl, q _ _ s2 ?_⟩
          rw [decide_eq_true_eq]
          exact ⟨fun z => iff.mpr ⟨e, z⟩, fun z => (iff.mp z).2⟩
        · refine q _ _ s2 ⟨(fun z => nomatch z), fun z => absurd (decide_eq_true (iff.mp z).1) e⟩
/-! ### sorts_of -/
theorem ok_sorts_of {f : Addr} {fd : FuncData} (D : Def K mg "sorts_of" ["many", "one", "other"] sSortsOf f fd) (B : Blts mg) : Cal P w K mg base 1 "sorts_of" spSortsOf := by
  refine cal_of D scSortsOf (fun vs H Q E h => ?_) (fun cdv A outer s H vs Q E hr h => ?_)
  · obtain ⟨n, a, b, A, B, rfl, _⟩ := h
    rfl
  · obtain ⟨n, a, b, A, B', rfl, hn, hA, hB, q⟩ := h
    refine ⟨_, pss_cons (ps_set (i := 3) scSortsOf.nd rfl (.inl rfl) (pe_lst pa_nil))
      (pss_cons (ps_for PassesOwn.never rfl (pi_range1 (by rfl) B.b_range (pa_cons (pv 0) pa_nil)) (pg_name (i := 4) scSortsOf.nd rfl (.inl rfl))
        (pss_one (ps_expr (pe_bm PySem.F.plainAttrs_list PySem.F.slot_list_append PySem.F.type_list_append mt_append (pv 3) (pa_cons
          (pe_ifExp (PW.pt (pw_and (pt_cmpR op_inI (pv 4) (pv 1) rfl) (pw_and1 (pt_cmpR op_inI (pv 4) (pv 2) rfl)))) pe_str
            (pe_ifExp (pt_cmpR op_inI (pv 4) (pv 1) rfl) pe_str (pe_ifExp (pt_cmpR op_inI (pv 4) (pv 2) rfl) pe_str pe_str))) pa_nil)))))
      (pss_one (ps_ret (pv 3)))), ?_⟩
    refine ⟨Nat.zero_le _, fun l hl => ?_⟩
    have s0 : Same H (upd H l (.lst [])) := same_upd hl
    refine ⟨_, rfl, _, rfl, by omega, by omega, ?_⟩
    refine for_it (n := ((n : Int) - 0).toNat) walk_range (fun i σ H' => ∃ x, σ = [some (.int n), some (.ref a), some (.ref b), some (.ref l), x] ∧ Same H H' ∧ H' l = some (.lst ((List.range i).map fun (k : Nat) => V.str (sortS A B' k))))
      ⟨none, rfl, s0, upd_same⟩ (fun _ _ _ _ _ => trivial) ?_ ?_
    · rintro i x σ H1 H2 hi ⟨x0, rfl, sm, el⟩ ⟨rfl, rfl⟩
      have h0 : (0 : Int) + (i : Int) = (i : Int) := by omega
      have hA1 := sm _ _ hA.1
      have hB1 := sm _ _ hB.1
      have fin : ∀ z : Str, sortS A B' i = z → ∃ l0 xs y, V.ref l = V.ref l0 ∧ [V.str z] = [y] ∧ H2 l0 = some (.lst xs) ∧ xs.length < sizeLine ∧
          (fun H3 => ∃ x, [some (V.int n), some (.ref a), some (.ref b), some (.ref l), some (.int ((0 : Int) + (i : Int)))] = [some (V.int n), some (.ref a), some (.ref b), some (.ref l), x] ∧ Same H H3 ∧ H3 l = some (.lst ((List.range (i + 1)).map fun (k : Nat) => V.str (sortS A B' k)))) (upd H2 l0 (.lst (xs ++ [y]))) := fun z ez => by
        refine ⟨l, _, _, rfl, rfl, el, ?_, _, rfl, fun c o e => ?_, ?_⟩
        · rw [List.length_map, List.length_range]
          exact small1000 (by omega)
        · rw [upd_ne (ne_of_none e hl)]
          exact sm c o e
        · rw [upd_same, range_snoc, List.map_append, ← ez]
          rfl
      have ek : V.int ((0 : Int) + (i : Int)) = .int (i : Int) := congrArg V.int h0
      refine ⟨_, rfl, .inl ⟨rfl, _, SqL.of el⟩, _, rfl, _, rfl, (i : Int), a, A, ek, rfl, .inr hA1, _, rfl, ?_⟩
      by_cases e : (i : Int) ∈ A
      · refine (if_pos (decide_eq_true e)).mpr ⟨_, rfl, _, rfl, (i : Int), b, B', ek, rfl, .inr hB1, _, rfl, ?_⟩
        by_cases e2 : (i : Int) ∈ B'
        · exact (if_pos (decide_eq_true e2)).mpr (fin "both" (by unfold sortS; rw [if_pos e, if_pos e2]))
        · refine (if_neg (by simp [e2])).mpr ⟨_, rfl, _, rfl, (i : Int), a, A, ek, rfl, .inr hA1, true, congrArg V.bl (decide_eq_true e), iteT ?_⟩
          exact fin "old" (by unfold sortS; rw [if_pos e, if_neg e2])
      · refine (if_neg (by simp [e])).mpr ⟨_, rfl, _, rfl, (i : Int), a, A, ek, rfl, .inr hA1, false, congrArg V.bl (decide_eq_false e), iteF ?_⟩
        by_cases e2 : (i : Int) ∈ B'
        · exact ⟨_, rfl, _, rfl, (i : Int), b, B', ek, rfl, .inr hB1, true, congrArg V.bl (decide_eq_true e2), iteT (fin "new" (by unfold sortS; rw [if_neg e, if_pos e2]))⟩
        · exact ⟨_, rfl, _, rfl, (i : Int), b, B', ek, rfl, .inr hB1, false, congrArg V.bl (decide_eq_false e2), iteF (fin "dark" (by unfold sortS; rw [if_neg e, if_neg e2]))⟩
    · rintro σ H' ⟨x, rfl, sm, el⟩
      have e : ((n : Int) - 0).toNat = n := by omega
      rw [e] at el
      exact ⟨_, rfl, q H' l sm hl el⟩
end
end Wr


/-! spare_in -/
namespace Wr
open PySem PySem.Spec L2
theorem sort_dark {A B : List Int} {k : Int} : sortS A B k = "dark" ↔ k ∉ A ∧ k ∉ B := by
  have n1 : ¬ ("both" : Str) = "dark" := by decide +kernel
  have n2 : ¬ ("old" : Str) = "dark" := by decide +kernel
  have n3 : ¬ ("new" : Str) = "dark" := by decide +kernel
  unfold sortS
  by_cases a : k ∈ A <;> by_cases b : k ∈ B <;> simp [a, b, n1, n2, n3]
theorem sort_old {A B : List Int} {k : Int} : sortS A B k = "old" ↔ k ∈ A ∧ k ∉ B := by
  have n1 : ¬ ("both" : Str) = "old" := by decide +kernel
  have n2 : ¬ ("dark" : Str) = "old" := by decide +kernel
  have n3 : ¬ ("new" : Str) = "old" := by decide +kernel
  unfold sortS
  by_cases a : k ∈ A <;> by_cases b : k ∈ B <;> simp [a, b, n1, n2, n3]
theorem sort_new {A B : List Int} {k : Int} : sortS A B k = "new" ↔ k ∉ A ∧ k ∈ B := by
  have n1 : ¬ ("both" : Str) = "new" := by decide +kernel
  have n2 : ¬ ("dark" : Str) = "new" := by decide +kernel
  have n3 : ¬ ("old" : Str) = "new" := by decide +kernel
  unfold sortS
  by_cases a : k ∈ A <;> by_cases b : k ∈ B <;> simp [a, b, n1, n2, n3]
theorem lastS_nil (A B : List Int) : lastS A B [] = "dark" := rfl
theorem lastS_snoc (A B L : List Int) (k : Int) : lastS A B (L ++ [k]) = if sortS A B k = "dark" then lastS A B L else sortS A B k := by
  unfold lastS
  rw [List.foldl_append]
  rfl
theorem at_sorts {A B : List Int} {n : Nat} {k : Int} (h0 : 0 ≤ k) (h1 : k < n) : atI (sorts A B n) k = some (.str (sortS A B k)) := by
  refine at_of (j := k.toNat) (by omega) ?_
  unfold sorts
  rw [List.getElem?_map, List.getElem?_range (by omega)]
  have e : ((k.toNat : Nat) : Int) = k := by omega
  show some (V.str (sortS A B (k.toNat : Int))) = _
  rw [e]
theorem spare_end {A B L fs fs2 : List Int} (nd : L.Nodup) (h1 : ∀ k, k ∈ fs ↔ ∃ j, j < L.length ∧ L[j]? = some k ∧ (k ∉ A ∧ k ∉ B) ∧ lastS A B (L.take j) = "old")
    (h2 : ∀ k, k ∈ fs2 ↔ k ∈ fs ∨ ∃ j, j < L.length ∧ L.reverse[j]? = some k ∧ (k ∉ A ∧ k ∉ B) ∧ lastS A B (L.reverse.take j) = "new") : SpareIn A B L fs2 := by
  intro j k hj
  have hjl := (List.getElem?_eq_some_iff.mp hj).1
  have rv : ∀ i, i < L.length → L.reverse[i]? = L[L.length - 1 - i]? := fun i hi => List.getElem?_reverse hi
  have tk : ∀ i, i ≤ L.length → L.reverse.take i = (L.drop (L.length - i)).reverse := fun i hi => by rw [List.take_reverse]
  rw [h2, h1]
  constructor
  · rintro (⟨i, hi, e, d, l⟩ | ⟨i, hi, e, d, l⟩)
    · have : i = j := nd_ix nd e hj
      subst this
      exact ⟨d, .inl l⟩
    · rw [rv i hi] at e
      have : L.length - 1 - i = j := nd_ix nd e hj
      rw [tk i (by omega)] at l
      have e2 : L.length - i = j + 1 := by omega
      rw [e2] at l
      exact ⟨d, .inr l⟩
  · rintro ⟨d, l | l⟩
    · exact .inl ⟨j, hjl, hj, d, l⟩
    · refine .inr ⟨L.length - 1 - j, by omega, ?_, d, ?_⟩
      · rw [rv _ (by omega), show L.length - 1 - (L.length - 1 - j) = j by omega]
        exact hj
      · rw [tk _ (by omega), show L.length - (L.length - 1 - j) = j + 1 by omega]
        exact l
/-- one turn more -/
theorem grow {fs : List Int} {L : List Int} {k : Int} {i : Nat} {P : Nat → Int → Prop} {G : Int → Prop} (hk : L[i]? = some k) (h : ∀ z, z ∈ fs ↔ G z ∨ ∃ j, j < i ∧ L[j]? = some z ∧ P j z) (fs' : List Int)
    (h' : ∀ z, z ∈ fs' ↔ z ∈ fs ∨ (z = k ∧ P i k)) : ∀ z, z ∈ fs' ↔ G z ∨ ∃ j, j < i + 1 ∧ L[j]? = some z ∧ P j z := fun z => by
  rw [h', h]
  constructor
  · rintro ((g | ⟨j, h1, h2, h3⟩) | ⟨rfl, h3⟩)
    · exact .inl g
    · exact .inr ⟨j, by omega, h2, h3⟩
    · exact .inr ⟨i, by omega, hk, h3⟩
  · rintro (g | ⟨j, h1, h2, h3⟩)
    · exact .inl (.inl g)
    · by_cases e : j = i
      · subst e
        have : k = z := Option.some.inj (hk.symm.trans h2)
        subst this
        exact .inr ⟨rfl, h3⟩
      · exact .inl (.inr ⟨j, by omega, h2, h3⟩)
section
variable {P : Program} {w : World} {K : PySem.W.Frag} {mg : Str → Option Value} {base : Heap}
theorem ok_spare_in {f : Addr} {fd : FuncData} (D : Def K mg "spare_in" ["sorts", "order"] sSpareIn f fd) : Cal P w K mg base 1 "spare_in" spSpareIn := by
  refine cal_of D scSpareIn (fun vs H Q E h => ?_) (fun cdv A outer s H vs Q E hr h => ?_)
  · obtain ⟨n, sa, o, A, B, L, rfl, _⟩ := h
    rfl
  · obtain ⟨n, sa, o, A, B, L, rfl, hn, hs, ho, nd, hL, hlen, q⟩ := h
    refine ⟨_, pss_cons (ps_par (i := 2) (j := 3) rfl scSpareIn.nd rfl rfl (by decide) rfl rfl (pa_cons (pe_lst pa_nil) (pa_cons pe_str pa_nil)) (by rfl))
      (pss_cons (ps_for PassesOwn.never rfl (pi_list (pv 1)) (pg_name (i := 4) scSpareIn.nd rfl (.inl rfl))
        (pss_one (ps_if (pt_cmpR op_ne (pe_ix ix_list (pv 0) (pv 4) (fun _ _ => rfl)) pe_str (nomark _)) (pss_one (ps_set (i := 3) scSpareIn.nd rfl (.inl rfl) (pe_ix ix_list (pv 0) (pv 4) (fun _ _ => rfl))))
          (pss_one (ps_if (pt_cmpR op_eq (pv 3) pe_str (nomark _)) (pss_one (ps_expr (pe_bm PySem.F.plainAttrs_list PySem.F.slot_list_append PySem.F.type_list_append mt_append (pv 2) (pa_cons (pv 4) pa_nil)))) pss_nil)))))
      (pss_cons (ps_set (i := 3) scSpareIn.nd rfl (.inl rfl) pe_str)
      (pss_cons (ps_for PassesOwn.never rfl (pi_list (pe_revL (pv 1))) (pg_name (i := 4) scSpareIn.nd rfl (.inl rfl))
        (pss_one (ps_if (pt_cmpR op_ne (pe_ix ix_list (pv 0) (pv 4) (fun _ _ => rfl)) pe_str (nomark _)) (pss_one (ps_set (i := 3) scSpareIn.nd rfl (.inl rfl) (pe_ix ix_list (pv 0) (pv 4) (fun _ _ => rfl))))
          (pss_one (ps_if (PW.pt (pw_and (pt_cmpR op_eq (pv 3) pe_str (nomark _)) (pw_and1 (pt_cmpR op_notInI (pv 4) (pv 2) rfl))))
            (pss_one (ps_expr (pe_bm PySem.F.plainAttrs_list PySem.F.slot_list_append PySem.F.type_list_append mt_append (pv 2) (pa_cons (pv 4) pa_nil)))) pss_nil)))))
      (pss_one (ps_ret (pv 2)))))), ?_⟩
    refine ⟨Nat.zero_le _, fun l hl => ⟨_, _, rfl, ?_⟩⟩
    have s0 : Same H (upd H l (.lst [])) := same_upd hl
    refine ⟨_, rfl, o, rfl, ⟨_, SqL.of (s0 _ _ ho)⟩, for_it (walk_list (xs := L.map V.int)) (fun i σ H' => ∃ (fs : List Int) (x : Option V), σ = [some (.ref sa), some (.ref o), some (.ref l), some (.str (lastS A B (L.take i))), x] ∧ Same H H' ∧ H' l = some (.lst (fs.map V.int)) ∧ fs.length ≤ i ∧
      ∀ z, z ∈ fs ↔ False ∨ ∃ j, j < i ∧ L[j]? = some z ∧ ((z ∉ A ∧ z ∉ B) ∧ lastS A B (L.take j) = "old"))
      ⟨[], none, rfl, s0, upd_same, Nat.le_refl _, fun z => ?_⟩ (fun i σ H' hi ⟨_, _, _, sm, _⟩ => SqL.of (sm _ _ ho)) ?_ ?_⟩
    · simp
    · rintro i x σ H1 H2 hi ⟨fs, x0, rfl, sm, el, hfl, hfs⟩ ⟨rfl, hx⟩
      rw [List.length_map] at hi
      have ek : L[i]? = some L[i] := List.getElem?_eq_getElem hi
      have hm := hL L[i] (List.getElem_mem hi)
      rw [List.getElem?_map, ek] at hx
      cases hx
      generalize L[i] = k at ek hm
      have tks : L.take (i + 1) = L.take i ++ [k] := take_snoc ek
      have at1 := at_sorts (A := A) (B := B) (n := n) hm.1 hm.2
      refine ⟨_, rfl, _, rfl, sa, _, _, _, rfl, rfl, SqL.of (sm _ _ hs), at1, rfl, _, rfl, ?_⟩
      by_cases e : sortS A B k = "dark"
      · have ed : (!decide (V.str (sortS A B k) = V.str "dark")) = false := by rw [e]; simp
        refine (if_neg (by rw [ed]; decide)).mpr ?_
        have dk := sort_dark.mp e
        have el2 : lastS A B (L.take (i + 1)) = lastS A B (L.take i) := by rw [tks, lastS_snoc, if_pos e]
        refine ⟨_, rfl, rfl, _, rfl, ?_⟩
        by_cases e2 : lastS A B (L.take i) = "old"
        · refine (if_pos (decide_eq_true (congrArg V.str e2))).mpr ⟨_, rfl, .inl ⟨rfl, _, SqL.of el⟩, _, rfl, l, _, _, rfl, rfl, el, ?_, fs ++ [k], some (.int k), ?_, fun c ob ec => ?_, ?_, ?_, ?_⟩
          · rw [List.length_map]; exact small1000 (by omega)
          · rw [el2]; rfl
          · rw [upd_ne (ne_of_none ec hl)]; exact sm c ob ec
          · rw [upd_same, List.map_append]; rfl
          · rw [List.length_append, List.length_singleton]; omega
          · refine grow ek hfs _ fun z => ?_
            rw [List.mem_append, List.mem_singleton]
            exact ⟨fun h => h.imp id fun e => ⟨e, dk, e2⟩, fun h => h.imp id fun e => e.1⟩
        · refine (if_neg (fun z => e2 (V.str.inj (of_decide_eq_true z)))).mpr ⟨fs, _, by rw [el2]; rfl, sm, el, by omega, grow ek hfs _ fun z => ?_⟩
          exact ⟨.inl, fun h => h.elim id fun h => (e2 h.2.2).elim⟩
      · have ed : (!decide (V.str (sortS A B k) = V.str "dark")) = true := by
          rw [decide_eq_false (fun z => e (V.str.inj z))]; rfl
        have el2 : lastS A B (L.take (i + 1)) = sortS A B k := by rw [tks, lastS_snoc, if_neg e]
        refine (if_pos ed).mpr ⟨_, rfl, _, rfl, sa, _, _, _, rfl, rfl, SqL.of (sm _ _ hs), at1, fs, _, by rw [el2]; rfl, sm, el, by omega, grow ek hfs _ fun z => ?_⟩
        exact ⟨.inl, fun h => h.elim id fun h => (e (sort_dark.mpr h.2.1)).elim⟩
    · rintro σ H1 ⟨fs, x0, rfl, sm, el, hfl, hfs⟩
      rw [List.length_map] at hfl hfs
      refine ⟨_, rfl, o, _, rfl, SqL.of (sm _ _ ho), fun ro hro => ⟨ro, rfl, ⟨_, SqL.of upd_same⟩, ?_⟩⟩
      have nlr : l ≠ ro := ne_of_none el hro
      have erev : (L.map V.int).reverse = L.reverse.map V.int := (List.map_reverse).symm
      refine for_it (walk_list (xs := (L.map V.int).reverse)) (fun i σ H' => ∃ (fs2 : List Int) (x : Option V), σ = [some (.ref sa), some (.ref o), some (.ref l), some (.str (lastS A B (L.reverse.take i))), x] ∧ Same H H' ∧ H' ro = some (.lst (L.map V.int).reverse) ∧ H' l = some (.lst (fs2.map V.int)) ∧ fs2.length ≤ L.length + i ∧
        ∀ z, z ∈ fs2 ↔ z ∈ fs ∨ ∃ j, j < i ∧ L.reverse[j]? = some z ∧ ((z ∉ A ∧ z ∉ B) ∧ lastS A B (L.reverse.take j) = "new"))
        ⟨fs, _, rfl, sm.trans (same_upd hro), upd_same, by rw [upd_ne nlr]; exact el, by omega, fun z => ?_⟩ (fun i σ H' hi ⟨_, _, _, _, e, _⟩ => SqL.of e) ?_ ?_
      · simp
      · rintro i x σ H2 H3 hi ⟨fs2, x0, rfl, sm2, er, el, hfl2, hfs2⟩ ⟨rfl, hx⟩
        rw [erev, List.length_map, List.length_reverse] at hi
        have hi' : i < L.reverse.length := by rw [List.length_reverse]; exact hi
        have ek : L.reverse[i]? = some L.reverse[i] := List.getElem?_eq_getElem hi'
        have hm := hL L.reverse[i] (List.mem_reverse.mp (List.getElem_mem hi'))
        rw [erev, List.getElem?_map, ek] at hx
        cases hx
        generalize L.reverse[i] = k at ek hm
        have tks : L.reverse.take (i + 1) = L.reverse.take i ++ [k] := take_snoc ek
        have at1 := at_sorts (A := A) (B := B) (n := n) hm.1 hm.2
        refine ⟨_, rfl, _, rfl, sa, _, _, _, rfl, rfl, SqL.of (sm2 _ _ hs), at1, rfl, _, rfl, ?_⟩
        by_cases e : sortS A B k = "dark"
        · have ed : (!decide (V.str (sortS A B k) = V.str "dark")) = false := by rw [e]; simp
          refine (if_neg (by rw [ed]; decide)).mpr ?_
          have dk := sort_dark.mp e
          have el2 : lastS A B (L.reverse.take (i + 1)) = lastS A B (L.reverse.take i) := by rw [tks, lastS_snoc, if_pos e]
          refine ⟨_, rfl, rfl, _, rfl, ?_⟩
          by_cases e2 : lastS A B (L.reverse.take i) = "new"
          · refine (if_pos (decide_eq_true (congrArg V.str e2))).mpr ⟨_, rfl, _, rfl, k, l, fs2, rfl, rfl, .inl el, _, rfl, ?_⟩
            by_cases e3 : k ∈ fs2
            · refine (if_neg (by simp [e3])).mpr ⟨fs2, _, by rw [el2]; rfl, sm2, er, el, by omega, grow ek hfs2 _ fun z => ?_⟩
              exact ⟨.inl, fun h => h.elim id fun h => by rw [h.1]; exact e3⟩
            · refine (if_pos (by simp [e3])).mpr ⟨_, rfl, .inl ⟨rfl, _, SqL.of el⟩, _, rfl, l, _, _, rfl, rfl, el, ?_, fs2 ++ [k], some (.int k), ?_, fun c ob ec => ?_, ?_, ?_, ?_, ?_⟩
              · rw [List.length_map]; exact small1000 (by omega)
              · rw [el2]; rfl
              · rw [upd_ne (ne_of_none ec hl)]; exact sm2 c ob ec
              · rw [upd_ne nlr.symm]; exact er
              · rw [upd_same, List.map_append]; rfl
              · rw [List.length_append, List.length_singleton]; omega
              · refine grow ek hfs2 _ fun z => ?_
                rw [List.mem_append, List.mem_singleton]
                exact ⟨fun h => h.imp id fun e => ⟨e, dk, e2⟩, fun h => h.imp id fun e => e.1⟩
          · refine (if_neg (fun z => e2 (V.str.inj (of_decide_eq_true z)))).mpr ?_
            refine iteF ⟨fs2, _, by rw [el2]; rfl, sm2, er, el, by omega, grow ek hfs2 _ fun z => ?_⟩
            exact ⟨.inl, fun h => h.elim id fun h => (e2 h.2.2).elim⟩
        · have ed : (!decide (V.str (sortS A B k) = V.str "dark")) = true := by
            rw [decide_eq_false (fun z => e (V.str.inj z))]; rfl
          have el2 : lastS A B (L.reverse.take (i + 1)) = sortS A B k := by rw [tks, lastS_snoc, if_neg e]
          refine (if_pos ed).mpr ⟨_, rfl, _, rfl, sa, _, _, _, rfl, rfl, SqL.of (sm2 _ _ hs), at1, fs2, _, by rw [el2]; rfl, sm2, er, el, by omega, grow ek hfs2 _ fun z => ?_⟩
          exact ⟨.inl, fun h => h.elim id fun h => (e (sort_dark.mpr h.2.1)).elim⟩
      · rintro σ H2 ⟨fs2, x0, rfl, sm2, er, el, hfl2, hfs2⟩
        rw [erev, List.length_map, List.length_reverse] at hfs2
        refine ⟨_, rfl, q H2 l fs2 sm2 hl el (spare_end nd (fun k => ?_) hfs2)⟩
        rw [hfs]
        simp
end
end Wr


/-! A comprehension whose tests and elements are values of its item: filtered and mapped. -/
namespace Wr
open PySem PySem.Spec L2
/-- what is walked gives the items of L, the heap as it was -/
abbrev YL {α : Type} (L : List α) (e : α → V) : Nat → Hp → V → Hp → Prop := fun i H x H' => H' = H ∧ ∃ a, L[i]? = some a ∧ x = e a
theorem wl_list {α : Type} {K : PySem.W.Frag} {a : Addr} {L : List α} {e : α → V} : Walk (Itl K a) L.length (fun H => H a = some (.lst (L.map e))) (YL L e) := by
  have w := walk_list (K := K) (a := a) (xs := L.map e)
  rw [List.length_map] at w
  refine w.mono (fun H h => SqL.of h) fun i H x H' hi h y => ⟨y.1, ?_⟩
  have z : (L.map e)[i]? = some x := y.2
  rw [List.getElem?_map] at z
  obtain ⟨b, hb, eb⟩ := Option.map_eq_some_iff.mp z
  exact ⟨b, hb, eb.symm⟩
theorem wl_tup {α : Type} {K : PySem.W.Frag} {a : Addr} {L : List α} {e : α → V} : Walk (Itt K a) L.length (fun H => H a = some (.tup (L.map e))) (YL L e) := by
  have w := walk_tup (K := K) (a := a) (xs := L.map e)
  rw [List.length_map] at w
  refine w.mono (fun H h => SqT.of h) fun i H x H' hi h y => ⟨y.1, ?_⟩
  have z : (L.map e)[i]? = some x := y.2
  rw [List.getElem?_map] at z
  obtain ⟨b, hb, eb⟩ := Option.map_eq_some_iff.mp z
  exact ⟨b, hb, eb.symm⟩
theorem wl_range {lo : Int} {n : Nat} : Walk (Itr lo n) (List.range n).length (fun _ => True) (YL (List.range n) fun (i : Nat) => V.int (lo + i)) := by
  have w := walk_range (lo := lo) (n := n)
  rw [List.length_range]
  exact w.mono (fun _ h => h) fun i H x H' hi h y => ⟨y.1, i, List.getElem?_range hi, y.2⟩
/-- the reading of such a comprehension behind what it walks -/
theorem lc_pure {α : Type} {J : It} {L : List α} {e : α → V} {G : Hp → Prop} {H : Hp} (w : Walk J L.length G (YL L e)) (hG : ∀ H', Same H H' → G H') {σ : St} {j : Nat} {tt : TT} {te : TE} {p : α → Bool} {g : α → V} {Qd : Hp → Prop}
    (htt : ∀ a H' (Qt : Bool → Hp → Prop), a ∈ L → Same H H' → (∀ H'', Same H' H'' → Qt (p a) H'') → tt (σ.set j (some (e a))) H' Qt)
    (hte : ∀ a H' (Qe : VK), a ∈ L → p a = true → Same H H' → (∀ H'', Same H' H'' → Qe (g a) H'') → te (σ.set j (some (e a))) H' Qe) (hlen : L.length ≤ 1000)
    {D : Addr} (hD : H D = none) (hd : ∀ H', Same H H' → H' D = some (.lst (fm p g L)) → Qd H') :
    ∃ W : Nat → Nat → Hp → Prop, (∃ m, W 0 m (upd H D (.lst []))) ∧ ∀ i m H, W i m H →
      (J.stop i H ∧ Qd H) ∨ (J.go i H ∧ ∃ Nx : Hp → Prop, (∀ H', Nx H' → ∃ m', m' < m ∧ W (i + 1) m' H') ∧ ∀ x H', J.yld i H x H' → gName j x (wipe σ [j]) H' fun σ2 H2 => wipe σ2 [j] = wipe σ [j] ∧ tt σ2 H2 fun b H3 =>
        if b = true then te σ2 H3 fun y H4 => ∃ acc, H4 D = some (.lst acc) ∧ acc.length < sizeLine ∧ Nx (upd H4 D (.lst (acc ++ [y]))) else Nx H3) := by
  refine lc_it w (Qd := Qd) (g := gName j) (vs := [j]) (fun i H' => Same H H' ∧ H' D = some (.lst (fm p g (L.take i)))) ⟨same_upd hD, upd_same⟩ (fun i H' _ h => hG H' h.1) ?_ ?_
  · rintro i x H1 H2 hi ⟨sm, el⟩ ⟨rfl, a, ha, rfl⟩
    have hm := List.mem_of_getElem? ha
    have es : (wipe σ [j]).set j (some (e a)) = σ.set j (some (e a)) := by
      show (σ.set j none).set j (some (e a)) = _
      rw [List.set_set]
    show wipe ((wipe σ [j]).set j (some (e a))) [j] = wipe σ [j] ∧ _
    refine ⟨?_, ?_⟩
    · show ((σ.set j none).set j (some (e a))).set j none = σ.set j none
      rw [List.set_set, List.set_set]
    · rw [es]
      refine htt a H2 _ hm sm fun H3 s3 => ?_
      have tk := take_snoc ha
      by_cases hp : p a = true
      · rw [if_pos hp]
        refine hte a H3 _ hm hp (sm.trans s3) fun H4 s4 => ⟨_, s4 _ _ (s3 _ _ el), ?_, fun c o ec => ?_, ?_⟩
        · have := fm_len p g (L.take i)
          rw [List.length_take] at this
          exact small1000 (by omega)
        · rw [upd_ne (ne_of_none ec hD)]
          exact s4 _ _ (s3 _ _ (sm _ _ ec))
        · rw [upd_same, tk, fm_yes hp]
      · rw [if_neg hp]
        refine ⟨sm.trans s3, ?_⟩
        rw [tk, fm_no (by simpa using hp)]
        exact s3 _ _ el
  · rintro H' ⟨sm, el⟩
    rw [List.take_length] at el
    exact hd H' sm el
end Wr


/-! The lamps that are changed twice, out of the orders: the sum is the cost. -/
namespace Wr
theorem lastS_old {A B : List Int} {l : Nat → Int} : ∀ {m : Nat}, lastS A B ((List.range m).map l) = "old" ↔ ∃ i, i < m ∧ l i ∈ A ∧ ∀ t, i ≤ t → t < m → l t ∉ B
  | 0 => by
    have n2 : ¬ (("dark" : PySem.Str) = "old") := by decide +kernel
    constructor
    · intro h
      exact (n2 h).elim
    · rintro ⟨i, h, _⟩
      omega
  | m + 1 => by
    have ih := lastS_old (A := A) (B := B) (l := l) (m := m)
    have n2 : ¬ (("dark" : PySem.Str) = "old") := by decide +kernel
    have e : (List.range (m + 1)).map l = (List.range m).map l ++ [l m] := by rw [List.range_succ, List.map_append]; rfl
    rw [e, lastS_snoc]
    by_cases d : sortS A B (l m) = "dark"
    · rw [if_pos d, ih]
      have dk := sort_dark.mp d
      constructor
      · rintro ⟨i, h1, h2, h3⟩
        refine ⟨i, by omega, h2, fun t t1 t2 => ?_⟩
        by_cases z : t = m
        · rw [z]; exact dk.2
        · exact h3 t t1 (by omega)
      · rintro ⟨i, h1, h2, h3⟩
        have : i ≠ m := fun z => dk.1 (by rw [← z]; exact h2)
        exact ⟨i, by omega, h2, fun t t1 t2 => h3 t t1 (by omega)⟩
    · rw [if_neg d, sort_old]
      constructor
      · rintro ⟨h1, h2⟩
        refine ⟨m, by omega, h1, fun t t1 t2 => ?_⟩
        have : t = m := by omega
        rw [this]; exact h2
      · rintro ⟨i, h1, h2, h3⟩
        have nb := h3 m (by omega) (by omega)
        refine ⟨Classical.byContradiction fun z => d (sort_dark.mpr ⟨z, nb⟩), nb⟩
theorem sort_swap {A B : List Int} {k : Int} : sortS A B k = "new" ↔ sortS B A k = "old" := by
  rw [sort_new, sort_old]
  exact And.comm
theorem lastS_new {A B : List Int} {l : Nat → Int} : ∀ {m : Nat}, lastS A B ((List.range m).map l) = "new" ↔ ∃ i, i < m ∧ l i ∈ B ∧ ∀ t, i ≤ t → t < m → l t ∉ A
  | 0 => by
    have n2 : ¬ (("dark" : PySem.Str) = "new") := by decide +kernel
    constructor
    · intro h
      exact (n2 h).elim
    · rintro ⟨i, h, _⟩
      omega
  | m + 1 => by
    have ih := lastS_new (A := A) (B := B) (l := l) (m := m)
    have e : (List.range (m + 1)).map l = (List.range m).map l ++ [l m] := by rw [List.range_succ, List.map_append]; rfl
    rw [e, lastS_snoc]
    by_cases d : sortS A B (l m) = "dark"
    · rw [if_pos d, ih]
      have dk := sort_dark.mp d
      constructor
      · rintro ⟨i, h1, h2, h3⟩
        refine ⟨i, by omega, h2, fun t t1 t2 => ?_⟩
        by_cases z : t = m
        · rw [z]; exact dk.1
        · exact h3 t t1 (by omega)
      · rintro ⟨i, h1, h2, h3⟩
        have : i ≠ m := fun z => dk.2 (by rw [← z]; exact h2)
        exact ⟨i, by omega, h2, fun t t1 t2 => h3 t t1 (by omega)⟩
    · rw [if_neg d, sort_new]
      constructor
      · rintro ⟨h1, h2⟩
        refine ⟨m, by omega, h2, fun t t1 t2 => ?_⟩
        have : t = m := by omega
        rw [this]; exact h1
      · rintro ⟨i, h1, h2, h3⟩
        have na := h3 m (by omega) (by omega)
        refine ⟨na, Classical.byContradiction fun z => d (sort_dark.mpr ⟨na, z⟩)⟩
/-- the order that begins at b -/
def ordL (n : Nat) (ring : Bool) (b : Int) : List Int := (List.range n).map fun (j : Nat) => wr n ring (b + j)
theorem ordL_at {n : Nat} {ring : Bool} {b : Int} {j : Nat} (h : j < n) : (ordL n ring b)[j]? = some (wr n ring (b + j)) := by
  unfold ordL
  rw [List.getElem?_map, List.getElem?_range h]
  rfl
theorem ordL_take {n : Nat} {ring : Bool} {b : Int} {j : Nat} (h : j ≤ n) : (ordL n ring b).take j = (List.range j).map fun (i : Nat) => wr n ring (b + i) := by
  unfold ordL
  rw [← List.map_take, List.take_range, Nat.min_eq_left h]
theorem ordL_drop {n : Nat} {ring : Bool} {b : Int} {j : Nat} (h : j < n) : ((ordL n ring b).drop (j + 1)).reverse = (List.range (n - 1 - j)).map fun (t : Nat) => wr n ring (b + ((n : Int) - 1 - t)) := by
  refine List.ext_getElem? fun i => ?_
  unfold ordL
  by_cases hi : i < n - 1 - j
  · rw [List.getElem?_reverse (by rw [List.length_drop, List.length_map, List.length_range]; omega), List.getElem?_drop, List.length_drop, List.length_map, List.length_range, List.getElem?_map, List.getElem?_map,
      List.getElem?_range (by omega), List.getElem?_range hi]
    have e : ((j + 1 + (n - (j + 1) - 1 - i) : Nat) : Int) = (n : Int) - 1 - (i : Nat) := by omega
    show some (wr n ring (b + ((j + 1 + (n - (j + 1) - 1 - i) : Nat) : Int))) = some (wr n ring (b + ((n : Int) - 1 - (i : Nat))))
    rw [e]
  · rw [List.getElem?_eq_none (by rw [List.length_reverse, List.length_drop, List.length_map, List.length_range]; omega), List.getElem?_eq_none (by rw [List.length_map, List.length_range]; omega)]
/-- what the two passes find is what the cost asks -/
theorem spare_cost {n : Nat} {ring : Bool} {A B fs : List Int} {b : Int} (hA : Stand n A) (hB : Stand n B) (hb : (ring = false ∧ b = 0) ∨ (ring = true ∧ b ∈ A)) (h : SpareIn A B (ordL n ring b) fs) {k : Int} (k0 : 0 ≤ k) (k1 : k < n) :
    k ∈ fs ↔ (k ∉ A ∧ k ∉ B) ∧ (nextN (E n ring A) (E n ring B) k ∨ prevO (E n ring A) (E n ring B) k) := by
  -- its place in the order
  obtain ⟨j, hj, ek⟩ : ∃ j : Nat, j < n ∧ wr n ring (b + j) = k := by
    rcases hb with ⟨e, rfl⟩ | ⟨e, m⟩
    · subst e
      refine ⟨k.toNat, by omega, ?_⟩
      show (0 : Int) + (k.toNat : Int) = k
      omega
    · subst e
      have hbd := hA.bd b m
      refine ⟨((k - b) % n).toNat, ?_, ?_⟩
      · have := Int.emod_lt_of_pos (k - b) (show (0 : Int) < n by omega)
        have := Int.emod_nonneg (k - b) (show (n : Int) ≠ 0 by omega)
        omega
      · have e0 := Int.emod_nonneg (k - b) (show (n : Int) ≠ 0 by omega)
        have e1 : ((((k - b) % (n : Int)).toNat : Nat) : Int) = (k - b) % n := by omega
        rw [e1]
        show (b + (k - b) % (n : Int)) % n = k
        rw [Int.add_emod_emod, show b + (k - b) = k by omega, Int.emod_eq_of_lt k0 k1]
  have pl : Pl n ring k (b + j) := ek
  rw [h j k (by rw [ordL_at hj, ek]), ordL_take (Nat.le_of_lt hj), ordL_drop hj, lastS_old, lastS_new, ← nextN_pl pl, ← prevO_pl pl]
  refine and_congr_right fun dk => ?_
  rw [or_comm]
  refine or_congr ⟨?_, ?_⟩ ⟨?_, ?_⟩
  · rintro ⟨i, h1, h2, h3⟩
    refine ⟨(n : Int) - 1 - i - j, by omega, ?_, fun t t1 t2 z => h3 (n - 1 - j - t.toNat) (by omega) (by omega) ?_⟩
    · have e : b + (j : Int) + ((n : Int) - 1 - i - j) = b + ((n : Int) - 1 - i) := by omega
      rw [e]; exact h2
    · have e : b + ((n : Int) - 1 - ((n - 1 - j - t.toNat : Nat) : Int)) = b + j + t := by omega
      rw [e]; exact z
  · rintro ⟨s, h1, h2, h3⟩
    have hs : (j : Int) + s ≤ (n : Int) - 1 := by
      rcases hb with ⟨e, rfl⟩ | ⟨e, m⟩
      · subst e
        have := (hB.bd _ h2).2
        have e : wr n false (0 + (j : Int) + s) = 0 + (j : Int) + s := rfl
        rw [e] at this
        omega
      · subst e
        have hbd := hA.bd b m
        refine Classical.byContradiction fun z => h3 ((n : Int) - j) (by omega) (by omega) ?_
        have e : b + (j : Int) + ((n : Int) - j) = b + n := by omega
        rw [e]
        show (b + (n : Int)) % n ∈ A
        rw [Int.add_emod_right, Int.emod_eq_of_lt hbd.1 hbd.2]
        exact m
    refine ⟨n - 1 - j - s.toNat, by omega, ?_, fun t t1 t2 z => h3 ((n : Int) - 1 - t - j) (by omega) (by omega) ?_⟩
    · have e : b + ((n : Int) - 1 - ((n - 1 - j - s.toNat : Nat) : Int)) = b + j + s := by omega
      rw [e]; exact h2
    · have e : b + (j : Int) + ((n : Int) - 1 - t - j) = b + ((n : Int) - 1 - t) := by omega
      show wr n ring _ ∈ A
      rw [e]; exact z
  · rintro ⟨i, h1, h2, h3⟩
    refine ⟨(j : Int) - i, by omega, ?_, fun t t1 t2 z => h3 (j - t.toNat) (by omega) (by omega) ?_⟩
    · have e : b + (j : Int) - ((j : Int) - i) = b + i := by omega
      rw [e]; exact h2
    · have e : b + ((j - t.toNat : Nat) : Int) = b + j - t := by omega
      rw [e]; exact z
  · rintro ⟨s, h1, h2, h3⟩
    obtain ⟨s', g0, g1, g2, g3⟩ : ∃ s' : Int, 1 ≤ s' ∧ s' ≤ j ∧ s' ≤ s ∧ E n ring A (b + j - s') := by
      rcases hb with ⟨e, rfl⟩ | ⟨e, m⟩
      · subst e
        have := (hA.bd _ h2).1
        have e : wr n false (0 + (j : Int) - s) = 0 + (j : Int) - s := rfl
        rw [e] at this
        exact ⟨s, h1, by omega, Int.le_refl _, h2⟩
      · subst e
        have hbd := hA.bd b m
        by_cases hs : s ≤ j
        · exact ⟨s, h1, hs, Int.le_refl _, h2⟩
        · have hj1 : 1 ≤ j := by
            refine Classical.byContradiction fun z => dk.1 ?_
            have e : b + (j : Int) = b := by omega
            rw [← ek, e]
            show b % (n : Int) ∈ A
            rw [Int.emod_eq_of_lt hbd.1 hbd.2]
            exact m
          refine ⟨j, by omega, Int.le_refl _, by omega, ?_⟩
          have e : b + (j : Int) - j = b := by omega
          rw [e]
          show b % (n : Int) ∈ A
          rw [Int.emod_eq_of_lt hbd.1 hbd.2]
          exact m
    refine ⟨j - s'.toNat, by omega, ?_, fun t t1 t2 z => h3 ((j : Int) - t) (by omega) (by omega) ?_⟩
    · have e : b + ((j - s'.toNat : Nat) : Int) = b + j - s' := by omega
      rw [e]; exact g3
    · have e : b + (j : Int) - ((j : Int) - t) = b + t := by omega
      show wr n ring _ ∈ B
      rw [e]; exact z
/-! ### the sum -/
def lampsL (n : Nat) : List Int := (List.range n).map fun (i : Nat) => (i : Int)
theorem len_sumN (p : Int → Bool) : ∀ n : Nat, ((lampsL n).filter p).length = sumN (fun k => if p k = true then 1 else 0) n
  | 0 => rfl
  | n + 1 => by
    have ih := len_sumN p n
    unfold lampsL at ih ⊢
    rw [List.range_succ, List.map_append, List.filter_append, List.length_append, ih, sumN_succ]
    congr 1
    show ([(n : Int)].filter p).length = _
    by_cases h : p n = true
    · rw [if_pos h, List.filter_cons_of_pos h]; rfl
    · rw [if_neg h, List.filter_cons_of_neg h]; rfl
theorem sumN_add (f g : Int → Nat) : ∀ n : Nat, sumN f n + sumN g n = sumN (fun k => f k + g k) n
  | 0 => rfl
  | n + 1 => by
    have ih := sumN_add f g n
    rw [sumN_succ, sumN_succ, sumN_succ, ← ih]
    omega
/-- the lamps that are lit, that are put out -/
def isLit (A B fs : List Int) (k : Int) : Bool := decide (sortS A B k = "new") || decide (k ∈ fs)
def isOut (A B fs : List Int) (k : Int) : Bool := decide (sortS A B k = "old") || decide (k ∈ fs)
theorem parts_sum {n : Nat} {ring : Bool} {A B fs L1 L2 : List Int} (h : ∀ k : Int, 0 ≤ k → k < n → (k ∈ fs ↔ (k ∉ A ∧ k ∉ B) ∧ (nextN (E n ring A) (E n ring B) k ∨ prevO (E n ring A) (E n ring B) k)))
    (p1 : L1.Perm (lampsL n)) (p2 : L2.Perm (lampsL n)) : (L1.filter (isLit A B fs)).length + (L2.filter (isOut A B fs)).length = sumN (cost (E n ring A) (E n ring B)) n := by
  rw [(p1.filter _).length_eq, (p2.filter _).length_eq, len_sumN, len_sumN, sumN_add]
  refine sumN_eq fun k k0 k1 => ?_
  have hk := h k k0 k1
  have ea : E n ring A k ↔ k ∈ A := E_lamp k0 k1
  have eb : E n ring B k ↔ k ∈ B := E_lamp k0 k1
  unfold isLit isOut
  by_cases a : k ∈ A
  · have nf : k ∉ fs := fun z => (hk.mp z).1.1 a
    have nn : ¬ sortS A B k = "new" := fun z => (sort_new.mp z).1 a
    by_cases b : k ∈ B
    · have no : ¬ sortS A B k = "old" := fun z => (sort_old.mp z).2 b
      rw [cost_both (ea.mpr a) (eb.mpr b)]
      rw [decide_eq_false nf, decide_eq_false nn, decide_eq_false no]; rfl
    · have yo : sortS A B k = "old" := sort_old.mpr ⟨a, b⟩
      rw [cost_ne (fun z => b (eb.mp (z.mp (ea.mpr a))))]
      rw [decide_eq_false nf, decide_eq_false nn, decide_eq_true yo]; rfl
  · have no : ¬ sortS A B k = "old" := fun z => a (sort_old.mp z).1
    by_cases b : k ∈ B
    · have nf : k ∉ fs := fun z => (hk.mp z).1.2 b
      have yn : sortS A B k = "new" := sort_new.mpr ⟨a, b⟩
      rw [cost_ne (fun z => a (ea.mp (z.mpr (eb.mpr b))))]
      rw [decide_eq_false nf, decide_eq_true yn, decide_eq_false no]; rfl
    · have nn : ¬ sortS A B k = "new" := fun z => b (sort_new.mp z).2
      by_cases q : nextN (E n ring A) (E n ring B) k ∨ prevO (E n ring A) (E n ring B) k
      · have yf : k ∈ fs := hk.mpr ⟨⟨a, b⟩, q⟩
        rw [cost_two (fun z => a (ea.mp z)) (fun z => b (eb.mp z)) q]
        rw [decide_eq_true yf, decide_eq_false nn, decide_eq_false no]; rfl
      · have nf : k ∉ fs := fun z => q (hk.mp z).2
        rw [cost_zero (fun z => a (ea.mp z)) (fun z => b (eb.mp z)) q]
        rw [decide_eq_false nf, decide_eq_false nn, decide_eq_false no]; rfl
/-! ### the orders as they are cut -/
theorem ord_row (n : Nat) : ordL n false 0 = lampsL n := by
  unfold ordL lampsL wr
  refine List.map_congr_left fun i _ => ?_
  show (0 : Int) + (i : Int) = i
  omega
theorem lampsL_len (n : Nat) : (lampsL n).length = n := by unfold lampsL; rw [List.length_map, List.length_range]
theorem mem_lampsL {n : Nat} {k : Int} : k ∈ lampsL n ↔ 0 ≤ k ∧ k < n := by
  unfold lampsL
  rw [List.mem_map]
  constructor
  · rintro ⟨i, hi, rfl⟩
    have := List.mem_range.mp hi
    omega
  · rintro ⟨h0, h1⟩
    exact ⟨k.toNat, List.mem_range.mpr (by omega), by omega⟩
theorem lampsL_nodup (n : Nat) : (lampsL n).Nodup := by
  unfold lampsL
  refine List.pairwise_map.mpr (List.Pairwise.imp (fun h => ?_) List.nodup_range)
  intro e
  exact h (by omega)
theorem ord_ring {n b : Nat} (h : b < n) : (lampsL n).drop b ++ (lampsL n).take b = ordL n true b := by
  refine List.ext_getElem? fun i => ?_
  by_cases hi : i < n
  · rw [ordL_at hi]
    have at_ : ∀ j, j < n → (lampsL n)[j]? = some (j : Int) := fun j hj => by
      unfold lampsL
      rw [List.getElem?_map, List.getElem?_range hj]
      rfl
    by_cases h2 : i < n - b
    · rw [List.getElem?_append_left (by rw [List.length_drop, lampsL_len]; exact h2), List.getElem?_drop, at_ _ (by omega)]
      congr 1
      show ((b + i : Nat) : Int) = ((b : Int) + i) % n
      rw [Int.emod_eq_of_lt (by omega) (by omega)]
      omega
    · rw [List.getElem?_append_right (by rw [List.length_drop, lampsL_len]; omega), List.length_drop, lampsL_len, List.getElem?_take, if_pos (by omega), at_ _ (by omega)]
      congr 1
      show ((i - (n - b) : Nat) : Int) = ((b : Int) + i) % n
      have e : (b : Int) + i = ((i - (n - b) : Nat) : Int) + n := by omega
      rw [e, Int.add_emod_right, Int.emod_eq_of_lt (by omega) (by omega)]
  · rw [List.getElem?_eq_none (by rw [List.length_append, List.length_drop, List.length_take, lampsL_len]; omega), List.getElem?_eq_none (by unfold ordL; rw [List.length_map, List.length_range]; omega)]
theorem cut_perm (n b : Nat) : ((lampsL n).drop b ++ (lampsL n).take b).Perm (lampsL n) := by
  have h : ((lampsL n).take b ++ (lampsL n).drop b).Perm (lampsL n) := by rw [List.take_append_drop]
  exact List.perm_append_comm.trans h
end Wr


/-! row_parts, ring_parts, row_fewest, ring_fewest -/
namespace Wr
open PySem PySem.Spec L2
theorem rgV_lamps (n : Nat) : rgV 0 (n : Int) = (lampsL n).map V.int := by
  unfold rgV lampsL
  rw [List.map_map]
  have e : ((n : Int) - 0).toNat = n := by omega
  rw [e]
  refine List.map_congr_left fun i _ => ?_
  show V.int (0 + (i : Int)) = V.int i
  rw [Int.zero_add]
theorem fm_int (p : Int → Bool) (L : List Int) : fm p V.int L = (L.filter p).map V.int := rfl
/-- the test of the parts' comprehensions -/
theorem part_test {K : PySem.W.Frag} {A B fs : List Int} {n : Nat} {H : Hp} {sa pa : Addr} {x : Str} {σ : St} {Qt : Bool → Hp → Prop} {k : Int} {i3 i7 i5 : Nat} (k0 : 0 ≤ k) (k1 : k < n)
    (h3 : σ[i3]? = some (some (.ref sa))) (h7 : σ[i7]? = some (some (.int k))) (h5 : σ[i5]? = some (some (.ref pa)))
    (hs : H sa = some (.lst (sorts A B n))) (hp : H pa = some (.lst (fs.map V.int))) (q : Qt (decide (sortS A B k = x) || decide (k ∈ fs)) H) :
    tOr (tTest (tOp rEq (tOp (rIxL K) (tVar i3) (tVar i7)) (tC (.str x)))) (tTest (tOp (fun x y H Q => ∃ (k : Int) (p : Addr) (S : List Int), x = .int k ∧ y = .ref p ∧ (H p = some (.lst (S.map V.int)) ∨ H p = some (.tup (S.map V.int))) ∧ Q (.bl (decide (k ∈ S))) H) (tVar i7) (tVar i5))) σ H Qt := by
  refine ⟨_, h3, _, h7, sa, _, _, _, rfl, rfl, SqL.of hs, at_sorts k0 k1, rfl, _, rfl, ?_⟩
  by_cases e : sortS A B k = x
  · rw [decide_eq_true e, Bool.true_or] at q
    exact (if_pos (decide_eq_true (congrArg V.str e))).mpr q
  · rw [decide_eq_false e, Bool.false_or] at q
    exact (if_neg (fun z => e (V.str.inj (of_decide_eq_true z)))).mpr ⟨_, h7, _, h5, k, pa, fs, rfl, rfl, .inl hp, _, rfl, q⟩
section
variable {P : Program} {w : World} {K : PySem.W.Frag} {mg : Str → Option Value} {base : Heap}
theorem ok_row_parts {f : Addr} {fd : FuncData} (D : Def K mg "row_parts" ["many", "one", "other"] sRowParts f fd) (B : Blts mg) (CR : Cal P w K mg base 1 "row_comes" spRowComes) (CS : Cal P w K mg base 1 "sorts_of" spSortsOf) (CP : Cal P w K mg base 1 "spare_in" spSpareIn) :
    Cal P w K mg base 2 "row_parts" (spParts false) := by
  refine cal_of D scRowParts (fun vs H Q EX h => ?_) (fun cdv AA outer s H vs Q EX hr h => ?_)
  · obtain ⟨n, a, b, A, B, rfl, _⟩ := h
    rfl
  · obtain ⟨n, a, b, A, B', rfl, n1, n40, hA, hB, qN, q⟩ := h
    have nd := scRowParts.nd
    refine ⟨_, pss_cons (ps_if (pt_not (pt_val (pe_c CR hr (by decide) (by rfl) (pa_cons (pv 1) (pa_cons (pv 2) pa_nil))))) (pss_one (ps_ret pe_non)) pss_nil)
      (pss_cons (ps_asg (pe_tup (pa_cons (pe_c CS hr (by decide) (by rfl) (pa_cons (pv 0) (pa_cons (pv 1) (pa_cons (pv 2) pa_nil)))) (pa_cons (pe_listRg rfl (by rfl) B.b_list (prg_1 (by rfl) B.b_range (pv 0))) pa_nil)))
        (pg_tup rfl (pgs_cons (pg_name (i := 3) nd rfl (.inr rfl)) (pgs_cons (pg_name (i := 4) nd rfl (.inl rfl)) pgs_nil))))
      (pss_cons (ps_set (i := 5) nd rfl (.inr rfl) (pe_c CP hr (by decide) (by rfl) (pa_cons (pv 3) (pa_cons (pv 4) pa_nil))))
      (pss_cons (ps_setLc (i := 6) (own := [("k", 7)]) (g := gName 7) (by rfl) nd rfl rfl (sw_true rfl rfl rfl (by decide +kernel)) (pi_list (pv 4)) (blkOk_by (N := nRowParts) (sc := defScope sRowParts) (by decide +kernel)) (fun _ _ _ _ _ => pg_name (i := 7) nd rfl (Or.inl rfl))
        (fun _ _ _ _ _ => pts_one (PW.pt (pw_or (pt_cmpR op_eq (pe_ix (r := rIxL K) ix_list (pv 3) (pv 7) (fun _ _ => rfl)) pe_str (nomark _)) (pw_or1 (pt_cmpR op_inI (pv 7) (pv 5) rfl))))) (fun _ _ _ _ _ => pv 7))
      (pss_one (ps_ret (pe_tup (pa_cons (pv 6) (pa_cons (pe_lc (own := [("k", 7)]) (g := gName 7) (by rfl) nd (pi_list (pv 4)) (blkOk_by (N := nRowParts) (sc := defScope sRowParts) (by decide +kernel)) (fun _ _ _ _ _ => pg_name (i := 7) nd rfl (Or.inl rfl))
        (fun _ _ _ _ _ => pts_one (PW.pt (pw_or (pt_cmpR op_eq (pe_ix (r := rIxL K) ix_list (pv 3) (pv 7) (fun _ _ => rfl)) pe_str (nomark _)) (pw_or1 (pt_cmpR op_inI (pv 7) (pv 5) rfl))))) (fun _ _ _ _ _ => pv 7)) pa_nil)))))))), ?_⟩
    -- row_comes
    refine ⟨_, rfl, _, rfl, n, a, b, A, B', rfl, hA, hB, fun H1 c s1 hc => ⟨c, rfl, ?_⟩⟩
    cases c with
    | false => exact iteT (qN H1 s1 (fun z => nomatch hc.mpr z))
    | true =>
      refine iteF ?_
      have hcm : Comes n false A B' := hc.mp rfl
      -- sorts, order
      refine ⟨_, rfl, _, rfl, _, rfl, n, a, b, A, B', rfl, n40, hA.same s1, hB.same s1, fun H2 sa s2 nsa esa => ⟨_, rfl, (n : Int), rfl, RgOk.of_le (by omega) (by omega) (by omega) (by omega), fun oa noa => ⟨by show 2 ≤ sizeLine; decide, fun tp ntp => ?_⟩⟩⟩
      rw [rgV_lamps] at ntp ⊢
      have s3 := s2.trans (same_upd (o := .lst ((lampsL n).map V.int)) noa)
      have nso : sa ≠ oa := ne_of_none esa noa
      have e3 : (upd H2 oa (.lst ((lampsL n).map V.int))) sa = some (.lst (sorts A B' n)) := by rw [upd_ne nso]; exact esa
      have eo3 : (upd H2 oa (.lst ((lampsL n).map V.int))) oa = some (.lst ((lampsL n).map V.int)) := upd_same
      generalize upd H2 oa (.lst ((lampsL n).map V.int)) = H3 at ntp s3 e3 eo3 ⊢
      have s4 := same_upd (o := .tup [.ref sa, .ref oa]) ntp
      refine ⟨tp, _, rfl, SqT.of upd_same, rfl, _, _, rfl, _, _, rfl, rfl, ?_⟩
      have e4 := s4 _ _ e3
      have eo4 := s4 _ _ eo3
      have s14 := (s1.trans s3).trans s4
      generalize upd H3 tp (.tup [.ref sa, .ref oa]) = H4 at s14 e4 eo4 ⊢
      -- spare
      refine ⟨_, rfl, _, rfl, n, sa, oa, A, B', lampsL n, rfl, n40, e4, eo4, lampsL_nodup n, (fun k hk => mem_lampsL.mp hk), by rw [lampsL_len]; omega, fun H5 pa fs s5 npa epa hsp => ?_⟩
      have e5 := s5 _ _ e4
      have eo5 := s5 _ _ eo4
      have s15 := s14.trans s5
      have hsp' : SpareIn A B' (ordL n false 0) fs := by rw [ord_row]; exact hsp
      have hc : ∀ k : Int, 0 ≤ k → k < n → (k ∈ fs ↔ (k ∉ A ∧ k ∉ B') ∧ (nextN (E n false A) (E n false B') k ∨ prevO (E n false A) (E n false B') k)) := fun k k0 k1 => spare_cost hA.2 hB.2 (.inl ⟨rfl, rfl⟩) hsp' k0 k1
      have hsum := parts_sum (L1 := lampsL n) (L2 := lampsL n) hc (List.Perm.refl _) (List.Perm.refl _)
      -- lit
      refine ⟨_, rfl, oa, rfl, ⟨_, SqL.of eo5⟩, fun l1 nl1 => lc_pure (L := lampsL n) (e := V.int) (p := isLit A B' fs) (g := V.int) wl_list (fun H' s => s _ _ eo5)
        (fun k H' Qt hk sm qt => part_test (x := "new") (mem_lampsL.mp hk).1 (mem_lampsL.mp hk).2 rfl rfl rfl (sm _ _ e5) (sm _ _ epa) (qt H' (Same.refl _)))
        (fun k H' Qe hk hp sm qe => ⟨_, rfl, qe H' (Same.refl _)⟩) (by rw [lampsL_len]; omega) nl1 fun H6 s6 el1 => ?_⟩
      -- the pair
      refine ⟨_, rfl, _, rfl, oa, rfl, ⟨_, SqL.of (s6 _ _ eo5)⟩, fun l2 nl2 => lc_pure (L := lampsL n) (e := V.int) (p := isOut A B' fs) (g := V.int) wl_list (fun H' s => s _ _ (s6 _ _ eo5))
        (fun k H' Qt hk sm qt => part_test (x := "old") (mem_lampsL.mp hk).1 (mem_lampsL.mp hk).2 rfl rfl rfl (sm _ _ (s6 _ _ e5)) (sm _ _ (s6 _ _ epa)) (qt H' (Same.refl _)))
        (fun k H' Qe hk hp sm qe => ⟨_, rfl, qe H' (Same.refl _)⟩) (by rw [lampsL_len]; omega) nl2 fun H7 s7 el2 => ⟨by show 2 ≤ sizeLine; decide, fun p np => ?_⟩⟩
      have s8 := same_upd (o := .tup [.ref l1, .ref l2]) np
      refine q _ p l1 l2 _ _ (((s15.trans s6).trans s7).trans s8) upd_same (s8 _ _ (s7 _ _ el1)) (s8 _ _ el2) ⟨hcm.1, hcm.2, ?_⟩
      rw [fm_int, fm_int, List.length_map, List.length_map]
      exact hsum.symm
end
end Wr


/-! ring_parts, row_fewest, ring_fewest -/
namespace Wr
open PySem PySem.Spec L2
theorem cut_from (xs : List V) (b : Nat) (h : b ≤ xs.length) : cutV xs (some (b : Int)) none = xs.drop b := by
  unfold cutV
  rw [show HT.sIx xs.length 0 (some (b : Int)) = min b xs.length from HT.sIx_nat xs.length 0 b, HT.sIx_none, Nat.min_eq_left h]
  exact List.take_of_length_le (by rw [List.length_drop]; omega)
theorem cut_to (xs : List V) (b : Nat) (h : b ≤ xs.length) : cutV xs none (some (b : Int)) = xs.take b := by
  unfold cutV
  rw [show HT.sIx xs.length xs.length (some (b : Int)) = min b xs.length from HT.sIx_nat xs.length xs.length b, HT.sIx_none, Nat.min_eq_left h]
  rfl
section
variable {P : Program} {w : World} {K : PySem.W.Frag} {mg : Str → Option Value} {base : Heap}
theorem ok_ring_parts {f : Addr} {fd : FuncData} (D : Def K mg "ring_parts" ["many", "one", "other"] sRingParts f fd) (B : Blts mg) (CS : Cal P w K mg base 1 "sorts_of" spSortsOf) (CP : Cal P w K mg base 1 "spare_in" spSpareIn) :
    Cal P w K mg base 2 "ring_parts" (spParts true) := by
  refine cal_of D scRingParts (fun vs H Q EX h => ?_) (fun cdv AA outer s H vs Q EX hr h => ?_)
  · obtain ⟨n, a, b, A, B, rfl, _⟩ := h
    rfl
  · obtain ⟨n, a, b, A, B', rfl, n1, n40, hA, hB, qN, q⟩ := h
    have nd := scRingParts.nd
    have hu := hr.units
    refine ⟨_, pss_cons (ps_if (PW.pt (pw_or (pt_cmpR (op_eqD hu) (pv 1) (pe_tup pa_nil) (nomark _)) (pw_or1 (pt_cmpR (op_eqD hu) (pv 2) (pe_tup pa_nil) (nomark _)))))
        (pss_one (ps_ret (pe_ifExp (pt_cmpR (op_eqD hu) (pv 1) (pv 2) (nomark _)) (pe_tup (pa_cons (pe_lst pa_nil) (pa_cons (pe_lst pa_nil) pa_nil))) pe_non))) pss_nil)
      (pss_cons (ps_set (i := 3) nd rfl (.inr rfl) (pe_c CS hr (by decide) (by rfl) (pa_cons (pv 0) (pa_cons (pv 1) (pa_cons (pv 2) pa_nil)))))
      (pss_cons (ps_set (i := 4) nd rfl (.inl rfl) (pe_listRg rfl (by rfl) B.b_list (prg_1 (by rfl) B.b_range (pv 0))))
      (pss_cons (ps_par (i := 5) (j := 6) rfl nd rfl rfl (by decide) rfl rfl (pa_cons (pe_ix ix_tup (pv 1) pe_int (fun _ _ => rfl)) (pa_cons (pe_ix ix_tup (pv 2) pe_int (fun _ _ => rfl)) pa_nil)) (by rfl))
      (pss_cons (ps_par (i := 7) (j := 8) rfl nd rfl rfl (by decide) rfl rfl (pa_cons (pe_op op_cat (pe_slice sl_list (pv 4) (po_some (pv 5)) po_none) (pe_slice sl_list (pv 4) po_none (po_some (pv 5))))
          (pa_cons (pe_op op_cat (pe_slice sl_list (pv 4) (po_some (pv 6)) po_none) (pe_slice sl_list (pv 4) po_none (po_some (pv 6)))) pa_nil)) (by rfl))
      (pss_cons (ps_set (i := 9) nd rfl (.inr rfl) (pe_c CP hr (by decide) (by rfl) (pa_cons (pv 3) (pa_cons (pv 7) pa_nil))))
      (pss_cons (ps_setLc (i := 10) (own := [("k", 11)]) (g := gName 11) (by rfl) nd rfl rfl (sw_true rfl rfl rfl (by decide +kernel)) (pi_list (pv 7)) (blkOk_by (N := nRingParts) (sc := defScope sRingParts) (by decide +kernel)) (fun _ _ _ _ _ => pg_name (i := 11) nd rfl (Or.inl rfl))
        (fun _ _ _ _ _ => pts_one (PW.pt (pw_or (pt_cmpR op_eq (pe_ix (r := rIxL K) ix_list (pv 3) (pv 11) (fun _ _ => rfl)) pe_str (nomark _)) (pw_or1 (pt_cmpR op_inI (pv 11) (pv 9) rfl))))) (fun _ _ _ _ _ => pv 11))
      (pss_one (ps_ret (pe_tup (pa_cons (pv 10) (pa_cons (pe_lc (own := [("k", 11)]) (g := gName 11) (by rfl) nd (pi_list (pv 8)) (blkOk_by (N := nRingParts) (sc := defScope sRingParts) (by decide +kernel)) (fun _ _ _ _ _ => pg_name (i := 11) nd rfl (Or.inl rfl))
        (fun _ _ _ _ _ => pts_one (PW.pt (pw_or (pt_cmpR op_eq (pe_ix (r := rIxL K) ix_list (pv 3) (pv 11) (fun _ _ => rfl)) pe_str (nomark _)) (pw_or1 (pt_cmpR op_inI (pv 11) (pv 9) rfl))))) (fun _ _ _ _ _ => pv 11)) pa_nil))))))))))), ?_⟩
    refine ⟨_, rfl, Nat.zero_le _, fun p np => ?_⟩
    have s1 : Same H (upd H p (.tup [])) := same_upd np
    refine ⟨_, _, dp_t (s1 _ _ hA.1), dp_t (S := []) upd_same, shaped_t _, shaped_t _, _, rfl, ?_⟩
    rw [eqv_t]
    -- the way where one is empty
    have emp : ∀ H' : Hp, Same H H' → (A = [] ∨ B' = []) → tRet (tIf (tTest (tOp (rEqD K) (tVar 1) (tVar 2))) (tTup (tCons (tLst tNil) (tCons (tLst tNil) tNil))) (tC .non)) { nx := fun _ H' => Q .non H', rt := Q } (L2.start nRingParts [.int n, .ref a, .ref b]) H' := fun H' sm he => by
      have iff := comes_nil (ring := true) hA.2 hB.2 he
      refine ⟨_, rfl, _, rfl, _, _, dp_t (sm _ _ hA.1), dp_t (sm _ _ hB.1), shaped_t _, shaped_t _, _, rfl, ?_⟩
      rw [eqv_t]
      refine ite2 (fun e => ?_) (fun e => ?_)
      · have e := of_decide_eq_true e
        refine ⟨Nat.zero_le _, fun l1 n1 => ⟨Nat.zero_le _, fun l2 n2 => ⟨by show 2 ≤ sizeLine; decide, fun t nt => ?_⟩⟩⟩
        have k1 := same_upd (o := .lst []) n1
        have k2 := same_upd (o := .lst []) n2
        have k3 := same_upd (o := .tup [.ref l1, .ref l2]) nt
        refine q _ t l1 l2 [] [] (((sm.trans k1).trans k2).trans k3) upd_same (k3 _ _ (k2 _ _ upd_same)) (k3 _ _ upd_same) ?_
        rw [← e]
        exact dist_self n true A
      · exact qN H' sm fun z => e (decide_eq_true (iff.mp z))
    refine ite2 (fun e => ?_) (fun e => ?_)
    · exact iteT (emp _ s1 (.inl (of_decide_eq_true e)))
    · have hA0 : A ≠ [] := fun z => e (decide_eq_true z)
      refine ⟨_, rfl, Nat.zero_le _, fun p2 np2 => ?_⟩
      have s2 : Same H (upd (upd H p (.tup [])) p2 (.tup [])) := s1.trans (same_upd np2)
      refine ⟨_, _, dp_t (s2 _ _ hB.1), dp_t (S := []) upd_same, shaped_t _, shaped_t _, _, rfl, ?_⟩
      rw [eqv_t]
      refine ite2 (fun e => ?_) (fun e => ?_)
      · exact emp _ s2 (.inr (of_decide_eq_true e))
      · have hB0 : B' ≠ [] := fun z => e (decide_eq_true z)
        generalize upd (upd H p (.tup [])) p2 (.tup []) = H1 at s2 ⊢
        have hcm := comes_ring (by omega) hA.2 hB.2 hA0 hB0
        obtain ⟨a0, al, h1, h2, h3, h4⟩ := ends_of hA0
        obtain ⟨b0, bl, g1, g2, g3, g4⟩ := ends_of hB0
        have ma := List.mem_of_head? h1
        have ba := hA.2.bd a0 ma
        have bb := hB.2.bd b0 (List.mem_of_head? g1)
        obtain ⟨c, rfl⟩ : ∃ c : Nat, a0 = (c : Int) := ⟨a0.toNat, by omega⟩
        obtain ⟨d, rfl⟩ : ∃ d : Nat, b0 = (d : Int) := ⟨b0.toNat, by omega⟩
        have lenL : ((lampsL n).map V.int).length = n := by rw [List.length_map, lampsL_len]
        -- sorts
        refine ⟨_, rfl, _, rfl, _, rfl, n, a, b, A, B', rfl, n40, hA.same s2, hB.same s2, fun H2 sa s3 nsa esa => ?_⟩
        have s12 := s2.trans s3
        -- order
        refine ⟨_, rfl, (n : Int), rfl, RgOk.of_le (by omega) (by omega) (by omega) (by omega), fun oa noa => ?_⟩
        rw [rgV_lamps]
        have k1 := same_upd (o := .lst ((lampsL n).map V.int)) noa
        have e3 := k1 _ _ esa
        have eo3 : (upd H2 oa (.lst ((lampsL n).map V.int))) oa = some (.lst ((lampsL n).map V.int)) := upd_same
        have s13 := s12.trans k1
        generalize upd H2 oa (.lst ((lampsL n).map V.int)) = H3 at e3 eo3 s13 ⊢
        -- begin, end
        refine ⟨_, rfl, a, _, _, _, rfl, rfl, SqT.of (s13 _ _ hA.1), h3, _, rfl, b, _, _, _, rfl, rfl, SqT.of (s13 _ _ hB.1), g3, _, _, rfl, ?_⟩
        -- lights, outs
        refine ⟨_, rfl, _, rfl, _, rfl, oa, _, rfl, SqL.of eo3, fun x1 nx1 => ?_⟩
        rw [cut_from ((lampsL n).map V.int) c (by omega)]
        have k2 := same_upd (o := .lst (((lampsL n).map V.int).drop c)) nx1
        refine ⟨_, rfl, _, rfl, _, rfl, oa, _, rfl, SqL.of (k2 _ _ eo3), fun x2 nx2 => ?_⟩
        rw [cut_to ((lampsL n).map V.int) c (by omega)]
        have k3 := same_upd (o := .lst (((lampsL n).map V.int).take c)) nx2
        refine ⟨x1, x2, _, _, rfl, rfl, k3 _ _ upd_same, upd_same, ?_, fun lg nlg => ?_⟩
        · rw [List.length_drop, List.length_take, lenL, sizeLine_eq]
          omega
        have eL : ((lampsL n).map V.int).drop c ++ ((lampsL n).map V.int).take c = (ordL n true c).map V.int := by
          rw [← List.map_drop, ← List.map_take, ← List.map_append, ord_ring (by omega)]
        rw [eL]
        have k4 := same_upd (o := .lst ((ordL n true c).map V.int)) nlg
        have s14 := ((s13.trans k2).trans k3).trans k4
        have e4 := k4 _ _ (k3 _ _ (k2 _ _ e3))
        have eo4 := k4 _ _ (k3 _ _ (k2 _ _ eo3))
        generalize hH4 : upd (upd (upd H3 x1 (.lst (((lampsL n).map V.int).drop c))) x2 (.lst (((lampsL n).map V.int).take c))) lg (.lst ((ordL n true c).map V.int)) = H4 at s14 e4 eo4 ⊢
        have elg : H4 lg = some (.lst ((ordL n true c).map V.int)) := by rw [← hH4]; exact upd_same
        clear hH4 k4 k3 k2
        refine ⟨_, rfl, _, rfl, _, rfl, oa, _, rfl, SqL.of eo4, fun x3 nx3 => ?_⟩
        rw [cut_from ((lampsL n).map V.int) d (by omega)]
        have k2 := same_upd (o := .lst (((lampsL n).map V.int).drop d)) nx3
        refine ⟨_, rfl, _, rfl, _, rfl, oa, _, rfl, SqL.of (k2 _ _ eo4), fun x4 nx4 => ?_⟩
        rw [cut_to ((lampsL n).map V.int) d (by omega)]
        have k3 := same_upd (o := .lst (((lampsL n).map V.int).take d)) nx4
        refine ⟨x3, x4, _, _, rfl, rfl, k3 _ _ upd_same, upd_same, ?_, fun og nog => ?_⟩
        · rw [List.length_drop, List.length_take, lenL, sizeLine_eq]
          omega
        have eO : ((lampsL n).map V.int).drop d ++ ((lampsL n).map V.int).take d = ((lampsL n).drop d ++ (lampsL n).take d).map V.int := by
          rw [← List.map_drop, ← List.map_take, ← List.map_append]
        rw [eO]
        have pO := cut_perm n d
        have pL : (ordL n true c).Perm (lampsL n) := by rw [← ord_ring (by omega)]; exact cut_perm n c
        generalize (lampsL n).drop d ++ (lampsL n).take d = O at pO ⊢
        have k4 := same_upd (o := .lst (O.map V.int)) nog
        have s15 := ((s14.trans k2).trans k3).trans k4
        have e5 := k4 _ _ (k3 _ _ (k2 _ _ e4))
        have elg5 := k4 _ _ (k3 _ _ (k2 _ _ elg))
        generalize hH5 : upd (upd (upd H4 x3 (.lst (((lampsL n).map V.int).drop d))) x4 (.lst (((lampsL n).map V.int).take d))) og (.lst (O.map V.int)) = H5 at s15 e5 elg5 ⊢
        have eog5 : H5 og = some (.lst (O.map V.int)) := by rw [← hH5]; exact upd_same
        clear hH5 k4 k3 k2
        refine ⟨_, _, rfl, ?_⟩
        -- spare
        have ndL : (ordL n true c).Nodup := pL.nodup_iff.mpr (lampsL_nodup n)
        have mL : ∀ k ∈ ordL n true c, 0 ≤ k ∧ k < (n : Int) := fun k hk => mem_lampsL.mp (pL.mem_iff.mp hk)
        have mO : ∀ k ∈ O, 0 ≤ k ∧ k < (n : Int) := fun k hk => mem_lampsL.mp (pO.mem_iff.mp hk)
        have lL : (ordL n true c).length = n := by rw [pL.length_eq, lampsL_len]
        have lO : O.length = n := by rw [pO.length_eq, lampsL_len]
        refine ⟨_, rfl, _, rfl, n, sa, lg, A, B', ordL n true c, rfl, n40, e5, elg5, ndL, mL, by omega, fun H6 pa fs s6 npa epa hsp => ?_⟩
        have e6 := s6 _ _ e5
        have elg6 := s6 _ _ elg5
        have eog6 := s6 _ _ eog5
        have s16 := s15.trans s6
        have hc : ∀ k : Int, 0 ≤ k → k < n → (k ∈ fs ↔ (k ∉ A ∧ k ∉ B') ∧ (nextN (E n true A) (E n true B') k ∨ prevO (E n true A) (E n true B') k)) := fun k k0 k1 => spare_cost hA.2 hB.2 (.inr ⟨rfl, ma⟩) hsp k0 k1
        have hsum := parts_sum (L1 := ordL n true c) (L2 := O) hc pL pO
        -- lit
        refine ⟨_, rfl, lg, rfl, ⟨_, SqL.of elg6⟩, fun l1 nl1 => lc_pure (L := ordL n true c) (e := V.int) (p := isLit A B' fs) (g := V.int) wl_list (fun H' s => s _ _ elg6)
          (fun k H' Qt hk sm qt => part_test (x := "new") (mL k hk).1 (mL k hk).2 rfl rfl rfl (sm _ _ e6) (sm _ _ epa) (qt H' (Same.refl _)))
          (fun k H' Qe hk hp sm qe => ⟨_, rfl, qe H' (Same.refl _)⟩) (by omega) nl1 fun H7 s7 el1 => ?_⟩
        refine ⟨_, rfl, _, rfl, og, rfl, ⟨_, SqL.of (s7 _ _ eog6)⟩, fun l2 nl2 => lc_pure (L := O) (e := V.int) (p := isOut A B' fs) (g := V.int) wl_list (fun H' s => s _ _ (s7 _ _ eog6))
          (fun k H' Qt hk sm qt => part_test (x := "old") (mO k hk).1 (mO k hk).2 rfl rfl rfl (sm _ _ (s7 _ _ e6)) (sm _ _ (s7 _ _ epa)) (qt H' (Same.refl _)))
          (fun k H' Qe hk hp sm qe => ⟨_, rfl, qe H' (Same.refl _)⟩) (by omega) nl2 fun H8 s8 el2 => ⟨by show 2 ≤ sizeLine; decide, fun p np => ?_⟩⟩
        have s9 := same_upd (o := .tup [.ref l1, .ref l2]) np
        refine q _ p l1 l2 _ _ (((s16.trans s7).trans s8).trans s9) upd_same (s9 _ _ (s8 _ _ el1)) (s9 _ _ el2) ⟨hcm.1, hcm.2, ?_⟩
        rw [fm_int, fm_int, List.length_map, List.length_map]
        exact hsum.symm
theorem ok_row_fewest {f : Addr} {fd : FuncData} (D : Def K mg "row_fewest" ["many", "one", "other"] sRowFewest f fd) (B : Blts mg) (CN : Cal P w K mg base 3 "need_two" spNeedTwo) (CP : Cal P w K mg base 2 "row_parts" (spParts false)) :
    Cal P w K mg base 4 "row_fewest" (spFewest false 1) := by
  refine cal_of D scRowFewest (fun vs H Q EX h => ?_) (fun cdv AA outer s H vs Q EX hr h => ?_)
  · obtain ⟨n, a, b, A, B, rfl, _⟩ := h
    rfl
  · obtain ⟨n, a, b, A, B', rfl, n1, n40, hA, hB, q⟩ := h
    refine ⟨_, pss_cons (ps_expr (pe_c CN hr (by decide) (by rfl) (pa_cons (pv 0) (pa_cons pe_int (pa_cons (pv 1) (pa_cons (pv 2) pa_nil))))))
      (pss_cons (ps_set (i := 3) scRowFewest.nd rfl (.inl rfl) (pe_c CP hr (by decide) (by rfl) (pa_cons (pv 0) (pa_cons (pv 1) (pa_cons (pv 2) pa_nil)))))
      (pss_one (ps_ret (pe_ifExp (pt_cmp (pc_isN (pv 3))) pe_non (pe_op op_add (pe_callB call_len_seq (by rfl) B.b_len PySem.boot_len (pa_cons (pe_ix ix_tup (pv 3) pe_int (fun _ _ => rfl)) pa_nil))
        (pe_callB call_len_seq (by rfl) B.b_len PySem.boot_len (pa_cons (pe_ix ix_tup (pv 3) pe_int (fun _ _ => rfl)) pa_nil))))))), ?_⟩
    refine ⟨_, rfl, _, rfl, _, rfl, n, 1, a, b, A, B', rfl, by omega, n40, hA, hB, fun H1 s1 => ?_⟩
    refine ⟨_, rfl, _, rfl, _, rfl, n, a, b, A, B', rfl, n1, n40, hA.same s1, hB.same s1, fun H2 s2 hn => ?_, fun H2 p l1 l2 xs ys s2 ep e1 e2 hd => ?_⟩
    · exact ⟨_, rfl, true, rfl, iteT (q H2 .non (s1.trans s2) (.inr ⟨fun c hc => hn ⟨hc.f1, hc.f2⟩, rfl⟩))⟩
    · refine ⟨_, rfl, false, rfl, iteF ?_⟩
      refine ⟨_, rfl, p, _, _, .ref l1, rfl, rfl, SqT.of ep, atI_nat (j := 0) rfl, l1, xs, rfl, .inl (SqL.of e1), ?_⟩
      refine ⟨_, rfl, p, _, _, .ref l2, rfl, rfl, SqT.of ep, atI_nat (j := 1) rfl, l2, ys, rfl, .inl (SqL.of e2), _, _, rfl, rfl, q H2 _ (s1.trans s2) (.inl ⟨_, hd, ?_⟩)⟩
      show V.int ((xs.length : Int) + ys.length) = V.int ((xs.length + ys.length : Nat) : Int)
      rw [Int.natCast_add]
theorem ok_ring_fewest {f : Addr} {fd : FuncData} (D : Def K mg "ring_fewest" ["many", "one", "other"] sRingFewest f fd) (B : Blts mg) (CN : Cal P w K mg base 3 "need_two" spNeedTwo) (CP : Cal P w K mg base 2 "ring_parts" (spParts true)) :
    Cal P w K mg base 4 "ring_fewest" (spFewest true 2) := by
  refine cal_of D scRingFewest (fun vs H Q EX h => ?_) (fun cdv AA outer s H vs Q EX hr h => ?_)
  · obtain ⟨n, a, b, A, B, rfl, _⟩ := h
    rfl
  · obtain ⟨n, a, b, A, B', rfl, n1, n40, hA, hB, q⟩ := h
    refine ⟨_, pss_cons (ps_expr (pe_c CN hr (by decide) (by rfl) (pa_cons (pv 0) (pa_cons pe_int (pa_cons (pv 1) (pa_cons (pv 2) pa_nil))))))
      (pss_cons (ps_set (i := 3) scRingFewest.nd rfl (.inl rfl) (pe_c CP hr (by decide) (by rfl) (pa_cons (pv 0) (pa_cons (pv 1) (pa_cons (pv 2) pa_nil)))))
      (pss_one (ps_ret (pe_ifExp (pt_cmp (pc_isN (pv 3))) pe_non (pe_op op_add (pe_callB call_len_seq (by rfl) B.b_len PySem.boot_len (pa_cons (pe_ix ix_tup (pv 3) pe_int (fun _ _ => rfl)) pa_nil))
        (pe_callB call_len_seq (by rfl) B.b_len PySem.boot_len (pa_cons (pe_ix ix_tup (pv 3) pe_int (fun _ _ => rfl)) pa_nil))))))), ?_⟩
    refine ⟨_, rfl, _, rfl, _, rfl, n, 2, a, b, A, B', rfl, by omega, n40, hA, hB, fun H1 s1 => ?_⟩
    refine ⟨_, rfl, _, rfl, _, rfl, n, a, b, A, B', rfl, by omega, n40, hA.same s1, hB.same s1, fun H2 s2 hn => ?_, fun H2 p l1 l2 xs ys s2 ep e1 e2 hd => ?_⟩
    · exact ⟨_, rfl, true, rfl, iteT (q H2 .non (s1.trans s2) (.inr ⟨fun c hc => hn ⟨hc.f1, hc.f2⟩, rfl⟩))⟩
    · refine ⟨_, rfl, false, rfl, iteF ?_⟩
      refine ⟨_, rfl, p, _, _, .ref l1, rfl, rfl, SqT.of ep, atI_nat (j := 0) rfl, l1, xs, rfl, .inl (SqL.of e1), ?_⟩
      refine ⟨_, rfl, p, _, _, .ref l2, rfl, rfl, SqT.of ep, atI_nat (j := 1) rfl, l2, ys, rfl, .inl (SqL.of e2), _, _, rfl, rfl, q H2 _ (s1.trans s2) (.inl ⟨_, hd, ?_⟩)⟩
      show V.int ((xs.length : Int) + ys.length) = V.int ((xs.length + ys.length : Nat) : Int)
      rw [Int.natCast_add]
end
end Wr


/-! _law_taken, _law_pick -/
namespace Wr
open PySem PySem.Spec L2
section
variable {P : Program} {w : World} {K : PySem.W.Frag} {mg : Str → Option Value} {base : Heap}
theorem ok_taken {f : Addr} {fd : FuncData} (D : Def K mg "_law_taken" ["_law_row", "_law_many"] sTaken f fd) (B : Blts mg) : Cal P w K mg base 1 "_law_taken" (spTaken K) := by
  refine cal_of D scTaken (fun vs H Q EX h => ?_) (fun cdv AA outer s H vs Q EX hr h => ?_)
  · obtain ⟨r, sc, ns, m, rfl, _⟩ := h
    rfl
  · obtain ⟨r, sc, ns, m, rfl, ⟨i, sd, c, hR, hS, ne, i0, s0, s1⟩, m1, m2, q⟩ := h
    have nd := scTaken.nd
    refine ⟨_, pss_cons (ps_if (pt_cmpR op_gt (pe_ix ix_list (pv 0) pe_int (fun _ _ => rfl)) pe_int (nomark _))
        (pss_cons (ps_set (i := 2) nd rfl (.inl rfl) (pe_op op_mod (pe_callTy call_int1 (by rfl) B.b_int (by decide +kernel) (pa_cons (pe_ix ix_list (pv 0) pe_int (fun _ _ => rfl)) pa_nil)) (pv 1)))
        (pss_cons (ps_asg (pe_op op_fdiv (pe_ix ix_list (pv 0) pe_int (fun _ _ => rfl)) (pv 1)) (pg_sub (pv 0) pe_int set_list))
        (pss_one (ps_ret (pv 2))))) pss_nil)
      (pss_cons (ps_asg (pe_op op_add (pe_ix ix_list (pv 0) pe_int (fun _ _ => rfl)) pe_int) (pg_sub (pv 0) pe_int set_list))
      (pss_cons (ps_if (pt_cmpR op_gt (pe_ix ix_list (pv 0) pe_int (fun _ _ => rfl)) (pe_callB call_len_seq (by rfl) B.b_len PySem.boot_len (pa_cons (pe_ix ix_list (pv 0) pe_int (fun _ _ => rfl)) pa_nil)) (nomark _))
        (pss_cons (ps_asg (pe_op op_mod (pe_callTy call_int1 (by rfl) B.b_int (by decide +kernel) (pa_cons (pe_op op_add (pe_op op_mul (pe_ix ix_list (pv 0) pe_int (fun _ _ => rfl)) pe_int) pe_int) pa_nil)) pe_int) (pg_sub (pv 0) pe_int set_list))
        (pss_one (ps_ret (pe_op op_mod (pe_callTy call_int1 (by rfl) B.b_int (by decide +kernel) (pa_cons (pe_op op_fdiv (pe_ix ix_list (pv 0) pe_int (fun _ _ => rfl)) pe_int) pa_nil)) (pv 1))))) pss_nil)
      (pss_cons (ps_set (i := 3) nd rfl (.inl rfl) (pe_ix ix_list (pe_ix ix_list (pv 0) pe_int (fun _ _ => rfl)) (pe_op op_sub (pe_ix ix_list (pv 0) pe_int (fun _ _ => rfl)) pe_int) (fun _ _ => rfl)))
      (pss_cons (ps_asg (pe_op op_mod (pe_callTy call_int1 (by rfl) B.b_int (by decide +kernel) (pa_cons (pe_op op_add (pe_op op_add (pe_op op_mul (pe_ix ix_list (pv 0) pe_int (fun _ _ => rfl)) pe_int) (pv 3)) pe_int) pa_nil)) pe_int) (pg_sub (pv 0) pe_int set_list))
      (pss_cons (ps_if (pt_cmpR op_ge (pv 3) (pe_op op_pow pe_int pe_int) (nomark _)) (pss_one (ps_asg (pe_op op_fdiv (pv 3) (pv 1)) (pg_sub (pv 0) pe_int set_list))) pss_nil)
      (pss_one (ps_ret (pe_op op_mod (pe_callTy call_int1 (by rfl) B.b_int (by decide +kernel) (pa_cons (pv 3) pa_nil)) (pv 1))))))))), ?_⟩
    refine ⟨_, rfl, r, _, _, .int c, rfl, rfl, SqL.of hR, atI_nat (j := 3) rfl, _, _, rfl, rfl, _, rfl, ite2 (fun e => ?_) (fun e => ?_)⟩
    · -- the rest of a great cell
      have hm : 0 < m := by omega
      refine ⟨_, rfl, r, _, _, .int c, rfl, rfl, SqL.of hR, atI_nat (j := 3) rfl, .inl ⟨_, rfl, _, rfl, _, _, rfl, rfl, hm, ?_⟩⟩
      refine ⟨_, rfl, r, _, _, .int c, rfl, rfl, SqL.of hR, atI_nat (j := 3) rfl, _, rfl, _, _, rfl, rfl, ⟨hm, by omega⟩, _, rfl, r, _, _, 3, rfl, rfl, hR, rfl, ?_⟩
      exact ⟨_, rfl, q _ _ sameBut_upd ⟨i, sd, c / m, upd_same, (sameBut_upd (r := r)).seq ne hS, ne, i0, s0, s1⟩ (Int.emod_nonneg _ (by omega)) (Int.emod_lt_of_pos _ hm)⟩
    · refine ⟨_, rfl, r, _, _, .int i, rfl, rfl, SqL.of hR, atI_nat (j := 1) rfl, _, _, rfl, rfl, _, rfl, r, _, _, 1, rfl, rfl, hR, rfl, ?_⟩
      have hR1 : upd H r (.lst [.ref sc, .int (i + 1), .int sd, .int c]) r = some (.lst [.ref sc, .int (i + 1), .int sd, .int c]) := upd_same
      have hS1 : SqL K (upd H r (.lst [.ref sc, .int (i + 1), .int sd, .int c])) sc (ns.map V.int) := (sameBut_upd (r := r)).seq ne hS
      refine ⟨_, rfl, r, _, _, .int (i + 1), rfl, rfl, SqL.of hR1, atI_nat (j := 1) rfl, ?_⟩
      refine ⟨_, rfl, r, _, _, .ref sc, rfl, rfl, SqL.of hR1, atI_nat (j := 0) rfl, _, _, rfl, .inl hS1, _, _, rfl, rfl, _, rfl, ite2 (fun e => ?_) (fun e => ?_)⟩
      · -- behind the script
        refine ⟨_, rfl, r, _, _, .int sd, rfl, rfl, SqL.of hR1, atI_nat (j := 2) rfl, _, _, rfl, rfl, .inl ⟨by omega, by omega⟩, _, _, rfl, rfl, .inl ⟨_, rfl, _, _, rfl, rfl, by omega, _, rfl, r, _, _, 2, rfl, rfl, hR1, rfl, ?_⟩⟩
        have hR2 : upd (upd H r (.lst [.ref sc, .int (i + 1), .int sd, .int c])) r (.lst [.ref sc, .int (i + 1), .int ((sd * 48271 + 11) % 2147483647), .int c]) r = some (.lst [.ref sc, .int (i + 1), .int ((sd * 48271 + 11) % 2147483647), .int c]) := upd_same
        refine ⟨_, rfl, r, _, _, .int ((sd * 48271 + 11) % 2147483647), rfl, rfl, SqL.of hR2, atI_nat (j := 2) rfl, _, _, rfl, rfl, ⟨by omega, by omega⟩, .inl ⟨_, rfl, _, rfl, _, _, rfl, rfl, by omega, ?_⟩⟩
        exact q _ _ (sameBut_upd.trans sameBut_upd) ⟨i + 1, _, c, hR2, (sameBut_upd (r := r)).seq ne hS1, ne, by omega, Int.emod_nonneg _ (by decide), Int.emod_lt_of_pos _ (by decide)⟩ (Int.emod_nonneg _ (by omega)) (Int.emod_lt_of_pos _ (by omega))
      · have hle : i.toNat < ns.length := by
          rw [List.length_map] at e
          have e' : ¬ ((ns.length : Int) < i + 1) := fun z => e (decide_eq_true z)
          omega
        refine ⟨_, rfl, r, _, _, .ref sc, rfl, rfl, SqL.of hR1, atI_nat (j := 0) rfl, _, rfl, r, _, _, .int (i + 1), rfl, rfl, SqL.of hR1, atI_nat (j := 1) rfl, _, _, rfl, rfl, sc, _, _, .int (ns[i.toNat]'hle), rfl, rfl, hS1, ?_, ?_⟩
        · rw [show i + 1 - 1 = ((i.toNat : Nat) : Int) by omega]
          exact atI_nat (by rw [List.getElem?_map, List.getElem?_eq_getElem hle]; rfl)
        · generalize ns[i.toNat]'hle = cell
          refine ⟨_, rfl, r, _, _, .int sd, rfl, rfl, SqL.of hR1, atI_nat (j := 2) rfl, _, _, rfl, rfl, .inl ⟨by omega, by omega⟩, _, rfl, _, _, rfl, rfl, _, _, rfl, rfl, .inl ⟨_, rfl, _, _, rfl, rfl, by omega, _, rfl, r, _, _, 2, rfl, rfl, hR1, rfl, ?_⟩⟩
          have hR2 : upd (upd H r (.lst [.ref sc, .int (i + 1), .int sd, .int c])) r (.lst [.ref sc, .int (i + 1), .int ((sd * 48271 + cell + 11) % 2147483647), .int c]) r = some (.lst [.ref sc, .int (i + 1), .int ((sd * 48271 + cell + 11) % 2147483647), .int c]) := upd_same
          have hS2 : SqL K (upd (upd H r (.lst [.ref sc, .int (i + 1), .int sd, .int c])) r (.lst [.ref sc, .int (i + 1), .int ((sd * 48271 + cell + 11) % 2147483647), .int c])) sc (ns.map V.int) := (sameBut_upd (r := r)).seq ne hS1
          refine ⟨_, rfl, _, _, rfl, rfl, ⟨by decide, by decide, by decide⟩, _, _, rfl, rfl, _, rfl, ite2 (fun e2 => ?_) (fun e2 => ?_)⟩
          · refine ⟨_, rfl, _, rfl, _, _, rfl, rfl, ⟨by omega, by omega⟩, _, rfl, r, _, _, 3, rfl, rfl, hR2, rfl, _, rfl, .inl ⟨_, rfl, _, rfl, _, _, rfl, rfl, by omega, ?_⟩⟩
            exact q _ _ ((sameBut_upd.trans sameBut_upd).trans sameBut_upd) ⟨i + 1, _, cell / m, upd_same, (sameBut_upd (r := r)).seq ne hS2, ne, by omega, Int.emod_nonneg _ (by decide), Int.emod_lt_of_pos _ (by decide)⟩ (Int.emod_nonneg _ (by omega)) (Int.emod_lt_of_pos _ (by omega))
          · refine ⟨_, rfl, .inl ⟨_, rfl, _, rfl, _, _, rfl, rfl, by omega, ?_⟩⟩
            exact q _ _ (sameBut_upd.trans sameBut_upd) ⟨i + 1, _, c, hR2, hS2, ne, by omega, Int.emod_nonneg _ (by decide), Int.emod_lt_of_pos _ (by decide)⟩ (Int.emod_nonneg _ (by omega)) (Int.emod_lt_of_pos _ (by omega))
theorem ok_pick {f : Addr} {fd : FuncData} (D : Def K mg "_law_pick" ["_law_row", "_law_things"] sPick f fd) (B : Blts mg) (CT : Cal P w K mg base 1 "_law_taken" (spTaken K)) : Cal P w K mg base 2 "_law_pick" (spPick K) := by
  refine cal_of D scPick (fun vs H Q EX h => ?_) (fun cdv AA outer s H vs Q EX hr h => ?_)
  · obtain ⟨r, sc, t, ns, xs, rfl, _⟩ := h
    rfl
  · obtain ⟨r, sc, t, ns, xs, rfl, hR, ne, ht, l1, l2, q⟩ := h
    refine ⟨_, pss_one (ps_ret (pe_ix ix_list (pv 1) (pe_c CT hr (by decide) (by rfl) (pa_cons (pv 0) (pa_cons (pe_callB call_len_seq (by rfl) B.b_len PySem.boot_len (pa_cons (pv 1) pa_nil)) pa_nil))) (fun _ _ => rfl))), ?_⟩
    refine ⟨_, rfl, _, rfl, _, rfl, _, _, rfl, .inl (SqL.of ht), r, sc, ns, _, rfl, hR, by omega, by omega, fun H' v sb hR' v0 vm => ?_⟩
    have hv : v.toNat < xs.length := by omega
    refine ⟨t, xs, v, xs[v.toNat]'hv, rfl, rfl, SqL.of (sb _ _ ne ht), ?_, q _ _ sb hR' (List.getElem_mem hv)⟩
    have e : ((v.toNat : Nat) : Int) = v := by omega
    have e2 := atI_nat (List.getElem?_eq_getElem hv)
    rw [e] at e2
    exact e2
theorem ok_row_burning {f : Addr} {fd : FuncData} (D : Def K mg "_law_row_burning" ["_law_row", "_law_many"] sRowBurning f fd) (B : Blts mg) (CT : Cal P w K mg base 1 "_law_taken" (spTaken K)) (CP : Cal P w K mg base 2 "_law_pick" (spPick K)) : Cal P w K mg base 3 "_law_row_burning" (spRowBurning K) := by
  refine cal_of D scRowBurning (fun vs H Q EX h => ?_) (fun cdv AA outer s H vs Q EX hr h => ?_)
  · obtain ⟨r, sc, ns, n, rfl, _⟩ := h
    rfl
  · obtain ⟨r, sc, ns, n, rfl, hR, n1, n40, q⟩ := h
    have nd := scRowBurning.nd
    refine ⟨_, pss_cons (ps_set (i := 2) nd rfl (.inr rfl) (pe_c CP hr (by decide) (by rfl) (pa_cons (pv 0) (pa_cons (pe_lst (pa_cons pe_int (pa_cons pe_int (pa_cons pe_int pa_nil)))) pa_nil))))
      (pss_one (ps_ret (pe_callTy call_tuple_of (by rfl) B.b_tuple (by decide +kernel) (pa_cons (pe_lc (own := [("_law_k", 3)]) (g := gName 3) (by rfl) nd (pi_range1 (by rfl) B.b_range (pa_cons (pv 1) pa_nil)) (blkOk_by (N := nRowBurning) (sc := defScope sRowBurning) (by decide +kernel)) (fun _ _ _ _ _ => pg_name (i := 3) nd rfl (Or.inl rfl))
        (fun _ _ _ _ _ => pts_one (pt_cmpR op_eq (pe_c CT hr (by decide) (by rfl) (pa_cons (pv 0) (pa_cons (pv 2) pa_nil))) pe_int (nomark _))) (fun _ _ _ _ _ => pv 3)) pa_nil)))), ?_⟩
    refine ⟨_, rfl, by show 3 ≤ sizeLine; decide, fun t nt => ?_⟩
    have s1 := same_upd (o := .lst [.int 2, .int 3, .int 8]) nt
    have et : (upd H t (.lst [.int 2, .int 3, .int 8])) t = some (.lst [.int 2, .int 3, .int 8]) := upd_same
    have hR1 := hR.same s1
    have ne : t ≠ r := fun e => by
      obtain ⟨i, sd, c, h1, _⟩ := hR
      rw [e, h1] at nt
      cases nt
    generalize upd H t (.lst [.int 2, .int 3, .int 8]) = H1 at s1 et hR1 ⊢
    refine ⟨r, sc, t, ns, _, rfl, hR1, ne, et, by decide, by decide, fun H2 x s2 hR2 hx => ?_⟩
    have hx' : ∃ m : Int, x = .int m ∧ 1 ≤ m ∧ m ≤ 1000000 := by
      simp only [List.mem_cons, List.not_mem_nil, or_false] at hx
      rcases hx with rfl | rfl | rfl
      · exact ⟨2, rfl, by decide, by decide⟩
      · exact ⟨3, rfl, by decide, by decide⟩
      · exact ⟨8, rfl, by decide, by decide⟩
    obtain ⟨m, rfl, m1, m2⟩ := hx'
    refine ⟨_, rfl, (n : Int), rfl, by omega, by omega, fun D nD => ?_⟩
    have nDr : D ≠ r := fun e => by
      obtain ⟨i, sd, c, h1, _⟩ := hR2
      rw [e, h1] at nD
      cases nD
    refine lc_it (n := ((n : Int)).toNat) walk_range (g := gName 3) (vs := [3]) (fun i H' => ∃ S : List Int, SameBut r H2 H' ∧ RowAt K H' r sc ns ∧ H' D = some (.lst (S.map V.int)) ∧ S.length ≤ i ∧ S.Pairwise (· < ·) ∧ ∀ x ∈ S, 0 ≤ x ∧ x < (i : Int)) ⟨[], Same.but (same_upd nD) r, hR2.same (same_upd nD), upd_same, Nat.le_refl _, List.Pairwise.nil, fun x h => nomatch h⟩ (fun _ _ _ _ => trivial) ?_ ?_
    · rintro i x H3 H4 hi ⟨S, sb, hR3, hD, hl, pw, bd⟩ ⟨rfl, rfl⟩
      refine ⟨rfl, _, rfl, _, rfl, r, sc, ns, m, rfl, hR3, m1, m2, fun H5 v sb5 hR5 v0 vm => ⟨rfl, _, rfl, ?_⟩⟩
      have eD := sb5 _ _ nDr hD
      show if decide (V.int v = V.int 0) = true then _ else _
      by_cases e : v = 0
      · rw [e, if_pos (decide_eq_true rfl)]
        have sbD : SameBut r H2 (upd H5 D (.lst (S.map V.int ++ [.int (0 + (i : Int))]))) := fun b o nb hb => by
          rw [upd_ne (ne_of_none hb nD)]
          exact sb5 _ _ nb (sb _ _ nb hb)
        refine ⟨_, rfl, _, eD, by rw [List.length_map]; exact small1000 (by omega), S ++ [0 + (i : Int)], sbD, ?_, ?_, ?_, ?_, ?_⟩
        · obtain ⟨i5, sd5, c5, h51, h52, h53⟩ := hR5
          obtain ⟨i2, sd2, c2, h21, h22, h23⟩ := hR2
          exact ⟨i5, sd5, c5, by rw [upd_ne (Ne.symm nDr)]; exact h51, sbD.seq h23.1 h22, h53⟩
        · rw [upd_same, List.map_append]
          rfl
        · rw [List.length_append]
          exact Nat.succ_le_succ hl
        · refine List.pairwise_append.mpr ⟨pw, List.pairwise_singleton _ _, fun a ha b hb => ?_⟩
          have := bd a ha
          rw [List.mem_singleton.mp hb]
          omega
        · intro a ha
          rcases List.mem_append.mp ha with h | h
          · have := bd a h
            omega
          · rw [List.mem_singleton.mp h]
            omega
      · rw [if_neg (fun z => e (V.int.inj (of_decide_eq_true z)))]
        exact ⟨S, sb.trans sb5, hR5, eD, by omega, pw, fun a ha => by have := bd a ha; omega⟩
    · rintro H3 ⟨S, sb, hR3, hD, hl, pw, bd⟩
      refine ⟨_, _, rfl, .inl ⟨SqL.of hD, fun l nl => ?_⟩⟩
      have bd' : ∀ x ∈ S, 0 ≤ x ∧ x < (n : Int) := fun x hx => by have := bd x hx; omega
      exact q _ l S ((((Same.but s1 r).trans s2).trans sb).trans (Same.but (same_upd nl) r)) (hR3.same (same_upd nl)) ⟨upd_same, ⟨pw, bd'⟩⟩
end
end Wr


/-! Lists and tuples of tuples of ints as data; the web's arrows. -/
namespace Wr
open PySem PySem.Spec L2
def dTs (Ls : List (List Int)) : List PyData := Ls.map fun S => PyData.tuple (dI S)
theorem dTs_lay : ∀ Ls : List (List Int), PyData.canLayAll0 (dTs Ls) = true
  | [] => by simp [dTs, PyData.canLayAll0]
  | S :: Ls => by
    have h := dTs_lay Ls
    have h2 := dI_lay S
    unfold dTs at h ⊢
    simp [PyData.canLayAll0, PyData.canLay0, h, h2]
theorem dTs_depth : ∀ Ls : List (List Int), PyData.depthAll (dTs Ls) ≤ 2
  | [] => by simp [dTs, PyData.depthAll]
  | S :: Ls => by
    have h := dTs_depth Ls
    have h2 := dI_depth S
    unfold dTs at h ⊢
    simp only [List.map_cons, PyData.depthAll, PyData.depth]
    omega
theorem shaped_tt (Ls : List (List Int)) : SeqAt.shaped (.tuple (dTs Ls)) = true := by
  have h := dTs_depth Ls
  refine shaped_of (by simp only [PyData.canLay0]; exact dTs_lay Ls) ?_
  simp only [PyData.depth]
  omega
theorem shaped_lt (Ls : List (List Int)) : SeqAt.shaped (.list (dTs Ls)) = true := by
  have h := dTs_depth Ls
  refine shaped_of (by simp only [PyData.canLay0]; exact dTs_lay Ls) ?_
  simp only [PyData.depth]
  omega
theorem eqvAll_dTs : ∀ S T : List (List Int), PyData.eqvAll (dTs S) (dTs T) = decide (S = T)
  | [], [] => by simp [dTs, PyData.eqvAll]
  | [], y :: T => by simp [dTs, PyData.eqvAll]
  | x :: S, [] => by simp [dTs, PyData.eqvAll]
  | x :: S, y :: T => by
    have h := eqvAll_dTs S T
    have h2 := eqv_t x y
    unfold dTs at h ⊢
    simp only [List.map_cons, PyData.eqvAll]
    rw [h, h2]
    by_cases e : x = y <;> by_cases e2 : S = T <;> simp [e, e2]
theorem eqv_lt (S T : List (List Int)) : PyData.eqv (.list (dTs S)) (.list (dTs T)) = decide (S = T) := by
  simp only [PyData.eqv]
  exact eqvAll_dTs S T
theorem any_dTs (T : List Int) : ∀ Ls : List (List Int), ((dTs Ls).any fun z => PyData.eqv z (.tuple (dI T))) = decide (T ∈ Ls)
  | [] => by simp [dTs]
  | S :: Ls => by
    have h := any_dTs T Ls
    unfold dTs at h ⊢
    rw [List.map_cons, List.any_cons, h, eqv_t]
    by_cases e : S = T
    · subst e; simp
    · have : ¬ T = S := fun z => e z.symm
      by_cases m : T ∈ Ls <;> simp [e, m, this]
section
variable {K : PySem.W.Frag} {H : Hp}
theorem dpTs {α : Type} (g : α → Addr) (t : α → List Int) : ∀ L : List α, (∀ z ∈ L, H (g z) = some (.tup ((t z).map V.int))) → DpAll K H (L.map fun z => V.ref (g z)) (dTs (L.map t))
  | [], _ => .nil
  | z :: L, h => .cons (dp_t (h z (List.mem_cons_self ..))) (dpTs g t L fun y hy => h y (List.mem_cons_of_mem _ hy))
end
/-- (i, j) is one of the arrows -/
def arrB (ar : List (Addr × Int × Int)) (i j : Int) : Bool := (dTs (ar.map fun z => [z.2.1, z.2.2])).any fun z => PyData.eqv z (.tuple (dI [i, j]))
theorem arrB_iff {n : Nat} {ring : Bool} {ar : List (Addr × Int × Int)} (h : ∀ i j, (∃ z ∈ ar, z.2 = (i, j)) ↔ Arrow n ring i j) (i j : Int) : arrB ar i j = true ↔ Arrow n ring i j := by
  unfold arrB
  rw [any_dTs, decide_eq_true_eq, ← h, List.mem_map]
  constructor
  · rintro ⟨z, hz, e⟩
    refine ⟨z, hz, ?_⟩
    simp only [List.cons.injEq, and_true] at e
    obtain ⟨e1, e2⟩ := e
    exact Prod.ext e1 e2
  · rintro ⟨z, hz, e⟩
    exact ⟨z, hz, by rw [e]⟩
theorem neg1_mod {n : Nat} (h : 1 ≤ n) : ((-1 : Int)) % (n : Int) = (n : Int) - 1 := by
  have e : (-1 : Int) = ((n : Int) - 1) + (n : Int) * (-1) := by omega
  rw [e, Int.add_mul_emod_self_left]
  exact Int.emod_eq_of_lt (by omega) (by omega)
theorem arr_light {n : Nat} {ring : Bool} {S : List Int} (hS : Stand n S) (n1 : 1 ≤ n) {k : Int} (k0 : 0 ≤ k) (k1 : k < n) : (∃ i ∈ S, Arrow n ring i k) ↔ E n ring S (k - 1) := by
  unfold E
  constructor
  · rintro ⟨i, hi, h⟩
    have hb := hS.bd i hi
    rcases h with ⟨h0, e, h1⟩ | ⟨hr, e1, e2⟩
    · rw [show k - 1 = i by omega, wr_id hb.1 hb.2]
      exact hi
    · subst hr
      subst e2
      show (0 - 1 : Int) % (n : Int) ∈ S
      rw [show (0 - 1 : Int) = -1 by decide, neg1_mod n1, ← e1]
      exact hi
  · intro h
    cases ring with
    | false =>
      have h' : k - 1 ∈ S := h
      have hb := hS.bd _ h'
      exact ⟨k - 1, h', .inl ⟨hb.1, by omega, k1⟩⟩
    | true =>
      have h' : (k - 1) % (n : Int) ∈ S := h
      by_cases e : k = 0
      · subst e
        rw [show (0 - 1 : Int) = -1 by decide, neg1_mod n1] at h'
        exact ⟨_, h', .inr ⟨rfl, rfl, rfl⟩⟩
      · rw [Int.emod_eq_of_lt (by omega) (by omega)] at h'
        exact ⟨_, h', .inl ⟨by omega, by omega, k1⟩⟩
theorem arr_quench {n : Nat} {ring : Bool} {S : List Int} (hS : Stand n S) (n1 : 1 ≤ n) {k : Int} (k0 : 0 ≤ k) (k1 : k < n) : (∃ i ∈ S, Arrow n ring k i) ↔ E n ring S (k + 1) := by
  unfold E
  constructor
  · rintro ⟨i, hi, h⟩
    have hb := hS.bd i hi
    rcases h with ⟨h0, e, h1⟩ | ⟨hr, e1, e2⟩
    · rw [← e, wr_id hb.1 hb.2]
      exact hi
    · subst hr
      subst e2
      show (k + 1) % (n : Int) ∈ S
      rw [show k + 1 = (n : Int) by omega, Int.emod_self]
      exact hi
  · intro h
    cases ring with
    | false =>
      have h' : k + 1 ∈ S := h
      have hb := hS.bd _ h'
      exact ⟨k + 1, h', .inl ⟨k0, rfl, hb.2⟩⟩
    | true =>
      have h' : (k + 1) % (n : Int) ∈ S := h
      by_cases e : k = (n : Int) - 1
      · rw [show k + 1 = (n : Int) by omega, Int.emod_self] at h'
        exact ⟨_, h', .inr ⟨rfl, e, rfl⟩⟩
      · rw [Int.emod_eq_of_lt (by omega) (by omega)] at h'
        exact ⟨_, h', .inl ⟨k0, rfl, by omega⟩⟩
end Wr


/-! _law_changed, _law_light, _law_quench -/
namespace Wr
open PySem PySem.Spec L2
section
variable {P : Program} {w : World} {K : PySem.W.Frag} {mg : Str → Option Value} {base : Heap}
theorem asc_of_le : ∀ {L : List Int}, L.Pairwise (· ≤ ·) → L.Nodup → L.Pairwise (· < ·)
  | [], _, _ => List.Pairwise.nil
  | x :: L, h, n => by
    have h1 := List.pairwise_cons.mp h
    have n1 := List.nodup_cons.mp n
    refine List.pairwise_cons.mpr ⟨fun y hy => ?_, asc_of_le h1.2 n1.2⟩
    have := h1.1 y hy
    have ne : x ≠ y := fun e => n1.1 (e ▸ hy)
    omega
theorem asc_nodup {L : List Int} (h : L.Pairwise (· < ·)) : L.Nodup := h.imp fun {a b} l e => by omega
theorem stand_len {n : Nat} {S : List Int} (h : Stand n S) : S.length ≤ n := by
  have e : S = pick n fun x => decide (x ∈ S) := h.ext (pick_stand _ _) fun x => by
    rw [mem_pick, decide_eq_true_eq]
    exact ⟨fun hx => ⟨h.bd x hx, hx⟩, fun hx => hx.2⟩
  rw [e]
  refine Nat.le_trans (List.length_filter_le _ _) ?_
  rw [List.length_map, List.length_range]
  exact Nat.le_refl _
theorem pi_tupK {X : Cx} {tg l : Expr} {tl : TE} (Kx : PySem.W.Frag) (e : X.K = Kx) (hl : PE X l tl) : PI X tg l (iTup Kx tl) := by
  subst e
  exact pi_tup hl
theorem pi_listK {X : Cx} {tg l : Expr} {tl : TE} (Kx : PySem.W.Frag) (e : X.K = Kx) (hl : PE X l tl) : PI X tg l (iList Kx tl) := by
  subst e
  exact pi_list hl
theorem ok_changed {f : Addr} {fd : FuncData} (D : Def K mg "_law_changed" ["_law_burning", "_law_lamp"] sChanged f fd) (B : Blts mg) : Cal P w K mg base 1 "_law_changed" spChanged := by
  refine cal_of D scChanged (fun vs H Q EX h => ?_) (fun cdv AA outer s H vs Q EX hr h => ?_)
  · obtain ⟨n, a, S, k, rfl, _⟩ := h
    rfl
  · obtain ⟨n, a, S, k, rfl, n40, hS, k0, k1, q⟩ := h
    have nd := scChanged.nd
    refine ⟨_, pss_cons (ps_if (pt_cmpR op_inI (pv 1) (pv 0) rfl)
        (pss_one (ps_ret (pe_callTy call_tuple_of (by rfl) B.b_tuple (by decide +kernel) (pa_cons (pe_lc (own := [("_law_k", 2)]) (g := gName 2) (by rfl) nd (pi_tup (pv 0)) (blkOk_by (N := nChanged) (sc := defScope sChanged) (by decide +kernel)) (fun _ _ _ _ _ => pg_name (i := 2) nd rfl (Or.inl rfl))
          (fun _ _ _ _ _ => pts_one (pt_cmpR op_ne (pv 2) (pv 1) (nomark _))) (fun _ _ _ _ _ => pv 2)) pa_nil)))) pss_nil)
      (pss_one (ps_ret (pe_callTy call_tuple_of (by rfl) B.b_tuple (by decide +kernel) (pa_cons (pe_callB cr_sorted (by rfl) B.b_sorted (by decide +kernel) (pa_cons (pe_op op_cat (pe_callTy call_list_of (by rfl) B.b_list (by decide +kernel) (pa_cons (pv 0) pa_nil)) (pe_lst (pa_cons (pv 1) pa_nil))) pa_nil)) pa_nil)))), ?_⟩
    have hl := stand_len hS.2
    refine ⟨_, rfl, _, rfl, k, a, S, rfl, rfl, .inr hS.1, _, rfl, ite2 (fun e => ?_) (fun e => ?_)⟩
    · have hk : k ∈ S := of_decide_eq_true e
      refine ⟨_, rfl, a, rfl, ⟨_, SqT.of hS.1⟩, fun D nD => lc_pure (L := S) (e := V.int) (p := fun x => !decide (V.int x = V.int k)) (g := V.int) wl_tup (fun H' s => s _ _ hS.1)
        (fun x H' Qt hx sm qt => ⟨_, rfl, _, rfl, rfl, _, rfl, qt H' (Same.refl _)⟩) (fun x H' Qe hx hp sm qe => ⟨_, rfl, qe H' (Same.refl _)⟩) (by omega) nD fun H1 s1 el => ⟨D, _, rfl, .inl ⟨SqL.of el, fun t nt => ?_⟩⟩⟩
      have mem : ∀ x, x ∈ S.filter (fun x => !decide (V.int x = V.int k)) ↔ x ∈ S ∧ x ≠ k := fun x => by
        rw [List.mem_filter]
        refine and_congr_right fun _ => ?_
        rw [Bool.not_eq_true', decide_eq_false_iff_not]
        exact ⟨fun h e => h (congrArg V.int e), fun h e => h (V.int.inj e)⟩
      refine q _ t (S.filter fun x => !decide (V.int x = V.int k)) (s1.trans (same_upd nt)) ⟨upd_same, hS.2.asc.filter _, fun x hx => hS.2.bd x ((mem x).mp hx).1⟩ fun x => ?_
      rw [mem]
      constructor
      · exact .inl
      · rintro (h | ⟨h1, h2⟩)
        · exact h
        · exact (h1 (h2 ▸ hk)).elim
    · have hk : k ∉ S := fun z => e (decide_eq_true z)
      refine ⟨_, rfl, a, _, rfl, .inr (SqT.of hS.1), fun l nl => ⟨_, rfl, (by show 1 ≤ sizeLine; decide), fun m nm => ⟨l, m, _, _, rfl, rfl, (same_upd nm) _ _ upd_same, upd_same, ?_, fun c nc => ?_⟩⟩⟩
      · rw [List.length_map]
        exact Nat.le_of_lt (small1000 (by show S.length + 1 ≤ 1000; omega))
      · refine ⟨c, S ++ [k], rfl, ?_, by rw [List.length_append]; show S.length + 1 < 64; omega, fun ns' p pm pw np => ⟨p, _, rfl, .inl ⟨SqL.of upd_same, fun t nt => ?_⟩⟩⟩
        · rw [List.map_append]
          exact SqL.of upd_same
        · have mem : ∀ x, x ∈ ns' ↔ x ∈ S ∨ x = k := fun x => by
            rw [pm.mem_iff, List.mem_append, List.mem_singleton]
          have ndp : ns'.Nodup := pm.nodup_iff.mpr (List.nodup_append.mpr ⟨asc_nodup hS.2.asc, List.nodup_cons.mpr ⟨(fun z => nomatch z), List.nodup_nil⟩, fun x hx y hy e => hk (by rw [← List.mem_singleton.mp hy, ← e]; exact hx)⟩)
          refine q _ t ns' ((((same_upd nl).trans (same_upd nm)).trans (same_upd nc)).trans ((same_upd np).trans (same_upd nt))) ⟨upd_same, asc_of_le pw ndp, fun x hx => ?_⟩ fun x => ?_
          · rcases (mem x).mp hx with h | h
            · exact hS.2.bd x h
            · rw [h]; exact ⟨k0, k1⟩
          · rw [mem]
            constructor
            · rintro (h | h)
              · exact .inl ⟨h, fun e => hk (e ▸ h)⟩
              · exact .inr ⟨fun z => hk (h ▸ z), h⟩
            · rintro (h | h)
              · exact .inl h.1
              · exact .inr h.2
/-- the scope of the comprehension that a def gives back -/
def retScope : Stmt → Scope
  | .FunctionDef _ _ [.Return (some (.ListComp _ _ sc _)) _] _ _ _ _ _ _ _ => sc
  | st => defScope st
abbrev oLight : Scope := retScope sLight
abbrev oQuench : Scope := retScope sQuench
theorem ok_light {f : Addr} {fd : FuncData} (D : Def K mg "_law_light" ["_law_web", "_law_burning"] sLight f fd) (B : Blts mg) : Cal P w K mg base 1 "_law_light" (spCan CanL) := by
  refine cal_of D scLight (fun vs H Q EX h => ?_) (fun cdv AA outer s H vs Q EX hr h => ?_)
  · obtain ⟨n, ring, wb, a, S, rfl, _⟩ := h
    rfl
  · obtain ⟨n, ring, wb, a, S, rfl, n1, n40, hW, hS, q⟩ := h
    have nd := scLight.nd
    have hu := hr.units
    have hu5 := hr.un
    replace hu5 : (AA.deeper (PyProof.Rows.envOfC "_law_light" (defScope sLight) s.heap.objs.size f cdv)).units + 65 < cLine := by omega
    refine ⟨_, pss_one (ps_ret (pe_lc (own := [("_law_k", 2)]) (g := gName 2) (by rfl) nd (pi_range1 (by rfl) B.b_range (pa_cons (pe_ix (r := rIxT K) ix_tup (pv 0) pe_int (fun _ _ => rfl)) pa_nil)) (blkOk_by (N := nLight) (sc := defScope sLight) (by decide +kernel)) (fun _ _ _ _ _ => pg_name (i := 2) nd rfl (Or.inr rfl))
          (fun _ _ _ _ _ => pts_one (PW.pt (pw_and (pt_cmpR op_notInI (pv 2) (pv 1) rfl) (pw_and1 (pt_cmpR (r := rNeD K) (op_neD hu) (pe_lc (own := [("_law_one", 3)]) (g := gName 3) (by rfl) nd (pi_tupK K rfl (pv 1)) (blkOk_by (N := nLight) (sc := relS oLight (defScope sLight)) (by decide +kernel)) (fun _ _ _ _ _ => pg_name (i := 3) nd rfl (Or.inl rfl))
            (fun _ _ _ _ _ => pts_one (pt_cmpR (r := rInDT K) (op_inDT hu5) (pe_tup (pa_cons (pv 3) (pa_cons (pv 2) pa_nil))) (pe_ix (r := rIxT K) ix_tup (pv 0) pe_int (fun _ _ => rfl)) rfl)) (fun _ _ _ _ _ => pv 3)) (pe_lst pa_nil) (nomark _)))))) (fun _ _ _ _ _ => pv 2))), ?_⟩
    obtain ⟨t, ar, hw, ht, har, hax⟩ := hW
    have hl := stand_len hS.2
    refine ⟨_, rfl, wb, _, _, .int n, rfl, rfl, SqT.of hw, atI_nat (j := 0) rfl, (n : Int), rfl, by omega, by omega, fun D nD => lc_pure (L := List.range n) (e := fun (i : Nat) => V.int (0 + (i : Int)))
      (p := fun (i : Nat) => !decide ((0 + (i : Int)) ∈ S) && !decide ((S.filter fun one => arrB ar one (0 + (i : Int))) = [])) (g := fun (i : Nat) => V.int (0 + (i : Int))) wl_range (fun _ _ => trivial) (fun i H1 Qt hi s1 qt => ?_) (fun i H1 Qe hi hp s1 qe => ⟨_, rfl, qe H1 (Same.refl _)⟩) (by rw [List.length_range]; omega) nD fun H1 s1 el => ?_⟩
    · refine ⟨_, rfl, _, rfl, 0 + (i : Int), a, S, rfl, rfl, .inr (s1 _ _ hS.1), _, rfl, ite2 (fun e => ?_) (fun e => ?_)⟩
      · rw [e, Bool.true_and] at qt
        refine ⟨_, rfl, a, rfl, ⟨_, SqT.of (s1 _ _ hS.1)⟩, fun D2 nD2 => lc_pure (L := S) (e := V.int) (p := fun one => arrB ar one (0 + (i : Int))) (g := V.int) wl_tup (fun H' s => s _ _ (s1 _ _ hS.1)) (fun one H2 Qt2 ho s2 qt2 => ?_) (fun one H2 Qe ho hp s2 qe => ⟨_, rfl, qe H2 (Same.refl _)⟩) (by omega) nD2 fun H3 s3 el3 => ?_⟩
        · have s12 := s1.trans s2
          refine ⟨_, rfl, _, rfl, by show 2 ≤ sizeLine; decide, fun p np => ⟨_, rfl, wb, _, _, .ref t, rfl, rfl, SqT.of (same_upd np _ _ (s12 _ _ hw)), atI_nat (j := 1) rfl, .tuple (dI [one, 0 + (i : Int)]), dTs (ar.map fun (z : Addr × Int × Int) => [z.2.1, z.2.2]), dp_t (S := [one, 0 + (i : Int)]) upd_same, ?_, shaped_t _, shaped_tt _, _, rfl, qt2 _ (same_upd (o := .tup _) np)⟩⟩
          exact .tup (SqT.of (same_upd np _ _ (s12 _ _ ht))) (dpTs (fun z => z.1) (fun z => [z.2.1, z.2.2]) ar fun z hz => same_upd np _ _ (s12 _ _ (har z hz)))
        · refine ⟨Nat.zero_le _, fun p np => ⟨_, _, dp_l (S := S.filter fun one => arrB ar one (0 + (i : Int))) (same_upd np _ _ el3), dp_l (S := []) upd_same, shaped_l _, shaped_l _, _, rfl, ?_⟩⟩
          rw [eqv_l]
          exact qt _ (s3.trans (same_upd np))
      · have e' : (!decide ((0 + (i : Int)) ∈ S)) = false := by simpa using e
        rw [e', Bool.false_and] at qt
        exact qt _ (Same.refl _)
    · refine q H1 D (((List.range n).filter fun (i : Nat) => !decide ((0 + (i : Int)) ∈ S) && !decide ((S.filter fun one => arrB ar one (0 + (i : Int))) = [])).map fun (i : Nat) => 0 + (i : Int)) s1 (by rw [List.map_map]; exact el) (fun k => ?_) ?_
      · rw [List.mem_map]
        unfold CanL
        constructor
        · rintro ⟨i, hi, rfl⟩
          rw [List.mem_filter, List.mem_range, Bool.and_eq_true] at hi
          obtain ⟨h1, h2, h3⟩ := hi
          have b0 : (0 : Int) ≤ 0 + (i : Int) := by omega
          have b1 : (0 + (i : Int)) < (n : Int) := by omega
          refine ⟨⟨b0, b1⟩, by simpa using h2, (arr_light hS.2 n1 b0 b1).mp ?_⟩
          have h4 : (S.filter fun one => arrB ar one (0 + (i : Int))) ≠ [] := by simpa using h3
          obtain ⟨x, hx⟩ := List.exists_mem_of_ne_nil _ h4
          exact ⟨x, (List.mem_filter.mp hx).1, (arrB_iff hax _ _).mp (List.mem_filter.mp hx).2⟩
        · rintro ⟨⟨b0, b1⟩, h2, h3⟩
          obtain ⟨x, hx, hxa⟩ := (arr_light hS.2 n1 b0 b1).mpr h3
          have ek : (0 + ((k.toNat : Nat) : Int)) = k := by omega
          refine ⟨k.toNat, ?_, ek⟩
          rw [List.mem_filter, List.mem_range, ek, Bool.and_eq_true]
          refine ⟨by omega, by simpa using h2, ?_⟩
          have h4 : (S.filter fun one => arrB ar one k) ≠ [] := List.ne_nil_of_mem (List.mem_filter.mpr ⟨hx, (arrB_iff hax _ _).mpr hxa⟩)
          simpa using h4
      · rw [List.length_map]
        have := List.length_filter_le (fun (i : Nat) => !decide ((0 + (i : Int)) ∈ S) && !decide ((S.filter fun one => arrB ar one (0 + (i : Int))) = [])) (List.range n)
        rw [List.length_range] at this
        exact this
theorem ok_quench {f : Addr} {fd : FuncData} (D : Def K mg "_law_quench" ["_law_web", "_law_burning"] sQuench f fd) (B : Blts mg) : Cal P w K mg base 1 "_law_quench" (spCan CanQ) := by
  refine cal_of D scQuench (fun vs H Q EX h => ?_) (fun cdv AA outer s H vs Q EX hr h => ?_)
  · obtain ⟨n, ring, wb, a, S, rfl, _⟩ := h
    rfl
  · obtain ⟨n, ring, wb, a, S, rfl, n1, n40, hW, hS, q⟩ := h
    have nd := scQuench.nd
    have hu := hr.units
    have hu5 := hr.un
    replace hu5 : (AA.deeper (PyProof.Rows.envOfC "_law_quench" (defScope sQuench) s.heap.objs.size f cdv)).units + 65 < cLine := by omega
    refine ⟨_, pss_one (ps_ret (pe_lc (own := [("_law_k", 2)]) (g := gName 2) (by rfl) nd (pi_tup (pv 1)) (blkOk_by (N := nQuench) (sc := defScope sQuench) (by decide +kernel)) (fun _ _ _ _ _ => pg_name (i := 2) nd rfl (Or.inr rfl))
          (fun _ _ _ _ _ => pts_one (pt_cmpR (r := rNeD K) (op_neD hu) (pe_lc (own := [("_law_one", 3)]) (g := gName 3) (by rfl) nd (pi_tupK K rfl (pv 1)) (blkOk_by (N := nQuench) (sc := relS oQuench (defScope sQuench)) (by decide +kernel)) (fun _ _ _ _ _ => pg_name (i := 3) nd rfl (Or.inl rfl))
            (fun _ _ _ _ _ => pts_one (pt_cmpR (r := rInDT K) (op_inDT hu5) (pe_tup (pa_cons (pv 2) (pa_cons (pv 3) pa_nil))) (pe_ix (r := rIxT K) ix_tup (pv 0) pe_int (fun _ _ => rfl)) rfl)) (fun _ _ _ _ _ => pv 3)) (pe_lst pa_nil) (nomark _))) (fun _ _ _ _ _ => pv 2))), ?_⟩
    obtain ⟨t, ar, hw, ht, har, hax⟩ := hW
    have hl := stand_len hS.2
    refine ⟨_, rfl, a, rfl, ⟨_, SqT.of hS.1⟩, fun D nD => lc_pure (L := S) (e := V.int)
      (p := fun k => !decide ((S.filter fun one => arrB ar k one) = [])) (g := V.int) wl_tup (fun H' s => s _ _ hS.1) (fun k H1 Qt hk s1 qt => ?_) (fun i H1 Qe hi hp s1 qe => ⟨_, rfl, qe H1 (Same.refl _)⟩) (by omega) nD fun H1 s1 el => ?_⟩
    · refine ⟨_, rfl, a, rfl, ⟨_, SqT.of (s1 _ _ hS.1)⟩, fun D2 nD2 => lc_pure (L := S) (e := V.int) (p := fun one => arrB ar k one) (g := V.int) wl_tup (fun H' s => s _ _ (s1 _ _ hS.1)) (fun one H2 Qt2 ho s2 qt2 => ?_) (fun one H2 Qe ho hp s2 qe => ⟨_, rfl, qe H2 (Same.refl _)⟩) (by omega) nD2 fun H3 s3 el3 => ?_⟩
      · have s12 := s1.trans s2
        refine ⟨_, rfl, _, rfl, by show 2 ≤ sizeLine; decide, fun p np => ⟨_, rfl, wb, _, _, .ref t, rfl, rfl, SqT.of (same_upd np _ _ (s12 _ _ hw)), atI_nat (j := 1) rfl, .tuple (dI [k, one]), dTs (ar.map fun (z : Addr × Int × Int) => [z.2.1, z.2.2]), dp_t (S := [k, one]) upd_same, ?_, shaped_t _, shaped_tt _, _, rfl, qt2 _ (same_upd (o := .tup _) np)⟩⟩
        exact .tup (SqT.of (same_upd np _ _ (s12 _ _ ht))) (dpTs (fun z => z.1) (fun z => [z.2.1, z.2.2]) ar fun z hz => same_upd np _ _ (s12 _ _ (har z hz)))
      · refine ⟨Nat.zero_le _, fun p np => ⟨_, _, dp_l (S := S.filter fun one => arrB ar k one) (same_upd np _ _ el3), dp_l (S := []) upd_same, shaped_l _, shaped_l _, _, rfl, ?_⟩⟩
        rw [eqv_l]
        exact qt _ (s3.trans (same_upd np))
    · refine q H1 D (S.filter fun k => !decide ((S.filter fun one => arrB ar k one) = [])) s1 el (fun k => ?_) (Nat.le_trans (List.length_filter_le _ _) hl)
      rw [List.mem_filter]
      unfold CanQ
      constructor
      · rintro ⟨h1, h3⟩
        have hb := hS.2.bd k h1
        refine ⟨h1, (arr_quench hS.2 n1 hb.1 hb.2).mp ?_⟩
        have h4 : (S.filter fun one => arrB ar k one) ≠ [] := by simpa using h3
        obtain ⟨x, hx⟩ := List.exists_mem_of_ne_nil _ h4
        exact ⟨x, (List.mem_filter.mp hx).1, (arrB_iff hax _ _).mp (List.mem_filter.mp hx).2⟩
      · rintro ⟨h1, h3⟩
        have hb := hS.2.bd k h1
        obtain ⟨x, hx, hxa⟩ := (arr_quench hS.2 n1 hb.1 hb.2).mpr h3
        refine ⟨h1, ?_⟩
        have h4 : (S.filter fun one => arrB ar k one) ≠ [] := List.ne_nil_of_mem (List.mem_filter.mpr ⟨hx, (arrB_iff hax _ _).mpr hxa⟩)
        simpa using h4
end
end Wr


/-! _law_after -/
namespace Wr
open PySem PySem.Spec L2
section
variable {P : Program} {w : World} {K : PySem.W.Frag} {mg : Str → Option Value} {base : Heap}
theorem NxtAt.upd {n : Nat} {ring : Bool} {S : List Int} {H : Hp} {r : Nxt} {D : Addr} {xs ys : List V} (h : NxtAt n ring S H r) (hD : H D = some (.lst xs)) : NxtAt n ring S (upd H D (.lst ys)) r := by
  have ne : ∀ {a zs}, H a = some (.tup zs) → a ≠ D := fun e z => by
    subst z
    rw [hD] at e
    cases e
  exact ⟨by rw [upd_ne (ne h.pair)]; exact h.pair, ⟨by rw [upd_ne (ne h.st.1)]; exact h.st.1, h.st.2⟩, h.deed⟩
theorem ok_after {f : Addr} {fd : FuncData} (D : Def K mg "_law_after" ["_law_web", "_law_burning"] sAfter f fd) (B : Blts mg) (CL : Cal P w K mg base 1 "_law_light" (spCan CanL)) (CQ : Cal P w K mg base 1 "_law_quench" (spCan CanQ)) (CC : Cal P w K mg base 1 "_law_changed" spChanged) : Cal P w K mg base 2 "_law_after" spAfter := by
  refine cal_of D scAfter (fun vs H Q EX h => ?_) (fun cdv AA outer s H vs Q EX hr h => ?_)
  · obtain ⟨n, ring, wb, a, S, rfl, _⟩ := h
    rfl
  · obtain ⟨n, ring, wb, a, S, rfl, n1, n31, hW, hS, q⟩ := h
    have nd := scAfter.nd
    refine ⟨_, pss_one (ps_ret (pe_lc (own := [("_law_k", 2)]) (g := gName 2) (tt := tYes) (by rfl) nd
      (pi_list (pe_callB cr_sorted (by rfl) B.b_sorted (by decide +kernel) (pa_cons (pe_op op_cat (pe_c CL hr (by decide) (by rfl) (pa_cons (pv 0) (pa_cons (pv 1) pa_nil))) (pe_c CQ hr (by decide) (by rfl) (pa_cons (pv 0) (pa_cons (pv 1) pa_nil)))) pa_nil)))
      (blkOk_by (N := nAfter) (sc := defScope sAfter) (by decide +kernel)) (fun _ _ _ _ _ => pg_name (i := 2) nd rfl (Or.inl rfl))
      (fun _ _ _ _ _ => pts_nil) (fun _ _ _ _ _ => pe_tup (pa_cons (pv 2) (pa_cons (pe_c CC hr (by decide) (by rfl) (pa_cons (pv 1) (pa_cons (pv 2) pa_nil))) pa_nil))))), ?_⟩
    refine ⟨_, rfl, _, rfl, n, ring, wb, a, S, rfl, n1, by omega, hW, hS, fun H1 l1 ks1 s1 el1 m1 len1 => ⟨_, rfl, _, rfl, n, ring, wb, a, S, rfl, n1, by omega, hW.same s1, hS.same s1, fun H2 l2 ks2 s2 el2 m2 len2 => ⟨l1, l2, _, _, rfl, rfl, s2 _ _ el1, el2, ?_, fun c nc => ?_⟩⟩⟩
    · rw [List.length_map, List.length_map]
      exact Nat.le_of_lt (small1000 (by omega))
    · refine ⟨c, ks1 ++ ks2, rfl, ?_, by rw [List.length_append]; omega, fun ks p pm pw np => ⟨p, rfl, ⟨_, SqL.of upd_same⟩, fun D nD => ?_⟩⟩
      · rw [List.map_append]
        exact SqL.of upd_same
      · have mem : ∀ k, k ∈ ks ↔ CanL n ring S k ∨ CanQ n ring S k := fun k => by
          rw [pm.mem_iff, List.mem_append, m1, m2]
        have klen : ks.length ≤ 62 := by
          rw [pm.length_eq, List.length_append]
          omega
        have s3 := ((s1.trans s2).trans (same_upd (o := .lst (ks1.map V.int ++ ks2.map V.int)) nc)).trans (same_upd (o := .lst (ks.map V.int)) np)
        have ep : upd (upd H2 c (.lst (ks1.map V.int ++ ks2.map V.int))) p (.lst (ks.map V.int)) p = some (.lst (ks.map V.int)) := upd_same
        generalize upd (upd H2 c (.lst (ks1.map V.int ++ ks2.map V.int))) p (.lst (ks.map V.int)) = H3 at s3 ep nD ⊢
        refine lc_it (wl_list (L := ks) (e := V.int) (a := p)) (g := gName 2) (vs := [2]) (fun i H' => ∃ rs : List Nxt, Same H3 H' ∧ H' D = some (.lst (rs.map fun r => V.ref r.p)) ∧ (∀ r ∈ rs, NxtAt n ring S H' r) ∧ rs.map (·.k) = ks.take i)
          ⟨[], same_upd nD, upd_same, (fun r h => nomatch h), rfl⟩ (fun i H' _ h => by obtain ⟨rs, sm, _⟩ := h; exact sm _ _ ep) ?_ ?_
        · rintro i x H4 H5 hi ⟨rs, s4, eD, hrs, ek⟩ ⟨rfl, k, hk, rfl⟩
          have hkm := (mem k).mp (List.mem_of_getElem? hk)
          have hkb : 0 ≤ k ∧ k < (n : Int) := by
            rcases hkm with h | h
            · exact h.1
            · exact hS.2.bd k h.1
          refine ⟨rfl, ?_⟩
          unfold tYes
          refine iteT ?_
          refine ⟨_, rfl, _, rfl, _, rfl, n, a, S, k, rfl, by omega, hS.same (s3.trans s4), hkb.1, hkb.2, fun H6 t T s6 hT tog => ⟨by show 2 ≤ sizeLine; decide, fun pr npr => ?_⟩⟩
          have s7 := same_upd (o := .tup [.int k, .ref t]) npr
          have eD7 := s7 _ _ (s6 _ _ eD)
          have epr : upd H6 pr (.tup [.int k, .ref t]) pr = some (.tup [.int k, .ref t]) := upd_same
          have hT7 := hT.same s7
          have s57 := s6.trans s7
          generalize upd H6 pr (.tup [.int k, .ref t]) = H7 at s57 eD7 epr hT7 ⊢
          have new : NxtAt n ring S H7 ⟨pr, k, t, T⟩ := ⟨epr, hT7, ⟨hkm, tog⟩⟩
          have lrs : rs.length ≤ 62 := by
            have := congrArg List.length ek
            rw [List.length_map, List.length_take] at this
            omega
          refine ⟨_, eD7, by rw [List.length_map]; exact small1000 (by omega), rs ++ [⟨pr, k, t, T⟩], fun b o e => ?_, ?_, fun r hr' => ?_, ?_⟩
          · rw [upd_ne (ne_of_none e nD)]
            exact s57 _ _ (s4 _ _ e)
          · rw [upd_same, List.map_append]
            rfl
          · rcases List.mem_append.mp hr' with h | h
            · exact ((hrs r h).same s57).upd eD7
            · rw [List.mem_singleton.mp h]
              exact new.upd eD7
          · rw [List.map_append, ek, take_snoc hk]
            rfl
        · rintro H4 ⟨rs, s4, eD, hrs, ek⟩
          rw [List.take_length] at ek
          have nD0 : H D = none := by
            cases e : H D with
            | none => rfl
            | some o =>
              have := s3 _ _ e
              rw [nD] at this
              cases this
          refine q H4 D rs (s3.trans s4) nD0 eD hrs fun T k hT hd => ?_
          have hk : k ∈ rs.map (·.k) := by
            rw [ek, mem]
            exact hd.can
          obtain ⟨r, hr1, hr2⟩ := List.mem_map.mp hk
          refine ⟨r, hr1, (hrs r hr1).st.2.ext hT fun x => ?_⟩
          have h1 := (hrs r hr1).deed.tog x
          have h2 := hd.tog x
          rw [hr2] at h1
          rw [h1, h2]
end
end Wr


/-! The search by levels, as plain mathematics. -/
namespace Wr
open PySem PySem.Spec L2
theorem nodup_map_mem {α β : Type} {f : α → β} {l : List α} (h : l.Nodup) (inj : ∀ a ∈ l, ∀ b ∈ l, f a = f b → a = b) : (l.map f).Nodup := by
  refine List.pairwise_map.mpr (List.Pairwise.imp_of_mem (fun {a b} ha hb ne e => ne (inj a ha b hb e)) h)
theorem filter_split {α : Type} (p : α → Bool) : ∀ l : List α, l.length = (l.filter p).length + (l.filter fun x => !p x).length
  | [] => rfl
  | x :: l => by
    have h := filter_split p l
    by_cases e : p x = true
    · rw [List.filter_cons_of_pos e, List.filter_cons_of_neg (by simp [e])]
      simp only [List.length_cons]
      omega
    · rw [List.filter_cons_of_neg e, List.filter_cons_of_pos (by simpa using e)]
      simp only [List.length_cons]
      omega
theorem stands_len : ∀ (n : Nat) (L : List (List Int)), L.Nodup → (∀ S ∈ L, Stand n S) → L.length ≤ 2 ^ n
  | 0, L, nd, h => by
    have e : ∀ S ∈ L, S = [] := fun S hS => by
      cases S with
      | nil => rfl
      | cons x S =>
        have := (h _ hS).bd x (List.mem_cons_self ..)
        omega
    match L, nd, e with
    | [], _, _ => exact Nat.zero_le _
    | [x], _, _ => exact Nat.le_refl _
    | x :: y :: L, nd, e =>
      have h1 := e x (List.mem_cons_self ..)
      have h2 := e y (List.mem_cons_of_mem _ (List.mem_cons_self ..))
      have := (List.nodup_cons.mp nd).1
      exact (this (by rw [h1, h2]; exact List.mem_cons_self ..)).elim
  | n + 1, L, nd, h => by
    have sp := filter_split (fun S => decide ((n : Int) ∈ S)) L
    have a1 : (L.filter fun S => decide ((n : Int) ∈ S)).length ≤ 2 ^ n := by
      have := stands_len n ((L.filter fun S => decide ((n : Int) ∈ S)).map fun S => S.filter fun x => decide (x ≠ (n : Int))) ?_ ?_
      · rw [List.length_map] at this
        exact this
      · refine nodup_map_mem (nd.filter _) fun a ha b hb e => ?_
        have ha' := List.mem_filter.mp ha
        have hb' := List.mem_filter.mp hb
        have ma : (n : Int) ∈ a := of_decide_eq_true ha'.2
        have mb : (n : Int) ∈ b := of_decide_eq_true hb'.2
        refine (h a ha'.1).ext (h b hb'.1) fun x => ?_
        by_cases ex : x = (n : Int)
        · rw [ex]
          exact ⟨fun _ => mb, fun _ => ma⟩
        · have q : x ∈ a.filter (fun x => decide (x ≠ (n : Int))) ↔ x ∈ b.filter (fun x => decide (x ≠ (n : Int))) := by
            show x ∈ (fun S : List Int => S.filter fun x => decide (x ≠ (n : Int))) a ↔ x ∈ (fun S : List Int => S.filter fun x => decide (x ≠ (n : Int))) b
            have e' : (fun S : List Int => S.filter fun x => decide (x ≠ (n : Int))) a = (fun S : List Int => S.filter fun x => decide (x ≠ (n : Int))) b := e
            exact e' ▸ Iff.rfl
          rw [List.mem_filter, List.mem_filter] at q
          have d : decide (x ≠ (n : Int)) = true := decide_eq_true ex
          rw [d] at q
          simpa using q
      · intro S hS
        obtain ⟨T, hT, rfl⟩ := List.mem_map.mp hS
        have hT' := h T (List.mem_filter.mp hT).1
        refine ⟨hT'.asc.filter _, fun x hx => ?_⟩
        have hx' := List.mem_filter.mp hx
        have b := hT'.bd x hx'.1
        have ne : x ≠ (n : Int) := of_decide_eq_true hx'.2
        omega
    have a2 : (L.filter fun S => !decide ((n : Int) ∈ S)).length ≤ 2 ^ n := by
      refine stands_len n _ (nd.filter _) fun S hS => ?_
      have hS' := List.mem_filter.mp hS
      have hT := h S hS'.1
      have nm : (n : Int) ∉ S := by simpa using hS'.2
      refine ⟨hT.asc, fun x hx => ?_⟩
      have b := hT.bd x hx
      have ne : x ≠ (n : Int) := fun e => nm (e ▸ hx)
      omega
    rw [Nat.pow_succ]
    omega
/-- the table, by standings -/
def kvsOf (fd : List (List Int × Nat)) : List (List Key × V) := fd.map fun e => (keyT e.1, V.int (e.2 : Int))
theorem kvsOf_len (fd : List (List Int × Nat)) : (kvsOf fd).length = fd.length := List.length_map ..
theorem kvs_none {S : List Int} : ∀ {fd : List (List Int × Nat)}, S ∉ fd.map (·.1) → valV (kvsOf fd) (keyT S) = none
  | [], _ => rfl
  | e :: fd, h => by
    rw [List.map_cons, List.mem_cons, not_or] at h
    show valV ((keyT e.1, V.int (e.2 : Int)) :: kvsOf fd) (keyT S) = none
    rw [valV_neg fun z => h.1 (keyT_inj z).symm]
    exact kvs_none h.2
theorem kvs_some {S : List Int} {c : Nat} : ∀ {fd : List (List Int × Nat)}, S ∈ fd.map (·.1) → (∀ d, (S, d) ∈ fd → d = c) → valV (kvsOf fd) (keyT S) = some (.int c)
  | [], h, _ => nomatch h
  | e :: fd, h, u => by
    show valV ((keyT e.1, V.int (e.2 : Int)) :: kvsOf fd) (keyT S) = _
    by_cases q : e.1 = S
    · rw [valV_pos (by rw [q])]
      have := u e.2 (by rw [← q]; exact List.mem_cons_self ..)
      rw [this]
    · rw [valV_neg fun z => q (keyT_inj z)]
      rw [List.map_cons, List.mem_cons] at h
      rcases h with h | h
      · exact (q h.symm).elim
      · exact kvs_some h fun d hd => u d (List.mem_cons_of_mem _ hd)
section
variable {n : Nat} {ring : Bool} {A : List Int}
structure Bf (n : Nat) (ring : Bool) (A : List Int) (fd : List (List Int × Nat)) : Prop where
  nd : (fd.map (·.1)).Nodup
  snd : ∀ e ∈ fd, Stand n e.1 ∧ Dist n ring A e.1 e.2
theorem Bf.uniq {fd : List (List Int × Nat)} (h : Bf n ring A fd) {S : List Int} {c d : Nat} (h1 : Dist n ring A S c) (h2 : (S, d) ∈ fd) : d = c := (h.snd _ h2).2.uniq h1
theorem Bf.val {fd : List (List Int × Nat)} (h : Bf n ring A fd) {S : List Int} {c : Nat} (m : (S, c) ∈ fd) : valV (kvsOf fd) (keyT S) = some (.int c) :=
  kvs_some (List.mem_map.mpr ⟨_, m, rfl⟩) fun d hd => h.uniq (h.snd _ m).2 hd
theorem Bf.len {fd : List (List Int × Nat)} (h : Bf n ring A fd) : fd.length ≤ 2 ^ n := by
  have := stands_len n (fd.map (·.1)) h.nd fun S hS => by
    obtain ⟨e, he, rfl⟩ := List.mem_map.mp hS
    exact (h.snd e he).1
  rw [List.length_map] at this
  exact this
theorem Bf.add {fd : List (List Int × Nat)} (h : Bf n ring A fd) {S : List Int} {c : Nat} (hS : Stand n S) (hd : Dist n ring A S c) (no : S ∉ fd.map (·.1)) : Bf n ring A (fd ++ [(S, c)]) := by
  refine ⟨?_, fun e he => ?_⟩
  · rw [List.map_append]
    refine List.nodup_append.mpr ⟨h.nd, List.nodup_cons.mpr ⟨(fun z => nomatch z), List.nodup_nil⟩, fun a ha b hb e => ?_⟩
    have : b = S := List.mem_singleton.mp hb
    rw [e, this] at ha
    exact no ha
  · rcases List.mem_append.mp he with h1 | h1
    · exact h.snd e h1
    · rw [List.mem_singleton.mp h1]
      exact ⟨hS, hd⟩
theorem kvs_put {fd : List (List Int × Nat)} {S : List Int} {c : Nat} (no : S ∉ fd.map (·.1)) : putK (kvsOf fd) (keyT S) (.int c) = kvsOf (fd ++ [(S, c)]) := by
  rw [putK_new _ (kvs_none no)]
  unfold kvsOf
  rw [List.map_append]
  rfl
structure Lev (n : Nat) (ring : Bool) (A : List Int) (fd : List (List Int × Nat)) (rows : List (List Int)) (L : Nat) : Prop where
  bf : Bf n ring A fd
  le : ∀ e ∈ fd, e.2 ≤ L
  all : ∀ S c, Stand n S → Dist n ring A S c → c ≤ L → S ∈ fd.map (·.1)
  hrows : ∀ S, S ∈ rows ↔ (S, L) ∈ fd
  len : rows.length ≤ fd.length
structure Mid (n : Nat) (ring : Bool) (A : List Int) (rows : List (List Int)) (L i : Nat) (fd : List (List Int × Nat)) (more : List (List Int)) : Prop where
  bf : Bf n ring A fd
  le : ∀ e ∈ fd, e.2 ≤ L + 1
  all : ∀ S c, Stand n S → Dist n ring A S c → c ≤ L → S ∈ fd.map (·.1)
  hrows : ∀ S ∈ rows, (S, L) ∈ fd
  hmore : ∀ S, S ∈ more ↔ (S, L + 1) ∈ fd
  len : more.length ≤ fd.length
  done : ∀ S T k, S ∈ rows.take i → Stand n T → Deed n ring S T k → T ∈ fd.map (·.1)
theorem Lev.mid {fd : List (List Int × Nat)} {rows : List (List Int)} {L : Nat} (h : Lev n ring A fd rows L) : Mid n ring A rows L 0 fd [] where
  bf := h.bf
  le := fun e he => Nat.le_succ_of_le (h.le e he)
  all := h.all
  hrows := fun S hS => (h.hrows S).mp hS
  hmore := fun S => ⟨(fun z => nomatch z), fun (z : (S, L + 1) ∈ fd) => absurd (h.le _ z) (Nat.not_succ_le_self L)⟩
  len := Nat.zero_le _
  done := fun S T k z => nomatch z
theorem Mid.addT (hn : ring = true → 2 ≤ n) {fd : List (List Int × Nat)} {rows more : List (List Int)} {L i : Nat} (h : Mid n ring A rows L i fd more) {S T : List Int} {k : Int} (hS : S ∈ rows) (hT : Stand n T) (hd : Deed n ring S T k) (no : T ∉ fd.map (·.1)) :
    Mid n ring A rows L i (fd ++ [(T, L + 1)]) (more ++ [T]) := by
  have m1 := h.hrows S hS
  obtain ⟨hS1, hS2⟩ := h.bf.snd _ m1
  obtain ⟨c, hc, hD⟩ := dist_deed hn hS1 hS2 hd
  have ec : c = L + 1 := by
    by_cases q : c ≤ L
    · exact (no (h.all T c hT hD q)).elim
    · have hc' : c ≤ L + 1 := hc
      omega
  subst ec
  have keep : ∀ {X}, X ∈ fd.map (·.1) → X ∈ (fd ++ [(T, L + 1)]).map (·.1) := fun {X} hX => by
    rw [List.map_append]
    exact List.mem_append_left _ hX
  refine ⟨h.bf.add hT hD no, fun e he => ?_, fun X c hX hXD hle => keep (h.all X c hX hXD hle), fun X hX => List.mem_append_left _ (h.hrows X hX), fun X => ?_, ?_, fun X Y k' hX hY hXY => keep (h.done X Y k' hX hY hXY)⟩
  · rcases List.mem_append.mp he with h1 | h1
    · exact h.le e h1
    · rw [List.mem_singleton.mp h1]
      exact Nat.le_refl _
  · rw [List.mem_append, List.mem_append, h.hmore, List.mem_singleton, List.mem_singleton]
    constructor
    · rintro (a | a)
      · exact .inl a
      · exact .inr (by rw [a])
    · rintro (a | a)
      · exact .inl a
      · exact .inr (congrArg Prod.fst a)
  · rw [List.length_append, List.length_append]
    exact Nat.succ_le_succ h.len
theorem Mid.turn {fd : List (List Int × Nat)} {rows more : List (List Int)} {L i : Nat} (h : Mid n ring A rows L i fd more) {S : List Int} (hi : rows[i]? = some S) (hs : ∀ T k, Stand n T → Deed n ring S T k → T ∈ fd.map (·.1)) :
    Mid n ring A rows L (i + 1) fd more := by
  refine ⟨h.bf, h.le, h.all, h.hrows, h.hmore, h.len, fun X Y k hX hY hXY => ?_⟩
  rw [List.take_add_one, hi] at hX
  rcases List.mem_append.mp hX with a | a
  · exact h.done X Y k a hY hXY
  · have : X = S := by simpa using a
    rw [this] at hXY
    exact hs Y k hY hXY
theorem Mid.lev (hn : ring = true → 2 ≤ n) (h0 : 0 < n) (hA : Stand n A) {fd : List (List Int × Nat)} {rows more : List (List Int)} {L : Nat} (h : Mid n ring A rows L rows.length fd more)
    (hr : ∀ S, Stand n S → Dist n ring A S L → S ∈ rows) : Lev n ring A fd more (L + 1) := by
  refine ⟨h.bf, h.le, fun S c hS hD hc => ?_, h.hmore, h.len⟩
  by_cases q : c ≤ L
  · exact h.all S c hS hD q
  · have ec : c = L + 1 := by omega
    subst ec
    obtain ⟨C, k, hC, hd, hCD⟩ := dist_pred hn h0 hA hS hD
    exact h.done C S k (by rw [List.take_length]; exact hr C hC hCD) hS hd
theorem Lev.complete {fd : List (List Int × Nat)} {rows : List (List Int)} {L : Nat} (h : Lev n ring A fd rows L) : ∀ S, Stand n S → Dist n ring A S L → S ∈ rows := fun S hS hD => by
  obtain ⟨e, he, e1⟩ := List.mem_map.mp (h.all S L hS hD (Nat.le_refl _))
  rw [h.hrows]
  have e2 : e.2 = L := h.bf.uniq hD (S := S) (d := e.2) (by rw [← e1]; exact he)
  rw [← e1, ← e2]
  exact he
theorem Lev.start (hn : ring = true → 2 ≤ n) (h0 : 0 < n) (hA : Stand n A) : Lev n ring A [(A, 0)] [A] 0 := by
  refine ⟨⟨List.nodup_cons.mpr ⟨(fun z => nomatch z), List.nodup_nil⟩, fun e he => ?_⟩, fun e he => ?_, fun S c hS hD hc => ?_, fun S => ?_, Nat.le_refl _⟩
  · rw [List.mem_singleton.mp he]
    exact ⟨hA, dist_self n ring A⟩
  · rw [List.mem_singleton.mp he]
    exact Nat.le_refl _
  · by_cases q : A = S
    · rw [q]
      exact List.mem_cons_self ..
    · obtain ⟨C, k, c', _, _, h3, _⟩ := dist_back hn h0 hA hS hD q
      omega
  · rw [List.mem_singleton, List.mem_singleton]
    exact ⟨fun e => by rw [e], fun e => congrArg Prod.fst e⟩
theorem Lev.low {fd : List (List Int × Nat)} {rows : List (List Int)} {L : Nat} (h : Lev n ring A fd rows L) {S : List Int} (hS : S ∈ rows) : L ≤ 2 * n := (h.bf.snd _ ((h.hrows S).mp hS)).2.le
theorem far_no (hn : ring = true → 2 ≤ n) (h0 : 0 < n) (hA : Stand n A) {L : Nat} (hr : ∀ S, Stand n S → ¬ Dist n ring A S L) : ∀ d S, Stand n S → ¬ Dist n ring A S (L + d)
  | 0, S, hS, hD => hr S hS hD
  | d + 1, S, hS, hD => by
    obtain ⟨C, k, hC, _, hCD⟩ := dist_pred hn h0 hA hS (c := L + d) hD
    exact far_no hn h0 hA hr d C hC hCD
theorem Lev.known (hn : ring = true → 2 ≤ n) (h0 : 0 < n) (hA : Stand n A) {fd : List (List Int × Nat)} {L : Nat} (h : Lev n ring A fd [] L) : Known n ring A (kvsOf fd) := by
  have none' : ∀ S, Stand n S → ¬ Dist n ring A S L := fun S hS hD => nomatch h.complete S hS hD
  refine ⟨fun e he => ?_, fun S c hS hD => ?_, ?_⟩
  · obtain ⟨x, hx, rfl⟩ := List.mem_map.mp he
    exact ⟨x.1, x.2, (h.bf.snd x hx).1, rfl, (h.bf.snd x hx).2⟩
  · have hc : c ≤ L := by
      by_cases q : c ≤ L
      · exact q
      · obtain ⟨d, rfl⟩ := Nat.exists_eq_add_of_le (Nat.le_of_not_le q)
        exact (far_no hn h0 hA none' d S hS hD).elim
    obtain ⟨x, hx, e1⟩ := List.mem_map.mp (h.all S c hS hD hc)
    exact ⟨V.int x.2, List.mem_map.mpr ⟨x, hx, by rw [e1]⟩⟩
  · have e : (kvsOf fd).map Prod.fst = (fd.map Prod.fst).map keyT := by
      unfold kvsOf
      rw [List.map_map, List.map_map]
      rfl
    rw [e]
    exact nodup_map_mem h.bf.nd fun a _ b _ z => keyT_inj z
end
end Wr


/-! _law_from -/
namespace Wr
open PySem PySem.Spec L2
theorem none_of {H H' : Hp} {q : Addr} (s : Same H H') (h : H' q = none) : H q = none := by
  cases e : H q with
  | none => rfl
  | some o =>
    have := s _ _ e
    rw [h] at this
    cases this
/-- the tuples are as they were -/
def Tups (H H' : Hp) : Prop := ∀ b xs, H b = some (.tup xs) → H' b = some (.tup xs)
theorem WebAt.tups {n : Nat} {ring : Bool} {H H' : Hp} {w : Addr} (h : WebAt n ring H w) (k : Tups H H') : WebAt n ring H' w := by
  obtain ⟨t, ar, h1, h2, h3, h4⟩ := h
  exact ⟨t, ar, k _ _ h1, k _ _ h2, fun z hz => k _ _ (h3 z hz), h4⟩
theorem NxtAt.tups {n : Nat} {ring : Bool} {S : List Int} {H H' : Hp} {r : Nxt} (h : NxtAt n ring S H r) (k : Tups H H') : NxtAt n ring S H' r := ⟨k _ _ h.pair, ⟨k _ _ h.st.1, h.st.2⟩, h.deed⟩
structure Fs (n : Nat) (ring : Bool) (H0 : Hp) (wb d : Addr) (H : Hp) (fd : List (List Int × Nat)) : Prop where
  same : Same H0 H
  web : WebAt n ring H wb
  dic : H d = some (.dT (kvsOf fd))
theorem Fs.step {n : Nat} {ring : Bool} {H0 H H' : Hp} {wb d : Addr} {fd : List (List Int × Nat)} (h : Fs n ring H0 wb d H fd) (s : Same H H') : Fs n ring H0 wb d H' fd := ⟨h.same.trans s, h.web.same s, s _ _ h.dic⟩
structure RowsAt (H : Hp) (l : Addr) (rs : List (Addr × List Int)) : Prop where
  lst : H l = some (.lst (rs.map fun r => V.ref r.1))
  tup : ∀ r ∈ rs, H r.1 = some (.tup (r.2.map V.int))
theorem RowsAt.step {H H' : Hp} {l : Addr} {rs : List (Addr × List Int)} (h : RowsAt H l rs) (s : Same H H') : RowsAt H' l rs := ⟨s _ _ h.lst, fun r hr => s _ _ (h.tup r hr)⟩
theorem upd2 {H : Hp} {d q b : Addr} {o o' : HO} (h1 : b ≠ d) (h2 : b ≠ q) : upd (upd H d o) q o' b = H b := by
  rw [upd_ne h2, upd_ne h1]
theorem key_tup {H : Hp} {a : Addr} {S : List Int} (h : H a = some (.tup (S.map V.int))) : H a = some (.tup ((keyT S).map kV)) := by
  rw [keyT_map]
  exact h
section
variable {P : Program} {w : World} {K : PySem.W.Frag} {mg : Str → Option Value} {base : Heap}
theorem ok_from {f : Addr} {fd : FuncData} (D : Def K mg "_law_from" ["_law_web", "_law_burning"] sFrom f fd) (B : Blts mg) (CA : Cal P w K mg base 2 "_law_after" spAfter) : Cal P w K mg base 3 "_law_from" spFrom := by
  refine cal_of D scFrom (fun vs H Q EX h => ?_) (fun cdv AA outer s H vs Q EX hr h => ?_)
  · obtain ⟨n, ring, wb, a, S, rfl, _⟩ := h
    rfl
  · obtain ⟨n, ring, wb, a, A, rfl, n1, n8, hn, hW, hA, q⟩ := h
    have nd := scFrom.nd
    have hu := hr.units
    have hu1 := hu_of hr
    refine ⟨_, pss_cons (ps_par (i := 2) (j := 3) rfl nd rfl rfl (by decide) rfl rfl (pa_cons (pe_dispT1 hu1 (pv 1) pe_int) (pa_cons (pe_lst (pa_cons (pv 1) pa_nil)) pa_nil)) (by rfl))
      (pss_cons (ps_while PassesOwn.never (pt_cmpR (op_neD hu) (pv 3) (pe_lst pa_nil) (nomark _))
        (pss_cons (ps_set (i := 4) nd rfl (.inl rfl) (pe_lst pa_nil))
        (pss_cons (ps_for PassesOwn.never rfl (pi_list (pv 3)) (pg_name (i := 5) nd rfl (.inl rfl))
          (pss_one (ps_for PassesOwn.never rfl (pi_list (pe_c CA hr (by decide) (by rfl) (pa_cons (pv 0) (pa_cons (pv 5) pa_nil))))
            (pg_tup rfl (pgs_cons (pg_name (i := 6) nd rfl (.inl rfl)) (pgs_cons (pg_name (i := 7) nd rfl (.inl rfl)) pgs_nil)))
            (pss_one (ps_if (pt_cmp (pc_dnotin hu1 (pv 7) (pv 2)))
              (pss_cons (ps_dput hu1 (pv 2) (pv 7) (pe_op op_add (pe_dget hu1 (pv 2) (pv 5) (fun _ _ => rfl)) pe_int) rfl)
              (pss_one (ps_expr (pe_bm PySem.F.plainAttrs_list PySem.F.slot_list_append PySem.F.type_list_append mt_append (pv 4) (pa_cons (pv 7) pa_nil))))) pss_nil)))))
        (pss_one (ps_set (i := 3) nd rfl (.inl rfl) (pv 4))))))
      (pss_one (ps_ret (pv 2)))), ?_⟩
    refine fun d nd0 => ⟨_, rfl, upd_same, .int 0, keyT A, a, rfl, key_tup (same_upd nd0 _ _ hA.1), _, rfl, (by show 1 ≤ sizeLine; decide), fun l nl => ⟨_, _, rfl, ?_⟩⟩
    have sd : Same H (upd (upd H d (.dT [])) d (.dT [(keyT A, .int 0)])) := fun b o e => by
      have ne := ne_of_none e nd0
      rw [upd_ne ne, upd_ne ne]
      exact e
    have ed : (upd (upd H d (.dT [])) d (.dT [(keyT A, .int 0)])) d = some (.dT (kvsOf [(A, 0)])) := upd_same
    generalize upd (upd H d (.dT [])) d (.dT [(keyT A, .int 0)]) = H1 at sd ed nl ⊢
    have sl := same_upd (o := .lst [.ref a]) nl
    have el : upd H1 l (.lst [.ref a]) l = some (.lst [.ref a]) := upd_same
    have f0 : Fs n ring H wb d (upd H1 l (.lst [.ref a])) [(A, 0)] := ⟨sd.trans sl, hW.same (sd.trans sl), sl _ _ ed⟩
    have r0 : RowsAt (upd H1 l (.lst [.ref a])) l [(a, A)] := ⟨el, fun r hr => by rw [List.mem_singleton.mp hr]; exact (sd.trans sl) _ _ hA.1⟩
    generalize upd H1 l (.lst [.ref a]) = H2 at f0 r0 ⊢
    clear sl el nl sd ed
    refine ⟨fun m σ H' => ∃ (L : Nat) (fd : List (List Int × Nat)) (rs : List (Addr × List Int)) (l : Addr) (x4 x5 x6 x7 : Option V), m = 2 * n + 1 - L ∧
      σ = [some (.ref wb), some (.ref a), some (.ref d), some (.ref l), x4, x5, x6, x7] ∧ Fs n ring H wb d H' fd ∧ RowsAt H' l rs ∧ Lev n ring A fd (rs.map Prod.snd) L,
      ⟨_, 0, [(A, 0)], [(a, A)], l, _, _, _, _, rfl, rfl, f0, r0, Lev.start hn n1 hA.2⟩, ?_⟩
    rintro m σ H3 ⟨L, fd, rs, l, x4, x5, x6, x7, rfl, rfl, f3, r3, lev⟩
    refine ⟨_, rfl, Nat.zero_le _, fun p np => ⟨.list (dTs (rs.map Prod.snd)), .list (dTs []), .lst (SqL.of ((same_upd np) _ _ r3.lst)) (dpTs (fun r => r.1) (fun r => r.2) rs fun z hz => same_upd np _ _ (r3.tup z hz)), dp_l (S := []) upd_same, shaped_lt _, shaped_lt [], _, rfl, ?_⟩⟩
    rw [eqv_lt]
    have f4 := f3.step (same_upd (o := .lst []) np)
    have r4 := r3.step (same_upd (o := .lst []) np)
    generalize upd H3 p (.lst []) = H4 at f4 r4 ⊢
    clear f3 r3 np
    refine ite2 (fun e => ?_) (fun e => ?_)
    · refine ⟨fun σ' H' => ∃ m', m' < 2 * n + 1 - L ∧ ∃ (L : Nat) (fd : List (List Int × Nat)) (rs : List (Addr × List Int)) (l : Addr) (x4 x5 x6 x7 : Option V), m' = 2 * n + 1 - L ∧
        σ' = [some (.ref wb), some (.ref a), some (.ref d), some (.ref l), x4, x5, x6, x7] ∧ Fs n ring H wb d H' fd ∧ RowsAt H' l rs ∧ Lev n ring A fd (rs.map Prod.snd) L, fun _ _ h => h, Nat.zero_le _, fun qa nq => ?_⟩
      have hne : rs.map Prod.snd ≠ [] := by simpa using e
      have hL : L ≤ 2 * n := by
        obtain ⟨S, hS⟩ := List.exists_mem_of_ne_nil _ hne
        exact lev.low hS
      have nq0 : H qa = none := none_of f4.same nq
      have nlq : l ≠ qa := ne_of_none r4.lst nq
      have ndq : d ≠ qa := ne_of_none f4.dic nq
      have ndl : d ≠ l := fun z => by
        have h1 := f4.dic
        rw [z, r4.lst] at h1
        cases h1
      have f5 := f4.step (same_upd (o := .lst []) nq)
      have r5 := r4.step (same_upd (o := .lst []) nq)
      have q5 : RowsAt (upd H4 qa (.lst [])) qa [] := ⟨upd_same, fun r hr => nomatch hr⟩
      generalize upd H4 qa (.lst []) = H5 at f5 r5 q5 ⊢
      clear f4 r4 nq
      -- over the rows
      refine ⟨_, rfl, l, rfl, ⟨_, SqL.of r5.lst⟩, for_it (walk_list (xs := rs.map fun r => V.ref r.1)) (fun i σ H' => ∃ (fd : List (List Int × Nat)) (mo : List (Addr × List Int)) (x5 x6 x7 : Option V),
        σ = [some (.ref wb), some (.ref a), some (.ref d), some (.ref l), some (.ref qa), x5, x6, x7] ∧ Fs n ring H wb d H' fd ∧ RowsAt H' l rs ∧ RowsAt H' qa mo ∧ Mid n ring A (rs.map Prod.snd) L i fd (mo.map Prod.snd))
        ⟨fd, [], _, _, _, rfl, f5, r5, q5, lev.mid⟩ (fun i σ H' _ h => by obtain ⟨fd, mo, x5, x6, x7, _, _, h, _⟩ := h; exact SqL.of h.lst) ?_ ?_⟩
      · rintro i x σ H6 H7 hi ⟨fd, mo, x5, x6, x7, rfl, f6, r6, q6, mid⟩ ⟨rfl, hx⟩
        replace hx : (rs.map fun r => V.ref r.1)[i]? = some x := hx
        rw [List.getElem?_map] at hx
        obtain ⟨r, hri, rfl⟩ := Option.map_eq_some_iff.mp hx
        have hrm : r ∈ rs := List.mem_of_getElem? hri
        have hrL : (r.2, L) ∈ fd := mid.hrows _ (List.mem_map.mpr ⟨r, hrm, rfl⟩)
        have hrS : Stand n r.2 := (mid.bf.snd _ hrL).1
        refine ⟨_, rfl, _, rfl, n, ring, wb, r.1, r.2, rfl, n1, by omega, f6.web, ⟨r6.tup r hrm, hrS⟩, fun H8 lr nx s8 nlr elr hnx hall => ⟨lr, rfl, ⟨_, SqL.of elr⟩, ?_⟩⟩
        have nrq : lr ≠ qa := Ne.symm (ne_of_none q6.lst nlr)
        have nrd : lr ≠ d := Ne.symm (ne_of_none f6.dic nlr)
        refine for_it (walk_list (xs := nx.map fun r => V.ref r.p)) (fun j σ H' => ∃ (fd : List (List Int × Nat)) (mo : List (Addr × List Int)) (x6 x7 : Option V),
          σ = [some (.ref wb), some (.ref a), some (.ref d), some (.ref l), some (.ref qa), some (.ref r.1), x6, x7] ∧ Fs n ring H wb d H' fd ∧ RowsAt H' l rs ∧ RowsAt H' qa mo ∧ Mid n ring A (rs.map Prod.snd) L i fd (mo.map Prod.snd) ∧
          H' lr = some (.lst (nx.map fun r => V.ref r.p)) ∧ (∀ z ∈ nx, NxtAt n ring r.2 H' z) ∧ ∀ z ∈ nx.take j, z.T ∈ fd.map (·.1))
          ⟨fd, mo, _, _, rfl, f6.step s8, r6.step s8, q6.step s8, mid, elr, hnx, fun z hz => nomatch hz⟩ (fun j σ H' _ h => by obtain ⟨fd, mo, x6, x7, _, _, _, _, _, h, _⟩ := h; exact SqL.of h) ?_ ?_
        · rintro j x σ H10 H9 hj ⟨fd, mo, x6, x7, rfl, f9, r9, q9, mid, elr, hnx, hdone⟩ ⟨rfl, hx⟩
          replace hx : (nx.map fun r => V.ref r.p)[j]? = some x := hx
          rw [List.getElem?_map] at hx
          obtain ⟨z, hzj, rfl⟩ := Option.map_eq_some_iff.mp hx
          have hzm : z ∈ nx := List.mem_of_getElem? hzj
          have hz := hnx z hzm
          have hrL : (r.2, L) ∈ fd := mid.hrows _ (List.mem_map.mpr ⟨r, hrm, rfl⟩)
          have key := key_tup hz.st.1
          refine ⟨z.p, _, rfl, SqT.of hz.pair, rfl, _, _, rfl, _, _, rfl, rfl, ?_⟩
          refine ⟨_, rfl, _, rfl, d, _, rfl, DGet.t f9.dic key, _, rfl, ?_⟩
          by_cases mem : z.T ∈ fd.map (·.1)
          · obtain ⟨e, he, e1⟩ := List.mem_map.mp mem
            have hv := mid.bf.val (S := z.T) (c := e.2) (by rw [← e1]; exact he)
            rw [hv]
            refine iteF ⟨fd, mo, _, _, rfl, f9, r9, q9, mid, elr, hnx, fun y hy => ?_⟩
            rw [take_snoc hzj] at hy
            rcases List.mem_append.mp hy with h1 | h1
            · exact hdone y h1
            · rw [List.mem_singleton.mp h1]
              exact mem
          · rw [kvs_none mem]
            have key5 := key_tup (r9.tup r hrm)
            have hv5 := mid.bf.val hrL
            have hlen := mid.bf.len
            have hlen2 : 2 ^ n ≤ 256 := (Nat.pow_le_pow_right (by decide) n8 : 2 ^ n ≤ 2 ^ 8)
            have mid' := mid.addT hn (S := r.2) (List.mem_map.mpr ⟨r, hrm, rfl⟩) hz.st.2 hz.deed mem
            refine iteT ⟨_, rfl, _, rfl, d, .int L, rfl, ?_, _, _, rfl, rfl, _, rfl, _, rfl, d, _, rfl, DPut.t f9.dic key (by rw [kvsOf_len]; exact small1000 (by omega)), ?_⟩
            · rw [← hv5]
              exact DGet.t f9.dic key5
            · have eput : putK (kvsOf fd) (keyT z.T) (.int ((L : Int) + 1)) = kvsOf (fd ++ [(z.T, L + 1)]) := kvs_put (c := L + 1) mem
              rw [eput]
              have hq' : upd H9 d (.dT (kvsOf (fd ++ [(z.T, L + 1)]))) qa = some (.lst (mo.map fun r => V.ref r.1)) := by
                rw [upd_ne (Ne.symm ndq)]
                exact q9.lst
              refine ⟨_, rfl, .inl ⟨rfl, _, SqL.of hq'⟩, _, rfl, qa, _, _, rfl, rfl, hq', ?_, ?_⟩
              · have := mid.len
                rw [List.length_map] at this ⊢
                exact small1000 (by omega)
              · have tups : Tups H9 (upd (upd H9 d (.dT (kvsOf (fd ++ [(z.T, L + 1)])))) qa (.lst ((mo.map fun r => V.ref r.1) ++ [.ref z.t]))) := fun b xs e => by
                  rw [upd2]
                  · exact e
                  · intro eb
                    rw [eb, f9.dic] at e
                    cases e
                  · intro eb
                    rw [eb, q9.lst] at e
                    cases e
                refine ⟨fd ++ [(z.T, L + 1)], mo ++ [(z.t, z.T)], _, _, rfl, ⟨fun b o e => ?_, f9.web.tups tups, ?_⟩, ⟨?_, fun y hy => tups _ _ (r9.tup y hy)⟩, ⟨?_, fun y hy => ?_⟩, ?_, ?_, fun y hy => (hnx y hy).tups tups, fun y hy => ?_⟩
                · rw [upd2 (ne_of_none e nd0) (ne_of_none e nq0)]
                  exact f9.same _ _ e
                · rw [upd_ne ndq, upd_same]
                · rw [upd2 (Ne.symm ndl) nlq]
                  exact r9.lst
                · rw [upd_same, List.map_append]
                  rfl
                · rcases List.mem_append.mp hy with h1 | h1
                  · exact tups _ _ (q9.tup y h1)
                  · rw [List.mem_singleton.mp h1]
                    exact tups _ _ hz.st.1
                · rw [List.map_append]
                  exact mid'
                · rw [upd2 nrd nrq]
                  exact elr
                · rw [List.map_append]
                  rw [take_snoc hzj] at hy
                  rcases List.mem_append.mp hy with h1 | h1
                  · exact List.mem_append_left _ (hdone y h1)
                  · rw [List.mem_singleton.mp h1]
                    exact List.mem_append_right _ (List.mem_cons_self ..)
        · rintro σ H9 ⟨fd, mo, x6, x7, rfl, f9, r9, q9, mid, elr, hnx, hdone⟩
          refine ⟨fd, mo, _, _, _, rfl, f9, r9, q9, mid.turn (S := r.2) (by rw [List.getElem?_map, hri]; rfl) fun T k hT hd => ?_⟩
          obtain ⟨z, hz, rfl⟩ := hall T k hT hd
          exact hdone z (by rw [List.length_map, List.take_length]; exact hz)
      · rintro σ H6 ⟨fd, mo, x5, x6, x7, rfl, f6, r6, q6, mid⟩
        refine ⟨_, rfl, _, ?_, L + 1, fd, mo, qa, _, _, _, _, rfl, rfl, f6, q6, ?_⟩
        · omega
        · refine Mid.lev hn n1 hA.2 (rows := rs.map Prod.snd) ?_ lev.complete
          rw [List.length_map] at mid ⊢
          exact mid
    · have hnil : rs.map Prod.snd = [] := by simpa using e
      rw [hnil] at lev
      have hlen := lev.bf.len
      have hlen2 : 2 ^ n ≤ 256 := (Nat.pow_le_pow_right (by decide) n8 : 2 ^ n ≤ 2 ^ 8)
      exact ⟨_, rfl, q H4 d (kvsOf fd) f4.same f4.dic (lev.known hn n1 hA.2) (by rw [kvsOf_len]; omega)⟩
end
end Wr


/-! _law_alike -/
namespace Wr
open PySem PySem.Spec L2
section
variable {P : Program} {w : World} {K : PySem.W.Frag} {mg : Str → Option Value} {base : Heap}
theorem ok_alike {f : Addr} {fd : FuncData} (D : Def K mg "_law_alike" ["_law_found", "_law_due"] sAlike f fd) (B : Blts mg) : Cal P w K mg base 1 "_law_alike" spAlike := by
  refine cal_of D scAlike (fun vs H Q EX h => ?_) (fun cdv AA outer s H vs Q EX hr h => ?_)
  · obtain ⟨v, rfl, _⟩ := h
    rfl
  · obtain ⟨v, rfl, hv, q⟩ := h
    refine ⟨_, pss_cons (ps_if (pt_val (pe_callB call_isiT (by rfl) B.b_isinstance (by decide +kernel) (pa_cons (pv 1) (pa_cons (pe_tup (pa_cons (pe_bltn (v := .ty "tuple") (u := .type "tuple") (by rfl) B.b_tuple (by decide +kernel) rfl) (pa_cons (pe_bltn (v := .ty "list") (u := .type "list") (by rfl) B.b_list (by decide +kernel) rfl) pa_nil))) pa_nil)))) pss_never pss_nil)
      (pss_cons (ps_if (PW.pt (pw_or (pt_cmp (pc_isN (pv 1))) (pw_or1 (pt_val (pe_callB call_isi (by rfl) B.b_isinstance (by decide +kernel) (pa_cons (pv 1) (pa_cons (pe_bltn (v := .ty "str") (u := .type "str") (by rfl) B.b_str (by decide +kernel) rfl) pa_nil)))))))
        (pss_one (ps_ret (pe_and (pe_cmpR op_eq (pv 0) (pv 1) (nomark _)) (pe_one (pe_cmpR op_eq (pe_callB call_isi (by rfl) B.b_isinstance (by decide +kernel) (pa_cons (pv 0) (pa_cons (pe_bltn (v := .ty "str") (u := .type "str") (by rfl) B.b_str (by decide +kernel) rfl) pa_nil))) (pe_callB call_isi (by rfl) B.b_isinstance (by decide +kernel) (pa_cons (pv 1) (pa_cons (pe_bltn (v := .ty "str") (u := .type "str") (by rfl) B.b_str (by decide +kernel) rfl) pa_nil))) (nomark _)))))) pss_nil)
      (pss_one (ps_ret (pe_and (pe_callB call_isi (by rfl) B.b_isinstance (by decide +kernel) (pa_cons (pv 0) (pa_cons (pe_bltn (v := .ty "int") (u := .type "int") (by rfl) B.b_int (by decide +kernel) rfl) pa_nil)))
        (pe_and (pe_cmpR op_eq (pe_callB call_isi (by rfl) B.b_isinstance (by decide +kernel) (pa_cons (pv 0) (pa_cons (pe_bltn (v := .ty "bool") (u := .type "bool") (by rfl) B.b_bool (by decide +kernel) rfl) pa_nil))) (pe_callB call_isi (by rfl) B.b_isinstance (by decide +kernel) (pa_cons (pv 1) (pa_cons (pe_bltn (v := .ty "bool") (u := .type "bool") (by rfl) B.b_bool (by decide +kernel) rfl) pa_nil))) (nomark _))
          (pe_one (pe_cmpR op_eq (pv 0) (pv 1) (nomark _)))))))), ?_⟩
    rcases hv with ⟨i, rfl⟩ | rfl
    · refine ⟨_, rfl, by show 2 ≤ sizeLine; decide, fun p np => ⟨.int i, p, _, _, [.type "tuple", .type "list"], false, rfl, upd_same, .cons (.ty "tuple") (.cons (.ty "list") .nil), .base (.int i), kitAny_cons (kit_ty (b := "tuple") (r := false) (by decide +kernel)) (fun _ => kitAny_cons (kit_ty (b := "list") (r := false) (by decide +kernel)) (fun _ => kitAny_nil) (fun z => nomatch z)) (fun z => nomatch z), false, rfl, iteF ?_⟩⟩
      refine ⟨_, rfl, false, rfl, iteF ⟨.int i, rfl, _, _, _, _, false, rfl, .ty "str", .base (.int i), kit_ty (by decide +kernel), false, rfl, iteF ?_⟩⟩
      refine ⟨.int i, rfl, _, _, _, _, true, rfl, .ty "int", .base (.int i), kit_ty (by decide +kernel), true, rfl, iteT ?_⟩
      refine ⟨.int i, rfl, _, _, _, _, false, rfl, .ty "bool", .base (.int i), kit_ty (by decide +kernel), .int i, rfl, _, _, _, _, false, rfl, .ty "bool", .base (.int i), kit_ty (by decide +kernel), rfl, true, rfl, iteT ⟨_, rfl, _, rfl, rfl, ?_⟩⟩
      rw [decide_eq_true (rfl : V.int i = V.int i)]
      exact q _ (same_upd np)
    · refine ⟨_, rfl, by show 2 ≤ sizeLine; decide, fun p np => ⟨.non, p, _, _, [.type "tuple", .type "list"], false, rfl, upd_same, .cons (.ty "tuple") (.cons (.ty "list") .nil), .base .non, kitAny_cons (kit_ty (b := "tuple") (r := false) (by decide +kernel)) (fun _ => kitAny_cons (kit_ty (b := "list") (r := false) (by decide +kernel)) (fun _ => kitAny_nil) (fun z => nomatch z)) (fun z => nomatch z), false, rfl, iteF ?_⟩⟩
      refine ⟨_, rfl, true, rfl, iteT ?_⟩
      refine ⟨_, rfl, _, rfl, rfl, true, rfl, iteT ?_⟩
      refine ⟨.non, rfl, _, _, _, _, false, rfl, .ty "str", .base (.non), kit_ty (by decide +kernel), .non, rfl, _, _, _, _, false, rfl, .ty "str", .base (.non), kit_ty (by decide +kernel), rfl, ?_⟩
      exact q _ (same_upd np)
end
end Wr


/-! The law's own cost, as plain mathematics: the first one ahead, the first one back. -/
namespace Wr
open PySem PySem.Spec L2
theorem least_of {Pr : Nat → Prop} : ∀ N : Nat, Pr N → ∃ i, i ≤ N ∧ Pr i ∧ ∀ j, j < i → ¬ Pr j
  | N, h => by
    induction N using Nat.strongRecOn with
    | _ N ih =>
      by_cases q : ∃ j, j < N ∧ Pr j
      · obtain ⟨j, hj, pj⟩ := q
        obtain ⟨i, h1, h2, h3⟩ := ih j hj pj
        exact ⟨i, by omega, h2, h3⟩
      · exact ⟨N, Nat.le_refl _, h, fun j hj pj => q ⟨j, hj, pj⟩⟩
theorem first_iff {α : Type} (p q : α → Bool) : ∀ L : List α, ((L.filter p).take 1).filter q ≠ [] ↔ ∃ (i : Nat) (x : α), L[i]? = some x ∧ p x = true ∧ q x = true ∧ ∀ (j : Nat) (y : α), j < i → L[j]? = some y → p y = false
  | [] => by
    simp
  | a :: L => by
    by_cases e : p a = true
    · rw [List.filter_cons_of_pos e]
      show List.filter q (a :: List.take 0 _) ≠ [] ↔ _
      constructor
      · intro h
        have hq : q a = true := by
          by_cases z : q a = true
          · exact z
          · exact (h (by rw [List.filter_cons_of_neg z]; rfl)).elim
        exact ⟨0, a, rfl, e, hq, fun j y hj => absurd hj (Nat.not_lt_zero j)⟩
      · rintro ⟨i, x, h1, h2, h3, h4⟩
        have hi : i = 0 := by
          by_cases z : i = 0
          · exact z
          · have := h4 0 a (by omega) rfl
            rw [e] at this
            cases this
        subst hi
        cases h1
        rw [List.filter_cons_of_pos h3]
        exact fun z => nomatch z
    · have e' : p a = false := by simpa using e
      rw [List.filter_cons_of_neg e, first_iff p q L]
      constructor
      · rintro ⟨i, x, h1, h2, h3, h4⟩
        refine ⟨i + 1, x, h1, h2, h3, fun j y hj hy => ?_⟩
        cases j with
        | zero => cases hy; exact e'
        | succ j => exact h4 j y (by omega) hy
      · rintro ⟨i, x, h1, h2, h3, h4⟩
        cases i with
        | zero =>
          cases h1
          exact (e h2).elim
        | succ i => exact ⟨i, x, h1, h2, h3, fun j y hj hy => h4 (j + 1) y (by omega) hy⟩
theorem first_of (a b : Nat → Prop) (len : Nat) (hb : ∀ i, b i → ∃ i', i' ≤ i ∧ i' < len ∧ b i') :
    (∃ i, i < len ∧ (a i ∨ b i) ∧ ¬ a i ∧ ∀ j, j < i → ¬ (a j ∨ b j)) ↔ ∃ i, b i ∧ ∀ j, j ≤ i → ¬ a j := by
  constructor
  · rintro ⟨i, h1, h2, h3, h4⟩
    refine ⟨i, h2.resolve_left h3, fun j hj haj => ?_⟩
    by_cases e : j = i
    · exact h3 (e ▸ haj)
    · exact h4 j (by omega) (.inl haj)
  · rintro ⟨i, h1, h2⟩
    obtain ⟨i', h3, h4, h5⟩ := hb i h1
    obtain ⟨m, h6, h7, h8⟩ := least_of (Pr := fun j => a j ∨ b j) i' (.inr h5)
    exact ⟨m, by omega, h7, h2 m (by omega), h8⟩
theorem range_filter_lt (l : Nat) : ∀ m : Nat, l ≤ m → (List.range m).filter (fun i => decide (i < l)) = List.range l
  | 0, h => by
    have : l = 0 := by omega
    subst this
    rfl
  | m + 1, h => by
    rw [List.range_succ, List.filter_append]
    by_cases e : l ≤ m
    · rw [range_filter_lt l m e, List.filter_cons_of_neg (by simpa using e), List.filter_nil, List.append_nil]
    · have el : l = m + 1 := by omega
      subst el
      rw [List.filter_cons_of_pos (by simp), List.filter_nil, List.range_succ, List.filter_eq_self.mpr fun x hx => by
        have := List.mem_range.mp hx
        simpa using Nat.lt_succ_of_lt this]
section
variable {n : Nat} {ring : Bool} {A B : List Int} {k : Int}
/-- the lamps ahead of k, in order -/
def aheadL (n : Nat) (ring : Bool) (k : Int) : List Int := ((List.range ((n : Int) - 1).toNat).filter fun (i : Nat) => ring || decide (k + (1 + (i : Int)) < n)).map fun (i : Nat) => (k + (1 + (i : Int))) % (n : Int)
def backL (n : Nat) (ring : Bool) (k : Int) : List Int := ((List.range ((n : Int) - 1).toNat).filter fun (i : Nat) => ring || decide (0 ≤ k - (1 + (i : Int)))).map fun (i : Nat) => (k - (1 + (i : Int))) % (n : Int)
def aLen (n : Nat) (ring : Bool) (k : Int) : Nat := if ring = true then ((n : Int) - 1).toNat else ((n : Int) - 1 - k).toNat
def bLen (n : Nat) (ring : Bool) (k : Int) : Nat := if ring = true then ((n : Int) - 1).toNat else k.toNat
theorem filter_true {α : Type} {p : α → Bool} {l : List α} (h : ∀ x, p x = true) : l.filter p = l := List.filter_eq_self.mpr fun x _ => h x
theorem ahead_eq (k0 : 0 ≤ k) (k1 : k < n) : aheadL n ring k = (List.range (aLen n ring k)).map fun (i : Nat) => wr n ring (k + (1 + (i : Int))) := by
  unfold aheadL aLen
  cases ring with
  | true =>
    rw [filter_true fun i => by simp, if_pos rfl]
    rfl
  | false =>
    have e : (List.range ((n : Int) - 1).toNat).filter (fun (i : Nat) => false || decide (k + (1 + (i : Int)) < n)) = List.range ((n : Int) - 1 - k).toNat := by
      rw [← range_filter_lt ((n : Int) - 1 - k).toNat ((n : Int) - 1).toNat (by omega)]
      refine List.filter_congr fun i _ => ?_
      rw [Bool.false_or, decide_eq_decide]
      omega
    rw [e, if_neg (by decide)]
    refine List.map_congr_left fun i hi => ?_
    have := List.mem_range.mp hi
    exact Int.emod_eq_of_lt (by omega) (by omega)
theorem back_eq (k0 : 0 ≤ k) (k1 : k < n) : backL n ring k = (List.range (bLen n ring k)).map fun (i : Nat) => wr n ring (k - (1 + (i : Int))) := by
  unfold backL bLen
  cases ring with
  | true =>
    rw [filter_true fun i => by simp, if_pos rfl]
    rfl
  | false =>
    have e : (List.range ((n : Int) - 1).toNat).filter (fun (i : Nat) => false || decide (0 ≤ k - (1 + (i : Int)))) = List.range k.toNat := by
      rw [← range_filter_lt k.toNat ((n : Int) - 1).toNat (by omega)]
      refine List.filter_congr fun i _ => ?_
      rw [Bool.false_or, decide_eq_decide]
      omega
    rw [e, if_neg (by decide)]
    refine List.map_congr_left fun i hi => ?_
    have := List.mem_range.mp hi
    exact Int.emod_eq_of_lt (by omega) (by omega)
theorem sub_emod' (m c k : Int) : (k - c % m) % m = (k - c) % m := by
  have e : k - c % m = k - c + m * (c / m) := by
    have := Int.emod_add_mul_ediv c m
    omega
  rw [e, Int.add_mul_emod_self_left]
theorem add_emod' (m c k : Int) : (k + c % m) % m = (k + c) % m := by
  rw [Int.add_comm, Int.emod_add_emod, Int.add_comm]
theorem mod_le {c m : Int} (hc : 0 ≤ c) (hm : 0 ≤ m) : c % m ≤ c := by
  have h := Int.emod_add_mul_ediv c m
  have h2 : 0 ≤ m * (c / m) := Int.mul_nonneg hm (Int.ediv_nonneg hc hm)
  omega
/-- where it burns ahead, it burns within the lamps ahead -/
theorem within_a (hB : Stand n B) (k0 : 0 ≤ k) (k1 : k < n) (hk : k ∉ B) (i : Nat) (h : E n ring B (k + (1 + (i : Int)))) : ∃ i' : Nat, i' ≤ i ∧ i' < aLen n ring k ∧ E n ring B (k + (1 + (i' : Int))) := by
  unfold E aLen at *
  cases ring with
  | false =>
    have := hB.bd _ h
    rw [if_neg (by decide)]
    have h' : wr n false (k + (1 + (i : Int))) = k + (1 + (i : Int)) := rfl
    rw [h'] at this
    exact ⟨i, Nat.le_refl _, by omega, h⟩
  | true =>
    rw [if_pos rfl]
    have hn : (0 : Int) < n := by omega
    have d0 := Int.emod_nonneg (1 + (i : Int)) (show (n : Int) ≠ 0 by omega)
    have d1 := Int.emod_lt_of_pos (1 + (i : Int)) hn
    have h' : (k + (1 + (i : Int))) % (n : Int) ∈ B := h
    have e1 : (k + (1 + (i : Int)) % (n : Int)) % (n : Int) = (k + (1 + (i : Int))) % (n : Int) := add_emod' _ _ _
    have dn : (1 + (i : Int)) % (n : Int) ≠ 0 := fun z => by
      rw [z, Int.add_zero, Int.emod_eq_of_lt k0 k1] at e1
      rw [← e1] at h'
      exact hk h'
    have dl : (1 + (i : Int)) % (n : Int) ≤ 1 + (i : Int) := mod_le (by omega) (by omega)
    refine ⟨((1 + (i : Int)) % (n : Int) - 1).toNat, by omega, by omega, ?_⟩
    show (k + (1 + ((((1 + (i : Int)) % (n : Int) - 1).toNat : Nat) : Int))) % (n : Int) ∈ B
    rw [show (1 + ((((1 + (i : Int)) % (n : Int) - 1).toNat : Nat) : Int)) = (1 + (i : Int)) % (n : Int) by omega, e1]
    exact h'
theorem within_b (hA : Stand n A) (k0 : 0 ≤ k) (k1 : k < n) (hk : k ∉ A) (i : Nat) (h : E n ring A (k - (1 + (i : Int)))) : ∃ i' : Nat, i' ≤ i ∧ i' < bLen n ring k ∧ E n ring A (k - (1 + (i' : Int))) := by
  unfold E bLen at *
  cases ring with
  | false =>
    have := hA.bd _ h
    rw [if_neg (by decide)]
    have h' : wr n false (k - (1 + (i : Int))) = k - (1 + (i : Int)) := rfl
    rw [h'] at this
    exact ⟨i, Nat.le_refl _, by omega, h⟩
  | true =>
    rw [if_pos rfl]
    have hn : (0 : Int) < n := by omega
    have d0 := Int.emod_nonneg (1 + (i : Int)) (show (n : Int) ≠ 0 by omega)
    have d1 := Int.emod_lt_of_pos (1 + (i : Int)) hn
    have h' : (k - (1 + (i : Int))) % (n : Int) ∈ A := h
    have e1 : (k - (1 + (i : Int)) % (n : Int)) % (n : Int) = (k - (1 + (i : Int))) % (n : Int) := sub_emod' _ _ _
    have dn : (1 + (i : Int)) % (n : Int) ≠ 0 := fun z => by
      rw [z, Int.sub_zero, Int.emod_eq_of_lt k0 k1] at e1
      rw [← e1] at h'
      exact hk h'
    have dl : (1 + (i : Int)) % (n : Int) ≤ 1 + (i : Int) := mod_le (by omega) (by omega)
    refine ⟨((1 + (i : Int)) % (n : Int) - 1).toNat, by omega, by omega, ?_⟩
    show (k - (1 + ((((1 + (i : Int)) % (n : Int) - 1).toNat : Nat) : Int))) % (n : Int) ∈ A
    rw [show (1 + ((((1 + (i : Int)) % (n : Int) - 1).toNat : Nat) : Int)) = (1 + (i : Int)) % (n : Int) by omega, e1]
    exact h'
/-- the test of the first one -/
def firstB (S T : List Int) (L : List Int) (U : List Int) : Bool := !decide ((((L.filter fun j => decide (j ∈ S) || decide (j ∈ T)).take 1).filter fun j => !decide (j ∈ U)) = [])
theorem first_places (S T U : List Int) (f : Nat → Int) (len : Nat) :
    firstB S T ((List.range len).map f) U = true ↔ ∃ i, i < len ∧ (f i ∈ S ∨ f i ∈ T) ∧ f i ∉ U ∧ ∀ j, j < i → ¬ (f j ∈ S ∨ f j ∈ T) := by
  unfold firstB
  rw [Bool.not_eq_true', decide_eq_false_iff_not]
  show (_ ≠ []) ↔ _
  rw [first_iff]
  constructor
  · rintro ⟨i, x, h1, h2, h3, h4⟩
    rw [List.getElem?_map] at h1
    obtain ⟨y, hy, rfl⟩ := Option.map_eq_some_iff.mp h1
    have hi : i < len := by
      by_cases z : i < len
      · exact z
      · rw [List.getElem?_eq_none (by rw [List.length_range]; omega)] at hy
        cases hy
    rw [List.getElem?_range hi] at hy
    cases hy
    refine ⟨i, hi, by simpa using h2, by simpa using h3, fun j hj => ?_⟩
    have := h4 j (f j) hj (by rw [List.getElem?_map, List.getElem?_range (by omega)]; rfl)
    simpa using this
  · rintro ⟨i, h1, h2, h3, h4⟩
    refine ⟨i, f i, by rw [List.getElem?_map, List.getElem?_range h1]; rfl, by simpa using h2, by simpa using h3, fun j y hj hy => ?_⟩
    rw [List.getElem?_map, List.getElem?_range (by omega)] at hy
    cases hy
    simpa using h4 j hj
theorem next_test (hB : Stand n B) (k0 : 0 ≤ k) (k1 : k < n) (hk : k ∉ B) : firstB A B (aheadL n ring k) A = true ↔ nextN (E n ring A) (E n ring B) k := by
  rw [ahead_eq k0 k1, first_places]
  have h := first_of (fun i => E n ring A (k + (1 + (i : Int)))) (fun i => E n ring B (k + (1 + (i : Int)))) (aLen n ring k) fun i hi => within_a hB k0 k1 hk i hi
  refine Iff.trans h ?_
  unfold nextN
  constructor
  · rintro ⟨i, h1, h2⟩
    refine ⟨1 + (i : Int), by omega, h1, fun t t1 t2 => ?_⟩
    have := h2 (t - 1).toNat (by omega)
    rw [show 1 + (((t - 1).toNat : Nat) : Int) = t by omega] at this
    exact this
  · rintro ⟨s, s1, h1, h2⟩
    refine ⟨(s - 1).toNat, ?_, fun j hj => h2 (1 + (j : Int)) (by omega) (by omega)⟩
    rw [show 1 + (((s - 1).toNat : Nat) : Int) = s by omega]
    exact h1
theorem prev_test (hA : Stand n A) (k0 : 0 ≤ k) (k1 : k < n) (hk : k ∉ A) : firstB A B (backL n ring k) B = true ↔ prevO (E n ring A) (E n ring B) k := by
  rw [back_eq k0 k1, first_places]
  have h := first_of (fun i => E n ring B (k - (1 + (i : Int)))) (fun i => E n ring A (k - (1 + (i : Int)))) (bLen n ring k) fun i hi => within_b hA k0 k1 hk i hi
  refine Iff.trans ?_ (Iff.trans h ?_)
  · refine exists_congr fun i => and_congr_right fun _ => ?_
    exact and_congr Or.comm (and_congr_right fun _ => forall_congr' fun j => imp_congr_right fun _ => not_congr Or.comm)
  · unfold prevO
    constructor
    · rintro ⟨i, h1, h2⟩
      refine ⟨1 + (i : Int), by omega, h1, fun t t1 t2 => ?_⟩
      have := h2 (t - 1).toNat (by omega)
      rw [show 1 + (((t - 1).toNat : Nat) : Int) = t by omega] at this
      exact this
    · rintro ⟨s, s1, h1, h2⟩
      refine ⟨(s - 1).toNat, ?_, fun j hj => h2 (1 + (j : Int)) (by omega) (by omega)⟩
      rw [show 1 + (((s - 1).toNat : Nat) : Int) = s by omega]
      exact h1
/-- what a lamp adds -/
theorem cost_is (hA : Stand n A) (hB : Stand n B) (k0 : 0 ≤ k) (k1 : k < n) : cost (E n ring A) (E n ring B) k =
    if decide (k ∈ A) = decide (k ∈ B) then (if k ∈ A then 0 else if (firstB A B (aheadL n ring k) A || firstB A B (backL n ring k) B) = true then 2 else 0) else 1 := by
  have a := E_lamp (n := n) (ring := ring) (S := A) k0 k1
  have b := E_lamp (n := n) (ring := ring) (S := B) k0 k1
  by_cases hA1 : k ∈ A
  · by_cases hB1 : k ∈ B
    · rw [cost_both (a.mpr hA1) (b.mpr hB1), if_pos (by simp [hA1, hB1]), if_pos hA1]
    · rw [cost_ne (fun z => hB1 (b.mp (z.mp (a.mpr hA1)))), if_neg (by simp [hA1, hB1])]
  · by_cases hB1 : k ∈ B
    · rw [cost_ne (fun z => hA1 (a.mp (z.mpr (b.mpr hB1)))), if_neg (by simp [hA1, hB1])]
    · rw [if_pos (by simp [hA1, hB1]), if_neg hA1]
      have na : ¬ E n ring A k := fun z => hA1 (a.mp z)
      have nb : ¬ E n ring B k := fun z => hB1 (b.mp z)
      by_cases q : nextN (E n ring A) (E n ring B) k ∨ prevO (E n ring A) (E n ring B) k
      · rw [cost_two na nb q, if_pos]
        rw [Bool.or_eq_true]
        exact q.imp (next_test hB k0 k1 hB1).mpr (prev_test hA k0 k1 hA1).mpr
      · rw [cost_zero na nb q, if_neg]
        rw [Bool.or_eq_true]
        exact fun z => q (z.imp (next_test hB k0 k1 hB1).mp (prev_test hA k0 k1 hA1).mp)
end
end Wr


/-! _law_row_cost -/
namespace Wr
open PySem PySem.Spec L2
theorem one_test {K : PySem.W.Frag} {n : Nat} {A B : List Int} {b : Addr} {i3 i11 : Nat} {σ : St} (h3 : σ[i3]? = some (some (.ref b))) (j : Int) (h11 : σ[i11]? = some (some (.int j))) (H' : Hp) (Qt : Bool → Hp → Prop) (hB : StAt n H' b B) (qt : ∀ H'', Same H' H'' → Qt (decide (j ∈ A) || decide (j ∈ B)) H'') :
    if decide (j ∈ A) = true then Qt true H' else tTest (tOp (fun x y H Q => ∃ (k : Int) (p : Addr) (S : List Int), x = .int k ∧ y = .ref p ∧ (H p = some (.lst (S.map V.int)) ∨ H p = some (.tup (S.map V.int))) ∧ Q (.bl (decide (k ∈ S))) H) (tVar i11) (tVar i3)) σ H' Qt := by
  by_cases q1 : j ∈ A
  · rw [decide_eq_true q1, Bool.true_or] at qt
    rw [decide_eq_true q1]
    exact iteT (qt _ (Same.refl _))
  · rw [decide_eq_false q1, Bool.false_or] at qt
    rw [decide_eq_false q1]
    exact iteF ⟨_, h11, _, h3, j, b, B, rfl, rfl, .inr hB.1, _, rfl, qt _ (Same.refl _)⟩
theorem cut_one (xs : List V) : cutV xs none (some 1) = xs.take 1 := by
  cases xs with
  | nil =>
    unfold cutV
    rw [List.drop_nil, List.take_nil, List.take_nil]
  | cons x xs => exact cut_to (x :: xs) 1 (by simp)
theorem aheadL_len (n : Nat) (ring : Bool) (k : Int) : (aheadL n ring k).length ≤ n := by
  unfold aheadL
  rw [List.length_map]
  refine Nat.le_trans (List.length_filter_le _ _) ?_
  rw [List.length_range]
  omega
theorem backL_len (n : Nat) (ring : Bool) (k : Int) : (backL n ring k).length ≤ n := by
  unfold backL
  rw [List.length_map]
  refine Nat.le_trans (List.length_filter_le _ _) ?_
  rw [List.length_range]
  omega
section
variable {P : Program} {w : World} {K : PySem.W.Frag} {mg : Str → Option Value} {base : Heap}
theorem ok_row_cost {f : Addr} {fd : FuncData} (D : Def K mg "_law_row_cost" ["_law_many", "_law_is_ring", "_law_one", "_law_other"] sRowCost f fd) (B : Blts mg) : Cal P w K mg base 1 "_law_row_cost" spRowCost := by
  refine cal_of D scRowCost (fun vs H Q EX h => ?_) (fun cdv AA outer s H vs Q EX hr h => ?_)
  · obtain ⟨n, ring, a, b, A, B, rfl, _⟩ := h
    rfl
  · obtain ⟨n, ring, a, b, A, B', rfl, n1, n40, hn, hA, hB, q⟩ := h
    have nd := scRowCost.nd
    have hu := hr.units
    refine ⟨_, pss_cons (ps_if (PW.pt (pw_or (pt_cmpR (op_eqD hu) (pv 2) (pe_tup pa_nil) (nomark _)) (pw_or1 (pt_cmpR (op_eqD hu) (pv 3) (pe_tup pa_nil) (nomark _)))))
        (pss_one (ps_ret (pe_ifExp (pt_cmpR (op_eqD hu) (pv 2) (pv 3) (nomark _)) pe_int pe_non))) pss_nil)
      (pss_cons (ps_if (PW.pt (pw_and (pt_not (pt_val (pv 1))) (pw_and1 (PW.pt (pw_or (pt_cmpR op_lt (pe_ix ix_tup (pv 3) pe_int (fun _ _ => rfl)) (pe_ix ix_tup (pv 2) pe_int (fun _ _ => rfl)) (nomark _))
          (pw_or1 (pt_cmpR op_lt (pe_ix ix_tup (pv 3) (pe_un un_neg pe_int) (fun _ _ => rfl)) (pe_ix ix_tup (pv 2) (pe_un un_neg pe_int) (fun _ _ => rfl)) (nomark _)))))))) (pss_one (ps_ret pe_non)) pss_nil)
      (pss_cons (ps_set (i := 4) nd rfl (.inl rfl) pe_int)
      (pss_cons (ps_for PassesOwn.never rfl (pi_range1 (by rfl) B.b_range (pa_cons (pv 0) pa_nil)) (pg_name (i := 5) nd rfl (.inr rfl))
        (pss_one (ps_if (pt_cmpR op_ne (pe_cmpR op_inI (pv 5) (pv 2) rfl) (pe_cmpR op_inI (pv 5) (pv 3) rfl) (nomark _))
          (pss_one (ps_set (i := 4) nd rfl (.inl rfl) (pe_op op_add (pv 4) pe_int)))
          (pss_one (ps_if (pt_cmpR op_notInI (pv 5) (pv 2) rfl)
            (pss_cons (ps_setLc (i := 6) (own := [("_law_step", 10)]) (g := gName 10) (by rfl) nd rfl rfl (sw_true rfl rfl rfl (by decide +kernel)) (pi_range2 (by rfl) B.b_range (pa_cons pe_int (pa_cons (pv 0) pa_nil))) (blkOk_by (N := nRowCost) (sc := defScope sRowCost) (by decide +kernel)) (fun _ _ _ _ _ => pg_name (i := 10) nd rfl (Or.inl rfl))
            (fun _ _ _ _ _ => pts_one (PW.pt (pw_or (pt_val (pv 1)) (pw_or1 (pt_cmpR op_lt (pe_op op_add (pv 5) (pv 10)) (pv 0) (nomark _)))))) (fun _ _ _ _ _ => pe_op op_mod (pe_callTy call_int1 (by rfl) B.b_int (by decide +kernel) (pa_cons (pe_op op_add (pv 5) (pv 10)) pa_nil)) (pv 0)))
            (pss_cons (ps_setLc (i := 7) (own := [("_law_step", 10)]) (g := gName 10) (by rfl) nd rfl rfl (sw_true rfl rfl rfl (by decide +kernel)) (pi_range2 (by rfl) B.b_range (pa_cons pe_int (pa_cons (pv 0) pa_nil))) (blkOk_by (N := nRowCost) (sc := defScope sRowCost) (by decide +kernel)) (fun _ _ _ _ _ => pg_name (i := 10) nd rfl (Or.inl rfl))
            (fun _ _ _ _ _ => pts_one (PW.pt (pw_or (pt_val (pv 1)) (pw_or1 (pt_cmpR op_ge (pe_op op_sub (pv 5) (pv 10)) pe_int (nomark _)))))) (fun _ _ _ _ _ => pe_op op_mod (pe_callTy call_int1 (by rfl) B.b_int (by decide +kernel) (pa_cons (pe_op op_sub (pv 5) (pv 10)) pa_nil)) (pv 0)))
            (pss_cons (ps_set (i := 8) nd rfl (.inl rfl) (pe_slice sl_list (pe_lc (own := [("_law_j", 11)]) (g := gName 11) (by rfl) nd (pi_list (pv 6)) (blkOk_by (N := nRowCost) (sc := defScope sRowCost) (by decide +kernel)) (fun _ _ _ _ _ => pg_name (i := 11) nd rfl (Or.inl rfl))
            (fun _ _ _ _ _ => pts_one (PW.pt (pw_or (pt_cmpR op_inI (pv 11) (pv 2) rfl) (pw_or1 (pt_cmpR op_inI (pv 11) (pv 3) rfl))))) (fun _ _ _ _ _ => pv 11)) po_none (po_some pe_int)))
            (pss_cons (ps_set (i := 9) nd rfl (.inl rfl) (pe_slice sl_list (pe_lc (own := [("_law_j", 11)]) (g := gName 11) (by rfl) nd (pi_list (pv 7)) (blkOk_by (N := nRowCost) (sc := defScope sRowCost) (by decide +kernel)) (fun _ _ _ _ _ => pg_name (i := 11) nd rfl (Or.inl rfl))
            (fun _ _ _ _ _ => pts_one (PW.pt (pw_or (pt_cmpR op_inI (pv 11) (pv 2) rfl) (pw_or1 (pt_cmpR op_inI (pv 11) (pv 3) rfl))))) (fun _ _ _ _ _ => pv 11)) po_none (po_some pe_int)))
            (pss_one (ps_if (PW.pt (pw_or (pt_cmpR (op_neD hu) (pe_lc (own := [("_law_j", 11)]) (g := gName 11) (by rfl) nd (pi_list (pv 8)) (blkOk_by (N := nRowCost) (sc := defScope sRowCost) (by decide +kernel)) (fun _ _ _ _ _ => pg_name (i := 11) nd rfl (Or.inl rfl))
            (fun _ _ _ _ _ => pts_one (pt_cmpR op_notInI (pv 11) (pv 2) rfl)) (fun _ _ _ _ _ => pv 11)) (pe_lst pa_nil) (nomark _)) (pw_or1 (pt_cmpR (op_neD hu) (pe_lc (own := [("_law_j", 11)]) (g := gName 11) (by rfl) nd (pi_list (pv 9)) (blkOk_by (N := nRowCost) (sc := defScope sRowCost) (by decide +kernel)) (fun _ _ _ _ _ => pg_name (i := 11) nd rfl (Or.inl rfl))
            (fun _ _ _ _ _ => pts_one (pt_cmpR op_notInI (pv 11) (pv 3) rfl)) (fun _ _ _ _ _ => pv 11)) (pe_lst pa_nil) (nomark _)))))
              (pss_one (ps_set (i := 4) nd rfl (.inl rfl) (pe_op op_add (pv 4) pe_int))) pss_nil)))))) pss_nil)))))
      (pss_one (ps_ret (pv 4)))))), ?_⟩
    refine ⟨_, rfl, Nat.zero_le _, fun p np => ?_⟩
    have s1 : Same H (upd H p (.tup [])) := same_upd np
    refine ⟨_, _, dp_t (s1 _ _ hA.1), dp_t (S := []) upd_same, shaped_t _, shaped_t _, _, rfl, ?_⟩
    rw [eqv_t]
    -- the way where one is empty
    have emp : ∀ H' : Hp, Same H H' → (A = [] ∨ B' = []) → tRet (tIf (tTest (tOp (rEqD K) (tVar 2) (tVar 3))) (tC (.int 0)) (tC .non)) { nx := fun _ H' => Q .non H', rt := Q } (L2.start nRowCost [.int n, .bl ring, .ref a, .ref b]) H' := fun H' sm he => by
      have iff := comes_nil (ring := ring) hA.2 hB.2 he
      refine ⟨_, rfl, _, rfl, _, _, dp_t (sm _ _ hA.1), dp_t (sm _ _ hB.1), shaped_t _, shaped_t _, _, rfl, ?_⟩
      rw [eqv_t]
      refine ite2 (fun e => ?_) (fun e => ?_)
      · have e := of_decide_eq_true e
        exact q H' _ sm (.inl ⟨0, by rw [← e]; exact dist_self n ring A, rfl⟩)
      · exact q H' _ sm (.inr ⟨fun c hc => e (decide_eq_true (iff.mp ⟨hc.f1, hc.f2⟩)), rfl⟩)
    refine ite2 (fun e => ?_) (fun e => ?_)
    · exact iteT (emp _ s1 (.inl (of_decide_eq_true e)))
    · have hA0 : A ≠ [] := fun z => e (decide_eq_true z)
      refine ⟨_, rfl, Nat.zero_le _, fun p2 np2 => ?_⟩
      have s2 : Same H (upd (upd H p (.tup [])) p2 (.tup [])) := s1.trans (same_upd np2)
      refine ⟨_, _, dp_t (s2 _ _ hB.1), dp_t (S := []) upd_same, shaped_t _, shaped_t _, _, rfl, ?_⟩
      rw [eqv_t]
      refine ite2 (fun e => ?_) (fun e => ?_)
      · exact emp _ s2 (.inr (of_decide_eq_true e))
      · have hB0 : B' ≠ [] := fun z => e (decide_eq_true z)
        generalize upd (upd H p (.tup [])) p2 (.tup []) = Hb at s2 ⊢
        obtain ⟨a0, al, h1, h2, h3, h4⟩ := ends_of hA0
        obtain ⟨b0, bl, g1, g2, g3, g4⟩ := ends_of hB0
        have test : ∀ Kt : Bool → Hp → Prop, (Comes n ring A B' → Kt false Hb) → (¬ Comes n ring A B' → Kt true Hb) → tAnd (tNot (tB (tVar 1))) (tOr (tTest (tOp (rI0 fun i j => V.bl (decide (i < j))) (tOp (rIxT K) (tVar 3) (tC (V.int 0))) (tOp (rIxT K) (tVar 2) (tC (V.int 0)))))
            (tTest (tOp (rI0 fun i j => V.bl (decide (i < j))) (tOp (rIxT K) (tVar 3) (tUn (rU fun i => V.int (-i)) (tC (V.int 1)))) (tOp (rIxT K) (tVar 2) (tUn (rU fun i => V.int (-i)) (tC (V.int 1))))))) (L2.start nRowCost [.int n, .bl ring, .ref a, .ref b]) Hb Kt := fun Kt k1 k2 => by
          refine ⟨_, rfl, ring, rfl, ?_⟩
          cases ring with
          | true => exact iteF (k1 (comes_ring (by omega) hA.2 hB.2 hA0 hB0))
          | false =>
            have iff := comes_row hA.2 hB.2 h1 h2 g1 g2
            refine iteT ⟨_, rfl, b, _, _, _, rfl, rfl, SqT.of (s2 _ _ hB.1), g3, _, rfl, a, _, _, _, rfl, rfl, SqT.of (s2 _ _ hA.1), h3, _, _, rfl, rfl, _, rfl, ite2 (fun e => ?_) (fun e => ?_)⟩
            · have e' := of_decide_eq_true e
              exact k2 fun hc => by have := (iff.mp hc).1; omega
            · have e' : ¬ (b0 < a0) := fun z => e (decide_eq_true z)
              refine ⟨_, rfl, 1, rfl, b, _, _, _, rfl, rfl, SqT.of (s2 _ _ hB.1), g4, _, rfl, 1, rfl, a, _, _, _, rfl, rfl, SqT.of (s2 _ _ hA.1), h4, _, _, rfl, rfl, _, rfl, ?_⟩
              by_cases e2 : bl < al
              · rw [decide_eq_true e2]
                exact k2 fun hc => by have := (iff.mp hc).2; omega
              · rw [decide_eq_false e2]
                exact k1 (iff.mpr ⟨by omega, by omega⟩)
        refine test _ (fun hc => iteF ?_) (fun hc => iteT (q Hb _ s2 (.inr ⟨fun c hd => hc ⟨hd.f1, hd.f2⟩, rfl⟩)))
        -- over the lamps
        refine ⟨_, rfl, (n : Int), rfl, by omega, by omega, for_it (n := ((n : Int)).toNat) walk_range (fun i σ H' => ∃ (c : Nat) (x5 x6 x7 x8 x9 x10 x11 : Option V), c = sumN (cost (E n ring A) (E n ring B')) i ∧
          σ = [some (.int n), some (.bl ring), some (.ref a), some (.ref b), some (.int c), x5, x6, x7, x8, x9, x10, x11] ∧ Same H H') ⟨0, _, _, _, _, _, _, _, rfl, rfl, s2⟩ (fun _ _ _ _ _ => trivial) ?_ ?_⟩
        · rintro i x σ Hx H0 hi ⟨c, x5, x6, x7, x8, x9, x10, x11, ec, rfl, sH0'⟩ ⟨rfl, hx⟩
          replace hx : x = V.int (0 + (i : Int)) := hx
          subst hx
          have hi' : i < n := hi
          have ekk : (0 : Int) + (i : Int) = (i : Int) := Int.zero_add _
          have b0 : (0 : Int) ≤ 0 + (i : Int) := by omega
          have b1 : (0 : Int) + (i : Int) < (n : Int) := by omega
          have hcost := cost_is (ring := ring) hA.2 hB.2 b0 b1
          have hsum := sumN_succ (cost (E n ring A) (E n ring B')) i
          rw [← ec, ← ekk] at hsum
          generalize (0 : Int) + (i : Int) = kk at b0 b1 hcost hsum ⊢
          refine ⟨_, rfl, _, rfl, kk, a, A, rfl, rfl, .inr (sH0' _ _ hA.1), _, rfl, _, rfl, kk, b, B', rfl, rfl, .inr (sH0' _ _ hB.1), rfl, _, rfl, ite2 (fun e => ?_) (fun e => ?_)⟩
          · have ne : ¬ decide (kk ∈ A) = decide (kk ∈ B') := fun z => by
              rw [z] at e
              simp at e
            rw [if_neg ne] at hcost
            rw [hcost] at hsum
            exact ⟨_, rfl, _, _, rfl, rfl, c + 1, _, _, _, _, _, _, _, hsum.symm, rfl, sH0'⟩
          · have eq : decide (kk ∈ A) = decide (kk ∈ B') := by
              by_cases z : decide (kk ∈ A) = decide (kk ∈ B')
              · exact z
              · exact (e (by simpa using z)).elim
            rw [if_pos eq] at hcost
            refine ⟨_, rfl, _, rfl, kk, a, A, rfl, rfl, .inr (sH0' _ _ hA.1), _, rfl, ite2 (fun e2 => ?_) (fun e2 => ?_)⟩
            · have hkA : kk ∉ A := by simpa using e2
              rw [if_neg hkA] at hcost
              rw [hcost] at hsum
              clear hcost
              have lenla : (aheadL n ring kk).length ≤ 1000 := Nat.le_trans (aheadL_len n ring kk) (by omega)
              have lenlb : (backL n ring kk).length ≤ 1000 := Nat.le_trans (backL_len n ring kk) (by omega)
              refine ⟨_, rfl, 1, (n : Int), rfl, ⟨by omega, by omega, by omega, by omega⟩, fun la nla => lc_pure (L := List.range ((n : Int) - 1).toNat) (e := fun (j : Nat) => V.int (1 + (j : Int))) (p := fun (j : Nat) => ring || decide (kk + (1 + (j : Int)) < n)) (g := fun (j : Nat) => V.int ((kk + (1 + (j : Int))) % (n : Int))) wl_range (fun _ _ => trivial)
                (fun j H' Qt hj s qt => ?_) (fun j H' Qe hj hp s qe => ⟨_, rfl, _, rfl, _, _, rfl, rfl, .inl ⟨_, rfl, _, rfl, _, _, rfl, rfl, by omega, qe _ (Same.refl _)⟩⟩) (by rw [List.length_range]; omega) nla fun H1 sH1 ela => ?_⟩
              · refine ⟨_, rfl, ring, rfl, ?_⟩
                cases ring with
                | true => exact iteT (qt _ (Same.refl _))
                | false => exact iteF ⟨_, rfl, _, rfl, _, _, rfl, rfl, _, rfl, _, _, rfl, rfl, _, rfl, qt _ (Same.refl _)⟩
              replace ela : H1 la = some (.lst ((aheadL n ring kk).map V.int)) := by
                rw [ela]
                unfold aheadL fm
                rw [List.map_map]
                rfl
              have sH1' := sH0'.trans sH1
              refine ⟨_, rfl, 1, (n : Int), rfl, ⟨by omega, by omega, by omega, by omega⟩, fun lb nlb => lc_pure (L := List.range ((n : Int) - 1).toNat) (e := fun (j : Nat) => V.int (1 + (j : Int))) (p := fun (j : Nat) => ring || decide (0 ≤ kk - (1 + (j : Int)))) (g := fun (j : Nat) => V.int ((kk - (1 + (j : Int))) % (n : Int))) wl_range (fun _ _ => trivial)
                (fun j H' Qt hj s qt => ?_) (fun j H' Qe hj hp s qe => ⟨_, rfl, _, rfl, _, _, rfl, rfl, .inl ⟨_, rfl, _, rfl, _, _, rfl, rfl, by omega, qe _ (Same.refl _)⟩⟩) (by rw [List.length_range]; omega) nlb fun H2 sH2 elb => ?_⟩
              · refine ⟨_, rfl, ring, rfl, ?_⟩
                cases ring with
                | true => exact iteT (qt _ (Same.refl _))
                | false => exact iteF ⟨_, rfl, _, rfl, _, _, rfl, rfl, _, _, rfl, rfl, _, rfl, qt _ (Same.refl _)⟩
              replace elb : H2 lb = some (.lst ((backL n ring kk).map V.int)) := by
                rw [elb]
                unfold backL fm
                rw [List.map_map]
                rfl
              have sH2' := sH1'.trans sH2
              replace ela := sH2 _ _ ela
              refine ⟨_, rfl, la, rfl, ⟨_, SqL.of ela⟩, fun lc nlc => lc_pure (L := aheadL n ring kk) (e := V.int) (p := fun j => decide (j ∈ A) || decide (j ∈ B')) (g := V.int) wl_list (fun H' s => s _ _ ela)
                (fun j H' Qt hj s qt => ⟨_, rfl, _, rfl, j, a, A, rfl, rfl, .inr ((sH2'.trans s) _ _ hA.1), _, rfl, one_test (K := K) rfl j rfl _ _ (hB.same (sH2'.trans s)) qt⟩) (fun j H' Qe hj hp s qe => ⟨_, rfl, qe _ (Same.refl _)⟩) (lenla) nlc fun H3 sH3 elc => ?_⟩
              have sH3' := sH2'.trans sH3
              refine ⟨1, rfl, lc, _, rfl, SqL.of elc, fun pn npn => ?_⟩
              rw [cut_one]
              have sH4 := same_upd (o := .lst ((fm (fun j => decide (j ∈ A) || decide (j ∈ B')) V.int (aheadL n ring kk)).take 1)) npn
              have epn : upd H3 pn (.lst ((fm (fun j => decide (j ∈ A) || decide (j ∈ B')) V.int (aheadL n ring kk)).take 1)) pn = some (.lst ((((aheadL n ring kk).filter fun j => decide (j ∈ A) || decide (j ∈ B')).take 1).map V.int)) := by
                rw [upd_same, fm_int, List.map_take]
              have sH4' := sH3'.trans sH4
              generalize upd H3 pn (.lst ((fm (fun j => decide (j ∈ A) || decide (j ∈ B')) V.int (aheadL n ring kk)).take 1)) = H4 at sH4 epn sH4' ⊢
              replace elb := sH4 _ _ (sH3 _ _ elb)
              refine ⟨_, rfl, lb, rfl, ⟨_, SqL.of elb⟩, fun ld nld => lc_pure (L := backL n ring kk) (e := V.int) (p := fun j => decide (j ∈ A) || decide (j ∈ B')) (g := V.int) wl_list (fun H' s => s _ _ elb)
                (fun j H' Qt hj s qt => ⟨_, rfl, _, rfl, j, a, A, rfl, rfl, .inr ((sH4'.trans s) _ _ hA.1), _, rfl, one_test (K := K) rfl j rfl _ _ (hB.same (sH4'.trans s)) qt⟩) (fun j H' Qe hj hp s qe => ⟨_, rfl, qe _ (Same.refl _)⟩) (lenlb) nld fun H5 sH5 eld => ?_⟩
              have sH5' := sH4'.trans sH5
              refine ⟨1, rfl, ld, _, rfl, SqL.of eld, fun pl npl => ?_⟩
              rw [cut_one]
              have sH6 := same_upd (o := .lst ((fm (fun j => decide (j ∈ A) || decide (j ∈ B')) V.int (backL n ring kk)).take 1)) npl
              have epl : upd H5 pl (.lst ((fm (fun j => decide (j ∈ A) || decide (j ∈ B')) V.int (backL n ring kk)).take 1)) pl = some (.lst ((((backL n ring kk).filter fun j => decide (j ∈ A) || decide (j ∈ B')).take 1).map V.int)) := by
                rw [upd_same, fm_int, List.map_take]
              have sH6' := sH5'.trans sH6
              generalize upd H5 pl (.lst ((fm (fun j => decide (j ∈ A) || decide (j ∈ B')) V.int (backL n ring kk)).take 1)) = H6 at sH6 epl sH6' ⊢
              replace epn := sH6 _ _ (sH5 _ _ epn)
              have hfin : c + (if (firstB A B' (aheadL n ring kk) A || firstB A B' (backL n ring kk) B') = true then 2 else 0) = sumN (cost (E n ring A) (E n ring B')) (i + 1) := hsum.symm
              refine ⟨_, rfl, pn, rfl, ⟨_, SqL.of epn⟩, fun le nle => lc_pure (L := ((aheadL n ring kk).filter fun j => decide (j ∈ A) || decide (j ∈ B')).take 1) (e := V.int) (p := fun j => !decide (j ∈ A)) (g := V.int) wl_list (fun H' s => s _ _ epn)
                (fun j H' Qt hj s qt => ⟨_, rfl, _, rfl, j, a, A, rfl, rfl, .inr ((sH6'.trans s) _ _ hA.1), _, rfl, qt _ (Same.refl _)⟩) (fun j H' Qe hj hp s qe => ⟨_, rfl, qe _ (Same.refl _)⟩) (by rw [List.length_take]; omega) nle fun H7 sH7 ele => ⟨Nat.zero_le _, fun pe npe => ⟨_, _, dp_l (S := (((aheadL n ring kk).filter fun j => decide (j ∈ A) || decide (j ∈ B')).take 1).filter fun j => !decide (j ∈ A)) (same_upd npe _ _ ele), dp_l (S := []) upd_same, shaped_l _, shaped_l _, _, rfl, ?_⟩⟩⟩
              rw [eqv_l]
              have sH8' := (sH6'.trans sH7).trans (same_upd (o := .lst []) npe)
              change (if (firstB A B' (aheadL n ring kk) A) = true then _ else _)
              refine ite2 (fun t1 => ?_) (fun t1 => ?_)
              · rw [t1, Bool.true_or, if_pos rfl] at hfin
                exact iteT ⟨_, rfl, _, _, rfl, rfl, c + 2, _, _, _, _, _, _, _, hfin, rfl, sH8'⟩
              · have t1' : firstB A B' (aheadL n ring kk) A = false := by simpa using t1
                rw [t1', Bool.false_or] at hfin
                replace epl := (same_upd (o := .lst []) npe) _ _ (sH7 _ _ epl)
                refine ⟨_, rfl, pl, rfl, ⟨_, SqL.of epl⟩, fun lf nlf => lc_pure (L := ((backL n ring kk).filter fun j => decide (j ∈ A) || decide (j ∈ B')).take 1) (e := V.int) (p := fun j => !decide (j ∈ B')) (g := V.int) wl_list (fun H' s => s _ _ epl)
                  (fun j H' Qt hj s qt => ⟨_, rfl, _, rfl, j, b, B', rfl, rfl, .inr ((sH8'.trans s) _ _ hB.1), _, rfl, qt _ (Same.refl _)⟩) (fun j H' Qe hj hp s qe => ⟨_, rfl, qe _ (Same.refl _)⟩) (by rw [List.length_take]; omega) nlf fun H9 sH9 elf => ⟨Nat.zero_le _, fun pf npf => ⟨_, _, dp_l (S := (((backL n ring kk).filter fun j => decide (j ∈ A) || decide (j ∈ B')).take 1).filter fun j => !decide (j ∈ B')) (same_upd npf _ _ elf), dp_l (S := []) upd_same, shaped_l _, shaped_l _, _, rfl, ?_⟩⟩⟩
                rw [eqv_l]
                have sH10' := (sH8'.trans sH9).trans (same_upd (o := .lst []) npf)
                change (if (firstB A B' (backL n ring kk) B') = true then _ else _)
                refine ite2 (fun t2 => ?_) (fun t2 => ?_)
                · rw [t2, if_pos rfl] at hfin
                  exact ⟨_, rfl, _, _, rfl, rfl, c + 2, _, _, _, _, _, _, _, hfin, rfl, sH10'⟩
                · rw [if_neg t2] at hfin
                  exact ⟨c, _, _, _, _, _, _, _, hfin, rfl, sH10'⟩
            · have hkA : kk ∈ A := by simpa using e2
              rw [if_pos hkA] at hcost
              rw [hcost] at hsum
              exact ⟨c, _, _, _, _, _, _, _, hsum.symm, rfl, sH0'⟩
        · rintro σ H0 ⟨c, x5, x6, x7, x8, x9, x10, x11, ec, rfl, s0⟩
          exact ⟨_, rfl, q H0 _ s0 (.inl ⟨c, ⟨hc.1, hc.2, ec.symm⟩, rfl⟩)⟩
end
end Wr


/-! What the law itself leans on, in plain words: the table's answers, its keys, the arrows. -/
namespace Wr
open PySem PySem.Spec L2
theorem val_mem {kvs : List (List Key × V)} {k : List Key} {v : V} (h : valV kvs k = some v) : (k, v) ∈ kvs := by
  unfold valV at h
  obtain ⟨e, he, rfl⟩ := Option.map_eq_some_iff.mp h
  have h1 := List.mem_of_find?_eq_some he
  have h2 := List.find?_some he
  have h3 : e.1 = k := of_decide_eq_true h2
  rw [← h3]
  exact h1
section
variable {n : Nat} {ring : Bool} {A : List Int}
theorem Known.ans {kvs : List (List Key × V)} (h : Known n ring A kvs) {S : List Int} (hS : Stand n S) : Ans n ring A S ((valV kvs (keyT S)).getD .non) := by
  cases e : valV kvs (keyT S) with
  | some v =>
    obtain ⟨T, c, hT, e1, hd⟩ := h.snd _ (val_mem e)
    have ek : keyT S = keyT T := congrArg Prod.fst e1
    have ev : v = V.int c := congrArg Prod.snd e1
    have := keyT_inj ek
    subst this
    exact .inl ⟨c, hd, ev⟩
  | none =>
    refine .inr ⟨fun c hd => ?_, rfl⟩
    obtain ⟨v, hv⟩ := h.all S c hS hd
    exact valV_not e (List.mem_map.mpr ⟨_, hv, rfl⟩)
theorem Known.pos {kvs : List (List Key × V)} (h : Known n ring A kvs) (hA : Stand n A) : 1 ≤ kvs.length := by
  obtain ⟨v, hv⟩ := h.all A 0 hA (dist_self n ring A)
  exact List.length_pos_of_mem hv
/-- nothing comes to the dark standing but itself, and from it nothing else -/
theorem dist_nil {S : List Int} {c : Nat} (hA : Stand n A) (hS : Stand n S) (h : Dist n ring A S c) : A = [] ↔ S = [] := by
  constructor
  · intro e
    have := (comes_nil (ring := ring) hA hS (.inl e)).mp ⟨h.f1, h.f2⟩
    rw [← this]; exact e
  · intro e
    have := (comes_nil (ring := ring) hA hS (.inr e)).mp ⟨h.f1, h.f2⟩
    rw [this]; exact e
/-- of two keys none is empty -/
theorem Known.keys {kvs : List (List Key × V)} (h : Known n ring A kvs) (hA : Stand n A) (h2 : 2 ≤ kvs.length) : ∀ e ∈ kvs, ∃ ns : List Int, e.1 = ns.map Sum.inl ∧ 1 ≤ ns.length := by
  intro e he
  obtain ⟨S, c, hS, rfl, hd⟩ := h.snd e he
  refine ⟨S, rfl, ?_⟩
  cases S with
  | cons x S => exact Nat.le_add_left ..
  | nil =>
    have eA : A = [] := (dist_nil hA hS hd).mpr rfl
    have all : ∀ k ∈ kvs.map Prod.fst, k = keyT [] := fun k hk => by
      obtain ⟨e, he, rfl⟩ := List.mem_map.mp hk
      obtain ⟨T, d, hT, rfl, hd'⟩ := h.snd e he
      show keyT T = keyT []
      rw [(dist_nil hA hT hd').mp eA]
    have nd := h.nd
    have len : 2 ≤ (kvs.map Prod.fst).length := by rw [List.length_map]; exact h2
    match hl : kvs.map Prod.fst, nd, all, len with
    | x :: y :: L, nd, all, _ =>
      have h1 := all x (List.mem_cons_self ..)
      have h2 := all y (List.mem_cons_of_mem _ (List.mem_cons_self ..))
      exact ((List.nodup_cons.mp nd).1 (by rw [h1, h2]; exact List.mem_cons_self ..)).elim
end
/-- the arrows of a row, then those that the ring adds -/
def rowAr (i : Nat) : List (Int × Int) := (List.range i).map fun (k : Nat) => ((0 + (k : Int)), (0 + (k : Int)) + 1)
theorem rowAr_succ (i : Nat) : rowAr (i + 1) = rowAr i ++ [((0 + (i : Int)), (0 + (i : Int)) + 1)] := by
  unfold rowAr
  rw [List.range_succ, List.map_append]
  rfl
theorem mem_rowAr {i : Nat} {a b : Int} : (a, b) ∈ rowAr i ↔ 0 ≤ a ∧ b = a + 1 ∧ a < i := by
  unfold rowAr
  rw [List.mem_map]
  constructor
  · rintro ⟨k, hk, e⟩
    have := List.mem_range.mp hk
    have e1 : 0 + (k : Int) = a := congrArg Prod.fst e
    have e2 : 0 + (k : Int) + 1 = b := congrArg Prod.snd e
    omega
  · rintro ⟨h1, h2, h3⟩
    refine ⟨a.toNat, List.mem_range.mpr (by omega), ?_⟩
    exact Prod.ext (by show 0 + ((a.toNat : Nat) : Int) = a; omega) (by show 0 + ((a.toNat : Nat) : Int) + 1 = b; omega)
theorem arrow_row {n : Nat} (i j : Int) : (i, j) ∈ rowAr (n - 1) ↔ Arrow n false i j := by
  rw [mem_rowAr]
  unfold Arrow
  constructor
  · rintro ⟨h1, h2, h3⟩
    exact .inl ⟨h1, h2, by omega⟩
  · rintro (⟨h1, h2, h3⟩ | ⟨h, _⟩)
    · exact ⟨h1, h2, by omega⟩
    · cases h
theorem arrow_ring {n : Nat} (i j : Int) : (i, j) ∈ rowAr (n - 1) ++ [((n : Int) - 1, 0)] ↔ Arrow n true i j := by
  rw [List.mem_append, mem_rowAr, List.mem_singleton]
  unfold Arrow
  constructor
  · rintro (⟨h1, h2, h3⟩ | h)
    · exact .inl ⟨h1, h2, by omega⟩
    · exact .inr ⟨rfl, congrArg Prod.fst h, congrArg Prod.snd h⟩
  · rintro (⟨h1, h2, h3⟩ | ⟨_, h1, h2⟩)
    · exact .inl ⟨h1, h2, by omega⟩
    · exact .inr (Prod.ext h1 h2)
/-- what the ring has beyond the row -/
def ringAr (n : Nat) (ring : Bool) : List (Int × Int) := if ring = true then [((n : Int) - 1, 0)] else []
theorem arrow_all {n : Nat} {ring : Bool} (i j : Int) : (i, j) ∈ rowAr (n - 1) ++ ringAr n ring ↔ Arrow n ring i j := by
  cases ring with
  | true => exact arrow_ring i j
  | false =>
    show (i, j) ∈ rowAr (n - 1) ++ [] ↔ _
    rw [List.append_nil]
    exact arrow_row i j
/-- pairs that stand in the heap -/
structure PrsAt (H : Hp) (ar : List (Addr × Int × Int)) : Prop where
  tup : ∀ z ∈ ar, H z.1 = some (.tup [.int z.2.1, .int z.2.2])
theorem PrsAt.step {H H' : Hp} {ar : List (Addr × Int × Int)} (h : PrsAt H ar) (s : Same H H') : PrsAt H' ar := ⟨fun z hz => s _ _ (h.tup z hz)⟩
/-- the same references in another order -/
theorem perm_ar {ys : List V} : ∀ {ar : List (Addr × Int × Int)}, ys.Perm (ar.map fun z => V.ref z.1) → ∃ br : List (Addr × Int × Int), ys = (br.map fun z => V.ref z.1) ∧ br.Perm ar := by
  intro ar h
  generalize hx : (ar.map fun z => V.ref z.1) = xs at h
  induction h generalizing ar with
  | nil =>
    cases ar with
    | nil => exact ⟨[], rfl, .refl _⟩
    | cons z ar => cases hx
  | @cons x l1 l2 p ih =>
    cases ar with
    | nil => cases hx
    | cons z ar =>
      rw [List.map_cons, List.cons.injEq] at hx
      obtain ⟨br, rfl, pb⟩ := ih hx.2
      exact ⟨z :: br, by rw [← hx.1]; rfl, pb.cons z⟩
  | swap x y l =>
    cases ar with
    | nil => cases hx
    | cons z ar =>
      cases ar with
      | nil => rw [List.map_cons, List.cons.injEq] at hx; cases hx.2
      | cons z2 ar =>
        rw [List.map_cons, List.map_cons, List.cons.injEq, List.cons.injEq] at hx
        refine ⟨z2 :: z :: ar, ?_, .swap ..⟩
        rw [← hx.1, ← hx.2.1, ← hx.2.2]
        rfl
  | trans p q ih1 ih2 =>
    obtain ⟨br, rfl, pb⟩ := ih2 hx
    obtain ⟨cr, rfl, pc⟩ := ih1 rfl
    exact ⟨cr, rfl, pc.trans pb⟩
end Wr


/-! law -/
namespace Wr
open PySem PySem.Spec L2
theorem but_tups {K : PySem.W.Frag} {H H' : Hp} {r sc : Addr} {ns : List Int} (hR : RowAt K H r sc ns) (s : SameBut r H H') : Tups H H' := fun b xs e => s _ _ (fun z => hR.notTup xs (by rw [← z]; exact e)) e
theorem StAt.tups {n : Nat} {H H' : Hp} {a : Addr} {S : List Int} (h : StAt n H a S) (k : Tups H H') : StAt n H' a S := ⟨k _ _ h.1, h.2⟩
section
variable {P : Program} {w : World} {K : PySem.W.Frag} {mg : Str → Option Value} {base : Heap}
theorem cal_at {k : Nat} {x : Str} {sp : Sp} {f : Addr} (C : Cal P w K mg base k x sp) (hm : mg x = some (.ref f)) : C8.CalAt P w K mg base k f sp := by
  obtain ⟨f', fd, ps, F, hm', kp, b⟩ := C.ex
  rw [hm] at hm'
  cases hm'
  exact ⟨fd, ps, F, kp, b⟩
/-- the call of the one that was chosen -/
theorem work_call {n : Nat} {ring : Bool} {A S : List Int} {a r wb o d y f10 f11 : Addr} {H : Hp} {Q : VK} (n1 : 1 ≤ n) (n8 : n ≤ 8) (hn : ring = true → 2 ≤ n) (hA : StAt n H o A) (hS : StAt n H y S)
    (q : ∀ H' v, Same H H' → Ans n ring A S v → Q v H') :
    C8.tCallV 7 f11 f10 (spFewest true 2) (spFewest false 1) (tCons (tVar 2) (tCons (tVar 5) (tCons (tVar 8) tNil))) [some (.ref a), some (.ref r), some (.int n), some (.bl ring), some (.ref wb), some (.ref o), some (.ref d), some (if ring = true then .ref f11 else .ref f10), some (.ref y), none] H Q := by
  cases ring with
  | true => exact .inl ⟨rfl, _, rfl, _, rfl, _, rfl, n, o, y, A, S, rfl, hn rfl, by omega, hA, hS, q⟩
  | false => exact .inr ⟨rfl, _, rfl, _, rfl, _, rfl, n, o, y, A, S, rfl, n1, by omega, hA, hS, q⟩
theorem law_body {f22 f10 f11 : Addr} {fd22 : FuncData} (D : Def K mg "law" ["_law_script"] sLaw f22 fd22) (B : Blts mg)
    (CT : Cal P w K mg base 1 "_law_taken" (spTaken K)) (CP : Cal P w K mg base 2 "_law_pick" (spPick K)) (CB : Cal P w K mg base 3 "_law_row_burning" (spRowBurning K)) (CF : Cal P w K mg base 3 "_law_from" spFrom)
    (CA : Cal P w K mg base 1 "_law_alike" spAlike) (CC : Cal P w K mg base 1 "_law_row_cost" spRowCost) (CR : C8.CalAt P w K mg base 4 f10 (spFewest false 1)) (CG : C8.CalAt P w K mg base 4 f11 (spFewest true 2))
    (m10 : mg "row_fewest" = some (.ref f10)) (m11 : mg "ring_fewest" = some (.ref f11)) : FnOk P w K mg base CX0 5 f22 fd22 ["_law_script"] (spLaw K) := by
  refine D.fn.ok scLaw (fun vs H Q EX h => ?_) (fun cdv AA outer s H vs Q EX hr h => ?_)
  · obtain ⟨a, ns, rfl, _⟩ := h
    rfl
  · obtain ⟨a, ns, rfl, hS, hl, q⟩ := h
    have nd := scLaw.nd
    have hu := hr.units
    have hu1 := hu_of hr
    refine ⟨_, pss_cons (ps_set (i := 1) nd rfl (.inl rfl) (pe_lst (pa_cons (pv 0) (pa_cons pe_int (pa_cons pe_int (pa_cons pe_int pa_nil))))))
      (pss_cons (ps_par (i := 2) (j := 3) rfl nd rfl rfl (by decide) rfl rfl (pa_cons (pe_op op_add pe_int (pe_c CT hr (by decide) (by rfl) (pa_cons (pv 1) (pa_cons pe_int pa_nil)))) (pa_cons (pe_cmpR op_eq (pe_c CT hr (by decide) (by rfl) (pa_cons (pv 1) (pa_cons pe_int pa_nil))) pe_int (nomark _)) pa_nil)) (by rfl))
      (C8.pss_cut (ps_set (i := 2) nd rfl (.inl rfl) (pe_ifExp (pt_val (pv 3)) (pe_callB (call_max2 rfl) (by rfl) B.b_max (by decide +kernel) (pa_cons pe_int (pa_cons (pv 2) pa_nil))) (pv 2)))
      (C8.pss_cut (ps_set (i := 4) nd rfl (.inl rfl) (pe_tup (pa_cons (pv 2) (pa_cons (pe_callTy call_tuple_of (by rfl) B.b_tuple (by decide +kernel) (pa_cons (pe_op op_cat
          (pe_lc (own := [("_law_k", 9)]) (g := gName 9) (tt := tYes) (by rfl) nd (pi_range1 (by rfl) B.b_range (pa_cons (pe_op op_sub (pv 2) pe_int) pa_nil)) (blkOk_by (N := nLaw) (sc := defScope sLaw) (by decide +kernel)) (fun _ _ _ _ _ => pg_name (i := 9) nd rfl (Or.inl rfl))
            (fun _ _ _ _ _ => pts_nil) (fun _ _ _ _ _ => pe_tup (pa_cons (pv 9) (pa_cons (pe_op op_add (pv 9) pe_int) pa_nil))))
          (pe_ifExp (pt_val (pv 3)) (pe_lst (pa_cons (pe_tup (pa_cons (pe_op op_sub (pv 2) pe_int) (pa_cons pe_int pa_nil))) pa_nil)) (pe_lst pa_nil))) pa_nil)) pa_nil))))
      (C8.pss_cut (ps_set (i := 4) nd rfl (.inl rfl) (pe_tup (pa_cons (pv 2) (pa_cons (pe_callTy call_tuple_of (by rfl) B.b_tuple (by decide +kernel) (pa_cons (pe_callB cr_sortedTT (by rfl) B.b_sorted (by decide +kernel) (pa_cons (pe_ix ix_tup (pv 4) pe_int (fun _ _ => rfl)) pa_nil)) pa_nil)) pa_nil))))
      (C8.pss_cut (ps_set (i := 5) nd rfl (.inl rfl) (pe_c CB hr (by decide) (by rfl) (pa_cons (pv 1) (pa_cons (pv 2) pa_nil))))
      (C8.pss_cut (ps_par (i := 6) (j := 7) rfl nd rfl rfl (by decide) rfl rfl (pa_cons (pe_c CF hr (by decide) (by rfl) (pa_cons (pv 4) (pa_cons (pv 5) pa_nil))) (pa_cons (pe_ifExp (pt_val (pv 3)) (pe_glob (v := .ref f11) (by rfl) m11 rfl) (pe_glob (v := .ref f10) (by rfl) m10 rfl)) pa_nil)) (by rfl))
      (pss_cons (ps_for PassesOwn.never rfl (pi_list (pe_lst (pa_cons (pe_c CB hr (by decide) (by rfl) (pa_cons (pv 1) (pa_cons (pv 2) pa_nil))) (pa_cons (pe_c CB hr (by decide) (by rfl) (pa_cons (pv 1) (pa_cons (pv 2) pa_nil)))
          (pa_cons (pe_c CP hr (by decide) (by rfl) (pa_cons (pv 1) (pa_cons (pe_callB (cr_sortedKT rfl) (by rfl) B.b_sorted (by decide +kernel) (pa_cons (pe_bm0 PySem.F.plainAttrs_dict PySem.F.slot_dict_keys PySem.F.type_dict_keys mt_keysT (pv 6)) pa_nil)) pa_nil))) pa_nil))))) (pg_name (i := 8) nd rfl (.inl rfl))
        (pss_cons (ps_if (pt_not (pt_val (pe_c CA hr (by decide) (by rfl) (pa_cons (C8.pe_cv (i := 7) CG CR hr (by decide) (by decide) rfl (.inl rfl) (pa_cons (pv 2) (pa_cons (pv 5) (pa_cons (pv 8) pa_nil)))) (pa_cons (pe_dget2 hu1 (pv 6) (pv 8) pe_non ⟨rfl, rfl, rfl, rfl⟩) pa_nil))))) pss_never pss_nil)
        (pss_one (ps_if (pt_cmpR op_ne (pe_c CC hr (by decide) (by rfl) (pa_cons (pv 2) (pa_cons (pv 3) (pa_cons (pv 5) (pa_cons (pv 8) pa_nil))))) (pe_dget2 hu1 (pv 6) (pv 8) pe_non ⟨rfl, rfl, rfl, rfl⟩) (nomark _)) pss_never pss_nil))))
      (pss_one (ps_ret pe_bl))))))))), ?_⟩
    refine ⟨_, rfl, (by show 4 ≤ sizeLine; decide), fun r nr => ?_⟩
    have hR1 : RowAt K (upd H r (.lst [.ref a, .int 0, .int 9117, .int 0])) r a ns := ⟨0, 9117, 0, upd_same, (same_upd nr).seq hS, apart_of hS nr, by decide, by decide, by decide⟩
    generalize upd H r (.lst [.ref a, .int 0, .int 9117, .int 0]) = H1 at hR1 ⊢
    refine ⟨_, rfl, r, a, ns, 8, rfl, hR1, by decide, by decide, fun H2 v s2 hR2 v0 v8 => ⟨_, _, rfl, rfl, _, rfl, r, a, ns, 2, rfl, hR2, by decide, by decide, fun H3 u s3 hR3 u0 u2 => ⟨rfl, _, _, rfl, ?_⟩⟩⟩
    generalize decide (V.int u = V.int 0) = ring
    obtain ⟨m, rfl⟩ : ∃ m : Nat, v = (m : Int) := ⟨v.toNat, by omega⟩
    -- many
    refine ⟨fun σ H' => ∃ n : Nat, 1 ≤ n ∧ n ≤ 8 ∧ (ring = true → 2 ≤ n) ∧ σ = [some (.ref a), some (.ref r), some (.int n), some (.bl ring), none, none, none, none, none, none] ∧ RowAt K H' r a ns, ⟨_, rfl, ring, rfl, ?_⟩, ?_⟩
    · cases ring with
      | false => exact iteF ⟨_, rfl, 1 + m, by omega, by omega, (fun z => nomatch z), rfl, hR3⟩
      | true =>
        have h : (if (1 : Int) + (m : Int) > 2 then (1 : Int) + (m : Int) else 2) = ((if 1 + m > 2 then 1 + m else 2 : Nat) : Int) := by
          split <;> split <;> omega
        exact iteT ⟨_, rfl, _, _, rfl, (if 1 + m > 2 then 1 + m else 2 : Nat), by split <;> omega, by split <;> omega, fun _ => by split <;> omega,
          congrArg (fun z : Int => [some (V.ref a), some (.ref r), some (.int z), some (.bl true), none, none, none, none, none, none]) h, hR3⟩
    clear hR1 hR2 hR3 s2 s3 v0 v8 u0 u2
    rintro σ H4 ⟨n, n1, n8, hn, rfl, hR4⟩
    -- the arrows
    refine ⟨fun σ H' => ∃ (w t : Addr) (ar : List (Addr × Int × Int)), σ = [some (.ref a), some (.ref r), some (.int n), some (.bl ring), some (.ref w), none, none, none, none, none] ∧ RowAt K H' r a ns ∧
      H' w = some (.tup [.int n, .ref t]) ∧ H' t = some (.tup (ar.map fun z => V.ref z.1)) ∧ PrsAt H' ar ∧ ∀ i j, (i, j) ∈ ar.map Prod.snd ↔ Arrow n ring i j, ?_, ?_⟩
    · refine ⟨_, rfl, _, rfl, _, _, rfl, rfl, (n : Int) - 1, rfl, by omega, by omega, fun D nD => ?_⟩
      have en : ((n : Int) - 1).toNat = n - 1 := by omega
      refine lc_it (n := ((n : Int) - 1).toNat) walk_range (g := gName 9) (vs := [9]) (fun i H' => ∃ ar : List (Addr × Int × Int), Same H4 H' ∧ H' D = some (.lst (ar.map fun z => V.ref z.1)) ∧ PrsAt H' ar ∧ ar.map Prod.snd = rowAr i)
        ⟨[], same_upd nD, upd_same, ⟨fun z h => nomatch h⟩, rfl⟩ (fun _ _ _ _ => trivial) ?_ ?_
      · rintro i x H5 H6 hi ⟨ar, sm, eD, hp, ek⟩ ⟨rfl, hx⟩
        replace hx : x = V.int (0 + (i : Int)) := hx
        subst hx
        refine ⟨rfl, ?_⟩
        unfold tYes
        refine iteT ?_
        refine ⟨_, rfl, _, rfl, _, _, rfl, rfl, (by show 2 ≤ sizeLine; decide), fun p np => ?_⟩
        have s7 := same_upd (o := .tup [.int (0 + (i : Int)), .int (0 + (i : Int) + 1)]) np
        have eD7 := s7 _ _ eD
        have epr : upd H6 p (.tup [.int (0 + (i : Int)), .int (0 + (i : Int) + 1)]) p = some (.tup [.int (0 + (i : Int)), .int (0 + (i : Int) + 1)]) := upd_same
        have hp7 := hp.step s7
        have s47 := sm.trans s7
        generalize upd H6 p (.tup [.int (0 + (i : Int)), .int (0 + (i : Int) + 1)]) = H7 at s47 eD7 epr hp7 ⊢
        have lar : ar.length = i := by
          have := congrArg List.length ek
          rw [List.length_map] at this
          rw [this]
          unfold rowAr
          rw [List.length_map, List.length_range]
        have upT : ∀ (b : Addr) (xs : List V), H7 b = some (.tup xs) → upd H7 D (.lst ((ar.map fun z => V.ref z.1) ++ [.ref p])) b = some (.tup xs) := fun b xs e => by
          rw [upd_ne]
          · exact e
          · intro eb
            rw [eb, eD7] at e
            cases e
        refine ⟨_, eD7, by rw [List.length_map]; exact small1000 (by omega), ar ++ [(p, 0 + (i : Int), 0 + (i : Int) + 1)], fun b o e => ?_, ?_, ⟨fun z hz => ?_⟩, ?_⟩
        · rw [upd_ne (ne_of_none e nD)]
          exact s47 _ _ e
        · rw [upd_same, List.map_append]
          rfl
        · rcases List.mem_append.mp hz with h | h
          · exact upT _ _ (hp7.tup z h)
          · rw [List.mem_singleton.mp h]
            exact upT _ _ epr
        · rw [List.map_append, ek, rowAr_succ]
          rfl
      · rintro H5 ⟨ar, sm, eD, hp, ek⟩
        rw [en] at ek
        have lar : ar.length ≤ 8 := by
          have := congrArg List.length ek
          rw [List.length_map] at this
          rw [this]
          unfold rowAr
          rw [List.length_map, List.length_range]
          omega
        have fin : ∀ (H6 : Hp) (br : List (Addr × Int × Int)) (c t w : Addr), Same H5 H6 → H6 c = none → PrsAt H6 br → br.map Prod.snd = ringAr n ring →
            upd H6 c (.lst ((ar.map fun z => V.ref z.1) ++ br.map fun z => V.ref z.1)) t = none → upd (upd H6 c (.lst ((ar.map fun z => V.ref z.1) ++ br.map fun z => V.ref z.1))) t (.tup ((ar.map fun z => V.ref z.1) ++ br.map fun z => V.ref z.1)) w = none →
            ∃ (w' t' : Addr) (ar' : List (Addr × Int × Int)), [some (V.ref a), some (.ref r), some (.int n), some (.bl ring), some (.ref w), none, none, none, none, none] = [some (.ref a), some (.ref r), some (.int n), some (.bl ring), some (.ref w'), none, none, none, none, none] ∧
              RowAt K (upd (upd (upd H6 c (.lst ((ar.map fun z => V.ref z.1) ++ br.map fun z => V.ref z.1))) t (.tup ((ar.map fun z => V.ref z.1) ++ br.map fun z => V.ref z.1))) w (.tup [.int n, .ref t])) r a ns ∧
              (upd (upd (upd H6 c (.lst ((ar.map fun z => V.ref z.1) ++ br.map fun z => V.ref z.1))) t (.tup ((ar.map fun z => V.ref z.1) ++ br.map fun z => V.ref z.1))) w (.tup [.int n, .ref t])) w' = some (.tup [.int n, .ref t']) ∧
              (upd (upd (upd H6 c (.lst ((ar.map fun z => V.ref z.1) ++ br.map fun z => V.ref z.1))) t (.tup ((ar.map fun z => V.ref z.1) ++ br.map fun z => V.ref z.1))) w (.tup [.int n, .ref t])) t' = some (.tup (ar'.map fun z => V.ref z.1)) ∧
              PrsAt (upd (upd (upd H6 c (.lst ((ar.map fun z => V.ref z.1) ++ br.map fun z => V.ref z.1))) t (.tup ((ar.map fun z => V.ref z.1) ++ br.map fun z => V.ref z.1))) w (.tup [.int n, .ref t])) ar' ∧ ∀ i j, (i, j) ∈ ar'.map Prod.snd ↔ Arrow n ring i j := by
          intro H6 br c t w s6 nc hb eb nt nw
          have k1 := same_upd (o := .lst ((ar.map fun z => V.ref z.1) ++ br.map fun z => V.ref z.1)) nc
          have k2 := same_upd (o := .tup ((ar.map fun z => V.ref z.1) ++ br.map fun z => V.ref z.1)) nt
          have k3 := same_upd (o := .tup [.int n, .ref t]) nw
          have k := (k1.trans k2).trans k3
          refine ⟨w, t, ar ++ br, rfl, hR4.same ((sm.trans s6).trans k), upd_same, ?_, ⟨fun z hz => ?_⟩, fun i j => ?_⟩
          · rw [List.map_append]
            exact k3 _ _ upd_same
          · rcases List.mem_append.mp hz with h | h
            · exact (s6.trans k) _ _ (hp.tup z h)
            · exact k _ _ (hb.tup z h)
          · rw [List.map_append, ek, eb]
            exact arrow_all i j
        refine ⟨_, rfl, ring, rfl, ?_⟩
        cases ring with
        | true =>
          refine iteT ⟨_, rfl, _, _, rfl, rfl, (by show 2 ≤ sizeLine; decide), fun p np => ⟨(by show 1 ≤ sizeLine; decide), fun l2 nl2 => ?_⟩⟩
          have k1 := same_upd (o := .tup [.int ((n : Int) - 1), .int 0]) np
          have k2 := same_upd (o := .lst [.ref p]) nl2
          refine ⟨D, l2, _, _, rfl, rfl, k2 _ _ (k1 _ _ eD), upd_same, ?_, fun c nc => ⟨c, _, rfl, .inl ⟨SqL.of upd_same, fun t nt => ⟨(by show 2 ≤ sizeLine; decide), fun w nw => fin _ [(p, (n : Int) - 1, 0)] c t w (k1.trans k2) nc ⟨fun z hz => ?_⟩ rfl nt nw⟩⟩⟩⟩
          · rw [List.length_map, sizeLine_eq]
            show ar.length + 1 ≤ _
            omega
          · rw [List.mem_singleton.mp hz]
            exact k2 _ _ upd_same
        | false =>
          refine iteF ⟨Nat.zero_le _, fun l2 nl2 => ?_⟩
          have k2 := same_upd (o := .lst []) nl2
          refine ⟨D, l2, _, _, rfl, rfl, k2 _ _ eD, upd_same, ?_, fun c nc => ⟨c, _, rfl, .inl ⟨SqL.of upd_same, fun t nt => ⟨(by show 2 ≤ sizeLine; decide), fun w nw => fin _ [] c t w k2 nc ⟨fun z hz => nomatch hz⟩ rfl nt nw⟩⟩⟩⟩
          rw [List.length_map, sizeLine_eq]
          show ar.length + 0 ≤ _
          omega
    clear hR4
    rintro σ H5 ⟨w0, t0, ar, rfl, hR5, hw0, ht0, hp, hax⟩
    -- the web
    refine ⟨fun σ H' => ∃ wb : Addr, σ = [some (.ref a), some (.ref r), some (.int n), some (.bl ring), some (.ref wb), none, none, none, none, none] ∧ RowAt K H' r a ns ∧ WebAt n ring H' wb,
      ⟨_, rfl, _, rfl, w0, _, _, .ref t0, rfl, rfl, SqT.of hw0, atI_nat (j := 1) rfl, t0, _, rfl, SqT.of ht0, fun x hx => ?_, fun ys p pm np => ⟨p, _, rfl, .inl ⟨SqL.of upd_same, fun t nt => ⟨(by show 2 ≤ sizeLine; decide), fun wb nw => ?_⟩⟩⟩⟩, ?_⟩
    · obtain ⟨z, hz, rfl⟩ := List.mem_map.mp hx
      exact ⟨[z.2.1, z.2.2], ⟨z.1, rfl, SqT.of (hp.tup z hz)⟩, Nat.le_add_left 1 1⟩
    · have k1 := same_upd (o := .lst ys) np
      have k2 := same_upd (o := .tup ys) nt
      have k3 := same_upd (o := .tup [.int n, .ref t]) nw
      have k := (k1.trans k2).trans k3
      obtain ⟨br, e, pb⟩ := perm_ar pm
      refine ⟨wb, rfl, hR5.same k, t, br, upd_same, ?_, fun z hz => k _ _ (hp.tup z (pb.mem_iff.mp hz)), fun i j => ?_⟩
      · rw [← e]
        exact k3 _ _ upd_same
      · rw [← hax, List.mem_map]
        constructor
        · rintro ⟨z, hz, e⟩
          exact ⟨z, pb.mem_iff.mp hz, e⟩
        · rintro ⟨z, hz, e⟩
          exact ⟨z, pb.mem_iff.mpr hz, e⟩
    clear hR5 hw0 ht0 hp hax
    rintro σ H6 ⟨wb, rfl, hR6, hW6⟩
    -- one
    refine ⟨fun σ H' => ∃ (o : Addr) (A : List Int), σ = [some (.ref a), some (.ref r), some (.int n), some (.bl ring), some (.ref wb), some (.ref o), none, none, none, none] ∧ RowAt K H' r a ns ∧ WebAt n ring H' wb ∧ StAt n H' o A,
      ⟨_, rfl, _, rfl, r, a, ns, n, rfl, hR6, n1, by omega, fun H' o A sb hR hA => ⟨o, A, rfl, hR, hW6.tups (but_tups hR6 sb), hA⟩⟩, ?_⟩
    clear hR6 hW6
    rintro σ H7 ⟨o, A, rfl, hR7, hW7, hA7⟩
    -- known, work
    refine ⟨fun σ H' => ∃ (d : Addr) (kvs : List (List L2.Key × V)), σ = [some (.ref a), some (.ref r), some (.int n), some (.bl ring), some (.ref wb), some (.ref o), some (.ref d), some (if ring = true then .ref f11 else .ref f10), none, none] ∧ RowAt K H' r a ns ∧ StAt n H' o A ∧ H' d = some (.dT kvs) ∧ Known n ring A kvs ∧ kvs.length ≤ 256,
      ⟨_, rfl, _, rfl, n, ring, wb, o, A, rfl, n1, n8, hn, hW7, hA7, fun H' d kvs sm ed hK len => ⟨_, rfl, ring, rfl, ?_⟩⟩, ?_⟩
    · cases ring with
      | true => exact iteT ⟨_, _, rfl, d, kvs, rfl, hR7.same sm, hA7.same sm, ed, hK, len⟩
      | false => exact iteF ⟨_, _, rfl, d, kvs, rfl, hR7.same sm, hA7.same sm, ed, hK, len⟩
    clear hR7 hW7 hA7
    rintro σ H8 ⟨d, kvs, rfl, hR8, hA8, ed8, hK, len⟩
    have but_d : ∀ {H H' : Hp}, RowAt K H r a ns → SameBut r H H' → H d = some (.dT kvs) → H' d = some (.dT kvs) := fun hR sb e => sb _ _ (fun z => by
      obtain ⟨_, _, _, h1, _⟩ := hR
      rw [z, h1] at e
      cases e) e
    -- the three others
    refine ⟨_, rfl, _, rfl, r, a, ns, n, rfl, hR8, n1, by omega, fun H9 o1 S1 sb9 hR9 hS9 => ⟨_, rfl, _, rfl, r, a, ns, n, rfl, hR9, n1, by omega, fun H10 o2 S2 sb10 hR10 hS10 => ⟨_, rfl, ?_⟩⟩⟩
    have t10 := but_tups hR9 sb10
    have hA10 := (hA8.tups (but_tups hR8 sb9)).tups t10
    have hS1 := hS9.tups t10
    have ed10 := but_d hR9 sb10 (but_d hR8 sb9 ed8)
    clear hR8 sb9 hA8 ed8 hR9 hS9 sb10 t10
    refine ⟨_, rfl, .inr (.inr (.inl ⟨rfl, .inr ⟨kvs, ed10⟩⟩)), d, kvs, rfl, rfl, ed10, fun p np => ⟨p, d, kvs, rfl, upd_same, same_upd np _ _ ed10, hK.keys hA10.2, fun ys l hlen hys nl => ?_⟩⟩
    have k1 := (same_upd (o := keysO p d) np).trans (same_upd (o := .lst (ys.map V.ref)) nl)
    have el : upd (upd H10 p (keysO p d)) l (.lst (ys.map V.ref)) l = some (.lst (ys.map V.ref)) := upd_same
    have hR11 := hR10.same k1
    have nlr : l ≠ r := fun z => by
      obtain ⟨_, _, _, h1, _⟩ := hR10.same (same_upd (o := keysO p d) np)
      rw [z, h1] at nl
      cases nl
    have hys' : ∀ y ∈ ys, ∃ S, StAt n (upd (upd H10 p (keysO p d)) l (.lst (ys.map V.ref))) y S := fun y hy => by
      obtain ⟨e, he, e1⟩ := hys y hy
      obtain ⟨S, c, hS, rfl, _⟩ := hK.snd e he
      refine ⟨S, same_upd nl _ _ ?_, hS⟩
      rw [e1, keyT_map]
    have hA11 := hA10.same k1
    have hS11 := hS1.same k1
    have hS12 := hS10.same k1
    have ed11 := k1 _ _ ed10
    have hpos := hK.pos hA10.2
    generalize upd (upd H10 p (keysO p d)) l (.lst (ys.map V.ref)) = H11 at el hR11 hys' hA11 hS11 hS12 ed11 ⊢
    clear hA10 hS1 hS10 ed10 hR10 k1 nl hys np
    refine ⟨r, a, l, ns, _, rfl, hR11, nlr, el, by rw [List.length_map]; omega, by rw [List.length_map]; omega, fun H12 x sb12 hR12 hx => ?_⟩
    obtain ⟨y, hy, rfl⟩ := List.mem_map.mp hx
    obtain ⟨S3, hS13⟩ := hys' y hy
    have t12 := but_tups hR11 sb12
    refine ⟨(by show 3 ≤ sizeLine; decide), fun L nL => ⟨L, rfl, ⟨_, SqL.of upd_same⟩, ?_⟩⟩
    have k1 := same_upd (o := .lst [.ref o1, .ref o2, .ref y]) nL
    have hall : ∀ x ∈ [V.ref o1, .ref o2, .ref y], ∃ z S, x = V.ref z ∧ StAt n (upd H12 L (.lst [.ref o1, .ref o2, .ref y])) z S := fun x hx => by
      simp only [List.mem_cons, List.not_mem_nil, or_false] at hx
      rcases hx with rfl | rfl | rfl
      · exact ⟨o1, S1, rfl, (hS11.tups t12).same k1⟩
      · exact ⟨o2, S2, rfl, (hS12.tups t12).same k1⟩
      · exact ⟨y, S3, rfl, (hS13.tups t12).same k1⟩
    have hA := (hA11.tups t12).same k1
    have ed := k1 _ _ (but_d hR11 sb12 ed11)
    have eL : upd H12 L (.lst [.ref o1, .ref o2, .ref y]) L = some (.lst [.ref o1, .ref o2, .ref y]) := upd_same
    generalize upd H12 L (.lst [.ref o1, .ref o2, .ref y]) = H13 at hall hA ed eL ⊢
    generalize [V.ref o1, .ref o2, .ref y] = os at hall eL
    clear hS11 hS12 hS13 hA11 ed11 hR11 hR12 k1 nL t12 sb12 el hys'
    refine for_it (walk_list (xs := os)) (fun i σ H' => ∃ x8 : Option V, σ = [some (.ref a), some (.ref r), some (.int n), some (.bl ring), some (.ref wb), some (.ref o), some (.ref d), some (if ring = true then .ref f11 else .ref f10), x8, none] ∧ Same H13 H')
      ⟨_, rfl, Same.refl _⟩ (fun i σ H' _ h => by obtain ⟨x8, _, sm⟩ := h; exact SqL.of (sm _ _ eL)) ?_ ?_
    · rintro i x σ H14 H15 hi ⟨x8, rfl, s14⟩ ⟨rfl, hx⟩
      obtain ⟨z, S, rfl, hS0⟩ := hall x (List.mem_of_getElem? hx)
      have hS := hS0.same s14
      have hA' := hA.same s14
      refine work_call n1 n8 hn hA' hS fun H16 v s16 hv => ⟨_, rfl, d, rfl, .inr ⟨kvs, .inl (s16 _ _ (s14 _ _ ed))⟩, _, rfl, _, DGet.t (s16 _ _ (s14 _ _ ed)) (key_tup (hS.same s16).1), ?_⟩
      have ev := hv.uniq (hK.ans hS.2)
      have hcase : (∃ i : Int, v = .int i) ∨ v = .non := by
        rcases hv with ⟨c, _, e⟩ | ⟨_, e⟩
        · exact .inl ⟨c, e⟩
        · exact .inr e
      rw [← ev]
      refine ⟨v, rfl, hcase, fun H17 s17 => ⟨true, rfl, iteF ?_⟩⟩
      have s13 := (s14.trans s16).trans s17
      refine ⟨_, rfl, _, rfl, _, rfl, _, rfl, n, ring, o, z, A, S, rfl, n1, by omega, hn, hA.same s13, hS0.same s13, fun H18 u s18 hu' => ⟨_, rfl, d, rfl, .inr ⟨kvs, .inl (s18 _ _ (s13 _ _ ed))⟩, _, rfl, _, DGet.t (s18 _ _ (s13 _ _ ed)) (key_tup (hS0.same (s13.trans s18)).1), ?_⟩⟩
      have eu := hu'.uniq hv
      rw [← ev, eu]
      have sc : scal v v = true := by
        rcases hcase with ⟨i, rfl⟩ | rfl
        · rfl
        · rfl
      refine ⟨sc, _, rfl, ?_⟩
      rw [decide_eq_true rfl]
      exact iteF ⟨_, rfl, s13.trans s18⟩
    · rintro σ H14 ⟨x8, rfl, s14⟩
      exact q H14
end
end Wr


/-! all the defs together -/
namespace Wr
open PySem PySem.Spec L2
section
variable {P : Program} {w : World} {K : PySem.W.Frag} {mg : Str → Option Value} {base : Heap}
theorem ok_law {f1 : Addr} {fd1 : FuncData} (D1 : Def K mg "is_in" ["value", "least", "most"] sIsIn f1 fd1) {f2 : Addr} {fd2 : FuncData} (D2 : Def K mg "need_many" ["many", "least"] sNeedMany f2 fd2) {f3 : Addr} {fd3 : FuncData} (D3 : Def K mg "need_burning" ["many", "burning"] sNeedBurning f3 fd3) {f4 : Addr} {fd4 : FuncData} (D4 : Def K mg "row_comes" ["one", "other"] sRowComes f4 fd4) {f5 : Addr} {fd5 : FuncData} (D5 : Def K mg "sorts_of" ["many", "one", "other"] sSortsOf f5 fd5) {f6 : Addr} {fd6 : FuncData} (D6 : Def K mg "spare_in" ["sorts", "order"] sSpareIn f6 fd6) {f7 : Addr} {fd7 : FuncData} (D7 : Def K mg "row_parts" ["many", "one", "other"] sRowParts f7 fd7) {f8 : Addr} {fd8 : FuncData} (D8 : Def K mg "ring_parts" ["many", "one", "other"] sRingParts f8 fd8) {f9 : Addr} {fd9 : FuncData} (D9 : Def K mg "need_two" ["many", "least", "one", "other"] sNeedTwo f9 fd9) {f10 : Addr} {fd10 : FuncData} (D10 : Def K mg "row_fewest" ["many", "one", "other"] sRowFewest f10 fd10) {f11 : Addr} {fd11 : FuncData} (D11 : Def K mg "ring_fewest" ["many", "one", "other"] sRingFewest f11 fd11) {f12 : Addr} {fd12 : FuncData} (D12 : Def K mg "_law_taken" ["_law_row", "_law_many"] sTaken f12 fd12) {f13 : Addr} {fd13 : FuncData} (D13 : Def K mg "_law_pick" ["_law_row", "_law_things"] sPick f13 fd13) {f14 : Addr} {fd14 : FuncData} (D14 : Def K mg "_law_row_burning" ["_law_row", "_law_many"] sRowBurning f14 fd14) {f15 : Addr} {fd15 : FuncData} (D15 : Def K mg "_law_changed" ["_law_burning", "_law_lamp"] sChanged f15 fd15) {f16 : Addr} {fd16 : FuncData} (D16 : Def K mg "_law_light" ["_law_web", "_law_burning"] sLight f16 fd16) {f17 : Addr} {fd17 : FuncData} (D17 : Def K mg "_law_quench" ["_law_web", "_law_burning"] sQuench f17 fd17) {f18 : Addr} {fd18 : FuncData} (D18 : Def K mg "_law_after" ["_law_web", "_law_burning"] sAfter f18 fd18) {f19 : Addr} {fd19 : FuncData} (D19 : Def K mg "_law_from" ["_law_web", "_law_burning"] sFrom f19 fd19) {f20 : Addr} {fd20 : FuncData} (D20 : Def K mg "_law_alike" ["_law_found", "_law_due"] sAlike f20 fd20) {f21 : Addr} {fd21 : FuncData} (D21 : Def K mg "_law_row_cost" ["_law_many", "_law_is_ring", "_law_one", "_law_other"] sRowCost f21 fd21) {f22 : Addr} {fd22 : FuncData} (D22 : Def K mg "law" ["_law_script"] sLaw f22 fd22) (B : Blts mg) {t : Tok} (gM : mg "MOST_ROW" = some (.int 40 t)) : FnOk P w K mg base CX0 5 f22 fd22 ["_law_script"] (spLaw K) := by
  have CI := ok_is_in (P := P) (w := w) (base := base) D1 B
  have CM := ok_need_many D2 gM CI
  have CNB := ok_need_burning D3 B CI
  have CRC := ok_row_comes (P := P) (w := w) (base := base) D4
  have CS := ok_sorts_of (P := P) (w := w) (base := base) D5 B
  have CSp := ok_spare_in (P := P) (w := w) (base := base) D6
  have CRP := ok_row_parts D7 B CRC CS CSp
  have CGP := ok_ring_parts D8 B CS CSp
  have CN := ok_need_two D9 CM CNB
  have CR := ok_row_fewest D10 B CN CRP
  have CG := ok_ring_fewest D11 B CN CGP
  have CT := ok_taken (P := P) (w := w) (base := base) D12 B
  have CP := ok_pick D13 B CT
  have CB := ok_row_burning D14 B CT CP
  have CC := ok_changed (P := P) (w := w) (base := base) D15 B
  have CL := ok_light (P := P) (w := w) (base := base) D16 B
  have CQ := ok_quench (P := P) (w := w) (base := base) D17 B
  have CA := ok_after D18 B CL CQ CC
  have CF := ok_from D19 B CA
  exact law_body D22 B CT CP CB CF (ok_alike D20 B) (ok_row_cost D21 B) (cal_at CR D10.mgf) (cal_at CG D11.mgf) D10.mgf D11.mgf
end
end Wr


/-! ### what the top has written; the law's own head -/
namespace Wr
open PySem PySem.Spec PyProof.Rows L2
theorem all_mk {l : PySem.W.OpenLaw} {w : World} {K : PySem.W.Frag} {h : Heap} {mg : Str → Option Value} {fa : Addr} (X : K.In h) (G : h.Ns mainGlobals mg) (hfa : mg "law" = some (.ref fa))
    {f1 f2 f3 f4 f5 f6 f7 f8 f9 f10 f11 f12 f13 f14 f15 f16 f17 f18 f19 f20 f21 f22 : Addr} {od1 an1 od2 an2 od3 an3 od4 an4 od5 an5 od6 an6 od7 an7 od8 an8 od9 an9 od10 an10 od11 an11 od12 an12 od13 an13 od14 an14 od15 an15 od16 an16 od17 an17 od18 an18 od19 an19 od20 an20 od21 an21 od22 an22 : Option Addr} {sl1 sl2 sl3 sl4 sl5 sl6 sl7 sl8 sl9 sl10 sl11 sl12 sl13 sl14 sl15 sl16 sl17 sl18 sl19 sl20 sl21 sl22 : Array (Option Value)} {oc1 kV1 dc1 pm1 cd1 ct1 oc2 kV2 dc2 pm2 cd2 ct2 oc3 kV3 dc3 pm3 cd3 ct3 oc4 kV4 dc4 pm4 cd4 ct4 oc5 kV5 dc5 pm5 cd5 ct5 oc6 kV6 dc6 pm6 cd6 ct6 oc7 kV7 dc7 pm7 cd7 ct7 oc8 kV8 dc8 pm8 cd8 ct8 oc9 kV9 dc9 pm9 cd9 ct9 oc10 kV10 dc10 pm10 cd10 ct10 oc11 kV11 dc11 pm11 cd11 ct11 oc12 kV12 dc12 pm12 cd12 ct12 oc13 kV13 dc13 pm13 cd13 ct13 oc14 kV14 dc14 pm14 cd14 ct14 oc15 kV15 dc15 pm15 cd15 ct15 oc16 kV16 dc16 pm16 cd16 ct16 oc17 kV17 dc17 pm17 cd17 ct17 oc18 kV18 dc18 pm18 cd18 ct18 oc19 kV19 dc19 pm19 cd19 ct19 oc20 kV20 dc20 pm20 cd20 ct20 oc21 kV21 dc21 pm21 cd21 ct21 oc22 kV22 dc22 pm22 cd22 ct22 : Value} {tM : Tok}
    (a1 : PySem.W.nsIn K mainGlobals "is_in" = some (some (.ref f1))) (l1 : K.lookup f1 = some ⟨oc1, od1, .func (PySem.W.fnOf "is_in" "is_in" (defArgs sIsIn) (defBody sIsIn) (defScope sIsIn) .none kV1 dc1 pm1 an1 cd1 ct1), sl1⟩) (c1 : PySem.W.codeIn K cd1 "is_in" = true) (k1 : PySem.W.keepIn K (.ref f1) = true)
    (a2 : PySem.W.nsIn K mainGlobals "need_many" = some (some (.ref f2))) (l2 : K.lookup f2 = some ⟨oc2, od2, .func (PySem.W.fnOf "need_many" "need_many" (defArgs sNeedMany) (defBody sNeedMany) (defScope sNeedMany) .none kV2 dc2 pm2 an2 cd2 ct2), sl2⟩) (c2 : PySem.W.codeIn K cd2 "need_many" = true) (k2 : PySem.W.keepIn K (.ref f2) = true)
    (a3 : PySem.W.nsIn K mainGlobals "need_burning" = some (some (.ref f3))) (l3 : K.lookup f3 = some ⟨oc3, od3, .func (PySem.W.fnOf "need_burning" "need_burning" (defArgs sNeedBurning) (defBody sNeedBurning) (defScope sNeedBurning) .none kV3 dc3 pm3 an3 cd3 ct3), sl3⟩) (c3 : PySem.W.codeIn K cd3 "need_burning" = true) (k3 : PySem.W.keepIn K (.ref f3) = true)
    (a4 : PySem.W.nsIn K mainGlobals "row_comes" = some (some (.ref f4))) (l4 : K.lookup f4 = some ⟨oc4, od4, .func (PySem.W.fnOf "row_comes" "row_comes" (defArgs sRowComes) (defBody sRowComes) (defScope sRowComes) .none kV4 dc4 pm4 an4 cd4 ct4), sl4⟩) (c4 : PySem.W.codeIn K cd4 "row_comes" = true) (k4 : PySem.W.keepIn K (.ref f4) = true)
    (a5 : PySem.W.nsIn K mainGlobals "sorts_of" = some (some (.ref f5))) (l5 : K.lookup f5 = some ⟨oc5, od5, .func (PySem.W.fnOf "sorts_of" "sorts_of" (defArgs sSortsOf) (defBody sSortsOf) (defScope sSortsOf) .none kV5 dc5 pm5 an5 cd5 ct5), sl5⟩) (c5 : PySem.W.codeIn K cd5 "sorts_of" = true) (k5 : PySem.W.keepIn K (.ref f5) = true)
    (a6 : PySem.W.nsIn K mainGlobals "spare_in" = some (some (.ref f6))) (l6 : K.lookup f6 = some ⟨oc6, od6, .func (PySem.W.fnOf "spare_in" "spare_in" (defArgs sSpareIn) (defBody sSpareIn) (defScope sSpareIn) .none kV6 dc6 pm6 an6 cd6 ct6), sl6⟩) (c6 : PySem.W.codeIn K cd6 "spare_in" = true) (k6 : PySem.W.keepIn K (.ref f6) = true)
    (a7 : PySem.W.nsIn K mainGlobals "row_parts" = some (some (.ref f7))) (l7 : K.lookup f7 = some ⟨oc7, od7, .func (PySem.W.fnOf "row_parts" "row_parts" (defArgs sRowParts) (defBody sRowParts) (defScope sRowParts) .none kV7 dc7 pm7 an7 cd7 ct7), sl7⟩) (c7 : PySem.W.codeIn K cd7 "row_parts" = true) (k7 : PySem.W.keepIn K (.ref f7) = true)
    (a8 : PySem.W.nsIn K mainGlobals "ring_parts" = some (some (.ref f8))) (l8 : K.lookup f8 = some ⟨oc8, od8, .func (PySem.W.fnOf "ring_parts" "ring_parts" (defArgs sRingParts) (defBody sRingParts) (defScope sRingParts) .none kV8 dc8 pm8 an8 cd8 ct8), sl8⟩) (c8 : PySem.W.codeIn K cd8 "ring_parts" = true) (k8 : PySem.W.keepIn K (.ref f8) = true)
    (a9 : PySem.W.nsIn K mainGlobals "need_two" = some (some (.ref f9))) (l9 : K.lookup f9 = some ⟨oc9, od9, .func (PySem.W.fnOf "need_two" "need_two" (defArgs sNeedTwo) (defBody sNeedTwo) (defScope sNeedTwo) .none kV9 dc9 pm9 an9 cd9 ct9), sl9⟩) (c9 : PySem.W.codeIn K cd9 "need_two" = true) (k9 : PySem.W.keepIn K (.ref f9) = true)
    (a10 : PySem.W.nsIn K mainGlobals "row_fewest" = some (some (.ref f10))) (l10 : K.lookup f10 = some ⟨oc10, od10, .func (PySem.W.fnOf "row_fewest" "row_fewest" (defArgs sRowFewest) (defBody sRowFewest) (defScope sRowFewest) .none kV10 dc10 pm10 an10 cd10 ct10), sl10⟩) (c10 : PySem.W.codeIn K cd10 "row_fewest" = true) (k10 : PySem.W.keepIn K (.ref f10) = true)
    (a11 : PySem.W.nsIn K mainGlobals "ring_fewest" = some (some (.ref f11))) (l11 : K.lookup f11 = some ⟨oc11, od11, .func (PySem.W.fnOf "ring_fewest" "ring_fewest" (defArgs sRingFewest) (defBody sRingFewest) (defScope sRingFewest) .none kV11 dc11 pm11 an11 cd11 ct11), sl11⟩) (c11 : PySem.W.codeIn K cd11 "ring_fewest" = true) (k11 : PySem.W.keepIn K (.ref f11) = true)
    (a12 : PySem.W.nsIn K mainGlobals "_law_taken" = some (some (.ref f12))) (l12 : K.lookup f12 = some ⟨oc12, od12, .func (PySem.W.fnOf "_law_taken" "_law_taken" (defArgs sTaken) (defBody sTaken) (defScope sTaken) .none kV12 dc12 pm12 an12 cd12 ct12), sl12⟩) (c12 : PySem.W.codeIn K cd12 "_law_taken" = true) (k12 : PySem.W.keepIn K (.ref f12) = true)
    (a13 : PySem.W.nsIn K mainGlobals "_law_pick" = some (some (.ref f13))) (l13 : K.lookup f13 = some ⟨oc13, od13, .func (PySem.W.fnOf "_law_pick" "_law_pick" (defArgs sPick) (defBody sPick) (defScope sPick) .none kV13 dc13 pm13 an13 cd13 ct13), sl13⟩) (c13 : PySem.W.codeIn K cd13 "_law_pick" = true) (k13 : PySem.W.keepIn K (.ref f13) = true)
    (a14 : PySem.W.nsIn K mainGlobals "_law_row_burning" = some (some (.ref f14))) (l14 : K.lookup f14 = some ⟨oc14, od14, .func (PySem.W.fnOf "_law_row_burning" "_law_row_burning" (defArgs sRowBurning) (defBody sRowBurning) (defScope sRowBurning) .none kV14 dc14 pm14 an14 cd14 ct14), sl14⟩) (c14 : PySem.W.codeIn K cd14 "_law_row_burning" = true) (k14 : PySem.W.keepIn K (.ref f14) = true)
    (a15 : PySem.W.nsIn K mainGlobals "_law_changed" = some (some (.ref f15))) (l15 : K.lookup f15 = some ⟨oc15, od15, .func (PySem.W.fnOf "_law_changed" "_law_changed" (defArgs sChanged) (defBody sChanged) (defScope sChanged) .none kV15 dc15 pm15 an15 cd15 ct15), sl15⟩) (c15 : PySem.W.codeIn K cd15 "_law_changed" = true) (k15 : PySem.W.keepIn K (.ref f15) = true)
    (a16 : PySem.W.nsIn K mainGlobals "_law_light" = some (some (.ref f16))) (l16 : K.lookup f16 = some ⟨oc16, od16, .func (PySem.W.fnOf "_law_light" "_law_light" (defArgs sLight) (defBody sLight) (defScope sLight) .none kV16 dc16 pm16 an16 cd16 ct16), sl16⟩) (c16 : PySem.W.codeIn K cd16 "_law_light" = true) (k16 : PySem.W.keepIn K (.ref f16) = true)
    (a17 : PySem.W.nsIn K mainGlobals "_law_quench" = some (some (.ref f17))) (l17 : K.lookup f17 = some ⟨oc17, od17, .func (PySem.W.fnOf "_law_quench" "_law_quench" (defArgs sQuench) (defBody sQuench) (defScope sQuench) .none kV17 dc17 pm17 an17 cd17 ct17), sl17⟩) (c17 : PySem.W.codeIn K cd17 "_law_quench" = true) (k17 : PySem.W.keepIn K (.ref f17) = true)
    (a18 : PySem.W.nsIn K mainGlobals "_law_after" = some (some (.ref f18))) (l18 : K.lookup f18 = some ⟨oc18, od18, .func (PySem.W.fnOf "_law_after" "_law_after" (defArgs sAfter) (defBody sAfter) (defScope sAfter) .none kV18 dc18 pm18 an18 cd18 ct18), sl18⟩) (c18 : PySem.W.codeIn K cd18 "_law_after" = true) (k18 : PySem.W.keepIn K (.ref f18) = true)
    (a19 : PySem.W.nsIn K mainGlobals "_law_from" = some (some (.ref f19))) (l19 : K.lookup f19 = some ⟨oc19, od19, .func (PySem.W.fnOf "_law_from" "_law_from" (defArgs sFrom) (defBody sFrom) (defScope sFrom) .none kV19 dc19 pm19 an19 cd19 ct19), sl19⟩) (c19 : PySem.W.codeIn K cd19 "_law_from" = true) (k19 : PySem.W.keepIn K (.ref f19) = true)
    (a20 : PySem.W.nsIn K mainGlobals "_law_alike" = some (some (.ref f20))) (l20 : K.lookup f20 = some ⟨oc20, od20, .func (PySem.W.fnOf "_law_alike" "_law_alike" (defArgs sAlike) (defBody sAlike) (defScope sAlike) .none kV20 dc20 pm20 an20 cd20 ct20), sl20⟩) (c20 : PySem.W.codeIn K cd20 "_law_alike" = true) (k20 : PySem.W.keepIn K (.ref f20) = true)
    (a21 : PySem.W.nsIn K mainGlobals "_law_row_cost" = some (some (.ref f21))) (l21 : K.lookup f21 = some ⟨oc21, od21, .func (PySem.W.fnOf "_law_row_cost" "_law_row_cost" (defArgs sRowCost) (defBody sRowCost) (defScope sRowCost) .none kV21 dc21 pm21 an21 cd21 ct21), sl21⟩) (c21 : PySem.W.codeIn K cd21 "_law_row_cost" = true) (k21 : PySem.W.keepIn K (.ref f21) = true)
    (a22 : PySem.W.nsIn K mainGlobals "law" = some (some (.ref f22))) (l22 : K.lookup f22 = some ⟨oc22, od22, .func (PySem.W.fnOf "law" "law" (defArgs sLaw) (defBody sLaw) (defScope sLaw) .none kV22 dc22 pm22 an22 cd22 ct22), sl22⟩) (c22 : PySem.W.codeIn K cd22 "law" = true) (k22 : PySem.W.keepIn K (.ref f22) = true)
    (z1 : PySem.W.nsIn K mainGlobals "isinstance" = some none)
    (z2 : PySem.W.nsIn K mainGlobals "int" = some none)
    (z3 : PySem.W.nsIn K mainGlobals "bool" = some none)
    (z4 : PySem.W.nsIn K mainGlobals "tuple" = some none)
    (z5 : PySem.W.nsIn K mainGlobals "enumerate" = some none)
    (z6 : PySem.W.nsIn K mainGlobals "range" = some none)
    (z7 : PySem.W.nsIn K mainGlobals "list" = some none)
    (z8 : PySem.W.nsIn K mainGlobals "len" = some none)
    (z9 : PySem.W.nsIn K mainGlobals "sorted" = some none)
    (z10 : PySem.W.nsIn K mainGlobals "max" = some none)
    (z11 : PySem.W.nsIn K mainGlobals "str" = some none)
    (gM : PySem.W.nsIn K mainGlobals "MOST_ROW" = some (some (.int 40 tM))) :
    ∃ fd : FuncData, (∀ (s : Shared) (v : Value), BindsTo s fd ⟨[v], []⟩ [("_law_script", v)]) ∧ ∀ base : Heap, K.In base → base.Ns mainGlobals mg → FnOk l.prog w K mg base CX0 5 fa fd ["_law_script"] (spLaw K) := by
  have e := hfa.symm.trans (PySem.W.mg_of X G a22)
  cases e
  have F1 := fun_mk (st := sIsIn) l1 c1 k1
  have D1 : Def K mg "is_in" ["value", "least", "most"] sIsIn f1 _ := ⟨F1, PySem.W.mg_of X G a1, F1.binds (ps := ["value", "least", "most"]) fun _ _ _ _ _ _ us hl => match us, hl with | [_, _, _], _ => rfl⟩
  have F2 := fun_mk (st := sNeedMany) l2 c2 k2
  have D2 : Def K mg "need_many" ["many", "least"] sNeedMany f2 _ := ⟨F2, PySem.W.mg_of X G a2, F2.binds (ps := ["many", "least"]) fun _ _ _ _ _ _ us hl => match us, hl with | [_, _], _ => rfl⟩
  have F3 := fun_mk (st := sNeedBurning) l3 c3 k3
  have D3 : Def K mg "need_burning" ["many", "burning"] sNeedBurning f3 _ := ⟨F3, PySem.W.mg_of X G a3, F3.binds (ps := ["many", "burning"]) fun _ _ _ _ _ _ us hl => match us, hl with | [_, _], _ => rfl⟩
  have F4 := fun_mk (st := sRowComes) l4 c4 k4
  have D4 : Def K mg "row_comes" ["one", "other"] sRowComes f4 _ := ⟨F4, PySem.W.mg_of X G a4, F4.binds (ps := ["one", "other"]) fun _ _ _ _ _ _ us hl => match us, hl with | [_, _], _ => rfl⟩
  have F5 := fun_mk (st := sSortsOf) l5 c5 k5
  have D5 : Def K mg "sorts_of" ["many", "one", "other"] sSortsOf f5 _ := ⟨F5, PySem.W.mg_of X G a5, F5.binds (ps := ["many", "one", "other"]) fun _ _ _ _ _ _ us hl => match us, hl with | [_, _, _], _ => rfl⟩
  have F6 := fun_mk (st := sSpareIn) l6 c6 k6
  have D6 : Def K mg "spare_in" ["sorts", "order"] sSpareIn f6 _ := ⟨F6, PySem.W.mg_of X G a6, F6.binds (ps := ["sorts", "order"]) fun _ _ _ _ _ _ us hl => match us, hl with | [_, _], _ => rfl⟩
  have F7 := fun_mk (st := sRowParts) l7 c7 k7
  have D7 : Def K mg "row_parts" ["many", "one", "other"] sRowParts f7 _ := ⟨F7, PySem.W.mg_of X G a7, F7.binds (ps := ["many", "one", "other"]) fun _ _ _ _ _ _ us hl => match us, hl with | [_, _, _], _ => rfl⟩
  have F8 := fun_mk (st := sRingParts) l8 c8 k8
  have D8 : Def K mg "ring_parts" ["many", "one", "other"] sRingParts f8 _ := ⟨F8, PySem.W.mg_of X G a8, F8.binds (ps := ["many", "one", "other"]) fun _ _ _ _ _ _ us hl => match us, hl with | [_, _, _], _ => rfl⟩
  have F9 := fun_mk (st := sNeedTwo) l9 c9 k9
  have D9 : Def K mg "need_two" ["many", "least", "one", "other"] sNeedTwo f9 _ := ⟨F9, PySem.W.mg_of X G a9, F9.binds (ps := ["many", "least", "one", "other"]) fun _ _ _ _ _ _ us hl => match us, hl with | [_, _, _, _], _ => rfl⟩
  have F10 := fun_mk (st := sRowFewest) l10 c10 k10
  have D10 : Def K mg "row_fewest" ["many", "one", "other"] sRowFewest f10 _ := ⟨F10, PySem.W.mg_of X G a10, F10.binds (ps := ["many", "one", "other"]) fun _ _ _ _ _ _ us hl => match us, hl with | [_, _, _], _ => rfl⟩
  have F11 := fun_mk (st := sRingFewest) l11 c11 k11
  have D11 : Def K mg "ring_fewest" ["many", "one", "other"] sRingFewest f11 _ := ⟨F11, PySem.W.mg_of X G a11, F11.binds (ps := ["many", "one", "other"]) fun _ _ _ _ _ _ us hl => match us, hl with | [_, _, _], _ => rfl⟩
  have F12 := fun_mk (st := sTaken) l12 c12 k12
  have D12 : Def K mg "_law_taken" ["_law_row", "_law_many"] sTaken f12 _ := ⟨F12, PySem.W.mg_of X G a12, F12.binds (ps := ["_law_row", "_law_many"]) fun _ _ _ _ _ _ us hl => match us, hl with | [_, _], _ => rfl⟩
  have F13 := fun_mk (st := sPick) l13 c13 k13
  have D13 : Def K mg "_law_pick" ["_law_row", "_law_things"] sPick f13 _ := ⟨F13, PySem.W.mg_of X G a13, F13.binds (ps := ["_law_row", "_law_things"]) fun _ _ _ _ _ _ us hl => match us, hl with | [_, _], _ => rfl⟩
  have F14 := fun_mk (st := sRowBurning) l14 c14 k14
  have D14 : Def K mg "_law_row_burning" ["_law_row", "_law_many"] sRowBurning f14 _ := ⟨F14, PySem.W.mg_of X G a14, F14.binds (ps := ["_law_row", "_law_many"]) fun _ _ _ _ _ _ us hl => match us, hl with | [_, _], _ => rfl⟩
  have F15 := fun_mk (st := sChanged) l15 c15 k15
  have D15 : Def K mg "_law_changed" ["_law_burning", "_law_lamp"] sChanged f15 _ := ⟨F15, PySem.W.mg_of X G a15, F15.binds (ps := ["_law_burning", "_law_lamp"]) fun _ _ _ _ _ _ us hl => match us, hl with | [_, _], _ => rfl⟩
  have F16 := fun_mk (st := sLight) l16 c16 k16
  have D16 : Def K mg "_law_light" ["_law_web", "_law_burning"] sLight f16 _ := ⟨F16, PySem.W.mg_of X G a16, F16.binds (ps := ["_law_web", "_law_burning"]) fun _ _ _ _ _ _ us hl => match us, hl with | [_, _], _ => rfl⟩
  have F17 := fun_mk (st := sQuench) l17 c17 k17
  have D17 : Def K mg "_law_quench" ["_law_web", "_law_burning"] sQuench f17 _ := ⟨F17, PySem.W.mg_of X G a17, F17.binds (ps := ["_law_web", "_law_burning"]) fun _ _ _ _ _ _ us hl => match us, hl with | [_, _], _ => rfl⟩
  have F18 := fun_mk (st := sAfter) l18 c18 k18
  have D18 : Def K mg "_law_after" ["_law_web", "_law_burning"] sAfter f18 _ := ⟨F18, PySem.W.mg_of X G a18, F18.binds (ps := ["_law_web", "_law_burning"]) fun _ _ _ _ _ _ us hl => match us, hl with | [_, _], _ => rfl⟩
  have F19 := fun_mk (st := sFrom) l19 c19 k19
  have D19 : Def K mg "_law_from" ["_law_web", "_law_burning"] sFrom f19 _ := ⟨F19, PySem.W.mg_of X G a19, F19.binds (ps := ["_law_web", "_law_burning"]) fun _ _ _ _ _ _ us hl => match us, hl with | [_, _], _ => rfl⟩
  have F20 := fun_mk (st := sAlike) l20 c20 k20
  have D20 : Def K mg "_law_alike" ["_law_found", "_law_due"] sAlike f20 _ := ⟨F20, PySem.W.mg_of X G a20, F20.binds (ps := ["_law_found", "_law_due"]) fun _ _ _ _ _ _ us hl => match us, hl with | [_, _], _ => rfl⟩
  have F21 := fun_mk (st := sRowCost) l21 c21 k21
  have D21 : Def K mg "_law_row_cost" ["_law_many", "_law_is_ring", "_law_one", "_law_other"] sRowCost f21 _ := ⟨F21, PySem.W.mg_of X G a21, F21.binds (ps := ["_law_many", "_law_is_ring", "_law_one", "_law_other"]) fun _ _ _ _ _ _ us hl => match us, hl with | [_, _, _, _], _ => rfl⟩
  have F22 := fun_mk (st := sLaw) l22 c22 k22
  have D22 : Def K mg "law" ["_law_script"] sLaw fa _ := ⟨F22, PySem.W.mg_of X G a22, F22.binds (ps := ["_law_script"]) fun _ _ _ _ _ _ us hl => match us, hl with | [_], _ => rfl⟩
  have B : Blts mg := ⟨PySem.W.mg_none_of X G z1, PySem.W.mg_none_of X G z2, PySem.W.mg_none_of X G z3, PySem.W.mg_none_of X G z4, PySem.W.mg_none_of X G z5, PySem.W.mg_none_of X G z6, PySem.W.mg_none_of X G z7, PySem.W.mg_none_of X G z8, PySem.W.mg_none_of X G z9, PySem.W.mg_none_of X G z10, PySem.W.mg_none_of X G z11⟩
  refine ⟨PySem.W.fnOf "law" "law" (defArgs sLaw) (defBody sLaw) (defScope sLaw) .none kV22 dc22 pm22 an22 cd22 ct22, fun s v => .of_eq rfl, fun base _ _ => ok_law D1 D2 D3 D4 D5 D6 D7 D8 D9 D10 D11 D12 D13 D14 D15 D16 D17 D18 D19 D20 D21 D22 B (PySem.W.mg_of X G gM)⟩
end Wr
open PySem PySem.W PyProof.Rows
set_option maxRecDepth 100000 in
set_option maxHeartbeats 0 in
theorem PySem.Challenge.cw_passlights_k17_whole_rows_holds : PySem.Challenge.rw_passlights_k17_whole_rows.Holds := by
  w_on; o_law; k_head; (case hw => w_witness2)
  k_fill
  refine L2.walk_of (l := PySem.Challenge.rw_passlights_k17_whole_rows) (n := 63) (k := 5) (x := "_law_script") (CX := fun _ => L2.CX0) (sp := fun w => Wr.spLaw _) rfl (by decide) rfl ⟨rfl, by decide, by decide⟩ (fun w h Y => PySem.W.kIn_of Y) ?F (fun _ _ a ns hl _ hS => ⟨a, ns, rfl, hS, hl, fun _ => rfl⟩) (fun _ _ _ _ _ h => h)
  case F =>
    intro w mg fa h KX G hmg
    refine' Wr.all_mk KX G hmg ?a1 ?l1 ?c1 ?k1 ?a2 ?l2 ?c2 ?k2 ?a3 ?l3 ?c3 ?k3 ?a4 ?l4 ?c4 ?k4 ?a5 ?l5 ?c5 ?k5 ?a6 ?l6 ?c6 ?k6 ?a7 ?l7 ?c7 ?k7 ?a8 ?l8 ?c8 ?k8 ?a9 ?l9 ?c9 ?k9 ?a10 ?l10 ?c10 ?k10 ?a11 ?l11 ?c11 ?k11 ?a12 ?l12 ?c12 ?k12 ?a13 ?l13 ?c13 ?k13 ?a14 ?l14 ?c14 ?k14 ?a15 ?l15 ?c15 ?k15 ?a16 ?l16 ?c16 ?k16 ?a17 ?l17 ?c17 ?k17 ?a18 ?l18 ?c18 ?k18 ?a19 ?l19 ?c19 ?k19 ?a20 ?l20 ?c20 ?k20 ?a21 ?l21 ?c21 ?k21 ?a22 ?l22 ?c22 ?k22 ?z1 ?z2 ?z3 ?z4 ?z5 ?z6 ?z7 ?z8 ?z9 ?z10 ?z11 ?gM
    (case a1 => k_is); (case l1 => k_is); (case c1 => k_is); (case k1 => k_is); (case a2 => k_is); (case l2 => k_is); (case c2 => k_is); (case k2 => k_is); (case a3 => k_is); (case l3 => k_is); (case c3 => k_is); (case k3 => k_is); (case a4 => k_is); (case l4 => k_is); (case c4 => k_is); (case k4 => k_is); (case a5 => k_is); (case l5 => k_is); (case c5 => k_is); (case k5 => k_is); (case a6 => k_is); (case l6 => k_is); (case c6 => k_is); (case k6 => k_is); (case a7 => k_is); (case l7 => k_is); (case c7 => k_is); (case k7 => k_is); (case a8 => k_is); (case l8 => k_is); (case c8 => k_is); (case k8 => k_is); (case a9 => k_is); (case l9 => k_is); (case c9 => k_is); (case k9 => k_is); (case a10 => k_is); (case l10 => k_is); (case c10 => k_is); (case k10 => k_is); (case a11 => k_is); (case l11 => k_is); (case c11 => k_is); (case k11 => k_is); (case a12 => k_is); (case l12 => k_is); (case c12 => k_is); (case k12 => k_is); (case a13 => k_is); (case l13 => k_is); (case c13 => k_is); (case k13 => k_is); (case a14 => k_is); (case l14 => k_is); (case c14 => k_is); (case k14 => k_is); (case a15 => k_is); (case l15 => k_is); (case c15 => k_is); (case k15 => k_is); (case a16 => k_is); (case l16 => k_is); (case c16 => k_is); (case k16 => k_is); (case a17 => k_is); (case l17 => k_is); (case c17 => k_is); (case k17 => k_is); (case a18 => k_is); (case l18 => k_is); (case c18 => k_is); (case k18 => k_is); (case a19 => k_is); (case l19 => k_is); (case c19 => k_is); (case k19 => k_is); (case a20 => k_is); (case l20 => k_is); (case c20 => k_is); (case k20 => k_is); (case a21 => k_is); (case l21 => k_is); (case c21 => k_is); (case k21 => k_is); (case a22 => k_is); (case l22 => k_is); (case c22 => k_is); (case k22 => k_is); (case z1 => k_is); (case z2 => k_is); (case z3 => k_is); (case z4 => k_is); (case z5 => k_is); (case z6 => k_is); (case z7 => k_is); (case z8 => k_is); (case z9 => k_is); (case z10 => k_is); (case z11 => k_is); (case gM => k_is)
#print axioms PySem.Challenge.cw_passlights_k17_whole_rows_holds
