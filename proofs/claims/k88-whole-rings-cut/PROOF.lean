import PyProof.Rows.All
import Wide.All
import OpenK.AllK
import Wide.FinOn
import HandS.ForMost
import HandS.Zip
import HandS.Deep
import KE.GoesEnum
import KE.KDictZip
import HandS.Walk
import KE.Datum
import HandS.TupAny
import HandS.IsInst
import PySem.Challenge.RW_bundlehouse_k88_whole_rings_cut
set_option Elab.async false
set_option linter.all false
set_option maxRecDepth 100000
set_option maxHeartbeats 4000000
/-! Plain mathematics for the claim: ways, ranks, the least order of a set's parts, tangles, cuts. No program here. -/
namespace Bh

/-! ### lists -/
theorem len_of_sub {α : Type} : ∀ {l m : List α}, l.Nodup → (∀ x, x ∈ l → x ∈ m) → l.length ≤ m.length
  | [], _, _, _ => Nat.zero_le _
  | a :: l, m, hn, hs => by
    have hn' := List.nodup_cons.mp hn
    obtain ⟨m1, m2, rfl⟩ := List.append_of_mem (hs a (List.mem_cons_self ..))
    have ih : l.length ≤ (m1 ++ m2).length := len_of_sub hn'.2 fun x hx => by
      have h1 := hs x (List.mem_cons_of_mem _ hx)
      have h2 : x ≠ a := fun e => hn'.1 (e ▸ hx)
      simp only [List.mem_append, List.mem_cons] at h1 ⊢
      rcases h1 with h | h | h
      · exact .inl h
      · exact absurd h h2
      · exact .inr h
    simp only [List.length_append, List.length_cons] at ih ⊢
    omega

theorem exists_min {α : Type} (r : α → Nat) : ∀ {l : List α}, l ≠ [] → ∃ a, a ∈ l ∧ ∀ b, b ∈ l → r a ≤ r b
  | [], h => absurd rfl h
  | [a], _ => ⟨a, List.mem_cons_self .., fun b hb => by rw [List.mem_singleton.mp hb]; exact Nat.le_refl _⟩
  | a :: b :: l, _ => by
    obtain ⟨c, hc, hm⟩ := exists_min r (l := b :: l) (fun e => nomatch e)
    by_cases h : r a ≤ r c
    · refine ⟨a, List.mem_cons_self .., fun d hd => ?_⟩
      rcases List.mem_cons.mp hd with rfl | hd
      · exact Nat.le_refl _
      · exact Nat.le_trans h (hm d hd)
    · refine ⟨c, List.mem_cons_of_mem _ hc, fun d hd => ?_⟩
      rcases List.mem_cons.mp hd with rfl | hd
      · omega
      · exact hm d hd

/-! ### ways -/
section
variable {α : Type}
inductive Way (E : α → α → Prop) : α → α → Prop
  | one {x y : α} : E x y → Way E x y
  | more {x y z : α} : E x y → Way E y z → Way E x z
theorem Way.trans {E : α → α → Prop} {x y z : α} (a : Way E x y) (b : Way E y z) : Way E x z := by
  induction a with
  | one h => exact .more h b
  | more h _ ih => exact .more h (ih b)
theorem Way.snoc {E : α → α → Prop} {x y z : α} (a : Way E x y) (b : E y z) : Way E x z := a.trans (.one b)
theorem Way.mono {E F : α → α → Prop} (h : ∀ x y, E x y → F x y) {x y : α} (a : Way E x y) : Way F x y := by
  induction a with
  | one e => exact .one (h _ _ e)
  | more e _ ih => exact .more (h _ _ e) ih
theorem Way.last {E : α → α → Prop} {x y : α} (a : Way E x y) : ∃ z, E z y := by
  induction a with
  | one e => exact ⟨_, e⟩
  | more _ _ ih => exact ih
theorem Way.first {E : α → α → Prop} {x y : α} (a : Way E x y) : ∃ z, E x z := by
  cases a with
  | one e => exact ⟨_, e⟩
  | more e _ => exact ⟨_, e⟩
def Acyc (E : α → α → Prop) : Prop := ∀ x, ¬ Way E x x
theorem acyc_of_rank {E : α → α → Prop} (r : α → Nat) (h : ∀ x y, E x y → r y < r x) : Acyc E := by
  have q : ∀ {x y}, Way E x y → r y < r x := fun {x y} a => by
    induction a with
    | one e => exact h _ _ e
    | more e _ ih => exact Nat.lt_trans ih (h _ _ e)
  exact fun x a => Nat.lt_irrefl _ (q a)
open Classical in
theorem rank_of_acyc {E : α → α → Prop} (names : List α) (hE : ∀ x y, E x y → y ∈ names) (a : Acyc E) : ∃ r : α → Nat, ∀ x y, E x y → r y < r x := by
  refine ⟨fun x => (names.filter fun y => decide (Way E x y)).length, fun x y e => ?_⟩
  have key : ∀ l : List α, (l.filter fun z => decide (Way E y z)).length ≤ (l.filter fun z => decide (Way E x z)).length ∧
      (y ∈ l → (l.filter fun z => decide (Way E y z)).length < (l.filter fun z => decide (Way E x z)).length) := by
    intro l
    induction l with
    | nil => exact ⟨Nat.le_refl _, fun h => nomatch h⟩
    | cons b l ih =>
      by_cases hb : Way E y b
      · have hb' : Way E x b := .more e hb
        rw [List.filter_cons_of_pos (by simpa using hb), List.filter_cons_of_pos (by simpa using hb')]
        refine ⟨Nat.succ_le_succ ih.1, fun hy => ?_⟩
        rcases List.mem_cons.mp hy with rfl | hy
        · exact absurd hb (a _)
        · exact Nat.succ_lt_succ (ih.2 hy)
      · rw [List.filter_cons_of_neg (by simpa using hb)]
        by_cases hb' : Way E x b
        · rw [List.filter_cons_of_pos (by simpa using hb')]
          exact ⟨Nat.le_succ_of_le ih.1, fun _ => Nat.lt_succ_of_le ih.1⟩
        · rw [List.filter_cons_of_neg (by simpa using hb')]
          refine ⟨ih.1, fun hy => ?_⟩
          rcases List.mem_cons.mp hy with rfl | hy
          · exact absurd (Way.one e) hb'
          · exact ih.2 hy
  exact (key names).2 (hE x y e)
end

/-! ### sets as numbers -/
def pop (n m : Nat) : Nat := ((List.range n).filter fun j => m.testBit j).length
theorem bit_xor (w i j : Nat) : (w ^^^ 2 ^ i).testBit j = (w.testBit j ^^ decide (i = j)) := by
  rw [Nat.testBit_xor, Nat.testBit_two_pow]
theorem bit_xor_self {w i : Nat} (h : w.testBit i = true) : (w ^^^ 2 ^ i).testBit i = false := by
  rw [bit_xor, h]; simp
theorem bit_xor_ne {w i j : Nat} (h : i ≠ j) : (w ^^^ 2 ^ i).testBit j = w.testBit j := by
  rw [bit_xor]; simp [h]
theorem bit_of_xor {w i j : Nat} (hi : w.testBit i = true) (h : (w ^^^ 2 ^ i).testBit j = true) : w.testBit j = true ∧ i ≠ j := by
  by_cases e : i = j
  · subst e; rw [bit_xor_self hi] at h; cases h
  · rw [bit_xor_ne e] at h; exact ⟨h, e⟩
theorem xor_lt {w i : Nat} (h : w.testBit i = true) : w ^^^ 2 ^ i < w := by
  refine Nat.lt_of_le_of_ne (Nat.le_of_testBit fun j hj => (bit_of_xor h hj).1) fun e => ?_
  have q := bit_xor_self h
  rw [e, h] at q
  cases q
theorem bit_lt {n w i : Nat} (hw : w < 2 ^ n) (h : w.testBit i = true) : i < n := by
  refine Nat.lt_of_not_le fun q => ?_
  have : w < 2 ^ i := Nat.lt_of_lt_of_le hw (Nat.pow_le_pow_right (by decide) q)
  rw [Nat.testBit_lt_two_pow this] at h
  cases h
theorem exists_bit {n w : Nat} (hw : w < 2 ^ n) (h : 0 < w) : ∃ i, i < n ∧ w.testBit i = true := by
  obtain ⟨i, hi⟩ := Nat.exists_testBit_of_ne_zero (Nat.ne_of_gt h)
  exact ⟨i, bit_lt hw hi, hi⟩
theorem full_bit {n i : Nat} : (2 ^ n - 1).testBit i = decide (i < n) := Nat.testBit_two_pow_sub_one ..

/-- the least cuts of sets, and the part of each that is laid last -/
structure IsBest (n : Nat) (ah L num : Nat → Nat) : Prop where
  zero : L 0 = 0
  num_lt : ∀ w, 0 < w → w < 2 ^ n → num w < n
  num_bit : ∀ w, 0 < w → w < 2 ^ n → w.testBit (num w) = true
  eq : ∀ w, 0 < w → w < 2 ^ n → L w = L (w ^^^ 2 ^ num w) + pop n (ah (num w) &&& (w ^^^ 2 ^ num w))
  le : ∀ w, 0 < w → w < 2 ^ n → ∀ i, i < n → w.testBit i = true → L w ≤ L (w ^^^ 2 ^ i) + pop n (ah i &&& (w ^^^ 2 ^ i))

/-- the bringings-in that go back, by numbers -/
def cutM (n : Nat) (ah num : Nat → Nat) : Nat → Nat → List (Nat × Nat)
  | 0, _ => []
  | f + 1, w => if w = 0 then [] else
      (((List.range n).filter fun j => (ah (num w) &&& (w ^^^ 2 ^ num w)).testBit j).map fun j => (num w, j)) ++ cutM n ah num f (w ^^^ 2 ^ num w)

section
variable {n : Nat} {ah L num : Nat → Nat}
theorem cutM_zero : ∀ f, cutM n ah num f 0 = []
  | 0 => rfl
  | _ + 1 => if_pos rfl
theorem cutM_pos {f w : Nat} (h : 0 < w) : cutM n ah num (f + 1) w =
    (((List.range n).filter fun j => (ah (num w) &&& (w ^^^ 2 ^ num w)).testBit j).map fun j => (num w, j)) ++ cutM n ah num f (w ^^^ 2 ^ num w) :=
  if_neg (Nat.ne_of_gt h)
theorem cutM_len (B : IsBest n ah L num) : ∀ (f w : Nat), w ≤ f → w < 2 ^ n → (cutM n ah num f w).length = L w
  | f, 0, _, _ => by rw [cutM_zero, B.zero]; rfl
  | 0, w + 1, h, _ => absurd h (by omega)
  | f + 1, w + 1, h, hw => by
    have hlt := xor_lt (B.num_bit (w + 1) (by omega) hw)
    rw [cutM_pos (by omega), List.length_append, List.length_map, cutM_len B f _ (by omega) (by omega), B.eq (w + 1) (by omega) hw, Nat.add_comm]
    rfl
theorem cutM_mem (B : IsBest n ah L num) {i j : Nat} : ∀ (f w : Nat), w ≤ f → w < 2 ^ n → (i, j) ∈ cutM n ah num f w → i < n ∧ j < n ∧ w.testBit i = true ∧ w.testBit j = true ∧ i ≠ j ∧ (ah i).testBit j = true
  | f, 0, _, _, hm => by rw [cutM_zero] at hm; cases hm
  | 0, w + 1, h, _, _ => absurd h (by omega)
  | f + 1, w + 1, h, hw, hm => by
    have hb := B.num_bit (w + 1) (by omega) hw
    have hlt := xor_lt hb
    rw [cutM_pos (by omega)] at hm
    rcases List.mem_append.mp hm with hm | hm
    · obtain ⟨k, hk, e⟩ := List.mem_map.mp hm
      obtain ⟨hk1, hk2⟩ := List.mem_filter.mp hk
      cases e
      rw [Nat.testBit_and, Bool.and_eq_true] at hk2
      obtain ⟨h1, h2⟩ := bit_of_xor hb hk2.2
      exact ⟨B.num_lt _ (by omega) hw, List.mem_range.mp hk1, hb, h1, h2, hk2.1⟩
    · obtain ⟨a, b, c, d, e, g⟩ := cutM_mem B f _ (by omega) (by omega) hm
      exact ⟨a, b, (bit_of_xor hb c).1, (bit_of_xor hb d).1, e, g⟩
/-- what the cut leaves has no ring: a rank -/
theorem cutM_rank (B : IsBest n ah L num) : ∀ (f w : Nat), w ≤ f → w < 2 ^ n → ∃ r : Nat → Nat, ∀ i j, w.testBit i = true → w.testBit j = true → i ≠ j → (ah i).testBit j = true → (i, j) ∉ cutM n ah num f w → r j < r i
  | f, 0, _, _ => ⟨fun _ => 0, fun i j h => by rw [Nat.zero_testBit] at h; cases h⟩
  | 0, w + 1, h, _ => absurd h (by omega)
  | f + 1, w + 1, h, hw => by
    have hb := B.num_bit (w + 1) (by omega) hw
    have hlt := xor_lt hb
    obtain ⟨r, hr⟩ := cutM_rank B f _ (Nat.le_of_lt_succ (Nat.lt_of_lt_of_le hlt h)) (Nat.lt_trans hlt hw)
    rw [cutM_pos (by omega)]
    generalize hi0 : num (w + 1) = i0 at *
    generalize hw' : (w + 1) ^^^ 2 ^ i0 = w' at *
    refine ⟨fun i => if i = i0 then 0 else r i + 1, fun i j hi hj hij ha hno => ?_⟩
    have sub : ∀ k, (w + 1).testBit k = true → k ≠ i0 → w'.testBit k = true := fun k hk hne => by
      rw [← hw', bit_xor_ne (fun q => hne q.symm)]; exact hk
    by_cases ei : i = i0
    · subst ei
      refine absurd (List.mem_append_left _ (List.mem_map.mpr ⟨j, List.mem_filter.mpr ⟨List.mem_range.mpr (bit_lt hw hj), ?_⟩, rfl⟩)) hno
      rw [Nat.testBit_and, ha, sub j hj (fun q => hij q.symm)]
      rfl
    · by_cases ej : j = i0
      · simp only [if_neg ei, if_pos ej]
        exact Nat.succ_pos _
      · simp only [if_neg ei, if_neg ej]
        exact Nat.succ_lt_succ (hr i j (sub i hi ei) (sub j hj ej) hij ha fun q => hno (List.mem_append_right _ q))
/-- no order has fewer going back -/
theorem best_le (B : IsBest n ah L num) (r : Nat → Nat) : ∀ (f w : Nat), w ≤ f → w < 2 ^ n → ∀ D : List (Nat × Nat),
    (∀ i j, i < n → j < n → w.testBit i = true → w.testBit j = true → i ≠ j → (ah i).testBit j = true → ¬ r j < r i → (i, j) ∈ D) → L w ≤ D.length
  | f, 0, _, _, D, _ => by rw [B.zero]; exact Nat.zero_le _
  | 0, w + 1, h, _, _, _ => absurd h (by omega)
  | f + 1, w + 1, h, hw, D, hD => by
    have ne : ((List.range n).filter fun j => (w + 1).testBit j) ≠ [] := fun e => by
      obtain ⟨i, hi, hb⟩ := exists_bit hw (by omega)
      have : i ∈ ((List.range n).filter fun j => (w + 1).testBit j) := List.mem_filter.mpr ⟨List.mem_range.mpr hi, hb⟩
      rw [e] at this
      cases this
    obtain ⟨i0, hi0, hmin⟩ := exists_min r ne
    obtain ⟨h1, hb⟩ := List.mem_filter.mp hi0
    have hi0n := List.mem_range.mp h1
    have hlt := xor_lt hb
    have ih := best_le B r f ((w + 1) ^^^ 2 ^ i0) (by omega) (by omega) (D.filter fun p => decide (p.1 ≠ i0)) fun i j hi hj bi bj hij ha hr => by
      obtain ⟨bi', ni⟩ := bit_of_xor hb bi
      obtain ⟨bj', nj⟩ := bit_of_xor hb bj
      exact List.mem_filter.mpr ⟨hD i j hi hj bi' bj' hij ha hr, decide_eq_true fun q => ni q.symm⟩
    have h2 : pop n (ah i0 &&& ((w + 1) ^^^ 2 ^ i0)) ≤ (D.filter fun p => !decide (p.1 ≠ i0)).length := by
      have e : pop n (ah i0 &&& ((w + 1) ^^^ 2 ^ i0)) = (((List.range n).filter fun j => (ah i0 &&& ((w + 1) ^^^ 2 ^ i0)).testBit j).map fun j => (i0, j)).length := by
        rw [List.length_map]; rfl
      rw [e]
      refine len_of_sub ?_ fun p hp => ?_
      · refine List.Pairwise.map _ (fun a b hab q => hab (Prod.mk.inj q).2) (List.Pairwise.filter _ List.nodup_range)
      · obtain ⟨j, hj, rfl⟩ := List.mem_map.mp hp
        obtain ⟨hjn, hjb⟩ := List.mem_filter.mp hj
        rw [Nat.testBit_and, Bool.and_eq_true] at hjb
        obtain ⟨bj, nj⟩ := bit_of_xor hb hjb.2
        have hjn := List.mem_range.mp hjn
        refine List.mem_filter.mpr ⟨hD i0 j hi0n hjn hb bj nj hjb.1 ?_, by simp⟩
        have := hmin j (List.mem_filter.mpr ⟨List.mem_range.mpr hjn, bj⟩)
        omega
    have h3 : (D.filter fun p => decide (p.1 ≠ i0)).length + (D.filter fun p => !decide (p.1 ≠ i0)).length = D.length := by
      rw [← List.countP_eq_length_filter, ← List.countP_eq_length_filter, List.length_eq_countP_add_countP (fun p : Nat × Nat => decide (p.1 ≠ i0)) (l := D)]
      congr 1
      apply List.countP_congr
      intro x _
      simp
    have h4 := B.le (w + 1) (by omega) hw i0 hi0n hb
    omega
end
end Bh
namespace Bh
section
variable {α : Type} [DecidableEq α] [Inhabited α]

/-! ### a tangle's cut -/
def AhOf (E : α → α → Prop) (t : List α) (ah : Nat → Nat) : Prop := ∀ i j, i < t.length → j < t.length → ((ah i).testBit j = true ↔ E (t.getD i default) (t.getD j default))
def TCut (E : α → α → Prop) (t : List α) (c : List (α × α)) : Prop := ∃ ah L num, AhOf E t ah ∧ IsBest t.length ah L num ∧
  c = (cutM t.length ah num (2 ^ t.length - 1) (2 ^ t.length - 1)).map fun p => (t.getD p.1 default, t.getD p.2 default)

theorem getD_of {t : List α} {i : Nat} (h : i < t.length) : t.getD i default = t[i] := by
  rw [List.getD_eq_getElem?_getD, List.getElem?_eq_getElem h]; rfl
theorem getD_mem {t : List α} {i : Nat} (h : i < t.length) : t.getD i default ∈ t := by
  rw [getD_of h]; exact List.getElem_mem h
theorem idx_lt {t : List α} {x : α} (h : x ∈ t) : t.idxOf x < t.length := List.idxOf_lt_length_iff.mpr h
theorem getD_idx {t : List α} {x : α} (h : x ∈ t) : t.getD (t.idxOf x) default = x := by
  rw [getD_of (idx_lt h)]; exact List.getElem_idxOf (idx_lt h)
theorem getD_inj {t : List α} (hn : t.Nodup) {i j : Nat} (hi : i < t.length) (hj : j < t.length) (e : t.getD i default = t.getD j default) : i = j := by
  rw [getD_of hi, getD_of hj] at e
  exact (List.getElem_inj hn).mp e
theorem idx_getD {t : List α} (hn : t.Nodup) {i : Nat} (hi : i < t.length) : t.idxOf (t.getD i default) = i :=
  getD_inj hn (idx_lt (getD_mem hi)) hi (getD_idx (getD_mem hi))
theorem full_lt (n : Nat) : 2 ^ n - 1 < 2 ^ n := Nat.sub_lt (Nat.pow_pos (by decide)) (by decide)

theorem TCut.mem {E : α → α → Prop} {t : List α} {c : List (α × α)} (C : TCut E t c) {x y : α} (h : (x, y) ∈ c) : x ∈ t ∧ y ∈ t ∧ E x y := by
  obtain ⟨ah, L, num, A, B, rfl⟩ := C
  obtain ⟨⟨i, j⟩, hm, e⟩ := List.mem_map.mp h
  obtain ⟨hi, hj, _, _, _, ha⟩ := cutM_mem B _ _ (Nat.le_refl _) (full_lt _) hm
  cases e
  exact ⟨getD_mem hi, getD_mem hj, (A i j hi hj).mp ha⟩
theorem TCut.rank {E : α → α → Prop} {t : List α} {c : List (α × α)} (C : TCut E t c) : ∃ r : α → Nat, ∀ x y, x ∈ t → y ∈ t → x ≠ y → E x y → (x, y) ∉ c → r y < r x := by
  obtain ⟨ah, L, num, A, B, rfl⟩ := C
  obtain ⟨r, hr⟩ := cutM_rank B _ _ (Nat.le_refl _) (full_lt _)
  refine ⟨fun x => r (t.idxOf x), fun x y hx hy ne e no => ?_⟩
  refine hr _ _ (by rw [full_bit]; exact decide_eq_true (idx_lt hx)) (by rw [full_bit]; exact decide_eq_true (idx_lt hy)) (fun q => ne ?_) ((A _ _ (idx_lt hx) (idx_lt hy)).mpr (by rw [getD_idx hx, getD_idx hy]; exact e)) fun q => no ?_
  · rw [← getD_idx hx, ← getD_idx hy, q]
  · exact List.mem_map.mpr ⟨_, q, by rw [getD_idx hx, getD_idx hy]⟩
theorem TCut.le {E : α → α → Prop} {t : List α} {c : List (α × α)} (C : TCut E t c) (hn : t.Nodup) (r : α → Nat) (D : List (α × α))
    (h : ∀ x y, x ∈ t → y ∈ t → x ≠ y → E x y → ¬ r y < r x → (x, y) ∈ D) : c.length ≤ D.length := by
  obtain ⟨ah, L, num, A, B, rfl⟩ := C
  rw [List.length_map, cutM_len B _ _ (Nat.le_refl _) (full_lt _)]
  have q := best_le B (fun i => r (t.getD i default)) _ _ (Nat.le_refl _) (full_lt _) (D.map fun p => (t.idxOf p.1, t.idxOf p.2)) fun i j hi hj _ _ hij ha hr => by
    refine List.mem_map.mpr ⟨_, h _ _ (getD_mem hi) (getD_mem hj) (fun e => hij (getD_inj hn hi hj e)) ((A i j hi hj).mp ha) hr, ?_⟩
    rw [idx_getD hn hi, idx_getD hn hj]
  rw [List.length_map] at q
  exact q

/-! ### tangles -/
open Classical in
noncomputable def cls (names : List α) (E : α → α → Prop) (p : α) : List α := names.filter fun o => decide ((o = p ∨ Way E p o) ∧ (p = o ∨ Way E o p))
theorem mem_cls {names : List α} {E : α → α → Prop} {p o : α} : o ∈ cls names E p ↔ o ∈ names ∧ (o = p ∨ Way E p o) ∧ (p = o ∨ Way E o p) := by
  unfold cls
  rw [List.mem_filter]
  simp
theorem cls_self {names : List α} {E : α → α → Prop} {p : α} (h : p ∈ names) : p ∈ cls names E p := mem_cls.mpr ⟨h, .inl rfl, .inl rfl⟩
theorem cls_eq {names : List α} {E : α → α → Prop} {p q x : α} (h : x ∈ cls names E p) (h' : x ∈ cls names E q) {y : α} (hy : y ∈ cls names E p) : y ∈ cls names E q := by
  obtain ⟨_, a1, a2⟩ := mem_cls.mp h
  obtain ⟨_, b1, b2⟩ := mem_cls.mp h'
  obtain ⟨hn, c1, c2⟩ := mem_cls.mp hy
  have tr : ∀ {a b c : α}, (b = a ∨ Way E a b) → (c = b ∨ Way E b c) → (c = a ∨ Way E a c) := by
    intro a b c u v
    rcases u with rfl | u
    · exact v
    · rcases v with rfl | v
      · exact .inr u
      · exact .inr (u.trans v)
  -- q → x → p → y ; y → p → x → q
  exact mem_cls.mpr ⟨hn, tr b1 (tr a2 c1), tr c2 (tr a1 b2)⟩
theorem cls_nodup {names : List α} {E : α → α → Prop} {p : α} (h : names.Nodup) : (cls names E p).Nodup := List.Pairwise.filter _ h

def tangM (cl : α → List α) : List α → List (List α) → List (List α)
  | [], f => f
  | p :: ps, f => if (f.any fun t => decide (p ∈ t)) = true then tangM cl ps f else tangM cl ps (f ++ [cl p])
theorem tangM_cons (cl : α → List α) (p : α) (ps : List α) (f : List (List α)) : tangM cl (p :: ps) f = if (f.any fun t => decide (p ∈ t)) = true then tangM cl ps f else tangM cl ps (f ++ [cl p]) := rfl
theorem tangM_app (cl : α → List α) (q : α) : ∀ (ps : List α) (f : List (List α)), tangM cl (ps ++ [q]) f = if ((tangM cl ps f).any fun t => decide (q ∈ t)) = true then tangM cl ps f else tangM cl ps f ++ [cl q]
  | [], f => rfl
  | p :: ps, f => by
    rw [List.cons_append, tangM_cons, tangM_cons]
    by_cases h : (f.any fun t => decide (p ∈ t)) = true
    · rw [if_pos h, if_pos h]; exact tangM_app cl q ps f
    · rw [if_neg h, if_neg h]; exact tangM_app cl q ps _
theorem tangM_sub (cl : α → List α) : ∀ (ps : List α) (f : List (List α)) (t : List α), t ∈ f → t ∈ tangM cl ps f
  | [], _, _, h => h
  | p :: ps, f, t, h => by
    unfold tangM
    by_cases c : (f.any fun t => decide (p ∈ t)) = true
    · rw [if_pos c]; exact tangM_sub cl ps f t h
    · rw [if_neg c]; exact tangM_sub cl ps _ t (List.mem_append_left _ h)
theorem tangM_mem (cl : α → List α) : ∀ (ps : List α) (f : List (List α)) (t : List α), t ∈ tangM cl ps f → t ∈ f ∨ ∃ p, p ∈ ps ∧ t = cl p
  | [], _, _, h => .inl h
  | p :: ps, f, t, h => by
    unfold tangM at h
    by_cases c : (f.any fun t => decide (p ∈ t)) = true
    · rw [if_pos c] at h
      rcases tangM_mem cl ps f t h with h | ⟨q, hq, e⟩
      · exact .inl h
      · exact .inr ⟨q, List.mem_cons_of_mem _ hq, e⟩
    · rw [if_neg c] at h
      rcases tangM_mem cl ps _ t h with h | ⟨q, hq, e⟩
      · rcases List.mem_append.mp h with h | h
        · exact .inl h
        · exact .inr ⟨p, List.mem_cons_self .., List.mem_singleton.mp h⟩
      · exact .inr ⟨q, List.mem_cons_of_mem _ hq, e⟩
theorem tangM_cover (cl : α → List α) : ∀ (ps : List α) (f : List (List α)) (p : α), p ∈ ps → p ∈ cl p → ∃ t, t ∈ tangM cl ps f ∧ p ∈ t
  | [], _, _, h, _ => nomatch h
  | q :: ps, f, p, h, hc => by
    unfold tangM
    by_cases c : (f.any fun t => decide (q ∈ t)) = true
    · rw [if_pos c]
      rcases List.mem_cons.mp h with rfl | h
      · obtain ⟨t, ht, e⟩ := List.any_eq_true.mp c
        exact ⟨t, tangM_sub cl ps f t ht, of_decide_eq_true e⟩
      · exact tangM_cover cl ps f p h hc
    · rw [if_neg c]
      rcases List.mem_cons.mp h with rfl | h
      · exact ⟨cl p, tangM_sub cl ps _ _ (List.mem_append_right _ (List.mem_singleton.mpr rfl)), hc⟩
      · exact tangM_cover cl ps _ p h hc
theorem tangM_disj (cl : α → List α) (hcl : ∀ p q x, x ∈ cl p → x ∈ cl q → ∀ y, y ∈ cl p → y ∈ cl q) : ∀ (ps : List α) (f : List (List α)), (∀ p, p ∈ ps → p ∈ cl p) →
    (∀ t, t ∈ f → ∃ q, t = cl q) → f.Pairwise (fun t t' => ∀ x, x ∈ t → x ∉ t') → (tangM cl ps f).Pairwise (fun t t' => ∀ x, x ∈ t → x ∉ t')
  | [], _, _, _, h => h
  | p :: ps, f, hp, hf, h => by
    unfold tangM
    by_cases c : (f.any fun t => decide (p ∈ t)) = true
    · rw [if_pos c]; exact tangM_disj cl hcl ps f (fun q hq => hp q (List.mem_cons_of_mem _ hq)) hf h
    · rw [if_neg c]
      refine tangM_disj cl hcl ps _ (fun q hq => hp q (List.mem_cons_of_mem _ hq)) (fun t ht => ?_) ?_
      · rcases List.mem_append.mp ht with ht | ht
        · exact hf t ht
        · exact ⟨p, List.mem_singleton.mp ht⟩
      · refine List.pairwise_append.mpr ⟨h, List.pairwise_singleton .., fun t ht t' ht' x hx hx' => c ?_⟩
        rw [List.mem_singleton.mp ht'] at hx'
        obtain ⟨q, rfl⟩ := hf t ht
        exact List.any_eq_true.mpr ⟨_, ht, decide_eq_true (hcl p q x hx' hx p (hp p (List.mem_cons_self ..)))⟩
theorem tangM_single (cl : α → List α) : ∀ (ps : List α) (f : List (List α)), (∀ p, p ∈ ps → cl p = [p]) → ps.Nodup → (∀ p, p ∈ ps → ∀ t, t ∈ f → p ∉ t) → tangM cl ps f = f ++ ps.map fun p => [p]
  | [], f, _, _, _ => by unfold tangM; simp
  | p :: ps, f, hc, hn, hf => by
    unfold tangM
    have hn' := List.nodup_cons.mp hn
    have c : ¬ (f.any fun t => decide (p ∈ t)) = true := fun c => by
      obtain ⟨t, ht, e⟩ := List.any_eq_true.mp c
      exact hf p (List.mem_cons_self ..) t ht (of_decide_eq_true e)
    rw [if_neg c, tangM_single cl ps _ (fun q hq => hc q (List.mem_cons_of_mem _ hq)) hn'.2 fun q hq t ht hqt => ?_, hc p (List.mem_cons_self ..)]
    · simp
    · rcases List.mem_append.mp ht with ht | ht
      · exact hf q (List.mem_cons_of_mem _ hq) t ht hqt
      · rw [List.mem_singleton.mp ht, hc p (List.mem_cons_self ..)] at hqt
        exact hn'.1 (List.mem_singleton.mp hqt ▸ hq)
noncomputable def tangs (names : List α) (E : α → α → Prop) : List (List α) := tangM (cls names E) names []

structure GraphOk (names : List α) (E : α → α → Prop) : Prop where
  nd : names.Nodup
  dom : ∀ x y, E x y → x ∈ names ∧ y ∈ names
  irr : ∀ x, ¬ E x x
section
variable {names : List α} {E : α → α → Prop}
theorem tangs_cls {t : List α} (h : t ∈ tangs names E) : ∃ p, p ∈ names ∧ t = cls names E p := by
  rcases tangM_mem _ _ _ _ h with h | h
  · cases h
  · exact h
theorem tangs_nodup (hn : names.Nodup) {t : List α} (h : t ∈ tangs names E) : t.Nodup := by
  obtain ⟨p, _, rfl⟩ := tangs_cls h
  exact cls_nodup hn
theorem tangs_names {t : List α} (h : t ∈ tangs names E) {x : α} (hx : x ∈ t) : x ∈ names := by
  obtain ⟨p, _, rfl⟩ := tangs_cls h
  exact (mem_cls.mp hx).1
theorem tangs_len (hn : names.Nodup) {t : List α} (h : t ∈ tangs names E) : t.length ≤ names.length := len_of_sub (tangs_nodup hn h) fun _ hx => tangs_names h hx
theorem tangs_disj : (tangs names E).Pairwise (fun t t' => ∀ x, x ∈ t → x ∉ t') :=
  tangM_disj _ (fun _ _ _ h h' _ hy => cls_eq h h' hy) _ _ (fun _ hp => cls_self hp) (fun _ h => nomatch h) List.Pairwise.nil
theorem tangs_ix {i j : Nat} {t t' : List α} {x : α} (hi : (tangs names E)[i]? = some t) (hj : (tangs names E)[j]? = some t') (hx : x ∈ t) (hx' : x ∈ t') : i = j := by
  obtain ⟨h1, e1⟩ := List.getElem?_eq_some_iff.mp hi
  obtain ⟨h2, e2⟩ := List.getElem?_eq_some_iff.mp hj
  have P := List.pairwise_iff_getElem.mp (tangs_disj (names := names) (E := E))
  rcases Nat.lt_trichotomy i j with h | h | h
  · exact absurd hx' (by rw [← e2]; exact P i j h1 h2 h x (by rw [e1]; exact hx))
  · exact h
  · exact absurd hx (by rw [← e1]; exact P j i h2 h1 h x (by rw [e2]; exact hx'))
theorem tangs_cover {p : α} (h : p ∈ names) : ∃ (k : Nat) (t : List α), (tangs names E)[k]? = some t ∧ p ∈ t := by
  obtain ⟨t, ht, hp⟩ := tangM_cover (cls names E) names [] p h (cls_self h)
  obtain ⟨k, hk⟩ := List.mem_iff_getElem?.mp ht
  exact ⟨k, t, hk, hp⟩
theorem filter_self {p : α} : ∀ {l : List α}, l.Nodup → p ∈ l → (l.filter fun o => decide (o = p)) = [p]
  | [], _, h => nomatch h
  | a :: l, hn, h => by
    have hn' := List.nodup_cons.mp hn
    by_cases e : a = p
    · subst e
      rw [List.filter_cons_of_pos (by simp)]
      congr 1
      refine List.filter_eq_nil_iff.mpr fun b hb => ?_
      simp only [decide_eq_true_eq]
      exact fun q => hn'.1 (q ▸ hb)
    · rw [List.filter_cons_of_neg (by simpa using e)]
      rcases List.mem_cons.mp h with q | h
      · exact absurd q.symm e
      · exact filter_self hn'.2 h
theorem cls_acyc (hn : names.Nodup) (a : Acyc E) {p : α} (h : p ∈ names) : cls names E p = [p] := by
  rw [← filter_self hn h]
  unfold cls
  refine List.filter_congr fun o _ => ?_
  refine decide_eq_decide.mpr ⟨fun ⟨h1, h2⟩ => ?_, fun e => ⟨.inl e, .inl e.symm⟩⟩
  rcases h1 with h1 | h1
  · exact h1
  · rcases h2 with h2 | h2
    · exact h2.symm
    · exact absurd (h1.trans h2) (a p)
theorem tangs_acyc (hn : names.Nodup) (a : Acyc E) : tangs names E = names.map fun p => [p] := by
  unfold tangs
  rw [tangM_single _ _ _ (fun p hp => cls_acyc hn a hp) hn (fun p _ t (h : t ∈ ([] : List (List α))) => nomatch h)]
  rfl
/-- a ring lies in one tangle -/
theorem ring_in {F : α → α → Prop} (G : GraphOk names E) (hF : ∀ x y, F x y → E x y) {x : α} (a : Way F x x) {t : List α} (ht : t ∈ tangs names E) (hx : x ∈ t) : Way (fun y z => F y z ∧ y ∈ t ∧ z ∈ t) x x := by
  obtain ⟨p, hp, rfl⟩ := tangs_cls ht
  have key : ∀ {y : α}, Way E x y → Way E y x → y ∈ cls names E p := fun {y} h1 h2 =>
    cls_eq (cls_self (mem_cls.mp hx).1) hx (mem_cls.mpr ⟨by obtain ⟨z, hz⟩ := h1.last; exact (G.dom _ _ hz).2, .inr h1, .inr h2⟩)
  have up : ∀ {y z : α}, Way F y z → Way E y z := fun h => h.mono hF
  have go : ∀ {y z : α}, Way F y z → z = x → (y ∈ cls names E p) → (y = x ∨ Way E x y) → Way (fun y z => F y z ∧ y ∈ cls names E p ∧ z ∈ cls names E p) y z := by
    intro y z h
    induction h with
    | one e => intro hz hy _; subst hz; exact .one ⟨e, hy, hx⟩
    | @more y w z e h ih =>
      intro hz hy hxy
      subst hz
      have w1 : Way E z w := by
        rcases hxy with rfl | q
        · exact .one (hF _ _ e)
        · exact q.snoc (hF _ _ e)
      have hw := key w1 (up h)
      exact .more ⟨e, hy, hw⟩ (ih rfl hw (.inr w1))
  exact go a rfl hx (.inl rfl)

/-! ### the fewest cut of all parts -/
def prod (names : List α) (q : α × α → Bool) : List (α × α) := names.flatMap fun p => (names.filter fun o => q (p, o)).map fun o => (p, o)
theorem mem_prod {q : α × α → Bool} {x y : α} : (x, y) ∈ prod names q ↔ x ∈ names ∧ y ∈ names ∧ q (x, y) = true := by
  unfold prod
  simp only [List.mem_flatMap, List.mem_map, List.mem_filter]
  constructor
  · rintro ⟨p, hp, o, ⟨ho, hq⟩, e⟩
    cases e
    exact ⟨hp, ho, hq⟩
  · rintro ⟨h1, h2, h3⟩
    exact ⟨x, h1, y, ⟨h2, h3⟩, rfl⟩
theorem prod_filter {q r : α × α → Bool} : (prod names q).filter r = prod names fun p => q p && r p := by
  have aux : ∀ l : List α, (l.flatMap fun p => (names.filter fun o => q (p, o)).map fun o => (p, o)).filter r = l.flatMap fun p => (names.filter fun o => q (p, o) && r (p, o)).map fun o => (p, o) := by
    intro l
    induction l with
    | nil => rfl
    | cons p l ih =>
      rw [List.flatMap_cons, List.flatMap_cons, List.filter_append, ih, List.filter_map, List.filter_filter]
      congr 2
      refine List.filter_congr fun o _ => ?_
      exact Bool.and_comm _ _
  exact aux names
theorem prod_congr {q r : α × α → Bool} (h : ∀ x y, x ∈ names → y ∈ names → q (x, y) = r (x, y)) : prod names q = prod names r := by
  unfold prod
  have : ∀ l : List α, (∀ x, x ∈ l → x ∈ names) → (l.flatMap fun p => (names.filter fun o => q (p, o)).map fun o => (p, o)) = l.flatMap fun p => (names.filter fun o => r (p, o)).map fun o => (p, o) := by
    intro l
    induction l with
    | nil => intro _; rfl
    | cons p l ih =>
      intro hl
      rw [List.flatMap_cons, List.flatMap_cons, ih fun x hx => hl x (List.mem_cons_of_mem _ hx)]
      congr 2
      exact List.filter_congr fun o ho => h p o (hl p (List.mem_cons_self ..)) ho
  exact this names fun _ h => h
theorem prod_nodup {q : α × α → Bool} (hn : names.Nodup) : (prod names q).Nodup := by
  unfold prod
  have : ∀ l : List α, l.Nodup → (l.flatMap fun p => (names.filter fun o => q (p, o)).map fun o => (p, o)).Nodup := by
    intro l
    induction l with
    | nil => intro _; exact List.Pairwise.nil
    | cons p l ih =>
      intro hl
      have hl' := List.nodup_cons.mp hl
      rw [List.flatMap_cons]
      refine List.pairwise_append.mpr ⟨List.Pairwise.map _ (fun a b hab e => hab (Prod.mk.inj e).2) (List.Pairwise.filter _ hn), ih hl'.2, fun a ha b hb e => ?_⟩
      obtain ⟨o, _, rfl⟩ := List.mem_map.mp ha
      obtain ⟨p', hp', hb⟩ := List.mem_flatMap.mp hb
      obtain ⟨o', _, rfl⟩ := List.mem_map.mp hb
      cases e
      exact hl'.1 hp'
  exact this names hn

def Few (names : List α) (E : α → α → Prop) (C : List (α × α)) : Prop := ∃ (cs : List (List (α × α))) (q : α × α → Bool), cs.length = (tangs names E).length ∧
  (∀ (k : Nat) (t : List α) (c : List (α × α)), (tangs names E)[k]? = some t → cs[k]? = some c → TCut E t c) ∧ (∀ p, q p = true ↔ ∃ c, c ∈ cs ∧ p ∈ c) ∧ C = prod names q
section
variable {C : List (α × α)}
theorem few_mem (G : GraphOk names E) {cs : List (List (α × α))} {q : α × α → Bool} (h1 : cs.length = (tangs names E).length)
    (h2 : ∀ (k : Nat) (t : List α) (c : List (α × α)), (tangs names E)[k]? = some t → cs[k]? = some c → TCut E t c) (h3 : ∀ p, q p = true ↔ ∃ c, c ∈ cs ∧ p ∈ c) {x y : α} :
    (x, y) ∈ prod names q ↔ ∃ (k : Nat) (t : List α) (c : List (α × α)), (tangs names E)[k]? = some t ∧ cs[k]? = some c ∧ (x, y) ∈ c := by
  rw [mem_prod]
  constructor
  · rintro ⟨_, _, h⟩
    obtain ⟨c, hc, hp⟩ := (h3 _).mp h
    obtain ⟨k, hk⟩ := List.mem_iff_getElem?.mp hc
    have hlt : k < (tangs names E).length := by rw [← h1]; exact (List.getElem?_eq_some_iff.mp hk).1
    exact ⟨k, _, c, List.getElem?_eq_getElem hlt, hk, hp⟩
  · rintro ⟨k, t, c, ht, hc, hp⟩
    obtain ⟨_, _, e⟩ := (h2 k t c ht hc).mem hp
    exact ⟨(G.dom _ _ e).1, (G.dom _ _ e).2, (h3 _).mpr ⟨c, List.mem_of_getElem? hc, hp⟩⟩
theorem Few.sub (G : GraphOk names E) (F : Few names E C) {x y : α} (h : (x, y) ∈ C) : E x y := by
  obtain ⟨cs, q, h1, h2, h3, rfl⟩ := F
  obtain ⟨k, t, c, ht, hc, hp⟩ := (few_mem G h1 h2 h3).mp h
  exact ((h2 k t c ht hc).mem hp).2.2
theorem Few.nodup (G : GraphOk names E) (F : Few names E C) : C.Nodup := by
  obtain ⟨cs, q, h1, h2, h3, rfl⟩ := F
  exact prod_nodup G.nd
theorem Few.acyc (G : GraphOk names E) (F : Few names E C) : Acyc fun x y => E x y ∧ (x, y) ∉ C := by
  obtain ⟨cs, q, h1, h2, h3, rfl⟩ := F
  intro x a
  have hx : x ∈ names := by obtain ⟨z, hz⟩ := a.first; exact (G.dom _ _ hz.1).1
  obtain ⟨k, t, ht, hxt⟩ := tangs_cover (E := E) hx
  have hlt : k < cs.length := by rw [h1]; exact (List.getElem?_eq_some_iff.mp ht).1
  have hc := List.getElem?_eq_getElem hlt
  obtain ⟨r, hr⟩ := (h2 k t _ ht hc).rank
  refine acyc_of_rank r (fun y z h => ?_) x (ring_in G (fun _ _ h => h.1) a (List.mem_of_getElem? ht) hxt)
  obtain ⟨⟨e, no⟩, hy, hz⟩ := h
  exact hr y z hy hz (fun q => G.irr y (by rw [← q] at e; exact e)) e fun m => no ((few_mem G h1 h2 h3).mpr ⟨k, t, _, ht, hc, m⟩)
/-- no set R that leaves no ring has fewer within a tangle -/
theorem few_le (G : GraphOk names E) {cs : List (List (α × α))} (h2 : ∀ (k : Nat) (t : List α) (c : List (α × α)), (tangs names E)[k]? = some t → cs[k]? = some c → TCut E t c)
    (R : α → α → Prop) (a : Acyc fun x y => E x y ∧ ¬ R x y) {k : Nat} {t : List α} {c : List (α × α)} (ht : (tangs names E)[k]? = some t) (hc : cs[k]? = some c) (D : List (α × α))
    (hD : ∀ x y, x ∈ t → y ∈ t → E x y → R x y → (x, y) ∈ D) : c.length ≤ D.length := by
  obtain ⟨r, hr⟩ := rank_of_acyc names (fun x y h => (G.dom x y h.1).2) a
  refine (h2 k t c ht hc).le (tangs_nodup G.nd (List.mem_of_getElem? ht)) r D fun x y hx hy _ e no => hD x y hx hy e ?_
  exact Classical.byContradiction fun nr => no (hr x y ⟨e, nr⟩)
theorem Few.nil (G : GraphOk names E) (F : Few names E C) (a : Acyc E) : C = [] := by
  obtain ⟨cs, q, h1, h2, h3, rfl⟩ := F
  refine List.eq_nil_iff_forall_not_mem.mpr fun ⟨x, y⟩ h => ?_
  obtain ⟨k, t, c, ht, hc, hp⟩ := (few_mem G h1 h2 h3).mp h
  have z := few_le G h2 (fun _ _ => False) (fun x w => a x (w.mono fun _ _ h => h.1)) ht hc [] fun _ _ _ _ _ f => f.elim
  have : 0 < c.length := List.length_pos_of_mem hp
  have z' : c.length ≤ 0 := z
  omega
theorem Few.ring (G : GraphOk names E) (F : Few names E C) {u v : α} (h : (u, v) ∈ C) : ¬ Acyc fun x y => E x y ∧ ((x, y) ∉ C ∨ (x, y) = (u, v)) := by
  obtain ⟨cs, q, h1, h2, h3, rfl⟩ := F
  intro a
  obtain ⟨k, t, c, ht, hc, hp⟩ := (few_mem G h1 h2 h3).mp h
  have z := few_le G h2 (fun x y => (x, y) ∈ prod names q ∧ (x, y) ≠ (u, v)) (fun x w => a x (w.mono fun y z hh => ⟨hh.1, by
    by_cases e : (y, z) = (u, v)
    · exact .inr e
    · exact .inl fun m => hh.2 ⟨m, e⟩⟩)) ht hc (c.erase (u, v)) fun x y hx _ _ hR => by
      obtain ⟨k', t', c', ht', hc', hp'⟩ := (few_mem G h1 h2 h3).mp hR.1
      have ek := tangs_ix ht' ht ((h2 k' t' c' ht' hc').mem hp').1 hx
      subst ek
      rw [hc] at hc'
      cases hc'
      exact (List.mem_erase_of_ne hR.2).mpr hp'
  rw [List.length_erase_of_mem hp] at z
  have : 0 < c.length := List.length_pos_of_mem hp
  omega
theorem few_one (G : GraphOk names E) (F : Few names E C) {u v : α} (h : (u, v) ∈ C) {E' : α → α → Prop} {C' : List (α × α)} (hE' : ∀ x y, E' x y ↔ E x y ∧ ((x, y) ∉ C ∨ (x, y) = (u, v))) (F' : Few names E' C') : C'.length = 1 := by
  have G' : GraphOk names E' := ⟨G.nd, fun x y e => G.dom x y ((hE' x y).mp e).1, fun x e => G.irr x ((hE' x x).mp e).1⟩
  have a := F.acyc G
  have ne : C' ≠ [] := fun e => by
    refine F.ring G h fun x w => ?_
    refine F'.acyc G' x (w.mono fun y z hh => ⟨(hE' y z).mpr hh, by rw [e]; exact fun q => nomatch q⟩)
  have nd := F'.nodup G'
  have le : C'.length ≤ 1 := by
    obtain ⟨cs, q, h1, h2, h3, rfl⟩ := F'
    have one : ∀ {k : Nat} {t : List α} {c : List (α × α)}, (tangs names E')[k]? = some t → cs[k]? = some c → c ≠ [] → u ∈ t ∧ c.length ≤ 1 := fun {k t c} ht hc hne => by
      have acy : Acyc fun x y => E' x y ∧ ¬ (x, y) = (u, v) := fun x w => a x (w.mono fun y z hh => by
        obtain ⟨e, o⟩ := (hE' y z).mp hh.1
        exact ⟨e, o.resolve_right hh.2⟩)
      by_cases hu : u ∈ t
      · exact ⟨hu, few_le G' h2 (fun x y => (x, y) = (u, v)) acy ht hc [(u, v)] fun x y _ _ _ e => by rw [e]; exact List.mem_singleton.mpr rfl⟩
      · have z := few_le G' h2 (fun x y => (x, y) = (u, v)) acy ht hc [] fun x y hx _ _ e => by cases e; exact absurd hx hu
        exact absurd (List.eq_nil_of_length_eq_zero (Nat.le_zero.mp z)) hne
    have uniq : ∀ p p', p ∈ prod names q → p' ∈ prod names q → p = p' := fun ⟨x, y⟩ ⟨x', y'⟩ hp hp' => by
      obtain ⟨k, t, c, ht, hc, m⟩ := (few_mem G' h1 h2 h3).mp hp
      obtain ⟨k', t', c', ht', hc', m'⟩ := (few_mem G' h1 h2 h3).mp hp'
      obtain ⟨hu, hl⟩ := one ht hc (List.ne_nil_of_mem m)
      obtain ⟨hu', _⟩ := one ht' hc' (List.ne_nil_of_mem m')
      have ek := tangs_ix ht ht' hu hu'
      subst ek
      rw [hc] at hc'
      cases hc'
      match c, hl, m, m' with
      | [b], _, m, m' => rw [List.mem_singleton.mp m, List.mem_singleton.mp m']
      | b :: b' :: r, hl, _, _ => simp at hl
    match hC : prod names q with
    | [] => exact Nat.zero_le _
    | [b] => exact Nat.le_refl _
    | b :: b' :: r =>
      rw [hC] at nd uniq
      have e := uniq b b' (List.mem_cons_self ..) (List.mem_cons_of_mem _ (List.mem_cons_self ..))
      exact absurd (by rw [e]; exact List.mem_cons_self ..) (List.nodup_cons.mp nd).1
  have : 0 < C'.length := List.length_pos_iff.mpr ne
  omega
theorem Few.listed (G : GraphOk names E) (F : Few names E C) {e r : α × α → Bool} (he : ∀ x y, e (x, y) = true ↔ E x y) (hr : ∀ p, r p = true ↔ p ∈ C) : (prod names e).filter r = C := by
  have hs : ∀ x y, (x, y) ∈ C → E x y := fun x y h => F.sub G h
  obtain ⟨cs, q, h1, h2, h3, rfl⟩ := F
  rw [prod_filter]
  refine prod_congr fun x y hx hy => ?_
  show (e (x, y) && r (x, y)) = q (x, y)
  rw [Bool.eq_iff_iff, Bool.and_eq_true, he, hr, mem_prod]
  exact ⟨fun h => h.2.2.2, fun h => ⟨hs x y (mem_prod.mpr ⟨hx, hy, h⟩), hx, hy, h⟩⟩
end
end
end
end Bh
/-! Rules of my own over the layer: enumerate of a tuple; zip of a list and a tuple; zip of two tuples to ONE name; in, not in of a tuple of data. -/
namespace BhX
open PySem L2
end BhX
namespace BhX
open PySem PySem.Spec PyProof.Rows L2
/-! ### enumerate(t), t a tuple -/
set_option maxHeartbeats 2000000 in
theorem enum_newT (t : Addr) (items : Array Value) :
    Meets (Builtin.«enumerate.__new__» ⟨[.type "enumerate", .ref t], []⟩) (fun _ R s => s.heap.IsTuple t items ∧
      R (.ok (.ret (.ref (s.heap.push { cls := .type "tuple_iterator", data := .fields #[.ref t, .int 0 0] }).objs.size)))
        { s with heap := (s.heap.push { cls := .type "tuple_iterator", data := .fields #[.ref t, .int 0 0] }).push { cls := .type "enumerate", data := .fields #[.none, .bool false, .ref s.heap.objs.size, rawInt 0, .none, .none] } }) :=
  .of_wp fun prog w A R s h => by
    obtain ⟨hp, g, d, tk, os⟩ := s
    obtain ⟨h1, h⟩ := h
    have hsub := sub_enumerate
    have step : ∀ {A' : Around} {E : Value → Shared → Prop} {Q : Value → Shared → Prop}, Q (.ref hp.objs.size) ⟨hp.push { cls := .type "tuple_iterator", data := .fields #[.ref t, .int 0 0] }, g, d, tk, os⟩ → wpAny (model prog w) A' (pyIter (.ref t)) Q E ⟨hp, g, d, tk, os⟩ :=
      fun q => (begins_tuple t items).iter prog w _ _ ⟨hp, g, d, tk, os⟩ _ h1 q
    wp_walk using step
    refine wpAny_stack_any fun st => wpAny_pure ?_
    split
    · rename_i c _ _ _ _ _
      cases (c == Value.type "enumerate")
      · wp_walk using step
        exact ⟨_, rfl, h⟩
      · wp_walk using step
        exact ⟨_, rfl, h⟩
    · wp_walk using step
      exact ⟨_, rfl, h⟩
section
variable {prog : Program} {w : World} {A : Around} {E : Value → Shared → Prop} {s : Shared}
theorem call_enumT {t : Addr} {items : Array Value} {Q : Value → Shared → Prop} (hT : s.heap.IsTuple t items)
    (h : ∀ h', IsEnum h' (s.heap.objs.size + 1) s.heap.objs.size 0 .none → h'.IsTupleIter s.heap.objs.size t 0 →
      (∀ b o, s.heap.get? b = some o → h'.get? b = some o) → Q (.ref (s.heap.objs.size + 1)) { s with heap := h' }) :
    wpAny (model prog w) A (call (.type "enumerate") [.ref t]) Q E s := by
  refine callType_new F.called_enumerate (by decide) (F.typeCall_enumerate_1 _) (F.newCall_enumerate_1 _) (fun obj => F.args_object_init_2 obj _) F.entry_enumerate_new (enum_newT t items) ⟨hT, ?_⟩
  generalize ho : ({ cls := .type "tuple_iterator", data := .fields #[.ref t, .int 0 0] } : Obj) = o1
  have hf : o1.isFreed = false := by rw [← ho]; rfl
  have hz : (s.heap.push o1).objs.size = s.heap.objs.size + 1 := Heap.size_push ..
  show _ ∧ _
  rw [hz]
  have he : IsEnum ((s.heap.push o1).push { cls := .type "enumerate", data := .fields #[.none, .bool false, .ref s.heap.objs.size, rawInt 0, .none, .none] }) (s.heap.objs.size + 1) s.heap.objs.size 0 .none := by
    have q := Heap.get?_push_size (s.heap.push o1) (o := { cls := .type "enumerate", data := .fields #[.none, .bool false, .ref s.heap.objs.size, rawInt 0, .none, .none] }) rfl
    rw [hz] at q
    exact q
  refine ⟨⟨_, he, rfl⟩, h _ he ⟨o1, Heap.get?_push_of_some _ (Heap.get?_push_size _ hf), by subst ho; rfl, by subst ho; rfl⟩ fun b o x => Heap.get?_push_of_some _ (Heap.get?_push_of_some _ x)⟩
end
def IteT (K : PySem.W.Frag) (a : Addr) : It :=
  ⟨fun i H => ∃ (xs : List V) (x : V), SqT K H a xs ∧ xs[i]? = some x, fun i H v H' => ∃ T x, v = .ref T ∧ H T = none ∧ H' = upd H T (.tup [.int (i : Nat), x]) ∧ ∀ xs, SqT K H a xs → xs[i]? = some x, fun i H => ∃ xs : List V, SqT K H a xs ∧ xs.length ≤ i⟩
/-- the two cells of an enumerate -/
def EnSt (a e it : Addr) (i : Nat) (h : Heap) : Prop := (∃ old, IsEnum h e it ((i : Nat) : Int) old) ∧ h.IsTupleIter it a i ∧ e ≠ it ∧ a ≠ it ∧ e ≠ a
theorem two {b e it : Addr} (h : b ∈ [e, it]) : b = e ∨ b = it := by simpa using h
theorem turn_enumT {P : Program} {w : World} {K : PySem.W.Frag} {elts : List Expr} {kk : Nat} {tpos : Pos} (a e it : Addr) : Turn P w K (.Tuple elts kk tpos) (IteT K a) [e, it] e (EnSt a e it) where
  mem := List.mem_cons_self ..
  obj := fun i h st b hb => by
    obtain ⟨⟨old, he⟩, ⟨o, ho, _, hd⟩, _⟩ := st
    rcases two hb with z | z
    · subst z; exact ⟨_, he, fun v q => (nomatch q)⟩
    · subst z; exact ⟨o, ho, fun v q => by rw [hd] at q; cases q⟩
  keep := fun i h h' st k => by
    obtain ⟨⟨old, he⟩, hi, hne⟩ := st
    exact ⟨⟨old, k e (List.mem_cons_self ..) _ he⟩, hi.at fun o q => k it (List.mem_cons_of_mem _ (List.mem_cons_self ..)) o q, hne⟩
  item := by
    intro X hP hw hK hc i pins s σ H E I hf st hg
    subst hP hw hK
    obtain ⟨⟨old, he⟩, hit, hne, hai, hea⟩ := st
    obtain ⟨xs, x, hq, hx⟩ := hg
    obtain ⟨its, rv, p, hz⟩ := I.tuple hq
    obtain ⟨u, hu, ru⟩ := rv.get hx
    have hlt : i < its.toArray.size := by
      have := (List.getElem?_eq_some_iff.mp hu).1
      simpa using this
    have D := Draws.tuple (prog := X.prog) (w := X.w) (A := X.A.in1) (I.ok.hd hc) it a hai its.toArray
    have hel : e < s.heap.objs.size := Heap.lt_size he
    have hil : it < s.heap.objs.size := by obtain ⟨_, q, _⟩ := hit; exact Heap.lt_size q
    refine wpAny_pyNext_enum_itemC D he ⟨hit, p⟩ hlt hne (fun hm => (two hm).elim hne hea) fun y h' tk hy ho hit' hT hsz hk => ?_
    have ey : y = u := by
      have hy' : its.toArray[i]? = some y := hy
      rw [show its.toArray[i]? = some u by simpa using hu] at hy'
      exact (Option.some.inj hy').symm
    subst ey
    refine ⟨_, rfl, wpAny_letOwnedTupleGo_enum (s := { s with heap := h', toks := tk + 1 }) ho fun h'' he' sb => ?_⟩
    have hT2 : h''.get? s.heap.objs.size = some { cls := .type "tuple", data := .seq #[.int i tk, y] } := (sb.2 _ (Nat.ne_of_gt hel)).trans hT
    have new : ObjOk X.prog X.w (upd H s.heap.objs.size (.tup [.int (i : Nat), x])) h'' s.heap.objs.size (.tup [.int (i : Nat), x]) :=
      ⟨by show 2 ≤ sizeLine; decide, [.int i tk, y], .cons ⟨_, rfl⟩ (.cons ru .nil), ⟨_, hT2, rfl, _, rfl⟩⟩
    have I1 : Inv X pins σ (upd H s.heap.objs.size (.tup [.int (i : Nat), x])) { s with heap := h'', toks := tk + 1 } :=
      I.turnedNew (ch := [e, it]) (fun b ob hb q => (sb.2 b (fun z => hb (by simp [z]))).trans (hk b ob (fun z => hb (by simp [z])) (fun z => hb (by simp [z])) q)) hf (Nat.le_refl _) new
    refine ⟨.ref s.heap.objs.size, _, I1, rfl, ⟨_, x, rfl, I.hok.fresh (Nat.le_refl _), rfl, fun ys hy => by rw [I.tuple_inj hy hq]; exact hx⟩, ⟨⟨y, ?_⟩, hit'.1.at fun o q => (sb.2 it (Ne.symm hne)).trans q, hne, hai, hea⟩, fun b hb => ?_⟩
    · have e1 : ((i + 1 : Nat) : Int) = (i : Int) + 1 := by omega
      rw [e1]; exact he'
    · have hb' : b < s.heap.objs.size := by
        rcases two hb with z | z
        · rw [z]; exact hel
        · rw [z]; exact hil
      rw [upd_ne (Nat.ne_of_lt hb')]
      exact (hf b hb).1
  done := by
    intro X hP hw hK hc i pins s σ H E I hf st hg
    subst hP hw hK
    obtain ⟨⟨old, he⟩, hit, hne, hai, hea⟩ := st
    obtain ⟨xs, hq, hx⟩ := hg
    obtain ⟨its, rv, p, hz⟩ := I.tuple hq
    obtain ⟨f0, f1, f2, f3, f4, f5⟩ := hf it (List.mem_cons_of_mem _ (List.mem_cons_self ..))
    have hl := rv.length
    have hend : its.toArray[i]? = none := by simp; omega
    have hT : s.TypeIs (.ref e) "enumerate" := ⟨_, he, rfl⟩
    unfold pyNext
    refine wpAny_bind (wpAny_attempt (wpAny_callSpecial?_slot (name := Str.ofString "__next__") hT F.slot_enumerate_next
      (wpAny_call_entry F.slot_enumerate_next hT F.entry_enumerate_next ?_ (F.args_enumerate_next_1 _))))
    show wpAny _ _ (field (.ref e) 2 >>= _) _ _ _
    refine wpAny_bind (wpAny_field he rfl (x := .ref it) rfl ?_)
    refine wpAny_bind (wpAny_nextOf_tuple_end (I.ok.hd hc) hit p hend fun h' ex hs' hx' => ?_)
    obtain ⟨o, ho, hcl⟩ := hx'
    refine wpAny_bind (wpAny_isInstance (T := "StopIteration") (b := true) ⟨o, ho, hcl⟩ isSubtype_stop ?_)
    exact wpAny_pure ⟨rfl, I.turned (t' := s.toks) (fun b o hb q => hs' b o hb q) f0 f1 f3 f4 f5⟩
  self := fun A i s Q E st h => let ⟨⟨_, he⟩, _⟩ := st; wpAny_pyIter_enum he h
def iEnumT (K : PySem.W.Frag) (ta : TA) : TI := fun σ H R => ta σ H fun vs H1 => ∃ a xs, vs = [.ref a] ∧ SqT K H1 a xs ∧ R (IteT K a) H1
theorem pi_enumT {X : Cx} {e : Expr} {ta : TA} {p pos tpos : Pos} {elts : List Expr} {kk : Nat} (hg : Gl X "enumerate") (hm : X.mg "enumerate" = none) (ha : PA X [e] ta) (hs : starEach [e] X.env = [(false, eval e X.env)] := by rfl) :
    PI X (.Tuple elts kk tpos) (.Call (.Name "enumerate" p) [e] [] pos) (iEnumT X.K ta) := by
  refine ⟨fun pins s σ H R I h => ?_⟩
  refine Call_ (ld_blt I hg hm boot_enumerate (PyProof.Rows.callWith_type1 (thn (ha.run pos pins s σ H _ I h) fun us s1 ⟨vs, H1, I1, r1, q1⟩ => ?_) hs rfl))
  obtain ⟨a, xs, ex, hq, q⟩ := q1
  subst ex
  cases r1 with
  | cons r rr =>
    cases rr
    cases r
    obtain ⟨its, rv, p', hz⟩ := I1.tuple hq
    obtain ⟨oa, hoa, _⟩ := id p'
    have hal : a < s1.heap.objs.size := Heap.lt_size hoa
    refine call_enumT p' fun h' he hit hk => wpAny_pyIter_enum he ?_
    have I2 : Inv X pins σ H1 { s1 with heap := h' } := I1.kept (t' := s1.toks) hk
    refine ⟨s1.heap.objs.size + 1, [s1.heap.objs.size + 1, s1.heap.objs.size], _, _, H1, rfl, I2, turn_enumT a (s1.heap.objs.size + 1) s1.heap.objs.size, ⟨⟨.none, he⟩, hit, Nat.succ_ne_self _, Nat.ne_of_lt hal, Nat.ne_of_gt (Nat.lt_succ_of_lt hal)⟩, fun b hb => ?_, q⟩
    have hle : s1.heap.objs.size ≤ b := by
      rcases two hb with z | z
      · rw [z]; exact Nat.le_add_right _ _
      · rw [z]; exact Nat.le_refl _
    exact I1.fpOk hle (I1.hok.fresh hle)
theorem walk_enumT {K : PySem.W.Frag} {a : Addr} {xs : List V} : Walk (IteT K a) xs.length (fun H => SqT K H a xs) (YPair (fun i => some (.int (i : Nat))) (fun i => xs[i]?)) := by
  refine ⟨fun i _ hi q => ⟨xs, xs[i], q, by simp [hi]⟩, fun _ q => ⟨xs, q, Nat.le_refl _⟩, fun i H v H' _ q y => ?_⟩
  obtain ⟨T, x, h1, h2, h3, h4⟩ := y
  exact ⟨T, .int (i : Nat), x, h1, h2, h3, rfl, h4 xs q⟩
end BhX
namespace BhX
open PySem PySem.Spec PyProof.Rows L2
theorem sep_of {z TI TO i1 i2 a b : Addr} (D : ZipApart z TI TO i1 i2 a b) : ZipSep2 z TI TO i1 i2 [i1, a] [i2, b] where
  TIz := D.TIz
  TOz := D.TOz
  TITO := D.TITO
  TIi1 := D.TIi1
  mem1 := List.mem_cons_self ..
  zf1 := fun h => (two h).elim (fun e => D.i1z e.symm) fun e => D.l1z e.symm
  Tf1 := fun h => (two h).elim D.TOi1 fun e => D.l1TO e.symm
  TIi2 := D.TIi2
  mem2 := List.mem_cons_self ..
  zf2 := fun h => (two h).elim (fun e => D.i2z e.symm) fun e => D.l2z e.symm
  Tf2 := fun h => (two h).elim D.TOi2 fun e => D.l2TO e.symm
  sep1_2 := fun h => (two h).elim D.i12 fun e => D.l2i1 e.symm
  sep2_1 := fun h => (two h).elim (fun e => D.i12 e.symm) fun e => D.l1i2 e.symm
theorem five {c z TI TO i1 i2 : Addr} (h : c ∈ [z, TI, TO, i1, i2]) : c = z ∨ c = TI ∨ c = TO ∨ c = i1 ∨ c = i2 := by simpa using h
theorem not_five {c z TI TO i1 i2 : Addr} (h : c ∉ [z, TI, TO, i1, i2]) : c ≠ z ∧ c ≠ TI ∧ c ≠ TO ∧ c ≠ i1 ∧ c ≠ i2 :=
  ⟨fun e => h (by simp [e]), fun e => h (by simp [e]), fun e => h (by simp [e]), fun e => h (by simp [e]), fun e => h (by simp [e])⟩
/-! ### zip(xs, t), xs a list, t a tuple, to several names -/
def ItzM (K : PySem.W.Frag) (a b : Addr) : It :=
  ⟨fun i H => ∃ (xs ys : List V) (x y : V), SqL K H a xs ∧ SqT K H b ys ∧ xs[i]? = some x ∧ ys[i]? = some y,
    fun i H v H' => ∃ T x y, v = .ref T ∧ H T = none ∧ H' = upd H T (.tup [x, y]) ∧ (∀ xs, SqL K H a xs → xs[i]? = some x) ∧ ∀ ys, SqT K H b ys → ys[i]? = some y,
    fun i H => ∃ xs ys : List V, SqL K H a xs ∧ SqT K H b ys ∧ i = xs.length ∧ i = ys.length⟩
def ZmSt (a b z TI TO i1 i2 : Addr) (i : Nat) (h : Heap) : Prop := IsZip h z TI TO .none ∧ IsTupOf2 h TI (.ref i1) (.ref i2) ∧ (∃ x y, IsTupOf2 h TO x y) ∧ h.IsListIter i1 a i ∧ h.IsTupleIter i2 b i
theorem turn_zipM {P : Program} {w : World} {K : PySem.W.Frag} {elts : List Expr} {kk : Nat} {tpos : Pos} {a b z TI TO i1 i2 : Addr} (D : ZipApart z TI TO i1 i2 a b) :
    Turn P w K (.Tuple elts kk tpos) (ItzM K a b) [z, TI, TO, i1, i2] z (ZmSt a b z TI TO i1 i2) where
  mem := List.mem_cons_self ..
  obj := fun i h st c hc => by
    obtain ⟨hz, hTI, ⟨x, y, hTO⟩, ⟨o1, e1, _, d1⟩, ⟨o2, e2, _, d2⟩⟩ := st
    rcases five hc with q | q | q | q | q
    · rw [q]; exact ⟨_, hz, fun v q => (nomatch q)⟩
    · rw [q]; exact ⟨_, hTI, fun v q => (nomatch q)⟩
    · rw [q]; exact ⟨_, hTO, fun v q => (nomatch q)⟩
    · rw [q]; exact ⟨o1, e1, fun v q => by rw [d1] at q; cases q⟩
    · rw [q]; exact ⟨o2, e2, fun v q => by rw [d2] at q; cases q⟩
  keep := fun i h h' st k => by
    obtain ⟨hz, hTI, ⟨x, y, hTO⟩, h1, h2⟩ := st
    exact ⟨k z (by simp) _ hz, k TI (by simp) _ hTI, ⟨x, y, k TO (by simp) _ hTO⟩, h1.at fun o q => k i1 (by simp) o q, h2.at fun o q => k i2 (by simp) o q⟩
  item := by
    intro X hP hw hK hc i pins s σ H E I hf st hg
    subst hP hw hK
    obtain ⟨hz, hTI, ⟨x0, y0, hTO⟩, h1, h2⟩ := st
    obtain ⟨xs, ys, x, y, hqx, hqy, hx, hy⟩ := hg
    obtain ⟨its, rv, p, _⟩ := I.list hqx
    obtain ⟨its2, rv2, p2, _⟩ := I.tuple hqy
    obtain ⟨u, hu, ru⟩ := rv.get hx
    obtain ⟨u2, hu2, ru2⟩ := rv2.get hy
    have hzl : z < s.heap.objs.size := Heap.lt_size hz
    have S := sep_of D
    have hh := I.ok.hd hc
    have D1 := Draws.list (prog := X.prog) (w := X.w) (A := X.A.in1) hh i1 a D.l1i1 its.toArray
    have D2 := Draws.tuple (prog := X.prog) (w := X.w) (A := X.A.in1) hh i2 b D.l2i2 its2.toArray
    have g1 : its.toArray[i]? = some u := by simpa using hu
    have g2 : its2.toArray[i]? = some u2 := by simpa using hu2
    refine wpAny_pyNext_zipD2_item S D1 D2 hz hTI hTO ⟨h1, p.isList⟩ ⟨h2, p2⟩ (by simpa using (List.getElem?_eq_some_iff.mp hu).1) (by simpa using (List.getElem?_eq_some_iff.mp hu2).1) fun x1 x2 h' tk e1 e2 z' TO' h1' h2' hT hsz hk => ?_
    have e1' : its.toArray[i]? = some x1 := e1
    have e2' : its2.toArray[i]? = some x2 := e2
    rw [g1] at e1'
    rw [g2] at e2'
    cases e1'
    cases e2'
    refine ⟨_, rfl, wpAny_letOwnedTupleGo_zip (s := { s with heap := h', toks := tk }) z' fun h'' z'' sb => ?_⟩
    have hT2 : h''.get? s.heap.objs.size = some { cls := .type "tuple", data := .seq #[u, u2] } := (sb.2 _ (Nat.ne_of_gt hzl)).trans hT
    have new : ObjOk X.prog X.w (upd H s.heap.objs.size (.tup [x, y])) h'' s.heap.objs.size (.tup [x, y]) :=
      ⟨by show 2 ≤ sizeLine; decide, [u, u2], .cons ru (.cons ru2 .nil), ⟨_, hT2, rfl, _, rfl⟩⟩
    have I1 : Inv X pins σ (upd H s.heap.objs.size (.tup [x, y])) { s with heap := h'', toks := tk } :=
      I.turnedNew (t' := tk) (ch := [z, TI, TO, i1, i2]) (fun c o hb q => let n := not_five hb; (sb.2 c n.1).trans (hk c o n.1 n.2.2.1 n.2.2.2.1 n.2.2.2.2 q)) hf (Nat.le_refl _) new
    refine ⟨.ref s.heap.objs.size, _, I1, rfl, ⟨_, x, y, rfl, I.hok.fresh (Nat.le_refl _), rfl, fun l hl => by rw [I.list_inj hl hqx]; exact hx, fun l hl => by rw [I.tuple_inj hl hqy]; exact hy⟩, ⟨z'', ?_, ⟨u, u2, ?_⟩, ?_, ?_⟩, fun c hcm => ?_⟩
    · exact (sb.2 _ D.TIz).trans (hk _ _ D.TIz D.TITO D.TIi1 D.TIi2 hTI)
    · exact (sb.2 _ D.TOz).trans TO'
    · exact h1'.1.at fun o q => (sb.2 _ D.i1z).trans q
    · exact h2'.1.at fun o q => (sb.2 _ D.i2z).trans q
    · have hlt : c < s.heap.objs.size := by
        rcases five hcm with q | q | q | q | q
        · rw [q]; exact hzl
        · rw [q]; exact Heap.lt_size hTI
        · rw [q]; exact Heap.lt_size hTO
        · rw [q]; obtain ⟨_, e1, _⟩ := h1; exact Heap.lt_size e1
        · rw [q]; obtain ⟨_, e1, _⟩ := h2; exact Heap.lt_size e1
      rw [upd_ne (Nat.ne_of_lt hlt)]
      exact (hf c hcm).1
  done := by
    intro X hP hw hK hc i pins s σ H E I hf st hg
    subst hP hw hK
    obtain ⟨hz, hTI, ⟨x0, y0, hTO⟩, h1, h2⟩ := st
    obtain ⟨xs, ys, hqx, hqy, ex, ey⟩ := hg
    obtain ⟨its, rv, p, _⟩ := I.list hqx
    obtain ⟨its2, rv2, p2, _⟩ := I.tuple hqy
    have l1 := rv.length
    have l2 := rv2.length
    have hh := I.ok.hd hc
    have D1 := Draws.list (prog := X.prog) (w := X.w) (A := X.A.in1) hh i1 a D.l1i1 its.toArray
    have D2 := Draws.tuple (prog := X.prog) (w := X.w) (A := X.A.in1) hh i2 b D.l2i2 its2.toArray
    exact wpAny_pyNext_zipD2_end (sep_of D) D1 D2 hz hTI hTO ⟨h1, p.isList⟩ ⟨h2, p2⟩ (by simp; omega) (by simp; omega) (.inl (by simp; omega)) fun h' tk hk => ⟨rfl, I.turnedL (t' := tk) (ch := [z, TI, TO, i1, i2]) (fun c o hb q =>
      let n := not_five hb; hk c o n.1 n.2.2.1 n.2.2.2.1 n.2.2.2.2 q) hf⟩
  self := fun A i s Q E st h => wpAny_pyIter_zip st.1 h
def iZipM (K : PySem.W.Frag) (ta : TA) : TI := fun σ H R => ta σ H fun vs H1 => ∃ a b xs ys, vs = [.ref a, .ref b] ∧ SqL K H1 a xs ∧ SqT K H1 b ys ∧ R (ItzM K a b) H1
theorem new_five {X : Cx} {pins : List (Addr × Obj)} {σ : L2.St} {H : Hp} {s : Shared} (I : Inv X pins σ H s) : ∀ c, c ∈ [s.heap.objs.size + 4, s.heap.objs.size + 2, s.heap.objs.size + 3, s.heap.objs.size, s.heap.objs.size + 1] → FpOk X pins H c := fun c hcm => by
  have hle : s.heap.objs.size ≤ c := by
    rcases five hcm with z | z | z | z | z
    · rw [z]; exact Nat.le_add_right _ _
    · rw [z]; exact Nat.le_add_right _ _
    · rw [z]; exact Nat.le_add_right _ _
    · rw [z]; exact Nat.le_refl _
    · rw [z]; exact Nat.le_add_right _ _
  exact I.fpOk hle (I.hok.fresh hle)
theorem pi_zipM {X : Cx} {e e2 : Expr} {ta : TA} {p pos tpos : Pos} {elts : List Expr} {kk : Nat} (hg : Gl X "zip") (hm : X.mg "zip" = none) (ha : PA X [e, e2] ta)
    (hs : starEach [e, e2] X.env = (false, eval e X.env) :: starEach [e2] X.env := by rfl) (hpl : (backTo pos (starEach [e2] X.env)).any (·.1) = false := by rfl) :
    PI X (.Tuple elts kk tpos) (.Call (.Name "zip" p) [e, e2] [] pos) (iZipM X.K ta) := by
  refine ⟨fun pins s σ H R I h => ?_⟩
  refine Call_ (ld_blt I hg hm PyProof.Rows.boot_zip (PyProof.Rows.callWith_type1 (thn (ha.run pos pins s σ H _ I h) fun us s1 ⟨vs, H1, I1, r1, q1⟩ => ?_) hs hpl))
  obtain ⟨a, b, xs, ys, ex, hqx, hqy, q⟩ := q1
  subst ex
  cases r1 with
  | cons r rr =>
    cases rr with
    | cons r' rr =>
      cases rr
      cases r
      cases r'
      obtain ⟨its, rv, p1, _⟩ := I1.list hqx
      obtain ⟨its2, rv2, p2, _⟩ := I1.tuple hqy
      obtain ⟨o2, ho2, _⟩ := id p2
      refine zip_begins2 (begins_list a its.toArray) (begins_tuple b its2.toArray) p1.isList p2 fun h' hz hTI hTO h1 h2 hsz hk => wpAny_pyIter_zip hz ?_
      have I2 : Inv X pins σ H1 { s1 with heap := h' } := I1.kept (t' := s1.toks) hk
      exact ⟨s1.heap.objs.size + 4, [s1.heap.objs.size + 4, s1.heap.objs.size + 2, s1.heap.objs.size + 3, s1.heap.objs.size, s1.heap.objs.size + 1], _, _, H1, rfl, I2, turn_zipM (PySem.W.ktu_apart s1.heap.objs.size a b p1.lt (Heap.lt_size ho2)),
        ⟨hz, hTI, ⟨_, _, hTO⟩, ⟨_, h1, rfl, rfl⟩, ⟨_, h2, rfl, rfl⟩⟩, new_five I1, q⟩
theorem walk_zipM {K : PySem.W.Frag} {a b : Addr} {xs ys : List V} (hl : xs.length = ys.length) : Walk (ItzM K a b) xs.length (fun H => SqL K H a xs ∧ SqT K H b ys) (YPair (fun i => xs[i]?) (fun i => ys[i]?)) := by
  refine ⟨fun i _ hi q => ⟨xs, ys, xs[i], ys[i], q.1, q.2, by simp [hi], by simp⟩, fun _ q => ⟨xs, ys, q.1, q.2, rfl, hl⟩, fun i H v H' _ q y => ?_⟩
  obtain ⟨T, x, z, h1, h2, h3, h4, h5⟩ := y
  exact ⟨T, x, z, h1, h2, h3, h4 xs q.1, h5 ys q.2⟩
end BhX
namespace BhX
open PySem PySem.Spec PyProof.Rows L2
/-! ### zip(t, u), both tuples, to ONE name: the pair given out before may or may not be there still -/
abbrev Zst (h : Heap) (z TI TO : Addr) (f0 : Value) (f1 : Bool) : Prop :=
  h.get? z = some { cls := .type "zip", dict := none, data := .fields #[f0, .bool f1, .bool false, .ref TI, .ref TO], slots := #[] }
section
variable {prog : Program} {w : World} {A : Around} {E : Value → Shared → Prop} {s : Shared}
theorem alive_any {a : Addr} {Q : Option Obj → Shared → Prop} (h : Q (s.heap.get? a) s) : wpAny (model prog w) A (loadIfAlive a) Q E s := fun _ _ _ => h
theorem own_free {z TI TO : Addr} {f0 : Value} {f1 : Bool} {Q : Bool → Shared → Prop} (hz : Zst s.heap z TI TO f0 f1) (hf : f0 = .none ∨ ∃ T : Nat, f0 = rawInt (T : Int)) (h1 : Q true s)
    (h2 : ∀ h' T, Zst h' z TI TO (rawInt (T : Nat)) true → Heap.SameBut z s.heap h' → Q false { s with heap := h' }) : wpAny (model prog w) A (Builtin.SmallTypes.ownedTupleIsFree (.ref z)) Q E s := by
  unfold Builtin.SmallTypes.ownedTupleIsFree
  refine wpAny_bind (wpAny_field hz rfl (x := f0) rfl ?_)
  rcases hf with e | ⟨T, e⟩
  · subst e
    exact wpAny_pure h1
  · subst e
    show wpAny _ _ (loadIfAlive ((T : Int).toNat) >>= _) _ _ _
    refine wpAny_bind (alive_any ?_)
    cases hq : s.heap.get? ((T : Int).toNat) with
    | none =>
      simp only [Option.isNone_none, if_true]
      exact wpAny_pure h1
    | some o =>
      simp only [Option.isNone_some, Bool.false_eq_true, if_false]
      refine wpAny_bind (wpAny_field hz rfl (x := .bool f1) rfl ?_)
      cases f1 with
      | true =>
        rw [if_neg (show ¬ ((Value.bool true != Value.bool true) = true) from Bool.false_ne_true)]
        exact wpAny_pure (h2 s.heap T hz (Heap.SameBut.refl _ _))
      | false =>
        rw [if_pos (show (Value.bool false != Value.bool true) = true from rfl)]
        exact wpAny_bind (wpAny_setField_rec hz (by simp) fun h₁ hz₁ hs₁ => wpAny_pure (h2 h₁ T hz₁ hs₁))
variable {z TI TO i1 i2 : Addr} {fp1 fp2 : List Addr} {n1 n2 i : Nat} {P1 P2 : Nat → Value → Prop} {St1 St2 : Nat → Heap → Prop} {a1 a2 f0 : Value} {f1 : Bool}
theorem zipN_item {Q : Value → Shared → Prop} (S : ZipSep2 z TI TO i1 i2 fp1 fp2) (D1 : Draws prog w A i1 fp1 n1 P1 St1) (D2 : Draws prog w A i2 fp2 n2 P2 St2)
    (hz : Zst s.heap z TI TO f0 f1) (hf : f0 = .none ∨ ∃ T : Nat, f0 = rawInt (T : Int)) (hTI : IsTupOf2 s.heap TI (.ref i1) (.ref i2)) (hTO : IsTupOf2 s.heap TO a1 a2) (st1 : St1 i s.heap) (st2 : St2 i s.heap) (hlt1 : i < n1) (hlt2 : i < n2)
    (hQ : ∀ x1 x2 h' tk (T : Nat) g b1 b2, P1 i x1 → P2 i x2 → Zst h' z TI TO (rawInt (T : Int)) g → IsTupOf2 h' TO b1 b2 → St1 (i + 1) h' → St2 (i + 1) h' → IsTupOf2 h' s.heap.objs.size x1 x2 →
      (∀ c o, c ≠ z → c ≠ TO → c ≠ i1 → c ≠ i2 → s.heap.get? c = some o → h'.get? c = some o) → Q (.ref s.heap.objs.size) { s with heap := h', toks := tk }) :
    wpAny (model prog w) A (Builtin.«zip.__next__» ⟨[.ref z], []⟩) (fun fin s' => ∃ v, fin = .done (.ret v) ∧ Q v s') E s := by
  obtain ⟨hp, g, d, tk0, os⟩ := s
  show wpAny _ _ (field (.ref z) 2 >>= _) _ _ _
  refine wpAny_bind (wpAny_field hz rfl (x := .bool false) rfl ?_)
  show wpAny _ _ (field (.ref z) 3 >>= _) _ _ _
  refine wpAny_bind (wpAny_field hz rfl (x := .ref TI) rfl ?_)
  refine wpAny_bind (wpAny_seqItems hTI rfl ?_)
  show wpAny _ _ (Builtin.SmallTypes.ownedTupleIsFree (.ref z) >>= _) _ _ _
  refine wpAny_bind (own_free hz hf ?_ fun g0 T hz0 hs0 => ?_)
  · -- the kept pair is taken again
    simp only [if_true]
    refine wpAny_bind (wpAny_rule ?_)
    refine wpAny_bind (wpAny_field hz rfl (x := .ref TO) rfl ?_)
    refine wpAny_bind (wpAny_setField_rec hz (by simp) fun g0 hz0 hs0 => ?_)
    replace hz0 : Zst g0 z TI TO .ellipsis f1 := hz0
    replace hs0 : Heap.SameBut z hp g0 := hs0
    refine wpAny_bind ?_
    simp only [List.zipIdx_cons, List.zipIdx_nil, List.forIn_cons, List.forIn_nil]
    refine wpAny_bind (wpAny_bind (wpAny_onRaise ?_))
    show wpAny _ _ (Builtin.SmallTypes.nextOf (.ref i1) >>= _) _ _ ⟨g0, g, d, tk0, os⟩
    refine wpAny_bind (D1.item i _ _ _ hlt1 (D1.over st1 hs0 S.zf1) fun x1 p1 tk1 hx1 sn1 hp1 => wpAny_pure ?_)
    replace hp1 : Heap.SameBut i1 g0 p1 := hp1
    have hU1 : IsTupOf2 p1 TO a1 a2 := hp1.extBut _ _ S.Ti1 (hs0.extBut _ _ S.TOz hTO)
    refine wpAny_bind (wpAny_seqItems (s := ⟨p1, g, d, tk1, os⟩) hU1 rfl ?_)
    refine wpAny_bind (updateSeq_IsTupOf2 (s := ⟨p1, g, d, tk1, os⟩) hU1 fun g1 hT1 hs1 => ?_)
    replace hT1 : IsTupOf2 g1 TO x1 a2 := hT1
    replace hs1 : Heap.SameBut TO p1 g1 := hs1
    refine wpAny_bind (wpAny_letGo (wpAny_pure ?_))
    refine wpAny_bind (wpAny_bind (wpAny_onRaise ?_))
    show wpAny _ _ (Builtin.SmallTypes.nextOf (.ref i2) >>= _) _ _ ⟨g1, g, d, tk1, os⟩
    refine wpAny_bind (D2.item i _ _ _ hlt2 (D2.over (D2.over (D2.over st2 hs0 S.zf2) hp1 S.sep1_2) hs1 S.Tf2) fun x2 p2 tk2 hx2 sn2 hp2 => wpAny_pure ?_)
    replace hp2 : Heap.SameBut i2 g1 p2 := hp2
    have hU2 : IsTupOf2 p2 TO x1 a2 := hp2.extBut _ _ S.Ti2 hT1
    refine wpAny_bind (wpAny_seqItems (s := ⟨p2, g, d, tk2, os⟩) hU2 rfl ?_)
    refine wpAny_bind (updateSeq_IsTupOf2 (s := ⟨p2, g, d, tk2, os⟩) hU2 fun g2 hT2 hs2 => ?_)
    replace hT2 : IsTupOf2 g2 TO x1 x2 := hT2
    replace hs2 : Heap.SameBut TO p2 g2 := hs2
    refine wpAny_bind (wpAny_letGo (wpAny_pure (wpAny_pure ?_)))
    refine wpAny_bind (wpAny_seqItems (s := ⟨g2, g, d, tk2, os⟩) hT2 rfl ?_)
    refine wpAny_bind (wpAny_newTuple ?_)
    have hsz : g2.objs.size = hp.objs.size := by rw [hs2.1, hp2.1, hs1.1, hp1.1, hs0.1]
    have hzz : Zst g2 z TI TO .ellipsis f1 := (hs2.extBut _ _ S.TOz.symm (hp2.extBut _ _ S.zi2 (hs1.extBut _ _ S.TOz.symm (hp1.extBut _ _ S.zi1 hz0))))
    have hkk : ∀ c o, c ≠ z → c ≠ TO → c ≠ i1 → c ≠ i2 → hp.get? c = some o → g2.get? c = some o := fun c o cz cT c1 c2 e =>
      (hs2.extBut _ _ cT (hp2.extBut _ _ c2 (hs1.extBut _ _ cT (hp1.extBut _ _ c1 (hs0.extBut _ _ cz e)))))
    have hj1 : St1 (i + 1) g2 := (D1.over (D1.over (D1.over sn1 hs1 S.Tf1) hp2 S.sep2_1) hs2 S.Tf1)
    have hj2 : St2 (i + 1) g2 := (D2.over sn2 hs2 S.Tf2)
    have hzlt : z < g2.objs.size := Heap.lt_size hzz
    show wpAny _ _ (Builtin.SmallTypes.ownedTupleHandOut (.ref z) (.ref g2.objs.size) >>= _) _ _ ⟨g2.push { cls := .type "tuple", data := .seq #[x1, x2] }, g, d, tk2, os⟩
    refine wpAny_bind ?_
    unfold Builtin.SmallTypes.ownedTupleHandOut
    have hz6 : Zst (g2.push { cls := .type "tuple", data := .seq #[x1, x2] }) z TI TO .ellipsis f1 := Heap.get?_push_of_some _ hzz
    refine wpAny_bind (wpAny_setField_rec hz6 (by simp) fun h7 hz7 hs7 => ?_)
    replace hz7 : Zst h7 z TI TO (rawInt g2.objs.size) f1 := hz7
    refine wpAny_setField_rec hz7 (by simp) fun h8 hz8 hs8 => ?_
    replace hz8 : Zst h8 z TI TO (rawInt g2.objs.size) false := hz8
    replace hs7 : Heap.SameBut z (g2.push { cls := .type "tuple", data := .seq #[x1, x2] }) h7 := hs7
    replace hs8 : Heap.SameBut z h7 h8 := hs8
    have up : ∀ c o, c ≠ z → g2.get? c = some o → h8.get? c = some o := fun c o c1 e => hs8.extBut _ _ c1 (hs7.extBut _ _ c1 (Heap.get?_push_of_some _ e))
    have hT8 : IsTupOf2 h8 g2.objs.size x1 x2 := hs8.extBut _ _ (Nat.ne_of_gt hzlt) (hs7.extBut _ _ (Nat.ne_of_gt hzlt) (Heap.get?_push_size _ rfl))
    rw [hsz] at hz8 hT8
    refine wpAny_pure ⟨_, rfl, ?_⟩
    show Q (.ref g2.objs.size) ⟨h8, g, d, tk2, os⟩
    rw [hsz]
    exact hQ x1 x2 h8 tk2 _ _ x1 x2 hx1 hx2 hz8 (up _ _ S.TOz hT2) (D1.frame _ _ _ hj1 fun b hb o e => up b o (fun q => S.zf1 (q ▸ hb)) e) (D2.frame _ _ _ hj2 fun b hb o e => up b o (fun q => S.zf2 (q ▸ hb)) e) hT8 fun c o cz cT c1 c2 e => up c o cz (hkk c o cz cT c1 c2 e)
  · -- a pair of its own each time
    simp only [Bool.false_eq_true, if_false]
    refine wpAny_bind ?_
    rw [← Array.forIn_toList]
    simp only [List.forIn_cons, List.forIn_nil]
    replace hs0 : Heap.SameBut z hp g0 := hs0
    refine wpAny_bind (wpAny_bind (wpAny_holding ?_))
    show wpAny _ _ (Builtin.SmallTypes.nextOf (.ref i1) >>= _) _ _ ⟨g0, g, d, tk0, os⟩
    refine wpAny_bind (D1.item i _ _ _ hlt1 (D1.over st1 hs0 S.zf1) fun x1 p1 tk1 hx1 sn1 hp1 => wpAny_pure ?_)
    replace hp1 : Heap.SameBut i1 g0 p1 := hp1
    refine wpAny_pure ?_
    refine wpAny_bind (wpAny_bind (wpAny_holding ?_))
    show wpAny _ _ (Builtin.SmallTypes.nextOf (.ref i2) >>= _) _ _ ⟨p1, g, d, tk1, os⟩
    refine wpAny_bind (D2.item i _ _ _ hlt2 (D2.over (D2.over st2 hs0 S.zf2) hp1 S.sep1_2) fun x2 p2 tk2 hx2 sn2 hp2 => wpAny_pure ?_)
    replace hp2 : Heap.SameBut i2 p1 p2 := hp2
    refine wpAny_pure (wpAny_pure ?_)
    show wpAny _ _ (newTuple [x1, x2] >>= _) _ _ ⟨p2, g, d, tk2, os⟩
    refine wpAny_bind (wpAny_newTuple ?_)
    have hsz : p2.objs.size = hp.objs.size := by rw [hp2.1, hp1.1, hs0.1]
    have hz3 : Zst p2 z TI TO (rawInt (T : Int)) true := hp2.extBut _ _ S.zi2 (hp1.extBut _ _ S.zi1 hz0)
    have hTO3 : IsTupOf2 p2 TO a1 a2 := hp2.extBut _ _ S.Ti2 (hp1.extBut _ _ S.Ti1 (hs0.extBut _ _ S.TOz hTO))
    have hk : ∀ c o, c ≠ z → c ≠ i1 → c ≠ i2 → hp.get? c = some o → p2.get? c = some o := fun c o c1 c2 c3 e => hp2.extBut _ _ c3 (hp1.extBut _ _ c2 (hs0.extBut _ _ c1 e))
    have hj1 : St1 (i + 1) p2 := D1.over sn1 hp2 S.sep2_1
    refine wpAny_pure ⟨_, rfl, ?_⟩
    show Q (.ref p2.objs.size) ⟨p2.push { cls := .type "tuple", data := .seq #[x1, x2] }, g, d, tk2, os⟩
    have hnew : IsTupOf2 (p2.push { cls := .type "tuple", data := .seq #[x1, x2] }) p2.objs.size x1 x2 := Heap.get?_push_size _ rfl
    rw [hsz] at hnew ⊢
    exact hQ x1 x2 _ tk2 T true a1 a2 hx1 hx2 (Heap.get?_push_of_some _ hz3) (Heap.get?_push_of_some _ hTO3) (D1.frame _ _ _ hj1 fun b hb o e => Heap.get?_push_of_some _ e) (D2.frame _ _ _ sn2 fun b hb o e => Heap.get?_push_of_some _ e) hnew
      fun c o c1 _ c2 c3 e => Heap.get?_push_of_some _ (hk c o c1 c2 c3 e)
theorem zipN_end {Q : Fin → Shared → Prop} (S : ZipSep2 z TI TO i1 i2 fp1 fp2) (D1 : Draws prog w A i1 fp1 n1 P1 St1)
    (hz : Zst s.heap z TI TO f0 f1) (hf : f0 = .none ∨ ∃ T : Nat, f0 = rawInt (T : Int)) (hTI : IsTupOf2 s.heap TI (.ref i1) (.ref i2)) (st1 : St1 n1 s.heap)
    (hE : ∀ h' tk e, (∀ c o, c ≠ z → c ≠ i1 → s.heap.get? c = some o → h'.get? c = some o) → (∃ o, h'.get? e = some o ∧ o.cls = .type "StopIteration") → E (.ref e) { s with heap := h', toks := tk }) :
    wpAny (model prog w) A (Builtin.«zip.__next__» ⟨[.ref z], []⟩) Q E s := by
  obtain ⟨hp, g, d, tk0, os⟩ := s
  show wpAny _ _ (field (.ref z) 2 >>= _) _ _ _
  refine wpAny_bind (wpAny_field hz rfl (x := .bool false) rfl ?_)
  show wpAny _ _ (field (.ref z) 3 >>= _) _ _ _
  refine wpAny_bind (wpAny_field hz rfl (x := .ref TI) rfl ?_)
  refine wpAny_bind (wpAny_seqItems hTI rfl ?_)
  show wpAny _ _ (Builtin.SmallTypes.ownedTupleIsFree (.ref z) >>= _) _ _ _
  refine wpAny_bind (own_free hz hf ?_ fun g0 T hz0 hs0 => ?_)
  · simp only [if_true]
    refine wpAny_bind (wpAny_rule ?_)
    refine wpAny_bind (wpAny_field hz rfl (x := .ref TO) rfl ?_)
    refine wpAny_bind (wpAny_setField_rec hz (by simp) fun g0 hz0 hs0 => ?_)
    replace hz0 : Zst g0 z TI TO .ellipsis f1 := hz0
    replace hs0 : Heap.SameBut z hp g0 := hs0
    refine wpAny_bind ?_
    simp only [List.zipIdx_cons, List.zipIdx_nil, List.forIn_cons, List.forIn_nil]
    refine wpAny_bind (wpAny_bind (wpAny_onRaise ?_))
    show wpAny _ _ (Builtin.SmallTypes.nextOf (.ref i1) >>= _) _ _ ⟨g0, g, d, tk0, os⟩
    refine wpAny_bind (D1.done ⟨g0, g, d, tk0, os⟩ _ _ (D1.over st1 hs0 S.zf1) fun q e hq he => ?_)
    replace hq : Heap.ExtBut i1 g0 q := hq
    obtain ⟨oe, hoe, hce⟩ := he
    replace hoe : q.get? e = some oe := hoe
    have hzq : Zst q z TI TO .ellipsis f1 := hq _ _ S.zi1 hz0
    have hez : e ≠ z := fun x => by subst x; rw [hzq] at hoe; cases hoe; simp at hce
    refine wpAny_setField_rec (s := ⟨q, g, d, tk0, os⟩) hzq (by simp) fun q' _ hq' => ?_
    replace hq' : Heap.SameBut z q q' := hq'
    exact hE q' tk0 e (fun c o cz c1 x => hq'.extBut _ _ cz (hq _ _ c1 (hs0.extBut _ _ cz x))) ⟨oe, hq'.extBut _ _ hez hoe, hce⟩
  · simp only [Bool.false_eq_true, if_false]
    refine wpAny_bind ?_
    rw [← Array.forIn_toList]
    simp only [List.forIn_cons, List.forIn_nil]
    replace hs0 : Heap.SameBut z hp g0 := hs0
    refine wpAny_bind (wpAny_bind (wpAny_holding ?_))
    show wpAny _ _ (Builtin.SmallTypes.nextOf (.ref i1) >>= _) _ _ ⟨g0, g, d, tk0, os⟩
    refine wpAny_bind (D1.done ⟨g0, g, d, tk0, os⟩ _ _ (D1.over st1 hs0 S.zf1) fun q e hq he => ?_)
    replace hq : Heap.ExtBut i1 g0 q := hq
    exact hE q tk0 e (fun c o cz c1 x => hq _ _ c1 (hs0.extBut _ _ cz x)) he
theorem zip_iter_self {Q : Value → Shared → Prop} (hz : Zst s.heap z TI TO f0 f1) (h : Q (.ref z) s) : wpAny (model prog w) A (pyIter (.ref z)) Q E s := by
  have hT : s.TypeIs (.ref z) "zip" := ⟨_, hz, rfl⟩
  refine wpAny_pyIter_slot hT F.slot_zip_iter (wpAny_call_entry F.slot_zip_iter hT F.entry_zip_iter ?_ (F.args_zip_iter_1 _))
  show wpAny _ _ (ret (.ref z)) _ _ s
  exact wpAny_pure ⟨_, rfl, "zip", _, hT, F.slot_zip_next.lookup, h⟩
end
theorem letGo_name {prog : Program} {w : World} {A : Around} {E : Value → Shared → Prop} {s : Shared} {x : Str} {pos : Pos} {it v : Value} {Q : Unit → Shared → Prop} (h : Q () s) : wpAny (model prog w) A (letOwnedTupleGo (.Name x pos) it v) Q E s := by
  unfold letOwnedTupleGo
  exact wpAny_pure h
def ItzN (K : PySem.W.Frag) (a b : Addr) : It :=
  ⟨fun i H => ∃ (xs ys : List V) (x y : V), SqT K H a xs ∧ SqT K H b ys ∧ xs[i]? = some x ∧ ys[i]? = some y,
    fun i H v H' => ∃ T x y, v = .ref T ∧ H T = none ∧ H' = upd H T (.tup [x, y]) ∧ (∀ xs, SqT K H a xs → xs[i]? = some x) ∧ ∀ ys, SqT K H b ys → ys[i]? = some y,
    fun i H => ∃ xs ys : List V, SqT K H a xs ∧ SqT K H b ys ∧ i = xs.length ∧ i = ys.length⟩
def ZnSt (a b z TI TO i1 i2 : Addr) (i : Nat) (h : Heap) : Prop := (∃ f0 f1, Zst h z TI TO f0 f1 ∧ (f0 = .none ∨ ∃ T : Nat, f0 = rawInt (T : Int))) ∧ IsTupOf2 h TI (.ref i1) (.ref i2) ∧ (∃ x y, IsTupOf2 h TO x y) ∧ h.IsTupleIter i1 a i ∧ h.IsTupleIter i2 b i
theorem turn_zipN {P : Program} {w : World} {K : PySem.W.Frag} {xn : Str} {tpos : Pos} {a b z TI TO i1 i2 : Addr} (D : ZipApart z TI TO i1 i2 a b) :
    Turn P w K (.Name xn tpos) (ItzN K a b) [z, TI, TO, i1, i2] z (ZnSt a b z TI TO i1 i2) where
  mem := List.mem_cons_self ..
  obj := fun i h st c hc => by
    obtain ⟨⟨f0, f1, hz, _⟩, hTI, ⟨x, y, hTO⟩, ⟨o1, e1, _, d1⟩, ⟨o2, e2, _, d2⟩⟩ := st
    rcases five hc with q | q | q | q | q
    · rw [q]; exact ⟨_, hz, fun v q => (nomatch q)⟩
    · rw [q]; exact ⟨_, hTI, fun v q => (nomatch q)⟩
    · rw [q]; exact ⟨_, hTO, fun v q => (nomatch q)⟩
    · rw [q]; exact ⟨o1, e1, fun v q => by rw [d1] at q; cases q⟩
    · rw [q]; exact ⟨o2, e2, fun v q => by rw [d2] at q; cases q⟩
  keep := fun i h h' st k => by
    obtain ⟨⟨f0, f1, hz, hf⟩, hTI, ⟨x, y, hTO⟩, h1, h2⟩ := st
    exact ⟨⟨f0, f1, k z (by simp) _ hz, hf⟩, k TI (by simp) _ hTI, ⟨x, y, k TO (by simp) _ hTO⟩, h1.at fun o q => k i1 (by simp) o q, h2.at fun o q => k i2 (by simp) o q⟩
  item := by
    intro X hP hw hK hc i pins s σ H E I hf st hg
    subst hP hw hK
    obtain ⟨⟨f0, f1, hz, hf0⟩, hTI, ⟨x0, y0, hTO⟩, h1, h2⟩ := st
    obtain ⟨xs, ys, x, y, hqx, hqy, hx, hy⟩ := hg
    obtain ⟨its, rv, p, _⟩ := I.tuple hqx
    obtain ⟨its2, rv2, p2, _⟩ := I.tuple hqy
    obtain ⟨u, hu, ru⟩ := rv.get hx
    obtain ⟨u2, hu2, ru2⟩ := rv2.get hy
    have hzl : z < s.heap.objs.size := Heap.lt_size hz
    have S := sep_of D
    have hh := I.ok.hd hc
    have D1 := Draws.tuple (prog := X.prog) (w := X.w) (A := X.A.in1) hh i1 a D.l1i1 its.toArray
    have D2 := Draws.tuple (prog := X.prog) (w := X.w) (A := X.A.in1) hh i2 b D.l2i2 its2.toArray
    have g1 : its.toArray[i]? = some u := by simpa using hu
    have g2 : its2.toArray[i]? = some u2 := by simpa using hu2
    have hT : s.TypeIs (.ref z) "zip" := ⟨_, hz, rfl⟩
    unfold pyNext
    refine wpAny_bind (wpAny_attempt (wpAny_callSpecial?_slot (name := Str.ofString "__next__") hT F.slot_zip_next
      (wpAny_call_entry F.slot_zip_next hT F.entry_zip_next (zipN_item S D1 D2 hz hf0 hTI hTO ⟨h1, p⟩ ⟨h2, p2⟩ (by simpa using (List.getElem?_eq_some_iff.mp hu).1) (by simpa using (List.getElem?_eq_some_iff.mp hu2).1) fun x1 x2 h' tk T g b1 b2 e1 e2 z' TO' h1' h2' hT' hk => ?_) (F.args_zip_next_1 _))))
    have e1' : its.toArray[i]? = some x1 := e1
    have e2' : its2.toArray[i]? = some x2 := e2
    rw [g1] at e1'
    rw [g2] at e2'
    cases e1'
    cases e2'
    refine wpAny_pure ⟨_, rfl, letGo_name ?_⟩
    have new : ObjOk X.prog X.w (upd H s.heap.objs.size (.tup [x, y])) h' s.heap.objs.size (.tup [x, y]) :=
      ⟨by show 2 ≤ sizeLine; decide, [u, u2], .cons ru (.cons ru2 .nil), ⟨_, hT', rfl, _, rfl⟩⟩
    have I1 : Inv X pins σ (upd H s.heap.objs.size (.tup [x, y])) { s with heap := h', toks := tk } :=
      I.turnedNew (t' := tk) (ch := [z, TI, TO, i1, i2]) (fun c o hb q => let n := not_five hb; hk c o n.1 n.2.2.1 n.2.2.2.1 n.2.2.2.2 q) hf (Nat.le_refl _) new
    refine ⟨.ref s.heap.objs.size, _, I1, rfl, ⟨_, x, y, rfl, I.hok.fresh (Nat.le_refl _), rfl, fun l hl => by rw [I.tuple_inj hl hqx]; exact hx, fun l hl => by rw [I.tuple_inj hl hqy]; exact hy⟩, ⟨⟨_, _, z', .inr ⟨T, rfl⟩⟩, hk _ _ D.TIz D.TITO D.TIi1 D.TIi2 hTI, ⟨_, _, TO'⟩, h1'.1, h2'.1⟩, fun c hcm => ?_⟩
    have hlt : c < s.heap.objs.size := by
      rcases five hcm with q | q | q | q | q
      · rw [q]; exact hzl
      · rw [q]; exact Heap.lt_size hTI
      · rw [q]; exact Heap.lt_size hTO
      · rw [q]; obtain ⟨_, e1, _⟩ := h1; exact Heap.lt_size e1
      · rw [q]; obtain ⟨_, e1, _⟩ := h2; exact Heap.lt_size e1
    rw [upd_ne (Nat.ne_of_lt hlt)]
    exact (hf c hcm).1
  done := by
    intro X hP hw hK hc i pins s σ H E I hf st hg
    subst hP hw hK
    obtain ⟨⟨f0, f1, hz, hf0⟩, hTI, ⟨x0, y0, hTO⟩, h1, h2⟩ := st
    obtain ⟨xs, ys, hqx, hqy, ex, ey⟩ := hg
    obtain ⟨its, rv, p, _⟩ := I.tuple hqx
    have l1 := rv.length
    have hh := I.ok.hd hc
    have D1 := Draws.tuple (prog := X.prog) (w := X.w) (A := X.A.in1) hh i1 a D.l1i1 its.toArray
    have ei : i = its.toArray.size := by simp; omega
    have hT : s.TypeIs (.ref z) "zip" := ⟨_, hz, rfl⟩
    unfold pyNext
    refine wpAny_bind (wpAny_attempt (wpAny_callSpecial?_slot (name := Str.ofString "__next__") hT F.slot_zip_next
      (wpAny_call_entry F.slot_zip_next hT F.entry_zip_next (zipN_end (sep_of D) D1 hz hf0 hTI (by rw [← ei]; exact ⟨h1, p⟩) fun h' tk e hk he => ?_) (F.args_zip_next_1 _))))
    obtain ⟨o, ho, hcl⟩ := he
    refine wpAny_bind (wpAny_isInstance (T := "StopIteration") (b := true) ⟨o, ho, hcl⟩ isSubtype_stop ?_)
    exact wpAny_pure ⟨rfl, I.turnedL (t' := tk) (ch := [z, TI, TO, i1, i2]) (fun c o hb q => let n := not_five hb; hk c o n.1 n.2.2.2.1 q) hf⟩
  self := fun A i s Q E st h => by
    obtain ⟨⟨f0, f1, hz, hf0⟩, _⟩ := st
    exact zip_iter_self hz h
def iZipN (K : PySem.W.Frag) (ta : TA) : TI := fun σ H R => ta σ H fun vs H1 => ∃ a b xs ys, vs = [.ref a, .ref b] ∧ SqT K H1 a xs ∧ SqT K H1 b ys ∧ R (ItzN K a b) H1
theorem pi_zipN {X : Cx} {e e2 : Expr} {ta : TA} {p pos tpos : Pos} {xn : Str} (hg : Gl X "zip") (hm : X.mg "zip" = none) (ha : PA X [e, e2] ta)
    (hs : starEach [e, e2] X.env = (false, eval e X.env) :: starEach [e2] X.env := by rfl) (hpl : (backTo pos (starEach [e2] X.env)).any (·.1) = false := by rfl) :
    PI X (.Name xn tpos) (.Call (.Name "zip" p) [e, e2] [] pos) (iZipN X.K ta) := by
  refine ⟨fun pins s σ H R I h => ?_⟩
  refine Call_ (ld_blt I hg hm PyProof.Rows.boot_zip (PyProof.Rows.callWith_type1 (thn (ha.run pos pins s σ H _ I h) fun us s1 ⟨vs, H1, I1, r1, q1⟩ => ?_) hs hpl))
  obtain ⟨a, b, xs, ys, ex, hqx, hqy, q⟩ := q1
  subst ex
  cases r1 with
  | cons r rr =>
    cases rr with
    | cons r' rr =>
      cases rr
      cases r
      cases r'
      obtain ⟨its, rv, p1, _⟩ := I1.tuple hqx
      obtain ⟨its2, rv2, p2, _⟩ := I1.tuple hqy
      obtain ⟨o1, ho1, _⟩ := id p1
      obtain ⟨o2, ho2, _⟩ := id p2
      refine zip_begins2 (begins_tuple a its.toArray) (begins_tuple b its2.toArray) p1 p2 fun h' hz hTI hTO h1 h2 hsz hk => wpAny_pyIter_zip hz ?_
      have I2 : Inv X pins σ H1 { s1 with heap := h' } := I1.kept (t' := s1.toks) hk
      exact ⟨s1.heap.objs.size + 4, [s1.heap.objs.size + 4, s1.heap.objs.size + 2, s1.heap.objs.size + 3, s1.heap.objs.size, s1.heap.objs.size + 1], _, _, H1, rfl, I2, turn_zipN (PySem.W.ktu_apart s1.heap.objs.size a b (Heap.lt_size ho1) (Heap.lt_size ho2)),
        ⟨⟨_, _, hz, .inl rfl⟩, hTI, ⟨_, _, hTO⟩, ⟨_, h1, rfl, rfl⟩, ⟨_, h2, rfl, rfl⟩⟩, new_five I1, q⟩
theorem walk_zipN {K : PySem.W.Frag} {a b : Addr} {xs ys : List V} (hl : xs.length = ys.length) : Walk (ItzN K a b) xs.length (fun H => SqT K H a xs ∧ SqT K H b ys) (YPair (fun i => xs[i]?) (fun i => ys[i]?)) := by
  refine ⟨fun i _ hi q => ⟨xs, ys, xs[i], ys[i], q.1, q.2, by simp [hi], by simp⟩, fun _ q => ⟨xs, ys, q.1, q.2, rfl, hl⟩, fun i H v H' _ q y => ?_⟩
  obtain ⟨T, x, z, h1, h2, h3, h4, h5⟩ := y
  exact ⟨T, x, z, h1, h2, h3, h4 xs q.1, h5 ys q.2⟩
end BhX
namespace BhX
open PySem PySem.Spec PyProof.Rows L2
open PySem.W (Datum Tup Holds HoldAll)
/-! ### ==, !=, in, not in of data that has a Lean type -/
section
variable {α : Type} [DecidableEq α] [Datum α]
def HD (K : PySem.W.Frag) (H : Hp) (v : V) (x : α) : Prop := Dp K H v (Datum.toD x)
def HDs (K : PySem.W.Frag) (H : Hp) (vs : List V) (xs : List α) : Prop := DpAll K H vs (xs.map Datum.toD)
theorem hds_of {K : PySem.W.Frag} {H : Hp} : ∀ {vs : List V} {xs : List α}, PySem.Paired (fun v x => HD K H v x) vs xs → HDs K H vs xs
  | _, _, .nil => DpAll.nil
  | _, _, .cons h t => DpAll.cons h (hds_of t)
def rEqDat (α : Type) [DecidableEq α] [Datum α] (K : PySem.W.Frag) : R2 := fun x y H Q => ∃ a b : α, HD K H x a ∧ HD K H y b ∧ Q (.bl (decide (a = b))) H
def rNeDat (α : Type) [DecidableEq α] [Datum α] (K : PySem.W.Frag) : R2 := fun x y H Q => ∃ a b : α, HD K H x a ∧ HD K H y b ∧ Q (.bl (!decide (a = b))) H
def rInDat (α : Type) [DecidableEq α] [Datum α] (K : PySem.W.Frag) (neg : Bool) : R2 := fun x y H Q => ∃ (a : α) (xs : List α) (p : Addr) (vs : List V), y = .ref p ∧ (SqL K H p vs ∨ SqT K H p vs) ∧ HDs K H vs xs ∧ HD K H x a ∧ Q (.bl (if neg then !decide (a ∈ xs) else decide (a ∈ xs))) H
variable {X : Cx}
theorem op_eqDat (hu : X.A.units + 64 < cLine) (hd : Datum.depth α ≤ 63 := by decide) : OpR X (compareOp .Eq) (rEqDat α X.K) := by
  intro pins s σ H x y v u Q I rx ry h
  obtain ⟨a, b, ha, hb, q⟩ := h
  exact PySem.W.eq_datum (Dp.reads I _ x v ha rx) (Dp.reads I _ y u hb ry) (by omega) ⟨.bl _, H, I, rfl, q⟩
theorem op_neDat (hu : X.A.units + 64 < cLine) (hd : Datum.depth α ≤ 63 := by decide) : OpR X (compareOp .NotEq) (rNeDat α X.K) := by
  intro pins s σ H x y v u Q I rx ry h
  obtain ⟨a, b, ha, hb, q⟩ := h
  refine PySem.W.ne_datum (Dp.reads I _ x v ha rx) (Dp.reads I _ y u hb ry) (by omega) ⟨.bl _, H, I, rfl, ?_⟩
  rw [decide_not]
  exact q
theorem op_inDat (hu : X.A.units + 64 < cLine) (hd : Datum.depth α ≤ 62 := by decide) : OpR X (compareOp .In) (rInDat α X.K false) := by
  intro pins s σ H x y v u Q I rx ry h
  obtain ⟨a, xs, p, vs, rfl, hq, hs, hx, q⟩ := h
  cases ry
  rcases hq with hq | hq
  · obtain ⟨its, r, pl, hz⟩ := I.list hq
    exact PySem.W.in_list_datum pl.isList (Dp.readsAll I _ vs its hs r) (Dp.reads I _ x v hx rx) (by omega) ⟨.bl _, H, I, rfl, q⟩
  · obtain ⟨its, r, pl, hz⟩ := I.tuple hq
    exact PySem.W.in_tuple_datum pl (Dp.readsAll I _ vs its hs r) (Dp.reads I _ x v hx rx) (by omega) ⟨.bl _, H, I, rfl, q⟩
theorem op_notInDat (hu : X.A.units + 64 < cLine) (hd : Datum.depth α ≤ 62 := by decide) : OpR X (compareOp .NotIn) (rInDat α X.K true) := by
  intro pins s σ H x y v u Q I rx ry h
  obtain ⟨a, xs, p, vs, rfl, hq, hs, hx, q⟩ := h
  cases ry
  have q' : Q (.bl (decide (a ∉ xs))) H := by rw [decide_not]; exact q
  rcases hq with hq | hq
  · obtain ⟨its, r, pl, hz⟩ := I.list hq
    exact PySem.W.notIn_list_datum pl.isList (Dp.readsAll I _ vs its hs r) (Dp.reads I _ x v hx rx) (by omega) ⟨.bl _, H, I, rfl, q'⟩
  · obtain ⟨its, r, pl, hz⟩ := I.tuple hq
    exact PySem.W.notIn_tuple_datum pl (Dp.readsAll I _ vs its hs r) (Dp.reads I _ x v hx rx) (by omega) ⟨.bl _, H, I, rfl, q'⟩
end
theorem hd_str {K : PySem.W.Frag} {H : Hp} (x : Str) : HD K H (.str x) x := Dp.str x
theorem hd_int {K : PySem.W.Frag} {H : Hp} (x : Int) : HD K H (.int x) x := Dp.int x
theorem hd_pair {α β : Type} [DecidableEq α] [Datum α] [DecidableEq β] [Datum β] {K : PySem.W.Frag} {H : Hp} {a : Addr} {u v : V} {x : α} {y : β} (h : SqT K H a [u, v]) (h1 : HD K H u x) (h2 : HD K H v y) : HD K H (.ref a) (x, y) :=
  Dp.tup h (DpAll.cons h1 (DpAll.cons h2 DpAll.nil))
theorem hd_tup {α : Type} [DecidableEq α] [Datum α] {K : PySem.W.Frag} {H : Hp} {a : Addr} {vs : List V} {xs : List α} (h : SqT K H a vs) (hs : HDs K H vs xs) : HD K H (.ref a) (Tup.mk xs) := Dp.tup h hs
theorem hd_lst {α : Type} [DecidableEq α] [Datum α] {K : PySem.W.Frag} {H : Hp} {a : Addr} {vs : List V} {xs : List α} (h : SqL K H a vs) (hs : HDs K H vs xs) : HD K H (.ref a) xs := Dp.lst h hs
theorem hds_strs {K : PySem.W.Frag} {H : Hp} : ∀ l : List Str, HDs K H (l.map V.str) l
  | [] => DpAll.nil
  | x :: l => DpAll.cons (hd_str x) (hds_strs l)
end BhX
namespace Bh
open PySem L2
def top (i : Nat) : Stmt := PySem.Challenge.pw_bundlehouse_k88_whole_rings_cut.main.body.getD i (.Pass ⟨0, 0, 0, 0⟩)
abbrev s_bits_of : Stmt := top 4
abbrev s_numbers_of : Stmt := top 5
abbrev s_rows_of : Stmt := top 7
abbrev s_called : Stmt := top 8
abbrev s_brings : Stmt := top 9
abbrev s_begin : Stmt := top 10
abbrev s_order : Stmt := top 11
abbrev s_tangles : Stmt := top 14
abbrev s_onward : Stmt := top 15
abbrev s_last_part : Stmt := top 16
abbrev s_last_parts : Stmt := top 17
abbrev s_tangle_cut : Stmt := top 18
abbrev s_fewest : Stmt := top 19
abbrev s_shortest : Stmt := top 21
abbrev s_broken : Stmt := top 22
abbrev s_law_cell_at : Stmt := top 24
abbrev s_law_mixed : Stmt := top 25
abbrev s_law_names : Stmt := top 26
abbrev s_law_other : Stmt := top 27
abbrev s_law_no_ring : Stmt := top 28
abbrev s_law_pairs_of : Stmt := top 29
abbrev s_law_is_cut : Stmt := top 30
abbrev s_law_plain : Stmt := top 31
abbrev s_law_without : Stmt := top 32
abbrev s_law_round : Stmt := top 33
abbrev s_law_rounds : Stmt := top 34
abbrev s_law : Stmt := top 35
/-- a def that keeps its promise, as its callers want it -/
structure Here (P : Program) (w : World) (K : PySem.W.Frag) (mg : Str → Option Value) (base : Heap) (x : Str) (k : Nat) (f : Addr) (fd : FuncData) (ps : List Str) (sp : Sp) : Prop where
  ok : FnOk P w K mg base CX0 k f fd ps sp
  mgx : mg x = some (.ref f)
  kp : PySem.W.keepIn K (.ref f) = true
  b : Binds K fd ps []
/-- the built-in names that the text uses, and its one constant -/
structure Bi (mg : Str → Option Value) : Prop where
  tuple : mg "tuple" = none
  len : mg "len" = none
  range : mg "range" = none
  divmod : mg "divmod" = none
  str : mg "str" = none
  max : mg "max" = none
  min : mg "min" = none
  list : mg "list" = none
  isinstance : mg "isinstance" = none
  enumerate : mg "enumerate" = none
  zip : mg "zip" = none
  most : ∃ t, mg "MOST" = some (.int 8 t)
/-! ### heaps -/
theorem _root_.L2.Same.new {H : Hp} {p : Addr} (h : H p = none) (o : HO) : Same H (upd H p o) := fun b u q => by rw [upd_ne (ne_of_none q h)]; exact q
theorem _root_.L2.Same.upd {H H' : Hp} {p : Addr} (s : Same H H') (h : H p = none) (o : HO) : Same H (upd H' p o) := fun b u q => by rw [upd_ne (ne_of_none q h)]; exact s _ _ q
theorem _root_.L2.Same.seqT {K : PySem.W.Frag} {H H' : Hp} {a : Addr} {xs : List V} (e : Same H H') (h : SqT K H a xs) : SqT K H' a xs := by
  rcases h with (h | ⟨o, h⟩) | h
  · exact .inl (.inl (e _ _ h))
  · exact .inl (.inr ⟨o, e _ _ h⟩)
  · exact .inr h
theorem line_of {n : Nat} (h : n ≤ 100000) : n ≤ sizeLine := Nat.le_trans h (by decide)
theorem line_lt {n : Nat} (h : n ≤ 100000) : n < sizeLine := Nat.lt_of_le_of_lt h (by decide)
/-! ### lists that lie in pairs -/
theorem pget {α β : Type} {F : α → β → Prop} : ∀ {xs : List α} {ys : List β} {i : Nat} {y : β}, Paired F xs ys → ys[i]? = some y → ∃ x, xs[i]? = some x ∧ F x y
  | _, _, _, _, .nil, h => by simp at h
  | _, _, 0, _, .cons a _, h => by simp at h; subst h; exact ⟨_, rfl, a⟩
  | _, _, i + 1, _, .cons _ t, h => by
    obtain ⟨x, hx, hf⟩ := pget (i := i) t (by simpa using h)
    exact ⟨x, by simpa using hx, hf⟩
theorem pget' {α β : Type} {F : α → β → Prop} : ∀ {xs : List α} {ys : List β} {i : Nat} {x : α}, Paired F xs ys → xs[i]? = some x → ∃ y, ys[i]? = some y ∧ F x y
  | _, _, _, _, .nil, h => by simp at h
  | _, _, 0, _, .cons a _, h => by simp at h; subst h; exact ⟨_, rfl, a⟩
  | _, _, i + 1, _, .cons _ t, h => by
    obtain ⟨x, hx, hf⟩ := pget' (i := i) t (by simpa using h)
    exact ⟨x, by simpa using hx, hf⟩
theorem plen {α β : Type} {F : α → β → Prop} {xs : List α} {ys : List β} (h : Paired F xs ys) : xs.length = ys.length := Paired.length h
theorem pmono {α β : Type} {F G : α → β → Prop} {xs : List α} {ys : List β} (h : Paired F xs ys) (f : ∀ a b, F a b → G a b) : Paired G xs ys := Paired.mapP h f
theorem psnoc {α β : Type} {F : α → β → Prop} {xs : List α} {ys : List β} {a : α} {b : β} (h : Paired F xs ys) (q : F a b) : Paired F (xs ++ [a]) (ys ++ [b]) := Paired.snoc h q
/-! ### the parts as they lie in the heap -/
inductive Rw where
  | bring (o : Str) | ask (o : Str) | say
abbrev Parts := List (Str × List Rw)
def RowAt (H : Hp) (v : V) : Rw → Prop
  | .bring o => ∃ r e, v = .ref r ∧ H r = some (.tup [.str "bring", .str o, e])
  | .ask o => ∃ r e, v = .ref r ∧ H r = some (.tup [.str "ask", .str o, e])
  | .say => ∃ r e f, v = .ref r ∧ H r = some (.tup [.str "say", e, f])
def RowsAt (H : Hp) (v : V) (rs : List Rw) : Prop := ∃ a vs, v = .ref a ∧ H a = some (.tup vs) ∧ Paired (RowAt H) vs rs
def PartAt (H : Hp) (v : V) (p : Str × List Rw) : Prop := ∃ a w, v = .ref a ∧ H a = some (.tup [.str p.1, w]) ∧ RowsAt H w p.2
def PartsAt (H : Hp) (v : V) (P : Parts) : Prop := ∃ a vs, v = .ref a ∧ H a = some (.tup vs) ∧ Paired (PartAt H) vs P
/-- a tuple, a list of texts -/
def StrsT (H : Hp) (v : V) (t : List Str) : Prop := ∃ a, v = .ref a ∧ H a = some (.tup (t.map V.str))
/-- all tuples stay -/
def TSame (H H' : Hp) : Prop := ∀ a xs, H a = some (.tup xs) → H' a = some (.tup xs)
theorem _root_.L2.Same.tups {H H' : Hp} (s : Same H H') : TSame H H' := fun a xs h => s a _ h
theorem RowAt.keep {H H' : Hp} (s : TSame H H') {v : V} : ∀ {r : Rw}, RowAt H v r → RowAt H' v r
  | .bring _, ⟨r, e, h1, h2⟩ => ⟨r, e, h1, s _ _ h2⟩
  | .ask _, ⟨r, e, h1, h2⟩ => ⟨r, e, h1, s _ _ h2⟩
  | .say, ⟨r, e, f, h1, h2⟩ => ⟨r, e, f, h1, s _ _ h2⟩
theorem RowsAt.keep {H H' : Hp} (s : TSame H H') {v : V} {rs : List Rw} : RowsAt H v rs → RowsAt H' v rs
  | ⟨a, vs, h1, h2, h3⟩ => ⟨a, vs, h1, s _ _ h2, pmono h3 fun _ _ q => q.keep s⟩
theorem PartAt.keep {H H' : Hp} (s : TSame H H') {v : V} {p : Str × List Rw} : PartAt H v p → PartAt H' v p
  | ⟨a, w, h1, h2, h3⟩ => ⟨a, w, h1, s _ _ h2, h3.keep s⟩
theorem PartsAt.keep {H H' : Hp} (s : TSame H H') {v : V} {P : Parts} : PartsAt H v P → PartsAt H' v P
  | ⟨a, vs, h1, h2, h3⟩ => ⟨a, vs, h1, s _ _ h2, pmono h3 fun _ _ q => q.keep s⟩
theorem StrsT.keep {H H' : Hp} (s : TSame H H') {v : V} {t : List Str} : StrsT H v t → StrsT H' v t
  | ⟨a, h1, h2⟩ => ⟨a, h1, s _ _ h2⟩
theorem RowAt.same {H H' : Hp} (s : Same H H') {v : V} {r : Rw} (h : RowAt H v r) : RowAt H' v r := h.keep s.tups
theorem RowsAt.same {H H' : Hp} (s : Same H H') {v : V} {rs : List Rw} (h : RowsAt H v rs) : RowsAt H' v rs := h.keep s.tups
theorem PartAt.same {H H' : Hp} (s : Same H H') {v : V} {p : Str × List Rw} (h : PartAt H v p) : PartAt H' v p := h.keep s.tups
theorem PartsAt.same {H H' : Hp} (s : Same H H') {v : V} {P : Parts} (h : PartsAt H v P) : PartsAt H' v P := h.keep s.tups
theorem StrsT.same {H H' : Hp} (s : Same H H') {v : V} {t : List Str} (h : StrsT H v t) : StrsT H' v t := h.keep s.tups
/-- all but what stands at L stays -/
def Keep (L : Addr) (H H' : Hp) : Prop := ∀ a o, H a = some o → a ≠ L → H' a = some o
theorem Keep.trans {L : Addr} {H H1 H2 : Hp} (a : Keep L H H1) (b : Keep L H1 H2) : Keep L H H2 := fun c o h n => b c o (a c o h n) n
theorem Keep.refl (L : Addr) (H : Hp) : Keep L H H := fun _ _ h _ => h
theorem Keep.of {L : Addr} {H H' : Hp} (s : Same H H') : Keep L H H' := fun a o h _ => s a o h
theorem Keep.put {L : Addr} {H : Hp} {o : HO} : Keep L H (upd H L o) := fun a u h n => by rw [upd_ne n]; exact h
theorem Keep.tups {L : Addr} {H H' : Hp} (k : Keep L H H') {xs : List V} (h : H L = some (.lst xs)) : TSame H H' := fun a ys q => k a _ q (ne_of q h (by intro z; cases z))
theorem Keep.same {L : Addr} {H0 H H' : Hp} (k : Keep L H H') (s : Same H0 H) (n : H0 L = none) : Same H0 H' := fun a o q => k a o (s a o q) (ne_of_none q n)
/-! ### what parts mean -/
abbrev namesOf (P : Parts) : List Str := P.map (·.1)
def EP (P : Parts) (x y : Str) : Prop := ∃ rs, (x, rs) ∈ P ∧ Rw.bring y ∈ rs
structure PGood (P : Parts) : Prop where
  nd : (namesOf P).Nodup
  len : P.length ≤ 8
  rows : ∀ p, p ∈ P → p.2.length ≤ 60
  dom : ∀ p, p ∈ P → ∀ o, Rw.bring o ∈ p.2 → o ∈ namesOf P ∧ o ≠ p.1
theorem PGood.graph {P : Parts} (g : PGood P) : GraphOk (namesOf P) (EP P) where
  nd := g.nd
  dom := fun x y ⟨rs, h1, h2⟩ => ⟨List.mem_map.mpr ⟨_, h1, rfl⟩, (g.dom _ h1 _ h2).1⟩
  irr := fun x ⟨rs, h1, h2⟩ => (g.dom _ h1 _ h2).2 rfl
def brs (rs : List Rw) : List Str := rs.foldl (fun acc r => match r with
  | .bring o => if o ∈ acc then acc else acc ++ [o]
  | _ => acc) []
def stepB (acc : List Str) : Rw → List Str
  | .bring o => if o ∈ acc then acc else acc ++ [o]
  | _ => acc
theorem brs_eq (rs : List Rw) : brs rs = rs.foldl stepB [] := by
  unfold brs
  congr 1
theorem brs_snoc (rs : List Rw) (r : Rw) : brs (rs ++ [r]) = stepB (brs rs) r := by rw [brs_eq, brs_eq, List.foldl_append]; rfl
theorem brs_take {rs : List Rw} {i : Nat} {r : Rw} (h : rs[i]? = some r) : brs (rs.take (i + 1)) = stepB (brs (rs.take i)) r := by
  rw [List.take_add_one, h]
  exact brs_snoc _ _
theorem stepB_len (acc : List Str) (r : Rw) : (stepB acc r).length ≤ acc.length + 1 := by
  cases r with
  | bring o =>
    show (if o ∈ acc then acc else acc ++ [o]).length ≤ _
    split
    · omega
    · simp
  | ask o => exact Nat.le_succ _
  | say => exact Nat.le_succ _
theorem brs_spec : ∀ (n : Nat) (rs : List Rw), rs.length = n → (brs rs).length ≤ rs.length ∧ (brs rs).Nodup ∧ ∀ o, o ∈ brs rs ↔ Rw.bring o ∈ rs
  | 0, rs, h => by
    rw [List.eq_nil_of_length_eq_zero h]
    exact ⟨Nat.le_refl _, List.Pairwise.nil, fun o => ⟨fun h => (nomatch h), fun h => (nomatch h)⟩⟩
  | n + 1, rs, h => by
    have ne : rs ≠ [] := fun e => by rw [e] at h; cases h
    obtain ⟨l, hl⟩ : ∃ l, l = rs.dropLast := ⟨_, rfl⟩
    have e : rs = l ++ [rs.getLast ne] := by rw [hl]; exact (List.dropLast_concat_getLast ne).symm
    generalize rs.getLast ne = r at e
    subst e
    have hl' : l.length = n := by simpa using h
    obtain ⟨h1, h2, h3⟩ := brs_spec n l hl'
    rw [brs_snoc]
    refine ⟨by have := stepB_len (brs l) r; simp; omega, ?_, fun o => ?_⟩
    · cases r with
      | bring o =>
        show (if o ∈ brs l then brs l else brs l ++ [o]).Nodup
        by_cases c : o ∈ brs l
        · rw [if_pos c]; exact h2
        · rw [if_neg c]
          exact List.pairwise_append.mpr ⟨h2, List.pairwise_singleton .., fun a ha b hb e => c (by rw [List.mem_singleton.mp hb] at e; exact e ▸ ha)⟩
      | ask o => exact h2
      | say => exact h2
    · rw [List.mem_append, List.mem_singleton, ← h3]
      cases r with
      | bring o' =>
        show o ∈ (if o' ∈ brs l then brs l else brs l ++ [o']) ↔ _
        by_cases c : o' ∈ brs l
        · rw [if_pos c]
          exact ⟨.inl, fun q => q.elim id fun q => by cases q; exact c⟩
        · rw [if_neg c, List.mem_append, List.mem_singleton]
          exact ⟨fun q => q.imp id fun e => by rw [e], fun q => q.imp id fun e => by cases e; rfl⟩
      | ask o' => exact ⟨.inl, fun q => q.elim id fun q => nomatch q⟩
      | say => exact ⟨.inl, fun q => q.elim id fun q => nomatch q⟩
theorem mem_brs {rs : List Rw} {o : Str} : o ∈ brs rs ↔ Rw.bring o ∈ rs := (brs_spec _ rs rfl).2.2 o
theorem brs_len (rs : List Rw) : (brs rs).length ≤ rs.length := (brs_spec _ rs rfl).1
def rowsOf (P : Parts) (x : Str) : List Rw := (P.lookup x).getD []
theorem rowsOf_at : ∀ {P : Parts} {i : Nat} {x : Str} {rs : List Rw}, (∀ (j : Nat) p, j < i → P[j]? = some p → p.1 ≠ x) → P[i]? = some (x, rs) → rowsOf P x = rs
  | [], _, _, _, _, h => by simp at h
  | (y, r) :: P, 0, x, rs, _, h => by
    simp at h
    obtain ⟨rfl, rfl⟩ := h
    unfold rowsOf
    rw [List.lookup_cons]
    simp
  | (y, r) :: P, i + 1, x, rs, hn, h => by
    have ih := rowsOf_at (P := P) (i := i) (x := x) (rs := rs) (fun j p hj hp => hn (j + 1) p (by omega) (by simpa using hp)) (by simpa using h)
    have ne : ¬ y = x := hn 0 (y, r) (by omega) rfl
    unfold rowsOf at ih ⊢
    rw [List.lookup_cons, show (x == y) = false from by simp; exact fun e => ne e.symm]
    exact ih
theorem rowsOf_mem : ∀ {P : Parts} {x : Str} {rs : List Rw}, (namesOf P).Nodup → (x, rs) ∈ P → rowsOf P x = rs
  | [], _, _, _, h => nomatch h
  | (y, r) :: P, x, rs, hn, h => by
    have hn' := List.nodup_cons.mp hn
    unfold rowsOf
    rw [List.lookup_cons]
    rcases List.mem_cons.mp h with e | h
    · cases e
      simp
    · have ne : y ≠ x := fun e => hn'.1 (e ▸ List.mem_map.mpr ⟨_, h, rfl⟩)
      rw [show (x == y) = false from by simp; exact fun e => ne e.symm]
      exact rowsOf_mem hn'.2 h
def bringsOf (P : Parts) (x : Str) : List Str := brs (rowsOf P x)
theorem name_row {P : Parts} {x : Str} (g : PGood P) (h : x ∈ namesOf P) : (x, rowsOf P x) ∈ P := by
  obtain ⟨⟨y, rs⟩, hm, e⟩ := List.mem_map.mp h
  cases e
  rw [rowsOf_mem g.nd hm]
  exact hm
theorem mem_brings {P : Parts} {x y : Str} (g : PGood P) (h : x ∈ namesOf P) : y ∈ bringsOf P x ↔ EP P x y := by
  unfold bringsOf
  rw [mem_brs]
  exact ⟨fun q => ⟨_, name_row g h, q⟩, fun ⟨rs, h1, h2⟩ => by rw [rowsOf_mem g.nd h1]; exact h2⟩
theorem brings_len {P : Parts} {x : Str} (g : PGood P) (h : x ∈ namesOf P) : (bringsOf P x).length ≤ 60 :=
  Nat.le_trans (brs_len _) (g.rows _ (name_row g h))
end Bh
namespace Bh
open PySem L2
/-! ### bits -/
theorem pop_zero (n : Nat) : pop n 0 = 0 := by
  unfold pop
  rw [List.filter_eq_nil_iff.mpr (fun a _ => by simp)]
  rfl
theorem pop_succ (n m : Nat) : pop (n + 1) m = m % 2 + pop n (m / 2) := by
  unfold pop
  rw [List.range_succ_eq_map, List.filter_cons, List.filter_map, Nat.testBit_zero]
  have e : (List.range n).filter ((fun j => m.testBit j) ∘ Nat.succ) = (List.range n).filter fun j => (m / 2).testBit j := by
    refine List.filter_congr fun j _ => ?_
    exact Nat.testBit_succ m j
  rw [e]
  by_cases h : m % 2 = 1
  · rw [if_pos (by simpa using h), List.length_cons, List.length_map]; omega
  · rw [if_neg (by simpa using h), List.length_map]; omega
theorem pop_le (n m : Nat) : pop n m ≤ n := by
  unfold pop
  exact Nat.le_trans (List.length_filter_le _ _) (by rw [List.length_range]; exact Nat.le_refl _)
def bitsM (n m : Nat) : List Nat := (List.range n).filter fun j => m.testBit j
theorem bitsM_succ (i m : Nat) : bitsM (i + 1) m = if m.testBit i = true then bitsM i m ++ [i] else bitsM i m := by
  unfold bitsM
  rw [List.range_succ, List.filter_append]
  by_cases h : m.testBit i = true
  · rw [if_pos h, List.filter_cons_of_pos h]; rfl
  · rw [if_neg h, List.filter_cons_of_neg h]; simp
theorem bitsM_len (n m : Nat) : (bitsM n m).length ≤ n := pop_le n m
section
variable {P : Program} {w : World} {K : PySem.W.Frag} {mg : Str → Option Value} {base : Heap} {f fd : _}
/-! ### bits_of -/
def spBits : Sp := fun vs H Q _ => ∃ n m : Nat, vs = [.int m] ∧ m < 2 ^ n ∧ ∀ H', Same H H' → Q (.int (pop n m : Nat)) H'
abbrev n_bits_of : List Str := ["number", "found", "low"]
abbrev p_bits_of : List Str := ["number"]
theorem sc_bits_of : FnScope n_bits_of p_bits_of (defScope s_bits_of) := ⟨rfl, rfl, rfl, by decide +kernel, rfl, by decide +kernel, by decide +kernel⟩
theorem ok_bits_of {f : Addr} {fd : FuncData} (F : Fun K "bits_of" "bits_of" s_bits_of f fd) (B : Bi mg) : FnOk P w K mg base CX0 1 f fd p_bits_of spBits := by
  refine F.ok sc_bits_of (fun vs H Q E h => ?_) (fun cdv A outer s H vs Q E hr h => ?_)
  · obtain ⟨n, m, rfl, _⟩ := h
    rfl
  obtain ⟨n, m, rfl, hm, k⟩ := h
  refine ⟨_, (pss_cons (ps_set (i := 1) sc_bits_of.nd rfl (Or.inl rfl) pe_int)
        (pss_cons (ps_while PassesOwn.never (pt_cmpR op_gt (pv 0) pe_int (nomark _)) (pss_cons (ps_asg (pe_callB call_divmod (by rfl) B.divmod (by decide +kernel) (pa_cons (pv 0) (pa_cons pe_int pa_nil))) (pg_tup rfl (pgs_cons (pg_name (i := 0) sc_bits_of.nd rfl (Or.inl rfl)) (pgs_cons (pg_name (i := 2) sc_bits_of.nd rfl (Or.inl rfl)) pgs_nil))))
          (pss_one (ps_aug (i := 1) sc_bits_of.nd rfl (Or.inl rfl) (pv 2) ip_add))))
        (pss_one (ps_ret (pv 1))))), ?_⟩
  refine ⟨fun x σ H' => ∃ (j y c : Nat) (l : Option V), x = y ∧ σ = [some (.int y), some (.int c), l] ∧ Same H H' ∧ y < 2 ^ j ∧ c + pop j y = pop n m, ⟨m, n, m, 0, none, rfl, rfl, Same.refl H, hm, Nat.zero_add _⟩, ?_⟩
  rintro x σ H' ⟨j, y, c, l, rfl, rfl, hs, hy, hc⟩
  refine ⟨_, rfl, _, _, rfl, rfl, _, rfl, ?_⟩
  refine ite2 (fun q => ?_) (fun q => ?_)
  · have q' : (0 : Int) < (x : Int) := of_decide_eq_true q
    have hx : 0 < x := by omega
    match j, hy, hc with
    | 0, hy, _ => exact absurd hy (by simp; omega)
    | j + 1, hy, hc =>
      refine ⟨fun σ' H2 => ∃ (v u : V) (y c : Nat) (l : Option V), σ' = [some v, some u, l] ∧ v = .int y ∧ u = .int c ∧ Same H H2 ∧ y = x / 2 ∧ y < 2 ^ j ∧ c + pop j y = pop n m,
        fun σ' H2 ⟨v, u, y, c, l, e, ev, eu, hs, hy, h1, h2⟩ => ⟨y, by rw [hy]; exact Nat.div_lt_self hx (by decide), j, y, c, l, rfl, by rw [e, ev, eu], hs, h1, h2⟩, ?_⟩
      refine ⟨_, rfl, _, _, rfl, ⟨by decide, by decide⟩, fun p hp => ?_⟩
      refine ⟨p, _, rfl, SqT.of upd_same, rfl, _, _, rfl, _, _, rfl, rfl, ?_⟩
      refine ⟨_, rfl, _, rfl, _, _, rfl, rfl, ?_⟩
      rw [pop_succ] at hc
      refine ⟨_, _, x / 2, c + x % 2, _, rfl, congrArg V.int (by omega), congrArg V.int ?_, hs.upd (hs.free hp) _, rfl, ?_, by omega⟩
      · show (c : Int) + (x : Int) % 2 = ((c + x % 2 : Nat) : Int)
        omega
      · rw [Nat.pow_succ] at hy
        omega
  · have q' : ¬ (0 : Int) < (x : Int) := of_decide_eq_false (Bool.eq_false_iff.mpr q)
    have e : x = 0 := by omega
    subst e
    rw [pop_zero, Nat.add_zero] at hc
    refine ⟨_, rfl, ?_⟩
    rw [hc]
    exact k _ hs
/-! ### numbers_of -/
def intsOf (l : List Nat) : List V := l.map fun n : Nat => V.int (n : Int)
def spNumbers : Sp := fun vs H Q _ => ∃ n m : Nat, vs = [.int m, .int n] ∧ n ≤ 1000 ∧ ∀ H' p, Same H H' → H' p = some (.tup (intsOf (bitsM n m))) → Q (.ref p) H'
abbrev n_numbers_of : List Str := ["pack", "many", "found", "number", "low"]
abbrev p_numbers_of : List Str := ["pack", "many"]
theorem sc_numbers_of : FnScope n_numbers_of p_numbers_of (defScope s_numbers_of) := ⟨rfl, rfl, rfl, by decide +kernel, rfl, by decide +kernel, by decide +kernel⟩
theorem ok_numbers_of {f : Addr} {fd : FuncData} (F : Fun K "numbers_of" "numbers_of" s_numbers_of f fd) (B : Bi mg) : FnOk P w K mg base CX0 1 f fd p_numbers_of spNumbers := by
  refine F.ok sc_numbers_of (fun vs H Q E h => ?_) (fun cdv A outer s H vs Q E hr h => ?_)
  · obtain ⟨n, m, rfl, _⟩ := h
    rfl
  obtain ⟨n, m, rfl, hn, k⟩ := h
  refine ⟨_, (pss_cons (ps_set (i := 2) sc_numbers_of.nd rfl (Or.inl rfl) (pe_lst pa_nil))
        (pss_cons (ps_for PassesOwn.never rfl (pi_range1 (by rfl) B.range (pa_cons (pv 1) pa_nil)) (pg_name (i := 3) sc_numbers_of.nd rfl (Or.inl rfl)) (pss_cons (ps_asg (pe_callB call_divmod (by rfl) B.divmod (by decide +kernel) (pa_cons (pv 0) (pa_cons pe_int pa_nil))) (pg_tup rfl (pgs_cons (pg_name (i := 0) sc_numbers_of.nd rfl (Or.inl rfl)) (pgs_cons (pg_name (i := 4) sc_numbers_of.nd rfl (Or.inl rfl)) pgs_nil))))
          (pss_one (ps_if (pt_cmpR op_eq (pv 4) pe_int (nomark _)) (pss_one (ps_expr (pe_bm PySem.F.plainAttrs_list PySem.F.slot_list_append PySem.F.type_list_append mt_append (pv 2) (pa_cons (pv 3) pa_nil)))) pss_nil))))
        (pss_one (ps_ret (pe_callTy call_tuple_of (by rfl) B.tuple (by decide +kernel) (pa_cons (pv 2) pa_nil)))))), ?_⟩
  refine ⟨Nat.zero_le _, fun D hD => ?_⟩
  refine ⟨_, rfl, _, rfl, by omega, by omega, for_range (lo := 0) (n := ((n : Int)).toNat) (fun i σ H' => ∃ (v : V) (a b : Option V), σ = [some v, some (.int n), some (.ref D), a, b] ∧ v = .int ((m / 2 ^ i : Nat) : Int) ∧ Same H H' ∧ H' D = some (.lst (intsOf (bitsM i m))))
    ⟨_, none, none, rfl, by rw [Nat.pow_zero, Nat.div_one], Same.new hD _, upd_same⟩ ?_ ?_⟩
  · rintro i σ H' hi ⟨_, a, b, rfl, rfl, hs, hL⟩
    refine ⟨_, rfl, _, _, rfl, ⟨by decide, by decide⟩, fun p hp => ?_⟩
    refine ⟨p, _, rfl, SqT.of upd_same, rfl, _, _, rfl, _, _, rfl, rfl, ?_⟩
    have ne : D ≠ p := ne_of_none hL hp
    have hL' : upd H' p (.tup [.int (((m / 2 ^ i : Nat) : Int) / 2), .int (((m / 2 ^ i : Nat) : Int) % 2)]) D = some (.lst (intsOf (bitsM i m))) := by rw [upd_ne ne]; exact hL
    have hs' := hs.upd (hs.free hp) (.tup [.int (((m / 2 ^ i : Nat) : Int) / 2), .int (((m / 2 ^ i : Nat) : Int) % 2)])
    have eb : m.testBit i = decide (((m / 2 ^ i : Nat) : Int) % 2 = 1) := by
      rw [Nat.testBit_eq_decide_div_mod_eq]
      exact decide_eq_decide.mpr ⟨fun h => by omega, fun h => by omega⟩
    have e1 : (((m / 2 ^ (i + 1) : Nat) : Int)) = ((m / 2 ^ i : Nat) : Int) / 2 := by
      rw [Nat.pow_succ, ← Nat.div_div_eq_div_mul]
      omega
    refine ⟨_, rfl, rfl, _, rfl, ?_⟩
    refine ite2 (fun q => ?_) (fun q => ?_)
    · have q' : ((m / 2 ^ i : Nat) : Int) % 2 = 1 := by
        have := of_decide_eq_true q
        exact V.int.inj this
      refine ⟨_, rfl, .inl ⟨rfl, _, SqL.of hL'⟩, _, rfl, D, _, _, rfl, rfl, hL', ?_, ?_⟩
      · have := bitsM_len i m
        unfold intsOf
        rw [List.length_map]
        exact line_lt (by omega)
      · refine ⟨_, _, _, rfl, by rw [e1], hs'.upd hD _, ?_⟩
        · rw [upd_same, bitsM_succ, if_pos (by rw [eb]; exact decide_eq_true q')]
          unfold intsOf
          rw [List.map_append, Int.zero_add]
          rfl
    · have q' : ¬ ((m / 2 ^ i : Nat) : Int) % 2 = 1 := fun e => q (decide_eq_true (by rw [e]))
      refine ⟨_, _, _, rfl, by rw [e1], hs', ?_⟩
      · rw [hL', bitsM_succ, if_neg (by rw [eb, decide_eq_false q']; exact Bool.false_ne_true)]
  · rintro σ H' ⟨_, a, b, rfl, rfl, hs, hL⟩
    refine ⟨_, rfl, D, _, rfl, .inl ⟨SqL.of hL, fun l hl => ?_⟩⟩
    refine k _ l (hs.upd (hs.free hl) _) ?_
    rw [upd_same, Int.toNat_natCast]
end
end Bh
namespace Bh
open PySem L2
/-! ### texts in lists -/
abbrev txs (l : List Str) : List V := l.map V.str
theorem inV_txs (x : Str) : ∀ l : List Str, inV (.str x) (txs l) = decide (x ∈ l)
  | [] => rfl
  | y :: l => by
    have ih := inV_txs x l
    unfold inV at ih ⊢
    show ((V.str y :: txs l).any fun y => eqV y (V.str x)) = _
    rw [List.any_cons, ih]
    show ((y == x) || decide (x ∈ l)) = decide (x ∈ y :: l)
    rw [Bool.eq_iff_iff, Bool.or_eq_true, decide_eq_true_eq, decide_eq_true_eq, List.mem_cons, beq_iff_eq]
    exact ⟨fun h => h.imp Eq.symm id, fun h => h.imp Eq.symm id⟩
theorem flat_txs : ∀ l : List Str, (txs l).all flatV = true
  | [] => rfl
  | a :: l => by
    show (V.str a :: txs l).all flatV = true
    rw [List.all_cons, flat_txs l]; rfl
theorem txs_len (l : List Str) : (txs l).length = l.length := List.length_map _
theorem txs_get {l : List Str} {i : Nat} {v : V} (h : (txs l)[i]? = some v) : ∃ x, l[i]? = some x ∧ v = .str x := by
  rw [List.getElem?_map] at h
  cases e : l[i]? with
  | none => rw [e] at h; cases h
  | some x => rw [e] at h; exact ⟨x, rfl, (Option.some.inj h).symm⟩
theorem txs_at {l : List Str} {i : Nat} {x : Str} (h : l[i]? = some x) : (txs l)[i]? = some (.str x) := by
  rw [List.getElem?_map, h]; rfl
theorem txs_snoc (l : List Str) (x : Str) : txs l ++ [V.str x] = txs (l ++ [x]) := by
  show l.map V.str ++ [V.str x] = (l ++ [x]).map V.str
  rw [List.map_append]; rfl
theorem str_dec (a b : Str) : decide (V.str a = V.str b) = decide (a = b) := decide_eq_decide.mpr ⟨fun h => V.str.inj h, fun h => by rw [h]⟩
section
variable {P : Program} {w : World} {K : PySem.W.Frag} {mg : Str → Option Value} {base : Heap}
/-! ### rows_of -/
def spRows : Sp := fun vs H Q _ => ∃ (v : V) (x : Str) (P : Parts), vs = [v, .str x] ∧ PartsAt H v P ∧ x ∈ namesOf P ∧ ∀ u, RowsAt H u (rowsOf P x) → Q u H
abbrev n_rows_of : List Str := ["parts", "part", "name", "rows"]
abbrev p_rows_of : List Str := ["parts", "part"]
theorem sc_rows_of : FnScope n_rows_of p_rows_of (defScope s_rows_of) := ⟨rfl, rfl, rfl, by decide +kernel, rfl, by decide +kernel, by decide +kernel⟩
theorem ok_rows_of {f : Addr} {fd : FuncData} (F : Fun K "rows_of" "rows_of" s_rows_of f fd) (B : Bi mg) : FnOk P w K mg base CX0 1 f fd p_rows_of spRows := by
  refine F.ok sc_rows_of (fun vs H Q E h => ?_) (fun cdv A outer s H vs Q E hr h => ?_)
  · obtain ⟨v, x, P, rfl, _⟩ := h
    rfl
  obtain ⟨v, x, P, rfl, ⟨a, vs, rfl, ha, hp⟩, hx, k⟩ := h
  refine ⟨_, (pss_cons (ps_for PassesOwn.never rfl (pi_tup (pv 0)) (pg_tup rfl (pgs_cons (pg_name (i := 2) sc_rows_of.nd rfl (Or.inl rfl)) (pgs_cons (pg_name (i := 3) sc_rows_of.nd rfl (Or.inl rfl)) pgs_nil))) (pss_one (ps_if (pt_cmpR op_eq (pv 2) (pv 1) (nomark _)) (pss_one (ps_ret (pv 3))) pss_nil)))
        (pss_one (ps_ret (pe_tup pa_nil)))), ?_⟩
  refine ⟨_, rfl, a, rfl, ⟨_, SqT.of ha⟩, for_tup (K := K) (a := a) (xs := vs) (fun i σ H' => ∃ (c d : Option V), σ = [some (.ref a), some (.str x), c, d] ∧ H' = H ∧ ∀ (j : Nat) p, j < i → P[j]? = some p → p.1 ≠ x)
    ⟨none, none, rfl, rfl, fun j p h => absurd h (Nat.not_lt_zero _)⟩ (fun i σ H' _ ⟨_, _, _, e, _⟩ => by rw [e]; exact SqT.of ha) ?_ ?_⟩
  · rintro i y σ H' hi ⟨c, d, rfl, rfl, hno⟩
    obtain ⟨⟨n, rs⟩, hpi, b, z, rfl, hb, hrs⟩ := pget' hp hi
    refine ⟨b, _, rfl, SqT.of hb, rfl, _, _, rfl, _, _, rfl, rfl, ?_⟩
    refine ⟨_, rfl, _, rfl, rfl, _, rfl, ?_⟩
    refine ite2 (fun q => ?_) (fun q => ?_)
    · have e : n = x := V.str.inj (of_decide_eq_true q)
      subst e
      refine ⟨_, rfl, k _ ?_⟩
      rw [rowsOf_at hno hpi]
      exact hrs
    · have e : ¬ n = x := fun e => q (decide_eq_true (by rw [e]))
      refine ⟨_, _, rfl, rfl, fun j p hj hpj => ?_⟩
      by_cases hji : j < i
      · exact hno j p hji hpj
      · have : j = i := by omega
        subst this
        rw [hpi] at hpj
        cases hpj
        exact e
  · rintro σ H' ⟨c, d, rfl, rfl, hno⟩
    obtain ⟨p, hm, e⟩ := List.mem_map.mp hx
    obtain ⟨j, hj⟩ := List.mem_iff_getElem?.mp hm
    have hl := plen hp
    exact absurd e (hno j p (by rw [hl]; exact (List.getElem?_eq_some_iff.mp hj).1) hj)
/-! ### called, brings -/
def spBringsBy (vs0 : List V) : Sp := fun vs H Q _ => ∃ (v : V) (x : Str) (P : Parts), vs = [v, .str x] ++ vs0 ∧ PartsAt H v P ∧ PGood P ∧ x ∈ namesOf P ∧ ∀ H' p, Same H H' → H' p = some (.tup (txs (bringsOf P x))) → Q (.ref p) H'
theorem kind_ask : decide (V.str "ask" = V.str "bring") = false := by decide +kernel
theorem kind_say : decide (V.str "say" = V.str "bring") = false := by decide +kernel
abbrev n_called : List Str := ["parts", "part", "word", "found", "row"]
abbrev p_called : List Str := ["parts", "part", "word"]
theorem sc_called : FnScope n_called p_called (defScope s_called) := ⟨rfl, rfl, rfl, by decide +kernel, rfl, by decide +kernel, by decide +kernel⟩
theorem ok_called {f f1 : Addr} {fd fd1 : FuncData} (F : Fun K "called" "called" s_called f fd) (B : Bi mg) (c_rows_of : Here P w K mg base "rows_of" 1 f1 fd1 p_rows_of spRows) : FnOk P w K mg base CX0 2 f fd p_called (spBringsBy [.str "bring"]) := by
  refine F.ok sc_called (fun vs H Q E h => ?_) (fun cdv A outer s H vs Q E hr h => ?_)
  · obtain ⟨v, x, P, rfl, _⟩ := h
    rfl
  obtain ⟨v, x, P, rfl, hP, g, hx, k⟩ := h
  refine ⟨_, (pss_cons (ps_set (i := 3) sc_called.nd rfl (Or.inl rfl) (pe_lst pa_nil))
        (pss_cons (ps_for PassesOwn.never rfl (pi_tup (pe_call c_rows_of.ok (hr.mono (by decide)) rfl c_rows_of.mgx c_rows_of.kp c_rows_of.b .nil pass0 (pa_cons (pv 0) (pa_cons (pv 1) pa_nil)))) (pg_name (i := 4) sc_called.nd rfl (Or.inl rfl)) (pss_one (ps_if (PW.pt (pw_and (pt_cmpR op_eq (pe_ix ix_tup (pv 4) pe_int (fun _ _ => rfl)) (pv 2) (nomark _)) (pw_and1 (pt_cmpR op_notIn_seq (pe_ix ix_tup (pv 4) pe_int (fun _ _ => rfl)) (pv 3) (by rfl))))) (pss_one (ps_expr (pe_bm PySem.F.plainAttrs_list PySem.F.slot_list_append PySem.F.type_list_append mt_append (pv 3) (pa_cons (pe_ix ix_tup (pv 4) pe_int (fun _ _ => rfl)) pa_nil)))) pss_nil)))
        (pss_one (ps_ret (pe_callTy call_tuple_of (by rfl) B.tuple (by decide +kernel) (pa_cons (pv 3) pa_nil)))))), ?_⟩
  refine ⟨Nat.zero_le _, fun D hD => ?_⟩
  have hs0 := Same.new hD (.lst [])
  refine ⟨_, rfl, _, rfl, v, x, P, rfl, hP.same hs0, hx, fun u hu => ?_⟩
  obtain ⟨a, vs, rfl, ha, hp⟩ := hu
  have hl := plen hp
  have hlen : (rowsOf P x).length ≤ 60 := g.rows _ (name_row g hx)
  refine ⟨a, rfl, ⟨_, SqT.of ha⟩, for_tup (K := K) (a := a) (xs := vs) (fun i σ H' => ∃ (c : Option V), σ = [some v, some (.str x), some (.str "bring"), some (.ref D), c] ∧ H' = upd H D (.lst (txs (brs ((rowsOf P x).take i)))))
    ⟨none, rfl, rfl⟩ (fun i σ H' _ ⟨_, _, e⟩ => by rw [e]; rw [upd_ne (ne_of ha upd_same (by intro z; cases z))] at ha; exact SqT.of (by rw [upd_ne (ne_of_none ha hD)]; exact ha)) ?_ ?_⟩
  · rintro i y σ H' hi ⟨c, rfl, rfl⟩
    obtain ⟨r, hri, hr'⟩ := pget' hp hi
    have keep : ∀ {b : Addr} {xs : List V} {l : List V}, upd H D (.lst []) b = some (.tup xs) → upd H D (.lst l) b = some (.tup xs) := fun {b xs l} q => by
      have ne : b ≠ D := fun e => by subst e; rw [upd_same] at q; cases q
      rw [upd_ne ne] at q ⊢
      exact q
    cases r with
    | bring o =>
      obtain ⟨b, e, rfl, hb⟩ := hr'
      have hb' := keep (l := txs (brs ((rowsOf P x).take i))) hb
      refine ⟨_, rfl, b, _, _, _, rfl, rfl, SqT.of hb', rfl, _, rfl, rfl, _, rfl, ?_⟩
      refine iteT ⟨_, rfl, b, _, _, _, rfl, rfl, SqT.of hb', rfl, _, rfl, D, _, rfl, .inl (SqL.of upd_same), rfl, flat_txs _, _, rfl, ?_⟩
      rw [if_pos rfl, inV_txs]
      refine ite2 (fun q => ?_) (fun q => ?_)
      · have q' : o ∉ brs ((rowsOf P x).take i) := by simpa using q
        refine ⟨_, rfl, .inl ⟨rfl, _, SqL.of upd_same⟩, _, rfl, b, _, _, _, rfl, rfl, SqT.of hb', rfl, D, _, _, rfl, rfl, upd_same, ?_, ?_⟩
        · rw [txs_len]
          have := brs_len ((rowsOf P x).take i)
          have := List.length_take_le' i (rowsOf P x)
          exact line_lt (by omega)
        · refine ⟨_, rfl, ?_⟩
          rw [upd_upd, brs_take hri, txs_snoc]
          show _ = upd H D (.lst (txs (if o ∈ brs ((rowsOf P x).take i) then brs ((rowsOf P x).take i) else _)))
          rw [if_neg q']
      · have q' : o ∈ brs ((rowsOf P x).take i) := by simpa using q
        refine ⟨_, rfl, ?_⟩
        rw [brs_take hri]
        show _ = upd H D (.lst (txs (if o ∈ brs ((rowsOf P x).take i) then brs ((rowsOf P x).take i) else _)))
        rw [if_pos q']
    | ask o =>
      obtain ⟨b, e, rfl, hb⟩ := hr'
      have hb' := keep (l := txs (brs ((rowsOf P x).take i))) hb
      refine ⟨_, rfl, b, _, _, _, rfl, rfl, SqT.of hb', rfl, _, rfl, rfl, _, rfl, ?_⟩
      rw [kind_ask]
      refine iteF (iteF ⟨_, rfl, ?_⟩)
      rw [brs_take hri]
      rfl
    | say =>
      obtain ⟨b, e, e', rfl, hb⟩ := hr'
      have hb' := keep (l := txs (brs ((rowsOf P x).take i))) hb
      refine ⟨_, rfl, b, _, _, _, rfl, rfl, SqT.of hb', rfl, _, rfl, rfl, _, rfl, ?_⟩
      rw [kind_say]
      refine iteF (iteF ⟨_, rfl, ?_⟩)
      rw [brs_take hri]
      rfl
  · rintro σ H' ⟨c, rfl, rfl⟩
    refine ⟨_, rfl, D, _, rfl, .inl ⟨SqL.of upd_same, fun l hl => ?_⟩⟩
    have hs1 : Same H (upd H D (.lst (txs (brs ((rowsOf P x).take vs.length))))) := Same.new hD _
    refine k _ l (hs1.upd (hs1.free hl) _) ?_
    rw [upd_same, plen hp, List.take_length]
    rfl
abbrev n_brings : List Str := ["parts", "part"]
abbrev p_brings : List Str := ["parts", "part"]
theorem sc_brings : FnScope n_brings p_brings (defScope s_brings) := ⟨rfl, rfl, rfl, by decide +kernel, rfl, by decide +kernel, by decide +kernel⟩
theorem ok_brings {f f1 : Addr} {fd fd1 : FuncData} (F : Fun K "brings" "brings" s_brings f fd) (B : Bi mg) (c_called : Here P w K mg base "called" 2 f1 fd1 p_called (spBringsBy [.str "bring"])) : FnOk P w K mg base CX0 3 f fd p_brings (spBringsBy []) := by
  refine F.ok sc_brings (fun vs H Q E h => ?_) (fun cdv A outer s H vs Q E hr h => ?_)
  · obtain ⟨v, x, P, rfl, _⟩ := h
    rfl
  obtain ⟨v, x, P, rfl, hP, g, hx, k⟩ := h
  refine ⟨_, (pss_one (ps_ret (pe_call c_called.ok (hr.mono (by decide)) rfl c_called.mgx c_called.kp c_called.b .nil pass0 (pa_cons (pv 0) (pa_cons (pv 1) (pa_cons pe_str pa_nil)))))), ?_⟩
  exact ⟨_, rfl, _, rfl, v, x, P, rfl, hP, g, hx, k⟩
end
end Bh
namespace Bh
open PySem L2
/-! ### begin, order -/
structure BegPost (P : Parts) (b : List Str) (x : Str) (b' : List Str) : Prop where
  sub : ∀ y, y ∈ b → y ∈ b'
  mem : x ∈ b'
  nd : b'.Nodup
  nm : ∀ y, y ∈ b' → y ∈ namesOf P
  new : ∀ y, y ∈ b' → y ∉ b → (y = x ∨ Way (EP P) x y) ∧ ∀ z, EP P y z → z ∈ b'
theorem nm_len {P : Parts} {b : List Str} (h : b.Nodup) (n : ∀ y, y ∈ b → y ∈ namesOf P) : b.length ≤ P.length := by
  have := len_of_sub h n
  rwa [List.length_map] at this
/-- amid the bringings-in of x -/
structure BegMid (P : Parts) (b : List Str) (x : Str) (i : Nat) (c : List Str) : Prop where
  sub : ∀ y, y ∈ b ++ [x] → y ∈ c
  nd : c.Nodup
  nm : ∀ y, y ∈ c → y ∈ namesOf P
  new : ∀ y, y ∈ c → y ∉ b → y ≠ x → Way (EP P) x y ∧ ∀ z, EP P y z → z ∈ c
  don : ∀ j y, j < i → (bringsOf P x)[j]? = some y → y ∈ c
theorem BegMid.step {P : Parts} {b c c' : List Str} {x o : Str} {i : Nat} (g : PGood P) (hx : x ∈ namesOf P) (m : BegMid P b x i c) (ho : (bringsOf P x)[i]? = some o) (q : BegPost P c o c') : BegMid P b x (i + 1) c' where
  sub := fun y h => q.sub y (m.sub y h)
  nd := q.nd
  nm := q.nm
  new := fun y h hb hx' => by
    have e : EP P x o := (mem_brings g hx).mp (List.mem_of_getElem? ho)
    by_cases hc : y ∈ c
    · obtain ⟨h1, h2⟩ := m.new y hc hb hx'
      exact ⟨h1, fun z hz => q.sub z (h2 z hz)⟩
    · obtain ⟨h1, h2⟩ := q.new y h hc
      refine ⟨?_, h2⟩
      rcases h1 with rfl | h1
      · exact .one e
      · exact .more e h1
  don := fun j y hj hy => by
    by_cases h : j < i
    · exact q.sub y (m.don j y h hy)
    · have : j = i := by omega
      subst this
      rw [ho] at hy
      cases hy
      exact q.mem
theorem BegMid.fin {P : Parts} {b c : List Str} {x : Str} (g : PGood P) (hx : x ∈ namesOf P) (m : BegMid P b x (bringsOf P x).length c) : BegPost P b x c where
  sub := fun y h => m.sub y (List.mem_append_left _ h)
  mem := m.sub x (List.mem_append_right _ (List.mem_singleton.mpr rfl))
  nd := m.nd
  nm := m.nm
  new := fun y h hb => by
    by_cases e : y = x
    · subst e
      refine ⟨.inl rfl, fun z hz => ?_⟩
      obtain ⟨j, hj⟩ := List.mem_iff_getElem?.mp ((mem_brings g hx).mpr hz)
      exact m.don j z (List.getElem?_eq_some_iff.mp hj).1 hj
    · obtain ⟨h1, h2⟩ := m.new y h hb e
      exact ⟨.inr h1, h2⟩
def spBegin (n : Nat) : Sp := fun vs H Q _ => ∃ (v : V) (x : Str) (L : Addr) (P : Parts) (b : List Str), vs = [v, .str x, .ref L] ∧ H L = some (.lst (txs b)) ∧ PartsAt H v P ∧ PGood P ∧ x ∈ namesOf P ∧ b.Nodup ∧ (∀ y, y ∈ b → y ∈ namesOf P) ∧ P.length < b.length + n ∧
  ∀ H' b', Keep L H H' → H' L = some (.lst (txs b')) → BegPost P b x b' → Q .non H'
section
variable {P : Program} {w : World} {K : PySem.W.Frag} {mg : Str → Option Value} {base : Heap}
abbrev n_begin : List Str := ["parts", "part", "begun", "other"]
abbrev p_begin : List Str := ["parts", "part", "begun"]
theorem sc_begin : FnScope n_begin p_begin (defScope s_begin) := ⟨rfl, rfl, rfl, by decide +kernel, rfl, by decide +kernel, by decide +kernel⟩
theorem ok_begin {n : Nat} {f f1 : Addr} {fd fd1 : FuncData} (F : Fun K "begin" "begin" s_begin f fd) (B : Bi mg) (c_brings : Here P w K mg base "brings" 3 f1 fd1 p_brings (spBringsBy [])) (c_begin : Here P w K mg base "begin" (4 + n) f fd p_begin (spBegin n)) :
    FnOk P w K mg base CX0 (4 + n + 1) f fd p_begin (spBegin (n + 1)) := by
  refine F.ok sc_begin (fun vs H Q E h => ?_) (fun cdv A outer s H vs Q E hr h => ?_)
  · obtain ⟨v, x, L, P, b, rfl, _⟩ := h
    rfl
  obtain ⟨v, x, L, P, b, rfl, hL, hP, g, hx, hnd, hnm, hn, k⟩ := h
  refine ⟨_, (pss_one (ps_if (pt_cmpR op_notIn_seq (pv 1) (pv 2) (by rfl)) (pss_cons (ps_expr (pe_bm PySem.F.plainAttrs_list PySem.F.slot_list_append PySem.F.type_list_append mt_append (pv 2) (pa_cons (pv 1) pa_nil)))
          (pss_one (ps_for PassesOwn.never rfl (pi_tup (pe_call c_brings.ok (hr.mono (by omega)) rfl c_brings.mgx c_brings.kp c_brings.b .nil pass0 (pa_cons (pv 0) (pa_cons (pv 1) pa_nil)))) (pg_name (i := 3) sc_begin.nd rfl (Or.inl rfl)) (pss_one (ps_expr (pe_call c_begin.ok hr rfl c_begin.mgx c_begin.kp c_begin.b .nil pass0 (pa_cons (pv 0) (pa_cons (pv 3) (pa_cons (pv 2) pa_nil))))))))) pss_nil)), ?_⟩
  have hbl := nm_len hnd hnm
  have hPl := g.len
  refine ⟨_, rfl, _, rfl, L, _, rfl, .inl (SqL.of hL), rfl, flat_txs _, _, rfl, ?_⟩
  rw [if_pos rfl, inV_txs]
  refine ite2 (fun q => ?_) (fun q => ?_)
  · have q' : x ∉ b := by simpa using q
    refine ⟨_, rfl, .inl ⟨rfl, _, SqL.of hL⟩, _, rfl, L, _, _, rfl, rfl, hL, by rw [txs_len]; exact line_lt (by omega), ?_⟩
    rw [txs_snoc]
    have k0 : Keep L H (upd H L (.lst (txs (b ++ [x])))) := Keep.put
    have hP1 := hP.keep (k0.tups hL)
    refine ⟨_, rfl, _, rfl, v, x, P, rfl, hP1, g, hx, fun H1 t s1 ht => ?_⟩
    have hL1 : H1 L = some (.lst (txs (b ++ [x]))) := s1 _ _ upd_same
    have hP2 := hP1.same s1
    have k1 : Keep L H H1 := k0.trans (Keep.of s1)
    have nd1 : (b ++ [x]).Nodup := List.pairwise_append.mpr ⟨hnd, List.pairwise_singleton .., fun a ha c hc e => q' (by rw [List.mem_singleton.mp hc] at e; exact e ▸ ha)⟩
    refine ⟨t, rfl, ⟨_, SqT.of ht⟩, for_tup (K := K) (a := t) (xs := txs (bringsOf P x)) (fun i σ H' => ∃ (c : Option V) (d : List Str), σ = [some v, some (.str x), some (.ref L), c] ∧ Keep L H1 H' ∧ H' L = some (.lst (txs d)) ∧ BegMid P b x i d)
      ⟨none, b ++ [x], rfl, Keep.refl _ _, hL1, ⟨fun y h => h, nd1, fun y h => ?_, fun y h hb hx' => ?_, fun j y h => absurd h (Nat.not_lt_zero _)⟩⟩ (fun i σ H' _ ⟨_, _, _, kk, _, _⟩ => SqT.of (kk.tups hL1 _ _ ht)) ?_ ?_⟩
    · rcases List.mem_append.mp h with h | h
      · exact hnm y h
      · rw [List.mem_singleton.mp h]; exact hx
    · rcases List.mem_append.mp h with h | h
      · exact absurd h hb
      · exact absurd (List.mem_singleton.mp h) hx'
    · rintro i y σ H' hi ⟨c, d, rfl, kk, hd, m⟩
      obtain ⟨o, ho, rfl⟩ := txs_get hi
      have hdl : (b ++ [x]).length ≤ d.length := len_of_sub nd1 m.sub
      rw [List.length_append, List.length_singleton] at hdl
      refine ⟨_, rfl, _, rfl, _, rfl, v, o, L, P, d, rfl, hd, hP2.keep (kk.tups hL1), g, ((g.graph).dom x o ((mem_brings g hx).mp (List.mem_of_getElem? ho))).2, m.nd, m.nm, by omega, fun H2 d' k2 hd' bp => ?_⟩
      exact ⟨_, d', rfl, kk.trans k2, hd', m.step g hx ho bp⟩
    · rintro σ H' ⟨c, d, rfl, kk, hd, m⟩
      rw [txs_len] at m
      exact k H' d (k1.trans kk) hd (m.fin g hx)
  · have q' : x ∈ b := by simpa using q
    exact k H b (Keep.refl _ _) hL ⟨fun _ h => h, q', hnd, hnm, fun y h hb => absurd h hb⟩
theorem begin_none {f : Addr} {fd : FuncData} : FnOk P w K mg base CX0 4 f fd p_begin (spBegin 0) := by
  have no : ∀ vs H Q E, ¬ spBegin 0 vs H Q E := fun vs H Q E h => by
    obtain ⟨v, x, L, P, b, _, _, _, _, _, hnd, hnm, hn, _⟩ := h
    have := nm_len hnd hnm
    omega
  exact ⟨fun vs H Q E h => absurd h (no vs H Q E), fun A outer s H args us vs Q E _ _ _ _ h => absurd h (no vs H Q E)⟩
theorem begin_all {f f1 : Addr} {fd fd1 : FuncData} (F : Fun K "begin" "begin" s_begin f fd) (B : Bi mg) (c_brings : Here P w K mg base "brings" 3 f1 fd1 p_brings (spBringsBy [])) (hm : mg "begin" = some (.ref f)) (hb : Binds K fd p_begin []) :
    ∀ n : Nat, FnOk P w K mg base CX0 (4 + n) f fd p_begin (spBegin n)
  | 0 => begin_none
  | n + 1 => ok_begin F B c_brings ⟨begin_all F B c_brings hm hb n, hm, F.kp, hb⟩
/-- the begun order of a part -/
def OrderOf (P : Parts) (x : Str) (l : List Str) : Prop := l.length ≤ P.length ∧ ∀ y, y ∈ l ↔ (y = x ∨ Way (EP P) x y)
theorem BegPost.order {P : Parts} {x : Str} {l : List Str} (h : BegPost P [] x l) : OrderOf P x l := by
  refine ⟨nm_len h.nd h.nm, fun y => ⟨fun hy => (h.new y hy (fun q => nomatch q)).1, fun hy => ?_⟩⟩
  rcases hy with rfl | hy
  · exact h.mem
  · have : ∀ {a c : Str}, Way (EP P) a c → a ∈ l → c ∈ l := fun {a c} q => by
      induction q with
      | one e => exact fun ha => (h.new _ ha (fun q => nomatch q)).2 _ e
      | more e _ ih => exact fun ha => ih ((h.new _ ha (fun q => nomatch q)).2 _ e)
    exact this hy h.mem
def spOrder : Sp := fun vs H Q _ => ∃ (v : V) (x : Str) (P : Parts), vs = [v, .str x] ∧ PartsAt H v P ∧ PGood P ∧ x ∈ namesOf P ∧ ∀ H' p l, Same H H' → H' p = some (.tup (txs l)) → OrderOf P x l → Q (.ref p) H'
abbrev n_order : List Str := ["parts", "root", "begun"]
abbrev p_order : List Str := ["parts", "root"]
theorem sc_order : FnScope n_order p_order (defScope s_order) := ⟨rfl, rfl, rfl, by decide +kernel, rfl, by decide +kernel, by decide +kernel⟩
theorem ok_order {f f1 : Addr} {fd fd1 : FuncData} (F : Fun K "order" "order" s_order f fd) (B : Bi mg) (c_begin : Here P w K mg base "begin" 13 f1 fd1 p_begin (spBegin 9)) : FnOk P w K mg base CX0 14 f fd p_order spOrder := by
  refine F.ok sc_order (fun vs H Q E h => ?_) (fun cdv A outer s H vs Q E hr h => ?_)
  · obtain ⟨v, x, P, rfl, _⟩ := h
    rfl
  obtain ⟨v, x, P, rfl, hP, g, hx, k⟩ := h
  refine ⟨_, (pss_cons (ps_set (i := 2) sc_order.nd rfl (Or.inl rfl) (pe_lst pa_nil))
        (pss_cons (ps_expr (pe_call c_begin.ok (hr.mono (by decide)) rfl c_begin.mgx c_begin.kp c_begin.b .nil pass0 (pa_cons (pv 0) (pa_cons (pv 1) (pa_cons (pv 2) pa_nil)))))
        (pss_one (ps_ret (pe_callTy call_tuple_of (by rfl) B.tuple (by decide +kernel) (pa_cons (pv 2) pa_nil)))))), ?_⟩
  refine ⟨Nat.zero_le _, fun L hL => ?_⟩
  have hs0 := Same.new hL (.lst [])
  refine ⟨_, rfl, _, rfl, _, rfl, v, x, L, P, [], rfl, upd_same, hP.same hs0, g, hx, List.Pairwise.nil, (fun y h => nomatch h), by have := g.len; simp; omega, fun H' b' kk hb bp => ?_⟩
  refine ⟨_, rfl, L, _, rfl, .inl ⟨SqL.of hb, fun l hl => ?_⟩⟩
  have hs1 : Same H H' := kk.same hs0 hL
  exact k _ l b' (hs1.upd (hs1.free hl) _) upd_same bp.order
end
end Bh
namespace Bh
open PySem L2
/-! ### numbers as sets -/
theorem iand (a b : Nat) : Builtin.bitAnd (a : Int) (b : Int) = ((a &&& b : Nat) : Int) := by
  rw [PyProof.Rows.bitAnd_pp (by omega) (by omega), Int.toNat_natCast, Int.toNat_natCast]
theorem ior (a b : Nat) : Builtin.bitOr (a : Int) (b : Int) = ((a ||| b : Nat) : Int) := by
  rw [PyProof.Rows.bitOr_and, iand]
  have := PyProof.Rows.nat_or_add_and a b
  omega
theorem ixor (a b : Nat) : Builtin.bitXor (a : Int) (b : Int) = ((a ^^^ b : Nat) : Int) := by
  have h : Builtin.bitXor (a : Int) (b : Int) = Builtin.bitOr (a : Int) (b : Int) - Builtin.bitAnd (a : Int) (b : Int) := rfl
  rw [h, ior, iand]
  have h1 := PyProof.Rows.nat_or_add_and a b
  have h2 := Bits.nat_xor_add_and a b
  omega
theorem two_pow_int (n : Nat) : ((2 ^ n : Nat) : Int) = (2 : Int) ^ n := by
  induction n with
  | zero => rfl
  | succ n ih => rw [Nat.pow_succ, Int.pow_succ, ← ih]; omega
theorem ints_len (l : List Nat) : (intsOf l).length = l.length := List.length_map _
theorem ints_snoc (l : List Nat) (n : Nat) : intsOf l ++ [V.int (n : Int)] = intsOf (l ++ [n]) := by
  unfold intsOf
  rw [List.map_append]; rfl
theorem getD_at {l : List Nat} {i : Nat} (h : i < l.length) : l[i]? = some (l.getD i 0) := by
  rw [List.getD_eq_getElem?_getD, List.getElem?_eq_getElem h]; rfl
theorem ints_at {l : List Nat} {i : Nat} (h : i < l.length) : (intsOf l)[i]? = some (.int ((l.getD i 0 : Nat) : Int)) := by
  unfold intsOf
  rw [List.getElem?_map, getD_at h]; rfl
theorem ints_atI {l : List Nat} {i : Nat} (h : i < l.length) : atI (intsOf l) (i : Int) = some (.int ((l.getD i 0 : Nat) : Int)) := atI_nat (ints_at h)
theorem ints_get {l : List Nat} {i : Nat} {v : V} (h : (intsOf l)[i]? = some v) : i < l.length ∧ v = .int ((l.getD i 0 : Nat) : Int) := by
  have hi : i < l.length := by
    have := (List.getElem?_eq_some_iff.mp h).1
    rwa [ints_len] at this
  rw [ints_at hi] at h
  exact ⟨hi, (Option.some.inj h).symm⟩
theorem and_bit {w i : Nat} : (w &&& 2 ^ i = 0) ↔ ¬ w.testBit i = true := by
  constructor
  · intro h q
    have := congrArg (fun n => Nat.testBit n i) h
    simp only [Nat.testBit_and, Nat.testBit_two_pow, q, Nat.zero_testBit] at this
    simp at this
  · intro h
    refine Nat.eq_of_testBit_eq fun j => ?_
    rw [Nat.testBit_and, Nat.testBit_two_pow, Nat.zero_testBit]
    by_cases e : i = j
    · subst e; simp [h]
    · simp [e]
/-! ### what onward, last_part, last_parts give -/
def AhL (P : Parts) (t : List Str) (ahl : List Nat) : Prop := ahl.length = t.length ∧ ∀ i x, t[i]? = some x → ∀ j, (ahl.getD i 0).testBit j = true ↔ ∃ y, t[j]? = some y ∧ y ∈ bringsOf P x
theorem AhL.uniq {P : Parts} {t : List Str} {a b : List Nat} (h : AhL P t a) (h' : AhL P t b) : a = b := by
  refine List.ext_getElem (h.1.trans h'.1.symm) fun i h1 h2 => ?_
  have hi : i < t.length := by rw [← h.1]; exact h1
  have q := h.2 i _ (List.getElem?_eq_getElem hi)
  have q' := h'.2 i _ (List.getElem?_eq_getElem hi)
  have e1 : a[i] = a.getD i 0 := by rw [List.getD_eq_getElem?_getD, List.getElem?_eq_getElem h1]; rfl
  have e2 : b[i] = b.getD i 0 := by rw [List.getD_eq_getElem?_getD, List.getElem?_eq_getElem h2]; rfl
  rw [e1, e2]
  refine Nat.eq_of_testBit_eq fun j => ?_
  rw [Bool.eq_iff_iff, q, q']
theorem getD_get {t : List Str} {i : Nat} (h : i < t.length) : t[i]? = some (t.getD i default) := by
  rw [List.getD_eq_getElem?_getD, List.getElem?_eq_getElem h]; rfl
theorem AhL.ahOf {P : Parts} {t : List Str} {a : List Nat} (g : PGood P) (ht : ∀ x, x ∈ t → x ∈ namesOf P) (h : AhL P t a) : AhOf (EP P) t fun i => a.getD i 0 := by
  intro i j hi hj
  rw [h.2 i _ (getD_get hi) j, ← mem_brings g (ht _ (List.mem_of_getElem? (getD_get hi)))]
  constructor
  · rintro ⟨y, hy, hm⟩
    rw [getD_get hj] at hy
    cases hy
    exact hm
  · exact fun hm => ⟨_, getD_get hj, hm⟩
def valAt (n : Nat) (ahl least : List Nat) (w i : Nat) : Nat := least.getD (w ^^^ 2 ^ i) 0 + pop n (ahl.getD i 0 &&& (w ^^^ 2 ^ i))
def LastOf (n : Nat) (ahl least : List Nat) (w c i : Nat) : Prop := i < n ∧ w.testBit i = true ∧ c = valAt n ahl least w i ∧ ∀ j, j < n → w.testBit j = true → c ≤ valAt n ahl least w j
theorem LastOf.ext {n : Nat} {ahl least least' : List Nat} {w c i : Nat} (h : LastOf n ahl least w c i) (e : ∀ k, k < w → least'.getD k 0 = least.getD k 0) : LastOf n ahl least' w c i := by
  obtain ⟨h1, h2, h3, h4⟩ := h
  have q : ∀ j, w.testBit j = true → valAt n ahl least' w j = valAt n ahl least w j := fun j hj => by
    unfold valAt
    rw [e _ (xor_lt hj)]
  exact ⟨h1, h2, by rw [q i h2]; exact h3, fun j hj hb => by rw [q j hb]; exact h4 j hj hb⟩
abbrev bfst (best : List (Nat × Nat)) : List Nat := best.map (·.1)
def bget (best : List (Nat × Nat)) (w : Nat) : Nat × Nat := best.getD w (0, 0)
theorem bget_at {best : List (Nat × Nat)} {w : Nat} (h : w < best.length) : best[w]? = some (bget best w) := by
  unfold bget
  rw [List.getD_eq_getElem?_getD, List.getElem?_eq_getElem h]; rfl
theorem bfst_get {best : List (Nat × Nat)} {w : Nat} (h : w < best.length) : (bfst best).getD w 0 = (bget best w).1 := by
  rw [List.getD_eq_getElem?_getD, List.getElem?_map, bget_at h]; rfl
theorem bget_app {best : List (Nat × Nat)} {p : Nat × Nat} {w : Nat} (h : w < best.length) : bget (best ++ [p]) w = bget best w := by
  unfold bget
  rw [List.getD_eq_getElem?_getD, List.getElem?_append_left h, List.getD_eq_getElem?_getD]
theorem bget_last {best : List (Nat × Nat)} {p : Nat × Nat} : bget (best ++ [p]) best.length = p := by
  unfold bget
  rw [List.getD_eq_getElem?_getD, List.getElem?_append_right (Nat.le_refl _)]
  simp
/-- the table up to m sets -/
def BestTo (n : Nat) (ahl : List Nat) (best : List (Nat × Nat)) (m : Nat) : Prop := best.length = m ∧ bget best 0 = (0, 0) ∧ ∀ w, 0 < w → w < m → LastOf n ahl (bfst best) w (bget best w).1 (bget best w).2
theorem BestTo.step {n : Nat} {ahl : List Nat} {best : List (Nat × Nat)} {m c i : Nat} (h : BestTo n ahl best m) (hm : 0 < m) (q : LastOf n ahl (bfst best) m c i) : BestTo n ahl (best ++ [(c, i)]) (m + 1) := by
  obtain ⟨h1, h2, h3⟩ := h
  have ex : ∀ k, k < m → (bfst (best ++ [(c, i)])).getD k 0 = (bfst best).getD k 0 := fun k hk => by
    rw [bfst_get (by simp; omega), bfst_get (by omega), bget_app (by omega)]
  refine ⟨by simp [h1], by rw [bget_app (by omega)]; exact h2, fun w hw hwm => ?_⟩
  by_cases e : w = m
  · subst e
    have e2 : bget (best ++ [(c, i)]) w = (c, i) := by
      have := bget_last (best := best) (p := (c, i))
      rw [h1] at this
      exact this
    rw [e2]
    exact q.ext ex
  · have hlt : w < m := by omega
    rw [bget_app (by omega)]
    exact (h3 w hw hlt).ext fun k hk => ex k (by omega)
theorem BestTo.isBest {n : Nat} {ahl : List Nat} {best : List (Nat × Nat)} (h : BestTo n ahl best (2 ^ n)) : IsBest n (fun i => ahl.getD i 0) (fun w => (bget best w).1) (fun w => (bget best w).2) := by
  obtain ⟨h1, h2, h3⟩ := h
  have vl : ∀ w i, w < 2 ^ n → w.testBit i = true → valAt n ahl (bfst best) w i = (bget best (w ^^^ 2 ^ i)).1 + pop n (ahl.getD i 0 &&& (w ^^^ 2 ^ i)) := fun w i hw hb => by
    unfold valAt
    rw [bfst_get (by rw [h1]; exact Nat.lt_trans (xor_lt hb) hw)]
  exact ⟨by show (bget best 0).1 = 0; rw [h2], fun w a b => (h3 w a b).1, fun w a b => (h3 w a b).2.1, fun w a b => by
      have q := (h3 w a b).2.2.1
      rw [vl w _ b (h3 w a b).2.1] at q
      exact q, fun w a b i hi hb => by
      have q := (h3 w a b).2.2.2 i hi hb
      rw [vl w _ b hb] at q
      exact q⟩
/-- pairs of numbers, of texts, as they lie in the heap -/
def NPairAt (H : Hp) (v : V) (c : Nat × Nat) : Prop := ∃ a, v = .ref a ∧ H a = some (.tup [.int (c.1 : Int), .int (c.2 : Int)])
def PairAt (H : Hp) (v : V) (c : Str × Str) : Prop := ∃ a, v = .ref a ∧ H a = some (.tup [.str c.1, .str c.2])
theorem NPairAt.keep {H H' : Hp} (s : TSame H H') {v : V} {c : Nat × Nat} : NPairAt H v c → NPairAt H' v c
  | ⟨a, h1, h2⟩ => ⟨a, h1, s _ _ h2⟩
theorem PairAt.keep {H H' : Hp} (s : TSame H H') {v : V} {c : Str × Str} : PairAt H v c → PairAt H' v c
  | ⟨a, h1, h2⟩ => ⟨a, h1, s _ _ h2⟩
section
variable {P : Program} {w : World} {K : PySem.W.Frag} {mg : Str → Option Value} {base : Heap}
/-! ### onward -/
def TangleAt (P : Parts) (H : Hp) (v : V) (t : List Str) : Prop := StrsT H v t ∧ t.Nodup ∧ ∀ x, x ∈ t → x ∈ namesOf P
theorem TangleAt.len {P : Parts} {H : Hp} {v : V} {t : List Str} (h : TangleAt P H v t) (g : PGood P) : t.length ≤ 8 := Nat.le_trans (nm_len h.2.1 h.2.2) g.len
theorem TangleAt.keep {P : Parts} {H H' : Hp} (s : TSame H H') {v : V} {t : List Str} (h : TangleAt P H v t) : TangleAt P H' v t := ⟨h.1.keep s, h.2⟩
def spOnward : Sp := fun vs H Q _ => ∃ (v u : V) (P : Parts) (t : List Str), vs = [v, u] ∧ PartsAt H v P ∧ PGood P ∧ TangleAt P H u t ∧ ∀ H' p ahl, Same H H' → H' p = some (.lst (intsOf ahl)) → AhL P t ahl → Q (.ref p) H'
abbrev n_onward : List Str := ["parts", "tangle", "found", "part", "others", "bits", "bit", "other"]
abbrev p_onward : List Str := ["parts", "tangle"]
theorem sc_onward : FnScope n_onward p_onward (defScope s_onward) := ⟨rfl, rfl, rfl, by decide +kernel, rfl, by decide +kernel, by decide +kernel⟩
theorem ok_onward {f f1 : Addr} {fd fd1 : FuncData} (F : Fun K "onward" "onward" s_onward f fd) (B : Bi mg) (c_brings : Here P w K mg base "brings" 3 f1 fd1 p_brings (spBringsBy [])) : FnOk P w K mg base CX0 4 f fd p_onward spOnward := by
  refine F.ok sc_onward (fun vs H Q E h => ?_) (fun cdv A outer s H vs Q E hr h => ?_)
  · obtain ⟨v, u, P, t, rfl, _⟩ := h
    rfl
  obtain ⟨v, u, P, t, rfl, hP, g, hT, k⟩ := h
  have hlen := hT.len g
  obtain ⟨⟨a, rfl, ha⟩, hnd, hnm⟩ := hT
  refine ⟨_, (pss_cons (ps_set (i := 2) sc_onward.nd rfl (Or.inl rfl) (pe_lst pa_nil))
        (pss_cons (ps_for PassesOwn.never rfl (pi_tup (pv 1)) (pg_name (i := 3) sc_onward.nd rfl (Or.inl rfl)) (pss_cons (ps_set (i := 4) sc_onward.nd rfl (Or.inl rfl) (pe_call c_brings.ok (hr.mono (by decide)) rfl c_brings.mgx c_brings.kp c_brings.b .nil pass0 (pa_cons (pv 0) (pa_cons (pv 3) pa_nil))))
          (pss_cons (ps_set (i := 5) sc_onward.nd rfl (Or.inl rfl) pe_int)
          (pss_cons (ps_set (i := 6) sc_onward.nd rfl (Or.inl rfl) pe_int)
          (pss_cons (ps_for PassesOwn.never rfl (pi_tup (pv 1)) (pg_name (i := 7) sc_onward.nd rfl (Or.inl rfl)) (pss_cons (ps_if (pt_cmpR op_in_seq (pv 7) (pv 4) (by rfl)) (pss_one (ps_set (i := 5) sc_onward.nd rfl (Or.inl rfl) (pe_op op_or (pv 5) (pv 6)))) pss_nil)
            (pss_one (ps_set (i := 6) sc_onward.nd rfl (Or.inl rfl) (pe_op op_shl (pv 6) pe_int)))))
          (pss_one (ps_expr (pe_bm PySem.F.plainAttrs_list PySem.F.slot_list_append PySem.F.type_list_append mt_append (pv 2) (pa_cons (pv 5) pa_nil)))))))))
        (pss_one (ps_ret (pv 2))))), ?_⟩
  refine ⟨Nat.zero_le _, fun D hD => ?_⟩
  have hs0 : Same H (upd H D (.lst [])) := Same.new hD _
  refine ⟨_, rfl, a, rfl, ⟨_, SqT.of (hs0 _ _ ha)⟩, for_tup (K := K) (a := a) (xs := txs t) (fun i σ H' => ∃ (c1 c2 c3 c4 c5 : Option V) (al : List Nat), σ = [some v, some (.ref a), some (.ref D), c1, c2, c3, c4, c5] ∧ Same H H' ∧ H' D = some (.lst (intsOf al)) ∧ al.length = i ∧
      ∀ i' x, i' < i → t[i']? = some x → ∀ j, (al.getD i' 0).testBit j = true ↔ ∃ y, t[j]? = some y ∧ y ∈ bringsOf P x)
    ⟨none, none, none, none, none, [], rfl, hs0, upd_same, rfl, fun i' x h => absurd h (Nat.not_lt_zero _)⟩ (fun i σ H' _ ⟨_, _, _, _, _, _, _, s, _⟩ => SqT.of (s _ _ ha)) ?_ ?_⟩
  · rintro i y σ H' hi ⟨c1, c2, c3, c4, c5, al, rfl, hs, hL, hal, hsp⟩
    obtain ⟨x, hx, rfl⟩ := txs_get hi
    have hxn := hnm x (List.mem_of_getElem? hx)
    refine ⟨_, rfl, _, rfl, v, x, P, rfl, hP.same hs, g, hxn, fun H1 b s1 hb => ?_⟩
    have hs1 := hs.trans s1
    have hL1 : H1 D = some (.lst (intsOf al)) := s1 _ _ hL
    have hil : i < t.length := (List.getElem?_eq_some_iff.mp hx).1
    refine ⟨_, rfl, a, rfl, ⟨_, SqT.of (hs1 _ _ ha)⟩, for_tup (K := K) (a := a) (xs := txs t) (fun j σ H' => ∃ (v1 v2 : V) (c5 : Option V) (N : Nat), σ = [some v, some (.ref a), some (.ref D), some (.str x), some (.ref b), some v1, some v2, c5] ∧ H' = H1 ∧ v1 = .int (N : Nat) ∧ v2 = .int ((2 ^ j : Nat) : Int) ∧
        ∀ m, N.testBit m = true ↔ m < j ∧ ∃ y, t[m]? = some y ∧ y ∈ bringsOf P x)
      ⟨_, _, _, 0, rfl, rfl, rfl, rfl, fun m => ⟨fun h => by rw [Nat.zero_testBit] at h; (cases h), fun h => absurd h.1 (Nat.not_lt_zero _)⟩⟩ (fun j σ H' _ ⟨_, _, _, _, _, e, _⟩ => by rw [e]; exact SqT.of (hs1 _ _ ha)) ?_ ?_⟩
    · rintro j y' σ H' hj ⟨_, _, c5, N, rfl, rfl, rfl, rfl, hN⟩
      obtain ⟨o, ho, rfl⟩ := txs_get hj
      have hjl : j < t.length := (List.getElem?_eq_some_iff.mp ho).1
      have hj8 : (2 : Nat) ^ j ≤ 2 ^ 8 := Nat.pow_le_pow_right (by decide) (by omega)
      have e2 : ((2 ^ j : Nat) : Int) * 2 ^ (1 : Int).toNat = ((2 ^ (j + 1) : Nat) : Int) := by
        show ((2 ^ j : Nat) : Int) * 2 ^ (1 : Nat) = _
        rw [Nat.pow_succ]; omega
      have cp : (0 : Int) ≤ 1 ∧ (1 : Int) ≤ 1000000 ∧ ((2 ^ j : Nat) : Int).natAbs < 2 ^ 64 := ⟨by decide, by decide, by
        rw [Int.natAbs_natCast]
        exact Nat.lt_of_le_of_lt hj8 (by decide)⟩
      refine ⟨_, rfl, _, rfl, b, _, rfl, .inr (SqT.of hb), rfl, flat_txs _, _, rfl, ?_⟩
      rw [if_neg Bool.false_ne_true, inV_txs]
      refine ite2 (fun q => ?_) (fun q => ?_)
      · have q' : o ∈ bringsOf P x := of_decide_eq_true q
        refine ⟨_, rfl, _, rfl, _, _, rfl, rfl, ?_⟩
        refine ⟨_, rfl, _, _, rfl, rfl, cp, ?_⟩
        refine ⟨_, _, _, N ||| 2 ^ j, rfl, rfl, congrArg V.int (ior N (2 ^ j)), congrArg V.int e2, fun m => ?_⟩
        rw [Nat.testBit_or, Bool.or_eq_true, hN, Nat.testBit_two_pow, decide_eq_true_eq]
        constructor
        · rintro (⟨h1, h2⟩ | h)
          · exact ⟨by omega, h2⟩
          · subst h; exact ⟨by omega, o, ho, q'⟩
        · rintro ⟨h1, h2⟩
          by_cases e : j = m
          · exact .inr e
          · exact .inl ⟨by omega, h2⟩
      · have q' : ¬ o ∈ bringsOf P x := fun h => q (decide_eq_true h)
        refine ⟨_, rfl, _, _, rfl, rfl, cp, ?_⟩
        refine ⟨_, _, _, N, rfl, rfl, rfl, congrArg V.int e2, fun m => ?_⟩
        rw [hN]
        constructor
        · rintro ⟨h1, h2⟩
          exact ⟨by omega, h2⟩
        · rintro ⟨h1, y, h2, h3⟩
          refine ⟨?_, y, h2, h3⟩
          by_cases e : j = m
          · subst e
            rw [ho] at h2
            cases h2
            exact absurd h3 q'
          · omega
    · rintro σ H' ⟨_, _, c5, N, rfl, rfl, rfl, rfl, hN⟩
      refine ⟨_, rfl, .inl ⟨rfl, _, SqL.of hL1⟩, _, rfl, D, _, _, rfl, rfl, hL1, by rw [ints_len]; exact line_lt (by omega), ?_⟩
      rw [ints_snoc]
      refine ⟨_, _, _, _, _, al ++ [N], rfl, hs1.upd hD _, upd_same, by simp [hal], fun i' x' hi' hx' m => ?_⟩
      by_cases e : i' = i
      · subst e
        rw [hx] at hx'
        cases hx'
        have e1 : (al ++ [N]).getD i' 0 = N := by
          rw [List.getD_eq_getElem?_getD, List.getElem?_append_right (by omega), hal]; simp
        rw [e1, hN, txs_len]
        exact ⟨fun h => h.2, fun ⟨y, h1, h2⟩ => ⟨(List.getElem?_eq_some_iff.mp h1).1, y, h1, h2⟩⟩
      · have e1 : (al ++ [N]).getD i' 0 = al.getD i' 0 := by
          rw [List.getD_eq_getElem?_getD, List.getElem?_append_left (by omega), List.getD_eq_getElem?_getD]
        rw [e1]
        exact hsp i' x' (by omega) hx' m
  · rintro σ H' ⟨c1, c2, c3, c4, c5, al, rfl, hs, hL, hal, hsp⟩
    rw [txs_len] at hal hsp
    exact ⟨_, rfl, k H' D al hs hL ⟨hal, fun i x hx j => hsp i x (List.getElem?_eq_some_iff.mp hx).1 hx j⟩⟩
end
end Bh
namespace Bh
open PySem L2
section
variable {P : Program} {w : World} {K : PySem.W.Frag} {mg : Str → Option Value} {base : Heap}
/-! ### last_part -/
def spLast : Sp := fun vs H Q _ => ∃ (n w : Nat) (A L : Addr) (ahl least : List Nat), vs = [.int (w : Int), .ref A, .ref L] ∧ H A = some (.lst (intsOf ahl)) ∧ H L = some (.lst (intsOf least)) ∧ ahl.length = n ∧ n ≤ 8 ∧ 0 < w ∧ w < 2 ^ n ∧ least.length = w ∧
  ∀ H' p c i, Same H H' → H' p = some (.tup [.int (c : Nat), .int (i : Nat)]) → LastOf n ahl least w c i → Q (.ref p) H'
abbrev n_last_part : List Str := ["whole", "ahead", "least", "found", "bit", "number", "rest", "here"]
abbrev p_last_part : List Str := ["whole", "ahead", "least"]
theorem sc_last_part : FnScope n_last_part p_last_part (defScope s_last_part) := ⟨rfl, rfl, rfl, by decide +kernel, rfl, by decide +kernel, by decide +kernel⟩
theorem ok_last_part {f f1 : Addr} {fd fd1 : FuncData} (F : Fun K "last_part" "last_part" s_last_part f fd) (B : Bi mg) (c_bits_of : Here P w K mg base "bits_of" 1 f1 fd1 p_bits_of spBits) : FnOk P w K mg base CX0 2 f fd p_last_part spLast := by
  refine F.ok sc_last_part (fun vs H Q E h => ?_) (fun cdv A outer s H vs Q E hr h => ?_)
  · obtain ⟨n, w, A, L, ahl, least, rfl, _⟩ := h
    rfl
  obtain ⟨n, w, A, L, ahl, least, rfl, hA, hL, hn, hn8, hw0, hwn, hll, k⟩ := h
  refine ⟨_, (pss_cons (ps_set (i := 3) sc_last_part.nd rfl (Or.inl rfl) pe_non)
        (pss_cons (ps_set (i := 4) sc_last_part.nd rfl (Or.inl rfl) pe_int)
        (pss_cons (ps_for PassesOwn.never rfl (pi_range1 (by rfl) B.range (pa_cons (pe_callB call_len_seq (by rfl) B.len (by decide +kernel) (pa_cons (pv 1) pa_nil)) pa_nil)) (pg_name (i := 5) sc_last_part.nd rfl (Or.inl rfl)) (pss_cons (ps_if (pt_cmpR op_ne (pe_op op_and (pv 0) (pv 4)) pe_int (nomark _)) (pss_cons (ps_set (i := 6) sc_last_part.nd rfl (Or.inl rfl) (pe_op op_xor (pv 0) (pv 4)))
            (pss_cons (ps_set (i := 7) sc_last_part.nd rfl (Or.inl rfl) (pe_op op_add (pe_ix ix_list (pv 2) (pv 6) (fun _ _ => rfl)) (pe_call c_bits_of.ok (hr.mono (by decide)) rfl c_bits_of.mgx c_bits_of.kp c_bits_of.b .nil pass0 (pa_cons (pe_op op_and (pe_ix ix_list (pv 1) (pv 5) (fun _ _ => rfl)) (pv 6)) pa_nil))))
            (pss_one (ps_if (PW.pt (pw_or (pt_cmp (pc_isN (pv 3))) (pw_or1 (pt_cmpR op_lt (pv 7) (pe_ix ix_tup (pv 3) pe_int (fun _ _ => rfl)) (nomark _))))) (pss_one (ps_set (i := 3) sc_last_part.nd rfl (Or.inl rfl) (pe_tup (pa_cons (pv 7) (pa_cons (pv 5) pa_nil))))) pss_nil)))) pss_nil)
          (pss_one (ps_set (i := 4) sc_last_part.nd rfl (Or.inl rfl) (pe_op op_shl (pv 4) pe_int)))))
        (pss_one (ps_ret (pv 3)))))), ?_⟩
  have elen : ((intsOf ahl).length : Int) = (n : Int) := by rw [ints_len, hn]
  refine ⟨_, rfl, A, _, rfl, .inl (SqL.of hA), _, rfl, by rw [elen]; omega, by rw [elen]; omega, for_range (lo := 0) (n := (((intsOf ahl).length : Nat) : Int).toNat)
    (fun i σ H' => ∃ (fv v2 : V) (c1 c2 c3 : Option V), σ = [some (.int (w : Int)), some (.ref A), some (.ref L), some fv, some v2, c1, c2, c3] ∧ Same H H' ∧ v2 = .int ((2 ^ i : Nat) : Int) ∧
      ((fv = .non ∧ ∀ j, j < i → ¬ w.testBit j = true) ∨ ∃ (p : Addr) (c m : Nat), fv = .ref p ∧ H' p = some (.tup [.int (c : Int), .int (m : Int)]) ∧ m < n ∧ w.testBit m = true ∧ c = valAt n ahl least w m ∧ ∀ j, j < i → w.testBit j = true → c ≤ valAt n ahl least w j))
    ⟨_, _, none, none, none, rfl, Same.refl _, rfl, .inl ⟨rfl, fun j h => absurd h (Nat.not_lt_zero _)⟩⟩ ?_ ?_⟩
  · rintro i σ H' hi ⟨fv, _, c1, c2, c3, rfl, hs, rfl, hf⟩
    have hi' : i < n := by rw [Int.toNat_natCast, ints_len, hn] at hi; exact hi
    have hj8 : (2 : Nat) ^ i ≤ 2 ^ 8 := Nat.pow_le_pow_right (by decide) (by omega)
    have e2 : ((2 ^ i : Nat) : Int) * 2 ^ (1 : Int).toNat = ((2 ^ (i + 1) : Nat) : Int) := by
      show ((2 ^ i : Nat) : Int) * 2 ^ (1 : Nat) = _
      rw [Nat.pow_succ]; omega
    have cp : (0 : Int) ≤ 1 ∧ (1 : Int) ≤ 1000000 ∧ ((2 ^ i : Nat) : Int).natAbs < 2 ^ 64 := ⟨by decide, by decide, by
      rw [Int.natAbs_natCast]
      exact Nat.lt_of_le_of_lt hj8 (by decide)⟩
    have ei : (0 : Int) + (i : Int) = (i : Int) := Int.zero_add _
    refine ⟨_, rfl, _, rfl, _, _, rfl, rfl, rfl, _, rfl, ?_⟩
    refine ite2 (fun q => ?_) (fun q => ?_)
    · have hb : w.testBit i = true := by
        refine Classical.byContradiction fun nb => ?_
        have e0 := and_bit.mpr nb
        have : decide (V.int (Builtin.bitAnd (w : Int) ((2 ^ i : Nat) : Int)) = V.int 0) = true := decide_eq_true (by rw [iand, e0]; rfl)
        have q' : (!decide (V.int (Builtin.bitAnd (w : Int) ((2 ^ i : Nat) : Int)) = V.int 0)) = true := q
        rw [this] at q'
        cases q'
      have hx : w ^^^ 2 ^ i < w := xor_lt hb
      -- rest = whole ^ bit
      refine ⟨_, rfl, _, rfl, _, _, rfl, rfl, ?_⟩
      -- here = least[rest] + bits_of(ahead[number] & rest)
      have er : Builtin.bitXor (w : Int) ((2 ^ i : Nat) : Int) = ((w ^^^ 2 ^ i : Nat) : Int) := ixor _ _
      have h1 : atI (intsOf least) (Builtin.bitXor (w : Int) ((2 ^ i : Nat) : Int)) = some (.int ((least.getD (w ^^^ 2 ^ i) 0 : Nat) : Int)) := by
        rw [er]; exact ints_atI (by omega)
      have h2 : atI (intsOf ahl) ((0 : Int) + (i : Int)) = some (.int ((ahl.getD i 0 : Nat) : Int)) := by
        rw [ei]; exact ints_atI (by omega)
      have ea : Builtin.bitAnd ((ahl.getD i 0 : Nat) : Int) (Builtin.bitXor (w : Int) ((2 ^ i : Nat) : Int)) = ((ahl.getD i 0 &&& (w ^^^ 2 ^ i) : Nat) : Int) := by rw [er, iand]
      have hlt : ahl.getD i 0 &&& (w ^^^ 2 ^ i) < 2 ^ n := Nat.lt_of_le_of_lt Nat.and_le_right (Nat.lt_trans hx hwn)
      refine ⟨_, rfl, _, rfl, L, _, _, _, rfl, rfl, SqL.of (hs _ _ hL), h1, _, rfl, _, rfl, A, _, _, _, rfl, rfl, SqL.of (hs _ _ hA), h2, _, rfl, _, _, rfl, rfl, n, _, congrArg (fun z => [V.int z]) ea, hlt, fun H1 s1 => ?_⟩
      have hs1 := hs.trans s1
      refine ⟨_, _, rfl, rfl, ?_⟩
      have ec : ((least.getD (w ^^^ 2 ^ i) 0 : Nat) : Int) + ((pop n (ahl.getD i 0 &&& (w ^^^ 2 ^ i)) : Nat) : Int) = ((valAt n ahl least w i : Nat) : Int) := by
        unfold valAt; omega
      -- the tuple is laid
      have lay : ∀ (hge : ∀ j, j < i → w.testBit j = true → valAt n ahl least w i ≤ valAt n ahl least w j), ∀ p, H1 p = Option.none → ∀ (x3 : Option V), ∃ (fv v2 : V) (c1 c2 c3 : Option V),
          [some (.int (w : Int)), some (.ref A), some (.ref L), some (.ref p), some (.int (((2 ^ i : Nat) : Int) * 2 ^ (1 : Int).toNat)), some (.int ((0 : Int) + (i : Int))), some (.int (Builtin.bitXor (w : Int) ((2 ^ i : Nat) : Int))), x3] = [some (.int (w : Int)), some (.ref A), some (.ref L), some fv, some v2, c1, c2, c3] ∧
          Same H (upd H1 p (.tup [.int (((least.getD (w ^^^ 2 ^ i) 0 : Nat) : Int) + ((pop n (ahl.getD i 0 &&& (w ^^^ 2 ^ i)) : Nat) : Int)), .int ((0 : Int) + (i : Int))])) ∧ v2 = .int ((2 ^ (i + 1) : Nat) : Int) ∧
          ((fv = .non ∧ ∀ j, j < i + 1 → ¬ w.testBit j = true) ∨ ∃ (p' : Addr) (c m : Nat), fv = .ref p' ∧ (upd H1 p (.tup [.int (((least.getD (w ^^^ 2 ^ i) 0 : Nat) : Int) + ((pop n (ahl.getD i 0 &&& (w ^^^ 2 ^ i)) : Nat) : Int)), .int ((0 : Int) + (i : Int))])) p' = some (.tup [.int (c : Int), .int (m : Int)]) ∧ m < n ∧ w.testBit m = true ∧ c = valAt n ahl least w m ∧ ∀ j, j < i + 1 → w.testBit j = true → c ≤ valAt n ahl least w j) := fun hge p hp x3 => by
        refine ⟨_, _, _, _, _, rfl, hs1.upd (hs1.free hp) _, congrArg V.int e2, .inr ⟨p, valAt n ahl least w i, i, rfl, ?_, hi', hb, rfl, fun j hj hbj => ?_⟩⟩
        · rw [upd_same, ec, ei]
        · by_cases e : j = i
          · subst e; exact Nat.le_refl _
          · exact hge j (by omega) hbj
      rcases hf with ⟨rfl, hno⟩ | ⟨p0, c, m, rfl, hp0, hm, hbm, hc, hle⟩
      · refine ⟨_, rfl, _, rfl, iteT (iteT ?_)⟩
        refine ⟨_, rfl, _, rfl, (by show 2 ≤ sizeLine; decide), fun p hp => ?_⟩
        refine ⟨_, rfl, _, _, rfl, rfl, cp, ?_⟩
        exact lay (fun j hj hbj => absurd hbj (hno j hj)) p hp _
      · refine ⟨_, rfl, _, rfl, iteF ?_⟩
        refine ⟨_, rfl, _, rfl, p0, _, _, _, rfl, rfl, SqT.of (s1 _ _ hp0), rfl, _, _, rfl, rfl, _, rfl, ?_⟩
        refine ite2 (fun q2 => ?_) (fun q2 => ?_)
        · have q3 : ((least.getD (w ^^^ 2 ^ i) 0 : Nat) : Int) + ((pop n (ahl.getD i 0 &&& (w ^^^ 2 ^ i)) : Nat) : Int) < (c : Int) := of_decide_eq_true q2
          rw [ec] at q3
          refine ⟨_, rfl, _, rfl, (by show 2 ≤ sizeLine; decide), fun p hp => ?_⟩
          refine ⟨_, rfl, _, _, rfl, rfl, cp, ?_⟩
          exact lay (fun j hj hbj => by have := hle j hj hbj; omega) p hp _
        · have q3 : ¬ ((least.getD (w ^^^ 2 ^ i) 0 : Nat) : Int) + ((pop n (ahl.getD i 0 &&& (w ^^^ 2 ^ i)) : Nat) : Int) < (c : Int) := of_decide_eq_false (Bool.eq_false_iff.mpr q2)
          rw [ec] at q3
          refine ⟨_, rfl, _, _, rfl, rfl, cp, ?_⟩
          refine ⟨_, _, _, _, _, rfl, hs1, congrArg V.int e2, .inr ⟨p0, c, m, rfl, s1 _ _ hp0, hm, hbm, hc, fun j hj hbj => ?_⟩⟩
          by_cases e : j = i
          · subst e; omega
          · exact hle j (by omega) hbj
    · have hb : ¬ w.testBit i = true := fun hb => by
        have ne : ¬ (w &&& 2 ^ i = 0) := fun e => and_bit.mp e hb
        have : decide (V.int (Builtin.bitAnd (w : Int) ((2 ^ i : Nat) : Int)) = V.int 0) = false := decide_eq_false fun e => ne (by
          have := V.int.inj e
          rw [iand] at this
          omega)
        exact q (by show (!decide (V.int (Builtin.bitAnd (w : Int) ((2 ^ i : Nat) : Int)) = V.int 0)) = true; rw [this]; rfl)
      refine ⟨_, rfl, _, _, rfl, rfl, cp, ?_⟩
      refine ⟨_, _, _, _, _, rfl, hs, congrArg V.int e2, ?_⟩
      rcases hf with ⟨rfl, hno⟩ | ⟨p0, c, m, rfl, hp0, hm, hbm, hc, hle⟩
      · refine .inl ⟨rfl, fun j hj => ?_⟩
        by_cases e : j = i
        · subst e; exact hb
        · exact hno j (by omega)
      · refine .inr ⟨p0, c, m, rfl, hp0, hm, hbm, hc, fun j hj hbj => ?_⟩
        by_cases e : j = i
        · subst e; exact absurd hbj hb
        · exact hle j (by omega) hbj
  · rintro σ H' ⟨fv, _, c1, c2, c3, rfl, hs, rfl, hf⟩
    rw [Int.toNat_natCast, ints_len, hn] at hf
    rcases hf with ⟨rfl, hno⟩ | ⟨p0, c, m, rfl, hp0, hm, hbm, hc, hle⟩
    · obtain ⟨i, hi, hb⟩ := exists_bit hwn hw0
      exact absurd hb (hno i hi)
    · exact ⟨_, rfl, k H' p0 c m hs hp0 ⟨hm, hbm, hc, hle⟩⟩
end
end Bh
namespace Bh
open PySem L2
theorem np_get {H : Hp} {vs : List V} {best : List (Nat × Nat)} (h : Paired (NPairAt H) vs best) {w : Nat} (hw : w < best.length) : ∃ a, vs[w]? = some (.ref a) ∧ H a = some (.tup [.int ((bget best w).1 : Int), .int ((bget best w).2 : Int)]) := by
  obtain ⟨v, hv, a, rfl, ha⟩ := pget h (bget_at hw)
  exact ⟨a, hv, ha⟩
theorem cutM_le {n : Nat} {ah num : Nat → Nat} : ∀ f w : Nat, (cutM n ah num f w).length ≤ f * n
  | 0, _ => Nat.zero_le _
  | f + 1, w => by
    unfold cutM
    by_cases h : w = 0
    · rw [if_pos h]; exact Nat.zero_le _
    · rw [if_neg h, List.length_append, List.length_map, Nat.succ_mul]
      have h1 := cutM_le (n := n) (ah := ah) (num := num) f (w ^^^ 2 ^ num w)
      have h2 : ((List.range n).filter fun j => (ah (num w) &&& (w ^^^ 2 ^ num w)).testBit j).length ≤ n := pop_le n _
      omega
section
variable {P : Program} {w : World} {K : PySem.W.Frag} {mg : Str → Option Value} {base : Heap}
/-! ### last_parts -/
def spLasts : Sp := fun vs H Q _ => ∃ (v u : V) (P : Parts) (t : List Str), vs = [v, u] ∧ PartsAt H v P ∧ PGood P ∧ TangleAt P H u t ∧
  ∀ H' p vs' best ahl, Same H H' → H' p = some (.lst vs') → Paired (NPairAt H') vs' best → AhL P t ahl → BestTo t.length ahl best (2 ^ t.length) → Q (.ref p) H'
abbrev n_last_parts : List Str := ["parts", "tangle", "ahead", "sets", "part", "least", "found", "whole"]
abbrev p_last_parts : List Str := ["parts", "tangle"]
theorem sc_last_parts : FnScope n_last_parts p_last_parts (defScope s_last_parts) := ⟨rfl, rfl, rfl, by decide +kernel, rfl, by decide +kernel, by decide +kernel⟩
theorem ok_last_parts {f f1 f2 : Addr} {fd fd1 fd2 : FuncData} (F : Fun K "last_parts" "last_parts" s_last_parts f fd) (B : Bi mg) (c_onward : Here P w K mg base "onward" 4 f1 fd1 p_onward spOnward) (c_last_part : Here P w K mg base "last_part" 2 f2 fd2 p_last_part spLast) :
    FnOk P w K mg base CX0 5 f fd p_last_parts spLasts := by
  refine F.ok sc_last_parts (fun vs H Q E h => ?_) (fun cdv A outer s H vs Q E hr h => ?_)
  · obtain ⟨v, u, P, t, rfl, _⟩ := h
    rfl
  obtain ⟨v, u, P, t, rfl, hP, g, hT, k⟩ := h
  have hlen := hT.len g
  obtain ⟨⟨a, rfl, ha⟩, hnd, hnm⟩ := id hT
  obtain ⟨tk, hmost⟩ := B.most
  refine ⟨_, (pss_cons (ps_if (pt_cmpR op_gt (pe_callB call_len_seq (by rfl) B.len (by decide +kernel) (pa_cons (pv 1) pa_nil)) (pe_glob (v := V.int 8) rfl hmost ⟨_, rfl⟩) (nomark _)) (pss_one ps_never) pss_nil)
        (pss_cons (ps_set (i := 2) sc_last_parts.nd rfl (Or.inl rfl) (pe_call c_onward.ok (hr.mono (by decide)) rfl c_onward.mgx c_onward.kp c_onward.b .nil pass0 (pa_cons (pv 0) (pa_cons (pv 1) pa_nil))))
        (pss_cons (ps_set (i := 3) sc_last_parts.nd rfl (Or.inl rfl) pe_int)
        (pss_cons (ps_for PassesOwn.never rfl (pi_tup (pv 1)) (pg_name (i := 4) sc_last_parts.nd rfl (Or.inl rfl)) (pss_one (ps_set (i := 3) sc_last_parts.nd rfl (Or.inl rfl) (pe_op op_mul pe_int (pv 3)))))
        (pss_cons (ps_set (i := 5) sc_last_parts.nd rfl (Or.inl rfl) (pe_lst (pa_cons pe_int pa_nil)))
        (pss_cons (ps_set (i := 6) sc_last_parts.nd rfl (Or.inl rfl) (pe_lst (pa_cons (pe_tup (pa_cons pe_int (pa_cons pe_int pa_nil))) pa_nil)))
        (pss_cons (ps_for PassesOwn.never rfl (pi_range2 (by rfl) B.range (pa_cons pe_int (pa_cons (pv 3) pa_nil))) (pg_name (i := 7) sc_last_parts.nd rfl (Or.inl rfl)) (pss_cons (ps_expr (pe_bm PySem.F.plainAttrs_list PySem.F.slot_list_append PySem.F.type_list_append mt_append (pv 6) (pa_cons (pe_call c_last_part.ok (hr.mono (by decide)) rfl c_last_part.mgx c_last_part.kp c_last_part.b .nil pass0 (pa_cons (pv 7) (pa_cons (pv 2) (pa_cons (pv 5) pa_nil)))) pa_nil)))
          (pss_one (ps_expr (pe_bm PySem.F.plainAttrs_list PySem.F.slot_list_append PySem.F.type_list_append mt_append (pv 5) (pa_cons (pe_ix ix_tup (pe_ix ix_list (pv 6) (pv 7) (fun _ _ => rfl)) pe_int (fun _ _ => rfl)) pa_nil))))))
        (pss_one (ps_ret (pv 6)))))))))), ?_⟩
  refine ⟨_, rfl, a, _, rfl, .inr (SqT.of ha), _, _, rfl, rfl, _, rfl, ?_⟩
  refine ite2 (fun q => ?_) (fun _ => ?_)
  · have q' : (8 : Int) < ((txs t).length : Int) := of_decide_eq_true q
    rw [txs_len] at q'
    exact absurd hlen (by omega)
  refine ⟨_, rfl, _, rfl, v, _, P, t, rfl, hP, g, hT, fun H1 A1 ahl s1 hA1 hAh => ?_⟩
  have hn : ahl.length = t.length := hAh.1
  refine ⟨_, rfl, a, rfl, ⟨_, SqT.of (s1 _ _ ha)⟩, for_tup (K := K) (a := a) (xs := txs t) (fun i σ H' => ∃ (v3 : V) (c : Option V), σ = [some v, some (.ref a), some (.ref A1), some v3, c, none, none, none] ∧ v3 = .int ((2 ^ i : Nat) : Int) ∧ H' = H1)
    ⟨_, none, rfl, rfl, rfl⟩ (fun i σ H' _ ⟨_, _, _, _, e⟩ => by rw [e]; exact SqT.of (s1 _ _ ha)) ?_ ?_⟩
  · rintro i y σ H' hi ⟨_, c, rfl, rfl, rfl⟩
    refine ⟨_, rfl, _, _, rfl, rfl, .inl ⟨by decide, by decide⟩, ?_⟩
    refine ⟨_, _, rfl, congrArg V.int ?_, rfl⟩
    rw [Nat.pow_succ]
    omega
  · rintro σ H' ⟨_, c, rfl, rfl, rfl⟩
    rw [txs_len]
    refine ⟨by show 1 ≤ sizeLine; decide, fun L hL => ?_⟩
    refine ⟨by show 2 ≤ sizeLine; decide, fun z hz => ⟨by show 1 ≤ sizeLine; decide, fun D hD => ?_⟩⟩
    have sL : Same H' (upd H' L (.lst [.int 0])) := Same.new hL _
    have sZ := sL.trans (Same.new hz (.tup [.int 0, .int 0]))
    have sD := sZ.trans (Same.new hD (.lst [.ref z]))
    have nLz : L ≠ z := ne_of_none upd_same hz
    have nLD : L ≠ D := ne_of_none (show (upd (upd H' L (.lst [.int 0])) z (.tup [.int 0, .int 0])) L = some (.lst [.int 0]) by rw [upd_ne nLz, upd_same]) hD
    have nzD : z ≠ D := ne_of_none upd_same hD
    have n2 : (2 : Nat) ^ t.length ≤ 2 ^ 8 := Nat.pow_le_pow_right (by decide) (by omega)
    have n2' : 0 < (2 : Nat) ^ t.length := Nat.pow_pos (by decide)
    have hnD : H' D = Option.none := sZ.free hD
    have hnL : H' L = Option.none := hL
    refine ⟨_, rfl, _, _, rfl, ⟨by decide, by decide, by omega, by omega⟩, for_range (lo := 1) (n := (((2 ^ t.length : Nat) : Int) - 1).toNat)
      (fun i σ H2 => ∃ (c1 c2 : Option V) (vs' : List V) (best : List (Nat × Nat)), σ = [some v, some (.ref a), some (.ref A1), some (.int ((2 ^ t.length : Nat) : Int)), c1, some (.ref L), some (.ref D), c2] ∧ Same H' H2 ∧ H2 D = some (.lst vs') ∧ Paired (NPairAt H2) vs' best ∧ H2 L = some (.lst (intsOf (bfst best))) ∧ BestTo t.length ahl best (i + 1))
      ⟨_, none, _, [(0, 0)], rfl, sD, upd_same, .cons ⟨z, rfl, by rw [upd_ne nzD, upd_same]; rfl⟩ .nil, by rw [upd_ne nLD, upd_ne nLz, upd_same]; rfl, rfl, rfl, fun w h1 h2 => absurd h2 (by omega)⟩ ?_ ?_⟩
    · rintro i σ H2 hi ⟨c1, c2, vs', best, rfl, hs, hD2, hp, hL2, hb⟩
      have hi' : i + 1 < 2 ^ t.length := by omega
      have hbl : best.length = i + 1 := hb.1
      have hvl := plen hp
      have ei : (1 : Int) + (i : Int) = ((i + 1 : Nat) : Int) := by omega
      refine ⟨_, rfl, .inl ⟨rfl, _, SqL.of hD2⟩, _, rfl, _, rfl, _, rfl, t.length, i + 1, A1, L, ahl, bfst best, congrArg (fun z => [V.int z, V.ref A1, V.ref L]) ei, hs _ _ hA1, hL2, hn, hlen, by omega, hi', by rw [List.length_map]; exact hbl, fun H3 p c m s3 hp3 hlast => ?_⟩
      have hD3 : H3 D = some (.lst vs') := s3 _ _ hD2
      have hL3 : H3 L = some (.lst (intsOf (bfst best))) := s3 _ _ hL2
      refine ⟨D, _, _, rfl, rfl, hD3, line_lt (by omega), ?_⟩
      have npD : p ≠ D := ne_of hp3 hD3 (by intro z; cases z)
      have nLD' : L ≠ D := nLD
      have hpn : Paired (NPairAt (upd H3 D (.lst (vs' ++ [.ref p])))) (vs' ++ [.ref p]) (best ++ [(c, m)]) :=
        psnoc (pmono hp fun v c q => (q.keep s3.tups).keep (Keep.tups (L := D) Keep.put hD3)) ⟨p, rfl, by rw [upd_ne npD]; exact hp3⟩
      have hb' : BestTo t.length ahl (best ++ [(c, m)]) (i + 1 + 1) := hb.step (by omega) hlast
      -- least.append(found[whole][0])
      obtain ⟨b, hb1, hb2⟩ := np_get hpn (w := i + 1) (by simp; omega)
      have e1 : bget (best ++ [(c, m)]) (i + 1) = (c, m) := by
        have := bget_last (best := best) (p := (c, m))
        rw [hbl] at this
        exact this
      rw [e1] at hb2
      have hat : atI (vs' ++ [.ref p]) ((1 : Int) + (i : Int)) = some (.ref b) := by rw [ei]; exact atI_nat hb1
      have hL4 : upd H3 D (.lst (vs' ++ [.ref p])) L = some (.lst (intsOf (bfst best))) := by rw [upd_ne nLD']; exact hL3
      refine ⟨_, rfl, .inl ⟨rfl, _, SqL.of hL4⟩, _, rfl, _, rfl, D, _, _, _, rfl, rfl, SqL.of upd_same, hat, b, _, _, _, rfl, rfl, SqT.of hb2, rfl, L, _, _, rfl, rfl, hL4, by rw [ints_len, List.length_map]; exact line_lt (by omega), ?_⟩
      have s4 : Same H' (upd (upd H3 D (.lst (vs' ++ [.ref p]))) L (.lst (intsOf (bfst best) ++ [.int (c : Int)]))) := ((hs.trans s3).upd hnD _).upd hnL _
      refine ⟨_, _, _, best ++ [(c, m)], rfl, s4, by rw [upd_ne nLD'.symm, upd_same], pmono hpn fun v c q => q.keep (Keep.tups (L := L) Keep.put hL4), ?_, hb'⟩
      rw [upd_same, ints_snoc]
      unfold bfst
      rw [List.map_append]
      rfl
    · rintro σ H2 ⟨c1, c2, vs', best, rfl, hs, hD2, hp, hL2, hb⟩
      have e : (((2 ^ t.length : Nat) : Int) - 1).toNat + 1 = 2 ^ t.length := by omega
      rw [e] at hb
      exact ⟨_, rfl, k H2 D vs' best ahl (s1.trans hs) hD2 hp hAh hb⟩
/-! ### tangle_cut -/
def spCut : Sp := fun vs H Q _ => ∃ (v u : V) (P : Parts) (t : List Str), vs = [v, u] ∧ PartsAt H v P ∧ PGood P ∧ TangleAt P H u t ∧
  ∀ H' p vs' c, Same H H' → H' p = some (.lst vs') → Paired (PairAt H') vs' c → TCut (EP P) t c → c.length ≤ 3000 → Q (.ref p) H'
abbrev n_tangle_cut : List Str := ["parts", "tangle", "best", "ahead", "whole", "found", "number", "other"]
abbrev p_tangle_cut : List Str := ["parts", "tangle"]
theorem sc_tangle_cut : FnScope n_tangle_cut p_tangle_cut (defScope s_tangle_cut) := ⟨rfl, rfl, rfl, by decide +kernel, rfl, by decide +kernel, by decide +kernel⟩
theorem ok_tangle_cut {f f1 f2 f3 : Addr} {fd fd1 fd2 fd3 : FuncData} (F : Fun K "tangle_cut" "tangle_cut" s_tangle_cut f fd) (B : Bi mg) (c_onward : Here P w K mg base "onward" 4 f1 fd1 p_onward spOnward) (c_last_parts : Here P w K mg base "last_parts" 5 f2 fd2 p_last_parts spLasts)
    (c_numbers_of : Here P w K mg base "numbers_of" 1 f3 fd3 p_numbers_of spNumbers) : FnOk P w K mg base CX0 6 f fd p_tangle_cut spCut := by
  refine F.ok sc_tangle_cut (fun vs H Q E h => ?_) (fun cdv A outer s H vs Q E hr h => ?_)
  · obtain ⟨v, u, P, t, rfl, _⟩ := h
    rfl
  obtain ⟨v, u, P, t, rfl, hP, g, hT, k⟩ := h
  have hlen := hT.len g
  obtain ⟨⟨a, rfl, ha⟩, hnd, hnm⟩ := id hT
  refine ⟨_, (pss_cons (ps_set (i := 2) sc_tangle_cut.nd rfl (Or.inl rfl) (pe_call c_last_parts.ok (hr.mono (by decide)) rfl c_last_parts.mgx c_last_parts.kp c_last_parts.b .nil pass0 (pa_cons (pv 0) (pa_cons (pv 1) pa_nil))))
        (pss_cons (ps_set (i := 3) sc_tangle_cut.nd rfl (Or.inl rfl) (pe_call c_onward.ok (hr.mono (by decide)) rfl c_onward.mgx c_onward.kp c_onward.b .nil pass0 (pa_cons (pv 0) (pa_cons (pv 1) pa_nil))))
        (pss_cons (ps_set (i := 4) sc_tangle_cut.nd rfl (Or.inl rfl) (pe_op op_sub (pe_callB call_len_seq (by rfl) B.len (by decide +kernel) (pa_cons (pv 2) pa_nil)) pe_int))
        (pss_cons (ps_set (i := 5) sc_tangle_cut.nd rfl (Or.inl rfl) (pe_lst pa_nil))
        (pss_cons (ps_while PassesOwn.never (pt_cmpR op_gt (pv 4) pe_int (nomark _)) (pss_cons (ps_set (i := 6) sc_tangle_cut.nd rfl (Or.inl rfl) (pe_ix ix_tup (pe_ix ix_list (pv 2) (pv 4) (fun _ _ => rfl)) pe_int (fun _ _ => rfl)))
          (pss_cons (ps_set (i := 4) sc_tangle_cut.nd rfl (Or.inl rfl) (pe_op op_xor (pv 4) (pe_op op_shl pe_int (pv 6))))
          (pss_one (ps_for PassesOwn.never rfl (pi_tup (pe_call c_numbers_of.ok (hr.mono (by decide)) rfl c_numbers_of.mgx c_numbers_of.kp c_numbers_of.b .nil pass0 (pa_cons (pe_op op_and (pe_ix ix_list (pv 3) (pv 6) (fun _ _ => rfl)) (pv 4)) (pa_cons (pe_callB call_len_seq (by rfl) B.len (by decide +kernel) (pa_cons (pv 1) pa_nil)) pa_nil)))) (pg_name (i := 7) sc_tangle_cut.nd rfl (Or.inl rfl)) (pss_one (ps_expr (pe_bm PySem.F.plainAttrs_list PySem.F.slot_list_append PySem.F.type_list_append mt_append (pv 5) (pa_cons (pe_tup (pa_cons (pe_ix ix_tup (pv 1) (pv 6) (fun _ _ => rfl)) (pa_cons (pe_ix ix_tup (pv 1) (pv 7) (fun _ _ => rfl)) pa_nil))) pa_nil)))))))))
        (pss_one (ps_ret (pv 5)))))))), ?_⟩
  refine ⟨_, rfl, _, rfl, v, _, P, t, rfl, hP, g, hT, fun H1 bb vb best ahl s1 hbb hpb hAh hbt => ?_⟩
  refine ⟨_, rfl, _, rfl, v, _, P, t, rfl, hP.same s1, g, hT.keep s1.tups, fun H2 A1 ahl' s2 hA1 hAh' => ?_⟩
  have ea := hAh'.uniq hAh
  subst ea
  have hn : ahl'.length = t.length := hAh'.1
  have hbb2 : H2 bb = some (.lst vb) := s2 _ _ hbb
  have hbl : best.length = 2 ^ t.length := hbt.1
  have hvl := plen hpb
  have n2 : (2 : Nat) ^ t.length ≤ 2 ^ 8 := Nat.pow_le_pow_right (by decide) (by omega)
  have n2' : 0 < (2 : Nat) ^ t.length := Nat.pow_pos (by decide)
  have IB := hbt.isBest
  refine ⟨_, rfl, bb, _, rfl, .inl (SqL.of hbb2), _, _, rfl, rfl, ?_⟩
  refine ⟨Nat.zero_le _, fun D hD => ?_⟩
  have hs0 := (s1.trans s2).trans (Same.new hD (.lst []))
  generalize hnum : (fun w => (bget best w).2) = num at IB
  generalize hah : (fun i => ahl'.getD i 0) = ah at IB
  have hAO : AhOf (EP P) t ah := by rw [← hah]; exact hAh'.ahOf g hnm
  let nm : Nat × Nat → Str × Str := fun p => (t.getD p.1 default, t.getD p.2 default)
  generalize htot : (cutM t.length ah num (2 ^ t.length - 1) (2 ^ t.length - 1)).map (fun p => (t.getD p.1 default, t.getD p.2 default)) = tot
  have htl : tot.length ≤ 3000 := by
    rw [← htot, List.length_map]
    have h1 := cutM_le (n := t.length) (ah := ah) (num := num) (2 ^ t.length - 1) (2 ^ t.length - 1)
    have h2 : (2 ^ t.length - 1) * t.length ≤ (2 ^ 8 - 1) * 8 := Nat.mul_le_mul (by omega) hlen
    omega
  -- the walk down the sets
  refine ⟨fun x σ H' => ∃ (vw : V) (c1 c2 : Option V) (fu : Nat) (vs' : List V) (c : List (Str × Str)), σ = [some v, some (.ref a), some (.ref bb), some (.ref A1), some vw, some (.ref D), c1, c2] ∧ vw = .int (x : Nat) ∧ Keep D H2 H' ∧ H' D = some (.lst vs') ∧ Paired (PairAt H') vs' c ∧ x ≤ fu ∧ x < 2 ^ t.length ∧
      c ++ (cutM t.length ah num fu x).map (fun p => (t.getD p.1 default, t.getD p.2 default)) = tot,
    ⟨2 ^ t.length - 1, _, none, none, 2 ^ t.length - 1, [], [], rfl, congrArg V.int (by rw [hvl, hbl]; omega), (Keep.of (Same.new hD _)), upd_same, .nil, Nat.le_refl _, by omega, htot⟩, ?_⟩
  rintro x σ H' ⟨_, c1, c2, fu, vs', c, rfl, rfl, hk, hD', hpc, hxf, hx2, hc⟩
  have hkt : ∀ {a : Addr} {xs : List V}, H2 a = some (.tup xs) → H' a = some (.tup xs) := fun {b xs} q => hk b _ q (ne_of_none q hD)
  have hkl : ∀ {a : Addr} {xs : List V}, H2 a = some (.lst xs) → H' a = some (.lst xs) := fun {b xs} q => hk b _ q (ne_of_none q hD)
  have ha' : H' a = some (.tup (txs t)) := hkt ((s1.trans s2) _ _ ha)
  refine ⟨_, rfl, _, _, rfl, rfl, _, rfl, ?_⟩
  refine ite2 (fun q => ?_) (fun q => ?_)
  · have q' : (0 : Int) < (x : Int) := of_decide_eq_true q
    have hx0 : 0 < x := by omega
    match fu, hxf, hc with
    | 0, hxf, _ => exact absurd hxf (by omega)
    | fu + 1, hxf, hc =>
    have hnl := IB.num_lt x hx0 hx2
    have hnb := IB.num_bit x hx0 hx2
    have hlt := xor_lt hnb
    obtain ⟨b, hb1, hb2⟩ := np_get hpb (w := x) (by omega)
    have enum : (bget best x).2 = num x := by rw [← hnum]
    rw [enum] at hb2
    refine ⟨fun σ' H3 => ∃ (vw : V) (c1 c2 : Option V) (vs' : List V) (c : List (Str × Str)), σ' = [some v, some (.ref a), some (.ref bb), some (.ref A1), some vw, some (.ref D), c1, c2] ∧ vw = .int ((x ^^^ 2 ^ num x : Nat) : Int) ∧ Keep D H2 H3 ∧ H3 D = some (.lst vs') ∧ Paired (PairAt H3) vs' c ∧
        c ++ (cutM t.length ah num fu (x ^^^ 2 ^ num x)).map (fun p => (t.getD p.1 default, t.getD p.2 default)) = tot,
      fun σ' H3 ⟨vw, c1, c2, vs', c, e, ev, h1, h2, h3, h4⟩ => ⟨x ^^^ 2 ^ num x, hlt, vw, c1, c2, fu, vs', c, e, ev, h1, h2, h3, by omega, by omega, h4⟩, ?_⟩
    -- number = best[whole][1]
    refine ⟨_, rfl, _, rfl, bb, _, _, _, rfl, rfl, SqL.of (hkl hbb2), atI_nat hb1, b, _, _, _, rfl, rfl, SqT.of (hkt (s2 _ _ hb2)), rfl, ?_⟩
    -- whole = whole ^ 1 << number
    have cp : (0 : Int) ≤ ((num x : Nat) : Int) ∧ ((num x : Nat) : Int) ≤ 1000000 ∧ (1 : Int).natAbs < 2 ^ 64 := ⟨by omega, by omega, by decide⟩
    refine ⟨_, rfl, _, rfl, _, _, rfl, rfl, cp, _, _, rfl, rfl, ?_⟩
    have ex : Builtin.bitXor (x : Int) ((1 : Int) * 2 ^ ((num x : Nat) : Int).toNat) = ((x ^^^ 2 ^ num x : Nat) : Int) := by
      rw [Int.toNat_natCast, Int.one_mul, ← two_pow_int, ixor]
    -- for other in numbers_of(..)
    have hA' : H' A1 = some (.lst (intsOf ahl')) := hkl hA1
    have eg : ahl'.getD (num x) 0 = ah (num x) := by rw [← hah]
    have h2 : atI (intsOf ahl') ((num x : Nat) : Int) = some (.int ((ah (num x) : Nat) : Int)) := by rw [← eg]; exact ints_atI (by omega)
    have eand : Builtin.bitAnd ((ah (num x) : Nat) : Int) (Builtin.bitXor (x : Int) ((1 : Int) * 2 ^ ((num x : Nat) : Int).toNat)) = ((ah (num x) &&& (x ^^^ 2 ^ num x) : Nat) : Int) := by rw [ex, iand]
    refine ⟨_, rfl, _, rfl, A1, _, _, _, rfl, rfl, SqL.of hA', h2, _, rfl, _, _, rfl, rfl, _, rfl, a, _, rfl, .inr (SqT.of ha'), t.length, ah (num x) &&& (x ^^^ 2 ^ num x), ?_, by omega, fun H3 np s3 hnp => ?_⟩
    · show [V.int (Builtin.bitAnd ((ah (num x) : Nat) : Int) (Builtin.bitXor (x : Int) ((1 : Int) * 2 ^ ((num x : Nat) : Int).toNat))), V.int ((txs t).length : Int)] = _
      rw [eand, txs_len]
    have hD3 : H3 D = some (.lst vs') := s3 _ _ hD'
    rw [cutM_pos hx0, List.map_append, ← List.append_assoc] at hc
    generalize hseg : (bitsM t.length (ah (num x) &&& (x ^^^ 2 ^ num x))) = seg at hnp
    have hseg' : ((((List.range t.length).filter fun j => (ah (num x) &&& (x ^^^ 2 ^ num x)).testBit j).map fun j => (num x, j)).map fun p => (t.getD p.1 default, t.getD p.2 default)) = seg.map fun j => (t.getD (num x) default, t.getD j default) := by
      rw [← hseg, List.map_map]; rfl
    rw [hseg'] at hc
    have hcl : (c ++ seg.map fun j => (t.getD (num x) default, t.getD j default)).length ≤ tot.length := by rw [← hc]; simp
    refine ⟨np, rfl, ⟨_, SqT.of hnp⟩, for_tup (K := K) (a := np) (xs := intsOf seg) (fun j σ' H4 => ∃ (vw : V) (c2 : Option V) (vs'' : List V), σ' = [some v, some (.ref a), some (.ref bb), some (.ref A1), some vw, some (.ref D), some (.int ((num x : Nat) : Int)), c2] ∧ vw = .int ((x ^^^ 2 ^ num x : Nat) : Int) ∧ Keep D H3 H4 ∧ H4 D = some (.lst vs'') ∧
        Paired (PairAt H4) vs'' (c ++ (seg.take j).map fun j => (t.getD (num x) default, t.getD j default)))
      ⟨_, _, vs', rfl, congrArg V.int ex, Keep.refl _ _, hD3, by simpa using pmono hpc fun v c q => q.keep s3.tups⟩ (fun j σ' H4 _ ⟨_, _, _, _, _, kk, _⟩ => SqT.of (kk.tups hD3 _ _ hnp)) ?_ ?_⟩
    · rintro j y σ' H4 hj ⟨_, c2, vs'', rfl, rfl, kk, hD4, hp4⟩
      obtain ⟨hjl, rfl⟩ := ints_get hj
      have hm : seg.getD j 0 ∈ seg := List.mem_of_getElem? (getD_at hjl)
      have hot : seg.getD j 0 < t.length := by
        rw [← hseg] at hm
        rw [← hseg]
        exact List.mem_range.mp (List.mem_filter.mp hm).1
      have ha4 : H4 a = some (.tup (txs t)) := kk.tups hD3 _ _ (s3 _ _ ha')
      have g1 : atI (txs t) ((num x : Nat) : Int) = some (.str (t.getD (num x) default)) := atI_nat (txs_at (getD_get hnl))
      have g2 : atI (txs t) ((seg.getD j 0 : Nat) : Int) = some (.str (t.getD (seg.getD j 0) default)) := atI_nat (txs_at (getD_get hot))
      refine ⟨_, rfl, .inl ⟨rfl, _, SqL.of hD4⟩, _, rfl, _, rfl, a, _, _, _, rfl, rfl, SqT.of ha4, g1, _, rfl, _, rfl, a, _, _, _, rfl, rfl, SqT.of ha4, g2, by show 2 ≤ sizeLine; decide, fun p hp => ?_⟩
      have npD : D ≠ p := ne_of_none hD4 hp
      have hvl4 := plen hp4
      have htk : (seg.take j).length ≤ seg.length := List.length_take_le' ..
      rw [List.length_append, List.length_map] at hvl4 hcl
      refine ⟨D, _, _, rfl, rfl, by rw [upd_ne npD]; exact hD4, line_lt (by omega), ?_⟩
      have kp : Keep D H4 (upd (upd H4 p (.tup [.str (t.getD (num x) default), .str (t.getD (seg.getD j 0) default)])) D (.lst (vs'' ++ [.ref p]))) := (Keep.of (Same.new hp _)).trans Keep.put
      refine ⟨_, _, _, rfl, rfl, kk.trans kp, upd_same, ?_⟩
      rw [List.take_add_one, getD_at hjl, List.map_append, ← List.append_assoc]
      exact psnoc (pmono hp4 fun v c q => q.keep (kp.tups hD4)) ⟨p, rfl, by rw [upd_ne npD.symm, upd_same]⟩
    · rintro σ' H4 ⟨_, c2, vs'', rfl, rfl, kk, hD4, hp4⟩
      rw [ints_len, List.take_length] at hp4
      exact ⟨_, _, _, vs'', _, rfl, rfl, (hk.trans (Keep.of s3)).trans kk, hD4, hp4, hc⟩
  · have q' : ¬ (0 : Int) < (x : Int) := of_decide_eq_false (Bool.eq_false_iff.mpr q)
    have e : x = 0 := by omega
    subst e
    rw [cutM_zero, List.map_nil, List.append_nil] at hc
    subst hc
    exact ⟨_, rfl, k H' D vs' c (hk.same (s1.trans s2) ((s1.trans s2).free hD)) hD' hpc ⟨ah, _, num, hAO, IB, htot.symm⟩ htl⟩
end
end Bh
namespace Bh
open PySem L2
section
variable {P : Program} {w : World} {K : PySem.W.Frag} {mg : Str → Option Value} {base : Heap}
theorem names_take {P : Parts} {i : Nat} {p : Str × List Rw} (h : P[i]? = some p) : (namesOf P).take (i + 1) = (namesOf P).take i ++ [p.1] := by
  rw [List.take_add_one, List.getElem?_map, h]; rfl
theorem names_at {P : Parts} {i : Nat} {p : Str × List Rw} (h : P[i]? = some p) : (namesOf P)[i]? = some p.1 := by
  rw [List.getElem?_map, h]; rfl
theorem names_len (P : Parts) : (namesOf P).length = P.length := List.length_map _
theorem filter_take {q : Str → Bool} {l : List Str} {i : Nat} {x : Str} (h : l[i]? = some x) : (l.take (i + 1)).filter q = if q x = true then (l.take i).filter q ++ [x] else (l.take i).filter q := by
  rw [List.take_add_one, h, List.filter_append]
  by_cases c : q x = true
  · rw [if_pos c, show (some x).toList = [x] from rfl, List.filter_cons_of_pos c]; rfl
  · rw [if_neg c, show (some x).toList = [x] from rfl, List.filter_cons_of_neg c]; simp
/-! ### tangles -/
def spTangles : Sp := fun vs H Q _ => ∃ (v : V) (P : Parts), vs = [v] ∧ PartsAt H v P ∧ PGood P ∧ ∀ H' p vs', Same H H' → H' p = some (.tup vs') → Paired (StrsT H') vs' (tangs (namesOf P) (EP P)) → Q (.ref p) H'
abbrev n_tangles : List Str := ["parts", "come", "part", "rows", "laid", "found", "tangle", "other", "some"]
abbrev p_tangles : List Str := ["parts"]
theorem sc_tangles : FnScope n_tangles p_tangles (defScope s_tangles) := ⟨rfl, rfl, rfl, by decide +kernel, rfl, by decide +kernel, by decide +kernel⟩
open Classical in
theorem ok_tangles {f f1 : Addr} {fd fd1 : FuncData} (F : Fun K "tangles" "tangles" s_tangles f fd) (B : Bi mg) (c_order : Here P w K mg base "order" 14 f1 fd1 p_order spOrder) : FnOk P w K mg base CX0 15 f fd p_tangles spTangles := by
  refine F.ok sc_tangles (fun vs H Q E h => ?_) (fun cdv A outer s H vs Q E hr h => ?_)
  · obtain ⟨v, P, rfl, _⟩ := h
    rfl
  obtain ⟨v, P, rfl, hP, g, k⟩ := h
  refine ⟨_, (pss_cons (ps_set (i := 1) sc_tangles.nd rfl (Or.inr rfl) pe_dnewK)
        (pss_cons (ps_for PassesOwn.never rfl (pi_tup (pv 0)) (pg_tup rfl (pgs_cons (pg_name (i := 2) sc_tangles.nd rfl (Or.inr rfl)) (pgs_cons (pg_name (i := 3) sc_tangles.nd rfl (Or.inl rfl)) pgs_nil))) (pss_one (ps_dput (hu_of hr) (pv 1) (pv 2) (pe_call c_order.ok (hr.mono (by decide)) rfl c_order.mgx c_order.kp c_order.b .nil pass0 (pa_cons (pv 0) (pa_cons (pv 2) pa_nil))) rfl)))
        (pss_cons (ps_set (i := 4) sc_tangles.nd rfl (Or.inl rfl) pe_dnewK)
        (pss_cons (ps_set (i := 5) sc_tangles.nd rfl (Or.inl rfl) (pe_lst pa_nil))
        (pss_cons (ps_for PassesOwn.never rfl (pi_tup (pv 0)) (pg_tup rfl (pgs_cons (pg_name (i := 2) sc_tangles.nd rfl (Or.inr rfl)) (pgs_cons (pg_name (i := 3) sc_tangles.nd rfl (Or.inl rfl)) pgs_nil))) (pss_cons (ps_if (pt_cmp (pc_din (hu_of hr) (pv 2) (pv 4))) (pss_one ps_continue) pss_nil)
          (pss_cons (ps_set (i := 6) sc_tangles.nd rfl (Or.inl rfl) (pe_callTy call_tuple_of (by rfl) B.tuple (by decide +kernel) (pa_cons (pe_lc (own := [("other", 7), ("some", 8)]) (g := gTup K 2 (gCons (gName 7) (gCons (gName 8) gNil))) (tt := tAnd (tTest (tOp (rIn K false) (tVar 7) (tDGet (tVar 1) (tVar 2)))) (tTest (tOp (rIn K false) (tVar 2) (tDGet (tVar 1) (tVar 7))))) rfl sc_tangles.nd (pi_tup (pv 0)) (blkOk_by (own := [("other", 7), ("some", 8)]) (N := n_tangles) (sc := defScope s_tangles) (by decide +kernel)) (fun _ _ _ _ _ => (pg_tup rfl (pgs_cons (pg_name (i := 7) sc_tangles.nd rfl (Or.inl rfl)) (pgs_cons (pg_name (i := 8) sc_tangles.nd rfl (Or.inl rfl)) pgs_nil)))) (fun _ _ _ _ _ => (pts_one (PW.pt (pw_and (pt_cmpR op_in_seq (pv 7) (pe_dget (hu_of hr) (pv 1) (pv 2) (fun _ _ => rfl)) (by rfl)) (pw_and1 (pt_cmpR op_in_seq (pv 2) (pe_dget (hu_of hr) (pv 1) (pv 7) (fun _ _ => rfl)) (by rfl))))))) (fun _ _ _ _ _ => (pv 7))) pa_nil)))
          (pss_cons (ps_for PassesOwn.never rfl (pi_tup (pv 6)) (pg_name (i := 7) sc_tangles.nd rfl (Or.inl rfl)) (pss_one (ps_dput (hu_of hr) (pv 4) (pv 7) pe_bl rfl)))
          (pss_one (ps_expr (pe_bm PySem.F.plainAttrs_list PySem.F.slot_list_append PySem.F.type_list_append mt_append (pv 5) (pa_cons (pv 6) pa_nil))))))))
        (pss_one (ps_ret (pe_callTy call_tuple_of (by rfl) B.tuple (by decide +kernel) (pa_cons (pv 5) pa_nil))))))))), ?_⟩
  have hlen := g.len
  obtain ⟨a, vp, rfl, ha, hp⟩ := id hP
  have hvl := plen hp
  intro d hd
  have s0 : Same H (upd H d (.dK [])) := Same.new hd _
  refine ⟨_, rfl, a, rfl, ⟨_, SqT.of (s0 _ _ ha)⟩, for_tup (K := K) (a := a) (xs := vp) (fun i σ H' => ∃ (c1 c2 c7 c8 : Option V) (kvs : List (Key × V)), σ = [some (.ref a), some (.ref d), c1, c2, none, none, none, c7, c8] ∧ Same H H' ∧ H' d = some (.dK kvs) ∧ kvs.length ≤ i ∧
      ∀ j x, j < i → (namesOf P)[j]? = some x → ∃ b l, valV kvs (.inr x) = some (.ref b) ∧ H' b = some (.tup (txs l)) ∧ OrderOf P x l)
    ⟨none, none, none, none, [], rfl, s0, upd_same, Nat.le_refl _, fun j x h => absurd h (Nat.not_lt_zero _)⟩ (fun i σ H' _ ⟨_, _, _, _, _, _, s, _⟩ => SqT.of (s _ _ ha)) ?_ ?_⟩
  · rintro i y σ H' hi ⟨c1, c2, c7, c8, kvs, rfl, hs, hd', hkl, hkv⟩
    obtain ⟨⟨x, rs⟩, hpi, b, z, rfl, hb, hrs⟩ := pget' hp hi
    have hil : i < vp.length := (List.getElem?_eq_some_iff.mp hi).1
    refine ⟨b, _, rfl, SqT.of (hs _ _ hb), rfl, _, _, rfl, _, _, rfl, rfl, ?_⟩
    have hxn : x ∈ namesOf P := List.mem_map.mpr ⟨_, List.mem_of_getElem? hpi, rfl⟩
    refine ⟨_, rfl, _, rfl, _, x, P, rfl, hP.same hs, g, hxn, fun H1 t l s1 ht ho => ?_⟩
    have hd1 : H1 d = some (.dK kvs) := s1 _ _ hd'
    refine ⟨_, rfl, _, rfl, d, _, rfl, DPut.k (k := .inr x) hd1 (line_lt (by omega)), ?_⟩
    refine ⟨_, _, _, _, putK kvs (.inr x) (.ref t), rfl, (hs.trans s1).upd hd _, upd_same, by have := length_putK kvs (.inr x) (.ref t); omega, fun j x' hj hx' => ?_⟩
    have ntd : t ≠ d := ne_of ht hd1 (by intro z; cases z)
    rw [valV_put]
    by_cases e : x' = x
    · subst e
      exact ⟨t, l, by rw [if_pos rfl], by rw [upd_ne ntd]; exact ht, ho⟩
    · have ne : ¬ (Sum.inr x' : Key) = Sum.inr x := fun q => e (Sum.inr.inj q)
      rw [if_neg ne]
      by_cases hji : j < i
      · obtain ⟨b', l', h1, h2, h3⟩ := hkv j x' hji hx'
        have h2' := s1 _ _ h2
        exact ⟨b', l', h1, by rw [upd_ne (ne_of h2' hd1 (by intro z; cases z))]; exact h2', h3⟩
      · have ej : j = i := by omega
        subst ej
        rw [names_at hpi] at hx'
        exact absurd (Option.some.inj hx').symm e
  · rintro σ H1 ⟨c1, c2, c7, c8, kvs, rfl, hs, hd', hkl, hkv⟩
    have hcome : ∀ x, x ∈ namesOf P → ∃ b l, valV kvs (.inr x) = some (.ref b) ∧ H1 b = some (.tup (txs l)) ∧ OrderOf P x l := fun x hx => by
      obtain ⟨j, hj⟩ := List.mem_iff_getElem?.mp hx
      exact hkv j x (by rw [hvl, ← names_len]; exact (List.getElem?_eq_some_iff.mp hj).1) hj
    intro La hLa
    refine ⟨Nat.zero_le _, fun Fo hFo => ?_⟩
    have nLF : La ≠ Fo := ne_of_none upd_same hFo
    have sL : Same H1 (upd H1 La (.dK [])) := Same.new hLa _
    have hFo1 : H1 Fo = Option.none := sL.free hFo
    have sF : Same H1 (upd (upd H1 La (.dK [])) Fo (.lst [])) := sL.upd hFo1 _
    refine ⟨_, rfl, a, rfl, ⟨_, SqT.of (sF _ _ (hs _ _ ha))⟩, for_tup (K := K) (a := a) (xs := vp) (fun i σ H' => ∃ (c2 c3 c6 c7 c8 : Option V) (kv2 : List (Key × V)) (vs' : List V), σ = [some (.ref a), some (.ref d), c2, c3, some (.ref La), some (.ref Fo), c6, c7, c8] ∧ Same H1 H' ∧ H' La = some (.dK kv2) ∧ H' Fo = some (.lst vs') ∧
        Paired (StrsT H') vs' (tangM (cls (namesOf P) (EP P)) ((namesOf P).take i) []) ∧ kv2.length ≤ 8 * i ∧ vs'.length ≤ i ∧
        ∀ x, (valV kv2 (.inr x)).isSome = (tangM (cls (namesOf P) (EP P)) ((namesOf P).take i) []).any fun t => decide (x ∈ t))
      ⟨_, _, _, _, _, [], [], rfl, sF, by rw [upd_ne nLF, upd_same], upd_same, .nil, Nat.le_refl _, Nat.le_refl _, fun x => rfl⟩ (fun i σ H' _ ⟨_, _, _, _, _, _, _, _, s, _⟩ => SqT.of (s _ _ (hs _ _ ha))) ?_ ?_⟩
    · rintro i y σ H' hi ⟨c2, c3, c6, c7, c8, kv2, vs', rfl, hs', hLa', hFo', hpf, hk2, hv2, hany⟩
      obtain ⟨⟨x, rs⟩, hpi, b, z, rfl, hb, hrs⟩ := pget' hp hi
      have hil : i < vp.length := (List.getElem?_eq_some_iff.mp hi).1
      refine ⟨b, _, rfl, SqT.of (hs' _ _ (hs _ _ hb)), rfl, _, _, rfl, _, _, rfl, rfl, ?_⟩
      have hxn : x ∈ namesOf P := List.mem_map.mpr ⟨_, List.mem_of_getElem? hpi, rfl⟩
      have hst : tangM (cls (namesOf P) (EP P)) ((namesOf P).take (i + 1)) [] = if ((tangM (cls (namesOf P) (EP P)) ((namesOf P).take i) []).any fun t => decide (x ∈ t)) = true then tangM (cls (namesOf P) (EP P)) ((namesOf P).take i) [] else tangM (cls (namesOf P) (EP P)) ((namesOf P).take i) [] ++ [cls (namesOf P) (EP P) x] := by
        rw [names_take hpi]
        exact tangM_app _ _ _ _
      generalize hf : tangM (cls (namesOf P) (EP P)) ((namesOf P).take i) [] = fnd at hpf hany hst
      refine ⟨_, rfl, _, rfl, La, _, rfl, DGet.k (k := .inr x) hLa', _, rfl, ?_⟩
      rw [hany]
      refine ite2 (fun q => ?_) (fun q => ?_)
      · refine ⟨_, _, _, _, _, kv2, vs', rfl, hs', hLa', hFo', ?_, by omega, by omega, ?_⟩
        · rw [hst, if_pos q]; exact hpf
        · rw [hst, if_pos q]; exact hany
      · rw [if_neg q] at hst
        rw [hst]
        -- tangle = tuple([..])
        refine ⟨_, rfl, a, rfl, ⟨_, SqT.of (hs' _ _ (hs _ _ ha))⟩, fun D hD => lc_tup (K := K) (a := a) (xs := vp) (fun j H2 => H2 = upd H' D (.lst (txs (((namesOf P).take j).filter fun o => decide ((o = x ∨ Way (EP P) x o) ∧ (x = o ∨ Way (EP P) o x))))))
          rfl (fun j H2 _ e => by rw [e]; exact SqT.of ((Same.new hD _) _ _ (hs' _ _ (hs _ _ ha)))) ?_ ?_⟩
        · rintro j y H2 hj rfl
          obtain ⟨⟨o, rs'⟩, hpj, b', z', rfl, hb', hrs'⟩ := pget' hp hj
          have sD : Same H' (upd H' D (.lst (txs (((namesOf P).take j).filter fun o => decide ((o = x ∨ Way (EP P) x o) ∧ (x = o ∨ Way (EP P) o x)))))) := Same.new hD _
          have hon : o ∈ namesOf P := List.mem_map.mpr ⟨_, List.mem_of_getElem? hpj, rfl⟩
          obtain ⟨bx, lx, vx, hx1, ⟨_, hx2⟩⟩ := hcome x hxn
          obtain ⟨bo, lo, vo, ho1, ⟨_, ho2⟩⟩ := hcome o hon
          refine ⟨b', _, rfl, SqT.of (sD _ _ (hs' _ _ (hs _ _ hb'))), rfl, _, _, rfl, _, _, rfl, rfl, rfl, ?_⟩
          have hd2 : (upd H' D (.lst (txs (((namesOf P).take j).filter fun o => decide ((o = x ∨ Way (EP P) x o) ∧ (x = o ∨ Way (EP P) o x)))))) d = some (.dK kvs) := sD _ _ (hs' _ _ hd')
          have gx := DGet.k (k := (.inr x : Key)) hd2
          have go := DGet.k (k := (.inr o : Key)) hd2
          rw [vx] at gx
          rw [vo] at go
          refine ⟨_, rfl, _, rfl, _, rfl, d, _, rfl, gx, bx, _, rfl, .inr (SqT.of (sD _ _ (hs' _ _ hx1))), rfl, flat_txs _, _, rfl, ?_⟩
          rw [if_neg Bool.false_ne_true, inV_txs]
          have hfl := filter_take (q := fun o => decide ((o = x ∨ Way (EP P) x o) ∧ (x = o ∨ Way (EP P) o x))) (names_at hpj)
          refine ite2 (fun q1 => ?_) (fun q1 => ?_)
          · have q1' := (hx2 o).mp (of_decide_eq_true q1)
            refine ⟨_, rfl, _, rfl, _, rfl, d, _, rfl, go, bo, _, rfl, .inr (SqT.of (sD _ _ (hs' _ _ ho1))), rfl, flat_txs _, _, rfl, ?_⟩
            rw [if_neg Bool.false_ne_true, inV_txs]
            refine ite2 (fun q2 => ?_) (fun q2 => ?_)
            · have q2' := (ho2 x).mp (of_decide_eq_true q2)
              rw [if_pos (decide_eq_true ⟨q1', q2'⟩)] at hfl
              refine ⟨_, rfl, _, upd_same, ?_, ?_⟩
              · rw [txs_len]
                have h1 := List.length_filter_le (fun o => decide ((o = x ∨ Way (EP P) x o) ∧ (x = o ∨ Way (EP P) o x))) ((namesOf P).take j)
                have h2 : ((namesOf P).take j).length ≤ (namesOf P).length := List.length_take_le' ..
                rw [names_len] at h2
                exact line_lt (by omega)
              · rw [upd_upd, txs_snoc, hfl]
            · have q2' : ¬ (x = o ∨ Way (EP P) o x) := fun h => q2 (decide_eq_true ((ho2 x).mpr h))
              rw [if_neg (by simp only [decide_eq_true_eq]; exact fun h => q2' h.2)] at hfl
              rw [hfl]
          · have q1' : ¬ (o = x ∨ Way (EP P) x o) := fun h => q1 (decide_eq_true ((hx2 o).mpr h))
            rw [if_neg (by simp only [decide_eq_true_eq]; exact fun h => q1' h.1)] at hfl
            rw [hfl]
            exact iteF rfl
        · rintro H2 rfl
          rw [hvl, ← names_len, List.take_length]
          generalize hcl : ((namesOf P).filter fun o => decide ((o = x ∨ Way (EP P) x o) ∧ (x = o ∨ Way (EP P) o x))) = tg
          have etg : cls (namesOf P) (EP P) x = tg := by rw [← hcl]; rfl
          have htl : tg.length ≤ 8 := by
            have := List.length_filter_le (fun o => decide ((o = x ∨ Way (EP P) x o) ∧ (x = o ∨ Way (EP P) o x))) (namesOf P)
            rw [hcl, names_len] at this
            omega
          refine ⟨D, _, rfl, .inl ⟨SqL.of upd_same, fun tt htt => ?_⟩⟩
          have sT : Same H' (upd (upd H' D (.lst (txs tg))) tt (.tup (txs tg))) := (Same.new hD _).trans (Same.new htt _)
          generalize hHt : upd (upd H' D (.lst (txs tg))) tt (.tup (txs tg)) = Ht at sT
          have htt' : Ht tt = some (.tup (txs tg)) := by rw [← hHt, upd_same]
          have hLt : Ht La = some (.dK kv2) := sT _ _ hLa'
          -- for other in tangle: laid[other] = True
          refine ⟨_, rfl, tt, rfl, ⟨_, SqT.of htt'⟩, for_tup (K := K) (a := tt) (xs := txs tg) (fun j σ H3 => ∃ (c7 : Option V) (kv3 : List (Key × V)), σ = [some (.ref a), some (.ref d), some (.str x), some z, some (.ref La), some (.ref Fo), some (.ref tt), c7, c8] ∧ H3 = upd Ht La (.dK kv3) ∧ kv3.length ≤ kv2.length + j ∧
              ∀ y, (valV kv3 (.inr y)).isSome = ((valV kv2 (.inr y)).isSome || decide (y ∈ tg.take j)))
            ⟨_, kv2, rfl, ?_, Nat.le_refl _, fun y => by rw [List.take_zero]; simp⟩ (fun j σ H3 _ ⟨_, _, _, e, _⟩ => by rw [e]; exact SqT.of (by rw [upd_ne (ne_of htt' hLt (by intro z; cases z))]; exact htt')) ?_ ?_⟩
          · funext q
            unfold upd
            split
            · rename_i e; rw [e]; exact hLt
            · rfl
          · rintro j y σ H3 hj ⟨c7', kv3, rfl, rfl, hk3, hv3⟩
            obtain ⟨o, ho, rfl⟩ := txs_get hj
            have hjl : j < tg.length := (List.getElem?_eq_some_iff.mp ho).1
            refine ⟨_, rfl, _, rfl, La, _, rfl, DPut.k (k := .inr o) upd_same (line_lt (by omega)), ?_⟩
            refine ⟨_, putK kv3 (.inr o) (.bl true), rfl, upd_upd, by have := length_putK kv3 (.inr o) (.bl true); omega, fun y => ?_⟩
            rw [valV_put, List.take_add_one, ho]
            by_cases e : y = o
            · subst e
              rw [if_pos rfl]
              simp
            · have ne : ¬ (Sum.inr y : Key) = Sum.inr o := fun q => e (Sum.inr.inj q)
              rw [if_neg ne, hv3 y]
              simp [e]
          · rintro σ H3 ⟨c7', kv3, rfl, rfl, hk3, hv3⟩
            rw [txs_len] at hk3 hv3
            have hF3 : upd Ht La (.dK kv3) Fo = some (.lst vs') := by rw [upd_ne nLF.symm]; exact sT _ _ hFo'
            have nFt : tt ≠ Fo := ne_of htt' (sT _ _ hFo') (by intro z; cases z)
            have nLt : tt ≠ La := ne_of htt' hLt (by intro z; cases z)
            refine ⟨_, rfl, .inl ⟨rfl, _, SqL.of hF3⟩, _, rfl, Fo, _, _, rfl, rfl, hF3, line_lt (by omega), ?_⟩
            have kT : TSame H' (upd (upd Ht La (.dK kv3)) Fo (.lst (vs' ++ [.ref tt]))) := fun b xs q => by
              have q' := sT _ _ q
              rw [upd_ne (ne_of q' (sT _ _ hFo') (by intro z; cases z)), upd_ne (ne_of q' hLt (by intro z; cases z))]
              exact q'
            refine ⟨_, _, _, _, _, kv3, vs' ++ [.ref tt], rfl, ((hs'.trans sT).upd hLa _).upd hFo1 _, by rw [upd_ne nLF, upd_same], upd_same, ?_, by omega, by simp; omega, fun y => ?_⟩
            · exact psnoc (pmono hpf fun v c q => q.keep kT) ⟨tt, rfl, by rw [upd_ne nFt, upd_ne nLt, etg]; exact htt'⟩
            · rw [hv3, hany, List.any_append, etg, List.take_length]
              simp
    · rintro σ H' ⟨c2, c3, c6, c7, c8, kv2, vs', rfl, hs', hLa', hFo', hpf, hk2, hv2, hany⟩
      refine ⟨_, rfl, Fo, _, rfl, .inl ⟨SqL.of hFo', fun l hl => ?_⟩⟩
      rw [hvl, ← names_len, List.take_length] at hpf
      have s3 := (hs.trans hs')
      exact k _ l vs' (s3.upd (s3.free hl) _) upd_same (pmono hpf fun v c q => q.keep (Same.new hl _).tups)
end
end Bh
namespace Bh
open PySem L2
def key2 (p : Str × Str) : List Key := [.inr p.1, .inr p.2]
theorem key2_inj {p q : Str × Str} (h : key2 p = key2 q) : p = q := by
  obtain ⟨a, b⟩ := p
  obtain ⟨c, d⟩ := q
  unfold key2 at h
  have h1 := List.cons.inj h
  have h2 := List.cons.inj h1.2
  have e1 : a = c := Sum.inr.inj h1.1
  have e2 : b = d := Sum.inr.inj h2.1
  rw [e1, e2]
def rowP (q : Str × Str → Bool) (names : List Str) (x : Str) : List (Str × Str) := (names.filter fun o => q (x, o)).map fun o => (x, o)
theorem prod_snoc (q : Str × Str → Bool) (names l : List Str) (x : Str) : (l ++ [x]).flatMap (rowP q names) = l.flatMap (rowP q names) ++ rowP q names x := by
  rw [List.flatMap_append, List.flatMap_cons, List.flatMap_nil, List.append_nil]
theorem rowP_len (q : Str × Str → Bool) (names : List Str) (x : Str) : (rowP q names x).length ≤ names.length := by
  unfold rowP
  rw [List.length_map]
  exact List.length_filter_le _ _
theorem prod_len (q : Str × Str → Bool) (names : List Str) : ∀ l : List Str, (l.flatMap (rowP q names)).length ≤ l.length * names.length
  | [] => by simp
  | x :: l => by
    rw [List.flatMap_cons, List.length_append, List.length_cons, Nat.succ_mul]
    have := prod_len q names l
    have := rowP_len q names x
    omega
section
variable {P : Program} {w : World} {K : PySem.W.Frag} {mg : Str → Option Value} {base : Heap}
/-! ### fewest -/
def spFewest : Sp := fun vs H Q _ => ∃ (v : V) (P : Parts), vs = [v] ∧ PartsAt H v P ∧ PGood P ∧ ∀ H' p vs' C, Same H H' → H' p = some (.tup vs') → Paired (PairAt H') vs' C → Few (namesOf P) (EP P) C → C.length ≤ 64 → Q (.ref p) H'
abbrev n_fewest : List Str := ["parts", "some", "tangle", "gone", "pair", "names", "found", "part", "rows", "other"]
abbrev p_fewest : List Str := ["parts"]
theorem sc_fewest : FnScope n_fewest p_fewest (defScope s_fewest) := ⟨rfl, rfl, rfl, by decide +kernel, rfl, by decide +kernel, by decide +kernel⟩
theorem ok_fewest {f f1 f2 : Addr} {fd fd1 fd2 : FuncData} (F : Fun K "fewest" "fewest" s_fewest f fd) (B : Bi mg) (c_tangles : Here P w K mg base "tangles" 15 f1 fd1 p_tangles spTangles) (c_tangle_cut : Here P w K mg base "tangle_cut" 6 f2 fd2 p_tangle_cut spCut) :
    FnOk P w K mg base CX0 16 f fd p_fewest spFewest := by
  refine F.ok sc_fewest (fun vs H Q E h => ?_) (fun cdv A outer s H vs Q E hr h => ?_)
  · obtain ⟨v, P, rfl, _⟩ := h
    rfl
  obtain ⟨v, P, rfl, hP, g, k⟩ := h
  obtain ⟨tk, hmost⟩ := B.most
  refine ⟨_, (pss_cons (ps_set (i := 1) sc_fewest.nd rfl (Or.inl rfl) (pe_call c_tangles.ok (hr.mono (by decide)) rfl c_tangles.mgx c_tangles.kp c_tangles.b .nil pass0 (pa_cons (pv 0) pa_nil)))
        (pss_cons (ps_for PassesOwn.never rfl (pi_tup (pv 1)) (pg_name (i := 2) sc_fewest.nd rfl (Or.inl rfl)) (pss_one (ps_if (pt_cmpR op_gt (pe_callB call_len_seq (by rfl) B.len (by decide +kernel) (pa_cons (pv 2) pa_nil)) (pe_glob (v := V.int 8) rfl hmost ⟨_, rfl⟩) (nomark _)) (pss_one ps_never) pss_nil)))
        (pss_cons (ps_set (i := 3) sc_fewest.nd rfl (Or.inr rfl) pe_dnewT)
        (pss_cons (ps_for PassesOwn.never rfl (pi_tup (pv 1)) (pg_name (i := 2) sc_fewest.nd rfl (Or.inl rfl)) (pss_one (ps_for PassesOwn.never rfl (pi_list (pe_call c_tangle_cut.ok (hr.mono (by decide)) rfl c_tangle_cut.mgx c_tangle_cut.kp c_tangle_cut.b .nil pass0 (pa_cons (pv 0) (pa_cons (pv 2) pa_nil)))) (pg_name (i := 4) sc_fewest.nd rfl (Or.inl rfl)) (pss_one (ps_dput (hu_of hr) (pv 3) (pv 4) pe_bl rfl)))))
        (pss_cons (ps_setLc (i := 5) (own := [("part", 7), ("rows", 8)]) (g := gTup K 2 (gCons (gName 7) (gCons (gName 8) gNil))) (tt := tYes) (by rfl) sc_fewest.nd rfl rfl (sw_true rfl rfl rfl (by decide +kernel)) (pi_tup (pv 0)) (blkOk_by (own := [("part", 7), ("rows", 8)]) (N := n_fewest) (sc := defScope s_fewest) (by decide +kernel)) (fun _ _ _ _ _ => (pg_tup rfl (pgs_cons (pg_name (i := 7) sc_fewest.nd rfl (Or.inl rfl)) (pgs_cons (pg_name (i := 8) sc_fewest.nd rfl (Or.inl rfl)) pgs_nil)))) (fun _ _ _ _ _ => pts_nil) (fun _ _ _ _ _ => (pv 7)))
        (pss_cons (ps_set (i := 6) sc_fewest.nd rfl (Or.inl rfl) (pe_lst pa_nil))
        (pss_cons (ps_for PassesOwn.never rfl (pi_list (pv 5)) (pg_name (i := 7) sc_fewest.nd rfl (Or.inr rfl)) (pss_one (ps_expr (pe_bm PySem.F.plainAttrs_list PySem.F.slot_list_extend PySem.F.type_list_extend mt_extend (pv 6) (pa_cons (pe_lc (own := [("other", 9)]) (g := gName 9) rfl sc_fewest.nd (pi_list (pv 5)) (blkOk_by (own := [("other", 9)]) (N := n_fewest) (sc := defScope s_fewest) (by decide +kernel)) (fun _ _ _ _ _ => (pg_name (i := 9) sc_fewest.nd rfl (Or.inl rfl))) (fun _ _ _ _ _ => (pts_one (pt_cmp (pc_din (hu_of hr) (pe_tup (pa_cons (pv 7) (pa_cons (pv 9) pa_nil))) (pv 3))))) (fun _ _ _ _ _ => (pe_tup (pa_cons (pv 7) (pa_cons (pv 9) pa_nil))))) pa_nil)))))
        (pss_one (ps_ret (pe_callTy call_tuple_of (by rfl) B.tuple (by decide +kernel) (pa_cons (pv 6) pa_nil))))))))))), ?_⟩
  have hlen := g.len
  have hnd := g.nd
  refine ⟨_, rfl, v, P, rfl, hP, g, fun H1 tp vt s1 htp hpt => ?_⟩
  obtain ⟨tg, htg⟩ : ∃ tg, tg = tangs (namesOf P) (EP P) := ⟨_, rfl⟩
  rw [← htg] at hpt
  have hvt := plen hpt
  have htn : ∀ t, t ∈ tg → t.Nodup ∧ (∀ x, x ∈ t → x ∈ namesOf P) ∧ t.length ≤ 8 := fun t ht => by
    rw [htg] at ht
    refine ⟨tangs_nodup hnd ht, fun x hx => tangs_names ht hx, ?_⟩
    have := tangs_len hnd ht
    rw [names_len] at this
    omega
  have htgl : tg.length ≤ 8 := by
    have h1 : tg.length ≤ (namesOf P).length := by
      have cover : ∀ (ps : List Str) (fn : List (List Str)), (tangM (cls (namesOf P) (EP P)) ps fn).length ≤ fn.length + ps.length := by
        intro ps
        induction ps with
        | nil => intro fn; exact Nat.le_refl _
        | cons p ps ih =>
          intro fn
          rw [tangM_cons]
          split
          · have := ih fn; rw [List.length_cons]; omega
          · have := ih (fn ++ [cls (namesOf P) (EP P) p]); rw [List.length_append, List.length_singleton] at this; rw [List.length_cons]; omega
      have := cover (namesOf P) []
      rw [htg]
      unfold tangs
      simpa using this
    rw [names_len] at h1
    omega
  -- no tangle has more than eight
  refine ⟨_, rfl, tp, rfl, ⟨_, SqT.of htp⟩, for_tup (K := K) (a := tp) (xs := vt) (fun i σ H' => ∃ (c2 : Option V), σ = [some v, some (.ref tp), c2, none, none, none, none, none, none, none] ∧ H' = H1)
    ⟨none, rfl, rfl⟩ (fun i σ H' _ ⟨_, _, e⟩ => by rw [e]; exact SqT.of htp) ?_ ?_⟩
  · rintro i y σ H' hi ⟨c2, rfl, rfl⟩
    obtain ⟨t, ht, a, rfl, ha⟩ := pget' hpt hi
    refine ⟨_, rfl, a, _, rfl, .inr (SqT.of ha), _, _, rfl, rfl, _, rfl, ?_⟩
    refine ite2 (fun q => ?_) (fun _ => ⟨_, rfl, rfl⟩)
    have q' : (8 : Int) < ((txs t).length : Int) := of_decide_eq_true q
    rw [txs_len] at q'
    have := (htn t (List.mem_of_getElem? ht)).2.2
    exact absurd this (by omega)
  rintro σ H1' ⟨c2, rfl, rfl⟩
  -- gone
  intro d hd
  have sd : Same H1' (upd H1' d (.dT [])) := Same.new hd _
  refine ⟨_, rfl, tp, rfl, ⟨_, SqT.of (sd _ _ htp)⟩, for_tup (K := K) (a := tp) (xs := vt) (fun i σ H' => ∃ (c2 c4 : Option V) (kvs : List (List Key × V)) (cs : List (List (Str × Str))), σ = [some v, some (.ref tp), c2, some (.ref d), c4, none, none, none, none, none] ∧ Same H1' H' ∧ H' d = some (.dT kvs) ∧ kvs.length ≤ 3000 * i ∧ cs.length = i ∧
      (∀ (j : Nat) (t : List Str) (c : List (Str × Str)), tg[j]? = some t → cs[j]? = some c → TCut (EP P) t c) ∧ ∀ p, (valV kvs (key2 p)).isSome = true ↔ ∃ c, c ∈ cs ∧ p ∈ c)
    ⟨_, none, [], [], rfl, sd, upd_same, Nat.le_refl _, rfl, fun j t c _ h => by simp at h, fun p => ⟨fun h => (nomatch h), fun ⟨c, h, _⟩ => (nomatch h)⟩⟩ (fun i σ H' _ ⟨_, _, _, _, _, s, _⟩ => SqT.of (s _ _ htp)) ?_ ?_⟩
  · rintro i y σ H' hi ⟨c2, c4, kvs, cs, rfl, hs, hd', hkl, hcl, hct, hiff⟩
    obtain ⟨t, ht, hta⟩ := pget' hpt hi
    have hil : i < vt.length := (List.getElem?_eq_some_iff.mp hi).1
    obtain ⟨n1, n2, n3⟩ := htn t (List.mem_of_getElem? ht)
    refine ⟨_, rfl, _, rfl, v, y, P, t, rfl, (hP.same s1).same hs, g, ⟨hta.same hs, n1, n2⟩, fun H2 L vl c s2 hL hpl hcut hc3 => ?_⟩
    have hvl := plen hpl
    have hd2 : H2 d = some (.dT kvs) := s2 _ _ hd'
    have ndL : d ≠ L := ne_of hd2 hL (by intro z; cases z)
    refine ⟨L, rfl, ⟨_, SqL.of hL⟩, for_list (K := K) (a := L) (xs := vl) (fun j σ H3 => ∃ (c4 : Option V) (kv3 : List (List Key × V)), σ = [some v, some (.ref tp), some y, some (.ref d), c4, none, none, none, none, none] ∧ H3 = upd H2 d (.dT kv3) ∧ kv3.length ≤ kvs.length + j ∧
        ∀ p, (valV kv3 (key2 p)).isSome = true ↔ ((valV kvs (key2 p)).isSome = true ∨ p ∈ c.take j))
      ⟨_, kvs, rfl, ?_, Nat.le_refl _, fun p => ⟨.inl, fun h => h.elim id fun h => by rw [List.take_zero] at h; cases h⟩⟩ (fun j σ H3 _ ⟨_, _, _, e, _⟩ => by rw [e]; exact SqL.of (by rw [upd_ne ndL.symm]; exact hL)) ?_ ?_⟩
    · funext q
      unfold upd
      split
      · rename_i e; rw [e]; exact hd2
      · rfl
    · rintro j y' σ H3 hj ⟨c4', kv3, rfl, rfl, hk3, hv3⟩
      obtain ⟨p, hpj, b, rfl, hb⟩ := pget' hpl hj
      have hjl : j < vl.length := (List.getElem?_eq_some_iff.mp hj).1
      have nbd : b ≠ d := ne_of hb hd2 (by intro z; cases z)
      have hb3 : upd H2 d (.dT kv3) b = some (.tup ((key2 p).map kV)) := by rw [upd_ne nbd]; exact hb
      refine ⟨_, rfl, _, rfl, d, _, rfl, DPut.t (k := key2 p) upd_same hb3 (line_lt (by omega)), ?_⟩
      refine ⟨_, putK kv3 (key2 p) (.bl true), rfl, upd_upd, by have := length_putK kv3 (key2 p) (.bl true); omega, fun p' => ?_⟩
      rw [valV_put, List.take_add_one, hpj]
      by_cases e : p' = p
      · subst e
        rw [if_pos rfl]
        exact ⟨fun _ => .inr (List.mem_append_right _ (List.mem_singleton.mpr rfl)), fun _ => rfl⟩
      · rw [if_neg fun q => e (key2_inj q), hv3 p']
        refine ⟨fun h => h.imp id fun h => List.mem_append_left _ h, fun h => h.imp id fun h => ?_⟩
        rcases List.mem_append.mp h with h | h
        · exact h
        · exact absurd (List.mem_singleton.mp h) e
    · rintro σ H3 ⟨c4', kv3, rfl, rfl, hk3, hv3⟩
      rw [hvl, List.take_length] at hv3
      refine ⟨_, _, kv3, cs ++ [c], rfl, (hs.trans s2).upd hd _, upd_same, by omega, by simp [hcl], fun j t' c' hj hc' => ?_, fun p => ?_⟩
      · by_cases e : j < i
        · rw [List.getElem?_append_left (by omega)] at hc'
          exact hct j t' c' hj hc'
        · have hj' : j < (cs ++ [c]).length := (List.getElem?_eq_some_iff.mp hc').1
          rw [List.length_append, List.length_singleton] at hj'
          have ej : j = i := by omega
          subst ej
          rw [List.getElem?_append_right (by omega), hcl] at hc'
          rw [ht] at hj
          cases hj
          simp at hc'
          subst hc'
          exact hcut
      · rw [hv3, hiff]
        constructor
        · rintro (⟨c', h1, h2⟩ | h)
          · exact ⟨c', List.mem_append_left _ h1, h2⟩
          · exact ⟨c, List.mem_append_right _ (List.mem_singleton.mpr rfl), h⟩
        · rintro ⟨c', h1, h2⟩
          rcases List.mem_append.mp h1 with h1 | h1
          · exact .inl ⟨c', h1, h2⟩
          · rw [List.mem_singleton.mp h1] at h2; exact .inr h2
  rintro σ H2 ⟨c2, c4, kvs, cs, rfl, hs, hd', hkl, hcl, hct, hiff⟩
  have hP2 : PartsAt H2 v P := (hP.same s1).same hs
  obtain ⟨a, vp, rfl, ha, hp⟩ := id hP2
  have hvl := plen hp
  -- names = [part for part, rows in parts]
  refine ⟨_, rfl, a, rfl, ⟨_, SqT.of ha⟩, fun Na hNa => lc_tup (K := K) (a := a) (xs := vp) (fun j H' => H' = upd H2 Na (.lst (txs ((namesOf P).take j)))) rfl (fun j H' _ e => by rw [e]; exact SqT.of ((Same.new hNa _) _ _ ha)) ?_ ?_⟩
  · rintro j y H' hj rfl
    obtain ⟨⟨o, rs'⟩, hpj, b', z', rfl, hb', hrs'⟩ := pget' hp hj
    have hjl : j < vp.length := (List.getElem?_eq_some_iff.mp hj).1
    refine ⟨b', _, rfl, SqT.of ((Same.new hNa _) _ _ hb'), rfl, _, _, rfl, _, _, rfl, rfl, rfl, ?_⟩
    refine ⟨_, rfl, _, upd_same, ?_, ?_⟩
    · rw [txs_len]
      have h2 : ((namesOf P).take j).length ≤ (namesOf P).length := List.length_take_le' ..
      rw [names_len] at h2
      exact line_lt (by omega)
    · rw [upd_upd, txs_snoc, names_take hpj]
  rintro H' rfl
  rw [hvl, ← names_len, List.take_length]
  have hlN := names_len P
  have sN : Same H2 (upd H2 Na (.lst (txs (namesOf P)))) := Same.new hNa _
  generalize hH3 : upd H2 Na (.lst (txs (namesOf P))) = H3 at sN
  have hN3 : H3 Na = some (.lst (txs (namesOf P))) := by rw [← hH3, upd_same]
  have hd3 : H3 d = some (.dT kvs) := sN _ _ hd'
  refine ⟨Nat.zero_le _, fun D hD => ?_⟩
  have nND : Na ≠ D := ne_of_none hN3 hD
  have ndD : d ≠ D := ne_of_none hd3 hD
  have sD : Same H3 (upd H3 D (.lst [])) := Same.new hD _
  generalize hq : (fun p => (valV kvs (key2 p)).isSome) = q
  have hq' : ∀ p, q p = true ↔ ∃ c, c ∈ cs ∧ p ∈ c := fun p => by rw [← hq]; exact hiff p
  refine ⟨_, rfl, Na, rfl, ⟨_, SqL.of (sD _ _ hN3)⟩, for_list (K := K) (a := Na) (xs := txs (namesOf P)) (fun i σ H' => ∃ (c7 c8 c9 : Option V) (vs' : List V), σ = [some (.ref a), some (.ref tp), c2, some (.ref d), c4, some (.ref Na), some (.ref D), c7, c8, c9] ∧ Keep D H3 H' ∧ H' D = some (.lst vs') ∧ Paired (PairAt H') vs' (((namesOf P).take i).flatMap (rowP q (namesOf P))))
    ⟨_, _, _, [], rfl, Keep.of sD, upd_same, .nil⟩ (fun i σ H' _ ⟨_, _, _, _, _, kk, _⟩ => SqL.of (kk _ _ hN3 nND)) ?_ ?_⟩
  · rintro i y σ H' hi ⟨c7, c8, c9, vs', rfl, kk, hD', hpv⟩
    obtain ⟨x, hx, rfl⟩ := txs_get hi
    have hN' : H' Na = some (.lst (txs (namesOf P))) := kk _ _ hN3 nND
    have hdx : H' d = some (.dT kvs) := kk _ _ hd3 ndD
    have hvl' := plen hpv
    have hpl := prod_len q (namesOf P) ((namesOf P).take i)
    have htk : ((namesOf P).take i).length ≤ (namesOf P).length := List.length_take_le' ..
    have hpl2 : (((namesOf P).take i).flatMap (rowP q (namesOf P))).length ≤ 64 := Nat.le_trans hpl (Nat.le_trans (Nat.mul_le_mul (by omega) (by omega)) (by decide : 8 * 8 ≤ 64))
    refine ⟨_, rfl, .inl ⟨rfl, _, SqL.of hD'⟩, ?_⟩
    refine ⟨_, rfl, Na, rfl, ⟨_, SqL.of hN'⟩, fun E hE => lc_list (K := K) (a := Na) (xs := txs (namesOf P)) (fun j H4 => ∃ ve, Keep E (upd H' E (.lst [])) H4 ∧ H4 E = some (.lst ve) ∧ Paired (PairAt H4) ve ((((namesOf P).take j).filter fun o => q (x, o)).map fun o => (x, o)))
      ⟨[], Keep.refl _ _, upd_same, .nil⟩ (fun j H4 _ ⟨ve, k4, _, _⟩ => SqL.of (k4.same (Same.new hE _) hE _ _ hN')) ?_ ?_⟩
    · rintro j y H4 hj ⟨ve, k4, hE4, hpe⟩
      obtain ⟨o, ho, rfl⟩ := txs_get hj
      have s4 : Same H' H4 := k4.same (Same.new hE _) hE
      have hve := plen hpe
      have hfl := filter_take (q := fun o => q (x, o)) ho
      refine ⟨rfl, ?_⟩
      refine ⟨_, rfl, _, rfl, by show 2 ≤ sizeLine; decide, fun p hp => ?_⟩
      have hd4 : (upd H4 p (.tup [.str x, .str o])) d = some (.dT kvs) := (Same.new hp _) _ _ (s4 _ _ hdx)
      refine ⟨_, rfl, d, _, rfl, DGet.t (k := key2 (x, o)) hd4 upd_same, _, rfl, ?_⟩
      have eq1 : (valV kvs (key2 (x, o))).isSome = q (x, o) := by rw [← hq]
      rw [eq1]
      have nEp : E ≠ p := ne_of_none hE4 hp
      have hE5 : (upd H4 p (.tup [.str x, .str o])) E = some (.lst ve) := by rw [upd_ne nEp]; exact hE4
      have k5 : Keep E H4 (upd H4 p (.tup [.str x, .str o])) := Keep.of (Same.new hp _)
      refine ite2 (fun c => ?_) (fun c => ?_)
      · rw [if_pos c] at hfl
        refine ⟨_, rfl, _, rfl, by show 2 ≤ sizeLine; decide, fun p2 hp2 => ?_⟩
        have nEp2 : E ≠ p2 := ne_of_none hE5 hp2
        have k6 : Keep E H4 (upd (upd H4 p (.tup [.str x, .str o])) p2 (.tup [.str x, .str o])) := k5.trans (Keep.of (Same.new hp2 _))
        have hE6 : (upd (upd H4 p (.tup [.str x, .str o])) p2 (.tup [.str x, .str o])) E = some (.lst ve) := by rw [upd_ne nEp2]; exact hE5
        have hvel : ve.length ≤ 8 := by
          rw [hve, List.length_map]
          have h1 := List.length_filter_le (fun o => q (x, o)) ((namesOf P).take j)
          have h2 : ((namesOf P).take j).length ≤ (namesOf P).length := List.length_take_le' ..
          omega
        refine ⟨ve, hE6, line_lt (by omega), ve ++ [.ref p2], (k4.trans k6).trans Keep.put, upd_same, ?_⟩
        rw [hfl, List.map_append]
        exact psnoc (pmono hpe fun v c q => q.keep ((k6.trans Keep.put).tups hE4)) ⟨p2, rfl, by rw [upd_ne nEp2.symm, upd_same]⟩
      · rw [if_neg c] at hfl
        refine ⟨ve, k4.trans k5, hE5, ?_⟩
        rw [hfl]
        exact pmono hpe fun v c q => q.keep (k5.tups hE4)
    · rintro H4 ⟨ve, k4, hE4, hpe⟩
      rw [txs_len, List.take_length] at hpe
      have s4 : Same H' H4 := k4.same (Same.new hE _) hE
      have hD4 : H4 D = some (.lst vs') := s4 _ _ hD'
      have hve := plen hpe
      have hrl : ve.length ≤ 8 := by
        rw [hve, List.length_map]
        have h1 := List.length_filter_le (fun o => q (x, o)) (namesOf P)
        omega
      refine ⟨D, E, _, _, rfl, rfl, hD4, hE4, line_of (by omega), ?_⟩
      have kk4 : Keep D H' (upd H4 D (.lst (vs' ++ ve))) := (Keep.of s4).trans Keep.put
      refine ⟨_, _, _, vs' ++ ve, rfl, kk.trans kk4, upd_same, ?_⟩
      rw [List.take_add_one, hx, show (some x).toList = [x] from rfl, prod_snoc]
      have papp : ∀ {xs xs' : List V} {ys ys' : List (Str × Str)} {R : V → Str × Str → Prop}, Paired R xs ys → Paired R xs' ys' → Paired R (xs ++ xs') (ys ++ ys') := fun {xs xs' ys ys' R} h h' => by
        induction h with
        | nil => exact h'
        | cons a _ ih => exact .cons a ih
      exact papp (pmono hpv fun v c q => q.keep (kk4.tups hD')) (pmono hpe fun v c q => q.keep (Keep.tups (L := D) Keep.put hD4))
  · rintro σ H' ⟨c7, c8, c9, vs', rfl, kk, hD', hpv⟩
    rw [txs_len, List.take_length] at hpv
    refine ⟨_, rfl, D, _, rfl, .inl ⟨SqL.of hD', fun l hl => ?_⟩⟩
    have sAll : Same H H' := ((s1.trans hs).trans sN).trans (kk.same (Same.refl _) hD)
    refine k _ l vs' _ (sAll.upd (sAll.free hl) _) upd_same (pmono hpv fun v c q => q.keep (Same.new hl _).tups) ⟨cs, q, ?_, ?_, hq', rfl⟩ ?_
    · rw [hcl, hvt, htg]
    · rw [← htg]; exact hct
    · exact Nat.le_trans (prod_len q (namesOf P) (namesOf P)) (Nat.le_trans (Nat.mul_le_mul (by omega) (by omega)) (by decide : 8 * 8 ≤ 64))
end
end Bh
namespace Bh
open PySem L2 BhX
open PySem.W (Datum Tup)
/-! ### a way that is walked -/
inductive Tr (E : Str → Str → Prop) (x : Str) : List Str → Str → Prop where
  | start : Tr E x [x] x
  | step {w : List Str} {y z : Str} : Tr E x w y → E y z → Tr E x (w ++ [z]) z
theorem Tr.ne {E : Str → Str → Prop} {x y : Str} {w : List Str} (h : Tr E x w y) : w ≠ [] := by
  cases h with
  | start => simp
  | step _ _ => simp
theorem Tr.last {E : Str → Str → Prop} {x y : Str} {w : List Str} (h : Tr E x w y) : w.getLast? = some y := by
  cases h with
  | start => rfl
  | step _ _ => simp
theorem Tr.head {E : Str → Str → Prop} {x y : Str} {w : List Str} (h : Tr E x w y) : w[0]? = some x := by
  induction h with
  | start => rfl
  | step h _ ih =>
    rw [List.getElem?_append_left (List.length_pos_iff.mpr h.ne)]
    exact ih
theorem Tr.way {E : Str → Str → Prop} {x y : Str} {w : List Str} (h : Tr E x w y) : (w = [x] ∧ y = x) ∨ Way E x y := by
  induction h with
  | start => exact .inl ⟨rfl, rfl⟩
  | step h e ih =>
    rcases ih with ⟨rfl, rfl⟩ | q
    · exact .inr (.one e)
    · exact .inr (q.snoc e)
theorem Tr.edges {E : Str → Str → Prop} {x y : Str} {w : List Str} (h : Tr E x w y) : ∀ i a b, w[i]? = some a → w[i + 1]? = some b → E a b := by
  induction h with
  | start => intro i a b h1 h2; simp at h2
  | @step w y z h e ih =>
    intro i a b h1 h2
    have hi := (List.getElem?_eq_some_iff.mp h2).1
    rw [List.length_append, List.length_singleton] at hi
    by_cases c : i + 1 < w.length
    · rw [List.getElem?_append_left (by omega)] at h1
      rw [List.getElem?_append_left c] at h2
      exact ih i a b h1 h2
    · have ei : i + 1 = w.length := by omega
      rw [List.getElem?_append_left (by omega)] at h1
      rw [List.getElem?_append_right (by omega), ei] at h2
      simp at h2
      subst h2
      have hl := h.last
      rw [List.getLast?_eq_getElem?] at hl
      have : w.length - 1 = i := by omega
      rw [this, h1] at hl
      cases hl
      exact e
/-- the parts that are seen, as they stand: x itself and S -/
structure Bfs (P : Parts) (x : Str) (S : List Str) (Dn : Str → Prop) (Wy : List (List Str)) : Prop where
  nd : S.Nodup
  nm : ∀ y, y ∈ S → y ∈ namesOf P
  cov : ∀ y, (y = x ∨ y ∈ S) → Dn y ∨ ∃ w, w ∈ Wy ∧ w.getLast? = some y
  don : ∀ y, Dn y → ∀ z, EP P y z → z ≠ x ∧ z ∈ S
  tr : ∀ w, w ∈ Wy → ∃ y, Tr (EP P) x w y ∧ y ∈ namesOf P
  len : ∀ w, w ∈ Wy → w.length ≤ S.length + 1
theorem Bfs.none {P : Parts} {x : Str} {S : List Str} {Dn : Str → Prop} (b : Bfs P x S Dn []) : ¬ Way (EP P) x x := by
  have key : ∀ y z, Way (EP P) y z → (y = x ∨ y ∈ S) → z ≠ x := fun y z h => by
    induction h with
    | one e =>
      intro hy
      rcases b.cov _ hy with q | ⟨w, hw, _⟩
      · exact (b.don _ q _ e).1
      · cases hw
    | more e _ ih =>
      intro hy
      rcases b.cov _ hy with q | ⟨w, hw, _⟩
      · exact ih (.inr (b.don _ q _ e).2)
      · cases hw
  exact fun h => key x x h (.inl rfl) rfl
section
variable {P : Program} {w : World} {K : PySem.W.Frag} {mg : Str → Option Value} {base : Heap}
theorem ways_hd {K : PySem.W.Frag} {H : Hp} {A : Addr} {vs : List V} {Wy : List (List Str)} (h : H A = some (.lst vs)) (hp : Paired (StrsT H) vs Wy) : HD K H (.ref A) (Wy.map Tup.mk) := by
  refine hd_lst (SqL.of h) (hds_of ?_)
  induction hp with
  | nil => exact .nil
  | cons a _ ih =>
    obtain ⟨b, rfl, hb⟩ := a
    exact .cons (hd_tup (SqT.of hb) (hds_strs _)) (by
      rename_i t
      have : ∀ {vs : List V} {Wy : List (List Str)}, Paired (StrsT H) vs Wy → Paired (fun v x => HD K H v x) vs (Wy.map Tup.mk) := fun {vs Wy} q => by
        induction q with
        | nil => exact .nil
        | cons a _ ih =>
          obtain ⟨b, rfl, hb⟩ := a
          exact .cons (hd_tup (SqT.of hb) (hds_strs _)) ih
      exact this t)
/-! ### shortest -/
def spShortest : Sp := fun vs H Q _ => ∃ (v : V) (x : Str) (P : Parts) (sa ea : Addr), vs = [v, .ref sa, .ref ea] ∧ PartsAt H v P ∧ PGood P ∧ x ∈ namesOf P ∧ H sa = some (.lst [.str x]) ∧ H ea = some (.lst [.str x]) ∧
  (∀ H', Same H H' → ¬ Way (EP P) x x → Q .non H') ∧ ∀ H' p w y, Same H H' → H' p = some (.tup (txs (w ++ [x]))) → Tr (EP P) x w y → EP P y x → w.length ≤ 9 → Q (.ref p) H'
abbrev n_shortest : List Str := ["parts", "starts", "ends", "ways", "seen", "farther", "way", "other", "part"]
abbrev p_shortest : List Str := ["parts", "starts", "ends"]
theorem sc_shortest : FnScope n_shortest p_shortest (defScope s_shortest) := ⟨rfl, rfl, rfl, by decide +kernel, rfl, by decide +kernel, by decide +kernel⟩
theorem ok_shortest {f f1 : Addr} {fd fd1 : FuncData} (F : Fun K "shortest" "shortest" s_shortest f fd) (B : Bi mg) (c_brings : Here P w K mg base "brings" 3 f1 fd1 p_brings (spBringsBy [])) : FnOk P w K mg base CX0 4 f fd p_shortest spShortest := by
  refine F.ok sc_shortest (fun vs H Q E h => ?_) (fun cdv A outer s H vs Q E hr h => ?_)
  · obtain ⟨v, x, P, sa, ea, rfl, _⟩ := h
    rfl
  obtain ⟨v, x, P, sa, ea, rfl, hP, g, hx, hsa, hea, kN, kW⟩ := h
  refine ⟨_, (pss_cons (ps_setLc (i := 3) (own := [("part", 8)]) (g := gName 8) (tt := tYes) (by rfl) sc_shortest.nd rfl rfl (sw_true rfl rfl rfl (by decide +kernel)) (pi_list (pv 1)) (blkOk_by (own := [("part", 8)]) (N := n_shortest) (sc := defScope s_shortest) (by decide +kernel)) (fun _ _ _ _ _ => (pg_name (i := 8) sc_shortest.nd rfl (Or.inl rfl))) (fun _ _ _ _ _ => pts_nil) (fun _ _ _ _ _ => (pe_tup (pa_cons (pv 8) pa_nil))))
        (pss_cons (ps_set (i := 4) sc_shortest.nd rfl (Or.inl rfl) pe_dnewK)
        (pss_cons (ps_while PassesOwn.never (pt_cmpR (op_neDat (α := List (Tup Str)) hr.units) (pv 3) (pe_lst pa_nil) (nomark _)) (pss_cons (ps_set (i := 5) sc_shortest.nd rfl (Or.inl rfl) (pe_lst pa_nil))
          (pss_cons (ps_for PassesOwn.never rfl (pi_list (pv 3)) (pg_name (i := 6) sc_shortest.nd rfl (Or.inl rfl)) (pss_one (ps_for PassesOwn.never rfl (pi_tup (pe_call c_brings.ok (hr.mono (by decide)) rfl c_brings.mgx c_brings.kp c_brings.b .nil pass0 (pa_cons (pv 0) (pa_cons (pe_ix ix_tup (pv 6) (pe_un un_neg pe_int) (fun _ _ => rfl)) pa_nil)))) (pg_name (i := 7) sc_shortest.nd rfl (Or.inl rfl)) (pss_cons (ps_if (pt_cmpR op_in_seq (pv 7) (pv 2) (by rfl)) (pss_one (ps_ret (pe_op op_catT (pv 6) (pe_tup (pa_cons (pv 7) pa_nil))))) pss_nil)
              (pss_one (ps_if (pt_cmp (pc_dnotin (hu_of hr) (pv 7) (pv 4))) (pss_cons (ps_dput (hu_of hr) (pv 4) (pv 7) pe_bl rfl)
                (pss_one (ps_expr (pe_bm PySem.F.plainAttrs_list PySem.F.slot_list_append PySem.F.type_list_append mt_append (pv 5) (pa_cons (pe_op op_catT (pv 6) (pe_tup (pa_cons (pv 7) pa_nil))) pa_nil))))) pss_nil))))))
          (pss_one (ps_set (i := 3) sc_shortest.nd rfl (Or.inl rfl) (pv 5))))))
        (pss_one (ps_ret pe_non))))), ?_⟩
  have hlen := g.len
  have hxlen : (namesOf P).length ≤ 8 := by rw [names_len]; exact hlen
  -- ways = [(part,) for part in starts]
  refine ⟨_, rfl, sa, rfl, ⟨_, SqL.of hsa⟩, fun A0 hA0 => lc_list (K := K) (a := sa) (xs := [.str x]) (fun i H' => Same H H' ∧ ∃ vs, H' A0 = some (.lst vs) ∧ Paired (StrsT H') vs (([[x]] : List (List Str)).take i))
    ⟨Same.new hA0 _, [], upd_same, .nil⟩ (fun i H' _ ⟨s, _⟩ => SqL.of (s _ _ hsa)) ?_ ?_⟩
  · rintro i y H' hi ⟨s, vs, hv, hp⟩
    have hi0 : i = 0 := by
      have := (List.getElem?_eq_some_iff.mp hi).1
      simpa using this
    subst hi0
    have ey : y = .str x := by simpa using hi.symm
    subst ey
    have ev : vs = [] := by cases hp; rfl
    subst ev
    refine ⟨rfl, ?_⟩
    refine ⟨_, rfl, by show 1 ≤ sizeLine; decide, fun p hp' => ?_⟩
    have nA : A0 ≠ p := ne_of_none hv hp'
    refine ⟨[], by rw [upd_ne nA]; exact hv, by decide, (s.trans (Same.new hp' _)).upd hA0 _, _, upd_same, .cons ⟨p, rfl, by rw [upd_ne nA.symm, upd_same]; rfl⟩ .nil⟩
  rintro H1 ⟨s1, vs1, hv1, hp1⟩
  have hp1' : Paired (StrsT H1) vs1 [[x]] := hp1
  intro Sd hSd
  have hSdH : H Sd = Option.none := s1.free hSd
  have nAS : A0 ≠ Sd := ne_of_none hv1 hSd
  have sS : Same H1 (upd H1 Sd (.dK [])) := Same.new hSd _
  have Sem1 : ∀ {y : Str}, y ∈ namesOf P → ∀ {z}, EP P y z → z ∈ namesOf P := by
    intro y _ z e
    exact ((g.graph).dom _ _ e).2
  -- the levels
  refine ⟨fun m σ H' => ∃ (va : Addr) (c5 c6 c7 c8 : Option V) (vs : List V) (Wy : List (List Str)) (kvs : List (Key × V)) (S : List Str) (Dn : Str → Prop), σ = [some v, some (.ref sa), some (.ref ea), some (.ref va), some (.ref Sd), c5, c6, c7, c8] ∧ Same H H' ∧ H va = Option.none ∧
      H' va = some (.lst vs) ∧ Paired (StrsT H') vs Wy ∧ H' Sd = some (.dK kvs) ∧ kvs.length ≤ S.length ∧ (∀ y, (valV kvs (.inr y)).isSome = decide (y ∈ S)) ∧ Bfs P x S Dn Wy ∧ Wy.length ≤ S.length + 1 ∧ m = 2 * (P.length - S.length) + (if Wy = [] then 0 else 1),
    ⟨_, A0, none, none, none, none, vs1, [[x]], [], [], fun _ => False, rfl, s1.trans sS, hA0, by rw [upd_ne nAS]; exact hv1, pmono hp1' fun v c q => q.keep sS.tups, upd_same, Nat.le_refl _, fun y => rfl,
      ⟨List.Pairwise.nil, (fun y h => (nomatch h)), fun y hy => .inr ⟨[x], List.mem_singleton.mpr rfl, by rcases hy with rfl | hy; rfl; cases hy⟩, (fun y h => h.elim), fun w hw => by rw [List.mem_singleton.mp hw]; exact ⟨x, .start, hx⟩, fun w hw => by rw [List.mem_singleton.mp hw]; exact Nat.le_refl _⟩, Nat.le_refl _, rfl⟩, ?_⟩
  rintro m σ H2 ⟨va, c5, c6, c7, c8, vs, Wy, kvs, S, Dn, rfl, hs, hva0, hva, hpw, hSd2, hkl, hks, bf, hWl, hm⟩
  have hSl : S.length ≤ P.length := nm_len bf.nd bf.nm
  refine ⟨_, rfl, Nat.zero_le _, fun p hp => ?_⟩
  have s2 : Same H2 (upd H2 p (.lst [])) := Same.new hp _
  refine ⟨Wy.map Tup.mk, [], ways_hd (s2 _ _ hva) (pmono hpw fun v c q => q.keep s2.tups), hd_lst (SqL.of upd_same) (by exact DpAll.nil), _, rfl, ?_⟩
  generalize hH3 : upd H2 p (.lst []) = H3 at s2
  have hva3 : H3 va = some (.lst vs) := s2 _ _ hva
  have hSd3 : H3 Sd = some (.dK kvs) := s2 _ _ hSd2
  have hs3 := hs.trans s2
  have hpw3 : Paired (StrsT H3) vs Wy := pmono hpw fun v c q => q.keep s2.tups
  have hvl := plen hpw3
  refine ite2 (fun q => ?_) (fun q => ?_)
  · have neW : Wy ≠ [] := fun e => by rw [e] at q; simp at q
    rw [if_neg neW] at hm
    refine ⟨fun σ' H4 => ∃ (va' : Addr) (c5 c6 c7 c8 : Option V) (vs' : List V) (FW : List (List Str)) (kvs' : List (Key × V)) (S' : List Str) (Dn' : Str → Prop), σ' = [some v, some (.ref sa), some (.ref ea), some (.ref va'), some (.ref Sd), c5, c6, c7, c8] ∧ Same H H4 ∧ H va' = Option.none ∧
        H4 va' = some (.lst vs') ∧ Paired (StrsT H4) vs' FW ∧ H4 Sd = some (.dK kvs') ∧ kvs'.length ≤ S'.length ∧ (∀ y, (valV kvs' (.inr y)).isSome = decide (y ∈ S')) ∧ Bfs P x S' Dn' FW ∧ S'.length = S.length + FW.length,
      fun σ' H4 ⟨va', c5, c6, c7, c8, vs', FW, kvs', S', Dn', e, h1, h2, h3, h4, h5, h6, h7, h8, h9⟩ => ⟨_, ?_, va', c5, c6, c7, c8, vs', FW, kvs', S', Dn', e, h1, h2, h3, h4, h5, h6, h7, h8, by omega, rfl⟩, ?_⟩
    · have hS' : S'.length ≤ P.length := nm_len h8.nd h8.nm
      rw [hm]
      by_cases e : FW = []
      · rw [if_pos e]
        rw [e] at h9
        simp at h9
        omega
      · rw [if_neg e]
        have : 0 < FW.length := List.length_pos_iff.mpr e
        omega
    -- farther = []
    refine ⟨Nat.zero_le _, fun Fa hFa => ?_⟩
    have hFa3 : H Fa = Option.none := hs3.free hFa
    have nvF : va ≠ Fa := ne_of_none hva3 hFa
    have nSF : Sd ≠ Fa := ne_of_none hSd3 hFa
    have nSv : Sd ≠ va := ne_of hSd3 hva3 (by intro z; cases z)
    have s4 : Same H3 (upd H3 Fa (.lst [])) := Same.new hFa _
    refine ⟨_, rfl, va, rfl, ⟨_, SqL.of (s4 _ _ hva3)⟩, for_list (K := K) (a := va) (xs := vs) (fun i σ H' => ∃ (c6 c7 c8 : Option V) (vf : List V) (FW : List (List Str)) (kv : List (Key × V)) (S' : List Str) (Dn' : Str → Prop), σ = [some v, some (.ref sa), some (.ref ea), some (.ref va), some (.ref Sd), some (.ref Fa), c6, c7, c8] ∧
        Same H H' ∧ H' va = some (.lst vs) ∧ TSame H3 H' ∧ H' Fa = some (.lst vf) ∧ Paired (StrsT H') vf FW ∧ H' Sd = some (.dK kv) ∧ kv.length ≤ S'.length ∧ (∀ y, (valV kv (.inr y)).isSome = decide (y ∈ S')) ∧ Bfs P x S' Dn' (Wy.drop i ++ FW) ∧ S'.length = S.length + FW.length ∧ ∀ w, w ∈ Wy.drop i → w.length ≤ S.length + 1)
      ⟨_, _, _, [], [], kvs, S, Dn, rfl, hs3.trans s4, s4 _ _ hva3, s4.tups, upd_same, .nil, s4 _ _ hSd3, hkl, hks, by simpa using bf, by simp, fun w hw => bf.len w (by simpa using hw)⟩ (fun i σ H' _ ⟨_, _, _, _, _, _, _, _, _, _, h, _⟩ => SqL.of h) ?_ ?_⟩
    · rintro i y σ H' hi ⟨c6, c7, c8, vf, FW, kv, S', Dn', rfl, hsH, hvaH, hts, hFaH, hpf, hSdH', hkl', hks', bf', hSF, hwl⟩
      obtain ⟨wy, hwi, wa, rfl, hwa⟩ := pget' hpw3 hi
      have hwaH : H' wa = some (.tup (txs wy)) := hts _ _ hwa
      have hil : i < Wy.length := (List.getElem?_eq_some_iff.mp hwi).1
      have hdrop : Wy.drop i = wy :: Wy.drop (i + 1) := by
        rw [List.drop_eq_getElem_cons hil]
        congr 1
        rw [List.getElem?_eq_getElem hil] at hwi
        exact Option.some.inj hwi
      have hmem : wy ∈ Wy.drop i ++ FW := List.mem_append_left _ (by rw [hdrop]; exact List.mem_cons_self ..)
      obtain ⟨ly, hty, hlyn⟩ := bf'.tr wy hmem
      have hlast := hty.last
      have hwyl : wy.length ≤ S.length + 1 := hwl wy (by rw [hdrop]; exact List.mem_cons_self ..)
      have hatl : atI (txs wy) (-1) = some (.str ly) := by
        obtain ⟨wd, ewd⟩ := List.getLast?_eq_some_iff.mp hlast
        rw [ewd]
        show atI ((wd ++ [ly]).map V.str) (-1) = _
        rw [List.map_append]
        exact atI_last _ _
      -- for other in brings(parts, way[-1])
      refine ⟨_, rfl, _, rfl, _, rfl, wa, _, _, _, rfl, rfl, SqT.of hwaH, hatl, v, ly, P, rfl, hP.same hsH, g, hlyn, fun H5 t s5 ht => ?_⟩
      have hsH5 := hsH.trans s5
      refine ⟨t, rfl, ⟨_, SqT.of ht⟩, for_tup (K := K) (a := t) (xs := txs (bringsOf P ly)) (fun j σ H' => ∃ (c7 c8 : Option V) (vf : List V) (FW : List (List Str)) (kv : List (Key × V)) (S' : List Str) (Dn' : Str → Prop), σ = [some v, some (.ref sa), some (.ref ea), some (.ref va), some (.ref Sd), some (.ref Fa), some (.ref wa), c7, c8] ∧
          Same H H' ∧ H' va = some (.lst vs) ∧ TSame H5 H' ∧ H' Fa = some (.lst vf) ∧ Paired (StrsT H') vf FW ∧ H' Sd = some (.dK kv) ∧ kv.length ≤ S'.length ∧ (∀ y, (valV kv (.inr y)).isSome = decide (y ∈ S')) ∧ Bfs P x S' Dn' (Wy.drop i ++ FW) ∧ S'.length = S.length + FW.length ∧ ∀ k z, k < j → (bringsOf P ly)[k]? = some z → z ≠ x ∧ z ∈ S')
        ⟨_, _, vf, FW, kv, S', Dn', rfl, hsH5, s5 _ _ hvaH, fun b xs q => q, s5 _ _ hFaH, pmono hpf fun v c q => q.keep s5.tups, s5 _ _ hSdH', hkl', hks', bf', hSF, fun k z h => absurd h (Nat.not_lt_zero _)⟩ (fun j σ H' _ ⟨_, _, _, _, _, _, _, _, _, _, h, _⟩ => SqT.of (h _ _ ht)) ?_ ?_⟩
      · rintro j y σ H6 hj ⟨c7, c8, vf, FW, kv, S', Dn', rfl, hs6, hva6, hts6, hFa6, hpf6, hSd6, hkl6, hks6, bf6, hSF6, hdone⟩
        obtain ⟨o, ho, rfl⟩ := txs_get hj
        have hbr : o ∈ bringsOf P ly := List.mem_of_getElem? ho
        have hEo : EP P ly o := (mem_brings g hlyn).mp hbr
        have hon : o ∈ namesOf P := Sem1 hlyn hEo
        have hS6 : S'.length ≤ P.length := nm_len bf6.nd bf6.nm
        have hwa6 : H6 wa = some (.tup (txs wy)) := hts6 _ _ (s5 _ _ hwaH)
        -- if other in ends
        refine ⟨_, rfl, _, rfl, ea, _, rfl, .inl (SqL.of (hs6 _ _ hea)), rfl, rfl, _, rfl, ?_⟩
        rw [if_neg Bool.false_ne_true, show ([V.str x] : List V) = txs [x] from rfl, inV_txs]
        refine ite2 (fun q1 => ?_) (fun q1 => ?_)
        · have eo : o = x := List.mem_singleton.mp (of_decide_eq_true q1)
          subst eo
          refine ⟨_, rfl, _, rfl, by show 1 ≤ sizeLine; decide, fun p1 hp1 => ?_⟩
          have s7 : Same H6 (upd H6 p1 (.tup [.str o])) := Same.new hp1 _
          refine ⟨wa, p1, _, _, rfl, rfl, SqT.of (s7 _ _ hwa6), SqT.of upd_same, fun e => hty.ne (List.map_eq_nil_iff.mp e), by rw [txs_len]; show _ + 1 ≤ sizeLine; exact line_of (by omega), (fun e => by cases e), fun _ p2 hp2 => ?_⟩
          refine kW _ p2 wy ly ((hs6.trans s7).trans (Same.new hp2 _)) ?_ hty hEo (by omega)
          rw [upd_same, txs_snoc]
        · have neo : o ≠ x := fun e => q1 (decide_eq_true (List.mem_singleton.mpr e))
          -- if other not in seen
          refine ⟨_, rfl, _, rfl, Sd, _, rfl, DGet.k (k := .inr o) hSd6, _, rfl, ?_⟩
          rw [hks6]
          refine ite2 (fun q2 => ?_) (fun q2 => ?_)
          · have nin : o ∉ S' := by simpa using q2
            refine ⟨_, rfl, _, rfl, Sd, _, rfl, DPut.k (k := .inr o) hSd6 (line_lt (by omega)), ?_⟩
            generalize hH7 : upd H6 Sd (.dK (putK kv (.inr o) (.bl true))) = H7
            have t7 : TSame H6 H7 := fun b xs q => by rw [← hH7, upd_ne (ne_of q hSd6 (by intro z; cases z))]; exact q
            have hs7 : Same H H7 := by rw [← hH7]; exact hs6.upd hSdH _
            have hFa7 : H7 Fa = some (.lst vf) := by rw [← hH7, upd_ne nSF.symm]; exact hFa6
            have hva7 : H7 va = some (.lst vs) := by rw [← hH7, upd_ne nSv.symm]; exact hva6
            have hSd7 : H7 Sd = some (.dK (putK kv (.inr o) (.bl true))) := by rw [← hH7, upd_same]
            have hwa7 : H7 wa = some (.tup (txs wy)) := t7 _ _ hwa6
            have hvf := plen hpf6
            refine ⟨_, rfl, .inl ⟨rfl, _, SqL.of hFa7⟩, _, rfl, _, rfl, by show 1 ≤ sizeLine; decide, fun p1 hp1 => ?_⟩
            have s8 : Same H7 (upd H7 p1 (.tup [.str o])) := Same.new hp1 _
            refine ⟨wa, p1, _, _, rfl, rfl, SqT.of (s8 _ _ hwa7), SqT.of upd_same, fun e => hty.ne (List.map_eq_nil_iff.mp e), by rw [txs_len]; show _ + 1 ≤ sizeLine; exact line_of (by omega), (fun e => by cases e), fun _ p2 hp2 => ?_⟩
            have s9 : Same H7 (upd (upd H7 p1 (.tup [.str o])) p2 (.tup (txs wy ++ [.str o]))) := s8.trans (Same.new hp2 _)
            have hFa9 := s9 _ _ hFa7
            refine ⟨Fa, _, _, rfl, rfl, hFa9, line_lt (by omega), ?_⟩
            have np2 : p2 ≠ Fa := (ne_of_none (s8 _ _ hFa7) hp2).symm
            have k10 : Keep Fa H7 (upd (upd (upd H7 p1 (.tup [.str o])) p2 (.tup (txs wy ++ [.str o]))) Fa (.lst (vf ++ [.ref p2]))) := (Keep.of s9).trans Keep.put
            refine ⟨_, _, vf ++ [.ref p2], FW ++ [wy ++ [o]], putK kv (.inr o) (.bl true), S' ++ [o], Dn', rfl, k10.same hs7 hFa3, k10 _ _ hva7 nvF, fun b xs q => k10.tups hFa7 _ _ (t7 _ _ (hts6 _ _ q)), upd_same, ?_, k10 _ _ hSd7 nSF, ?_, fun y => ?_, ?_, ?_, fun k z hk hz => ?_⟩
            · exact psnoc (pmono hpf6 fun v c q => (q.keep t7).keep (k10.tups hFa7)) ⟨p2, rfl, by rw [upd_ne np2, upd_same, txs_snoc]⟩
            · have := length_putK kv (.inr o) (.bl true)
              rw [List.length_append, List.length_singleton]; omega
            · rw [valV_put]
              by_cases e : y = o
              · subst e; rw [if_pos rfl]; simp
              · rw [if_neg (fun z => e (Sum.inr.inj z)), hks6]
                simp [e]
            · refine ⟨List.pairwise_append.mpr ⟨bf6.nd, List.pairwise_singleton .., fun a ha c hc e => nin (by rw [List.mem_singleton.mp hc] at e; exact e ▸ ha)⟩, fun y hy => ?_, fun y hy => ?_, fun y hy z e => ?_, fun w hw => ?_, fun w hw => ?_⟩
              · rcases List.mem_append.mp hy with hy | hy
                · exact bf6.nm y hy
                · rw [List.mem_singleton.mp hy]; exact hon
              · have hy' : (y = x ∨ y ∈ S') ∨ y = o := by
                  rcases hy with hy | hy
                  · exact .inl (.inl hy)
                  · rcases List.mem_append.mp hy with hy | hy
                    · exact .inl (.inr hy)
                    · exact .inr (List.mem_singleton.mp hy)
                rcases hy' with hy' | hy'
                · rcases bf6.cov y hy' with q | ⟨w, hw, hl⟩
                  · exact .inl q
                  · exact .inr ⟨w, by rw [← List.append_assoc]; exact List.mem_append_left _ hw, hl⟩
                · exact .inr ⟨wy ++ [o], by rw [← List.append_assoc]; exact List.mem_append_right _ (List.mem_singleton.mpr rfl), by rw [hy']; simp⟩
              · have := bf6.don y hy z e
                exact ⟨this.1, List.mem_append_left _ this.2⟩
              · rw [← List.append_assoc] at hw
                rcases List.mem_append.mp hw with hw | hw
                · exact bf6.tr w hw
                · rw [List.mem_singleton.mp hw]; exact ⟨o, hty.step hEo, hon⟩
              · rw [← List.append_assoc] at hw
                rw [List.length_append, List.length_singleton]
                rcases List.mem_append.mp hw with hw | hw
                · have := bf6.len w hw; omega
                · rw [List.mem_singleton.mp hw, List.length_append, List.length_singleton]; omega
            · rw [List.length_append, List.length_singleton, List.length_append, List.length_singleton]; omega
            · by_cases e : k = j
              · subst e
                rw [ho] at hz
                cases hz
                exact ⟨neo, List.mem_append_right _ (List.mem_singleton.mpr rfl)⟩
              · have := hdone k z (by omega) hz
                exact ⟨this.1, List.mem_append_left _ this.2⟩
          · have isin : o ∈ S' := by simpa using q2
            refine ⟨_, _, vf, FW, kv, S', Dn', rfl, hs6, hva6, hts6, hFa6, hpf6, hSd6, hkl6, hks6, bf6, hSF6, fun k z hk hz => ?_⟩
            by_cases e : k = j
            · subst e
              rw [ho] at hz
              cases hz
              exact ⟨neo, isin⟩
            · exact hdone k z (by omega) hz
      · rintro σ H6 ⟨c7, c8, vf, FW, kv, S', Dn', rfl, hs6, hva6, hts6, hFa6, hpf6, hSd6, hkl6, hks6, bf6, hSF6, hdone⟩
        rw [txs_len] at hdone
        have hall : ∀ z, EP P ly z → z ≠ x ∧ z ∈ S' := fun z e => by
          obtain ⟨k, hk⟩ := List.mem_iff_getElem?.mp ((mem_brings g hlyn).mpr e)
          exact hdone k z (List.getElem?_eq_some_iff.mp hk).1 hk
        refine ⟨_, _, _, vf, FW, kv, S', (fun y => Dn' y ∨ y = ly), rfl, hs6, hva6, fun b xs q => hts6 _ _ (s5 _ _ (hts _ _ q)), hFa6, hpf6, hSd6, hkl6, hks6, ⟨bf6.nd, bf6.nm, fun y hy => ?_, fun y hy z e => ?_, fun w hw => bf6.tr w ?_, fun w hw => bf6.len w ?_⟩, hSF6, fun w hw => hwl w (by rw [hdrop]; exact List.mem_cons_of_mem _ hw)⟩
        · rcases bf6.cov y hy with q | ⟨w, hw, hl⟩
          · exact .inl (.inl q)
          · rw [hdrop, List.cons_append] at hw
            rcases List.mem_cons.mp hw with e | hw
            · rw [e, hlast] at hl
              exact .inl (.inr (Option.some.inj hl).symm)
            · exact .inr ⟨w, hw, hl⟩
        · rcases hy with hy | hy
          · exact bf6.don y hy z e
          · rw [hy] at e; exact hall z e
        · rw [hdrop, List.cons_append]; exact List.mem_cons_of_mem _ hw
        · rw [hdrop, List.cons_append]; exact List.mem_cons_of_mem _ hw
    · rintro σ H' ⟨c6, c7, c8, vf, FW, kv, S', Dn', rfl, hsH, hvaH, hts, hFaH, hpf, hSdH', hkl', hks', bf', hSF, hwl⟩
      rw [hvl, List.drop_length, List.nil_append] at bf'
      exact ⟨_, rfl, Fa, _, _, _, _, vf, FW, kv, S', Dn', rfl, hsH, hFa3, hFaH, hpf, hSdH', hkl', hks', bf', hSF⟩
  · have eW : Wy = [] := by
      refine Classical.byContradiction fun ne => q ?_
      have : ¬ Wy.map (Tup.mk (α := Str)) = [] := fun e => ne (List.map_eq_nil_iff.mp e)
      show (!decide (Wy.map (Tup.mk (α := Str)) = [])) = true
      rw [decide_eq_false this]
      rfl
    rw [eW] at bf
    exact kN H3 hs3 bf.none
end
end Bh
namespace Bh
open PySem L2 BhX
/-! ### broken -/
def BrAt (H : Hp) (v : V) (c : Nat × List Str) : Prop := ∃ a b, v = .ref a ∧ H a = some (.tup [.int (c.1 : Int), .ref b]) ∧ H b = some (.tup (txs c.2))
theorem BrAt.keep {H H' : Hp} (s : TSame H H') {v : V} {c : Nat × List Str} : BrAt H v c → BrAt H' v c
  | ⟨a, b, h1, h2, h3⟩ => ⟨a, b, h1, s _ _ h2, s _ _ h3⟩
/-- a way round of x -/
def RoundW (P : Parts) (x : Str) (w : List Str) : Prop := ∃ w0 y, w = w0 ++ [x] ∧ Tr (EP P) x w0 y ∧ EP P y x ∧ w0.length ≤ 9
def OnRing (P : Parts) (k : Nat) : Prop := ∃ x, (namesOf P)[k]? = some x ∧ Way (EP P) x x
open Classical in
noncomputable def ringNos (P : Parts) (n : Nat) : List Nat := (List.range n).filter fun k => decide (OnRing P k)
theorem ringNos_succ (P : Parts) (n : Nat) : (OnRing P n → ringNos P (n + 1) = ringNos P n ++ [n]) ∧ (¬ OnRing P n → ringNos P (n + 1) = ringNos P n) := by
  unfold ringNos
  rw [List.range_succ, List.filter_append]
  constructor
  · intro h
    rw [List.filter_cons_of_pos (by simpa using h)]
    rfl
  · intro h
    rw [List.filter_cons_of_neg (by simpa using h)]
    simp
def BrokenOf (P : Parts) (n : Nat) (res : List (Nat × List Str)) : Prop := res.map (·.1) = ringNos P n ∧ ∀ k w, (k, w) ∈ res → ∃ x, (namesOf P)[k]? = some x ∧ RoundW P x w
section
variable {P : Program} {w : World} {K : PySem.W.Frag} {mg : Str → Option Value} {base : Heap}
/-- folders and rules, a folder for each part -/
structure FoldAt (P : Parts) (H : Hp) (u v : V) (fs : List Str) : Prop where
  len : fs.length = P.length
  nd : fs.Nodup
  fo : ∃ a vs, u = .ref a ∧ H a = some (.tup vs) ∧ Paired (PairAt H) vs ((namesOf P).zip fs)
  ru : ∃ a vs, v = .ref a ∧ H a = some (.tup vs) ∧ Paired (PairAt H) vs (fs.map fun f => (f, f))
theorem FoldAt.keep {P : Parts} {H H' : Hp} (s : TSame H H') {u v : V} {fs : List Str} (h : FoldAt P H u v fs) : FoldAt P H' u v fs := by
  obtain ⟨h1, h2, ⟨a, vs, e1, e2, e3⟩, ⟨b, ws, f1, f2, f3⟩⟩ := h
  exact ⟨h1, h2, ⟨a, vs, e1, s _ _ e2, pmono e3 fun _ _ q => q.keep s⟩, ⟨b, ws, f1, s _ _ f2, pmono f3 fun _ _ q => q.keep s⟩⟩
def spBroken : Sp := fun vs H Q _ => ∃ (v u1 u2 : V) (P : Parts) (fs : List Str), vs = [v, u1, u2] ∧ PartsAt H v P ∧ PGood P ∧ FoldAt P H u1 u2 fs ∧
  ∀ H' p vs' res, Same H H' → H' p = some (.tup vs') → Paired (BrAt H') vs' res → BrokenOf P P.length res → Q (.ref p) H'
abbrev n_broken : List Str := ["parts", "folders", "rules", "found", "number", "rule", "starts", "ends", "way", "part", "folder"]
abbrev p_broken : List Str := ["parts", "folders", "rules"]
theorem sc_broken : FnScope n_broken p_broken (defScope s_broken) := ⟨rfl, rfl, rfl, by decide +kernel, rfl, by decide +kernel, by decide +kernel⟩
theorem ok_broken {f f1 : Addr} {fd fd1 : FuncData} (F : Fun K "broken" "broken" s_broken f fd) (B : Bi mg) (c_shortest : Here P w K mg base "shortest" 4 f1 fd1 p_shortest spShortest) : FnOk P w K mg base CX0 5 f fd p_broken spBroken := by
  refine F.ok sc_broken (fun vs H Q E h => ?_) (fun cdv A outer s H vs Q E hr h => ?_)
  · obtain ⟨v, u1, u2, P, fs, rfl, _⟩ := h
    rfl
  obtain ⟨v, u1, u2, P, fs, rfl, hP, g, ⟨hfl, hfn, ⟨fo, vf, rfl, hfo, hpf⟩, ⟨ru, vr, rfl, hru, hpr⟩⟩, k⟩ := h
  refine ⟨_, (pss_cons (ps_set (i := 3) sc_broken.nd rfl (Or.inl rfl) (pe_lst pa_nil))
        (pss_cons (ps_for PassesOwn.never rfl (pi_enumT (by rfl) B.enumerate (pa_cons (pv 2) pa_nil)) (pg_tup rfl (pgs_cons (pg_name (i := 4) sc_broken.nd rfl (Or.inl rfl)) (pgs_cons (pg_name (i := 5) sc_broken.nd rfl (Or.inr rfl)) pgs_nil))) (pss_cons (ps_setLc (i := 6) (own := [("part", 9), ("folder", 10)]) (g := gTup K 2 (gCons (gName 9) (gCons (gName 10) gNil))) (tt := tTest (tOp rEq (tVar 10) (tOp (rIxT K) (tVar 5) (tC (.int 0))))) (by rfl) sc_broken.nd rfl rfl (sw_true rfl rfl rfl (by decide +kernel)) (pi_tup (pv 1)) (blkOk_by (own := [("part", 9), ("folder", 10)]) (N := n_broken) (sc := defScope s_broken) (by decide +kernel)) (fun _ _ _ _ _ => (pg_tup rfl (pgs_cons (pg_name (i := 9) sc_broken.nd rfl (Or.inl rfl)) (pgs_cons (pg_name (i := 10) sc_broken.nd rfl (Or.inl rfl)) pgs_nil)))) (fun _ _ _ _ _ => (pts_one (pt_cmpR op_eq (pv 10) (pe_ix ix_tup (pv 5) pe_int (fun _ _ => rfl)) (nomark _)))) (fun _ _ _ _ _ => (pv 9)))
          (pss_cons (ps_setLc (i := 7) (own := [("part", 9), ("folder", 10)]) (g := gTup K 2 (gCons (gName 9) (gCons (gName 10) gNil))) (tt := tTest (tOp rEq (tVar 10) (tOp (rIxT K) (tVar 5) (tC (.int 1))))) (by rfl) sc_broken.nd rfl rfl (sw_true rfl rfl rfl (by decide +kernel)) (pi_tup (pv 1)) (blkOk_by (own := [("part", 9), ("folder", 10)]) (N := n_broken) (sc := defScope s_broken) (by decide +kernel)) (fun _ _ _ _ _ => (pg_tup rfl (pgs_cons (pg_name (i := 9) sc_broken.nd rfl (Or.inl rfl)) (pgs_cons (pg_name (i := 10) sc_broken.nd rfl (Or.inl rfl)) pgs_nil)))) (fun _ _ _ _ _ => (pts_one (pt_cmpR op_eq (pv 10) (pe_ix ix_tup (pv 5) pe_int (fun _ _ => rfl)) (nomark _)))) (fun _ _ _ _ _ => (pv 9)))
          (pss_cons (ps_set (i := 8) sc_broken.nd rfl (Or.inl rfl) (pe_call c_shortest.ok (hr.mono (by decide)) rfl c_shortest.mgx c_shortest.kp c_shortest.b .nil pass0 (pa_cons (pv 0) (pa_cons (pv 6) (pa_cons (pv 7) pa_nil)))))
          (pss_one (ps_if (pt_cmp (pc_notN (pv 8))) (pss_one (ps_expr (pe_bm PySem.F.plainAttrs_list PySem.F.slot_list_append PySem.F.type_list_append mt_append (pv 3) (pa_cons (pe_tup (pa_cons (pv 4) (pa_cons (pv 8) pa_nil))) pa_nil)))) pss_nil))))))
        (pss_one (ps_ret (pe_callTy call_tuple_of (by rfl) B.tuple (by decide +kernel) (pa_cons (pv 3) pa_nil)))))), ?_⟩
  have hlen := g.len
  have hrl := plen hpr
  rw [List.length_map] at hrl
  have hvl := plen hpf
  rw [List.length_zip, names_len, hfl, Nat.min_self] at hvl
  refine ⟨Nat.zero_le _, fun D hD => ?_⟩
  have sD : Same H (upd H D (.lst [])) := Same.new hD _
  -- what a comprehension over the folders gives
  have folder_at : ∀ {j : Nat} {y : V}, vf[j]? = some y → ∃ x f', (namesOf P)[j]? = some x ∧ fs[j]? = some f' ∧ PairAt H y (x, f') := fun {j y} hj => by
    obtain ⟨⟨x, f'⟩, hxf, hpa⟩ := pget' hpf hj
    obtain ⟨h1, h2⟩ := List.getElem?_zip_eq_some.mp hxf
    exact ⟨x, f', h1, h2, hpa⟩
  refine ⟨_, rfl, ru, _, rfl, SqT.of (sD _ _ hru), for_it walk_enumT (fun i σ H' => ∃ (c4 c5 c6 c7 c8 : Option V) (vs : List V) (res : List (Nat × List Str)), σ = [some v, some (.ref fo), some (.ref ru), some (.ref D), c4, c5, c6, c7, c8, none, none] ∧ Same H H' ∧ H' D = some (.lst vs) ∧ Paired (BrAt H') vs res ∧ res.length ≤ i ∧ BrokenOf P i res)
    ⟨_, _, _, _, _, [], [], rfl, sD, upd_same, .nil, Nat.le_refl _, rfl, fun k w h => (nomatch h)⟩ (fun i σ H' _ ⟨_, _, _, _, _, _, _, _, s, _⟩ => SqT.of (s _ _ hru)) ?_ ?_⟩
  · rintro i y σ H1 H1' hi ⟨c4, c5, c6, c7, c8, vs, res, rfl, hs, hD1, hpres, hresl, hbr⟩ ⟨T, x1, y1, rfl, hT, rfl, e1, e2⟩
    cases e1
    obtain ⟨⟨f, f'⟩, hff, ra, rfl, hra⟩ := pget' hpr e2
    rw [List.getElem?_map] at hff
    obtain ⟨f0, hf0, ef⟩ := Option.map_eq_some_iff.mp hff
    cases ef
    have hi8 : i < P.length := by rw [← hfl]; exact (List.getElem?_eq_some_iff.mp hf0).1
    obtain ⟨x, hx⟩ : ∃ x, (namesOf P)[i]? = some x := ⟨_, List.getElem?_eq_getElem (by rw [names_len]; exact hi8)⟩
    have hxn : x ∈ namesOf P := List.mem_of_getElem? hx
    have sT : Same H1 (upd H1 T (.tup [.int (i : Nat), .ref ra])) := Same.new hT _
    generalize hH2 : upd H1 T (.tup [.int (i : Nat), .ref ra]) = H2 at sT
    have hTT : H2 T = some (.tup [.int (i : Nat), .ref ra]) := by rw [← hH2, upd_same]
    have hs2 := hs.trans sT
    refine ⟨T, _, rfl, SqT.of hTT, rfl, _, _, rfl, _, _, rfl, rfl, ?_⟩
    -- the two comprehensions are alike
    have same_f : ∀ {j : Nat} {x' g' : Str}, (namesOf P)[j]? = some x' → fs[j]? = some g' → (decide (V.str g' = V.str f) = decide (i = j)) ∧ (i = j → x' = x) := fun {j x' g'} hx' hg' => by
      constructor
      · refine decide_eq_decide.mpr ⟨fun e => ?_, fun e => ?_⟩
        · have eg := V.str.inj e
          subst eg
          exact nd_ix hfn hf0 hg'
        · subst e
          rw [hf0] at hg'
          cases hg'
          rfl
      · intro e
        subst e
        rw [hx] at hx'
        exact (Option.some.inj hx').symm
    have lst_step : ∀ {j : Nat} {x' : Str}, (i = j → x' = x) → (if i < j + 1 then ([x] : List Str) else []) = if decide (i = j) = true then (if i < j then ([x] : List Str) else []) ++ [x'] else (if i < j then ([x] : List Str) else []) := fun {j x'} hx' => by
      by_cases e : i = j
      · subst e
        rw [if_pos (by omega), if_pos (by simp), if_neg (by omega), hx' rfl]
        rfl
      · rw [if_neg (show ¬ decide (i = j) = true by simpa using e)]
        by_cases c : i < j
        · rw [if_pos (by omega), if_pos c]
        · rw [if_neg (by omega), if_neg c]
    -- starts
    refine ⟨_, rfl, fo, rfl, ⟨_, SqT.of (hs2 _ _ hfo)⟩, fun Sa hSa => lc_tup (K := K) (a := fo) (xs := vf) (fun j H' => H' = upd H2 Sa (.lst (txs (if i < j then [x] else []))))
      (by rw [if_neg (Nat.not_lt_zero _)]; rfl) (fun j H' _ e => by rw [e]; exact SqT.of ((Same.new hSa _) _ _ (hs2 _ _ hfo))) ?_ ?_⟩
    · rintro j y H' hj rfl
      obtain ⟨x', g', hx', hg', b, rfl, hb⟩ := folder_at hj
      have sS : Same H2 (upd H2 Sa (.lst (txs (if i < j then [x] else [])))) := Same.new hSa _
      obtain ⟨q1, q2⟩ := same_f hx' hg'
      refine ⟨b, _, rfl, SqT.of (sS _ _ (hs2 _ _ hb)), rfl, _, _, rfl, _, _, rfl, rfl, rfl, ?_⟩
      refine ⟨_, rfl, _, rfl, ra, _, _, _, rfl, rfl, SqT.of (sS _ _ (hs2 _ _ hra)), rfl, rfl, _, rfl, ?_⟩
      rw [q1]
      have hst := lst_step (j := j) (x' := x') q2
      refine ite2 (fun c => ?_) (fun c => ?_)
      · rw [if_pos c] at hst
        refine ⟨_, rfl, _, upd_same, ?_, ?_⟩
        · rw [txs_len]
          split
          · show 1 < sizeLine; decide
          · show 0 < sizeLine; decide
        · rw [upd_upd, txs_snoc, hst]
      · rw [if_neg c] at hst
        rw [hst]
    rintro H' rfl
    rw [if_pos (show i < vf.length by omega)]
    have sS : Same H2 (upd H2 Sa (.lst (txs [x]))) := Same.new hSa _
    generalize hH3 : upd H2 Sa (.lst (txs [x])) = H3 at sS
    have hSa3 : H3 Sa = some (.lst [.str x]) := by rw [← hH3, upd_same]; rfl
    have hs3 := hs2.trans sS
    -- ends
    refine ⟨_, rfl, fo, rfl, ⟨_, SqT.of (hs3 _ _ hfo)⟩, fun Ea hEa => lc_tup (K := K) (a := fo) (xs := vf) (fun j H' => H' = upd H3 Ea (.lst (txs (if i < j then [x] else []))))
      (by rw [if_neg (Nat.not_lt_zero _)]; rfl) (fun j H' _ e => by rw [e]; exact SqT.of ((Same.new hEa _) _ _ (hs3 _ _ hfo))) ?_ ?_⟩
    · rintro j y H' hj rfl
      obtain ⟨x', g', hx', hg', b, rfl, hb⟩ := folder_at hj
      have sS : Same H3 (upd H3 Ea (.lst (txs (if i < j then [x] else [])))) := Same.new hEa _
      obtain ⟨q1, q2⟩ := same_f hx' hg'
      refine ⟨b, _, rfl, SqT.of (sS _ _ (hs3 _ _ hb)), rfl, _, _, rfl, _, _, rfl, rfl, rfl, ?_⟩
      refine ⟨_, rfl, _, rfl, ra, _, _, _, rfl, rfl, SqT.of (sS _ _ (hs3 _ _ hra)), rfl, rfl, _, rfl, ?_⟩
      rw [q1]
      have hst := lst_step (j := j) (x' := x') q2
      refine ite2 (fun c => ?_) (fun c => ?_)
      · rw [if_pos c] at hst
        refine ⟨_, rfl, _, upd_same, ?_, ?_⟩
        · rw [txs_len]
          split
          · show 1 < sizeLine; decide
          · show 0 < sizeLine; decide
        · rw [upd_upd, txs_snoc, hst]
      · rw [if_neg c] at hst
        rw [hst]
    rintro H' rfl
    rw [if_pos (show i < vf.length by omega)]
    have sE : Same H3 (upd H3 Ea (.lst (txs [x]))) := Same.new hEa _
    generalize hH4 : upd H3 Ea (.lst (txs [x])) = H4 at sE
    have hEa4 : H4 Ea = some (.lst [.str x]) := by rw [← hH4, upd_same]; rfl
    have hs4 := hs3.trans sE
    have s14 : Same H1 H4 := (sT.trans sS).trans sE
    -- way = shortest(parts, starts, ends)
    refine ⟨_, rfl, _, rfl, _, rfl, v, x, P, Sa, Ea, rfl, hP.same hs4, g, hxn, sE _ _ hSa3, hEa4, fun H5 s5 nw => ?_, fun H5 wp w0 yl s5 hwp htr hE hwl => ?_⟩
    · refine ⟨_, rfl, _, rfl, ?_⟩
      refine iteF ?_
      have nr : ¬ OnRing P i := fun ⟨x', hx', hw'⟩ => by
        rw [hx] at hx'
        cases hx'
        exact nw hw'
      have s15 := s14.trans s5
      exact ⟨_, _, _, _, _, vs, res, rfl, hs4.trans s5, s15 _ _ hD1, pmono hpres fun v c q => q.keep s15.tups, by omega, by rw [(ringNos_succ P i).2 nr]; exact hbr.1, hbr.2⟩
    · refine ⟨_, rfl, _, rfl, ?_⟩
      refine iteT ?_
      have hway : Way (EP P) x x := by
        rcases htr.way with ⟨_, e⟩ | q
        · rw [e] at hE; exact .one hE
        · exact q.snoc hE
      have s15 := s14.trans s5
      have hD5 : H5 D = some (.lst vs) := s15 _ _ hD1
      have hvsl := plen hpres
      refine ⟨_, rfl, .inl ⟨rfl, _, SqL.of hD5⟩, _, rfl, _, rfl, by show 2 ≤ sizeLine; decide, fun p hp => ?_⟩
      have nDp : D ≠ p := ne_of_none hD5 hp
      have k6 : Keep D H5 (upd (upd H5 p (.tup [.int (i : Nat), .ref wp])) D (.lst (vs ++ [.ref p]))) := (Keep.of (Same.new hp _)).trans Keep.put
      refine ⟨D, _, _, rfl, rfl, by rw [upd_ne nDp]; exact hD5, line_lt (by omega), ?_⟩
      have k7 : Keep D H1 (upd (upd H5 p (.tup [.int (i : Nat), .ref wp])) D (.lst (vs ++ [.ref p]))) := (Keep.of s15).trans k6
      refine ⟨_, _, _, _, _, vs ++ [.ref p], res ++ [(i, w0 ++ [x])], rfl, k7.same hs hD, upd_same, ?_, by rw [List.length_append, List.length_singleton]; omega, ?_, fun k' w' hm => ?_⟩
      · refine psnoc (pmono hpres fun v c q => q.keep (k7.tups hD1)) ⟨p, wp, rfl, by rw [upd_ne nDp.symm, upd_same], k6.tups hD5 _ _ hwp⟩
      · rw [List.map_append, hbr.1, (ringNos_succ P i).1 ⟨x, hx, hway⟩]
        rfl
      · rcases List.mem_append.mp hm with hm | hm
        · exact hbr.2 k' w' hm
        · cases List.mem_singleton.mp hm
          exact ⟨x, hx, w0, yl, rfl, htr, hE, hwl⟩
  · rintro σ H1 ⟨c4, c5, c6, c7, c8, vs, res, rfl, hs, hD1, hpres, hresl, hbr⟩
    rw [hrl, hfl] at hbr
    refine ⟨_, rfl, D, _, rfl, .inl ⟨SqL.of hD1, fun l hl => ?_⟩⟩
    exact k _ l vs res (hs.upd (hs.free hl) _) upd_same (pmono hpres fun v c q => q.keep (Same.new hl _).tups) hbr
end
end Bh
namespace Bh
open PySem L2 BhX
section
variable {P : Program} {w : World} {K : PySem.W.Frag} {mg : Str → Option Value} {base : Heap}
/-! ### the law's small helpers -/
theorem scr_at {ns : List Int} {k : Nat} (h : k < ns.length) : atI (ns.map V.int) (k : Int) = some (.int (ns.getD k 0)) := by
  refine atI_nat ?_
  rw [List.getElem?_map, List.getD_eq_getElem?_getD, List.getElem?_eq_getElem h]
  rfl
def spCell (K : PySem.W.Frag) : Sp := fun vs H Q _ => ∃ (a : Addr) (ns : List Int) (k : Nat), vs = [.ref a, .int (k : Int)] ∧ SqL K H a (ns.map V.int) ∧ Q (.int (ns.getD k 0)) H
abbrev n_law_cell_at : List Str := ["_law_script", "_law_k"]
abbrev p_law_cell_at : List Str := ["_law_script", "_law_k"]
theorem sc_law_cell_at : FnScope n_law_cell_at p_law_cell_at (defScope s_law_cell_at) := ⟨rfl, rfl, rfl, by decide +kernel, rfl, by decide +kernel, by decide +kernel⟩
theorem ok_cell_at {f : Addr} {fd : FuncData} (F : Fun K "_law_cell_at" "_law_cell_at" s_law_cell_at f fd) (B : Bi mg) : FnOk P w K mg base CX0 1 f fd p_law_cell_at (spCell K) := by
  refine F.ok sc_law_cell_at (fun vs H Q E h => ?_) (fun cdv A outer s H vs Q E hr h => ?_)
  · obtain ⟨a, ns, k, rfl, _⟩ := h
    rfl
  obtain ⟨a, ns, k, rfl, hS, kk⟩ := h
  refine ⟨_, (pss_cons (ps_if (pt_cmpR op_lt (pv 1) (pe_callB call_len_seq (by rfl) B.len (by decide +kernel) (pa_cons (pv 0) pa_nil)) (nomark _)) (pss_one (ps_ret (pe_ix ix_list (pv 0) (pv 1) (fun _ _ => rfl)))) pss_nil)
        (pss_one (ps_ret pe_int))), ?_⟩
  refine ⟨_, rfl, _, rfl, a, _, rfl, .inl hS, _, _, rfl, rfl, _, rfl, ?_⟩
  refine ite2 (fun q => ?_) (fun q => ?_)
  · have q' : (k : Int) < ((ns.map V.int).length : Int) := of_decide_eq_true q
    rw [List.length_map] at q'
    exact ⟨_, rfl, _, rfl, a, _, _, _, rfl, rfl, hS, scr_at (by omega), kk⟩
  · have q' : ¬ (k : Int) < ((ns.map V.int).length : Int) := of_decide_eq_false (Bool.eq_false_iff.mpr q)
    rw [List.length_map] at q'
    have e : ns.getD k 0 = 0 := by
      rw [List.getD_eq_getElem?_getD, List.getElem?_eq_none (by omega)]; rfl
    rw [e] at kk
    exact kk
def spMixed : Sp := fun vs H Q _ => ∃ (c : Int) (k : Nat) (p : Int), vs = [.int c, .int (k : Int), .int p] ∧ k ≤ 100 ∧ 0 < p ∧ ∀ m : Nat, (m : Int) < p → Q (.int (m : Int)) H
abbrev n_law_mixed : List Str := ["_law_cell", "_law_k", "_law_prime"]
abbrev p_law_mixed : List Str := ["_law_cell", "_law_k", "_law_prime"]
theorem sc_law_mixed : FnScope n_law_mixed p_law_mixed (defScope s_law_mixed) := ⟨rfl, rfl, rfl, by decide +kernel, rfl, by decide +kernel, by decide +kernel⟩
theorem ok_mixed {f : Addr} {fd : FuncData} (F : Fun K "_law_mixed" "_law_mixed" s_law_mixed f fd) (B : Bi mg) : FnOk P w K mg base CX0 1 f fd p_law_mixed spMixed := by
  refine F.ok sc_law_mixed (fun vs H Q E h => ?_) (fun cdv A outer s H vs Q E hr h => ?_)
  · obtain ⟨c, k, p, rfl, _⟩ := h
    rfl
  obtain ⟨c, k, p, rfl, hk, hp, kk⟩ := h
  refine ⟨_, (pss_one (ps_ret (pe_op op_mod (pe_op op_add (pe_op op_add (pe_op op_mul (pv 0) pe_int) (pe_op op_mul (pe_op op_mul pe_int (pv 1)) (pv 1))) (pe_op op_mul pe_int (pv 1))) (pv 2)))), ?_⟩
  have e1 : -(2 ^ 64) < (7919 : Int) * (k : Int) ∧ (7919 : Int) * (k : Int) < 2 ^ 64 := by omega
  refine ⟨_, rfl, _, _, rfl, rfl, .inr ⟨by decide, by decide⟩, _, rfl, _, _, rfl, rfl, .inl ⟨by decide, by decide⟩, _, rfl, _, _, rfl, rfl, .inl e1, _, _, rfl, rfl, _, rfl, _, _, rfl, rfl, .inl ⟨by decide, by decide⟩, _, _, rfl, rfl, _, rfl, _, _, rfl, rfl, hp, ?_⟩
  generalize (c * 48271 + (7919 : Int) * (k : Int) * (k : Int) + 101 * (k : Int)) = z
  have h0 := Int.emod_nonneg z (by omega : p ≠ 0)
  have h1 := Int.emod_lt_of_pos z hp
  have h2 := kk (z % p).toNat (by omega)
  have e : (((z % p).toNat : Nat) : Int) = z % p := by omega
  rw [e] at h2
  exact h2
def spOther : Sp := fun vs H Q _ => ∃ (here many mix mode : Nat), vs = [.int (here : Int), .int (many : Int), .int (mix : Int), .int (mode : Int)] ∧ here < many ∧ many ≤ 8 ∧ ∀ r : Nat, r < many → Q (.int (r : Int)) H
abbrev n_law_other : List Str := ["_law_here", "_law_many", "_law_mix", "_law_mode"]
abbrev p_law_other : List Str := ["_law_here", "_law_many", "_law_mix", "_law_mode"]
theorem sc_law_other : FnScope n_law_other p_law_other (defScope s_law_other) := ⟨rfl, rfl, rfl, by decide +kernel, rfl, by decide +kernel, by decide +kernel⟩
theorem ok_other {f : Addr} {fd : FuncData} (F : Fun K "_law_other" "_law_other" s_law_other f fd) (B : Bi mg) : FnOk P w K mg base CX0 1 f fd p_law_other spOther := by
  refine F.ok sc_law_other (fun vs H Q E h => ?_) (fun cdv A outer s H vs Q E hr h => ?_)
  · obtain ⟨here, many, mix, mode, rfl, _⟩ := h
    rfl
  obtain ⟨here, many, mix, mode, rfl, hh, hm, kk⟩ := h
  refine ⟨_, (pss_cons (ps_if (PW.pt (pw_and (pt_cmpR op_gt (pv 1) pe_int (nomark _)) (pw_and1 (PW.pt (pw_or (pt_cmpR op_eq (pe_op op_mod (pv 3) pe_int) pe_int (nomark _)) (pw_or1 (PW.pt (pw_and (pt_cmpR op_eq (pe_op op_mod (pv 3) pe_int) pe_int (nomark _)) (pw_and1 (pt_cmpR op_eq (pe_op op_mod (pv 2) pe_int) pe_int (nomark _))))))))))) (pss_one (ps_ret (pe_op op_mod (pe_op op_add (pe_op op_add (pv 0) pe_int) (pe_op op_mod (pe_op op_fdiv (pv 2) pe_int) (pe_op op_sub (pv 1) pe_int))) (pv 1)))) pss_nil)
        (pss_cons (ps_if (PW.pt (pw_and (pt_cmpR op_eq (pe_op op_fdiv (pv 3) pe_int) pe_int (nomark _)) (pw_and1 (pt_cmpR op_lt (pe_op op_add (pv 0) pe_int) (pv 1) (nomark _))))) (pss_one (ps_ret (pe_op op_add (pe_op op_add (pv 0) pe_int) (pe_op op_mod (pe_op op_fdiv (pv 2) pe_int) (pe_op op_sub (pe_op op_sub (pv 1) pe_int) (pv 0)))))) pss_nil)
        (pss_cons (ps_if (PW.pt (pw_and (pt_cmpR op_eq (pe_op op_fdiv (pv 3) pe_int) pe_int (nomark _)) (pw_and1 (pt_cmpR op_gt (pv 0) pe_int (nomark _))))) (pss_one (ps_ret (pe_op op_mod (pe_op op_fdiv (pv 2) pe_int) (pv 0)))) pss_nil)
        (pss_one (ps_ret (pv 0)))))), ?_⟩
  have give : ∀ z : Int, 0 ≤ z → z < (many : Int) → Q (.int z) H := fun z h0 h1 => by
    have h2 := kk z.toNat (by omega)
    have e : ((z.toNat : Nat) : Int) = z := by omega
    rw [e] at h2
    exact h2
  -- the three returns
  have r1 : (1 : Int) < (many : Int) → tRet (tOp (rI (fun _ j => 0 < j) fun i j => V.int (i % j)) (tOp (rI0 fun i j => V.int (i + j)) (tOp (rI0 fun i j => V.int (i + j)) (tVar 0) (tC (.int 1))) (tOp (rI (fun _ j => 0 < j) fun i j => V.int (i % j)) (tOp (rI CDiv fun i j => V.int (i / j)) (tVar 2) (tC (.int 5))) (tOp (rI0 fun i j => V.int (i - j)) (tVar 1) (tC (.int 1))))) (tVar 1))
      { nx := fun _ _ => True, rt := Q } [some (.int (here : Int)), some (.int (many : Int)), some (.int (mix : Int)), some (.int (mode : Int))] H := fun h1 => by
    refine ⟨_, rfl, _, _, rfl, rfl, _, rfl, _, _, rfl, rfl, ⟨by decide, by decide⟩, _, rfl, _, _, rfl, rfl, _, _, rfl, rfl, (by show (0 : Int) < (many : Int) - 1; omega), _, _, rfl, rfl, _, rfl, _, _, rfl, rfl, (by omega), ?_⟩
    exact give _ (Int.emod_nonneg _ (by omega)) (Int.emod_lt_of_pos _ (by omega))
  have r4 : Q (.int (here : Int)) H := kk here hh
  have r3 : ∀ {A B : Prop}, (A → B) → A → B := fun f a => f a
  -- behind the first if
  have rest : ∀ D : Ends, D.rt = Q → tSeq (tIfS (tAnd (tTest (tOp rEq (tOp (rI CDiv fun i j => V.int (i / j)) (tVar 3) (tC (.int 3))) (tC (.int 0)))) (tTest (tOp (rI0 fun i j => V.bl (decide (i < j))) (tOp (rI0 fun i j => V.int (i + j)) (tVar 0) (tC (.int 1))) (tVar 1))))
      (tRet (tOp (rI0 fun i j => V.int (i + j)) (tOp (rI0 fun i j => V.int (i + j)) (tVar 0) (tC (.int 1))) (tOp (rI (fun _ j => 0 < j) fun i j => V.int (i % j)) (tOp (rI CDiv fun i j => V.int (i / j)) (tVar 2) (tC (.int 5))) (tOp (rI0 fun i j => V.int (i - j)) (tOp (rI0 fun i j => V.int (i - j)) (tVar 1) (tC (.int 1))) (tVar 0))))) tNext)
      (tSeq (tIfS (tAnd (tTest (tOp rEq (tOp (rI CDiv fun i j => V.int (i / j)) (tVar 3) (tC (.int 3))) (tC (.int 1)))) (tTest (tOp (rI0 fun i j => V.bl (decide (j < i))) (tVar 0) (tC (.int 0)))))
      (tRet (tOp (rI (fun _ j => 0 < j) fun i j => V.int (i % j)) (tOp (rI CDiv fun i j => V.int (i / j)) (tVar 2) (tC (.int 5))) (tVar 0))) tNext) (tRet (tVar 0))) D
      [some (.int (here : Int)), some (.int (many : Int)), some (.int (mix : Int)), some (.int (mode : Int))] H := fun D eD => by
    have third : tSeq (tIfS (tAnd (tTest (tOp rEq (tOp (rI CDiv fun i j => V.int (i / j)) (tVar 3) (tC (.int 3))) (tC (.int 1)))) (tTest (tOp (rI0 fun i j => V.bl (decide (j < i))) (tVar 0) (tC (.int 0)))))
      (tRet (tOp (rI (fun _ j => 0 < j) fun i j => V.int (i % j)) (tOp (rI CDiv fun i j => V.int (i / j)) (tVar 2) (tC (.int 5))) (tVar 0))) tNext) (tRet (tVar 0)) D
      [some (.int (here : Int)), some (.int (many : Int)), some (.int (mix : Int)), some (.int (mode : Int))] H := by
      refine ⟨_, rfl, _, _, rfl, rfl, ⟨by decide, by decide⟩, rfl, _, rfl, ?_⟩
      refine ite2 (fun _ => ?_) (fun _ => iteF ⟨_, rfl, by rw [eD]; exact r4⟩)
      refine ⟨_, rfl, _, _, rfl, rfl, _, rfl, ?_⟩
      refine ite2 (fun q => ?_) (fun _ => ⟨_, rfl, by rw [eD]; exact r4⟩)
      have q' : (0 : Int) < (here : Int) := of_decide_eq_true q
      refine ⟨_, rfl, _, _, rfl, rfl, ⟨by decide, by decide⟩, _, rfl, _, _, rfl, rfl, q', ?_⟩
      rw [eD]
      exact give _ (Int.emod_nonneg _ (by omega)) (by have := Int.emod_lt_of_pos ((mix : Int) / 5) q'; omega)
    refine ⟨_, rfl, _, _, rfl, rfl, ⟨by decide, by decide⟩, rfl, _, rfl, ?_⟩
    refine ite2 (fun _ => ?_) (fun _ => iteF third)
    refine ⟨_, rfl, _, _, rfl, rfl, _, rfl, _, _, rfl, rfl, _, rfl, ?_⟩
    refine ite2 (fun q => ?_) (fun _ => third)
    have q' : (here : Int) + 1 < (many : Int) := of_decide_eq_true q
    have hpos : (0 : Int) < (many : Int) - 1 - (here : Int) := by omega
    refine ⟨_, rfl, _, _, rfl, rfl, _, rfl, _, _, rfl, rfl, ⟨by decide, by decide⟩, _, rfl, _, _, rfl, rfl, _, rfl, _, _, rfl, rfl, _, _, rfl, rfl, hpos, _, _, rfl, rfl, ?_⟩
    rw [eD]
    have h0 := Int.emod_nonneg ((mix : Int) / 5) (show (many : Int) - 1 - (here : Int) ≠ 0 by omega)
    have h1 := Int.emod_lt_of_pos ((mix : Int) / 5) hpos
    exact give _ (by omega) (by omega)
  refine ⟨_, rfl, _, _, rfl, rfl, _, rfl, ?_⟩
  refine ite2 (fun q => ?_) (fun _ => iteF (rest _ rfl))
  have q' : (1 : Int) < (many : Int) := of_decide_eq_true q
  refine ⟨_, rfl, _, _, rfl, rfl, (show (0 : Int) < 3 by decide), rfl, _, rfl, ?_⟩
  refine ite2 (fun _ => iteT (r1 q')) (fun _ => ?_)
  refine ⟨_, rfl, _, _, rfl, rfl, (show (0 : Int) < 3 by decide), rfl, _, rfl, ?_⟩
  refine ite2 (fun _ => ?_) (fun _ => iteF (rest _ rfl))
  refine ⟨_, rfl, _, _, rfl, rfl, (show (0 : Int) < 5 by decide), rfl, _, rfl, ?_⟩
  exact ite2 (fun _ => r1 q') (fun _ => rest _ rfl)
end
end Bh
namespace Bh
open PySem L2 BhX
/-! ### names: texts of signs -/
theorem join_cps (ys : List Str) : (Txt.join ("" : Str) ys).cps.toList = ys.flatMap fun y => y.cps.toList := by
  have e0 : ("" : Str).cps = #[] := by decide +kernel
  have aux : ∀ (l : List Str) (acc : Array Nat), (l.foldl (fun acc p => acc ++ ("" : Str).cps ++ p.cps) acc).toList = acc.toList ++ l.flatMap fun y => y.cps.toList := by
    intro l
    induction l with
    | nil => intro acc; simp
    | cons y l ih =>
      intro acc
      rw [List.foldl_cons, ih, e0, List.flatMap_cons]
      simp
  show ((ys.drop 1).foldl (fun acc p => acc ++ ("" : Str).cps ++ p.cps) (ys.headD Str.empty).cps).toList = _
  rw [aux]
  cases ys with
  | nil => rfl
  | cons y ys => rfl
def OneCh (l : List Str) : Prop := ∀ b, b ∈ l → b.length = 1
theorem join_len {l : List Str} (h : OneCh l) : (Txt.join ("" : Str) l).length = l.length := by
  show (Txt.join ("" : Str) l).cps.size = _
  rw [← Array.length_toList, join_cps]
  induction l with
  | nil => rfl
  | cons b l ih =>
    rw [List.flatMap_cons, List.length_append, ih fun c hc => h c (List.mem_cons_of_mem _ hc), List.length_cons]
    have := h b (List.mem_cons_self ..)
    have h2 : b.cps.toList.length = 1 := by rw [Array.length_toList]; exact this
    omega
theorem sum_one {l : List Str} (h : OneCh l) : (l.map fun y => y.length).sum = l.length := by
  induction l with
  | nil => rfl
  | cons b l ih =>
    rw [List.map_cons, List.sum_cons, ih fun c hc => h c (List.mem_cons_of_mem _ hc), h b (List.mem_cons_self ..), List.length_cons]
    omega
theorem str_ext {a b : Str} (h : a.cps.toList = b.cps.toList) : a = b := by
  obtain ⟨x⟩ := a
  obtain ⟨y⟩ := b
  exact congrArg Str.mk (Array.toList_inj.mp h)
theorem app_cps (a b : Str) : (a ++ b).cps.toList = a.cps.toList ++ b.cps.toList := Array.toList_append
theorem app_len (a b : Str) : (a ++ b).length = a.length + b.length := Array.size_append
theorem cut_txs (l : List Str) (lo hi : Option Int) : ∃ l', cutV (txs l) lo hi = txs l' ∧ l'.length ≤ l.length ∧ ∀ b, b ∈ l' → b ∈ l := by
  refine ⟨(l.drop (HT.sIx (txs l).length 0 lo)).take (HT.sIx (txs l).length (txs l).length hi - HT.sIx (txs l).length 0 lo), ?_, ?_, fun b hb => List.mem_of_mem_drop (List.mem_of_mem_take hb)⟩
  · unfold cutV
    show ((l.map V.str).drop _).take _ = ((l.drop _).take _).map V.str
    rw [List.map_take, List.map_drop]
  · rw [List.length_take, List.length_drop]; omega
def lettersL : List Nat := (List.range 26).map (· + 97)
def signsL : List Nat := (List.range 26).map (· + 97) ++ (List.range 10).map (· + 48)
theorem letters_eq : ("abcdefghijklmnopqrstuvwxyz" : Str).cps.toList = lettersL := by decide +kernel
theorem signs_eq : (("abcdefghijklmnopqrstuvwxyz" : Str) ++ ("0123456789" : Str)).cps.toList = signsL := by decide +kernel
theorem letters_len : ("abcdefghijklmnopqrstuvwxyz" : Str).length = 26 := by decide +kernel
theorem signs_len : (("abcdefghijklmnopqrstuvwxyz" : Str) ++ ("0123456789" : Str)).length = 36 := by decide +kernel
theorem digits_len : ("0123456789" : Str).length = 10 := by decide +kernel
theorem lettersL_nd : lettersL.Nodup := by decide +kernel
theorem signsL_nd : signsL.Nodup := by decide +kernel
theorem lettersL_len : lettersL.length = 26 := by decide +kernel
theorem signsL_len : signsL.length = 36 := by decide +kernel
theorem tbl_at {l : List Nat} {z : Int} (h0 : 0 ≤ z) (h1 : z < (l.length : Int)) : atI l z = some (l.getD z.toNat 0) := by
  have e : z = ((z.toNat : Nat) : Int) := by omega
  have q : atI l ((z.toNat : Nat) : Int) = some (l.getD z.toNat 0) := atI_nat (getD_at (by omega))
  rw [← e] at q
  exact q
theorem step_at {z : Int} (h0 : 0 ≤ z) (h1 : z < 6) : ∃ s : Int, atI [V.int 1, .int 5, .int 7, .int 11, .int 17, .int 25] z = some (.int s) ∧ (s = 1 ∨ s = 5 ∨ s = 7 ∨ s = 11 ∨ s = 17 ∨ s = 25) := by
  have h : z = 0 ∨ z = 1 ∨ z = 2 ∨ z = 3 ∨ z = 4 ∨ z = 5 := by omega
  rcases h with rfl | rfl | rfl | rfl | rfl | rfl
  · exact ⟨1, rfl, by omega⟩
  · exact ⟨5, rfl, by omega⟩
  · exact ⟨7, rfl, by omega⟩
  · exact ⟨11, rfl, by omega⟩
  · exact ⟨17, rfl, by omega⟩
  · exact ⟨25, rfl, by omega⟩
/-- the k-th sign -/
def sgn (b : Bool) (x s : Int) (k : Nat) : Str := if b then ⟨#[signsL.getD ((x + (k : Int) * s) % 36).toNat 0]⟩ else ⟨#[lettersL.getD ((x + (k : Int) * s) % 26).toNat 0]⟩
theorem getD_nd {l : List Nat} (h : l.Nodup) {i j : Nat} (hi : i < l.length) (hj : j < l.length) (e : l.getD i 0 = l.getD j 0) : i = j := by
  have h1 := getD_at hi
  have h2 := getD_at hj
  rw [e] at h1
  exact nd_ix h h1 h2
theorem sgn_inj {b : Bool} {x s : Int} {i j : Nat} (hs : s = 1 ∨ s = 5 ∨ s = 7 ∨ s = 11 ∨ s = 17 ∨ s = 25) (hi : i < 8) (hj : j < 8) (e : sgn b x s i = sgn b x s j) : i = j := by
  have m36 : ∀ k : Nat, 0 ≤ (x + (k : Int) * s) % 36 ∧ (x + (k : Int) * s) % 36 < 36 := fun k => ⟨Int.emod_nonneg _ (by decide), Int.emod_lt_of_pos _ (by decide)⟩
  have m26 : ∀ k : Nat, 0 ≤ (x + (k : Int) * s) % 26 ∧ (x + (k : Int) * s) % 26 < 26 := fun k => ⟨Int.emod_nonneg _ (by decide), Int.emod_lt_of_pos _ (by decide)⟩
  cases b with
  | true =>
    have e1 : (⟨#[signsL.getD ((x + (i : Int) * s) % 36).toNat 0]⟩ : Str) = ⟨#[signsL.getD ((x + (j : Int) * s) % 36).toNat 0]⟩ := e
    have e2 : signsL.getD ((x + (i : Int) * s) % 36).toNat 0 = signsL.getD ((x + (j : Int) * s) % 36).toNat 0 := by
      have := congrArg (fun z : Str => z.cps.toList) e1
      simpa using this
    have a := m36 i
    have b := m36 j
    have e3 := getD_nd signsL_nd (by rw [signsL_len]; omega) (by rw [signsL_len]; omega) e2
    have e4 : (x + (i : Int) * s) % 36 = (x + (j : Int) * s) % 36 := by omega
    rcases hs with rfl | rfl | rfl | rfl | rfl | rfl <;> omega
  | false =>
    have e1 : (⟨#[lettersL.getD ((x + (i : Int) * s) % 26).toNat 0]⟩ : Str) = ⟨#[lettersL.getD ((x + (j : Int) * s) % 26).toNat 0]⟩ := e
    have e2 : lettersL.getD ((x + (i : Int) * s) % 26).toNat 0 = lettersL.getD ((x + (j : Int) * s) % 26).toNat 0 := by
      have := congrArg (fun z : Str => z.cps.toList) e1
      simpa using this
    have a := m26 i
    have b := m26 j
    have e3 := getD_nd lettersL_nd (by rw [lettersL_len]; omega) (by rw [lettersL_len]; omega) e2
    have e4 : (x + (i : Int) * s) % 26 = (x + (j : Int) * s) % 26 := by omega
    rcases hs with rfl | rfl | rfl | rfl | rfl | rfl <;> omega
theorem nd_map_range {f : Nat → Str} {n : Nat} (h : ∀ i j, i < n → j < n → f i = f j → i = j) : ((List.range n).map f).Nodup := by
  refine List.pairwise_iff_getElem.mpr fun i j hi hj hij e => ?_
  rw [List.length_map, List.length_range] at hi hj
  rw [List.getElem_map, List.getElem_map, List.getElem_range, List.getElem_range] at e
  have := h i j hi hj e
  omega
theorem sgn_len (b : Bool) (x s : Int) (k : Nat) : (sgn b x s k).length = 1 := by
  unfold sgn
  split <;> rfl
theorem range_map_succ (f : Nat → Str) (n : Nat) : (List.range (n + 1)).map f = (List.range n).map f ++ [f n] := by
  rw [List.range_succ, List.map_append]; rfl
def rJoin (K : PySem.W.Frag) : V → List V → Hp → VK → Prop := fun x xs H Q => ∃ a p, ∃ ys : List Str, x = .str a ∧ xs = [.ref p] ∧ (SqL K H p (ys.map V.str) ∨ SqT K H p (ys.map V.str)) ∧
  (ys.map (·.length)).sum + ys.length * a.length ≤ 16777216 ∧ Q (.str (Txt.join a ys)) H
section
variable {P : Program} {w : World} {K : PySem.W.Frag} {mg : Str → Option Value} {base : Heap}
/-! ### names -/
def spNames : Sp := fun vs H Q _ => ∃ (c : Int) (n : Nat), vs = [.int c, .int (n : Int)] ∧ n ≤ 8 ∧ ∀ H' p names, Same H H' → H p = none → H' p = some (.lst (txs names)) → names.length = n → names.Nodup → Q (.ref p) H'
abbrev n_law_names : List Str := ["_law_cell", "_law_many", "_law_letters", "_law_signs", "_law_base", "_law_names_here", "_law_long", "_law_at", "_law_step", "_law_k", "_law_sign"]
abbrev p_law_names : List Str := ["_law_cell", "_law_many"]
theorem sc_law_names : FnScope n_law_names p_law_names (defScope s_law_names) := ⟨rfl, rfl, rfl, by decide +kernel, rfl, by decide +kernel, by decide +kernel⟩
theorem ok_names {f f1 : Addr} {fd fd1 : FuncData} (F : Fun K "_law_names" "_law_names" s_law_names f fd) (B : Bi mg) (c_law_mixed : Here P w K mg base "_law_mixed" 1 f1 fd1 p_law_mixed spMixed) : FnOk P w K mg base CX0 2 f fd p_law_names spNames := by
  refine F.ok sc_law_names (fun vs H Q E h => ?_) (fun cdv A outer s H vs Q E hr h => ?_)
  · obtain ⟨c, n, rfl, _⟩ := h
    rfl
  obtain ⟨c, n, rfl, hn, k⟩ := h
  refine ⟨_, (pss_cons (ps_set (i := 2) sc_law_names.nd rfl (Or.inr rfl) pe_str)
        (pss_cons (ps_set (i := 3) sc_law_names.nd rfl (Or.inl rfl) (pe_op op_add_str (pv 2) pe_str))
        (pss_cons (ps_set (i := 4) sc_law_names.nd rfl (Or.inr rfl) (pe_lc (own := [("_law_k", 9)]) (g := gName 9) (tt := tYes) rfl sc_law_names.nd (pi_range1 (by rfl) B.range (pa_cons pe_int pa_nil)) (blkOk_by (own := [("_law_k", 9)]) (N := n_law_names) (sc := defScope s_law_names) (by decide +kernel)) (fun _ _ _ _ _ => (pg_name (i := 9) sc_law_names.nd rfl (Or.inl rfl))) (fun _ _ _ _ _ => pts_nil) (fun _ _ _ _ _ => (pe_ix ix_str (pv 2) (pe_op op_mod (pe_call c_law_mixed.ok (hr.mono (by decide)) rfl c_law_mixed.mgx c_law_mixed.kp c_law_mixed.b .nil pass0 (pa_cons (pv 0) (pa_cons (pv 9) (pa_cons pe_int pa_nil)))) pe_int) (fun _ _ => rfl)))))
        (pss_cons (ps_if (PW.pt (pw_and (pt_cmpR op_eq (pe_op op_mod (pe_op op_fdiv (pv 0) pe_int) pe_int) pe_int (nomark _)) (pw_and1 (pt_cmpR op_lt (pv 1) pe_int (nomark _))))) (pss_one (ps_setLc (i := 5) (own := [("_law_k", 9)]) (g := gName 9) (tt := tYes) (te := tM1 (rJoin K) (tC (.str "")) (tSl (rSlL K) (tVar 4) tNoPart (tPart (tOp (rI0 fun i j => .int (i + j)) (tVar 9) (tC (.int 1)))))) (by rfl) sc_law_names.nd rfl rfl (sw_true rfl rfl rfl (by decide +kernel)) (pi_range1 (by rfl) B.range (pa_cons (pv 1) pa_nil)) (blkOk_by (own := [("_law_k", 9)]) (N := n_law_names) (sc := defScope s_law_names) (by decide +kernel)) (fun _ _ _ _ _ => (pg_name (i := 9) sc_law_names.nd rfl (Or.inl rfl))) (fun _ _ _ _ _ => pts_nil) (fun _ _ _ _ _ => (pe_join pe_str (pe_slice sl_list (pv 4) po_none (po_some (pe_op op_add (pv 9) pe_int))))))) (pss_cons (ps_set (i := 6) sc_law_names.nd rfl (Or.inl rfl) (pe_op op_add pe_int (pe_op op_mod (pv 0) pe_int)))
          (pss_cons (ps_set (i := 7) sc_law_names.nd rfl (Or.inl rfl) (pe_op op_mod (pe_op op_fdiv (pv 0) pe_int) (pv 6)))
          (pss_cons (ps_set (i := 8) sc_law_names.nd rfl (Or.inl rfl) (pe_ix ix_list (pe_lst (pa_cons pe_int (pa_cons pe_int (pa_cons pe_int (pa_cons pe_int (pa_cons pe_int (pa_cons pe_int pa_nil))))))) (pe_op op_mod (pe_call c_law_mixed.ok (hr.mono (by decide)) rfl c_law_mixed.mgx c_law_mixed.kp c_law_mixed.b .nil pass0 (pa_cons (pv 0) (pa_cons pe_int (pa_cons pe_int pa_nil)))) pe_int) (fun _ _ => rfl)))
          (pss_cons (ps_set (i := 5) sc_law_names.nd rfl (Or.inl rfl) (pe_lst pa_nil))
          (pss_one (ps_for PassesOwn.never rfl (pi_range1 (by rfl) B.range (pa_cons (pv 1) pa_nil)) (pg_name (i := 9) sc_law_names.nd rfl (Or.inl rfl)) (pss_cons (ps_set (i := 10) sc_law_names.nd rfl (Or.inl rfl) (pe_ix ix_str (pv 2) (pe_op op_mod (pe_op op_add (pe_op op_fdiv (pv 0) pe_int) (pe_op op_mul (pv 9) (pv 8))) pe_int) (fun _ _ => rfl)))
            (pss_cons (ps_if (pt_cmpR op_gt (pv 7) pe_int (nomark _)) (pss_one (ps_set (i := 10) sc_law_names.nd rfl (Or.inl rfl) (pe_ix ix_str (pv 3) (pe_op op_mod (pe_op op_add (pe_op op_fdiv (pv 0) pe_int) (pe_op op_mul (pv 9) (pv 8))) pe_int) (fun _ _ => rfl)))) pss_nil)
            (pss_one (ps_expr (pe_bm PySem.F.plainAttrs_list PySem.F.slot_list_append PySem.F.type_list_append mt_append (pv 5) (pa_cons (pe_op op_add_str (pe_op op_add_str (pe_join pe_str (pe_slice sl_list (pv 4) po_none (po_some (pv 7)))) (pv 10)) (pe_join pe_str (pe_slice sl_list (pv 4) (po_some (pe_op op_add (pv 7) pe_int)) (po_some (pv 6))))) pa_nil)))))))))))))
        (pss_cons (ps_if (pt_cmpR op_eq (pe_op op_mod (pe_op op_fdiv (pv 0) pe_int) pe_int) pe_int (nomark _)) (pss_one (ps_expr (pe_bm0 PySem.F.plainAttrs_list PySem.F.slot_list_reverse PySem.F.type_list_reverse mt_reverse (pv 5)))) pss_nil)
        (pss_one (ps_ret (pv 5)))))))), ?_⟩
  refine ⟨_, rfl, _, _, rfl, rfl, by rw [letters_len, digits_len]; decide, ?_⟩
  -- base
  refine ⟨8, rfl, by decide, by decide, fun Ba hBa => lc_range (lo := 0) (n := 8) (fun i H' => ∃ l : List Str, H' = upd H Ba (.lst (txs l)) ∧ l.length = i ∧ OneCh l) ⟨[], rfl, rfl, fun b hb => (nomatch hb)⟩ ?_ ?_⟩
  · rintro i H' hi ⟨l, rfl, hl, ho⟩
    refine ⟨rfl, _, rfl, _, rfl, _, rfl, c, i, 65519, by rw [Int.zero_add]; rfl, by omega, by decide, fun m hm => ?_⟩
    have h0 : 0 ≤ (m : Int) % 26 := Int.emod_nonneg _ (by decide)
    have h1 : (m : Int) % 26 < 26 := Int.emod_lt_of_pos _ (by decide)
    refine ⟨_, _, rfl, rfl, (show (0 : Int) < 26 by decide), _, _, _, rfl, rfl, by rw [letters_len]; decide, by rw [letters_eq]; exact tbl_at h0 (by rw [lettersL_len]; exact h1), ?_⟩
    refine ⟨_, upd_same, by rw [txs_len]; exact line_lt (by omega), l ++ [⟨#[lettersL.getD ((m : Int) % 26).toNat 0]⟩], ?_, by rw [List.length_append, List.length_singleton, hl], fun b hb => ?_⟩
    · rw [upd_upd, txs_snoc]
    · rcases List.mem_append.mp hb with hb | hb
      · exact ho b hb
      · rw [List.mem_singleton.mp hb]; rfl
  rintro H1 ⟨l, rfl, hl, ho⟩
  have sB : Same H (upd H Ba (.lst (txs l))) := Same.new hBa _
  generalize hH1 : upd H Ba (.lst (txs l)) = H1 at sB
  have hBa1 : H1 Ba = some (.lst (txs l)) := by rw [← hH1, upd_same]
  have oneSub : ∀ {l' : List Str}, (∀ b, b ∈ l' → b ∈ l) → OneCh l' := fun h b hb => ho b (h b hb)
  -- what follows: the reversal and the return
  have fin : ∀ (H2 : Hp) (pa : Addr) (names : List Str) (v6 v7 v8 v9 v10 : Option V), Same H H2 → H pa = Option.none → H2 pa = some (.lst (txs names)) → names.length = n → names.Nodup →
      tSeq (tIfS (tTest (tOp rEq (tOp (rI (fun _ j => 0 < j) fun i j => V.int (i % j)) (tOp (rI CDiv fun i j => V.int (i / j)) (tVar 0) (tC (.int 3))) (tC (.int 2))) (tC (.int 1)))) (tDrop (tBM0 K "list" rReverse (tVar 5))) tNext) (tRet (tVar 5)) { nx := fun _ H' => Q .non H', rt := Q }
        [some (.int c), some (.int (n : Int)), some (.str "abcdefghijklmnopqrstuvwxyz"), some (.str (("abcdefghijklmnopqrstuvwxyz" : Str) ++ ("0123456789" : Str))), some (.ref Ba), some (.ref pa), v6, v7, v8, v9, v10] H2 := fun H2 pa names v6 v7 v8 v9 v10 hs hp0 hp hln hnd => by
    refine ⟨_, rfl, _, _, rfl, rfl, ⟨by decide, by decide⟩, _, _, rfl, rfl, (show (0 : Int) < 2 by decide), rfl, _, rfl, ?_⟩
    refine ite2 (fun _ => ?_) (fun _ => ⟨_, rfl, k _ _ names hs hp0 hp hln hnd⟩)
    refine ⟨_, rfl, .inl ⟨rfl, _, SqL.of hp⟩, pa, _, rfl, rfl, hp, ?_⟩
    refine ⟨_, rfl, k _ _ names.reverse (hs.upd hp0 _) hp0 ?_ (by rw [List.length_reverse]; exact hln) (List.pairwise_reverse.mpr (hnd.imp fun h => h.symm))⟩
    rw [upd_same]
    show some (HO.lst (List.reverse (names.map V.str))) = some (HO.lst (names.reverse.map V.str))
    rw [List.map_reverse]
  have prefs : tSeq (tAsg (tLc (iRng1 (tCons (tVar 1) tNil)) (gName 9) tYes (tM1 (rJoin K) (tC (.str "")) (tSl (rSlL K) (tVar 4) tNoPart (tPart (tOp (rI0 fun i j => .int (i + j)) (tVar 9) (tC (.int 1)))))) [9]) (gName 5)) tNext
      { nx := tSeq (tIfS (tTest (tOp rEq (tOp (rI (fun _ j => 0 < j) fun i j => V.int (i % j)) (tOp (rI CDiv fun i j => V.int (i / j)) (tVar 0) (tC (.int 3))) (tC (.int 2))) (tC (.int 1)))) (tDrop (tBM0 K "list" rReverse (tVar 5))) tNext) (tRet (tVar 5)) { nx := fun _ H' => Q .non H', rt := Q }, rt := Q }
      [some (.int c), some (.int (n : Int)), some (.str "abcdefghijklmnopqrstuvwxyz"), some (.str (("abcdefghijklmnopqrstuvwxyz" : Str) ++ ("0123456789" : Str))), some (.ref Ba), none, none, none, none, none, none] H1 := by
    refine ⟨_, rfl, _, rfl, by omega, by omega, fun Na hNa => lc_range (lo := 0) (n := ((n : Int)).toNat) (fun i H' => ∃ H2, Same H1 H2 ∧ H2 Na = none ∧ H' = upd H2 Na (.lst (txs ((List.range i).map fun k => Txt.join ("" : Str) (l.take (k + 1)))))) ⟨H1, Same.refl _, hNa, rfl⟩ ?_ ?_⟩
    · rintro i H' hi ⟨H2, s2, hNa2, rfl⟩
      have hi8 : i < 8 := by omega
      have hBa2 := s2 _ _ hBa1
      have nBN : Ba ≠ Na := ne_of_none hBa2 hNa2
      refine ⟨rfl, ?_⟩
      refine ⟨⟨_, rfl⟩, _, rfl, _, rfl, _, _, rfl, rfl, _, rfl, Ba, _, rfl, SqL.of (by rw [upd_ne nBN]; exact hBa2), fun p hp => ?_⟩
      have ecut : cutV (txs l) Option.none (some ((0 : Int) + (i : Int) + 1)) = txs (l.take (i + 1)) := by
        have ei : (0 : Int) + (i : Int) + 1 = ((i + 1 : Nat) : Int) := by omega
        unfold cutV
        rw [ei, HT.sIx_none, HT.sIx_nat, txs_len, hl, List.drop_zero, Nat.sub_zero, Nat.min_eq_left (by omega)]
        show (l.map V.str).take (i + 1) = (l.take (i + 1)).map V.str
        rw [List.map_take]
      have hone : OneCh (l.take (i + 1)) := oneSub fun b hb => List.mem_of_mem_take hb
      have hlt : (l.take (i + 1)).length = i + 1 := by rw [List.length_take]; omega
      refine ⟨_, p, l.take (i + 1), rfl, rfl, .inl (SqL.of (by rw [upd_same]; exact congrArg (fun z => some (HO.lst z)) ecut)), ?_, ?_⟩
      · rw [sum_one hone, hlt]
        have : ("" : Str).length = 0 := by decide +kernel
        rw [this]
        omega
      have nNp : Na ≠ p := ne_of_none upd_same hp
      have hp2 : H2 p = Option.none := by rw [upd_ne nNp.symm] at hp; exact hp
      refine ⟨_, by rw [upd_ne nNp, upd_same], by rw [txs_len, List.length_map, List.length_range]; exact line_lt (by omega), upd H2 p (.lst (cutV (txs l) Option.none (some ((0 : Int) + (i : Int) + 1)))), s2.trans (Same.new hp2 _), by rw [upd_ne nNp]; exact hNa2, ?_⟩
      rw [txs_snoc, range_map_succ]
      funext b
      by_cases e1 : b = Na
      · subst e1; rw [upd_same, upd_same]
      · rw [upd_ne e1, upd_ne e1]
        by_cases e2 : b = p
        · subst e2; rw [upd_same, upd_same]
        · rw [upd_ne e2, upd_ne e2, upd_ne e1]
    · rintro H' ⟨H2, s2, hNa2, rfl⟩
      rw [Int.toNat_natCast]
      have hp0 : H Na = Option.none := sB.free hNa
      refine fin _ Na _ _ _ _ _ _ ((sB.trans s2).upd hp0 _) hp0 upd_same (by rw [List.length_map, List.length_range]) (nd_map_range fun i j hi hj e => ?_)
      have h1 := congrArg Str.length e
      rw [join_len (oneSub fun b hb => List.mem_of_mem_take hb), join_len (oneSub fun b hb => List.mem_of_mem_take hb), List.length_take, List.length_take] at h1
      omega
  refine ⟨_, rfl, _, _, rfl, rfl, ⟨by decide, by decide⟩, _, _, rfl, rfl, (show (0 : Int) < 4 by decide), rfl, _, rfl, ?_⟩
  refine ite2 (fun _ => ?_) (fun _ => ?_)
  · refine ⟨_, rfl, _, _, rfl, rfl, _, rfl, ?_⟩
    have h9 : decide ((n : Int) < 9) = true := decide_eq_true (by omega)
    rw [h9]
    exact iteT prefs
  refine iteF ?_
  -- long, at, step
  have hlong : 0 < (1 : Int) + c % 8 ∧ (1 : Int) + c % 8 ≤ 8 := by
    have h0 := Int.emod_nonneg c (show (8 : Int) ≠ 0 by decide)
    have h1 := Int.emod_lt_of_pos c (show (0 : Int) < 8 by decide)
    omega
  refine ⟨_, rfl, _, _, rfl, rfl, (show (0 : Int) < 8 by decide), _, _, rfl, rfl, ?_⟩
  refine ⟨_, rfl, _, _, rfl, rfl, ⟨by decide, by decide⟩, _, rfl, _, _, rfl, rfl, hlong.1, ?_⟩
  refine ⟨by show 6 ≤ sizeLine; decide, fun sp hsp => ?_⟩
  refine ⟨_, rfl, c, 9, 65521, rfl, by decide, by decide, fun m hm => ?_⟩
  have h0 : 0 ≤ (m : Int) % 6 := Int.emod_nonneg _ (by decide)
  have h1 : (m : Int) % 6 < 6 := Int.emod_lt_of_pos _ (by decide)
  obtain ⟨stp, hst, hss⟩ := step_at h0 h1
  refine ⟨_, _, rfl, rfl, (show (0 : Int) < 6 by decide), sp, _, _, _, rfl, rfl, SqL.of upd_same, hst, ?_⟩
  have sS : Same H1 (upd H1 sp (.lst [.int 1, .int 5, .int 7, .int 11, .int 17, .int 25])) := Same.new hsp _
  generalize hH2 : upd H1 sp (.lst [.int 1, .int 5, .int 7, .int 11, .int 17, .int 25]) = H2 at sS
  have hs2 := sB.trans sS
  refine ⟨Nat.zero_le _, fun Na hNa => ?_⟩
  have hNa0 : H Na = Option.none := hs2.free hNa
  have sN : Same H2 (upd H2 Na (.lst [])) := Same.new hNa _
  obtain ⟨long, hlg⟩ : ∃ z, z = (1 : Int) + c % 8 := ⟨_, rfl⟩
  obtain ⟨at', hat⟩ : ∃ z, z = c / 8 % (1 + c % 8) := ⟨_, rfl⟩
  obtain ⟨la, ela, hla, hlas⟩ := cut_txs l Option.none (some at')
  obtain ⟨lb, elb, hlb, hlbs⟩ := cut_txs l (some (at' + 1)) (some long)
  have oa : OneCh la := oneSub hlas
  have ob : OneCh lb := oneSub hlbs
  have e0 : ("" : Str).length = 0 := by decide +kernel
  have lA := join_len oa
  have lB := join_len ob
  generalize hA : Txt.join ("" : Str) la = SA at lA
  generalize hBb : Txt.join ("" : Str) lb = SB at lB
  have nBN : Ba ≠ Na := ne_of_none (sS _ _ hBa1) hNa
  refine ⟨_, rfl, _, rfl, by omega, by omega, for_range (lo := 0) (n := ((n : Int)).toNat) (fun i σ H' => ∃ (c9 c10 : Option V), σ = [some (.int c), some (.int (n : Int)), some (.str "abcdefghijklmnopqrstuvwxyz"), some (.str (("abcdefghijklmnopqrstuvwxyz" : Str) ++ ("0123456789" : Str))), some (.ref Ba), some (.ref Na), some (.int long), some (.int at'), some (.int stp), c9, c10] ∧
      Same H1 H' ∧ H' Na = some (.lst (txs ((List.range i).map fun k => (SA ++ sgn (decide (0 < at')) (c / 64) stp k) ++ SB))))
    ⟨none, none, by rw [hlg, hat]; rfl, sS.trans sN, upd_same⟩ ?_ ?_⟩
  · rintro i σ H' hi ⟨c9, c10, rfl, hs, hNa'⟩
    have hi8 : i < 8 := by omega
    have hBa' : H' Ba = some (.lst (txs l)) := hs _ _ hBa1
    have ei : (0 : Int) + (i : Int) = (i : Int) := Int.zero_add _
    have mulok : CMul ((0 : Int) + (i : Int)) stp := .inl ⟨by omega, by omega⟩
    have z0 : 0 ≤ (c / 64 + ((0 : Int) + (i : Int)) * stp) % 26 := Int.emod_nonneg _ (by decide)
    have z1 : (c / 64 + ((0 : Int) + (i : Int)) * stp) % 26 < 26 := Int.emod_lt_of_pos _ (by decide)
    have y0 : 0 ≤ (c / 64 + ((0 : Int) + (i : Int)) * stp) % 36 := Int.emod_nonneg _ (by decide)
    have y1 : (c / 64 + ((0 : Int) + (i : Int)) * stp) % 36 < 36 := Int.emod_lt_of_pos _ (by decide)
    refine ⟨_, rfl, _, rfl, _, _, rfl, rfl, ⟨by decide, by decide⟩, _, rfl, _, rfl, _, _, rfl, rfl, mulok, _, _, rfl, rfl, _, _, rfl, rfl, (show (0 : Int) < 26 by decide), _, _, _, rfl, rfl, by rw [letters_len]; decide, by rw [letters_eq]; exact tbl_at z0 (by rw [lettersL_len]; exact z1), ?_⟩
    refine ⟨_, rfl, _, _, rfl, rfl, _, rfl, ?_⟩
    have sl : ∀ sg : Str, sg = sgn (decide (0 < at')) (c / 64) stp i → sg.length = 1 := fun sg e => by rw [e]; exact sgn_len _ _ _ _
    refine ite2 (fun q => ?_) (fun q => ?_)
    · have q' : (0 : Int) < at' := of_decide_eq_true q
      refine ⟨_, rfl, _, rfl, _, _, rfl, rfl, ⟨by decide, by decide⟩, _, rfl, _, rfl, _, _, rfl, rfl, mulok, _, _, rfl, rfl, _, _, rfl, rfl, (show (0 : Int) < 36 by decide), _, _, _, rfl, rfl, by rw [signs_len]; decide, by rw [signs_eq]; exact tbl_at y0 (by rw [signsL_len]; exact y1), ?_⟩
      have es : (⟨#[signsL.getD ((c / 64 + ((0 : Int) + (i : Int)) * stp) % 36).toNat 0]⟩ : Str) = sgn (decide (0 < at')) (c / 64) stp i := by
        rw [decide_eq_true q', ei]; rfl
      rw [es]
      have hsg := sl _ rfl
      generalize hg : sgn (decide (0 < at')) (c / 64) stp i = sg at hsg
      refine ⟨_, rfl, .inl ⟨rfl, _, SqL.of hNa'⟩, ?_⟩
      refine ⟨⟨_, rfl⟩, _, rfl, _, rfl, _, rfl, Ba, _, rfl, SqL.of hBa', fun p hp => ?_⟩
      have s1 : Same H' (upd H' p (.lst (cutV (txs l) Option.none (some at')))) := Same.new hp _
      refine ⟨_, p, la, rfl, rfl, .inl (SqL.of (by rw [upd_same]; exact congrArg (fun z => some (HO.lst z)) ela)), by rw [sum_one oa, e0]; omega, ?_⟩
      refine ⟨_, rfl, _, _, rfl, rfl, by rw [hA, lA, hsg]; exact line_of (by omega), ?_⟩
      refine ⟨⟨_, rfl⟩, _, rfl, _, rfl, _, _, rfl, rfl, _, rfl, _, rfl, _, rfl, Ba, _, rfl, SqL.of (s1 _ _ hBa'), fun p2 hp2 => ?_⟩
      have s2 := s1.trans (Same.new hp2 (.lst (cutV (txs l) (some (at' + 1)) (some long))))
      refine ⟨_, p2, lb, rfl, rfl, .inl (SqL.of (by rw [upd_same]; exact congrArg (fun z => some (HO.lst z)) elb)), by rw [sum_one ob, e0]; omega, ?_⟩
      refine ⟨_, _, rfl, rfl, by rw [app_len, hA, hBb, lA, lB, hsg]; exact line_of (by omega), ?_⟩
      refine ⟨Na, _, _, rfl, rfl, s2 _ _ hNa', by rw [txs_len, List.length_map, List.length_range]; exact line_lt (by omega), ?_⟩
      refine ⟨_, _, rfl, (hs.trans s2).upd (sS.free hNa) _, ?_⟩
      rw [upd_same, txs_snoc, range_map_succ, hg, hA, hBb]
    · have q' : ¬ (0 : Int) < at' := of_decide_eq_false (Bool.eq_false_iff.mpr q)
      have es : (⟨#[lettersL.getD ((c / 64 + ((0 : Int) + (i : Int)) * stp) % 26).toNat 0]⟩ : Str) = sgn (decide (0 < at')) (c / 64) stp i := by
        rw [decide_eq_false q', ei]; rfl
      rw [es]
      have hsg := sl _ rfl
      generalize hg : sgn (decide (0 < at')) (c / 64) stp i = sg at hsg
      refine ⟨_, rfl, .inl ⟨rfl, _, SqL.of hNa'⟩, ?_⟩
      refine ⟨⟨_, rfl⟩, _, rfl, _, rfl, _, rfl, Ba, _, rfl, SqL.of hBa', fun p hp => ?_⟩
      have s1 : Same H' (upd H' p (.lst (cutV (txs l) Option.none (some at')))) := Same.new hp _
      refine ⟨_, p, la, rfl, rfl, .inl (SqL.of (by rw [upd_same]; exact congrArg (fun z => some (HO.lst z)) ela)), by rw [sum_one oa, e0]; omega, ?_⟩
      refine ⟨_, rfl, _, _, rfl, rfl, by rw [hA, lA, hsg]; exact line_of (by omega), ?_⟩
      refine ⟨⟨_, rfl⟩, _, rfl, _, rfl, _, _, rfl, rfl, _, rfl, _, rfl, _, rfl, Ba, _, rfl, SqL.of (s1 _ _ hBa'), fun p2 hp2 => ?_⟩
      have s2 := s1.trans (Same.new hp2 (.lst (cutV (txs l) (some (at' + 1)) (some long))))
      refine ⟨_, p2, lb, rfl, rfl, .inl (SqL.of (by rw [upd_same]; exact congrArg (fun z => some (HO.lst z)) elb)), by rw [sum_one ob, e0]; omega, ?_⟩
      refine ⟨_, _, rfl, rfl, by rw [app_len, hA, hBb, lA, lB, hsg]; exact line_of (by omega), ?_⟩
      refine ⟨Na, _, _, rfl, rfl, s2 _ _ hNa', by rw [txs_len, List.length_map, List.length_range]; exact line_lt (by omega), ?_⟩
      refine ⟨_, _, rfl, (hs.trans s2).upd (sS.free hNa) _, ?_⟩
      rw [upd_same, txs_snoc, range_map_succ, hg, hA, hBb]
  · rintro σ H' ⟨c9, c10, rfl, hs, hNa'⟩
    rw [Int.toNat_natCast] at hNa'
    refine fin H' Na _ _ _ _ _ _ (sB.trans hs) hNa0 hNa' (by rw [List.length_map, List.length_range]) (nd_map_range fun i j hi hj e => ?_)
    have e1 := congrArg (fun z : Str => z.cps.toList) e
    have e2 : (SA.cps.toList ++ (sgn (decide (0 < at')) (c / 64) stp i).cps.toList) ++ SB.cps.toList = (SA.cps.toList ++ (sgn (decide (0 < at')) (c / 64) stp j).cps.toList) ++ SB.cps.toList := by
      have := e1
      simp only [app_cps] at this
      exact this
    have e3 := List.append_cancel_left (List.append_cancel_right e2)
    exact sgn_inj hss (by omega) (by omega) (str_ext e3)
end
end Bh
namespace Bh
open PySem L2 BhX
open PySem.W (Datum Tup)
/-! ### what the law's own looks give -/
theorem of_dec {p : Prop} (i : Decidable p) (h : @decide p i = true) : p := by
  cases i with
  | isTrue q => exact q
  | isFalse _ => cases h
theorem to_dec {p : Prop} (i : Decidable p) (h : p) : @decide p i = true := by
  cases i with
  | isTrue _ => rfl
  | isFalse q => exact absurd h q
theorem dec_dec {p : Prop} (i j : Decidable p) : @decide p i = @decide p j := by
  cases i with
  | isTrue q =>
    cases j with
    | isTrue _ => rfl
    | isFalse n => exact absurd q n
  | isFalse n =>
    cases j with
    | isTrue q => exact absurd q n
    | isFalse _ => rfl
def blist (rs : List Rw) : List Str := rs.filterMap fun r => match r with
  | .bring o => some o
  | _ => none
theorem mem_blist {rs : List Rw} {o : Str} : o ∈ blist rs ↔ Rw.bring o ∈ rs := by
  unfold blist
  rw [List.mem_filterMap]
  constructor
  · rintro ⟨r, hr, e⟩
    cases r with
    | bring o' => cases e; exact hr
    | ask _ => cases e
    | say => cases e
  · exact fun h => ⟨_, h, rfl⟩
theorem blist_len (rs : List Rw) : (blist rs).length ≤ rs.length := List.length_filterMap_le _ _
def bone : Rw → List Str
  | .bring o => [o]
  | _ => []
theorem blist_take {rs : List Rw} {i : Nat} {r : Rw} (h : rs[i]? = some r) : blist (rs.take (i + 1)) = blist (rs.take i) ++ bone r := by
  unfold blist
  rw [List.take_add_one, h, List.filterMap_append]
  cases r <;> rfl
def edgeB (P : Parts) (p : Str × Str) : Bool := decide (p.2 ∈ blist (rowsOf P p.1))
theorem edgeB_iff {P : Parts} (g : PGood P) {x y : Str} (hx : x ∈ namesOf P) : edgeB P (x, y) = true ↔ EP P x y := by
  unfold edgeB
  rw [decide_eq_true_eq, mem_blist, ← mem_brings g hx]
  unfold bringsOf
  rw [mem_brs]
theorem pair_hd {K : PySem.W.Frag} {H : Hp} {v : V} {p : Str × Str} (h : PairAt H v p) : HD K H v p := by
  obtain ⟨a, rfl, ha⟩ := h
  exact hd_pair (SqT.of ha) (hd_str _) (hd_str _)
theorem pairs_hds {K : PySem.W.Frag} {H : Hp} {vs : List V} {C : List (Str × Str)} (h : Paired (PairAt H) vs C) : HDs K H vs C := hds_of (pmono h fun _ _ q => pair_hd q)
def keepB (C : List (Str × Str)) (x : Str) : Rw → Bool
  | .bring o => !decide ((x, o) ∈ C)
  | _ => true
def withoutM (P : Parts) (C : List (Str × Str)) : Parts := P.map fun p => (p.1, p.2.filter (keepB C p.1))
theorem without_names (P : Parts) (C : List (Str × Str)) : namesOf (withoutM P C) = namesOf P := by
  unfold withoutM
  show (P.map _).map _ = P.map _
  rw [List.map_map]
  rfl
theorem without_edge {P : Parts} {C : List (Str × Str)} {x y : Str} : EP (withoutM P C) x y ↔ EP P x y ∧ (x, y) ∉ C := by
  unfold EP withoutM
  constructor
  · rintro ⟨rs, h1, h2⟩
    obtain ⟨⟨x', rs'⟩, hm, e⟩ := List.mem_map.mp h1
    cases e
    obtain ⟨h3, h4⟩ := List.mem_filter.mp h2
    refine ⟨⟨rs', hm, h3⟩, ?_⟩
    simpa [keepB] using h4
  · rintro ⟨⟨rs, h1, h2⟩, h3⟩
    exact ⟨_, List.mem_map.mpr ⟨_, h1, rfl⟩, List.mem_filter.mpr ⟨h2, by simpa [keepB] using h3⟩⟩
theorem without_good {P : Parts} {C : List (Str × Str)} (g : PGood P) : PGood (withoutM P C) where
  nd := by rw [without_names]; exact g.nd
  len := by unfold withoutM; rw [List.length_map]; exact g.len
  rows := fun p hp => by
    unfold withoutM at hp
    obtain ⟨q, hq, rfl⟩ := List.mem_map.mp hp
    exact Nat.le_trans (List.length_filter_le _ _) (g.rows q hq)
  dom := fun p hp o ho => by
    unfold withoutM at hp
    obtain ⟨q, hq, rfl⟩ := List.mem_map.mp hp
    rw [without_names]
    exact g.dom q hq o (List.mem_filter.mp ho).1
section
variable {P : Program} {w : World} {K : PySem.W.Frag} {mg : Str → Option Value} {base : Heap}
/-! ### pairs_of -/
def spPairs : Sp := fun vs H Q _ => ∃ (v : V) (P : Parts), vs = [v] ∧ PartsAt H v P ∧ PGood P ∧ ∀ H' p vs', Same H H' → H' p = some (.lst vs') → Paired (PairAt H') vs' (prod (namesOf P) (edgeB P)) → Q (.ref p) H'
abbrev n_law_pairs_of : List Str := ["_law_parts", "_law_found", "_law_name", "_law_rows", "_law_others", "_law_row", "_law_other_here", "_law_some"]
abbrev p_law_pairs_of : List Str := ["_law_parts"]
theorem sc_law_pairs_of : FnScope n_law_pairs_of p_law_pairs_of (defScope s_law_pairs_of) := ⟨rfl, rfl, rfl, by decide +kernel, rfl, by decide +kernel, by decide +kernel⟩
theorem ok_pairs_of {f : Addr} {fd : FuncData} (F : Fun K "_law_pairs_of" "_law_pairs_of" s_law_pairs_of f fd) (B : Bi mg) : FnOk P w K mg base CX0 1 f fd p_law_pairs_of spPairs := by
  refine F.ok sc_law_pairs_of (fun vs H Q E h => ?_) (fun cdv A outer s H vs Q E hr h => ?_)
  · obtain ⟨v, P, rfl, _⟩ := h
    rfl
  obtain ⟨v, P, rfl, ⟨a, vp, rfl, ha, hp⟩, g, k⟩ := h
  refine ⟨_, (pss_cons (ps_set (i := 1) sc_law_pairs_of.nd rfl (Or.inl rfl) (pe_lst pa_nil))
        (pss_cons (ps_for PassesOwn.never rfl (pi_tup (pv 0)) (pg_tup rfl (pgs_cons (pg_name (i := 2) sc_law_pairs_of.nd rfl (Or.inr rfl)) (pgs_cons (pg_name (i := 3) sc_law_pairs_of.nd rfl (Or.inl rfl)) pgs_nil))) (pss_cons (ps_set (i := 4) sc_law_pairs_of.nd rfl (Or.inr rfl) (pe_lc (own := [("_law_row", 5)]) (g := gName 5) (tt := tTest (tOp rEq (tOp (rIxT K) (tVar 5) (tC (.int 0))) (tC (.str "bring")))) (te := tOp (rIxT K) (tVar 5) (tC (.int 1))) rfl sc_law_pairs_of.nd (pi_tup (pv 3)) (blkOk_by (own := [("_law_row", 5)]) (N := n_law_pairs_of) (sc := defScope s_law_pairs_of) (by decide +kernel)) (fun _ _ _ _ _ => (pg_name (i := 5) sc_law_pairs_of.nd rfl (Or.inl rfl))) (fun _ _ _ _ _ => (pts_one (pt_cmpR op_eq (pe_ix ix_tup (pv 5) pe_int (fun _ _ => rfl)) pe_str (nomark _)))) (fun _ _ _ _ _ => (pe_ix ix_tup (pv 5) pe_int (fun _ _ => rfl)))))
          (pss_one (ps_expr (pe_bm PySem.F.plainAttrs_list PySem.F.slot_list_extend PySem.F.type_list_extend mt_extend (pv 1) (pa_cons (pe_lc (own := [("_law_other_here", 6), ("_law_some", 7)]) (g := gTup K 2 (gCons (gName 6) (gCons (gName 7) gNil))) (tt := tTest (tOp (rIn K false) (tVar 6) (tVar 4))) rfl sc_law_pairs_of.nd (pi_tup (pv 0)) (blkOk_by (own := [("_law_other_here", 6), ("_law_some", 7)]) (N := n_law_pairs_of) (sc := defScope s_law_pairs_of) (by decide +kernel)) (fun _ _ _ _ _ => (pg_tup rfl (pgs_cons (pg_name (i := 6) sc_law_pairs_of.nd rfl (Or.inl rfl)) (pgs_cons (pg_name (i := 7) sc_law_pairs_of.nd rfl (Or.inl rfl)) pgs_nil)))) (fun _ _ _ _ _ => (pts_one (pt_cmpR op_in_seq (pv 6) (pv 4) (by rfl)))) (fun _ _ _ _ _ => (pe_tup (pa_cons (pv 2) (pa_cons (pv 6) pa_nil))))) pa_nil))))))
        (pss_one (ps_ret (pv 1))))), ?_⟩
  have hlen := g.len
  have hvl := plen hp
  have hlN := names_len P
  refine ⟨Nat.zero_le _, fun D hD => ?_⟩
  have sD : Same H (upd H D (.lst [])) := Same.new hD _
  refine ⟨_, rfl, a, rfl, ⟨_, SqT.of (sD _ _ ha)⟩, for_tup (K := K) (a := a) (xs := vp) (fun i σ H' => ∃ (c2 c3 c4 c5 c6 c7 : Option V) (vs' : List V), σ = [some (.ref a), some (.ref D), c2, c3, c4, c5, c6, c7] ∧ Same H H' ∧ H' D = some (.lst vs') ∧ Paired (PairAt H') vs' (((namesOf P).take i).flatMap (rowP (edgeB P) (namesOf P))))
    ⟨_, _, _, _, _, _, [], rfl, sD, upd_same, .nil⟩ (fun i σ H' _ ⟨_, _, _, _, _, _, _, _, s, _⟩ => SqT.of (s _ _ ha)) ?_ ?_⟩
  · rintro i y σ H' hi ⟨c2, c3, c4, c5, c6, c7, vs', rfl, hs, hD', hpv⟩
    obtain ⟨⟨x, rs⟩, hpi, b, z, rfl, hb, hrs⟩ := pget' hp hi
    obtain ⟨rb, vr, rfl, hrb, hrp⟩ := hrs
    have hxm := List.mem_of_getElem? hpi
    have hrl : rs.length ≤ 60 := g.rows _ hxm
    have ers : rowsOf P x = rs := rowsOf_mem g.nd hxm
    have hvr := plen hrp
    refine ⟨b, _, rfl, SqT.of (hs _ _ hb), rfl, _, _, rfl, _, _, rfl, rfl, ?_⟩
    -- others
    refine ⟨_, rfl, rb, rfl, ⟨_, SqT.of (hs _ _ hrb)⟩, fun O hO => lc_tup (K := K) (a := rb) (xs := vr) (fun j H2 => H2 = upd H' O (.lst (txs (blist (rs.take j)))))
      rfl (fun j H2 _ e => by rw [e]; exact SqT.of ((Same.new hO _) _ _ (hs _ _ hrb))) ?_ ?_⟩
    · rintro j y H2 hj rfl
      obtain ⟨r, hrj, hr'⟩ := pget' hrp hj
      have sO : Same H (upd H' O (.lst (txs (blist (rs.take j))))) := hs.trans (Same.new hO _)
      have hbt := blist_take hrj
      have hbl : (blist (rs.take j)).length ≤ 60 := by
        have h1 := blist_len (rs.take j)
        have h2 : (rs.take j).length ≤ rs.length := List.length_take_le' ..
        omega
      cases r with
      | bring o =>
        obtain ⟨q, e, rfl, hq⟩ := hr'
        refine ⟨rfl, _, rfl, q, _, _, _, rfl, rfl, SqT.of (sO _ _ hq), rfl, rfl, _, rfl, ?_⟩
        refine ⟨_, rfl, q, _, _, _, rfl, rfl, SqT.of (sO _ _ hq), rfl, ?_⟩
        exact ⟨_, upd_same, by rw [txs_len]; exact line_lt (by omega), by rw [upd_upd, txs_snoc, hbt]; rfl⟩
      | ask o =>
        obtain ⟨q, e, rfl, hq⟩ := hr'
        refine ⟨rfl, _, rfl, q, _, _, _, rfl, rfl, SqT.of (sO _ _ hq), rfl, rfl, _, rfl, ?_⟩
        rw [kind_ask]
        exact iteF (by rw [hbt]; show _ = upd H' O (.lst (txs (blist (rs.take j) ++ []))); rw [List.append_nil])
      | say =>
        obtain ⟨q, e, e', rfl, hq⟩ := hr'
        refine ⟨rfl, _, rfl, q, _, _, _, rfl, rfl, SqT.of (sO _ _ hq), rfl, rfl, _, rfl, ?_⟩
        rw [kind_say]
        exact iteF (by rw [hbt]; show _ = upd H' O (.lst (txs (blist (rs.take j) ++ []))); rw [List.append_nil])
    rintro H2 rfl
    rw [hvr, List.take_length]
    have hblen : (blist rs).length ≤ 60 := Nat.le_trans (blist_len rs) hrl
    have sO : Same H' (upd H' O (.lst (txs (blist rs)))) := Same.new hO _
    generalize hH3 : upd H' O (.lst (txs (blist rs))) = H3 at sO
    have hO3 : H3 O = some (.lst (txs (blist rs))) := by rw [← hH3, upd_same]
    have hs3 := hs.trans sO
    have hD3 : H3 D = some (.lst vs') := sO _ _ hD'
    have hpv3 := pmono hpv fun v c (q : PairAt H' v c) => q.keep sO.tups
    -- found.extend([..])
    refine ⟨_, rfl, .inl ⟨rfl, _, SqL.of hD3⟩, ?_⟩
    refine ⟨_, rfl, a, rfl, ⟨_, SqT.of (hs3 _ _ ha)⟩, fun E hE => lc_tup (K := K) (a := a) (xs := vp) (fun j H4 => ∃ ve, Keep E (upd H3 E (.lst [])) H4 ∧ H4 E = some (.lst ve) ∧ Paired (PairAt H4) ve ((((namesOf P).take j).filter fun o => edgeB P (x, o)).map fun o => (x, o)))
      ⟨[], Keep.refl _ _, upd_same, .nil⟩ (fun j H4 _ ⟨ve, k4, _, _⟩ => SqT.of (k4.same (Same.new hE _) hE _ _ (hs3 _ _ ha))) ?_ ?_⟩
    · rintro j y H4 hj ⟨ve, k4, hE4, hpe⟩
      obtain ⟨⟨o, rs'⟩, hpj, b', z', rfl, hb', _⟩ := pget' hp hj
      have s4 : Same H3 H4 := k4.same (Same.new hE _) hE
      have hve := plen hpe
      have hfl := filter_take (q := fun o => edgeB P (x, o)) (names_at hpj)
      refine ⟨b', _, rfl, SqT.of (s4 _ _ (hs3 _ _ hb')), rfl, _, _, rfl, _, _, rfl, rfl, rfl, ?_⟩
      refine ⟨_, rfl, _, rfl, O, _, rfl, .inl (SqL.of (s4 _ _ hO3)), rfl, flat_txs _, _, rfl, ?_⟩
      rw [if_neg Bool.false_ne_true, inV_txs]
      have eq1 : decide (o ∈ blist rs) = edgeB P (x, o) := by unfold edgeB; rw [ers]
      rw [eq1]
      refine ite2 (fun c => ?_) (fun c => ?_)
      · rw [if_pos c] at hfl
        refine ⟨_, rfl, _, rfl, by show 2 ≤ sizeLine; decide, fun p2 hp2 => ?_⟩
        have nEp2 : E ≠ p2 := ne_of_none hE4 hp2
        have k6 : Keep E H4 (upd H4 p2 (.tup [.str x, .str o])) := Keep.of (Same.new hp2 _)
        have hvel : ve.length ≤ 8 := by
          rw [hve, List.length_map]
          have h1 := List.length_filter_le (fun o => edgeB P (x, o)) ((namesOf P).take j)
          have h2 : ((namesOf P).take j).length ≤ (namesOf P).length := List.length_take_le' ..
          omega
        refine ⟨ve, by rw [upd_ne nEp2]; exact hE4, line_lt (by omega), ve ++ [.ref p2], (k4.trans k6).trans Keep.put, upd_same, ?_⟩
        rw [hfl, List.map_append]
        exact psnoc (pmono hpe fun v c q => q.keep ((k6.trans Keep.put).tups hE4)) ⟨p2, rfl, by rw [upd_ne nEp2.symm, upd_same]⟩
      · rw [if_neg c] at hfl
        exact ⟨ve, k4, hE4, by rw [hfl]; exact hpe⟩
    · rintro H4 ⟨ve, k4, hE4, hpe⟩
      rw [hvl, ← hlN, List.take_length] at hpe
      have s4 : Same H3 H4 := k4.same (Same.new hE _) hE
      have hD4 : H4 D = some (.lst vs') := s4 _ _ hD3
      have hve := plen hpe
      have hvl' := plen hpv
      have hpl := prod_len (edgeB P) (namesOf P) ((namesOf P).take i)
      have htk : ((namesOf P).take i).length ≤ (namesOf P).length := List.length_take_le' ..
      have hpl2 : (((namesOf P).take i).flatMap (rowP (edgeB P) (namesOf P))).length ≤ 64 := Nat.le_trans hpl (Nat.le_trans (Nat.mul_le_mul (by omega) (by omega)) (by decide : 8 * 8 ≤ 64))
      have hrl' : ve.length ≤ 8 := by
        rw [hve, List.length_map]
        have h1 := List.length_filter_le (fun o => edgeB P (x, o)) (namesOf P)
        omega
      refine ⟨D, E, _, _, rfl, rfl, hD4, hE4, line_of (by omega), ?_⟩
      have kk4 : Keep D H3 (upd H4 D (.lst (vs' ++ ve))) := (Keep.of s4).trans Keep.put
      refine ⟨_, _, _, _, _, _, vs' ++ ve, rfl, kk4.same hs3 hD, upd_same, ?_⟩
      rw [names_take hpi, prod_snoc]
      have papp : ∀ {xs xs' : List V} {ys ys' : List (Str × Str)} {R : V → Str × Str → Prop}, Paired R xs ys → Paired R xs' ys' → Paired R (xs ++ xs') (ys ++ ys') := fun {xs xs' ys ys' R} h h' => by
        induction h with
        | nil => exact h'
        | cons a _ ih => exact .cons a ih
      exact papp (pmono hpv3 fun v c q => q.keep (kk4.tups hD3)) (pmono hpe fun v c q => q.keep (Keep.tups (L := D) Keep.put hD4))
  · rintro σ H' ⟨c2, c3, c4, c5, c6, c7, vs', rfl, hs, hD', hpv⟩
    rw [hvl, ← hlN, List.take_length] at hpv
    exact ⟨_, rfl, k H' D vs' hs hD' hpv⟩
/-! ### is_cut -/
theorem kit_tt : kitB "tuple" "tuple" = some true := by decide +kernel
theorem kit_ss : kitB "str" "str" = some true := by decide +kernel
def spIsCut : Sp := fun vs H Q _ => ∃ (a d : Addr) (vc vd : List V) (C D : List (Str × Str)), vs = [.ref a, .ref d] ∧ H a = some (.tup vc) ∧ Paired (PairAt H) vc C ∧ H d = some (.lst vd) ∧ Paired (PairAt H) vd D ∧ D.length ≤ 64 ∧
  ∀ H', Same H H' → Q (.bl (decide (C = D.filter fun p => decide (p ∈ C)))) H'
abbrev n_law_is_cut : List Str := ["_law_found", "_law_pairs", "_law_pair"]
abbrev p_law_is_cut : List Str := ["_law_found", "_law_pairs"]
theorem sc_law_is_cut : FnScope n_law_is_cut p_law_is_cut (defScope s_law_is_cut) := ⟨rfl, rfl, rfl, by decide +kernel, rfl, by decide +kernel, by decide +kernel⟩
theorem ok_is_cut {f : Addr} {fd : FuncData} (F : Fun K "_law_is_cut" "_law_is_cut" s_law_is_cut f fd) (B : Bi mg) : FnOk P w K mg base CX0 1 f fd p_law_is_cut spIsCut := by
  refine F.ok sc_law_is_cut (fun vs H Q E h => ?_) (fun cdv A outer s H vs Q E hr h => ?_)
  · obtain ⟨a, d, vc, vd, C, D, rfl, _⟩ := h
    rfl
  obtain ⟨a, d, vc, vd, C, D, rfl, ha, hpc, hd, hpd, hDl, k⟩ := h
  refine ⟨_, (pss_cons (ps_if (pt_not (pt_val (pe_callB call_isi (by rfl) B.isinstance (by decide +kernel) (pa_cons (pv 0) (pa_cons (pe_bltn (v := V.ty "tuple") (u := Value.type "tuple") (by rfl) B.tuple (by decide +kernel) rfl) pa_nil))))) (pss_one (ps_ret pe_bl)) pss_nil)
        (pss_cons (ps_for PassesOwn.never rfl (pi_tup (pv 0)) (pg_name (i := 2) sc_law_is_cut.nd rfl (Or.inl rfl)) (pss_cons (ps_if (PW.pt (pw_or (pt_not (pt_val (pe_callB call_isi (by rfl) B.isinstance (by decide +kernel) (pa_cons (pv 2) (pa_cons (pe_bltn (v := V.ty "tuple") (u := Value.type "tuple") (by rfl) B.tuple (by decide +kernel) rfl) pa_nil))))) (pw_or1 (pt_cmpR op_ne (pe_callB call_len_seq (by rfl) B.len (by decide +kernel) (pa_cons (pv 2) pa_nil)) pe_int (nomark _))))) (pss_one (ps_ret pe_bl)) pss_nil)
          (pss_one (ps_if (PW.pt (pw_or (pt_not (pt_val (pe_callB call_isi (by rfl) B.isinstance (by decide +kernel) (pa_cons (pe_ix ix_tup (pv 2) pe_int (fun _ _ => rfl)) (pa_cons (pe_bltn (v := V.ty "str") (u := Value.type "str") (by rfl) B.str (by decide +kernel) rfl) pa_nil))))) (pw_or1 (pt_not (pt_val (pe_callB call_isi (by rfl) B.isinstance (by decide +kernel) (pa_cons (pe_ix ix_tup (pv 2) pe_int (fun _ _ => rfl)) (pa_cons (pe_bltn (v := V.ty "str") (u := Value.type "str") (by rfl) B.str (by decide +kernel) rfl) pa_nil)))))))) (pss_one (ps_ret pe_bl)) pss_nil))))
        (pss_one (ps_ret (pe_cmpR (op_eqDat (α := List (Str × Str)) hr.units) (pe_callTy call_list_of (by rfl) B.list (by decide +kernel) (pa_cons (pv 0) pa_nil)) (pe_lc (own := [("_law_pair", 2)]) (g := gName 2) (tt := tTest (tOp (rInDat (Str × Str) K false) (tVar 2) (tVar 0))) rfl sc_law_is_cut.nd (pi_list (pv 1)) (blkOk_by (own := [("_law_pair", 2)]) (N := n_law_is_cut) (sc := defScope s_law_is_cut) (by decide +kernel)) (fun _ _ _ _ _ => (pg_name (i := 2) sc_law_is_cut.nd rfl (Or.inl rfl))) (fun _ _ _ _ _ => (pts_one (pt_cmpR (op_inDat (α := Str × Str) hr.units) (pv 2) (pv 0) (by rfl)))) (fun _ _ _ _ _ => (pv 2))) (nomark _)))))), ?_⟩
  refine ⟨_, rfl, _, _, _, _, _, rfl, .ty "tuple", .base (.tup ha), kit_ty kit_tt, _, rfl, ?_⟩
  refine ⟨_, rfl, a, rfl, ⟨_, SqT.of ha⟩, for_tup (K := K) (a := a) (xs := vc) (fun i σ H' => ∃ (c2 : Option V), σ = [some (.ref a), some (.ref d), c2] ∧ H' = H)
    ⟨_, rfl, rfl⟩ (fun i σ H' _ ⟨_, _, e⟩ => by rw [e]; exact SqT.of ha) ?_ ?_⟩
  · rintro i y σ H' hi ⟨c2, rfl, rfl⟩
    obtain ⟨⟨x, o⟩, hci, b, rfl, hb⟩ := pget' hpc hi
    refine ⟨_, rfl, _, _, _, _, _, rfl, .ty "tuple", .base (.tup hb), kit_ty kit_tt, _, rfl, ?_⟩
    refine iteF ⟨_, rfl, b, _, rfl, .inr (SqT.of hb), rfl, _, rfl, ?_⟩
    refine ⟨_, rfl, b, _, _, _, rfl, rfl, SqT.of hb, rfl, _, _, _, _, _, rfl, .ty "str", .base (.str x), kit_ty kit_ss, _, rfl, ?_⟩
    refine iteF ⟨_, rfl, b, _, _, _, rfl, rfl, SqT.of hb, rfl, _, _, _, _, _, rfl, .ty "str", .base (.str o), kit_ty kit_ss, _, rfl, ?_⟩
    exact ⟨_, rfl, rfl⟩
  · rintro σ H' ⟨c2, rfl, rfl⟩
    refine ⟨_, rfl, a, _, rfl, .inr (SqT.of ha), fun L hL => ?_⟩
    have sL : Same H' (upd H' L (.lst vc)) := Same.new hL _
    refine ⟨_, rfl, d, rfl, ⟨_, SqL.of (sL _ _ hd)⟩, fun E hE => lc_list (K := K) (a := d) (xs := vd) (fun j H4 => ∃ ve, H4 = upd (upd H' L (.lst vc)) E (.lst ve) ∧ Paired (PairAt H') ve ((D.take j).filter fun p => decide (p ∈ C)))
      ⟨[], rfl, .nil⟩ (fun j H4 _ ⟨ve, e, _⟩ => by rw [e]; exact SqL.of ((Same.new hE _) _ _ (sL _ _ hd))) ?_ ?_⟩
    · rintro j y H4 hj ⟨ve, rfl, hpe⟩
      obtain ⟨p, hpj, hpa⟩ := pget' hpd hj
      have sE : Same H' (upd (upd H' L (.lst vc)) E (.lst ve)) := sL.trans (Same.new hE _)
      have hve := plen hpe
      refine ⟨rfl, _, rfl, _, rfl, p, C, a, vc, rfl, .inr (SqT.of (sE _ _ ha)), pairs_hds (pmono hpc fun v c q => q.keep sE.tups), pair_hd (hpa.keep sE.tups), _, rfl, ?_⟩
      rw [if_neg Bool.false_ne_true]
      have hfl : (D.take (j + 1)).filter (fun p => decide (p ∈ C)) = if decide (p ∈ C) = true then (D.take j).filter (fun p => decide (p ∈ C)) ++ [p] else (D.take j).filter (fun p => decide (p ∈ C)) := by
        rw [List.take_add_one, hpj, List.filter_append]
        by_cases c : decide (p ∈ C) = true
        · rw [if_pos c, show (some p).toList = [p] from rfl, List.filter_cons_of_pos (by simpa using c)]; rfl
        · rw [if_neg c, show (some p).toList = [p] from rfl, List.filter_cons_of_neg (by simpa using c)]; simp
      refine ite2 (fun c => ?_) (fun c => ?_)
      · have c1 : p ∈ C := of_dec _ c
        have c2 : decide (p ∈ C) = true := decide_eq_true c1
        rw [if_pos c2] at hfl
        have hvel : ve.length ≤ 64 := by
          rw [hve]
          have h1 := List.length_filter_le (fun p => decide (p ∈ C)) (D.take j)
          have h2 : (D.take j).length ≤ D.length := List.length_take_le' ..
          omega
        exact ⟨_, rfl, _, upd_same, line_lt (by omega), ve ++ [y], upd_upd, by rw [hfl]; exact psnoc hpe hpa⟩
      · have c1 : ¬ p ∈ C := fun z => c (to_dec _ z)
        have c2 : ¬ decide (p ∈ C) = true := fun z => c1 (of_decide_eq_true z)
        rw [if_neg c2] at hfl
        exact ⟨ve, rfl, by rw [hfl]; exact hpe⟩
    · rintro H4 ⟨ve, rfl, hpe⟩
      rw [plen hpd, List.take_length] at hpe
      have sE : Same H' (upd (upd H' L (.lst vc)) E (.lst ve)) := sL.trans (Same.new hE _)
      have nLE : L ≠ E := ne_of_none upd_same hE
      refine ⟨C, _, hd_lst (SqL.of (by rw [upd_ne nLE, upd_same])) (pairs_hds (pmono hpc fun v c q => q.keep sE.tups)), hd_lst (SqL.of upd_same) (pairs_hds (pmono hpe fun v c q => q.keep sE.tups)), ?_⟩
      exact k _ sE
end
end Bh
namespace Bh
open PySem L2 BhX
open PySem.W (Datum Tup)
section
variable {P : Program} {w : World} {K : PySem.W.Frag} {mg : Str → Option Value} {base : Heap}
/-! ### without -/
/-- a list or a tuple of pairs -/
def PairsLT (H : Hp) (v : V) (C : List (Str × Str)) : Prop := ∃ a vc, v = .ref a ∧ (H a = some (.lst vc) ∨ H a = some (.tup vc)) ∧ Paired (PairAt H) vc C
theorem PairsLT.same {H H' : Hp} (s : Same H H') {v : V} {C : List (Str × Str)} : PairsLT H v C → PairsLT H' v C
  | ⟨a, vc, h1, h2, h3⟩ => ⟨a, vc, h1, h2.imp (s _ _) (s _ _), pmono h3 fun _ _ q => q.keep s.tups⟩
def spWithout : Sp := fun vs H Q _ => ∃ (v u : V) (P : Parts) (C : List (Str × Str)), vs = [v, u] ∧ PartsAt H v P ∧ PGood P ∧ PairsLT H u C ∧ ∀ H' p, Same H H' → PartsAt H' (.ref p) (withoutM P C) → Q (.ref p) H'
abbrev n_law_without : List Str := ["_law_parts", "_law_gone", "_law_found", "_law_name", "_law_rows", "_law_kept", "_law_row"]
abbrev p_law_without : List Str := ["_law_parts", "_law_gone"]
theorem sc_law_without : FnScope n_law_without p_law_without (defScope s_law_without) := ⟨rfl, rfl, rfl, by decide +kernel, rfl, by decide +kernel, by decide +kernel⟩
theorem ok_without {f : Addr} {fd : FuncData} (F : Fun K "_law_without" "_law_without" s_law_without f fd) (B : Bi mg) : FnOk P w K mg base CX0 1 f fd p_law_without spWithout := by
  refine F.ok sc_law_without (fun vs H Q E h => ?_) (fun cdv A outer s H vs Q E hr h => ?_)
  · obtain ⟨v, u, P, C, rfl, _⟩ := h
    rfl
  obtain ⟨v, u, P, C, rfl, ⟨a, vp, rfl, ha, hp⟩, g, hC, k⟩ := h
  refine ⟨_, (pss_cons (ps_set (i := 2) sc_law_without.nd rfl (Or.inl rfl) (pe_lst pa_nil))
        (pss_cons (ps_for PassesOwn.never rfl (pi_tup (pv 0)) (pg_tup rfl (pgs_cons (pg_name (i := 3) sc_law_without.nd rfl (Or.inr rfl)) (pgs_cons (pg_name (i := 4) sc_law_without.nd rfl (Or.inl rfl)) pgs_nil))) (pss_cons (ps_setLc (i := 5) (own := [("_law_row", 6)]) (g := gName 6) (tt := tOr (tTest (tOp rNe (tOp (rIxT K) (tVar 6) (tC (.int 0))) (tC (.str "bring")))) (tTest (tOp (rInDat (Str × Str) K true) (tTup (tCons (tVar 3) (tCons (tOp (rIxT K) (tVar 6) (tC (.int 1))) tNil))) (tVar 1)))) (by rfl) sc_law_without.nd rfl rfl (sw_true rfl rfl rfl (by decide +kernel)) (pi_tup (pv 4)) (blkOk_by (own := [("_law_row", 6)]) (N := n_law_without) (sc := defScope s_law_without) (by decide +kernel)) (fun _ _ _ _ _ => (pg_name (i := 6) sc_law_without.nd rfl (Or.inl rfl))) (fun _ _ _ _ _ => (pts_one (PW.pt (pw_or (pt_cmpR op_ne (pe_ix ix_tup (pv 6) pe_int (fun _ _ => rfl)) pe_str (nomark _)) (pw_or1 (pt_cmpR (op_notInDat (α := Str × Str) hr.units) (pe_tup (pa_cons (pv 3) (pa_cons (pe_ix ix_tup (pv 6) pe_int (fun _ _ => rfl)) pa_nil))) (pv 1) (by rfl))))))) (fun _ _ _ _ _ => (pv 6)))
          (pss_one (ps_expr (pe_bm PySem.F.plainAttrs_list PySem.F.slot_list_append PySem.F.type_list_append mt_append (pv 2) (pa_cons (pe_tup (pa_cons (pv 3) (pa_cons (pe_callTy call_tuple_of (by rfl) B.tuple (by decide +kernel) (pa_cons (pv 5) pa_nil)) pa_nil))) pa_nil))))))
        (pss_one (ps_ret (pe_callTy call_tuple_of (by rfl) B.tuple (by decide +kernel) (pa_cons (pv 2) pa_nil)))))), ?_⟩
  have hlen := g.len
  have hvl := plen hp
  refine ⟨Nat.zero_le _, fun D hD => ?_⟩
  have sD : Same H (upd H D (.lst [])) := Same.new hD _
  refine ⟨_, rfl, a, rfl, ⟨_, SqT.of (sD _ _ ha)⟩, for_tup (K := K) (a := a) (xs := vp) (fun i σ H' => ∃ (c3 c4 c5 c6 : Option V) (vs' : List V), σ = [some (.ref a), some u, some (.ref D), c3, c4, c5, c6] ∧ Same H H' ∧ H' D = some (.lst vs') ∧ Paired (PartAt H') vs' ((withoutM P C).take i))
    ⟨_, _, _, _, [], rfl, sD, upd_same, .nil⟩ (fun i σ H' _ ⟨_, _, _, _, _, _, s, _⟩ => SqT.of (s _ _ ha)) ?_ ?_⟩
  · rintro i y σ H' hi ⟨c3, c4, c5, c6, vs', rfl, hs, hD', hpv⟩
    obtain ⟨⟨x, rs⟩, hpi, b, z, rfl, hb, hrs⟩ := pget' hp hi
    obtain ⟨rb, vr, rfl, hrb, hrp⟩ := hrs
    have hil : i < vp.length := (List.getElem?_eq_some_iff.mp hi).1
    have hxm := List.mem_of_getElem? hpi
    have hrl : rs.length ≤ 60 := g.rows _ hxm
    have hvr := plen hrp
    obtain ⟨ga, vc, rfl, hgo, hpc⟩ := hC
    refine ⟨b, _, rfl, SqT.of (hs _ _ hb), rfl, _, _, rfl, _, _, rfl, rfl, ?_⟩
    -- kept
    refine ⟨_, rfl, rb, rfl, ⟨_, SqT.of (hs _ _ hrb)⟩, fun E hE => lc_tup (K := K) (a := rb) (xs := vr) (fun j H4 => ∃ ve, Keep E (upd H' E (.lst [])) H4 ∧ H4 E = some (.lst ve) ∧ Paired (RowAt H4) ve ((rs.take j).filter (keepB C x)))
      ⟨[], Keep.refl _ _, upd_same, .nil⟩ (fun j H4 _ ⟨ve, k4, _, _⟩ => SqT.of (k4.same (Same.new hE _) hE _ _ (hs _ _ hrb))) ?_ ?_⟩
    · rintro j y H4 hj ⟨ve, k4, hE4, hpe⟩
      obtain ⟨r, hrj, hr'⟩ := pget' hrp hj
      have s4 : Same H' H4 := k4.same (Same.new hE _) hE
      have hs4 := hs.trans s4
      have hve := plen hpe
      have hvel : ve.length ≤ 60 := by
        rw [hve]
        have h1 := List.length_filter_le (keepB C x) (rs.take j)
        have h2 : (rs.take j).length ≤ rs.length := List.length_take_le' ..
        omega
      have hfl : (rs.take (j + 1)).filter (keepB C x) = if keepB C x r = true then (rs.take j).filter (keepB C x) ++ [r] else (rs.take j).filter (keepB C x) := by
        rw [List.take_add_one, hrj, List.filter_append]
        by_cases c : keepB C x r = true
        · rw [if_pos c, show (some r).toList = [r] from rfl, List.filter_cons_of_pos c]; rfl
        · rw [if_neg c, show (some r).toList = [r] from rfl, List.filter_cons_of_neg c]; simp
      have hr4 : RowAt H y r := hr'
      cases r with
      | bring o =>
        obtain ⟨q, e, rfl, hq⟩ := hr'
        refine ⟨rfl, _, rfl, q, _, _, _, rfl, rfl, SqT.of (hs4 _ _ hq), rfl, rfl, _, rfl, ?_⟩
        refine iteNS rfl ?_
        refine ⟨_, rfl, _, rfl, q, _, _, _, rfl, rfl, SqT.of (hs4 _ _ hq), rfl, by show 2 ≤ sizeLine; decide, fun p hp' => ?_⟩
        have sp : Same H4 (upd H4 p (.tup [.str x, .str o])) := Same.new hp' _
        have nEp : E ≠ p := ne_of_none hE4 hp'
        have k5 : Keep E H4 (upd H4 p (.tup [.str x, .str o])) := Keep.of sp
        have s5 := hs4.trans sp
        refine ⟨_, rfl, (x, o), C, ga, vc, rfl, (hgo.imp (fun q => SqL.of (s5 _ _ q)) fun q => SqT.of (s5 _ _ q)), pairs_hds (pmono hpc fun v c q => q.keep s5.tups), hd_pair (SqT.of upd_same) (hd_str _) (hd_str _), _, rfl, ?_⟩
        rw [if_pos rfl]
        refine ite2 (fun c => ?_) (fun c => ?_)
        · have c1 : keepB C x (.bring o) = true := by
            show (!decide ((x, o) ∈ C)) = true
            cases hq0 : decide ((x, o) ∈ C) with
            | false => rfl
            | true =>
              rw [to_dec _ (of_dec _ hq0)] at c
              cases c
          rw [if_pos c1] at hfl
          refine ⟨_, rfl, ve, by rw [upd_ne nEp]; exact hE4, line_lt (by omega), ve ++ [.ref q], (k4.trans k5).trans Keep.put, upd_same, ?_⟩
          rw [hfl]
          have kk := (k5.trans (Keep.put (o := .lst (ve ++ [.ref q])))).tups hE4
          exact psnoc (pmono hpe fun v c q => q.keep kk) ((hr4.same hs4).keep kk)
        · have c1 : ¬ keepB C x (.bring o) = true := fun z => c (by
            have z' : (!decide ((x, o) ∈ C)) = true := z
            rw [dec_dec _ _] at z'
            exact z')
          rw [if_neg c1] at hfl
          refine ⟨ve, k4.trans k5, by rw [upd_ne nEp]; exact hE4, ?_⟩
          rw [hfl]
          exact pmono hpe fun v c q => q.keep (k5.tups hE4)
      | ask o =>
        obtain ⟨q, e, rfl, hq⟩ := hr'
        rw [if_pos (show keepB C x (.ask o) = true from rfl)] at hfl
        refine ⟨rfl, _, rfl, q, _, _, _, rfl, rfl, SqT.of (hs4 _ _ hq), rfl, rfl, _, rfl, ?_⟩
        rw [kind_ask]
        refine ⟨_, rfl, ve, hE4, line_lt (by omega), ve ++ [.ref q], k4.trans Keep.put, upd_same, ?_⟩
        rw [hfl]
        have kk := (Keep.put (H := H4) (o := .lst (ve ++ [.ref q]))).tups hE4
        exact psnoc (pmono hpe fun v c q => q.keep kk) ((hr4.same hs4).keep kk)
      | say =>
        obtain ⟨q, e, e', rfl, hq⟩ := hr'
        rw [if_pos (show keepB C x .say = true from rfl)] at hfl
        refine ⟨rfl, _, rfl, q, _, _, _, rfl, rfl, SqT.of (hs4 _ _ hq), rfl, rfl, _, rfl, ?_⟩
        rw [kind_say]
        refine ⟨_, rfl, ve, hE4, line_lt (by omega), ve ++ [.ref q], k4.trans Keep.put, upd_same, ?_⟩
        rw [hfl]
        have kk := (Keep.put (H := H4) (o := .lst (ve ++ [.ref q]))).tups hE4
        exact psnoc (pmono hpe fun v c q => q.keep kk) ((hr4.same hs4).keep kk)
    rintro H4 ⟨ve, k4, hE4, hpe⟩
    rw [hvr, List.take_length] at hpe
    have s4 : Same H' H4 := k4.same (Same.new hE _) hE
    have hD4 : H4 D = some (.lst vs') := s4 _ _ hD'
    have hvl' := plen hpv
    -- found.append((name, tuple(kept)))
    refine ⟨_, rfl, .inl ⟨rfl, _, SqL.of hD4⟩, _, rfl, _, rfl, E, _, rfl, .inl ⟨SqL.of hE4, fun t1 ht1 => ?_⟩⟩
    have st1 : Same H4 (upd H4 t1 (.tup ve)) := Same.new ht1 _
    refine ⟨by show 2 ≤ sizeLine; decide, fun t2 ht2 => ?_⟩
    have st2 : Same H4 (upd (upd H4 t1 (.tup ve)) t2 (.tup [.str x, .ref t1])) := st1.trans (Same.new ht2 _)
    have hD6 := st2 _ _ hD4
    refine ⟨D, _, _, rfl, rfl, hD6, ?_, ?_⟩
    · rw [hvl', List.length_take]
      exact line_lt (by omega)
    have k7 : Keep D H4 (upd (upd (upd H4 t1 (.tup ve)) t2 (.tup [.str x, .ref t1])) D (.lst (vs' ++ [.ref t2]))) := (Keep.of st2).trans Keep.put
    have nt2D : t2 ≠ D := (ne_of_none (st1 _ _ hD4) ht2).symm
    have nt1D : t1 ≠ D := (ne_of_none hD4 ht1).symm
    have nt12 : t1 ≠ t2 := ne_of_none upd_same ht2
    refine ⟨_, _, _, _, vs' ++ [.ref t2], rfl, k7.same (hs.trans s4) hD, upd_same, ?_⟩
    have hwi : (withoutM P C)[i]? = some (x, rs.filter (keepB C x)) := by
      unfold withoutM
      rw [List.getElem?_map, hpi]; rfl
    rw [List.take_add_one, hwi]
    refine psnoc (pmono hpv fun v c q => (q.keep s4.tups).keep (k7.tups hD4)) ⟨t2, .ref t1, rfl, by rw [upd_ne nt2D, upd_same], t1, ve, rfl, by rw [upd_ne nt1D, upd_ne nt12, upd_same], pmono hpe fun v c q => q.keep (k7.tups hD4)⟩
  · rintro σ H' ⟨c3, c4, c5, c6, vs', rfl, hs, hD', hpv⟩
    have hwl : (withoutM P C).length = P.length := by unfold withoutM; exact List.length_map _
    rw [hvl, ← hwl, List.take_length] at hpv
    refine ⟨_, rfl, D, _, rfl, .inl ⟨SqL.of hD', fun l hl => ?_⟩⟩
    exact k _ l (hs.upd (hs.free hl) _) ⟨l, vs', rfl, upd_same, pmono hpv fun v c q => q.keep (Same.new hl _).tups⟩
/-! ### round -/
structure RInv (D : List (Str × Str)) (names : List Str) (x : Str) (n0 at' : Nat) (s : List Str) : Prop where
  r1 : ∀ y, y ∈ s → Way (fun a c => (a, c) ∈ D) x y
  r2 : ∀ z, (x, z) ∈ D → z ∈ s
  r3 : ∀ j y, j < at' → s[j]? = some y → ∀ z, (y, z) ∈ D → z ∈ s
  n0l : n0 ≤ s.length
  nd : (s.drop n0).Nodup
  nm : ∀ y, y ∈ s.drop n0 → y ∈ names
theorem RInv.len {D : List (Str × Str)} {names : List Str} {x : Str} {n0 at' : Nat} {s : List Str} (r : RInv D names x n0 at' s) : s.length ≤ n0 + names.length := by
  have h := len_of_sub r.nd r.nm
  rw [List.length_drop] at h
  have := r.n0l
  omega
theorem RInv.fin {D : List (Str × Str)} {names : List Str} {x : Str} {n0 at' : Nat} {s : List Str} (r : RInv D names x n0 at' s) (h : s.length ≤ at') : x ∈ s ↔ Way (fun a c => (a, c) ∈ D) x x := by
  refine ⟨r.r1 x, fun hw => ?_⟩
  have key : ∀ {y z : Str}, Way (fun a c => (a, c) ∈ D) y z → (∀ w, (y, w) ∈ D → w ∈ s) → z ∈ s := fun {y z} q => by
    induction q with
    | one e => exact fun hy => hy _ e
    | more e _ ih =>
      intro hy
      refine ih fun w hw => ?_
      obtain ⟨j, hj⟩ := List.mem_iff_getElem?.mp (hy _ e)
      exact r.r3 j _ (Nat.lt_of_lt_of_le (List.getElem?_eq_some_iff.mp hj).1 h) hj w hw
  exact key hw r.r2
def spRound : Sp := fun vs H Q _ => ∃ (d : Addr) (x : Str) (vd : List V) (D : List (Str × Str)) (names : List Str), vs = [.ref d, .str x] ∧ H d = some (.lst vd) ∧ Paired (PairAt H) vd D ∧ D.length ≤ 64 ∧ names.length ≤ 8 ∧ (∀ a b, (a, b) ∈ D → b ∈ names) ∧
  ∀ H' b, Same H H' → (b = true ↔ Way (fun a c => (a, c) ∈ D) x x) → Q (.bl b) H'
abbrev n_law_round : List Str := ["_law_pairs", "_law_name", "_law_seen", "_law_at", "_law_one", "_law_other_here"]
abbrev p_law_round : List Str := ["_law_pairs", "_law_name"]
theorem sc_law_round : FnScope n_law_round p_law_round (defScope s_law_round) := ⟨rfl, rfl, rfl, by decide +kernel, rfl, by decide +kernel, by decide +kernel⟩
theorem ok_round {f : Addr} {fd : FuncData} (F : Fun K "_law_round" "_law_round" s_law_round f fd) (B : Bi mg) : FnOk P w K mg base CX0 1 f fd p_law_round spRound := by
  refine F.ok sc_law_round (fun vs H Q E h => ?_) (fun cdv A outer s H vs Q E hr h => ?_)
  · obtain ⟨d, x, vd, D, names, rfl, _⟩ := h
    rfl
  obtain ⟨d, x, vd, D, names, rfl, hd, hpd, hDl, hnl, hnm, k⟩ := h
  refine ⟨_, (pss_cons (ps_setLc (i := 2) (own := [("_law_one", 4), ("_law_other_here", 5)]) (g := gTup K 2 (gCons (gName 4) (gCons (gName 5) gNil))) (tt := tTest (tOp rEq (tVar 4) (tVar 1))) (by rfl) sc_law_round.nd rfl rfl (sw_true rfl rfl rfl (by decide +kernel)) (pi_list (pv 0)) (blkOk_by (own := [("_law_one", 4), ("_law_other_here", 5)]) (N := n_law_round) (sc := defScope s_law_round) (by decide +kernel)) (fun _ _ _ _ _ => (pg_tup rfl (pgs_cons (pg_name (i := 4) sc_law_round.nd rfl (Or.inl rfl)) (pgs_cons (pg_name (i := 5) sc_law_round.nd rfl (Or.inl rfl)) pgs_nil)))) (fun _ _ _ _ _ => (pts_one (pt_cmpR op_eq (pv 4) (pv 1) (nomark _)))) (fun _ _ _ _ _ => (pv 5)))
        (pss_cons (ps_set (i := 3) sc_law_round.nd rfl (Or.inl rfl) pe_int)
        (pss_cons (ps_while PassesOwn.never (pt_cmpR op_lt (pv 3) (pe_callB call_len_seq (by rfl) B.len (by decide +kernel) (pa_cons (pv 2) pa_nil)) (nomark _)) (pss_cons (ps_for PassesOwn.never rfl (pi_list (pv 0)) (pg_tup rfl (pgs_cons (pg_name (i := 4) sc_law_round.nd rfl (Or.inl rfl)) (pgs_cons (pg_name (i := 5) sc_law_round.nd rfl (Or.inl rfl)) pgs_nil))) (pss_one (ps_if (PW.pt (pw_and (pt_cmpR op_eq (pv 4) (pe_ix ix_list (pv 2) (pv 3) (fun _ _ => rfl)) (nomark _)) (pw_and1 (pt_cmpR op_notIn_seq (pv 5) (pv 2) (by rfl))))) (pss_one (ps_expr (pe_bm PySem.F.plainAttrs_list PySem.F.slot_list_append PySem.F.type_list_append mt_append (pv 2) (pa_cons (pv 5) pa_nil)))) pss_nil)))
          (pss_one (ps_set (i := 3) sc_law_round.nd rfl (Or.inl rfl) (pe_op op_add (pv 3) pe_int)))))
        (pss_one (ps_ret (pe_cmpR op_in_seq (pv 1) (pv 2) (by rfl))))))), ?_⟩
  have hvd := plen hpd
  have pair_at : ∀ {j : Nat} {y : V}, vd[j]? = some y → ∃ a c b, D[j]? = some (a, c) ∧ y = .ref b ∧ H b = some (.tup [.str a, .str c]) := fun {j y} hj => by
    obtain ⟨⟨a, c⟩, h1, b, h2, h3⟩ := pget' hpd hj
    exact ⟨a, c, b, h1, h2, h3⟩
  -- seen, at first
  refine ⟨_, rfl, d, rfl, ⟨_, SqL.of hd⟩, fun L hL => lc_list (K := K) (a := d) (xs := vd) (fun j H' => ∃ s : List Str, H' = upd H L (.lst (txs s)) ∧ s.length ≤ j ∧ ∀ z, z ∈ s ↔ (x, z) ∈ D.take j)
    ⟨[], rfl, Nat.le_refl _, fun z => by simp⟩ (fun j H' _ ⟨s, e, _⟩ => by rw [e]; exact SqL.of ((Same.new hL _) _ _ hd)) ?_ ?_⟩
  · rintro j y H' hj ⟨s, rfl, hsl, hsm⟩
    have hjl : j < vd.length := (List.getElem?_eq_some_iff.mp hj).1
    obtain ⟨a, c, b, hDj, rfl, hb⟩ := pair_at hj
    have sL : Same H (upd H L (.lst (txs s))) := Same.new hL _
    refine ⟨b, _, rfl, SqT.of (sL _ _ hb), rfl, _, _, rfl, _, _, rfl, rfl, rfl, ?_⟩
    refine ⟨_, rfl, _, rfl, rfl, _, rfl, ?_⟩
    refine ite2 (fun q => ?_) (fun q => ?_)
    · have e : a = x := V.str.inj (of_decide_eq_true q)
      subst e
      refine ⟨_, rfl, _, upd_same, by rw [txs_len]; exact line_lt (by omega), s ++ [c], by rw [upd_upd, txs_snoc], by simp; omega, fun z => ?_⟩
      rw [List.take_add_one, hDj, List.mem_append, List.mem_append, hsm]
      simp
    · have e : ¬ a = x := fun e => q (decide_eq_true (by rw [e]))
      refine ⟨s, rfl, by omega, fun z => ?_⟩
      rw [List.take_add_one, hDj, List.mem_append, hsm]
      refine ⟨.inl, fun h => h.elim id fun h => ?_⟩
      have : (x, z) = (a, c) := by simpa using h
      exact absurd (Prod.mk.inj this).1.symm e
  rintro H1 ⟨s0, rfl, hs0l, hs0⟩
  rw [hvd, List.take_length] at hs0
  have sL : Same H (upd H L (.lst (txs s0))) := Same.new hL _
  -- the walk
  refine ⟨fun m σ H' => ∃ (v3 : V) (c4 c5 : Option V) (n0 at' : Nat) (s : List Str), σ = [some (.ref d), some (.str x), some (.ref L), some v3, c4, c5] ∧ v3 = .int (at' : Nat) ∧ Same H H' ∧ H' L = some (.lst (txs s)) ∧ RInv D names x n0 at' s ∧ n0 ≤ 64 ∧ at' ≤ s.length ∧ m = 73 - at',
    ⟨73, _, _, _, s0.length, 0, s0, rfl, rfl, sL, upd_same, ⟨fun y hy => .one ((hs0 y).mp hy), fun z hz => (hs0 z).mpr hz, fun j y h => absurd h (Nat.not_lt_zero _), Nat.le_refl _, by rw [List.drop_length]; exact List.Pairwise.nil, fun y hy => by rw [List.drop_length] at hy; cases hy⟩, by omega, Nat.zero_le _, rfl⟩, ?_⟩
  rintro m σ H' ⟨_, c4, c5, n0, at', s, rfl, rfl, hs, hL', hR, hn0, hatl, hm⟩
  have hsl := hR.len
  refine ⟨_, rfl, _, rfl, L, _, rfl, .inl (SqL.of hL'), _, _, rfl, rfl, _, rfl, ?_⟩
  refine ite2 (fun q => ?_) (fun q => ?_)
  · have q' : (at' : Int) < ((txs s).length : Int) := of_decide_eq_true q
    rw [txs_len] at q'
    have hlt : at' < s.length := by omega
    obtain ⟨y0, hy0⟩ : ∃ y, s[at']? = some y := ⟨_, List.getElem?_eq_getElem hlt⟩
    refine ⟨fun σ' H2 => ∃ (v3 : V) (c4 c5 : Option V) (s : List Str), σ' = [some (.ref d), some (.str x), some (.ref L), some v3, c4, c5] ∧ v3 = .int ((at' + 1 : Nat) : Int) ∧ Same H H2 ∧ H2 L = some (.lst (txs s)) ∧ RInv D names x n0 (at' + 1) s ∧ at' + 1 ≤ s.length,
      fun σ' H2 ⟨v3, c4, c5, s, e, ev, h1, h2, h3, h4⟩ => ⟨73 - (at' + 1), by rw [hm]; have := h3.len; omega, v3, c4, c5, n0, at' + 1, s, e, ev, h1, h2, h3, hn0, h4, rfl⟩, ?_⟩
    refine ⟨_, rfl, d, rfl, ⟨_, SqL.of (hs _ _ hd)⟩, for_list (K := K) (a := d) (xs := vd) (fun i σ H2 => ∃ (c4 c5 : Option V) (s : List Str), σ = [some (.ref d), some (.str x), some (.ref L), some (.int (at' : Nat)), c4, c5] ∧ Same H H2 ∧ H2 L = some (.lst (txs s)) ∧ RInv D names x n0 at' s ∧ s[at']? = some y0 ∧ ∀ j z, j < i → D[j]? = some (y0, z) → z ∈ s)
      ⟨_, _, s, rfl, hs, hL', hR, hy0, fun j z h => absurd h (Nat.not_lt_zero _)⟩ (fun i σ H2 _ ⟨_, _, _, _, h, _⟩ => SqL.of (h _ _ hd)) ?_ ?_⟩
    · rintro i y σ H2 hi ⟨c4, c5, s, rfl, hs2, hL2, hR2, hy2, hdn⟩
      obtain ⟨a, c, b, hDi, rfl, hb⟩ := pair_at hi
      have hsl2 := hR2.len
      have hmem := List.mem_of_getElem? hDi
      refine ⟨b, _, rfl, SqT.of (hs2 _ _ hb), rfl, _, _, rfl, _, _, rfl, rfl, ?_⟩
      refine ⟨_, rfl, _, rfl, _, rfl, L, _, _, _, rfl, rfl, SqL.of hL2, atI_nat (txs_at hy2), rfl, _, rfl, ?_⟩
      refine ite2 (fun q1 => ?_) (fun q1 => ?_)
      · have ea : a = y0 := V.str.inj (of_decide_eq_true q1)
        subst ea
        refine ⟨_, rfl, _, rfl, L, _, rfl, .inl (SqL.of hL2), rfl, flat_txs _, _, rfl, ?_⟩
        rw [if_pos rfl, inV_txs]
        refine ite2 (fun q2 => ?_) (fun q2 => ?_)
        · have nin : c ∉ s := by simpa using q2
          refine ⟨_, rfl, .inl ⟨rfl, _, SqL.of hL2⟩, _, rfl, L, _, _, rfl, rfl, hL2, by rw [txs_len]; exact line_lt (by omega), ?_⟩
          have hlt2 : at' < s.length := (List.getElem?_eq_some_iff.mp hy2).1
          refine ⟨_, _, s ++ [c], rfl, hs2.upd hL _, by rw [upd_same, txs_snoc], ⟨fun y hy => ?_, fun z hz => List.mem_append_left _ (hR2.r2 z hz), fun j y hj hy z hz => ?_, by rw [List.length_append]; have := hR2.n0l; omega, ?_, fun y hy => ?_⟩, by rw [List.getElem?_append_left hlt2]; exact hy2, fun j z hj hz => ?_⟩
          · rcases List.mem_append.mp hy with hy | hy
            · exact hR2.r1 y hy
            · rw [List.mem_singleton.mp hy]
              exact (hR2.r1 _ (List.mem_of_getElem? hy2)).snoc hmem
          · rw [List.getElem?_append_left (by omega)] at hy
            exact List.mem_append_left _ (hR2.r3 j y hj hy z hz)
          · rw [List.drop_append_of_le_length hR2.n0l]
            exact List.pairwise_append.mpr ⟨hR2.nd, List.pairwise_singleton .., fun p hp q hq e => nin (by rw [List.mem_singleton.mp hq] at e; exact e ▸ List.mem_of_mem_drop hp)⟩
          · rw [List.drop_append_of_le_length hR2.n0l] at hy
            rcases List.mem_append.mp hy with hy | hy
            · exact hR2.nm y hy
            · rw [List.mem_singleton.mp hy]; exact hnm _ _ hmem
          · by_cases e : j = i
            · subst e
              rw [hDi] at hz
              cases hz
              exact List.mem_append_right _ (List.mem_singleton.mpr rfl)
            · exact List.mem_append_left _ (hdn j z (by omega) hz)
        · have isin : c ∈ s := by simpa using q2
          refine ⟨_, _, s, rfl, hs2, hL2, hR2, hy2, fun j z hj hz => ?_⟩
          by_cases e : j = i
          · subst e
            rw [hDi] at hz
            cases hz
            exact isin
          · exact hdn j z (by omega) hz
      · have ea : ¬ a = y0 := fun e => q1 (decide_eq_true (by rw [e]))
        refine iteF ⟨_, _, s, rfl, hs2, hL2, hR2, hy2, fun j z hj hz => ?_⟩
        by_cases e : j = i
        · subst e
          rw [hDi] at hz
          cases hz
          exact absurd rfl ea
        · exact hdn j z (by omega) hz
    · rintro σ H2 ⟨c4, c5, s, rfl, hs2, hL2, hR2, hy2, hdn⟩
      rw [hvd] at hdn
      have hlt2 : at' < s.length := (List.getElem?_eq_some_iff.mp hy2).1
      refine ⟨_, rfl, _, _, rfl, rfl, ?_⟩
      refine ⟨_, _, _, s, rfl, congrArg V.int (by omega), hs2, hL2, ⟨hR2.r1, hR2.r2, fun j y hj hy z hz => ?_, hR2.n0l, hR2.nd, hR2.nm⟩, hlt2⟩
      by_cases e : j = at'
      · subst e
        rw [hy2] at hy
        cases hy
        obtain ⟨i, hi⟩ := List.mem_iff_getElem?.mp hz
        exact hdn i z (List.getElem?_eq_some_iff.mp hi).1 hi
      · exact hR2.r3 j y (by omega) hy z hz
  · have q' : ¬ (at' : Int) < ((txs s).length : Int) := of_decide_eq_false (Bool.eq_false_iff.mpr q)
    rw [txs_len] at q'
    refine ⟨_, rfl, _, rfl, L, _, rfl, .inl (SqL.of hL'), rfl, flat_txs _, ?_⟩
    rw [if_neg Bool.false_ne_true, inV_txs]
    refine k H' _ hs ?_
    rw [decide_eq_true_eq]
    exact hR.fin (by omega)
end
end Bh
namespace Bh
open PySem L2 BhX
theorem _root_.L2.Same.seqL {K : PySem.W.Frag} {H H' : Hp} {a : Addr} {xs : List V} (e : Same H H') (h : SqL K H a xs) : SqL K H' a xs := by
  rcases h with (h | ⟨o, h⟩) | h
  · exact .inl (.inl (e _ _ h))
  · exact .inl (.inr ⟨o, e _ _ h⟩)
  · exact .inr h
/-- the lists of rows under way -/
structure RowsSt (H0 H : Hp) (L : Addr) (names : List Str) (rs : List Addr) (M : List (List Rw)) : Prop where
  same : Same H0 H
  newL : H0 L = none
  hL : H L = some (.lst (rs.map V.ref))
  nd : rs.Nodup
  nL : ∀ a, a ∈ rs → a ≠ L
  new : ∀ a, a ∈ rs → H0 a = none
  len : rs.length = names.length
  lenM : M.length = names.length
  row : ∀ (i : Nat) (a : Addr) (rws : List Rw), rs[i]? = some a → M[i]? = some rws → ∃ vs, H a = some (.lst vs) ∧ Paired (RowAt H) vs rws ∧ rws.length ≤ 40 ∧ ∀ o, Rw.bring o ∈ rws → ∃ j, names[j]? = some o ∧ j ≠ i
theorem RowsSt.put {H0 H H1 : Hp} {L : Addr} {names : List Str} {rs : List Addr} {M : List (List Rw)} (st : RowsSt H0 H L names rs M) {here : Nat} {ra : Addr} {rws : List Rw} {vs : List V} {y : V} {row : Rw}
    (hr : rs[here]? = some ra) (hM : M[here]? = some rws) (hv : H ra = some (.lst vs)) (hp : Paired (RowAt H) vs rws) (s : Same H H1) (q : RowAt H1 y row) (hl : rws.length < 40)
    (hd : ∀ o, row = Rw.bring o → ∃ j, names[j]? = some o ∧ j ≠ here) (hd0 : ∀ o, Rw.bring o ∈ rws → ∃ j, names[j]? = some o ∧ j ≠ here) :
    RowsSt H0 (upd H1 ra (.lst (vs ++ [y]))) L names rs (M.set here (rws ++ [row])) where
  same := (st.same.trans s).upd (st.new _ (List.mem_of_getElem? hr)) _
  newL := st.newL
  hL := by rw [upd_ne (st.nL _ (List.mem_of_getElem? hr)).symm]; exact s _ _ st.hL
  nd := st.nd
  nL := st.nL
  new := st.new
  len := st.len
  lenM := by rw [List.length_set]; exact st.lenM
  row := fun i a rws' h1 h2 => by
    have kk : TSame H1 (upd H1 ra (.lst (vs ++ [y]))) := (Keep.put (H := H1) (o := .lst (vs ++ [y]))).tups (s _ _ hv)
    by_cases e : i = here
    · subst e
      rw [hr] at h1
      cases h1
      have hil := (List.getElem?_eq_some_iff.mp hM).1
      rw [List.getElem?_set_self hil] at h2
      cases h2
      refine ⟨_, upd_same, psnoc (pmono hp fun v c z => (z.keep s.tups).keep kk) (q.keep kk), by rw [List.length_append, List.length_singleton]; omega, fun o ho => ?_⟩
      rcases List.mem_append.mp ho with ho | ho
      · exact hd0 o ho
      · exact hd o (List.mem_singleton.mp ho).symm
    · rw [List.getElem?_set_ne (fun z => e z.symm)] at h2
      obtain ⟨vs', g1, g2, g3, g4⟩ := st.row i a rws' h1 h2
      have ne : a ≠ ra := fun z => e (nd_ix st.nd h1 (z ▸ hr))
      exact ⟨vs', by rw [upd_ne ne]; exact s _ _ g1, pmono g2 fun v c z => (z.keep s.tups).keep kk, g3, g4⟩
theorem RowsSt.good {H0 H : Hp} {L : Addr} {names : List Str} {rs : List Addr} {M : List (List Rw)} (st : RowsSt H0 H L names rs M) (hn : names.Nodup) (h8 : names.length ≤ 8) :
    PGood (names.zip M) ∧ namesOf (names.zip M) = names := by
  have e : namesOf (names.zip M) = names := List.map_fst_zip (by rw [st.lenM]; exact Nat.le_refl _)
  refine ⟨⟨by rw [e]; exact hn, by rw [List.length_zip]; omega, ?_, ?_⟩, e⟩
  · rintro ⟨x, rws⟩ hp
    obtain ⟨i, hi⟩ := List.mem_iff_getElem?.mp hp
    obtain ⟨h1, h2⟩ := List.getElem?_zip_eq_some.mp hi
    have hil : i < rs.length := by rw [st.len]; exact (List.getElem?_eq_some_iff.mp h1).1
    obtain ⟨vs, g1, g2, g3, g4⟩ := st.row i _ rws (List.getElem?_eq_getElem hil) h2
    show rws.length ≤ 60
    omega
  · rintro ⟨x, rws⟩ hp o ho
    obtain ⟨i, hi⟩ := List.mem_iff_getElem?.mp hp
    obtain ⟨h1, h2⟩ := List.getElem?_zip_eq_some.mp hi
    have hil : i < rs.length := by rw [st.len]; exact (List.getElem?_eq_some_iff.mp h1).1
    obtain ⟨vs, g1, g2, g3, g4⟩ := st.row i _ rws (List.getElem?_eq_getElem hil) h2
    obtain ⟨j, hj, ne⟩ := g4 o ho
    rw [e]
    exact ⟨List.mem_of_getElem? hj, fun z => ne (nd_ix hn hj (z ▸ h1))⟩
def rTupOf (K : PySem.W.Frag) : List V → Hp → VK → Prop := fun xs H Q => ∃ p ys, xs = [.ref p] ∧ ((SqL K H p ys ∧ ∀ l, H l = none → Q (.ref l) (upd H l (.tup ys))) ∨ (SqT K H p ys ∧ Q (.ref p) H))
section
variable {P : Program} {w : World} {K : PySem.W.Frag} {mg : Str → Option Value} {base : Heap}
def spPlain (K : PySem.W.Frag) : Sp := fun vs H Q _ => ∃ (a p : Addr) (ns : List Int) (names : List Str) (mode : Nat), vs = [.ref a, .ref p, .int (mode : Int)] ∧ SqL K H a (ns.map V.int) ∧ ns.length ≤ 100 ∧ H p = some (.lst (txs names)) ∧ names.Nodup ∧ 1 ≤ names.length ∧ names.length ≤ 8 ∧
  ∀ H' l P, Same H H' → PartsAt H' (.ref l) P → PGood P → namesOf P = names → Q (.ref l) H'
abbrev n_law_plain : List Str := ["_law_script", "_law_names_here", "_law_mode", "_law_many", "_law_rows", "_law_k", "_law_mix", "_law_here", "_law_at", "_law_name", "_law_some"]
abbrev p_law_plain : List Str := ["_law_script", "_law_names_here", "_law_mode"]
theorem sc_law_plain : FnScope n_law_plain p_law_plain (defScope s_law_plain) := ⟨rfl, rfl, rfl, by decide +kernel, rfl, by decide +kernel, by decide +kernel⟩
theorem ok_plain {f f1 f2 : Addr} {fd fd1 fd2 : FuncData} (F : Fun K "_law_plain" "_law_plain" s_law_plain f fd) (B : Bi mg) (c_law_mixed : Here P w K mg base "_law_mixed" 1 f1 fd1 p_law_mixed spMixed) (c_law_other : Here P w K mg base "_law_other" 1 f2 fd2 p_law_other spOther) : FnOk P w K mg base CX0 2 f fd p_law_plain (spPlain K) := by
  refine F.ok sc_law_plain (fun vs H Q E h => ?_) (fun cdv A outer s H vs Q E hr h => ?_)
  · obtain ⟨a, p, ns, names, mode, rfl, _⟩ := h
    rfl
  obtain ⟨a, p, ns, names, mode, rfl, ha, hns, hp, hnd, h1, h8, k⟩ := h
  refine ⟨_, (pss_cons (ps_set (i := 3) sc_law_plain.nd rfl (Or.inl rfl) (pe_callB call_len_seq (by rfl) B.len (by decide +kernel) (pa_cons (pv 1) pa_nil)))
        (pss_cons (ps_setLc (i := 4) (own := [("_law_name", 9)]) (g := gName 9) (tt := tYes) (by rfl) sc_law_plain.nd rfl rfl (sw_true rfl rfl rfl (by decide +kernel)) (pi_list (pv 1)) (blkOk_by (own := [("_law_name", 9)]) (N := n_law_plain) (sc := defScope s_law_plain) (by decide +kernel)) (fun _ _ _ _ _ => (pg_name (i := 9) sc_law_plain.nd rfl (Or.inl rfl))) (fun _ _ _ _ _ => pts_nil) (fun _ _ _ _ _ => (pe_lst pa_nil)))
        (pss_cons (ps_for PassesOwn.never rfl (pi_range2 (by rfl) B.range (pa_cons pe_int (pa_cons (pe_callB (call_min2 rfl) (by rfl) B.min (by decide +kernel) (pa_cons (pe_callB call_len_seq (by rfl) B.len (by decide +kernel) (pa_cons (pv 0) pa_nil)) (pa_cons pe_int pa_nil))) pa_nil))) (pg_name (i := 5) sc_law_plain.nd rfl (Or.inl rfl)) (pss_cons (ps_set (i := 6) sc_law_plain.nd rfl (Or.inl rfl) (pe_call c_law_mixed.ok (hr.mono (by decide)) rfl c_law_mixed.mgx c_law_mixed.kp c_law_mixed.b .nil pass0 (pa_cons (pe_ix ix_list (pv 0) (pv 5) (fun _ _ => rfl)) (pa_cons (pv 5) (pa_cons pe_int pa_nil)))))
          (pss_cons (ps_set (i := 7) sc_law_plain.nd rfl (Or.inl rfl) (pe_op op_mod (pe_ix ix_list (pv 0) (pv 5) (fun _ _ => rfl)) (pv 3)))
          (pss_cons (ps_set (i := 8) sc_law_plain.nd rfl (Or.inl rfl) (pe_call c_law_other.ok (hr.mono (by decide)) rfl c_law_other.mgx c_law_other.kp c_law_other.b .nil pass0 (pa_cons (pv 7) (pa_cons (pv 3) (pa_cons (pv 6) (pa_cons (pv 2) pa_nil))))))
          (pss_one (ps_if (PW.pt (pw_and (pt_cmpR op_lt (pe_callB call_len_seq (by rfl) B.len (by decide +kernel) (pa_cons (pe_ix ix_list (pv 4) (pv 7) (fun _ _ => rfl)) pa_nil)) pe_int (nomark _)) (pw_and (pt_cmpR op_ne (pv 8) (pv 7) (nomark _)) (pw_and1 (pt_cmpR op_lt (pe_op op_mod (pe_op op_fdiv (pe_ix ix_list (pv 0) (pv 5) (fun _ _ => rfl)) (pv 3)) pe_int) pe_int (nomark _)))))) (pss_one (ps_expr (pe_bm PySem.F.plainAttrs_list PySem.F.slot_list_append PySem.F.type_list_append mt_append (pe_ix ix_list (pv 4) (pv 7) (fun _ _ => rfl)) (pa_cons (pe_tup (pa_cons pe_str (pa_cons (pe_ix ix_list (pv 1) (pv 8) (fun _ _ => rfl)) (pa_cons (pe_tup pa_nil) pa_nil)))) pa_nil)))) (pss_one (ps_if (PW.pt (pw_and (pt_cmpR op_lt (pe_callB call_len_seq (by rfl) B.len (by decide +kernel) (pa_cons (pe_ix ix_list (pv 4) (pv 7) (fun _ _ => rfl)) pa_nil)) pe_int (nomark _)) (pw_and (pt_cmpR op_ne (pv 8) (pv 7) (nomark _)) (pw_and1 (pt_cmpR op_eq (pe_op op_mod (pe_op op_fdiv (pe_ix ix_list (pv 0) (pv 5) (fun _ _ => rfl)) (pv 3)) pe_int) pe_int (nomark _)))))) (pss_one (ps_expr (pe_bm PySem.F.plainAttrs_list PySem.F.slot_list_append PySem.F.type_list_append mt_append (pe_ix ix_list (pv 4) (pv 7) (fun _ _ => rfl)) (pa_cons (pe_tup (pa_cons pe_str (pa_cons (pe_ix ix_list (pv 1) (pv 8) (fun _ _ => rfl)) (pa_cons pe_non pa_nil)))) pa_nil)))) (pss_one (ps_if (pt_cmpR op_lt (pe_callB call_len_seq (by rfl) B.len (by decide +kernel) (pa_cons (pe_ix ix_list (pv 4) (pv 7) (fun _ _ => rfl)) pa_nil)) pe_int (nomark _)) (pss_one (ps_expr (pe_bm PySem.F.plainAttrs_list PySem.F.slot_list_append PySem.F.type_list_append mt_append (pe_ix ix_list (pv 4) (pv 7) (fun _ _ => rfl)) (pa_cons (pe_tup (pa_cons pe_str (pa_cons (pe_tup (pa_cons (pe_tup (pa_cons pe_int (pa_cons (pv 6) pa_nil))) pa_nil)) (pa_cons pe_non pa_nil)))) pa_nil)))) pss_nil))))))))))
        (pss_one (ps_ret (pe_callTy call_tuple_of (by rfl) B.tuple (by decide +kernel) (pa_cons (pe_lc (own := [("_law_name", 9), ("_law_some", 10)]) (g := gTup K 2 (gCons (gName 9) (gCons (gName 10) gNil))) (tt := tYes) (te := tTup (tCons (tVar 9) (tCons (tCB (rTupOf K) (tCons (tVar 10) tNil)) tNil))) rfl sc_law_plain.nd (pi_zip (by rfl) B.zip (pa_cons (pv 1) (pa_cons (pv 4) pa_nil))) (blkOk_by (own := [("_law_name", 9), ("_law_some", 10)]) (N := n_law_plain) (sc := defScope s_law_plain) (by decide +kernel)) (fun _ _ _ _ _ => (pg_tup rfl (pgs_cons (pg_name (i := 9) sc_law_plain.nd rfl (Or.inl rfl)) (pgs_cons (pg_name (i := 10) sc_law_plain.nd rfl (Or.inl rfl)) pgs_nil)))) (fun _ _ _ _ _ => pts_nil) (fun _ _ _ _ _ => (pe_tup (pa_cons (pv 9) (pa_cons (pe_callTy call_tuple_of (by rfl) B.tuple (by decide +kernel) (pa_cons (pv 10) pa_nil)) pa_nil))))) pa_nil))))))), ?_⟩
  refine ⟨_, rfl, p, _, rfl, .inl (SqL.of hp), ?_⟩
  refine ⟨_, rfl, p, rfl, ⟨_, SqL.of hp⟩, fun L hL => lc_list (K := K) (a := p) (xs := txs names) (fun i H' => ∃ rs : List Addr, Keep L (upd H L (.lst [])) H' ∧ H' L = some (.lst (rs.map V.ref)) ∧ rs.length = i ∧ rs.Nodup ∧ (∀ b, b ∈ rs → b ≠ L ∧ H b = none ∧ H' b = some (.lst [])))
    ⟨[], Keep.refl _ _, upd_same, rfl, List.Pairwise.nil, fun b hb => (nomatch hb)⟩ (fun i H' _ ⟨rs, k1, _⟩ => SqL.of (k1.same (Same.new hL _) hL _ _ hp)) ?_ ?_⟩
  · rintro i y H' hi ⟨rs, k1, hL', hl, hnd', hrs⟩
    have hil : i < names.length := by have := (List.getElem?_eq_some_iff.mp hi).1; rw [txs_len] at this; exact this
    refine ⟨rfl, ?_⟩
    refine ⟨by show 0 ≤ sizeLine; decide, fun q hq => ?_⟩
    have sq : Same H' (upd H' q (.lst [])) := Same.new hq _
    have nqL : q ≠ L := (ne_of_none hL' hq).symm
    refine ⟨_, by rw [upd_ne nqL.symm]; exact hL', by rw [List.length_map]; exact line_lt (by omega), rs ++ [q], (k1.trans (Keep.of sq)).trans Keep.put, by rw [upd_same, List.map_append]; rfl, by rw [List.length_append, List.length_singleton, hl], ?_, fun b hb => ?_⟩
    · refine List.pairwise_append.mpr ⟨hnd', List.pairwise_singleton .., fun b hb c hc e => ?_⟩
      rw [List.mem_singleton.mp hc] at e
      subst e
      have := (hrs _ hb).2.2
      rw [hq] at this
      cases this
    · rcases List.mem_append.mp hb with hb | hb
      · obtain ⟨g1, g2, g3⟩ := hrs b hb
        exact ⟨g1, g2, by rw [upd_ne g1]; exact sq _ _ g3⟩
      · rw [List.mem_singleton.mp hb]
        refine ⟨nqL, ?_, by rw [upd_ne nqL, upd_same]⟩
        have s1 : Same H H' := k1.same (Same.new hL _) hL
        exact s1.free hq
  rintro H1 ⟨rs, k1, hL1, hrl, hrn, hrs⟩
  rw [txs_len] at hrl
  have s1 : Same H H1 := k1.same (Same.new hL _) hL
  have st0 : RowsSt H H1 L names rs (names.map fun _ => []) := ⟨s1, hL, hL1, hrn, fun b hb => (hrs b hb).1, fun b hb => (hrs b hb).2.1, hrl, List.length_map _, fun i b rws g1 g2 => by
    rw [List.getElem?_map] at g2
    obtain ⟨_, _, rfl⟩ := Option.map_eq_some_iff.mp g2
    exact ⟨[], (hrs b (List.mem_of_getElem? g1)).2.2, .nil, Nat.zero_le _, fun o ho => (nomatch ho)⟩⟩
  -- the loop
  obtain ⟨z, hz0, hz1, hz2⟩ : ∃ z : Int, (if (63 : Int) < ((ns.map V.int).length : Int) then (63 : Int) else ((ns.map V.int).length : Int)) = z ∧ z ≤ 63 ∧ z ≤ (ns.length : Int) := by
    refine ⟨_, rfl, ?_, ?_⟩
    · split <;> omega
    · rw [List.length_map]; split <;> omega
  have hzp : -(2 ^ 62) ≤ z := by rw [← hz0]; split <;> omega
  refine ⟨_, rfl, a, _, rfl, .inl (Same.seqL s1 ha), _, _, rfl, ?_⟩
  rw [hz0]
  refine ⟨_, _, rfl, ⟨by decide, by decide, hzp, by omega⟩, for_range (lo := 3) (n := (z - 3).toNat) (fun i σ H' => ∃ (c5 c6 c7 c8 : Option V) (M : List (List Rw)), σ = [some (.ref a), some (.ref p), some (.int (mode : Int)), some (.int (names.length : Int)), some (.ref L), c5, c6, c7, c8, none, none] ∧ RowsSt H H' L names rs M)
    ⟨_, _, _, _, _, by rw [txs_len]; rfl, st0⟩ ?_ ?_⟩
  · rintro i σ H' hi ⟨c5, c6, c7, c8, M, rfl, st⟩
    obtain ⟨kk, hk1, hk2⟩ : ∃ kk : Nat, (3 : Int) + (i : Int) = (kk : Int) ∧ kk < ns.length ∧ kk ≤ 100 := ⟨3 + i, by omega, by omega, by omega⟩
    rw [hk1]
    obtain ⟨cell, hcell⟩ : ∃ c, ns.getD kk 0 = c := ⟨_, rfl⟩
    have hsc : atI (ns.map V.int) (kk : Int) = some (.int cell) := by rw [← hcell]; exact scr_at hk2.1
    have hS : SqL K H' a (ns.map V.int) := Same.seqL st.same ha
    refine ⟨_, rfl, _, rfl, a, _, _, _, rfl, rfl, hS, hsc, _, rfl, cell, kk, 65521, rfl, hk2.2, by decide, fun m hm => ?_⟩
    have hpos : (0 : Int) < (names.length : Int) := by omega
    obtain ⟨here, hhe, hhl⟩ : ∃ here : Nat, cell % (names.length : Int) = (here : Int) ∧ here < names.length := by
      have h0 := Int.emod_nonneg cell (show (names.length : Int) ≠ 0 by omega)
      have h2 := Int.emod_lt_of_pos cell hpos
      exact ⟨(cell % (names.length : Int)).toNat, by omega, by omega⟩
    refine ⟨_, rfl, _, rfl, a, _, _, _, rfl, rfl, hS, hsc, _, rfl, _, _, rfl, rfl, hpos, ?_⟩
    dsimp only
    rw [hhe]
    refine ⟨_, rfl, _, rfl, _, rfl, _, rfl, here, names.length, m, mode, rfl, hhl, h8, fun tg htg => ?_⟩
    have hrl : here < rs.length := by rw [st.len]; exact hhl
    have hml : here < M.length := by rw [st.lenM]; exact hhl
    obtain ⟨ra, hra⟩ : ∃ b, rs[here]? = some b := ⟨_, List.getElem?_eq_getElem hrl⟩
    obtain ⟨rws, hrws⟩ : ∃ b, M[here]? = some b := ⟨_, List.getElem?_eq_getElem hml⟩
    obtain ⟨vs, hvs, hpv, h40, hdm⟩ := st.row _ _ _ hra hrws
    have hvl := plen hpv
    have ixr : atI (rs.map V.ref) (here : Int) = some (.ref ra) := atI_nat (by rw [List.getElem?_map, hra]; rfl)
    obtain ⟨tx, htx⟩ : ∃ b, names[tg]? = some b := ⟨_, List.getElem?_eq_getElem htg⟩
    have ixn : atI (txs names) (tg : Int) = some (.str tx) := atI_nat (txs_at htx)
    have hp' := st.same _ _ hp
    have hLL := st.hL
    -- what every append leaves
    have fin : ∀ (H2 : Hp) (t : Addr) (row : Rw), Same H' H2 → RowAt H2 (.ref t) row → rws.length < 40 → (∀ o, row = Rw.bring o → ∃ j, names[j]? = some o ∧ j ≠ here) →
        ∃ (c5 c6 c7 c8 : Option V) (M : List (List Rw)), [some (V.ref a), some (.ref p), some (.int (mode : Int)), some (.int (names.length : Int)), some (.ref L), some (.int (kk : Int)), some (.int (m : Int)), some (.int (here : Int)), some (.int (tg : Int)), none, none] = [some (V.ref a), some (.ref p), some (.int (mode : Int)), some (.int (names.length : Int)), some (.ref L), c5, c6, c7, c8, none, none] ∧ RowsSt H (upd H2 ra (.lst (vs ++ [.ref t]))) L names rs M :=
      fun H2 t row s2 hrow hl hd => ⟨_, _, _, _, _, rfl, st.put hra hrws hvs hpv s2 hrow hl hd hdm⟩
    -- the three tests' first part, and the last branch
    refine ⟨_, rfl, _, rfl, L, _, _, _, rfl, rfl, SqL.of hLL, ixr, ra, _, rfl, .inl (SqL.of hvs), _, _, rfl, rfl, _, rfl, ?_⟩
    have sayH : ∀ t0 t1 t2 : Addr, H' t0 = none → upd H' t0 (.tup [.int 1, .int (m : Int)]) t1 = none → upd (upd H' t0 (.tup [.int 1, .int (m : Int)])) t1 (.tup [.ref t0]) t2 = none →
        Same H' (upd (upd (upd H' t0 (.tup [.int 1, .int (m : Int)])) t1 (.tup [.ref t0])) t2 (.tup [.str "say", .ref t1, .non])) := fun t0 t1 t2 g0 g1 g2 => ((Same.new g0 _).trans (Same.new g1 _)).trans (Same.new g2 _)
    refine ite2 (fun q => ?_) (fun q => ?_)
    · have q' : (vs.length : Int) < 40 := of_decide_eq_true q
      have hl : rws.length < 40 := by omega
      refine ⟨_, rfl, _, rfl, rfl, _, rfl, ?_⟩
      refine ite2 (fun q1 => ?_) (fun q1 => ?_)
      · have ne : tg ≠ here := fun e => by
          subst e
          simp at q1
        refine ⟨_, rfl, _, rfl, a, _, _, _, rfl, rfl, hS, hsc, _, rfl, _, _, rfl, rfl, ⟨hpos, by omega⟩, _, _, rfl, rfl, (show (0 : Int) < 8 by decide), _, _, rfl, rfl, _, rfl, ?_⟩
        refine ite2 (fun q2 => ?_) (fun q2 => ?_)
        · refine ⟨_, rfl, _, rfl, L, _, _, _, rfl, rfl, SqL.of hLL, ixr, .inl ⟨rfl, _, SqL.of hvs⟩, _, rfl, _, rfl, p, _, _, _, rfl, rfl, SqL.of hp', ixn, by show 0 ≤ sizeLine; decide, fun t0 ht0 => ⟨by show 3 ≤ sizeLine; decide, fun t1 ht1 => ?_⟩⟩
          have s2 : Same H' (upd (upd H' t0 (.tup [])) t1 (.tup [.str "bring", .str tx, .ref t0])) := (Same.new ht0 _).trans (Same.new ht1 _)
          exact ⟨ra, _, _, rfl, rfl, s2 _ _ hvs, line_lt (by omega), fin _ t1 (.bring tx) s2 ⟨t1, .ref t0, rfl, upd_same⟩ hl fun o ho => by cases ho; exact ⟨tg, htx, ne⟩⟩
        · refine ⟨_, rfl, _, rfl, L, _, _, _, rfl, rfl, SqL.of hLL, ixr, ra, _, rfl, .inl (SqL.of hvs), _, _, rfl, rfl, _, rfl, ?_⟩
          refine ite2 (fun _ => ?_) (fun qn => absurd q qn)
          refine ⟨_, rfl, _, rfl, rfl, _, rfl, ?_⟩
          refine ite2 (fun _ => ?_) (fun qn => absurd q1 qn)
          refine ⟨_, rfl, _, rfl, a, _, _, _, rfl, rfl, hS, hsc, _, rfl, _, _, rfl, rfl, ⟨hpos, by omega⟩, _, _, rfl, rfl, (show (0 : Int) < 8 by decide), rfl, _, rfl, ?_⟩
          refine ite2 (fun q3 => ?_) (fun q3 => ?_)
          · refine ⟨_, rfl, _, rfl, L, _, _, _, rfl, rfl, SqL.of hLL, ixr, .inl ⟨rfl, _, SqL.of hvs⟩, _, rfl, _, rfl, p, _, _, _, rfl, rfl, SqL.of hp', ixn, by show 3 ≤ sizeLine; decide, fun t1 ht1 => ?_⟩
            have s2 : Same H' (upd H' t1 (.tup [.str "ask", .str tx, .non])) := Same.new ht1 _
            exact ⟨ra, _, _, rfl, rfl, s2 _ _ hvs, line_lt (by omega), fin _ t1 (.ask tx) s2 ⟨t1, .non, rfl, upd_same⟩ hl fun o ho => by cases ho⟩
          · skip
            refine ⟨_, rfl, _, rfl, L, _, _, _, rfl, rfl, SqL.of hLL, ixr, ra, _, rfl, .inl (SqL.of hvs), _, _, rfl, rfl, _, rfl, ?_⟩
            refine ite2 (fun _ => ?_) (fun qn => absurd q qn)
            refine ⟨_, rfl, _, rfl, L, _, _, _, rfl, rfl, SqL.of hLL, ixr, .inl ⟨rfl, _, SqL.of hvs⟩, _, rfl, by show 2 ≤ sizeLine; decide, fun t0 ht0 => ⟨by show 1 ≤ sizeLine; decide, fun t1 ht1 => ⟨by show 3 ≤ sizeLine; decide, fun t2 ht2 => ?_⟩⟩⟩
            have s2 := sayH t0 t1 t2 ht0 ht1 ht2
            exact ⟨ra, _, _, rfl, rfl, s2 _ _ hvs, line_lt (by omega), fin _ t2 .say s2 ⟨t2, .ref t1, .non, rfl, upd_same⟩ hl fun o ho => by cases ho⟩
      · refine iteF ?_
        refine ⟨_, rfl, _, rfl, L, _, _, _, rfl, rfl, SqL.of hLL, ixr, ra, _, rfl, .inl (SqL.of hvs), _, _, rfl, rfl, _, rfl, ?_⟩
        refine ite2 (fun _ => ?_) (fun qn => absurd q qn)
        refine ⟨_, rfl, _, rfl, rfl, _, rfl, ?_⟩
        refine ite2 (fun qp => absurd qp q1) (fun _ => ?_)
        refine iteF ?_
        refine ⟨_, rfl, _, rfl, L, _, _, _, rfl, rfl, SqL.of hLL, ixr, ra, _, rfl, .inl (SqL.of hvs), _, _, rfl, rfl, _, rfl, ?_⟩
        refine ite2 (fun _ => ?_) (fun qn => absurd q qn)
        refine ⟨_, rfl, _, rfl, L, _, _, _, rfl, rfl, SqL.of hLL, ixr, .inl ⟨rfl, _, SqL.of hvs⟩, _, rfl, by show 2 ≤ sizeLine; decide, fun t0 ht0 => ⟨by show 1 ≤ sizeLine; decide, fun t1 ht1 => ⟨by show 3 ≤ sizeLine; decide, fun t2 ht2 => ?_⟩⟩⟩
        have s2 := sayH t0 t1 t2 ht0 ht1 ht2
        exact ⟨ra, _, _, rfl, rfl, s2 _ _ hvs, line_lt (by omega), fin _ t2 .say s2 ⟨t2, .ref t1, .non, rfl, upd_same⟩ hl fun o ho => by cases ho⟩
    · refine iteF ?_
      refine ⟨_, rfl, _, rfl, L, _, _, _, rfl, rfl, SqL.of hLL, ixr, ra, _, rfl, .inl (SqL.of hvs), _, _, rfl, rfl, _, rfl, ?_⟩
      refine ite2 (fun qp => absurd qp q) (fun _ => iteF ?_)
      refine ⟨_, rfl, _, rfl, L, _, _, _, rfl, rfl, SqL.of hLL, ixr, ra, _, rfl, .inl (SqL.of hvs), _, _, rfl, rfl, _, rfl, ?_⟩
      refine ite2 (fun qp => absurd qp q) (fun _ => ?_)
      exact ⟨_, _, _, _, _, rfl, st⟩
  · rintro σ Hs ⟨c5, c6, c7, c8, M, rfl, st⟩
    have hps := st.same _ _ hp
    obtain ⟨gd, nmE⟩ := st.good hnd h8
    refine ⟨_, rfl, _, rfl, p, L, _, _, rfl, SqL.of hps, SqL.of st.hL, fun D hD => lc_it (walk_zip (n := names.length) (xs := txs names) (ys := rs.map V.ref) (by rw [txs_len, List.length_map, st.len]; omega))
      (fun i H4 => ∃ ve, Keep D (upd Hs D (.lst [])) H4 ∧ H4 D = some (.lst ve) ∧ Paired (PartAt H4) ve ((names.zip M).take i)) ⟨[], Keep.refl _ _, upd_same, .nil⟩
      (fun i H4 _ ⟨ve, k4, _, _⟩ => ⟨SqL.of (k4.same (Same.new hD _) hD _ _ hps), SqL.of (k4.same (Same.new hD _) hD _ _ st.hL)⟩) ?_ ?_⟩
    · rintro i x H4 H5 hi ⟨ve, k4, hD4, hpe⟩ ⟨T, y1, y2, rfl, hT, rfl, g1, g2⟩
      have s4 : Same Hs H4 := k4.same (Same.new hD _) hD
      obtain ⟨nm, hnm⟩ : ∃ b, names[i]? = some b := ⟨_, List.getElem?_eq_getElem hi⟩
      have g1 : (txs names)[i]? = some y1 := g1
      have g2 : (rs.map V.ref)[i]? = some y2 := g2
      rw [txs_at hnm] at g1
      cases g1
      obtain ⟨ra, hra⟩ : ∃ b, rs[i]? = some b := ⟨_, List.getElem?_eq_getElem (by rw [st.len]; exact hi)⟩
      rw [List.getElem?_map, hra] at g2
      cases g2
      obtain ⟨rws, hrws⟩ : ∃ b, M[i]? = some b := ⟨_, List.getElem?_eq_getElem (by rw [st.lenM]; exact hi)⟩
      obtain ⟨vs, hvs, hpv, h40, hdm⟩ := st.row _ _ _ hra hrws
      have sT : Same H4 (upd H4 T (.tup [.str nm, .ref ra])) := Same.new hT _
      refine ⟨T, _, rfl, SqT.of upd_same, rfl, _, _, rfl, _, _, rfl, rfl, rfl, ?_⟩
      refine ⟨_, rfl, _, rfl, ra, _, rfl, .inl ⟨SqL.of (sT _ _ (s4 _ _ hvs)), fun t1 ht1 => ?_⟩⟩
      have st1 := sT.trans (Same.new ht1 (.tup vs))
      refine ⟨by show 2 ≤ sizeLine; decide, fun t2 ht2 => ?_⟩
      have st2 := st1.trans (Same.new ht2 (.tup [.str nm, .ref t1]))
      have hvl := plen hpe
      have nt12 : t1 ≠ t2 := ne_of_none upd_same ht2
      have k7 : Keep D H4 (upd (upd (upd (upd H4 T (.tup [.str nm, .ref ra])) t1 (.tup vs)) t2 (.tup [.str nm, .ref t1])) D (.lst (ve ++ [.ref t2]))) := (Keep.of st2).trans Keep.put
      have nt2D : t2 ≠ D := (ne_of_none (st1 _ _ hD4) ht2).symm
      have nt1D : t1 ≠ D := (ne_of_none (sT _ _ hD4) ht1).symm
      refine ⟨_, st2 _ _ hD4, ?_, ve ++ [.ref t2], k4.trans k7, upd_same, ?_⟩
      · rw [hvl, List.length_take]
        exact line_lt (by omega)
      have hwi : (names.zip M)[i]? = some (nm, rws) := List.getElem?_zip_eq_some.mpr ⟨hnm, hrws⟩
      rw [List.take_add_one, hwi]
      have kk := k7.tups hD4
      exact psnoc (pmono hpe fun v c q => q.keep kk) ⟨t2, .ref t1, rfl, by rw [upd_ne nt2D, upd_same], t1, vs, rfl, by rw [upd_ne nt1D, upd_ne nt12, upd_same], pmono hpv fun v c q => (q.keep s4.tups).keep kk⟩
    · rintro H4 ⟨ve, k4, hD4, hpe⟩
      have s4 : Same Hs H4 := k4.same (Same.new hD _) hD
      have zl : (names.zip M).length = names.length := by rw [List.length_zip, st.lenM]; omega
      rw [← zl, List.take_length] at hpe
      refine ⟨D, _, rfl, .inl ⟨SqL.of hD4, fun l hl => ?_⟩⟩
      exact k _ l _ ((st.same.trans s4).upd ((st.same.trans s4).free hl) _) ⟨l, ve, rfl, upd_same, pmono hpe fun v c q => q.keep (Same.new hl _).tups⟩ gd nmE
end
end Bh
namespace Bh
open PySem L2 BhX
open PySem.W (Datum Tup)
theorem RoundW.tr {P : Parts} {x : Str} {w : List Str} (h : RoundW P x w) : Tr (EP P) x w x := by
  obtain ⟨w0, y, rfl, h1, h2, _⟩ := h
  exact .step h1 h2
theorem RoundW.len {P : Parts} {x : Str} {w : List Str} (g : PGood P) (h : RoundW P x w) : 3 ≤ w.length ∧ w.length ≤ 10 := by
  have t := h.tr
  obtain ⟨w0, y, rfl, h1, h2, h3⟩ := h
  rw [List.length_append, List.length_singleton]
  refine ⟨?_, by omega⟩
  have h4 : w0.length ≠ 0 := fun e => h1.ne (List.eq_nil_of_length_eq_zero e)
  by_cases e : w0.length = 1
  · exfalso
    have a0 : (w0 ++ [x])[0]? = some x := t.head
    have a1 : (w0 ++ [x])[0 + 1]? = some x := by rw [List.getElem?_append_right (by omega), e]; rfl
    exact g.graph.irr x (t.edges 0 x x a0 a1)
  · omega
theorem six_neg1 (n d : Nat) : HT.sIx n d (some (-1)) = n - 1 := by
  unfold HT.sIx
  simp
  omega
theorem six_one {n d : Nat} (h : 1 ≤ n) : HT.sIx n d (some 1) = 1 := by
  have e := HT.sIx_nat n d 1
  rw [Nat.min_eq_left h] at e
  exact e
theorem cut_init (xs : List V) : cutV xs none (some (-1)) = xs.take (xs.length - 1) := by
  unfold cutV
  rw [six_neg1, HT.sIx_none, Nat.sub_zero, List.drop_zero]
theorem cut_tail {xs : List V} (h : 1 ≤ xs.length) : cutV xs (some 1) none = xs.drop 1 := by
  unfold cutV
  rw [six_one h, HT.sIx_none]
  exact List.take_of_length_le (by rw [List.length_drop]; exact Nat.le_refl _)
def spRounds : Sp := fun vs H Q _ => ∃ (q p d : Addr) (vq vd : List V) (P : Parts) (res : List (Nat × List Str)) (D : List (Str × Str)), vs = [.ref q, .ref p, .ref d] ∧ H q = some (.tup vq) ∧ Paired (BrAt H) vq res ∧ BrokenOf P P.length res ∧
  H p = some (.lst (txs (namesOf P))) ∧ H d = some (.lst vd) ∧ Paired (PairAt H) vd D ∧ D.length ≤ 64 ∧ (∀ x y, (x, y) ∈ D ↔ EP P x y) ∧ PGood P ∧ ∀ H', Same H H' → Q (.bl true) H'
section
variable {P : Program} {w : World} {K : PySem.W.Frag} {mg : Str → Option Value} {base : Heap}
abbrev n_law_rounds : List Str := ["_law_found", "_law_names_here", "_law_pairs", "_law_due", "_law_number", "_law_row", "_law_way", "_law_k", "_law_step"]
abbrev p_law_rounds : List Str := ["_law_found", "_law_names_here", "_law_pairs"]
theorem sc_law_rounds : FnScope n_law_rounds p_law_rounds (defScope s_law_rounds) := ⟨rfl, rfl, rfl, by decide +kernel, rfl, by decide +kernel, by decide +kernel⟩
theorem ok_rounds {f f1 : Addr} {fd fd1 : FuncData} (F : Fun K "_law_rounds" "_law_rounds" s_law_rounds f fd) (B : Bi mg) (c_law_round : Here P w K mg base "_law_round" 1 f1 fd1 p_law_round spRound) : FnOk P w K mg base CX0 2 f fd p_law_rounds spRounds := by
  refine F.ok sc_law_rounds (fun vs H Q E h => ?_) (fun cdv A outer s H vs Q E hr h => ?_)
  · obtain ⟨q, p, d, vq, vd, P, res, D, rfl, _⟩ := h
    rfl
  obtain ⟨q, p, d, vq, vd, P, res, D, rfl, hq, hpq, hB, hp, hd, hpd, hDl, hDE, g, k⟩ := h
  refine ⟨_, (pss_cons (ps_setLc (i := 3) (own := [("_law_k", 7)]) (g := gName 7) (tt := tB (tCall spRound [] E0 (tCons (tVar 2) (tCons (tOp (rIxL K) (tVar 1) (tVar 7)) tNil)))) (by rfl) sc_law_rounds.nd rfl rfl (sw_true rfl rfl rfl (by decide +kernel)) (pi_range1 (by rfl) B.range (pa_cons (pe_callB call_len_seq (by rfl) B.len (by decide +kernel) (pa_cons (pv 1) pa_nil)) pa_nil)) (blkOk_by (own := [("_law_k", 7)]) (N := n_law_rounds) (sc := defScope s_law_rounds) (by decide +kernel)) (fun _ _ _ _ _ => (pg_name (i := 7) sc_law_rounds.nd rfl (Or.inl rfl))) (fun _ _ _ _ _ => (pts_one (pt_val (pe_call c_law_round.ok (hr.mono (by decide)) rfl c_law_round.mgx c_law_round.kp c_law_round.b .nil pass0 (pa_cons (pv 2) (pa_cons (pe_ix ix_list (pv 1) (pv 7) (fun _ _ => rfl)) pa_nil)))))) (fun _ _ _ _ _ => (pv 7)))
        (pss_cons (ps_if (PW.pt (pw_or (pt_not (pt_val (pe_callB call_isi (by rfl) B.isinstance (by decide +kernel) (pa_cons (pv 0) (pa_cons (pe_bltn (v := V.ty "tuple") (u := Value.type "tuple") (by rfl) B.tuple (by decide +kernel) rfl) pa_nil))))) (pw_or1 (pt_cmpR op_ne (pe_callB call_len_seq (by rfl) B.len (by decide +kernel) (pa_cons (pv 0) pa_nil)) (pe_callB call_len_seq (by rfl) B.len (by decide +kernel) (pa_cons (pv 3) pa_nil)) (nomark _))))) (pss_one (ps_ret pe_bl)) pss_nil)
        (pss_cons (ps_for PassesOwn.never rfl (pi_zipM (by rfl) B.zip (pa_cons (pv 3) (pa_cons (pv 0) pa_nil))) (pg_tup rfl (pgs_cons (pg_name (i := 4) sc_law_rounds.nd rfl (Or.inl rfl)) (pgs_cons (pg_name (i := 5) sc_law_rounds.nd rfl (Or.inl rfl)) pgs_nil))) (pss_cons (ps_if (PW.pt (pw_or (pt_not (pt_val (pe_callB call_isi (by rfl) B.isinstance (by decide +kernel) (pa_cons (pv 5) (pa_cons (pe_bltn (v := V.ty "tuple") (u := Value.type "tuple") (by rfl) B.tuple (by decide +kernel) rfl) pa_nil))))) (pw_or (pt_cmpR op_ne (pe_callB call_len_seq (by rfl) B.len (by decide +kernel) (pa_cons (pv 5) pa_nil)) pe_int (nomark _)) (pw_or (pt_cmpR op_ne (pe_ix ix_tup (pv 5) pe_int (fun _ _ => rfl)) (pv 4) (nomark _)) (pw_or1 (pt_not (pt_val (pe_callB call_isi (by rfl) B.isinstance (by decide +kernel) (pa_cons (pe_ix ix_tup (pv 5) pe_int (fun _ _ => rfl)) (pa_cons (pe_bltn (v := V.ty "tuple") (u := Value.type "tuple") (by rfl) B.tuple (by decide +kernel) rfl) pa_nil)))))))))) (pss_one (ps_ret pe_bl)) pss_nil)
          (pss_cons (ps_set (i := 6) sc_law_rounds.nd rfl (Or.inl rfl) (pe_ix ix_tup (pv 5) pe_int (fun _ _ => rfl)))
          (pss_cons (ps_if (PW.pt (pw_or (pt_cmpR op_lt (pe_callB call_len_seq (by rfl) B.len (by decide +kernel) (pa_cons (pv 6) pa_nil)) pe_int (nomark _)) (pw_or (pt_cmpR op_ne (pe_ix ix_tup (pv 6) pe_int (fun _ _ => rfl)) (pe_ix ix_list (pv 1) (pv 4) (fun _ _ => rfl)) (nomark _)) (pw_or1 (pt_cmpR op_ne (pe_ix ix_tup (pv 6) (pe_un un_neg pe_int) (fun _ _ => rfl)) (pe_ix ix_list (pv 1) (pv 4) (fun _ _ => rfl)) (nomark _)))))) (pss_one (ps_ret pe_bl)) pss_nil)
          (pss_one (ps_if (pt_cmpR (op_neDat (α := List (Str × Str)) hr.units) (pe_lc (own := [("_law_step", 8)]) (g := gName 8) (tt := tTest (tOp (rInDat (Str × Str) K true) (tVar 8) (tVar 2))) rfl sc_law_rounds.nd (pi_zipN (by rfl) B.zip (pa_cons (pe_slice sl_tup (pv 6) po_none (po_some (pe_un un_neg pe_int))) (pa_cons (pe_slice sl_tup (pv 6) (po_some pe_int) po_none) pa_nil))) (blkOk_by (own := [("_law_step", 8)]) (N := n_law_rounds) (sc := defScope s_law_rounds) (by decide +kernel)) (fun _ _ _ _ _ => (pg_name (i := 8) sc_law_rounds.nd rfl (Or.inl rfl))) (fun _ _ _ _ _ => (pts_one (pt_cmpR (op_notInDat (α := Str × Str) hr.units) (pv 8) (pv 2) (by rfl)))) (fun _ _ _ _ _ => (pv 8))) (pe_lst pa_nil) (nomark _)) (pss_one (ps_ret pe_bl)) pss_nil))))))
        (pss_one (ps_ret pe_bl))))), ?_⟩
  have hnl : (namesOf P).length = P.length := List.length_map _
  have hl8 := g.len
  -- due
  refine ⟨_, rfl, p, _, rfl, .inl (SqL.of hp), _, rfl, by omega, ?_, fun L hL => lc_range (lo := 0) (n := (txs (namesOf P)).length) (fun i H' => Keep L (upd H L (.lst [])) H' ∧ H' L = some (.lst ((ringNos P i).map fun (j : Nat) => V.int (j : Int)))) ⟨Keep.refl _ _, upd_same⟩ ?_ ?_⟩
  · rw [txs_len]; omega
  · rintro i H' hi ⟨k1, hL'⟩
    rw [txs_len] at hi
    rw [Int.zero_add]
    have s1 : Same H H' := k1.same (Same.new hL _) hL
    obtain ⟨x, hx⟩ : ∃ b, (namesOf P)[i]? = some b := ⟨_, List.getElem?_eq_getElem (by omega)⟩
    refine ⟨rfl, _, rfl, _, rfl, _, rfl, p, _, _, _, rfl, rfl, SqL.of (s1 _ _ hp), atI_nat (txs_at hx), d, x, vd, D, namesOf P, rfl, s1 _ _ hd, pmono hpd fun v c z => z.keep s1.tups, hDl, by omega, fun a b hab => ?_, fun H2 b s2 hb => ⟨_, rfl, ?_⟩⟩
    · obtain ⟨rs, g1, g2⟩ := (hDE a b).mp hab
      exact (g.dom _ g1 _ g2).1
    have hiff : b = true ↔ OnRing P i := by
      rw [hb]
      constructor
      · exact fun z => ⟨x, hx, z.mono fun a c q => (hDE a c).mp q⟩
      · rintro ⟨x', hx', z⟩
        rw [hx] at hx'
        cases hx'
        exact z.mono fun a c q => (hDE a c).mpr q
    have s3 := k1.trans (Keep.of s2)
    refine ite2 (fun c => ?_) (fun c => ?_)
    · have e := (ringNos_succ P i).1 (hiff.mp c)
      have hle : (ringNos P i).length ≤ i := by
        have := List.length_filter_le (fun k => @decide (OnRing P k) (Classical.propDecidable _)) (List.range i)
        rw [List.length_range] at this
        exact this
      refine ⟨_, rfl, _, s2 _ _ hL', by rw [List.length_map]; exact line_lt (by omega), s3.trans Keep.put, ?_⟩
      rw [e, upd_same, List.map_append]
      rfl
    · have e := (ringNos_succ P i).2 fun z => c (hiff.mpr z)
      exact ⟨s3, by rw [e]; exact s2 _ _ hL'⟩
  rintro H1 ⟨k1, hL1⟩
  rw [txs_len, hnl] at hL1
  have s1 : Same H H1 := k1.same (Same.new hL _) hL
  obtain ⟨hb1, hb2⟩ := hB
  rw [← hb1] at hL1
  have hvq := plen hpq
  refine ⟨_, rfl, _, _, _, _, _, rfl, .ty "tuple", .base (.tup (s1 _ _ hq)), kit_ty kit_tt, _, rfl, ?_⟩
  refine iteF ⟨_, rfl, q, _, rfl, .inr (SqT.of (s1 _ _ hq)), _, rfl, L, _, rfl, .inl (SqL.of hL1), rfl, _, rfl, ?_⟩
  refine ite2 (fun z => ?_) (fun _ => ?_)
  · exfalso
    rw [List.length_map, List.length_map, hvq] at z
    simp at z
  have hdl : ((res.map (·.1)).map fun (j : Nat) => V.int (j : Int)).length = vq.length := by rw [List.length_map, List.length_map, hvq]
  refine ⟨_, rfl, _, rfl, L, q, _, _, rfl, SqL.of hL1, SqT.of (s1 _ _ hq), for_it (walk_zipM hdl) (fun i σ H' => ∃ (c4 c5 c6 : Option V), σ = [some (.ref q), some (.ref p), some (.ref d), some (.ref L), c4, c5, c6, none, none] ∧ Same H1 H')
    ⟨_, _, _, rfl, fun _ _ h => h⟩ (fun i σ H' _ ⟨_, _, _, _, s2⟩ => ⟨SqL.of (s2 _ _ hL1), SqT.of (s2 _ _ (s1 _ _ hq))⟩) ?_ ?_⟩
  · rintro i x σ H2 H3 hi ⟨c4, c5, c6, rfl, s2⟩ ⟨T, y1, y2, rfl, hT, rfl, g1, g2⟩
    have g1 : ((res.map (·.1)).map fun (j : Nat) => V.int (j : Int))[i]? = some y1 := g1
    have g2 : vq[i]? = some y2 := g2
    obtain ⟨⟨no, wy⟩, hri, b, c, rfl, hb, hc⟩ := pget' hpq g2
    rw [List.getElem?_map, List.getElem?_map, hri] at g1
    cases g1
    have sT : Same H2 (upd H2 T (.tup [.int (no : Int), .ref b])) := Same.new hT _
    have s12 := s1.trans s2
    have s3 := s12.trans sT
    obtain ⟨x, hx, hrw⟩ := hb2 _ _ (List.mem_of_getElem? hri)
    obtain ⟨w3, w10⟩ := hrw.len g
    have ht := hrw.tr
    have hb3 := s3 _ _ hb
    have hc3 := s3 _ _ hc
    have hp3 := s3 _ _ hp
    have ixn : atI (txs (namesOf P)) (no : Int) = some (.str x) := atI_nat (txs_at hx)
    refine ⟨T, _, rfl, SqT.of upd_same, rfl, _, _, rfl, _, _, rfl, rfl, ?_⟩
    refine ⟨_, rfl, _, _, _, _, _, rfl, .ty "tuple", .base (.tup hb3), kit_ty kit_tt, _, rfl, ?_⟩
    refine iteF ⟨_, rfl, b, _, rfl, .inr (SqT.of hb3), rfl, _, rfl, ?_⟩
    refine iteF ⟨_, rfl, b, _, _, _, rfl, rfl, SqT.of hb3, rfl, _, rfl, rfl, _, rfl, ?_⟩
    refine ite2 (fun z => absurd z (by simp)) (fun _ => ?_)
    refine ⟨_, rfl, b, _, _, _, rfl, rfl, SqT.of hb3, rfl, _, _, _, _, _, rfl, .ty "tuple", .base (.tup hc3), kit_ty kit_tt, _, rfl, ?_⟩
    have w0 : atI (txs wy) 0 = some (.str x) := atI_nat (j := 0) (txs_at ht.head)
    have hwl : (txs wy).length = wy.length := txs_len _
    have wl : atI (txs wy) (-1) = some (.str x) := by
      obtain ⟨w1, _, e, _⟩ := hrw
      rw [e, ← txs_snoc]
      exact atI_last _ _
    refine iteF ⟨_, rfl, b, _, _, _, rfl, rfl, SqT.of hb3, rfl, ?_⟩
    refine ⟨_, rfl, c, _, rfl, .inr (SqT.of hc3), _, _, rfl, rfl, _, rfl, ?_⟩
    refine ite2 (fun z => ?_) (fun _ => ?_)
    · exfalso
      have z' : ((txs wy).length : Int) < 3 := of_decide_eq_true z
      rw [hwl] at z'
      omega
    refine ⟨_, rfl, c, _, _, _, rfl, rfl, SqT.of hc3, w0, _, rfl, _, rfl, p, _, _, _, rfl, rfl, SqL.of hp3, ixn, rfl, _, rfl, ?_⟩
    refine ite2 (fun z => absurd z (by simp)) (fun _ => ?_)
    refine ⟨_, rfl, _, rfl, c, _, _, _, rfl, rfl, SqT.of hc3, wl, _, rfl, _, rfl, p, _, _, _, rfl, rfl, SqL.of hp3, ixn, rfl, _, rfl, ?_⟩
    refine ite2 (fun z => absurd z (by simp)) (fun _ => ?_)
    have hn1 : 1 ≤ (txs wy).length := by rw [hwl]; omega
    refine ⟨_, rfl, _, rfl, _, rfl, c, _, rfl, SqT.of hc3, ?_, fun p1 hp1 => ?_⟩
    · rintro ⟨_, z⟩
      have z' : HT.sIx (txs wy).length (txs wy).length (some (-1)) = (txs wy).length := z
      rw [six_neg1] at z'
      omega
    rw [cut_init]
    have sp1 : Same (upd H2 T (.tup [.int (no : Int), .ref b])) (upd (upd H2 T (.tup [.int (no : Int), .ref b])) p1 (.tup ((txs wy).take ((txs wy).length - 1)))) := Same.new hp1 _
    refine ⟨_, rfl, _, rfl, c, _, rfl, SqT.of (sp1 _ _ hc3), ?_, fun p2 hp2 => ?_⟩
    · rintro ⟨z, _⟩
      have z' : HT.sIx (txs wy).length 0 (some 1) = 0 := z
      rw [six_one hn1] at z'
      cases z'
    rw [cut_tail hn1]
    generalize hX1 : upd H2 T (.tup [.int (no : Int), .ref b]) = X1 at hp2 s3 sT hb3 hc3 hp3 hp1 sp1
    have sp2 : Same (upd X1 p1 (.tup ((txs wy).take ((txs wy).length - 1)))) (upd (upd X1 p1 (.tup ((txs wy).take ((txs wy).length - 1)))) p2 (.tup ((txs wy).drop 1))) := Same.new hp2 _
    have hq1 := sp2 _ _ (upd_same (H := X1) (a := p1) (o := .tup ((txs wy).take ((txs wy).length - 1))))
    have hq2 := upd_same (H := upd X1 p1 (.tup ((txs wy).take ((txs wy).length - 1)))) (a := p2) (o := .tup ((txs wy).drop 1))
    have s5 := s3.trans (sp1.trans sp2)
    have s7 := (s2.trans sT).trans (sp1.trans sp2)
    generalize hX2 : upd (upd X1 p1 (.tup ((txs wy).take ((txs wy).length - 1)))) p2 (.tup ((txs wy).drop 1)) = X2 at hq1 hq2 s5 s7
    have zl : ((txs wy).take ((txs wy).length - 1)).length = ((txs wy).drop 1).length := by rw [List.length_take, List.length_drop]; omega
    refine ⟨p1, p2, _, _, rfl, SqT.of hq1, SqT.of hq2, fun E hE => lc_it (walk_zipN zl) (fun i H4 => Same (upd X2 E (.lst [])) H4) (fun _ _ h => h)
      (fun i H4 _ h => ⟨SqT.of (h _ _ ((Same.new hE _) _ _ hq1)), SqT.of (h _ _ ((Same.new hE _) _ _ hq2))⟩) ?_ ?_⟩
    · rintro i x4 H4 H5 hi h4 ⟨T2, y1, y2, rfl, hT2, rfl, e1, e2⟩
      have e1 : ((txs wy).take ((txs wy).length - 1))[i]? = some y1 := e1
      have e2 : ((txs wy).drop 1)[i]? = some y2 := e2
      have hi' : i < (txs wy).length - 1 := by rw [List.length_take] at hi; omega
      rw [List.getElem?_take_of_lt hi'] at e1
      rw [List.getElem?_drop, Nat.add_comm] at e2
      obtain ⟨u1, hu1⟩ : ∃ b, wy[i]? = some b := ⟨_, List.getElem?_eq_getElem (by omega)⟩
      obtain ⟨u2, hu2⟩ : ∃ b, wy[i + 1]? = some b := ⟨_, List.getElem?_eq_getElem (by omega)⟩
      rw [txs_at hu1] at e1
      rw [txs_at hu2] at e2
      cases e1
      cases e2
      have sT2 : Same H4 (upd H4 T2 (.tup [.str u1, .str u2])) := Same.new hT2 _
      have s6 : Same H (upd H4 T2 (.tup [.str u1, .str u2])) := ((s5.trans (Same.new hE _)).trans h4).trans sT2
      refine ⟨rfl, _, rfl, _, rfl, (u1, u2), D, d, vd, rfl, .inl (SqL.of (s6 _ _ hd)), pairs_hds (pmono hpd fun v c z => z.keep s6.tups), hd_pair (SqT.of upd_same) (hd_str _) (hd_str _), _, rfl, ?_⟩
      rw [if_pos rfl]
      have hin : (u1, u2) ∈ D := (hDE _ _).mpr (ht.edges i _ _ hu1 hu2)
      rw [to_dec _ hin]
      exact iteF (h4.trans sT2)
    · intro H4 h4
      have h4E := h4 _ _ upd_same
      refine ⟨by show 0 ≤ sizeLine; decide, fun e2 he2 => ?_⟩
      have sE2 : Same H4 (upd H4 e2 (.lst [])) := Same.new he2 _
      refine ⟨[], [], hd_lst (SqL.of (sE2 _ _ h4E)) (hds_of .nil), hd_lst (SqL.of upd_same) (hds_of .nil), _, rfl, ?_⟩
      rw [to_dec _ rfl]
      exact iteF ⟨_, _, _, rfl, ((s7.trans (Same.new hE _)).trans h4).trans sE2⟩
  · rintro σ H' ⟨_, _, _, rfl, s2⟩
    exact k _ (s1.trans s2)
end
end Bh
namespace Bh
open PySem L2 BhX
open PySem.W (Datum Tup)
def fnm (k : Nat) : Str := ("f" : Str) ++ (toString ((k : Nat) : Int) : Str)
theorem fnm_len : ∀ k, k < 8 → (("f" : Str)).length + ((toString ((k : Nat) : Int) : Str)).length ≤ 10 := by decide +kernel
theorem fnm_log : ∀ k, k < 8 → ((k : Nat) : Int).natAbs.log2 < 1920 := by decide +kernel
theorem fnm_nd8 : ((List.range 8).map fnm).Nodup := by decide +kernel
theorem fnm_nd {n : Nat} (h : n ≤ 8) : ((List.range n).map fnm).Nodup := by
  have e : (List.range n).map fnm = ((List.range 8).map fnm).take n := by
    rw [← List.map_take, List.take_range, Nat.min_eq_left h]
  rw [e]
  exact List.Pairwise.sublist (List.take_sublist _ _) fnm_nd8
theorem sla_intro {K : PySem.W.Frag} {H : Hp} {a : Addr} {vc : List V} {C : List (Str × Str)} {Q : VK} (h : H a = some (.tup vc)) (hp : Paired (PairAt H) vc C) (lo hi : Option Int)
    (key : ∀ (b : Addr) (Hx : Hp) (ws : List V) (Cs : List (Str × Str)), Same H Hx → Hx b = some (.tup ws) → Paired (PairAt Hx) ws Cs → (∀ c, c ∈ Cs → c ∈ C) → Q (.ref b) Hx) : rSlA K (.ref a) lo hi H Q := by
  refine ⟨a, vc, rfl, SqT.of h, fun _ => key a H vc C (fun _ _ q => q) h hp fun _ q => q, fun _ p hp' => ?_⟩
  have s := Same.new hp' (.tup (cutV vc lo hi))
  refine key p _ _ ((C.drop (HT.sIx vc.length 0 lo)).take (HT.sIx vc.length vc.length hi - HT.sIx vc.length 0 lo)) s upd_same ?_ fun c q => List.mem_of_mem_drop (List.mem_of_mem_take q)
  have dr : ∀ {n : Nat} {xs : List V} {ys : List (Str × Str)}, Paired (PairAt H) xs ys → Paired (PairAt H) (xs.drop n) (ys.drop n) := fun {n} => by
    induction n with
    | zero => exact fun q => q
    | succ n ih =>
      intro xs ys q
      cases q with
      | nil => exact .nil
      | cons a t => exact ih t
  have tk : ∀ {n : Nat} {xs : List V} {ys : List (Str × Str)}, Paired (PairAt H) xs ys → Paired (PairAt H) (xs.take n) (ys.take n) := fun {n} => by
    induction n with
    | zero => exact fun q => .nil
    | succ n ih =>
      intro xs ys q
      cases q with
      | nil => exact .nil
      | cons a t => exact .cons a (ih t)
  exact pmono (tk (dr hp)) fun v c q => q.keep s.tups
theorem rows_mem : ∀ {P : Parts} {x : Str} {r : Rw}, r ∈ rowsOf P x → x ∈ namesOf P
  | [], x, r, h => by unfold rowsOf at h; simp at h
  | (y, rs) :: P, x, r, h => by
    by_cases e : x = y
    · subst e
      exact List.mem_cons_self ..
    · unfold rowsOf at h
      rw [List.lookup_cons, show (x == y) = false from by simp; exact e] at h
      exact List.mem_cons_of_mem _ (rows_mem (P := P) (r := r) h)
theorem edgeB_all {P : Parts} (g : PGood P) (x y : Str) : edgeB P (x, y) = true ↔ EP P x y := by
  by_cases hx : x ∈ namesOf P
  · exact edgeB_iff g hx
  · constructor
    · intro h
      unfold edgeB at h
      have h2 := of_dec _ h
      rw [mem_blist] at h2
      exact absurd (rows_mem h2) hx
    · intro h
      exact absurd (g.graph.dom _ _ h).1 hx
theorem pmap {α β γ : Type} {F : α → β → Prop} {G : α → γ → Prop} {f : β → γ} (h : ∀ a b, F a b → G a (f b)) : ∀ {xs : List α} {ys : List β}, Paired F xs ys → Paired G xs (ys.map f)
  | _, _, .nil => .nil
  | _, _, .cons a t => .cons (h _ _ a) (pmap h t)
theorem strs_hd {K : PySem.W.Frag} {H : Hp} {v : V} {t : List Str} (h : StrsT H v t) : HD K H v (Tup.mk t) := by
  obtain ⟨a, rfl, ha⟩ := h
  exact hd_tup (SqT.of ha) (hds_strs t)
theorem strss_hds {K : PySem.W.Frag} {H : Hp} {vs : List V} {ts : List (List Str)} (h : Paired (StrsT H) vs ts) : HDs K H vs (ts.map Tup.mk) := hds_of (pmap (fun _ _ q => strs_hd q) h)
theorem br_hd {K : PySem.W.Frag} {H : Hp} {v : V} {c : Nat × List Str} (h : BrAt H v c) : HD K H v ((c.1 : Int), Tup.mk c.2) := by
  obtain ⟨a, b, rfl, ha, hb⟩ := h
  exact hd_pair (SqT.of ha) (hd_int _) (hd_tup (SqT.of hb) (hds_strs _))
def datB (res : List (Nat × List Str)) : Tup (Int × Tup Str) := Tup.mk (res.map fun c => ((c.1 : Int), Tup.mk c.2))
theorem brs_hd {K : PySem.W.Frag} {H : Hp} {q : Addr} {vs : List V} {res : List (Nat × List Str)} (hq : H q = some (.tup vs)) (h : Paired (BrAt H) vs res) : HD K H (.ref q) (datB res) := hd_tup (SqT.of hq) (hds_of (pmap (fun _ _ q => br_hd q) h))
theorem nil_hd {α : Type} [DecidableEq α] [Datum α] {K : PySem.W.Frag} {H : Hp} {q : Addr} (hq : H q = some (.tup [])) : HD K H (.ref q) (Tup.mk ([] : List α)) := hd_tup (SqT.of hq) (hds_of .nil)
theorem fold_without {P : Parts} {C : List (Str × Str)} {H : Hp} {u v : V} {fs : List Str} (h : FoldAt P H u v fs) : FoldAt (withoutM P C) H u v fs :=
  ⟨by rw [h.len]; unfold withoutM; rw [List.length_map], h.nd, by rw [without_names]; exact h.fo, h.ru⟩
theorem mem_ringNos {P : Parts} {n k : Nat} : k ∈ ringNos P n ↔ k < n ∧ OnRing P k := by
  unfold ringNos
  rw [List.mem_filter, List.mem_range]
  exact ⟨fun h => ⟨h.1, of_dec _ h.2⟩, fun h => ⟨h.1, to_dec _ h.2⟩⟩
theorem broken_nil {P : Parts} {res : List (Nat × List Str)} (h : BrokenOf P P.length res) (a : Acyc (EP P)) : res = [] := by
  have e : ringNos P P.length = [] := List.eq_nil_iff_forall_not_mem.mpr fun k hk => by
    obtain ⟨_, x, _, hw⟩ := mem_ringNos.mp hk
    exact a x hw
  have h1 := h.1
  rw [e] at h1
  exact List.map_eq_nil_iff.mp h1
theorem broken_some {P : Parts} {res : List (Nat × List Str)} (g : PGood P) (h : BrokenOf P P.length res) (a : ¬ Acyc (EP P)) : res ≠ [] := fun e => by
  obtain ⟨x, hx⟩ := Classical.not_forall.mp a
  have hw := Classical.not_not.mp hx
  obtain ⟨z, hz⟩ := hw.first
  have hm := (g.graph.dom _ _ hz).1
  obtain ⟨k, hk⟩ := List.mem_iff_getElem?.mp hm
  have hkl := (List.getElem?_eq_some_iff.mp hk).1
  rw [List.length_map] at hkl
  have h1 := h.1
  rw [e] at h1
  have : k ∈ ringNos P P.length := mem_ringNos.mpr ⟨hkl, x, hk, hw⟩
  rw [← h1] at this
  cases this
/-- what law(script) promises -/
def spLaw (K : PySem.W.Frag) : Sp := fun vs H Q _ => ∃ (a : Addr) (ns : List Int), vs = [.ref a] ∧ SqL K H a (ns.map V.int) ∧ ns.length ≤ 63 ∧ ∀ H', Q (.bl true) H'
section
variable {P : Program} {w : World} {K : PySem.W.Frag} {mg : Str → Option Value} {base : Heap}
abbrev n_law : List Str := ["_law_script", "_law_many", "_law_names_here", "_law_parts", "_law_folders", "_law_rules", "_law_pairs", "_law_cut", "_law_left", "_law_at", "_law_pair", "_law_more", "_law_k", "_law_name", "_law_other_here"]
abbrev p_law : List Str := ["_law_script"]
theorem sc_law : FnScope n_law p_law (defScope s_law) := ⟨rfl, rfl, rfl, by decide +kernel, rfl, by decide +kernel, by decide +kernel⟩
theorem ok_law {f f1 f2 f3 f4 f5 f6 f7 f8 f9 f10 f11 : Addr} {fd fd1 fd2 fd3 fd4 fd5 fd6 fd7 fd8 fd9 fd10 fd11 : FuncData} (F : Fun K "law" "law" s_law f fd) (B : Bi mg)
    (c_tangles : Here P w K mg base "tangles" 15 f1 fd1 p_tangles spTangles) (c_fewest : Here P w K mg base "fewest" 16 f2 fd2 p_fewest spFewest) (c_broken : Here P w K mg base "broken" 5 f3 fd3 p_broken spBroken)
    (c_law_cell_at : Here P w K mg base "_law_cell_at" 1 f4 fd4 p_law_cell_at (spCell K)) (c_law_mixed : Here P w K mg base "_law_mixed" 1 f5 fd5 p_law_mixed spMixed) (c_law_names : Here P w K mg base "_law_names" 2 f6 fd6 p_law_names spNames)
    (c_law_plain : Here P w K mg base "_law_plain" 2 f7 fd7 p_law_plain (spPlain K)) (c_law_pairs_of : Here P w K mg base "_law_pairs_of" 1 f8 fd8 p_law_pairs_of spPairs) (c_law_is_cut : Here P w K mg base "_law_is_cut" 1 f9 fd9 p_law_is_cut spIsCut)
    (c_law_without : Here P w K mg base "_law_without" 1 f10 fd10 p_law_without spWithout) (c_law_rounds : Here P w K mg base "_law_rounds" 2 f11 fd11 p_law_rounds spRounds) : FnOk P w K mg base CX0 17 f fd p_law (spLaw K) := by
  refine F.ok sc_law (fun vs H Q E h => ?_) (fun cdv A outer s H vs Q E hr h => ?_)
  · obtain ⟨a, ns, rfl, _⟩ := h
    rfl
  obtain ⟨a, ns, rfl, hS, h63, hQ⟩ := h
  have rest : ∃ t : TS, PSs (cxOf CX0 P w K mg base n_law "law" (defScope s_law) f cdv A outer s H E).nox ((defBody s_law).drop 2) t ∧
      ∀ m : Nat, 1 ≤ m → m ≤ 8 → t { nx := fun _ H' => Q .non H', rt := Q } [some (.ref a), some (.int (m : Int)), none, none, none, none, none, none, none, none, none, none, none, none, none] H := by
    refine ⟨_, (pss_cons (ps_set (i := 2) sc_law.nd rfl (Or.inl rfl) (pe_call c_law_names.ok (hr.mono (by decide)) rfl c_law_names.mgx c_law_names.kp c_law_names.b .nil pass0 (pa_cons (pe_call c_law_cell_at.ok (hr.mono (by decide)) rfl c_law_cell_at.mgx c_law_cell_at.kp c_law_cell_at.b .nil pass0 (pa_cons (pv 0) (pa_cons pe_int pa_nil))) (pa_cons (pv 1) pa_nil))))
        (pss_cons (ps_set (i := 3) sc_law.nd rfl (Or.inl rfl) (pe_call c_law_plain.ok (hr.mono (by decide)) rfl c_law_plain.mgx c_law_plain.kp c_law_plain.b .nil pass0 (pa_cons (pv 0) (pa_cons (pv 2) (pa_cons (pe_op op_mod (pe_call c_law_cell_at.ok (hr.mono (by decide)) rfl c_law_cell_at.mgx c_law_cell_at.kp c_law_cell_at.b .nil pass0 (pa_cons (pv 0) (pa_cons pe_int pa_nil))) pe_int) pa_nil)))))
        (pss_cons (ps_set (i := 4) sc_law.nd rfl (Or.inl rfl) (pe_callTy call_tuple_of (by rfl) B.tuple (by decide +kernel) (pa_cons (pe_lc (own := [("_law_k", 12), ("_law_name", 13)]) (g := gTup K 2 (gCons (gName 12) (gCons (gName 13) gNil))) (tt := tYes) rfl sc_law.nd (pi_enum (by rfl) B.enumerate (pa_cons (pv 2) pa_nil)) (blkOk_by (own := [("_law_k", 12), ("_law_name", 13)]) (N := n_law) (sc := defScope s_law) (by decide +kernel)) (fun _ _ _ _ _ => (pg_tup rfl (pgs_cons (pg_name (i := 12) sc_law.nd rfl (Or.inl rfl)) (pgs_cons (pg_name (i := 13) sc_law.nd rfl (Or.inl rfl)) pgs_nil)))) (fun _ _ _ _ _ => pts_nil) (fun _ _ _ _ _ => (pe_tup (pa_cons (pv 13) (pa_cons (pe_op op_add_str pe_str (pe_callTy call_str_int (by rfl) B.str (by decide +kernel) (pa_cons (pv 12) pa_nil))) pa_nil))))) pa_nil)))
        (pss_cons (ps_set (i := 5) sc_law.nd rfl (Or.inl rfl) (pe_callTy call_tuple_of (by rfl) B.tuple (by decide +kernel) (pa_cons (pe_lc (own := [("_law_k", 12)]) (g := gName 12) (tt := tYes) rfl sc_law.nd (pi_range1 (by rfl) B.range (pa_cons (pe_callB call_len_seq (by rfl) B.len (by decide +kernel) (pa_cons (pv 2) pa_nil)) pa_nil)) (blkOk_by (own := [("_law_k", 12)]) (N := n_law) (sc := defScope s_law) (by decide +kernel)) (fun _ _ _ _ _ => (pg_name (i := 12) sc_law.nd rfl (Or.inl rfl))) (fun _ _ _ _ _ => pts_nil) (fun _ _ _ _ _ => (pe_tup (pa_cons (pe_op op_add_str pe_str (pe_callTy call_str_int (by rfl) B.str (by decide +kernel) (pa_cons (pv 12) pa_nil))) (pa_cons (pe_op op_add_str pe_str (pe_callTy call_str_int (by rfl) B.str (by decide +kernel) (pa_cons (pv 12) pa_nil))) pa_nil))))) pa_nil)))
        (pss_cons (ps_set (i := 6) sc_law.nd rfl (Or.inl rfl) (pe_call c_law_pairs_of.ok (hr.mono (by decide)) rfl c_law_pairs_of.mgx c_law_pairs_of.kp c_law_pairs_of.b .nil pass0 (pa_cons (pv 3) pa_nil)))
        (pss_cons (ps_if (pt_not (pt_val (pe_call c_law_rounds.ok (hr.mono (by decide)) rfl c_law_rounds.mgx c_law_rounds.kp c_law_rounds.b .nil pass0 (pa_cons (pe_call c_broken.ok (hr.mono (by decide)) rfl c_broken.mgx c_broken.kp c_broken.b .nil pass0 (pa_cons (pv 3) (pa_cons (pv 4) (pa_cons (pv 5) pa_nil)))) (pa_cons (pv 2) (pa_cons (pv 6) pa_nil)))))) (pss_one (ps_ret pe_bl)) pss_nil)
        (pss_cons (ps_set (i := 7) sc_law.nd rfl (Or.inl rfl) (pe_call c_fewest.ok (hr.mono (by decide)) rfl c_fewest.mgx c_fewest.kp c_fewest.b .nil pass0 (pa_cons (pv 3) pa_nil)))
        (pss_cons (ps_if (pt_not (pt_val (pe_call c_law_is_cut.ok (hr.mono (by decide)) rfl c_law_is_cut.mgx c_law_is_cut.kp c_law_is_cut.b .nil pass0 (pa_cons (pv 7) (pa_cons (pv 6) pa_nil))))) (pss_one (ps_ret pe_bl)) pss_nil)
        (pss_cons (ps_set (i := 8) sc_law.nd rfl (Or.inl rfl) (pe_call c_law_without.ok (hr.mono (by decide)) rfl c_law_without.mgx c_law_without.kp c_law_without.b .nil pass0 (pa_cons (pv 3) (pa_cons (pv 7) pa_nil))))
        (pss_cons (ps_if (PW.pt (pw_or (pt_cmpR (op_neDat (α := Tup (Tup Str)) hr.units) (pe_call c_tangles.ok (hr.mono (by decide)) rfl c_tangles.mgx c_tangles.kp c_tangles.b .nil pass0 (pa_cons (pv 8) pa_nil)) (pe_callTy call_tuple_of (by rfl) B.tuple (by decide +kernel) (pa_cons (pe_lc (own := [("_law_name", 13)]) (g := gName 13) (tt := tYes) rfl sc_law.nd (pi_list (pv 2)) (blkOk_by (own := [("_law_name", 13)]) (N := n_law) (sc := defScope s_law) (by decide +kernel)) (fun _ _ _ _ _ => (pg_name (i := 13) sc_law.nd rfl (Or.inl rfl))) (fun _ _ _ _ _ => pts_nil) (fun _ _ _ _ _ => (pe_tup (pa_cons (pv 13) pa_nil)))) pa_nil)) (nomark _)) (pw_or1 (pt_cmpR (op_neDat (α := Tup (Int × Tup Str)) hr.units) (pe_call c_broken.ok (hr.mono (by decide)) rfl c_broken.mgx c_broken.kp c_broken.b .nil pass0 (pa_cons (pv 8) (pa_cons (pv 4) (pa_cons (pv 5) pa_nil)))) (pe_tup pa_nil) (nomark _))))) (pss_one (ps_ret pe_bl)) pss_nil)
        (pss_cons (ps_if (pt_cmpR (op_neDat (α := Tup (Str × Str)) hr.units) (pe_call c_fewest.ok (hr.mono (by decide)) rfl c_fewest.mgx c_fewest.kp c_fewest.b .nil pass0 (pa_cons (pv 8) pa_nil)) (pe_tup pa_nil) (nomark _)) (pss_one (ps_ret pe_bl)) pss_nil)
        (pss_cons (ps_set (i := 9) sc_law.nd rfl (Or.inl rfl) (pe_op op_mod (pe_call c_law_mixed.ok (hr.mono (by decide)) rfl c_law_mixed.mgx c_law_mixed.kp c_law_mixed.b .nil pass0 (pa_cons (pe_call c_law_cell_at.ok (hr.mono (by decide)) rfl c_law_cell_at.mgx c_law_cell_at.kp c_law_cell_at.b .nil pass0 (pa_cons (pv 0) (pa_cons pe_int pa_nil))) (pa_cons pe_int (pa_cons pe_int pa_nil)))) (pe_callB (call_max2 rfl) (by rfl) B.max (by decide +kernel) (pa_cons pe_int (pa_cons (pe_callB call_len_seq (by rfl) B.len (by decide +kernel) (pa_cons (pv 7) pa_nil)) pa_nil)))))
        (pss_cons (ps_for PassesOwn.never rfl (pi_tup (pe_slice sl_tupA (pv 7) (po_some (pv 9)) (po_some (pe_op op_add (pv 9) pe_int)))) (pg_name (i := 10) sc_law.nd rfl (Or.inr rfl)) (pss_cons (ps_set (i := 11) sc_law.nd rfl (Or.inl rfl) (pe_call c_law_without.ok (hr.mono (by decide)) rfl c_law_without.mgx c_law_without.kp c_law_without.b .nil pass0 (pa_cons (pv 3) (pa_cons (pe_lc (own := [("_law_other_here", 14)]) (g := gName 14) (tt := tTest (tOp (rNeDat (Str × Str) K) (tVar 14) (tVar 10))) rfl sc_law.nd (pi_tup (pv 7)) (blkOk_by (own := [("_law_other_here", 14)]) (N := n_law) (sc := defScope s_law) (by decide +kernel)) (fun _ _ _ _ _ => (pg_name (i := 14) sc_law.nd rfl (Or.inl rfl))) (fun _ _ _ _ _ => (pts_one (pt_cmpR (op_neDat (α := Str × Str) hr.units) (pv 14) (pv 10) (nomark _)))) (fun _ _ _ _ _ => (pv 14))) pa_nil))))
          (pss_one (ps_if (PW.pt (pw_or (pt_cmpR (op_eqDat (α := Tup (Int × Tup Str)) hr.units) (pe_call c_broken.ok (hr.mono (by decide)) rfl c_broken.mgx c_broken.kp c_broken.b .nil pass0 (pa_cons (pv 11) (pa_cons (pv 4) (pa_cons (pv 5) pa_nil)))) (pe_tup pa_nil) (nomark _)) (pw_or1 (pt_cmpR op_ne (pe_callB call_len_seq (by rfl) B.len (by decide +kernel) (pa_cons (pe_call c_fewest.ok (hr.mono (by decide)) rfl c_fewest.mgx c_fewest.kp c_fewest.b .nil pass0 (pa_cons (pv 11) pa_nil)) pa_nil)) pe_int (nomark _))))) (pss_one (ps_ret pe_bl)) pss_nil))))
        (pss_one (ps_ret pe_bl))))))))))))))), fun m hm1 hm8 => ?_⟩
    refine ⟨_, rfl, a, ns, 0, rfl, hS, _, rfl, ns.getD 0 0, m, rfl, hm8, fun H1 p names s1 hp0 hp hlen hnd => ?_⟩
    obtain ⟨mode, hmode⟩ : ∃ mode : Nat, ns.getD 2 0 % 6 = (mode : Int) := ⟨(ns.getD 2 0 % 6).toNat, by omega⟩
    refine ⟨_, rfl, _, rfl, _, rfl, a, ns, 2, rfl, s1.seqL hS, _, _, rfl, rfl, (show (0 : Int) < 6 by decide), a, p, ns, names, mode, ?_, s1.seqL hS, by omega, hp, hnd, by omega, by omega, fun H2 l P s2 hP g hPn => ?_⟩
    · show [V.ref a, V.ref p, V.int (ns.getD 2 0 % 6)] = _
      rw [hmode]
    have hp2 := s2 _ _ hp
    have n8 : names.length ≤ 8 := by omega
    have fsl : ((List.range names.length).map fnm).length = names.length := by rw [List.length_map, List.length_range]
    have fsi : ∀ i, i < names.length → ((List.range names.length).map fnm)[i]? = some (fnm i) := fun i hi => by
      rw [List.getElem?_map, List.getElem?_range hi]; rfl
    -- folders
    refine ⟨_, rfl, p, _, rfl, SqL.of hp2, fun D hD => lc_it (walk_enum (a := p) (xs := txs names)) (fun i H4 => ∃ ve, Keep D (upd H2 D (.lst [])) H4 ∧ H4 D = some (.lst ve) ∧ Paired (PairAt H4) ve ((names.zip ((List.range names.length).map fnm)).take i))
      ⟨[], Keep.refl _ _, upd_same, .nil⟩ (fun i H4 _ ⟨ve, k4, _, _⟩ => SqL.of (k4.same (Same.new hD _) hD _ _ hp2)) ?_ ?_⟩
    · rintro i x H4 H5 hi ⟨ve, k4, hD4, hpe⟩ ⟨T, y1, y2, rfl, hT, rfl, g1, g2⟩
      have g1 : some (V.int (i : Int)) = some y1 := g1
      have g2 : (txs names)[i]? = some y2 := g2
      cases g1
      rw [txs_len] at hi
      obtain ⟨nm, hnm⟩ : ∃ b, names[i]? = some b := ⟨_, List.getElem?_eq_getElem hi⟩
      rw [txs_at hnm] at g2
      cases g2
      have sT : Same H4 (upd H4 T (.tup [.int (i : Int), .str nm])) := Same.new hT _
      refine ⟨T, _, rfl, SqT.of upd_same, rfl, _, _, rfl, _, _, rfl, rfl, rfl, ?_⟩
      have i8 : i < 8 := by omega
      refine ⟨_, rfl, _, rfl, (i : Int), rfl, fnm_log i i8, "f", _, rfl, rfl, Nat.le_trans (fnm_len i i8) (by decide), by show 2 ≤ sizeLine; decide, fun t ht => ?_⟩
      have st := sT.trans (Same.new ht (.tup [.str nm, .str (fnm i)]))
      have hvl := plen hpe
      have ntD : t ≠ D := (ne_of_none (sT _ _ hD4) ht).symm
      have k7 : Keep D H4 (upd (upd (upd H4 T (.tup [.int (i : Int), .str nm])) t (.tup [.str nm, .str (fnm i)])) D (.lst (ve ++ [.ref t]))) := (Keep.of st).trans Keep.put
      refine ⟨_, st _ _ hD4, ?_, ve ++ [.ref t], k4.trans k7, upd_same, ?_⟩
      · rw [hvl, List.length_take]
        exact line_lt (by omega)
      have hz : (names.zip ((List.range names.length).map fnm))[i]? = some (nm, fnm i) := List.getElem?_zip_eq_some.mpr ⟨hnm, fsi i hi⟩
      rw [List.take_add_one, hz]
      have kk := k7.tups hD4
      exact psnoc (pmono hpe fun v c q => q.keep kk) ⟨t, rfl, by rw [upd_ne ntD]; exact upd_same⟩
    rintro H3 ⟨vf, k3, hD3, hpf⟩
    have s3 : Same H2 H3 := k3.same (Same.new hD _) hD
    rw [txs_len, List.take_of_length_le (by rw [List.length_zip, fsl]; omega)] at hpf
    refine ⟨D, _, rfl, .inl ⟨SqL.of hD3, fun fo hfo => ?_⟩⟩
    have sfo := Same.new hfo (.tup vf)
    have s4 := s3.trans sfo
    have hfoT : upd H3 fo (.tup vf) fo = some (.tup vf) := upd_same
    have hpf4 : Paired (PairAt (upd H3 fo (.tup vf))) vf (names.zip ((List.range names.length).map fnm)) := pmono hpf fun v c q => q.keep sfo.tups
    generalize upd H3 fo (.tup vf) = H4 at s4 hfoT hpf4
    have hp4 := s4 _ _ hp2
    -- rules
    refine ⟨_, rfl, p, _, rfl, .inl (SqL.of hp4), _, rfl, by omega, by rw [txs_len]; omega, fun E2 hE2 => lc_range (lo := 0) (n := (txs names).length) (fun i H5 => ∃ ve, Keep E2 (upd H4 E2 (.lst [])) H5 ∧ H5 E2 = some (.lst ve) ∧ Paired (PairAt H5) ve ((((List.range names.length).map fnm).map fun f => (f, f)).take i))
      ⟨[], Keep.refl _ _, upd_same, .nil⟩ ?_ ?_⟩
    · rintro i H5 hi ⟨ve, k5, hE5, hpe⟩
      rw [txs_len] at hi
      have i8 : i < 8 := by omega
      rw [Int.zero_add]
      refine ⟨rfl, ?_⟩
      refine ⟨_, rfl, (i : Int), rfl, fnm_log i i8, "f", _, rfl, rfl, Nat.le_trans (fnm_len i i8) (by decide), _, rfl, (i : Int), rfl, fnm_log i i8, "f", _, rfl, rfl, Nat.le_trans (fnm_len i i8) (by decide), by show 2 ≤ sizeLine; decide, fun t ht => ?_⟩
      have st := Same.new ht (.tup [.str (fnm i), .str (fnm i)])
      have hvl := plen hpe
      have ntE : t ≠ E2 := (ne_of_none hE5 ht).symm
      have k7 : Keep E2 H5 (upd (upd H5 t (.tup [.str (fnm i), .str (fnm i)])) E2 (.lst (ve ++ [.ref t]))) := (Keep.of st).trans Keep.put
      refine ⟨_, st _ _ hE5, ?_, ve ++ [.ref t], k5.trans k7, upd_same, ?_⟩
      · rw [hvl, List.length_take]
        exact line_lt (by omega)
      rw [List.take_add_one, List.getElem?_map, fsi i hi]
      have kk := k7.tups hE5
      exact psnoc (pmono hpe fun v c q => q.keep kk) ⟨t, rfl, by rw [upd_ne ntE]; exact upd_same⟩
    rintro H5 ⟨vr, k5, hE5, hpr⟩
    have s5 : Same H4 H5 := k5.same (Same.new hE2 _) hE2
    rw [txs_len, List.take_of_length_le (by rw [List.length_map, fsl]; exact Nat.le_refl _)] at hpr
    refine ⟨E2, _, rfl, .inl ⟨SqL.of hE5, fun ru hru => ?_⟩⟩
    have sru := Same.new hru (.tup vr)
    have s6 := s5.trans sru
    have hruT : upd H5 ru (.tup vr) ru = some (.tup vr) := upd_same
    have hpr6 : Paired (PairAt (upd H5 ru (.tup vr))) vr (((List.range names.length).map fnm).map fun f => (f, f)) := pmono hpr fun v c q => q.keep sru.tups
    generalize upd H5 ru (.tup vr) = H6 at s6 hruT hpr6
    have s26 : Same H2 H6 := s4.trans s6
    have hPl : P.length = names.length := by rw [← hPn]; exact (List.length_map _).symm
    have hFo : FoldAt P H6 (.ref fo) (.ref ru) ((List.range names.length).map fnm) := ⟨by rw [fsl, hPl], fnm_nd n8, ⟨fo, vf, rfl, s6 _ _ hfoT, by rw [hPn]; exact pmono hpf4 fun v c q => q.keep s6.tups⟩, ⟨ru, vr, rfl, hruT, hpr6⟩⟩
    have hP6 := hP.same s26
    have hp6 := s26 _ _ hp2
    have GG := g.graph
    -- pairs, broken, rounds
    refine ⟨_, rfl, .ref l, P, rfl, hP6, g, fun H7 d vd s7 hd hpd => ?_⟩
    have hDl : (prod (namesOf P) (edgeB P)).length ≤ 64 := by
      have := prod_len (edgeB P) (namesOf P) (namesOf P)
      have e : (prod (namesOf P) (edgeB P)).length ≤ (namesOf P).length * (namesOf P).length := this
      rw [hPn] at e
      have : names.length * names.length ≤ 8 * 8 := Nat.mul_le_mul n8 n8
      rw [hPn]
      omega
    have hDE : ∀ x y, (x, y) ∈ prod (namesOf P) (edgeB P) ↔ EP P x y := fun x y => by
      rw [mem_prod]
      exact ⟨fun z => (edgeB_iff g z.1).mp z.2.2, fun z => ⟨(GG.dom _ _ z).1, (GG.dom _ _ z).2, (edgeB_iff g (GG.dom _ _ z).1).mpr z⟩⟩
    have hFo7 := hFo.keep s7.tups
    have hP7 := hP6.same s7
    have hp7 : H7 p = some (.lst (txs (namesOf P))) := by rw [hPn]; exact s7 _ _ hp6
    refine ⟨_, rfl, _, rfl, _, rfl, .ref l, .ref fo, .ref ru, P, _, rfl, hP7, g, hFo7, fun H8 q vq res s8 hq hpq hB => ?_⟩
    refine ⟨_, rfl, _, rfl, q, p, d, vq, vd, P, res, _, rfl, hq, hpq, hB, s8 _ _ hp7, s8 _ _ hd, pmono hpd fun v c z => z.keep s8.tups, hDl, hDE, g, fun H9 s9 => ⟨_, rfl, iteF ?_⟩⟩
    have s79 := s8.trans s9
    have hP9 := hP7.same s79
    have hFo9 := hFo7.keep s79.tups
    have hd9 := s79 _ _ hd
    have hpd9 : Paired (PairAt H9) vd (prod (namesOf P) (edgeB P)) := pmono hpd fun v c z => z.keep s79.tups
    have hp9 := s79 _ _ hp7
    -- cut
    refine ⟨_, rfl, .ref l, P, rfl, hP9, g, fun H10 c vc C s10 hc hpc hF hCl => ?_⟩
    refine ⟨_, rfl, _, rfl, c, d, vc, vd, C, _, rfl, hc, hpc, s10 _ _ hd9, pmono hpd9 fun v c z => z.keep s10.tups, hDl, fun H11 s11 => ⟨_, rfl, ?_⟩⟩
    rw [to_dec _ (Few.listed GG hF (fun x y => ?_) (fun p => ?_)).symm]
    rotate_left
    · exact edgeB_all g x y
    · exact ⟨of_dec _, to_dec _⟩
    refine iteF ?_
    have s9b := s10.trans s11
    have hP11 := hP9.same s9b
    have hFo11 := hFo9.keep s9b.tups
    have hp11 := s9b _ _ hp9
    have hc11 := s11 _ _ hc
    have hpc11 : Paired (PairAt H11) vc C := pmono hpc fun v c z => z.keep s11.tups
    -- left
    refine ⟨_, rfl, _, rfl, .ref l, .ref c, P, C, rfl, hP11, g, ⟨c, vc, rfl, .inr hc11, hpc11⟩, fun H12 lf s12 hL => ?_⟩
    have gL : PGood (withoutM P C) := without_good g
    have hA : Acyc (EP (withoutM P C)) := fun x w => hF.acyc GG x (w.mono fun y z q => without_edge.mp q)
    have hFoL := fold_without (C := C) (hFo11.keep s12.tups)
    have hP12 := hP11.same s12
    have hp12 := s12 _ _ hp11
    have hc12 := s12 _ _ hc11
    have hpc12 : Paired (PairAt H12) vc C := pmono hpc11 fun v c z => z.keep s12.tups
    have hS12 : SqL K H12 a (ns.map V.int) := (((((((s1.trans s2).trans s26).trans s7).trans s79).trans s9b).trans s12)).seqL hS
    have hFo12 := hFo11.keep s12.tups
    -- tangles(left)
    refine ⟨_, rfl, .ref lf, withoutM P C, rfl, hL, gL, fun H13 tg vt s13 htg hpt => ?_⟩
    have hp13 := s13 _ _ hp12
    refine ⟨_, rfl, p, rfl, ⟨_, SqL.of hp13⟩, fun D2 hD2 => lc_list (K := K) (a := p) (xs := txs (namesOf P)) (fun i H4 => ∃ ve, Keep D2 (upd H13 D2 (.lst [])) H4 ∧ H4 D2 = some (.lst ve) ∧ Paired (StrsT H4) ve (((namesOf P).map fun x => [x]).take i))
      ⟨[], Keep.refl _ _, upd_same, .nil⟩ (fun i H4 _ ⟨ve, k4, _, _⟩ => SqL.of (k4.same (Same.new hD2 _) hD2 _ _ hp13)) ?_ ?_⟩
    · rintro i y H4 hi ⟨ve, k4, hD4, hpe⟩
      have hil : i < (namesOf P).length := by have := (List.getElem?_eq_some_iff.mp hi).1; rw [txs_len] at this; exact this
      obtain ⟨nm, hnm⟩ : ∃ b, (namesOf P)[i]? = some b := ⟨_, List.getElem?_eq_getElem hil⟩
      rw [txs_at hnm] at hi
      cases hi
      refine ⟨rfl, ?_⟩
      refine ⟨_, rfl, by show 1 ≤ sizeLine; decide, fun t ht => ?_⟩
      have st := Same.new ht (.tup [.str nm])
      have hvl := plen hpe
      have ntD : t ≠ D2 := (ne_of_none hD4 ht).symm
      have k7 : Keep D2 H4 (upd (upd H4 t (.tup [.str nm])) D2 (.lst (ve ++ [.ref t]))) := (Keep.of st).trans Keep.put
      refine ⟨_, st _ _ hD4, ?_, ve ++ [.ref t], k4.trans k7, upd_same, ?_⟩
      · rw [hvl, List.length_take, List.length_map]
        rw [hPn] at hil ⊢
        exact line_lt (by omega)
      rw [List.take_add_one, List.getElem?_map, hnm]
      have kk := k7.tups hD4
      exact psnoc (pmono hpe fun v c q => q.keep kk) ⟨t, rfl, by rw [upd_ne ntD]; exact upd_same⟩
    rintro H14 ⟨ve, k14, hD14, hpe14⟩
    have s14 : Same H13 H14 := k14.same (Same.new hD2 _) hD2
    rw [txs_len, List.take_of_length_le (by rw [List.length_map]; exact Nat.le_refl _)] at hpe14
    refine ⟨D2, _, rfl, .inl ⟨SqL.of hD14, fun t2 ht2 => ?_⟩⟩
    have st2 := Same.new ht2 (.tup ve)
    have s1214 := (s13.trans s14).trans st2
    have pe15 : Paired (StrsT (upd H14 t2 (.tup ve))) ve ((namesOf P).map fun x => [x]) := pmono hpe14 fun v c q => q.keep st2.tups
    refine ⟨_, _, hd_tup (SqT.of ((s14.trans st2) _ _ htg)) (strss_hds (pmono hpt fun v c q => q.keep (s14.trans st2).tups)), hd_tup (SqT.of upd_same) (strss_hds pe15), _, rfl, ?_⟩
    have et : tangs (namesOf (withoutM P C)) (EP (withoutM P C)) = (namesOf P).map fun x => [x] := by
      rw [tangs_acyc gL.nd hA, without_names]
    rw [et, to_dec _ rfl]
    refine iteF ?_
    generalize upd H14 t2 (.tup ve) = H15 at s1214
    have hL15 := hL.same s1214
    have hFo15 := hFoL.keep s1214.tups
    -- broken(left)
    refine ⟨_, rfl, _, rfl, _, rfl, .ref lf, .ref fo, .ref ru, withoutM P C, _, rfl, hL15, gL, hFo15, fun H16 q2 vq2 res2 s16 hq2 hpq2 hB2 => ?_⟩
    have er := broken_nil hB2 hA
    subst er
    refine ⟨by show 0 ≤ sizeLine; decide, fun t3 ht3 => ?_⟩
    have st3 := Same.new ht3 (.tup [])
    refine ⟨datB [], Tup.mk [], brs_hd (st3 _ _ hq2) (pmono hpq2 fun v c q => q.keep st3.tups), nil_hd upd_same, _, rfl, ?_⟩
    rw [to_dec _ (show datB [] = Tup.mk [] from rfl)]
    refine iteF ?_
    have s1517 := s16.trans st3
    generalize upd H16 t3 (.tup []) = H17 at s1517
    have hL17 := hL15.same s1517
    -- fewest(left)
    refine ⟨_, rfl, .ref lf, withoutM P C, rfl, hL17, gL, fun H18 c2 vc2 C2 s18 hc2 hpc2 hF2 hl2 => ?_⟩
    have e2 := hF2.nil gL.graph hA
    subst e2
    refine ⟨by show 0 ≤ sizeLine; decide, fun t4 ht4 => ?_⟩
    have st4 := Same.new ht4 (.tup [])
    refine ⟨Tup.mk [], Tup.mk [], hd_tup (SqT.of (st4 _ _ hc2)) (pairs_hds (pmono hpc2 fun v c q => q.keep st4.tups)), nil_hd upd_same, _, rfl, ?_⟩
    rw [to_dec _ rfl]
    refine iteF ?_
    have s1719 := s18.trans st4
    generalize upd H18 t4 (.tup []) = H19 at s1719
    have s1219 := (s1214.trans s1517).trans s1719
    have hP19 := hP12.same s1219
    have hc19 := s1219 _ _ hc12
    have hpc19 : Paired (PairAt H19) vc C := pmono hpc12 fun v c z => z.keep s1219.tups
    have hS19 := s1219.seqL hS12
    have hFo19 := hFo12.keep s1219.tups
    have hvc := plen hpc19
    -- at
    refine ⟨_, rfl, a, ns, 1, rfl, hS19, ns.getD 1 0, 3, 65519, rfl, by decide, by decide, fun m2 hm2 => ?_⟩
    refine ⟨_, rfl, c, _, rfl, .inr (SqT.of hc19), 1, _, rfl, _, _, rfl, rfl, ?_, ?_⟩
    · show (0 : Int) < if (vc.length : Int) > 1 then (vc.length : Int) else 1
      split <;> omega
    -- the loop
    refine ⟨_, rfl, _, rfl, _, rfl, _, rfl, _, _, rfl, rfl, _, rfl, sla_intro hc19 hpc19 _ _ fun b Hx ws Cs sx hb hpw hsub => ?_⟩
    have hPx := hP19.same sx
    have hcx := sx _ _ hc19
    have hpcx : Paired (PairAt Hx) vc C := pmono hpc19 fun v c z => z.keep sx.tups
    have hFox := hFo19.keep sx.tups
    refine ⟨b, rfl, ⟨_, SqT.of hb⟩, for_tup (K := K) (a := b) (xs := ws) (fun i σ H' => ∃ (c9 c10 c11 : Option V), σ = [some (.ref a), some (.int (m : Int)), some (.ref p), some (.ref l), some (.ref fo), some (.ref ru), some (.ref d), some (.ref c), some (.ref lf), c9, c10, c11, none, none, none] ∧ Same Hx H')
      ⟨_, _, _, rfl, fun _ _ h => h⟩ (fun i σ H' _ ⟨_, _, _, _, z⟩ => SqT.of (z _ _ hb)) ?_ ?_⟩
    · rintro i y σ H' hi ⟨c9, c10, c11, rfl, sH⟩
      obtain ⟨⟨u, v⟩, hci, hya⟩ := pget' hpw hi
      have huv : (u, v) ∈ C := hsub _ (List.mem_of_getElem? hci)
      have hya' := hya.keep sH.tups
      have hcH := sH _ _ hcx
      have hpcH : Paired (PairAt H') vc C := pmono hpcx fun v c z => z.keep sH.tups
      refine ⟨_, rfl, _, rfl, c, rfl, ⟨_, SqT.of hcH⟩, fun E3 hE3 => lc_tup (K := K) (a := c) (xs := vc) (fun j H4 => ∃ ve, H4 = upd H' E3 (.lst ve) ∧ Paired (PairAt H') ve ((C.take j).filter fun q => !decide (q = (u, v))))
        ⟨[], rfl, .nil⟩ (fun j H4 _ ⟨ve, e, _⟩ => by rw [e]; exact SqT.of ((Same.new hE3 _) _ _ hcH)) ?_ ?_⟩
      · rintro j y4 H4 hj ⟨ve, rfl, hpe⟩
        obtain ⟨q, hqj, hqa⟩ := pget' hpcH hj
        have sE : Same H' (upd H' E3 (.lst ve)) := Same.new hE3 _
        have hve := plen hpe
        refine ⟨rfl, _, rfl, _, rfl, q, (u, v), pair_hd (hqa.keep sE.tups), pair_hd (hya'.keep sE.tups), _, rfl, ?_⟩
        have hfl : (C.take (j + 1)).filter (fun q => !decide (q = (u, v))) = if (!decide (q = (u, v))) = true then (C.take j).filter (fun q => !decide (q = (u, v))) ++ [q] else (C.take j).filter (fun q => !decide (q = (u, v))) := by
          rw [List.take_add_one, hqj, List.filter_append]
          by_cases z : (!decide (q = (u, v))) = true
          · rw [if_pos z, show (some q).toList = [q] from rfl, List.filter_cons_of_pos (by simpa using z)]; rfl
          · rw [if_neg z, show (some q).toList = [q] from rfl, List.filter_cons_of_neg (by simpa using z)]; simp
        have ed : ∀ i1 i2 : Decidable (q = (u, v)), (!@decide _ i1) = (!@decide _ i2) := fun i1 i2 => by rw [dec_dec i1 i2]
        refine ite2 (fun z => ?_) (fun z => ?_)
        · rw [if_pos ((ed _ _).trans z)] at hfl
          have hvel : ve.length ≤ 64 := by
            rw [hve]
            have h1 := List.length_filter_le (fun q => !decide (q = (u, v))) (C.take j)
            have h2 : (C.take j).length ≤ C.length := List.length_take_le' ..
            omega
          exact ⟨_, rfl, _, upd_same, line_lt (by omega), ve ++ [y4], upd_upd, by rw [hfl]; exact psnoc hpe hqa⟩
        · rw [if_neg (fun z' => z ((ed _ _).trans z'))] at hfl
          exact ⟨ve, rfl, by rw [hfl]; exact hpe⟩
      rintro H4 ⟨ve, rfl, hpe⟩
      rw [plen hpcH, List.take_length] at hpe
      have sE : Same H' (upd H' E3 (.lst ve)) := Same.new hE3 _
      have sxE := sH.trans sE
      generalize hC' : (C.filter fun q => !decide (q = (u, v))) = C' at hpe
      have hmC' : ∀ x y, (x, y) ∉ C' ↔ (x, y) ∉ C ∨ (x, y) = (u, v) := fun x y => by
        rw [← hC', List.mem_filter]
        by_cases e : (x, y) = (u, v)
        · simp [e]
        · simp [e]
      have hEdge : ∀ x y, EP (withoutM P C') x y ↔ EP P x y ∧ ((x, y) ∉ C ∨ (x, y) = (u, v)) := fun x y => by rw [without_edge, hmC']
      refine ⟨.ref l, .ref E3, P, C', rfl, hPx.same sxE, g, ⟨E3, ve, rfl, .inl upd_same, pmono hpe fun v c z => z.keep sE.tups⟩, fun H5 mo s5 hM => ?_⟩
      have gM : PGood (withoutM P C') := without_good g
      have sx5 := sxE.trans s5
      have hna : ¬ Acyc (EP (withoutM P C')) := fun z => hF.ring GG huv fun x w => z x (w.mono fun y t q => (hEdge y t).mpr q)
      -- broken(more)
      refine ⟨_, rfl, _, rfl, _, rfl, .ref mo, .ref fo, .ref ru, withoutM P C', _, rfl, hM, gM, fold_without (hFox.keep sx5.tups), fun H6 q3 vq3 res3 s6 hq3 hpq3 hB3 => ?_⟩
      have hrs := broken_some gM hB3 hna
      refine ⟨by show 0 ≤ sizeLine; decide, fun t5 ht5 => ?_⟩
      have st5 := Same.new ht5 (.tup [])
      refine ⟨datB res3, Tup.mk [], brs_hd (st5 _ _ hq3) (pmono hpq3 fun v c q => q.keep st5.tups), nil_hd upd_same, _, rfl, ?_⟩
      refine ite2 (fun z => ?_) (fun _ => ?_)
      · exfalso
        have z1 := of_dec _ z
        have z2 : res3.map (fun c => ((c.1 : Int), Tup.mk c.2)) = [] := congrArg Tup.items z1
        exact hrs (List.map_eq_nil_iff.mp z2)
      -- fewest(more)
      refine ⟨_, rfl, .ref mo, withoutM P C', rfl, (hM.same s6).same st5, gM, fun H8 c3 vc3 C3 s8 hc3 hpc3 hF3 hl3 => ?_⟩
      have h1 : C3.length = 1 := by
        rw [without_names] at hF3
        exact few_one GG hF huv hEdge hF3
      have hv3 : vc3.length = 1 := (plen hpc3).trans h1
      refine ⟨c3, _, rfl, .inr (SqT.of hc3), rfl, _, rfl, ?_⟩
      refine ite2 (fun z => ?_) (fun _ => ?_)
      · exfalso
        rw [hv3] at z
        simp at z
      exact ⟨_, _, _, rfl, ((sx5.trans s6).trans st5).trans s8⟩
    · rintro σ H' ⟨_, _, _, rfl, _⟩
      exact hQ H'
  obtain ⟨t, ht, hall⟩ := rest
  refine ⟨_, pss_cons (ps_set (i := 1) sc_law.nd rfl (Or.inl rfl) (pe_op op_add pe_int (pe_op op_mod (pe_call c_law_cell_at.ok (hr.mono (by decide)) rfl c_law_cell_at.mgx c_law_cell_at.kp c_law_cell_at.b .nil pass0 (pa_cons (pv 0) (pa_cons pe_int pa_nil))) pe_int))) (pss_cons (ps_if (pt_cmpR op_eq (pe_op op_mod (pe_op op_fdiv (pe_call c_law_cell_at.ok (hr.mono (by decide)) rfl c_law_cell_at.mgx c_law_cell_at.kp c_law_cell_at.b .nil pass0 (pa_cons (pv 0) (pa_cons pe_int pa_nil))) pe_int) pe_int) pe_int (nomark _)) (pss_one (ps_set (i := 1) sc_law.nd rfl (Or.inl rfl) (pe_op op_add pe_int (pe_op op_mod (pe_op op_fdiv (pe_call c_law_cell_at.ok (hr.mono (by decide)) rfl c_law_cell_at.mgx c_law_cell_at.kp c_law_cell_at.b .nil pass0 (pa_cons (pv 0) (pa_cons pe_int pa_nil))) pe_int) pe_int)))) pss_nil) ht), ?_⟩
  refine ⟨_, rfl, a, ns, 1, rfl, hS, _, _, rfl, rfl, (show (0 : Int) < 6 by decide), _, _, rfl, rfl, ?_⟩
  refine ⟨_, rfl, a, ns, 1, rfl, hS, _, _, rfl, rfl, ⟨by decide, by decide⟩, _, _, rfl, rfl, (show (0 : Int) < 8 by decide), rfl, _, rfl, ?_⟩
  refine ite2 (fun _ => ?_) (fun _ => ?_)
  · refine ⟨_, rfl, a, ns, 1, rfl, hS, _, _, rfl, rfl, ⟨by decide, by decide⟩, _, _, rfl, rfl, (show (0 : Int) < 2 by decide), _, _, rfl, rfl, ?_⟩
    have h := hall (7 + ns.getD 1 0 / 48 % 2).toNat (by omega) (by omega)
    rw [show (((7 + ns.getD 1 0 / 48 % 2).toNat : Nat) : Int) = 7 + ns.getD 1 0 / 48 % 2 by omega] at h
    exact h
  · have h := hall (1 + ns.getD 1 0 % 6).toNat (by omega) (by omega)
    rw [show (((1 + ns.getD 1 0 % 6).toNat : Nat) : Int) = 1 + ns.getD 1 0 % 6 by omega] at h
    exact h
end
end Bh
namespace Bh
open PySem L2 BhX
/-! ### the program's top -/
theorem all_mk {l : PySem.W.OpenLaw} {w : World} {K : PySem.W.Frag} {h : Heap} {mg : Str → Option Value} {fa f1 f2 f3 f4 f5 f6 f7 f8 f9 f10 f11 f12 f13 f14 f15 f16 f17 f18 f19 f20 f21 f22 f23 f24 f25 f26 : Addr} (X : K.In h) (G : h.Ns mainGlobals mg) (hfa : mg "law" = some (.ref fa))
    {od1 an1 od2 an2 od3 an3 od4 an4 od5 an5 od6 an6 od7 an7 od8 an8 od9 an9 od10 an10 od11 an11 od12 an12 od13 an13 od14 an14 od15 an15 od16 an16 od17 an17 od18 an18 od19 an19 od20 an20 od21 an21 od22 an22 od23 an23 od24 an24 od25 an25 od26 an26 : Option Addr} {sl1 sl2 sl3 sl4 sl5 sl6 sl7 sl8 sl9 sl10 sl11 sl12 sl13 sl14 sl15 sl16 sl17 sl18 sl19 sl20 sl21 sl22 sl23 sl24 sl25 sl26 : Array (Option Value)} {oc1 kV1 dc1 pm1 cd1 ct1 oc2 kV2 dc2 pm2 cd2 ct2 oc3 kV3 dc3 pm3 cd3 ct3 oc4 kV4 dc4 pm4 cd4 ct4 oc5 kV5 dc5 pm5 cd5 ct5 oc6 kV6 dc6 pm6 cd6 ct6 oc7 kV7 dc7 pm7 cd7 ct7 oc8 kV8 dc8 pm8 cd8 ct8 oc9 kV9 dc9 pm9 cd9 ct9 oc10 kV10 dc10 pm10 cd10 ct10 oc11 kV11 dc11 pm11 cd11 ct11 oc12 kV12 dc12 pm12 cd12 ct12 oc13 kV13 dc13 pm13 cd13 ct13 oc14 kV14 dc14 pm14 cd14 ct14 oc15 kV15 dc15 pm15 cd15 ct15 oc16 kV16 dc16 pm16 cd16 ct16 oc17 kV17 dc17 pm17 cd17 ct17 oc18 kV18 dc18 pm18 cd18 ct18 oc19 kV19 dc19 pm19 cd19 ct19 oc20 kV20 dc20 pm20 cd20 ct20 oc21 kV21 dc21 pm21 cd21 ct21 oc22 kV22 dc22 pm22 cd22 ct22 oc23 kV23 dc23 pm23 cd23 ct23 oc24 kV24 dc24 pm24 cd24 ct24 oc25 kV25 dc25 pm25 cd25 ct25 oc26 kV26 dc26 pm26 cd26 ct26 : Value}
    (a1 : PySem.W.nsIn K mainGlobals "bits_of" = some (some (.ref f1))) (l1 : K.lookup f1 = some ⟨oc1, od1, .func (PySem.W.fnOf "bits_of" "bits_of" (defArgs s_bits_of) (defBody s_bits_of) (defScope s_bits_of) .none kV1 dc1 pm1 an1 cd1 ct1), sl1⟩) (c1 : PySem.W.codeIn K cd1 "bits_of" = true) (k1 : PySem.W.keepIn K (.ref f1) = true)
    (a2 : PySem.W.nsIn K mainGlobals "numbers_of" = some (some (.ref f2))) (l2 : K.lookup f2 = some ⟨oc2, od2, .func (PySem.W.fnOf "numbers_of" "numbers_of" (defArgs s_numbers_of) (defBody s_numbers_of) (defScope s_numbers_of) .none kV2 dc2 pm2 an2 cd2 ct2), sl2⟩) (c2 : PySem.W.codeIn K cd2 "numbers_of" = true) (k2 : PySem.W.keepIn K (.ref f2) = true)
    (a3 : PySem.W.nsIn K mainGlobals "rows_of" = some (some (.ref f3))) (l3 : K.lookup f3 = some ⟨oc3, od3, .func (PySem.W.fnOf "rows_of" "rows_of" (defArgs s_rows_of) (defBody s_rows_of) (defScope s_rows_of) .none kV3 dc3 pm3 an3 cd3 ct3), sl3⟩) (c3 : PySem.W.codeIn K cd3 "rows_of" = true) (k3 : PySem.W.keepIn K (.ref f3) = true)
    (a4 : PySem.W.nsIn K mainGlobals "called" = some (some (.ref f4))) (l4 : K.lookup f4 = some ⟨oc4, od4, .func (PySem.W.fnOf "called" "called" (defArgs s_called) (defBody s_called) (defScope s_called) .none kV4 dc4 pm4 an4 cd4 ct4), sl4⟩) (c4 : PySem.W.codeIn K cd4 "called" = true) (k4 : PySem.W.keepIn K (.ref f4) = true)
    (a5 : PySem.W.nsIn K mainGlobals "brings" = some (some (.ref f5))) (l5 : K.lookup f5 = some ⟨oc5, od5, .func (PySem.W.fnOf "brings" "brings" (defArgs s_brings) (defBody s_brings) (defScope s_brings) .none kV5 dc5 pm5 an5 cd5 ct5), sl5⟩) (c5 : PySem.W.codeIn K cd5 "brings" = true) (k5 : PySem.W.keepIn K (.ref f5) = true)
    (a6 : PySem.W.nsIn K mainGlobals "begin" = some (some (.ref f6))) (l6 : K.lookup f6 = some ⟨oc6, od6, .func (PySem.W.fnOf "begin" "begin" (defArgs s_begin) (defBody s_begin) (defScope s_begin) .none kV6 dc6 pm6 an6 cd6 ct6), sl6⟩) (c6 : PySem.W.codeIn K cd6 "begin" = true) (k6 : PySem.W.keepIn K (.ref f6) = true)
    (a7 : PySem.W.nsIn K mainGlobals "order" = some (some (.ref f7))) (l7 : K.lookup f7 = some ⟨oc7, od7, .func (PySem.W.fnOf "order" "order" (defArgs s_order) (defBody s_order) (defScope s_order) .none kV7 dc7 pm7 an7 cd7 ct7), sl7⟩) (c7 : PySem.W.codeIn K cd7 "order" = true) (k7 : PySem.W.keepIn K (.ref f7) = true)
    (a8 : PySem.W.nsIn K mainGlobals "onward" = some (some (.ref f8))) (l8 : K.lookup f8 = some ⟨oc8, od8, .func (PySem.W.fnOf "onward" "onward" (defArgs s_onward) (defBody s_onward) (defScope s_onward) .none kV8 dc8 pm8 an8 cd8 ct8), sl8⟩) (c8 : PySem.W.codeIn K cd8 "onward" = true) (k8 : PySem.W.keepIn K (.ref f8) = true)
    (a9 : PySem.W.nsIn K mainGlobals "last_part" = some (some (.ref f9))) (l9 : K.lookup f9 = some ⟨oc9, od9, .func (PySem.W.fnOf "last_part" "last_part" (defArgs s_last_part) (defBody s_last_part) (defScope s_last_part) .none kV9 dc9 pm9 an9 cd9 ct9), sl9⟩) (c9 : PySem.W.codeIn K cd9 "last_part" = true) (k9 : PySem.W.keepIn K (.ref f9) = true)
    (a10 : PySem.W.nsIn K mainGlobals "last_parts" = some (some (.ref f10))) (l10 : K.lookup f10 = some ⟨oc10, od10, .func (PySem.W.fnOf "last_parts" "last_parts" (defArgs s_last_parts) (defBody s_last_parts) (defScope s_last_parts) .none kV10 dc10 pm10 an10 cd10 ct10), sl10⟩) (c10 : PySem.W.codeIn K cd10 "last_parts" = true) (k10 : PySem.W.keepIn K (.ref f10) = true)
    (a11 : PySem.W.nsIn K mainGlobals "tangle_cut" = some (some (.ref f11))) (l11 : K.lookup f11 = some ⟨oc11, od11, .func (PySem.W.fnOf "tangle_cut" "tangle_cut" (defArgs s_tangle_cut) (defBody s_tangle_cut) (defScope s_tangle_cut) .none kV11 dc11 pm11 an11 cd11 ct11), sl11⟩) (c11 : PySem.W.codeIn K cd11 "tangle_cut" = true) (k11 : PySem.W.keepIn K (.ref f11) = true)
    (a12 : PySem.W.nsIn K mainGlobals "tangles" = some (some (.ref f12))) (l12 : K.lookup f12 = some ⟨oc12, od12, .func (PySem.W.fnOf "tangles" "tangles" (defArgs s_tangles) (defBody s_tangles) (defScope s_tangles) .none kV12 dc12 pm12 an12 cd12 ct12), sl12⟩) (c12 : PySem.W.codeIn K cd12 "tangles" = true) (k12 : PySem.W.keepIn K (.ref f12) = true)
    (a13 : PySem.W.nsIn K mainGlobals "fewest" = some (some (.ref f13))) (l13 : K.lookup f13 = some ⟨oc13, od13, .func (PySem.W.fnOf "fewest" "fewest" (defArgs s_fewest) (defBody s_fewest) (defScope s_fewest) .none kV13 dc13 pm13 an13 cd13 ct13), sl13⟩) (c13 : PySem.W.codeIn K cd13 "fewest" = true) (k13 : PySem.W.keepIn K (.ref f13) = true)
    (a14 : PySem.W.nsIn K mainGlobals "shortest" = some (some (.ref f14))) (l14 : K.lookup f14 = some ⟨oc14, od14, .func (PySem.W.fnOf "shortest" "shortest" (defArgs s_shortest) (defBody s_shortest) (defScope s_shortest) .none kV14 dc14 pm14 an14 cd14 ct14), sl14⟩) (c14 : PySem.W.codeIn K cd14 "shortest" = true) (k14 : PySem.W.keepIn K (.ref f14) = true)
    (a15 : PySem.W.nsIn K mainGlobals "broken" = some (some (.ref f15))) (l15 : K.lookup f15 = some ⟨oc15, od15, .func (PySem.W.fnOf "broken" "broken" (defArgs s_broken) (defBody s_broken) (defScope s_broken) .none kV15 dc15 pm15 an15 cd15 ct15), sl15⟩) (c15 : PySem.W.codeIn K cd15 "broken" = true) (k15 : PySem.W.keepIn K (.ref f15) = true)
    (a16 : PySem.W.nsIn K mainGlobals "_law_cell_at" = some (some (.ref f16))) (l16 : K.lookup f16 = some ⟨oc16, od16, .func (PySem.W.fnOf "_law_cell_at" "_law_cell_at" (defArgs s_law_cell_at) (defBody s_law_cell_at) (defScope s_law_cell_at) .none kV16 dc16 pm16 an16 cd16 ct16), sl16⟩) (c16 : PySem.W.codeIn K cd16 "_law_cell_at" = true) (k16 : PySem.W.keepIn K (.ref f16) = true)
    (a17 : PySem.W.nsIn K mainGlobals "_law_mixed" = some (some (.ref f17))) (l17 : K.lookup f17 = some ⟨oc17, od17, .func (PySem.W.fnOf "_law_mixed" "_law_mixed" (defArgs s_law_mixed) (defBody s_law_mixed) (defScope s_law_mixed) .none kV17 dc17 pm17 an17 cd17 ct17), sl17⟩) (c17 : PySem.W.codeIn K cd17 "_law_mixed" = true) (k17 : PySem.W.keepIn K (.ref f17) = true)
    (a18 : PySem.W.nsIn K mainGlobals "_law_other" = some (some (.ref f18))) (l18 : K.lookup f18 = some ⟨oc18, od18, .func (PySem.W.fnOf "_law_other" "_law_other" (defArgs s_law_other) (defBody s_law_other) (defScope s_law_other) .none kV18 dc18 pm18 an18 cd18 ct18), sl18⟩) (c18 : PySem.W.codeIn K cd18 "_law_other" = true) (k18 : PySem.W.keepIn K (.ref f18) = true)
    (a19 : PySem.W.nsIn K mainGlobals "_law_names" = some (some (.ref f19))) (l19 : K.lookup f19 = some ⟨oc19, od19, .func (PySem.W.fnOf "_law_names" "_law_names" (defArgs s_law_names) (defBody s_law_names) (defScope s_law_names) .none kV19 dc19 pm19 an19 cd19 ct19), sl19⟩) (c19 : PySem.W.codeIn K cd19 "_law_names" = true) (k19 : PySem.W.keepIn K (.ref f19) = true)
    (a20 : PySem.W.nsIn K mainGlobals "_law_pairs_of" = some (some (.ref f20))) (l20 : K.lookup f20 = some ⟨oc20, od20, .func (PySem.W.fnOf "_law_pairs_of" "_law_pairs_of" (defArgs s_law_pairs_of) (defBody s_law_pairs_of) (defScope s_law_pairs_of) .none kV20 dc20 pm20 an20 cd20 ct20), sl20⟩) (c20 : PySem.W.codeIn K cd20 "_law_pairs_of" = true) (k20 : PySem.W.keepIn K (.ref f20) = true)
    (a21 : PySem.W.nsIn K mainGlobals "_law_is_cut" = some (some (.ref f21))) (l21 : K.lookup f21 = some ⟨oc21, od21, .func (PySem.W.fnOf "_law_is_cut" "_law_is_cut" (defArgs s_law_is_cut) (defBody s_law_is_cut) (defScope s_law_is_cut) .none kV21 dc21 pm21 an21 cd21 ct21), sl21⟩) (c21 : PySem.W.codeIn K cd21 "_law_is_cut" = true) (k21 : PySem.W.keepIn K (.ref f21) = true)
    (a22 : PySem.W.nsIn K mainGlobals "_law_without" = some (some (.ref f22))) (l22 : K.lookup f22 = some ⟨oc22, od22, .func (PySem.W.fnOf "_law_without" "_law_without" (defArgs s_law_without) (defBody s_law_without) (defScope s_law_without) .none kV22 dc22 pm22 an22 cd22 ct22), sl22⟩) (c22 : PySem.W.codeIn K cd22 "_law_without" = true) (k22 : PySem.W.keepIn K (.ref f22) = true)
    (a23 : PySem.W.nsIn K mainGlobals "_law_round" = some (some (.ref f23))) (l23 : K.lookup f23 = some ⟨oc23, od23, .func (PySem.W.fnOf "_law_round" "_law_round" (defArgs s_law_round) (defBody s_law_round) (defScope s_law_round) .none kV23 dc23 pm23 an23 cd23 ct23), sl23⟩) (c23 : PySem.W.codeIn K cd23 "_law_round" = true) (k23 : PySem.W.keepIn K (.ref f23) = true)
    (a24 : PySem.W.nsIn K mainGlobals "_law_plain" = some (some (.ref f24))) (l24 : K.lookup f24 = some ⟨oc24, od24, .func (PySem.W.fnOf "_law_plain" "_law_plain" (defArgs s_law_plain) (defBody s_law_plain) (defScope s_law_plain) .none kV24 dc24 pm24 an24 cd24 ct24), sl24⟩) (c24 : PySem.W.codeIn K cd24 "_law_plain" = true) (k24 : PySem.W.keepIn K (.ref f24) = true)
    (a25 : PySem.W.nsIn K mainGlobals "_law_rounds" = some (some (.ref f25))) (l25 : K.lookup f25 = some ⟨oc25, od25, .func (PySem.W.fnOf "_law_rounds" "_law_rounds" (defArgs s_law_rounds) (defBody s_law_rounds) (defScope s_law_rounds) .none kV25 dc25 pm25 an25 cd25 ct25), sl25⟩) (c25 : PySem.W.codeIn K cd25 "_law_rounds" = true) (k25 : PySem.W.keepIn K (.ref f25) = true)
    (a26 : PySem.W.nsIn K mainGlobals "law" = some (some (.ref f26))) (l26 : K.lookup f26 = some ⟨oc26, od26, .func (PySem.W.fnOf "law" "law" (defArgs s_law) (defBody s_law) (defScope s_law) .none kV26 dc26 pm26 an26 cd26 ct26), sl26⟩) (c26 : PySem.W.codeIn K cd26 "law" = true) (k26 : PySem.W.keepIn K (.ref f26) = true)
    (z1 : PySem.W.nsIn K mainGlobals "tuple" = some none)
    (z2 : PySem.W.nsIn K mainGlobals "len" = some none)
    (z3 : PySem.W.nsIn K mainGlobals "range" = some none)
    (z4 : PySem.W.nsIn K mainGlobals "divmod" = some none)
    (z5 : PySem.W.nsIn K mainGlobals "str" = some none)
    (z6 : PySem.W.nsIn K mainGlobals "max" = some none)
    (z7 : PySem.W.nsIn K mainGlobals "min" = some none)
    (z8 : PySem.W.nsIn K mainGlobals "list" = some none)
    (z9 : PySem.W.nsIn K mainGlobals "isinstance" = some none)
    (z10 : PySem.W.nsIn K mainGlobals "enumerate" = some none)
    (z11 : PySem.W.nsIn K mainGlobals "zip" = some none)
    {tm : Tok} (zm : PySem.W.nsIn K mainGlobals "MOST" = some (some (.int 8 tm))) :
    ∃ fd : FuncData, (∀ (s : Shared) (v : Value), BindsTo s fd ⟨[v], []⟩ [("_law_script", v)]) ∧ ∀ base : Heap, K.In base → base.Ns mainGlobals mg → FnOk l.prog w K mg base CX0 17 fa fd ["_law_script"] (spLaw K) := by
  have e := hfa.symm.trans (PySem.W.mg_of X G a26)
  cases e
  have F1 := fun_mk (st := s_bits_of) l1 c1 k1
  have b1 := F1.binds (ps := p_bits_of) fun _ _ _ _ _ _ us hl => match us, hl with | [_], _ => rfl
  have F2 := fun_mk (st := s_numbers_of) l2 c2 k2
  have b2 := F2.binds (ps := p_numbers_of) fun _ _ _ _ _ _ us hl => match us, hl with | [_, _], _ => rfl
  have F3 := fun_mk (st := s_rows_of) l3 c3 k3
  have b3 := F3.binds (ps := p_rows_of) fun _ _ _ _ _ _ us hl => match us, hl with | [_, _], _ => rfl
  have F4 := fun_mk (st := s_called) l4 c4 k4
  have b4 := F4.binds (ps := p_called) fun _ _ _ _ _ _ us hl => match us, hl with | [_, _, _], _ => rfl
  have F5 := fun_mk (st := s_brings) l5 c5 k5
  have b5 := F5.binds (ps := p_brings) fun _ _ _ _ _ _ us hl => match us, hl with | [_, _], _ => rfl
  have F6 := fun_mk (st := s_begin) l6 c6 k6
  have b6 := F6.binds (ps := p_begin) fun _ _ _ _ _ _ us hl => match us, hl with | [_, _, _], _ => rfl
  have F7 := fun_mk (st := s_order) l7 c7 k7
  have b7 := F7.binds (ps := p_order) fun _ _ _ _ _ _ us hl => match us, hl with | [_, _], _ => rfl
  have F8 := fun_mk (st := s_onward) l8 c8 k8
  have b8 := F8.binds (ps := p_onward) fun _ _ _ _ _ _ us hl => match us, hl with | [_, _], _ => rfl
  have F9 := fun_mk (st := s_last_part) l9 c9 k9
  have b9 := F9.binds (ps := p_last_part) fun _ _ _ _ _ _ us hl => match us, hl with | [_, _, _], _ => rfl
  have F10 := fun_mk (st := s_last_parts) l10 c10 k10
  have b10 := F10.binds (ps := p_last_parts) fun _ _ _ _ _ _ us hl => match us, hl with | [_, _], _ => rfl
  have F11 := fun_mk (st := s_tangle_cut) l11 c11 k11
  have b11 := F11.binds (ps := p_tangle_cut) fun _ _ _ _ _ _ us hl => match us, hl with | [_, _], _ => rfl
  have F12 := fun_mk (st := s_tangles) l12 c12 k12
  have b12 := F12.binds (ps := p_tangles) fun _ _ _ _ _ _ us hl => match us, hl with | [_], _ => rfl
  have F13 := fun_mk (st := s_fewest) l13 c13 k13
  have b13 := F13.binds (ps := p_fewest) fun _ _ _ _ _ _ us hl => match us, hl with | [_], _ => rfl
  have F14 := fun_mk (st := s_shortest) l14 c14 k14
  have b14 := F14.binds (ps := p_shortest) fun _ _ _ _ _ _ us hl => match us, hl with | [_, _, _], _ => rfl
  have F15 := fun_mk (st := s_broken) l15 c15 k15
  have b15 := F15.binds (ps := p_broken) fun _ _ _ _ _ _ us hl => match us, hl with | [_, _, _], _ => rfl
  have F16 := fun_mk (st := s_law_cell_at) l16 c16 k16
  have b16 := F16.binds (ps := p_law_cell_at) fun _ _ _ _ _ _ us hl => match us, hl with | [_, _], _ => rfl
  have F17 := fun_mk (st := s_law_mixed) l17 c17 k17
  have b17 := F17.binds (ps := p_law_mixed) fun _ _ _ _ _ _ us hl => match us, hl with | [_, _, _], _ => rfl
  have F18 := fun_mk (st := s_law_other) l18 c18 k18
  have b18 := F18.binds (ps := p_law_other) fun _ _ _ _ _ _ us hl => match us, hl with | [_, _, _, _], _ => rfl
  have F19 := fun_mk (st := s_law_names) l19 c19 k19
  have b19 := F19.binds (ps := p_law_names) fun _ _ _ _ _ _ us hl => match us, hl with | [_, _], _ => rfl
  have F20 := fun_mk (st := s_law_pairs_of) l20 c20 k20
  have b20 := F20.binds (ps := p_law_pairs_of) fun _ _ _ _ _ _ us hl => match us, hl with | [_], _ => rfl
  have F21 := fun_mk (st := s_law_is_cut) l21 c21 k21
  have b21 := F21.binds (ps := p_law_is_cut) fun _ _ _ _ _ _ us hl => match us, hl with | [_, _], _ => rfl
  have F22 := fun_mk (st := s_law_without) l22 c22 k22
  have b22 := F22.binds (ps := p_law_without) fun _ _ _ _ _ _ us hl => match us, hl with | [_, _], _ => rfl
  have F23 := fun_mk (st := s_law_round) l23 c23 k23
  have b23 := F23.binds (ps := p_law_round) fun _ _ _ _ _ _ us hl => match us, hl with | [_, _], _ => rfl
  have F24 := fun_mk (st := s_law_plain) l24 c24 k24
  have b24 := F24.binds (ps := p_law_plain) fun _ _ _ _ _ _ us hl => match us, hl with | [_, _, _], _ => rfl
  have F25 := fun_mk (st := s_law_rounds) l25 c25 k25
  have b25 := F25.binds (ps := p_law_rounds) fun _ _ _ _ _ _ us hl => match us, hl with | [_, _, _], _ => rfl
  have F26 := fun_mk (st := s_law) l26 c26 k26
  have b26 := F26.binds (ps := p_law) fun _ _ _ _ _ _ us hl => match us, hl with | [_], _ => rfl
  have B : Bi mg := ⟨PySem.W.mg_none_of X G z1, PySem.W.mg_none_of X G z2, PySem.W.mg_none_of X G z3, PySem.W.mg_none_of X G z4, PySem.W.mg_none_of X G z5, PySem.W.mg_none_of X G z6, PySem.W.mg_none_of X G z7, PySem.W.mg_none_of X G z8, PySem.W.mg_none_of X G z9, PySem.W.mg_none_of X G z10, PySem.W.mg_none_of X G z11, ⟨_, PySem.W.mg_of X G zm⟩⟩
  refine ⟨PySem.W.fnOf "law" "law" (defArgs s_law) (defBody s_law) (defScope s_law) .none kV26 dc26 pm26 an26 cd26 ct26, fun s v => .of_eq rfl, fun base _ _ => ?_⟩
  have h1 : Here l.prog w K mg base "bits_of" 1 f1 _ p_bits_of spBits := ⟨ok_bits_of F1 B , PySem.W.mg_of X G a1, k1, b1⟩
  have h2 : Here l.prog w K mg base "numbers_of" 1 f2 _ p_numbers_of spNumbers := ⟨ok_numbers_of F2 B , PySem.W.mg_of X G a2, k2, b2⟩
  have h3 : Here l.prog w K mg base "rows_of" 1 f3 _ p_rows_of spRows := ⟨ok_rows_of F3 B , PySem.W.mg_of X G a3, k3, b3⟩
  have h4 : Here l.prog w K mg base "called" 2 f4 _ p_called (spBringsBy [.str "bring"]) := ⟨ok_called F4 B h3, PySem.W.mg_of X G a4, k4, b4⟩
  have h5 : Here l.prog w K mg base "brings" 3 f5 _ p_brings (spBringsBy []) := ⟨ok_brings F5 B h4, PySem.W.mg_of X G a5, k5, b5⟩
  have h6 : Here l.prog w K mg base "begin" 13 f6 _ p_begin (spBegin 9) := ⟨begin_all F6 B h5 (PySem.W.mg_of X G a6) b6 9, PySem.W.mg_of X G a6, k6, b6⟩
  have h7 : Here l.prog w K mg base "order" 14 f7 _ p_order spOrder := ⟨ok_order F7 B h6, PySem.W.mg_of X G a7, k7, b7⟩
  have h8 : Here l.prog w K mg base "onward" 4 f8 _ p_onward spOnward := ⟨ok_onward F8 B h5, PySem.W.mg_of X G a8, k8, b8⟩
  have h9 : Here l.prog w K mg base "last_part" 2 f9 _ p_last_part spLast := ⟨ok_last_part F9 B h1, PySem.W.mg_of X G a9, k9, b9⟩
  have h10 : Here l.prog w K mg base "last_parts" 5 f10 _ p_last_parts spLasts := ⟨ok_last_parts F10 B h8 h9, PySem.W.mg_of X G a10, k10, b10⟩
  have h11 : Here l.prog w K mg base "tangle_cut" 6 f11 _ p_tangle_cut spCut := ⟨ok_tangle_cut F11 B h8 h10 h2, PySem.W.mg_of X G a11, k11, b11⟩
  have h12 : Here l.prog w K mg base "tangles" 15 f12 _ p_tangles spTangles := ⟨ok_tangles F12 B h7, PySem.W.mg_of X G a12, k12, b12⟩
  have h13 : Here l.prog w K mg base "fewest" 16 f13 _ p_fewest spFewest := ⟨ok_fewest F13 B h12 h11, PySem.W.mg_of X G a13, k13, b13⟩
  have h14 : Here l.prog w K mg base "shortest" 4 f14 _ p_shortest spShortest := ⟨ok_shortest F14 B h5, PySem.W.mg_of X G a14, k14, b14⟩
  have h15 : Here l.prog w K mg base "broken" 5 f15 _ p_broken spBroken := ⟨ok_broken F15 B h14, PySem.W.mg_of X G a15, k15, b15⟩
  have h16 : Here l.prog w K mg base "_law_cell_at" 1 f16 _ p_law_cell_at (spCell K) := ⟨ok_cell_at F16 B , PySem.W.mg_of X G a16, k16, b16⟩
  have h17 : Here l.prog w K mg base "_law_mixed" 1 f17 _ p_law_mixed spMixed := ⟨ok_mixed F17 B , PySem.W.mg_of X G a17, k17, b17⟩
  have h18 : Here l.prog w K mg base "_law_other" 1 f18 _ p_law_other spOther := ⟨ok_other F18 B , PySem.W.mg_of X G a18, k18, b18⟩
  have h19 : Here l.prog w K mg base "_law_names" 2 f19 _ p_law_names spNames := ⟨ok_names F19 B h17, PySem.W.mg_of X G a19, k19, b19⟩
  have h20 : Here l.prog w K mg base "_law_pairs_of" 1 f20 _ p_law_pairs_of spPairs := ⟨ok_pairs_of F20 B , PySem.W.mg_of X G a20, k20, b20⟩
  have h21 : Here l.prog w K mg base "_law_is_cut" 1 f21 _ p_law_is_cut spIsCut := ⟨ok_is_cut F21 B , PySem.W.mg_of X G a21, k21, b21⟩
  have h22 : Here l.prog w K mg base "_law_without" 1 f22 _ p_law_without spWithout := ⟨ok_without F22 B , PySem.W.mg_of X G a22, k22, b22⟩
  have h23 : Here l.prog w K mg base "_law_round" 1 f23 _ p_law_round spRound := ⟨ok_round F23 B , PySem.W.mg_of X G a23, k23, b23⟩
  have h24 : Here l.prog w K mg base "_law_plain" 2 f24 _ p_law_plain (spPlain K) := ⟨ok_plain F24 B h17 h18, PySem.W.mg_of X G a24, k24, b24⟩
  have h25 : Here l.prog w K mg base "_law_rounds" 2 f25 _ p_law_rounds spRounds := ⟨ok_rounds F25 B h23, PySem.W.mg_of X G a25, k25, b25⟩
  exact ok_law F26 B h12 h13 h15 h16 h17 h19 h24 h20 h21 h22 h25
theorem walk {l : PySem.W.OpenLaw} {q : Program} {loose : List Str} {XP : (Str → Option Value) → Heap → Prop} {YP : World → Heap → Prop} {d : DefRec} {K : Params → PySem.W.Frag} (hn : l.most = some 63) (hdf : d.params.defaults = [])
    (hY : ∀ (w : World) (h : Heap), YP w h → (K w.params).In h)
    (F : ∀ (w : World) (mg : Str → Option Value) (fa : Addr) (h : Heap), (K w.params).In h → h.Ns mainGlobals mg → mg d.name = some (.ref fa) →
      ∃ fd : FuncData, (∀ (s : Shared) (u : Value), BindsTo s fd ⟨[u], []⟩ [("_law_script", u)]) ∧ ∀ base : Heap, (K w.params).In base → base.Ns mainGlobals mg → FnOk l.prog w (K w.params) mg base CX0 17 fa fd ["_law_script"] (spLaw (K w.params))) :
    PySem.W.WalkO q loose XP YP l.row.toRowW d [] (fun f vs => PySem.call f vs) :=
  L2.walk_of (n := 63) (k := 17) (x := "_law_script") (CX := fun _ => CX0) (sp := fun w => spLaw (K w.params)) hn (by decide) hdf ⟨rfl, by decide, by decide⟩ hY F (fun _ _ a ns hl _ hS => ⟨a, ns, rfl, hS, hl, fun _ => rfl⟩) fun _ _ _ _ _ z => z
end Bh
open PySem PySem.W PyProof.Rows
set_option maxRecDepth 100000 in
set_option maxHeartbeats 0 in
theorem PySem.Challenge.cw_bundlehouse_k88_whole_rings_cut_holds : PySem.Challenge.rw_bundlehouse_k88_whole_rings_cut.Holds := by
  w_on; o_law; k_head; (case hw => w_witness2)
  k_fill
  refine Bh.walk (l := PySem.Challenge.rw_bundlehouse_k88_whole_rings_cut) rfl rfl (fun w h Y => PySem.W.kIn_of Y) ?F
  case F =>
    intro w mg fa h KX G hmg
    refine' Bh.all_mk KX G hmg ?a1 ?l1 ?c1 ?k1 ?a2 ?l2 ?c2 ?k2 ?a3 ?l3 ?c3 ?k3 ?a4 ?l4 ?c4 ?k4 ?a5 ?l5 ?c5 ?k5 ?a6 ?l6 ?c6 ?k6 ?a7 ?l7 ?c7 ?k7 ?a8 ?l8 ?c8 ?k8 ?a9 ?l9 ?c9 ?k9 ?a10 ?l10 ?c10 ?k10 ?a11 ?l11 ?c11 ?k11 ?a12 ?l12 ?c12 ?k12 ?a13 ?l13 ?c13 ?k13 ?a14 ?l14 ?c14 ?k14 ?a15 ?l15 ?c15 ?k15 ?a16 ?l16 ?c16 ?k16 ?a17 ?l17 ?c17 ?k17 ?a18 ?l18 ?c18 ?k18 ?a19 ?l19 ?c19 ?k19 ?a20 ?l20 ?c20 ?k20 ?a21 ?l21 ?c21 ?k21 ?a22 ?l22 ?c22 ?k22 ?a23 ?l23 ?c23 ?k23 ?a24 ?l24 ?c24 ?k24 ?a25 ?l25 ?c25 ?k25 ?a26 ?l26 ?c26 ?k26 ?z1 ?z2 ?z3 ?z4 ?z5 ?z6 ?z7 ?z8 ?z9 ?z10 ?z11 ?zm
    (case a1 => k_is); (case l1 => k_is); (case c1 => k_is); (case k1 => k_is)
    (case a2 => k_is); (case l2 => k_is); (case c2 => k_is); (case k2 => k_is)
    (case a3 => k_is); (case l3 => k_is); (case c3 => k_is); (case k3 => k_is)
    (case a4 => k_is); (case l4 => k_is); (case c4 => k_is); (case k4 => k_is)
    (case a5 => k_is); (case l5 => k_is); (case c5 => k_is); (case k5 => k_is)
    (case a6 => k_is); (case l6 => k_is); (case c6 => k_is); (case k6 => k_is)
    (case a7 => k_is); (case l7 => k_is); (case c7 => k_is); (case k7 => k_is)
    (case a8 => k_is); (case l8 => k_is); (case c8 => k_is); (case k8 => k_is)
    (case a9 => k_is); (case l9 => k_is); (case c9 => k_is); (case k9 => k_is)
    (case a10 => k_is); (case l10 => k_is); (case c10 => k_is); (case k10 => k_is)
    (case a11 => k_is); (case l11 => k_is); (case c11 => k_is); (case k11 => k_is)
    (case a12 => k_is); (case l12 => k_is); (case c12 => k_is); (case k12 => k_is)
    (case a13 => k_is); (case l13 => k_is); (case c13 => k_is); (case k13 => k_is)
    (case a14 => k_is); (case l14 => k_is); (case c14 => k_is); (case k14 => k_is)
    (case a15 => k_is); (case l15 => k_is); (case c15 => k_is); (case k15 => k_is)
    (case a16 => k_is); (case l16 => k_is); (case c16 => k_is); (case k16 => k_is)
    (case a17 => k_is); (case l17 => k_is); (case c17 => k_is); (case k17 => k_is)
    (case a18 => k_is); (case l18 => k_is); (case c18 => k_is); (case k18 => k_is)
    (case a19 => k_is); (case l19 => k_is); (case c19 => k_is); (case k19 => k_is)
    (case a20 => k_is); (case l20 => k_is); (case c20 => k_is); (case k20 => k_is)
    (case a21 => k_is); (case l21 => k_is); (case c21 => k_is); (case k21 => k_is)
    (case a22 => k_is); (case l22 => k_is); (case c22 => k_is); (case k22 => k_is)
    (case a23 => k_is); (case l23 => k_is); (case c23 => k_is); (case k23 => k_is)
    (case a24 => k_is); (case l24 => k_is); (case c24 => k_is); (case k24 => k_is)
    (case a25 => k_is); (case l25 => k_is); (case c25 => k_is); (case k25 => k_is)
    (case a26 => k_is); (case l26 => k_is); (case c26 => k_is); (case k26 => k_is)
    (case z1 => k_is); (case z2 => k_is); (case z3 => k_is); (case z4 => k_is); (case z5 => k_is); (case z6 => k_is); (case z7 => k_is); (case z8 => k_is); (case z9 => k_is); (case z10 => k_is); (case z11 => k_is); (case zm => k_is)
