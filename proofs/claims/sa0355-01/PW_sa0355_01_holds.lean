import PyProof.Rows.All
import Wide.All
import OpenK.AllK
import Wide.FinOn
import Lean
import PySem.Challenge.RW_sa0355_01
open PySem PySem.W PyProof PyProof.Rows
set_option Elab.async false

namespace Mine
set_option maxRecDepth 100000 in
set_option maxHeartbeats 8000000 in
open_top hd for PySem.Challenge.rw_sa0355_01

section
/-- the signs of x from i up to j, both 0 or more -/
def sub (x : Str) (i j : Int) : Str := ⟨((x.cps.toList.drop i.toNat).take (j - i).toNat).toArray⟩
def clampZ (p n : Int) : Int := min (max p 0) n
def eitherZ (p n : Int) : Int := if p < 0 then max (n + p) 0 else min p n
def sliceT (x : Str) (p q : Int) : Str := sub x (eitherZ p x.length) (eitherZ q x.length)
def sliceN (x : Str) (p : Int) : Str := sub x (eitherZ p x.length) x.length
def substringT (x : Str) (p q : Int) : Str := sub x (min (clampZ p x.length) (clampZ q x.length)) (max (clampZ p x.length) (clampZ q x.length))
def substrT (x : Str) (p q : Int) : Str := sub x (eitherZ p x.length) (eitherZ p x.length + min (max q 0) (x.length - eitherZ p x.length))
def standsT (x y : Str) (p : Int) : Bool := sub x p (p + y.length) == y
def putT (x : Str) (p q : Int) (y : Str) : Str := sub x 0 p ++ y ++ sub x (p + q) x.length
def whiteZ (p : Int) : Bool := [9, 11, 12, 32, 160, 5760, 6158, 8239, 8287, 12288, 65279].contains p || (decide (8192 ≤ p) && decide (p ≤ 8202))
def lineZ (p : Int) : Bool := [10, 13, 8232, 8233].contains p

def blankAt (x : Str) (i : Nat) : Bool := whiteZ (x.cps.getD i 0 : Nat) || lineZ (x.cps.getD i 0 : Nat)
theorem len_list (x : Str) : x.cps.toList.length = x.length := by simp [Str.length]
theorem sub_of {x : Str} {i j i' j' : Int} (h : (x.cps.toList.drop i.toNat).take (j - i).toNat = (x.cps.toList.drop i'.toNat).take (j' - i').toNat) : sub x i j = sub x i' j' := by
  unfold sub; rw [h]
theorem sub_hi (x : Str) {i j : Int} (hi : 0 ≤ i) (hj : (x.length : Int) ≤ j) : sub x i j = sub x i x.length := by
  refine sub_of ?_
  have := len_list x
  rw [List.take_of_length_le (by rw [List.length_drop]; omega), List.take_of_length_le (by rw [List.length_drop]; omega)]
theorem sub_lo (x : Str) {i j : Int} (h : j ≤ i) : sub x i j = ⟨#[]⟩ := by
  unfold sub
  have : (j - i).toNat = 0 := by omega
  rw [this]; rfl
theorem sub_over (x : Str) {i j : Int} (h : (x.length : Int) ≤ i) : sub x i j = ⟨#[]⟩ := by
  unfold sub
  have := len_list x
  rw [List.drop_eq_nil_of_le (by omega)]; simp
open PySem.Builtin PySem.Builtin.Str in
theorem idx_clip (n : Nat) {i j : Int} (hi : 0 ≤ i) (hj : 0 ≤ j) : strSliceIndices (some i) (some j) 1 n = strSliceIndices (some (min i n)) (some (min j n)) 1 n := by
  have a1 : ¬ i < 0 := by omega
  have a2 : ¬ j < 0 := by omega
  have a3 : ¬ (min i (n : Int)) < 0 := by omega
  have a4 : ¬ (min j (n : Int)) < 0 := by omega
  have e1 : max (0 : Int) (min (min i (n : Int)) (n : Int)) = max 0 (min i n) := by omega
  have e2 : max (0 : Int) (min (min j (n : Int)) (n : Int)) = max 0 (min j n) := by omega
  simp only [strSliceIndices, a1, a2, a3, a4, e1, e2, if_false, show (1 : Int) > 0 by decide, if_true]
open PySem.Builtin PySem.Builtin.Str in
theorem idx_nil (n : Nat) {i j : Int} (hj : 0 ≤ j) (h : j ≤ i) : strSliceIndices (some i) (some j) 1 n = [] := by
  have a1 : ¬ i < 0 := by omega
  have a2 : ¬ j < 0 := by omega
  have a3 : ¬ (max (0 : Int) (min i n) < max 0 (min j n)) := by omega
  simp [strSliceIndices, sliceRange, a1, a2, a3]
open PySem.Builtin PySem.Builtin.Str in
theorem slice_clip (x : Str) {i j : Int} (hi : 0 ≤ i) (hj : 0 ≤ j) : Txt.slice x (some i) (some j) = Txt.slice x (some (min i x.length)) (some (min j x.length)) := by
  unfold Txt.slice
  rw [idx_clip x.length hi hj]
open PySem.Builtin PySem.Builtin.Str in
theorem slice_nil (x : Str) {i j : Int} (hj : 0 ≤ j) (h : j < i) (hl : i ≤ x.length) : Txt.slice x (some i) (some j) = ⟨#[]⟩ := by
  unfold Txt.slice
  rw [idx_nil x.length hj (by omega)]
  have : ¬ (((1 : Int) == 1 && ([] : List Nat).length == x.length) = true) := by
    have : 0 ≠ x.length := by omega
    simpa using this
  rw [if_neg this]; rfl
theorem slice_sub (x : Str) {i j : Int} (hi : 0 ≤ i) (hj : 0 ≤ j) : Txt.slice x (some i) (some j) = sub x i j := by
  rw [slice_clip x hi hj]
  by_cases h : min j (x.length : Int) < min i x.length
  · rw [slice_nil x (by omega) h (by omega), sub_lo x (by omega)]
  · have e := eq_of_beq (slice_closesL (x := x) (i := min i x.length) (j := min j x.length) (by omega) (by omega) (by omega))
    rw [e]
    show sub x _ _ = _
    have hl := len_list x
    by_cases h1 : i ≤ x.length
    · have e1 : min i (x.length : Int) = i := by omega
      rw [e1]
      by_cases h2 : j ≤ x.length
      · have e2 : min j (x.length : Int) = j := by omega
        rw [e2]
      · have e2 : min j (x.length : Int) = x.length := by omega
        rw [e2, sub_hi x (j := j) hi (by omega)]
    · rw [sub_over x (by omega), sub_over x (by omega)]
theorem slice_from (x : Str) {i : Int} (hi : 0 ≤ i) : Txt.slice x (some i) none = sub x i x.length := by
  by_cases h : i ≤ x.length
  · exact eq_of_beq (slice_closes_fromL hi h rfl)
  · rw [slice_from_beyond (by omega), sub_over x (by omega)]
theorem slice_to (x : Str) {j : Int} (hj : 0 ≤ j) : Txt.slice x none (some j) = sub x 0 j := by
  by_cases h : j ≤ x.length
  · exact eq_of_beq (slice_closes_toL hj h)
  · rw [slice_to_beyond (by omega), sub_hi x (by omega) (by omega)]
    exact eq_of_beq (slice_closes_toL (by omega) (Int.le_refl _))
theorem either_ge (p : Int) (n : Nat) : 0 ≤ eitherZ p n := by unfold eitherZ; split <;> omega
theorem either_le (p : Int) (n : Nat) : eitherZ p n ≤ n := by unfold eitherZ; split <;> omega
theorem clamp_ge (p : Int) (n : Nat) : 0 ≤ clampZ p n := by unfold clampZ; omega
theorem clamp_le (p : Int) (n : Nat) : clampZ p n ≤ n := by unfold clampZ; omega
theorem empty_str : Str.ofString "" = ⟨#[]⟩ := by decide +kernel

end

section
def findT (x y : Str) : Int := match (List.range (x.length + 1 - y.length)).find? (fun (i : Nat) => standsT x y i) with | some i => i | none => -1
def backT (x y : Str) : Int := match (List.range (x.length + 1 - y.length)).find? (fun (i : Nat) => standsT x y ((x.length : Int) - y.length - i)) with | some i => (x.length : Int) - y.length - i | none => -1
theorem stands_iff {x y : Str} {i : Nat} : standsT x y i = true ↔ (x.cps.toList.drop i).take y.length = y.cps.toList := by
  unfold standsT sub
  have e : ((i : Int) + (y.length : Int) - (i : Int)).toNat = y.length := by omega
  rw [beq_iff_eq, e, show ((i : Int)).toNat = i by omega]
  constructor
  · intro h
    have := congrArg (fun z : Str => z.cps.toList) h
    simpa using this
  · intro h
    rw [h]
theorem stands_le {x y : Str} {i : Nat} (h : standsT x y i = true) (h1 : 1 ≤ y.length) : i + y.length ≤ x.length := by
  have e := congrArg List.length (stands_iff.mp h)
  rw [List.length_take, List.length_drop, len_list, len_list] at e
  omega
theorem stands_le' {x y : Str} {i : Nat} (h : standsT x y i = true) (hi : i ≤ x.length) : i + y.length ≤ x.length := by
  by_cases h1 : 1 ≤ y.length
  · exact stands_le h h1
  · omega
theorem at_iff {x y : Str} {i : Nat} : StrLaws.At x y x.length i ↔ i + y.length ≤ x.length ∧ standsT x y i = true := by
  unfold StrLaws.At
  rw [StrLaws.subAt_eq, stands_iff, beq_iff_eq]
theorem not_at {x y : Str} {i : Nat} (h1 : 1 ≤ y.length) (h : ¬ StrLaws.At x y x.length i) : standsT x y i = false := by
  cases e : standsT x y i with
  | false => rfl
  | true => exact absurd (at_iff.mpr ⟨stands_le e h1, e⟩) h

/-- how often y stands in x from a on, counted from the left -/
noncomputable def cntW (x y : Str) (a : Nat) : Nat :=
  if a < x.length then (if standsT x y a then 1 + cntW x y (a + max y.length 1) else cntW x y (a + 1)) else 0
termination_by x.length - a
/-- the parts of x from b on, where the cuts up to a are made -/
noncomputable def partsW (x y : Str) (b a : Nat) : List Str :=
  if a < x.length then (if standsT x y a = true ∧ a + y.length ≠ b then sub x b a :: partsW x y (a + y.length) (a + y.length) else partsW x y b (a + 1)) else [sub x b x.length]
termination_by 2 * (x.length - a) + (if a + y.length = b then 0 else 1)
decreasing_by
  all_goals (rename_i h _; (repeat' split) <;> omega)
noncomputable def splitT (x y : Str) : List Str := if x.length = 0 then (if y.length = 0 then [] else [x]) else partsW x y 0 0

section
variable {x y : Str}
theorem parts_hit {b a : Nat} (h : a < x.length) (hs : standsT x y a = true) (hb : a + y.length ≠ b) : partsW x y b a = sub x b a :: partsW x y (a + y.length) (a + y.length) := by
  rw [partsW, if_pos h, if_pos ⟨hs, hb⟩]
theorem parts_on {b a : Nat} (h : a < x.length) (hs : standsT x y a = false ∨ a + y.length = b) : partsW x y b a = partsW x y b (a + 1) := by
  rw [partsW, if_pos h, if_neg]
  intro q
  rcases hs with hs | hs
  · rw [hs] at q; exact absurd q.1 Bool.false_ne_true
  · exact q.2 hs
theorem parts_end {b a : Nat} (h : ¬ a < x.length) : partsW x y b a = [sub x b x.length] := by
  rw [partsW, if_neg h]
theorem cnt_hit {a : Nat} (h1 : 1 ≤ y.length) (h : a < x.length) (hs : standsT x y a = true) : cntW x y a = 1 + cntW x y (a + y.length) := by
  rw [cntW, if_pos h, if_pos hs, Nat.max_eq_left h1]
theorem cnt_on {a : Nat} (h : a < x.length) (hs : standsT x y a = false) : cntW x y a = cntW x y (a + 1) := by
  rw [cntW, if_pos h, if_neg (by rw [hs]; decide)]
theorem cnt_end {a : Nat} (h : ¬ a < x.length) : cntW x y a = 0 := by
  rw [cntW, if_neg h]
theorem parts_len (h1 : 1 ≤ y.length) : ∀ (j a b : Nat), x.length - a ≤ j → b ≤ a → (partsW x y b a).length = cntW x y a + 1 := by
  intro j
  induction j with
  | zero =>
    intro a b hj hb
    rw [parts_end (by omega), cnt_end (by omega)]; rfl
  | succ j ih =>
    intro a b hj hb
    by_cases h : a < x.length
    · cases hs : standsT x y a with
      | true =>
        rw [parts_hit h hs (by omega), cnt_hit h1 h hs, List.length_cons, ih _ _ (by omega) (Nat.le_refl _)]
        omega
      | false => rw [parts_on h (.inl hs), cnt_on h hs, ih _ _ (by omega) (by omega)]
    · rw [parts_end h, cnt_end h]; rfl
theorem cnt_skip : ∀ (j p q : Nat), p + j = q → q ≤ x.length → (∀ i, p ≤ i → i < q → standsT x y i = false) → cntW x y p = cntW x y q := by
  intro j
  induction j with
  | zero => intro p q h _ _; rw [← h]; rfl
  | succ j ih =>
    intro p q h hq hn
    rw [cnt_on (by omega) (hn p (Nat.le_refl _) (by omega))]
    exact ih (p + 1) q (by omega) hq fun i h0 h2 => hn i (by omega) h2
theorem cnt_none {p : Nat} (hn : ∀ i, p ≤ i → standsT x y i = false) : cntW x y p = 0 := by
  by_cases h : p ≤ x.length
  · rw [cnt_skip (x.length - p) p x.length (by omega) (Nat.le_refl _) fun i h0 _ => hn i h0, cnt_end (by omega)]
  · exact cnt_end (by omega)

/-- where the counting loop stands: i places counted, the next one at a -/
def CutP (x y : Str) (i a : Int) : Prop := (a = -1 ∧ i = cntW x y 0) ∨ (0 ≤ a ∧ a < x.length ∧ standsT x y a.toNat = true ∧ i + cntW x y a.toNat = cntW x y 0)
open PySem.Builtin PySem.Builtin.Str in
theorem cut_from (h1 : 1 ≤ y.length) {p : Nat} {i a : Int} (hi : i + cntW x y p = cntW x y 0)
    (ha : a = match occurrences x y p x.length 1 with | k :: _ => (k : Int) | [] => -1) : CutP x y i a ∧ (a = -1 ∨ (p : Int) ≤ a) := by
  rcases StrLaws.occ_head_from x y p 1 (Nat.le_refl 1) with ⟨h0, hn⟩ | ⟨k, r, h0, hlo, hk, hn⟩
  · rw [h0] at ha
    have := cnt_none (x := x) (y := y) (p := p) fun i h => not_at h1 (hn i h)
    exact ⟨.inl ⟨ha, by omega⟩, .inl ha⟩
  · rw [h0] at ha
    have ha' : a = (k : Int) := ha
    have hk' := at_iff.mp hk
    have := cnt_skip (x := x) (y := y) (k - p) p k (by omega) (by omega) fun i h h2 => not_at h1 (hn i h h2)
    have e : ((k : Int)).toNat = k := by omega
    refine ⟨.inr ⟨by omega, by omega, ?_, ?_⟩, .inr (by omega)⟩
    · rw [ha', e]; exact hk'.2
    · rw [ha', e]; omega
theorem cut_init (h1 : 1 ≤ y.length) : CutP x y 0 (Txt.find x y) :=
  (cut_from h1 (p := 0) (by omega) rfl).1
theorem cut_step (h1 : 1 ≤ y.length) {i a : Int} (h0 : 0 ≤ a) (P : CutP x y i a) : CutP x y (i + 1) (Txt.find3 x y (a + y.length)) ∧ (Txt.find3 x y (a + y.length) = -1 ∨ a < Txt.find3 x y (a + y.length)) := by
  rcases P with ⟨ha, _⟩ | ⟨_, hl, hs, hi⟩
  · omega
  · have e : fromIndex x.length (a + y.length) = a.toNat + y.length := by
      unfold fromIndex
      rw [if_neg (by omega)]
      omega
    have hc := cnt_hit h1 (by omega) hs
    have := cut_from h1 (x := x) (y := y) (p := a.toNat + y.length) (i := i + 1) (a := Txt.find3 x y (a + y.length)) (by omega) (by unfold Txt.find3; rw [e]; rfl)
    exact ⟨this.1, by omega⟩
theorem cut_stop {i a : Int} (h : ¬ 0 ≤ a) (P : CutP x y i a) : i = cntW x y 0 := by
  rcases P with ⟨_, hi⟩ | ⟨h0, _⟩
  · exact hi
  · exact absurd h0 h
theorem cut_less {i a : Int} (P : CutP x y i a) : a ≤ x.length := by
  rcases P with ⟨h, _⟩ | ⟨_, h, _⟩ <;> omega
end

end

section
theorem sub_list (x : Str) (i j : Int) : (sub x i j).cps.toList = (x.cps.toList.drop i.toNat).take (j - i).toNat := by
  unfold sub; simp
theorem str_ext {x y : Str} (h : x.cps.toList = y.cps.toList) : x = y := Str.ext' (Array.toList_inj.mp h)
theorem app_list (x y : Str) : (x ++ y).cps.toList = x.cps.toList ++ y.cps.toList := by rw [Str.cps_append, Array.toList_append]
/-- two cuts side by side -/
theorem sub_app (x : Str) {i j k : Int} (h0 : 0 ≤ i) (h1 : i ≤ j) (h2 : j ≤ k) : sub x i j ++ sub x j k = sub x i k := by
  apply str_ext
  rw [app_list, sub_list, sub_list, sub_list]
  have e1 : (k - i).toNat = (j - i).toNat + (k - j).toNat := by omega
  have e2 : j.toNat = i.toNat + (j - i).toNat := by omega
  rw [e1, List.take_add, List.drop_drop, e2]
theorem sub_all (x : Str) {j : Int} (h : (x.length : Int) ≤ j) : sub x 0 j = x := by
  apply str_ext
  rw [sub_list]
  have := len_list x
  rw [show (0 : Int).toNat = 0 from rfl, List.drop_zero, List.take_of_length_le (by omega)]
section
variable {x y : Str} {f g : Int}
theorem facts8 (hf : 0 ≤ f) (hg : 0 ≤ g) : sliceT x 0 f ++ sliceN x f = x ∧ substrT x f g = sliceT x f (f + g) := by
  unfold sliceT sliceN substrT
  have e0 : eitherZ 0 (x.length : Int) = 0 := by unfold eitherZ; rw [if_neg (by decide)]; omega
  have ef : eitherZ f (x.length : Int) = min f x.length := by unfold eitherZ; rw [if_neg (by omega)]
  have efg : eitherZ (f + g) (x.length : Int) = min (f + g) x.length := by unfold eitherZ; rw [if_neg (by omega)]
  rw [e0, ef, efg]
  constructor
  · rw [sub_app x (by omega) (by omega) (by omega), sub_all x (Int.le_refl _)]
  · congr 1
    omega
theorem facts9 (hf : 0 < f) : sliceT x 0 (0 - f) ++ sliceN x (0 - f) = x := by
  unfold sliceT sliceN
  have e0 : eitherZ 0 (x.length : Int) = 0 := by unfold eitherZ; rw [if_neg (by decide)]; omega
  have ef : eitherZ (0 - f) (x.length : Int) = max (x.length + (0 - f)) 0 := by unfold eitherZ; rw [if_pos (by omega)]
  rw [e0, ef, sub_app x (by omega) (by omega) (by omega), sub_all x (Int.le_refl _)]
theorem facts10 (hf : 0 ≤ f) : substringT x f g = substringT x g f ∧ substringT x 0 f = sliceT x 0 f := by
  unfold substringT sliceT
  have e0 : eitherZ 0 (x.length : Int) = 0 := by unfold eitherZ; rw [if_neg (by decide)]; omega
  have ef : eitherZ f (x.length : Int) = min f x.length := by unfold eitherZ; rw [if_neg (by omega)]
  have c0 : clampZ 0 (x.length : Int) = 0 := by unfold clampZ; omega
  have cf : clampZ f (x.length : Int) = min f x.length := by unfold clampZ; omega
  constructor
  · rw [Int.min_comm, Int.max_comm]
  · rw [e0, ef, c0, cf]
    congr 1 <;> omega
theorem facts11 (hf : 0 ≤ f) (hg : 0 ≤ g) : putT x (if (x.length : Int) < f then (x.length : Int) else f) g (Txt.slice x (some (if (x.length : Int) < f then (x.length : Int) else f)) (some ((if (x.length : Int) < f then (x.length : Int) else f) + g))) = x := by
  have e : (if (x.length : Int) < f then (x.length : Int) else f) = min f x.length := by split <;> omega
  rw [e, slice_sub x (by omega) (by omega)]
  unfold putT
  by_cases h : min f (x.length : Int) + g ≤ x.length
  · rw [sub_app x (by omega) (by omega) (by omega), sub_app x (by omega) (by omega) h, sub_all x (Int.le_refl _)]
  · rw [sub_hi x (by omega) (by omega : (x.length : Int) ≤ min f (x.length : Int) + g), sub_app x (by omega) (by omega) (by omega), sub_over x (i := min f (x.length : Int) + g) (by omega), sub_all x (Int.le_refl _)]
    apply str_ext
    simp [app_list]
end

end

section
section
variable {x y : Str}
/-- what holds of the parts, by the way the cuts are made -/
theorem parts_ind (C : Nat → Nat → List Str → Prop) (hend : ∀ b a, ¬ a < x.length → C b a [sub x b x.length])
    (hhit : ∀ b a, a < x.length → standsT x y a = true → a + y.length ≠ b → C (a + y.length) (a + y.length) (partsW x y (a + y.length) (a + y.length)) → C b a (sub x b a :: partsW x y (a + y.length) (a + y.length)))
    (hon : ∀ b a, a < x.length → (standsT x y a = false ∨ a + y.length = b) → C b (a + 1) (partsW x y b (a + 1)) → C b a (partsW x y b (a + 1))) :
    ∀ b a, C b a (partsW x y b a) := by
  have key : ∀ m b a, 2 * (x.length - a) + (if a + y.length = b then 0 else 1) ≤ m → C b a (partsW x y b a) := by
    intro m
    induction m with
    | zero =>
      intro b a hm
      have h : ¬ a < x.length := by
        intro h
        split at hm <;> omega
      rw [parts_end h]
      exact hend b a h
    | succ m ih =>
      intro b a hm
      by_cases h : a < x.length
      · cases hs : standsT x y a with
        | true =>
          by_cases hb : a + y.length = b
          · rw [parts_on h (.inr hb)]
            refine hon b a h (.inr hb) (ih _ _ ?_)
            rw [if_pos hb] at hm
            split <;> omega
          · rw [parts_hit h hs hb]
            refine hhit b a h hs hb (ih _ _ ?_)
            rw [if_neg hb] at hm
            split <;> omega
        | false =>
          rw [parts_on h (.inl hs)]
          refine hon b a h (.inl hs) (ih _ _ ?_)
          split at hm <;> split <;> omega
      · rw [parts_end h]
        exact hend b a h
  exact fun b a => key _ b a (Nat.le_refl _)
theorem parts_short : ∀ b a, b ≤ a → a ≤ x.length → (partsW x y b a).length + b ≤ x.length + 1 := by
  refine parts_ind (fun b a l => b ≤ a → a ≤ x.length → l.length + b ≤ x.length + 1) ?_ ?_ ?_
  · intro b a h h1 h2
    simp; omega
  · intro b a h hs hb ih h1 h2
    have := stands_le' hs h2
    have := ih (Nat.le_refl _) this
    simp only [List.length_cons]
    omega
  · intro b a h hs ih h1 h2
    exact ih (by omega) (by omega)
theorem parts_are : ∀ b a, ∀ p ∈ partsW x y b a, ∃ i j : Int, p = sub x i j := by
  refine parts_ind (fun b a l => ∀ p ∈ l, ∃ i j : Int, p = sub x i j) ?_ ?_ ?_
  · intro b a h p hp
    exact ⟨_, _, List.mem_singleton.mp hp⟩
  · intro b a h hs hb ih p hp
    rcases List.mem_cons.mp hp with rfl | hp
    · exact ⟨_, _, rfl⟩
    · exact ih p hp
  · intro b a h hs ih
    exact ih
theorem stands_sub {i : Nat} (h : standsT x y i = true) : sub x i ((i + y.length : Nat) : Int) = y := by
  apply str_ext
  rw [sub_list, ← stands_iff.mp h]
  congr 1
  omega
theorem parts_join : ∀ b a, b ≤ a → a ≤ x.length → (partsW x y b a) ≠ [] ∧ Str.join y (partsW x y b a) = sub x b x.length := by
  refine parts_ind (fun b a l => b ≤ a → a ≤ x.length → l ≠ [] ∧ Str.join y l = sub x b x.length) ?_ ?_ ?_
  · intro b a h h1 h2
    exact ⟨by simp, rfl⟩
  · intro b a h hs hb ih h1 h2
    have hle := stands_le' hs h2
    obtain ⟨hne, hj⟩ := ih (Nat.le_refl _) hle
    refine ⟨by simp, ?_⟩
    cases hr : partsW x y (a + y.length) (a + y.length) with
    | nil => exact absurd hr hne
    | cons q r =>
      rw [hr] at hj
      show sub x b a ++ y ++ Str.join y (q :: r) = _
      rw [hj]
      have e := stands_sub hs
      have e1 : sub x b a ++ y = sub x b a ++ sub x a ((a + y.length : Nat) : Int) := by rw [e]
      rw [e1, sub_app x (by omega) (by omega) (by omega), sub_app x (by omega) (by omega) (by omega)]
  · intro b a h hs ih h1 h2
    exact ih (by omega) (by omega)
theorem find_none {p : Str} (h : ∀ i : Nat, i + y.length ≤ p.length → standsT p y i = false) : findT p y = -1 := by
  have e : (List.range (p.length + 1 - y.length)).find? (fun (i : Nat) => standsT p y i) = none := by
    rw [List.find?_range_eq_none]
    intro i hi
    rw [h i (by omega)]; rfl
  unfold findT
  rw [e]
theorem find_some {p : Str} (h : 0 ≤ findT p y) : ∃ i : Nat, findT p y = i ∧ i + y.length ≤ p.length ∧ standsT p y i = true ∧ ∀ j, j < i → standsT p y j = false := by
  cases e : (List.range (p.length + 1 - y.length)).find? (fun (i : Nat) => standsT p y i) with
  | none => unfold findT at h; rw [e] at h; exact absurd h (by decide)
  | some i =>
    obtain ⟨h1, h2, h3⟩ := List.find?_range_eq_some.mp e
    refine ⟨i, by unfold findT; rw [e], ?_, h1, fun j hj => ?_⟩
    · have := List.mem_range.mp h2; omega
    · simpa using h3 j hj
/-- where y stands in a cut of x it stands in x -/
theorem sub_stands {b a i : Nat} (h1 : 1 ≤ y.length) (hab : b ≤ a) (hi : standsT (sub x b a) y i = true) : standsT x y ((b + i : Nat) : Int) = true ∧ i + y.length ≤ a - b := by
  have hle : i + y.length ≤ a - b := by
    have := stands_le hi h1
    have hl : (sub x b a).length ≤ a - b := by
      rw [← len_list, sub_list, List.length_take]
      omega
    omega
  refine ⟨?_, hle⟩
  rw [stands_iff]
  have e := stands_iff.mp hi
  rw [sub_list] at e
  rw [← e, List.drop_take, List.take_take, List.drop_drop]
  congr 1
  omega
theorem parts_none (h1 : 1 ≤ y.length) : ∀ b a : Nat, b ≤ a → (∀ i, b ≤ i → i < a → standsT x y i = false) → ∀ p ∈ partsW x y b a, findT p y = -1 := by
  refine parts_ind (fun b a l => b ≤ a → (∀ i, b ≤ i → i < a → standsT x y i = false) → ∀ p ∈ l, findT p y = -1) ?_ ?_ ?_
  · intro b a h hb hn p hp
    rw [List.mem_singleton.mp hp]
    refine find_none fun i hi => ?_
    cases e : standsT (sub x b x.length) y i with
    | false => rfl
    | true =>
      by_cases hbx : b ≤ x.length
      · obtain ⟨q1, q2⟩ := sub_stands (a := x.length) h1 hbx e
        rw [hn (b + i) (by omega) (by omega)] at q1
        cases q1
      · have e2 : sub x b x.length = ⟨#[]⟩ := sub_over x (by omega)
        rw [e2] at hi
        have : (⟨#[]⟩ : Str).length = 0 := rfl
        omega
  · intro b a h hs hb ih hba hn p hp
    rcases List.mem_cons.mp hp with rfl | hp
    · refine find_none fun i hi => ?_
      cases e : standsT (sub x b a) y i with
      | false => rfl
      | true =>
        obtain ⟨q1, q2⟩ := sub_stands h1 hba e
        rw [hn (b + i) (by omega) (by omega)] at q1
        cases q1
    · exact ih (Nat.le_refl _) (fun i h2 h3 => absurd h2 (by omega)) p hp
  · intro b a h hs ih hba hn
    refine ih (by omega) fun i h2 h3 => ?_
    by_cases q : i = a
    · rcases hs with hs | hs
      · rw [q]; exact hs
      · omega
    · exact hn i h2 (by omega)
theorem sub_len' (x : Str) (i j : Int) : (sub x i j).length ≤ x.length := by
  rw [← len_list, sub_list, List.length_take, List.length_drop, len_list]
  omega
theorem sub_mem {i j : Int} {c : Nat} (h : c ∈ (sub x i j).cps.toList) : c ∈ x.cps.toList := by
  rw [sub_list] at h
  exact List.mem_of_mem_drop (List.mem_of_mem_take h)
theorem split_are {p : Str} (h : p ∈ splitT x y) : ∃ i j : Int, p = sub x i j := by
  unfold splitT at h
  split at h
  · split at h
    · cases h
    · exact ⟨0, x.length, by rw [sub_all x (Int.le_refl _)]; exact List.mem_singleton.mp h⟩
  · exact parts_are 0 0 p h
theorem split_short : (splitT x y).length ≤ x.length + 1 := by
  unfold splitT
  split
  · split <;> simp
  · have := parts_short (x := x) (y := y) 0 0 (Nat.le_refl _) (Nat.zero_le _)
    omega
theorem split_join : Str.join y (splitT x y) = x := by
  unfold splitT
  split
  · rename_i h
    have e : x = ⟨#[]⟩ := Str.ext' (Array.eq_empty_of_size_eq_zero h)
    split
    · rw [e]; rfl
    · rfl
  · rw [(parts_join 0 0 (Nat.le_refl _) (Nat.zero_le _)).2]
    exact sub_all x (Int.le_refl _)
theorem split_none (h1 : 1 ≤ y.length) : ∀ p ∈ splitT x y, findT p y = -1 := by
  intro p hp
  unfold splitT at hp
  split at hp
  · rename_i h
    split at hp
    · cases hp
    · rw [List.mem_singleton.mp hp]
      exact find_none fun i hi => absurd hi (by omega)
  · exact parts_none h1 0 0 (Nat.le_refl _) (fun i h2 h3 => absurd h3 (by omega)) p hp
theorem split_count (h1 : 1 ≤ y.length) : (splitT x y).length = cntW x y 0 + 1 := by
  unfold splitT
  split
  · rename_i h
    rw [if_neg (by omega), cnt_end (by omega)]; rfl
  · exact parts_len h1 x.length 0 0 (by omega) (Nat.le_refl _)
theorem first_ahead (h1 : 1 ≤ y.length) (h : 0 ≤ findT x y) : findT (sliceT x 0 (findT x y + (y.length : Int) - 1)) y = -1 := by
  obtain ⟨i, hi, hl, hs, hn⟩ := find_some h
  rw [hi]
  have e0 : eitherZ 0 (x.length : Int) = ((0 : Nat) : Int) := by unfold eitherZ; rw [if_neg (by decide)]; omega
  have e1 : eitherZ ((i : Int) + (y.length : Int) - 1) (x.length : Int) = ((i + y.length - 1 : Nat) : Int) := by unfold eitherZ; rw [if_neg (by omega)]; omega
  unfold sliceT
  rw [e0, e1]
  refine find_none fun j hj => ?_
  cases e : standsT (sub x ((0 : Nat) : Int) ((i + y.length - 1 : Nat) : Int)) y j with
  | false => rfl
  | true =>
    obtain ⟨q1, q2⟩ := sub_stands h1 (Nat.zero_le _) e
    rw [Nat.zero_add, hn j (by omega)] at q1
    cases q1
theorem rev_list (x : Str) (t : Tok) : (Txt.sliceBy x none none (-1, t)).cps.toList = x.cps.toList.reverse := by
  rw [step_rev_list]
  apply List.ext_getElem?
  intro i
  by_cases h : i < x.length
  · have hx : x.cps.size = x.length := rfl
    rw [List.getElem?_reverse (by rw [len_list]; exact h), List.getElem?_map, List.getElem?_range h, len_list]
    have h2 : x.length - 1 - i < x.cps.size := by rw [hx]; omega
    simp [Array.getD, h2]
  · have l1 : ((List.range x.length).map fun k => x.cps.getD (x.length - 1 - k) 0).length ≤ i := by simp; omega
    have l2 : x.cps.toList.reverse.length ≤ i := by rw [List.length_reverse, len_list]; omega
    rw [List.getElem?_eq_none l1, List.getElem?_eq_none l2]
theorem find_congr {p q : Nat → Bool} : ∀ {l : List Nat}, (∀ i ∈ l, p i = q i) → l.find? p = l.find? q
  | [], _ => rfl
  | a :: r, h => by
    rw [List.find?_cons, List.find?_cons, h a (List.mem_cons_self ..), find_congr fun i hi => h i (List.mem_cons_of_mem _ hi)]
theorem rev_stands {t v : Tok} {i : Nat} (h : i + y.length ≤ x.length) : standsT (Txt.sliceBy x none none (-1, t)) (Txt.sliceBy y none none (-1, v)) i = standsT x y ((x.length : Int) - (y.length : Int) - (i : Int)) := by
  have e : (x.length : Int) - (y.length : Int) - (i : Int) = ((x.length - y.length - i : Nat) : Int) := by omega
  rw [e, Bool.eq_iff_iff, stands_iff, stands_iff, rev_list, rev_list, step_rev_len]
  have q : (x.cps.toList.reverse.drop i).take y.length = ((x.cps.toList.drop (x.length - y.length - i)).take y.length).reverse := by
    rw [List.drop_reverse, List.take_reverse, len_list, List.length_take, len_list]
    congr 1
    rw [List.drop_take]
    have a1 : min (x.length - i) x.length - y.length = x.length - y.length - i := by omega
    have a2 : x.length - i - (x.length - y.length - i) = y.length := by omega
    rw [a1, a2]
  rw [q]
  constructor
  · intro hh; exact List.reverse_inj.mp hh
  · intro hh; rw [hh]
theorem back_find (t v : Tok) : (0 ≤ findT (Txt.sliceBy x none none (-1, t)) (Txt.sliceBy y none none (-1, v)) → backT x y = (x.length : Int) - (y.length : Int) - findT (Txt.sliceBy x none none (-1, t)) (Txt.sliceBy y none none (-1, v))) ∧
    (¬ 0 ≤ findT (Txt.sliceBy x none none (-1, t)) (Txt.sliceBy y none none (-1, v)) → backT x y = -1) := by
  have e : (List.range (x.length + 1 - y.length)).find? (fun (i : Nat) => standsT (Txt.sliceBy x none none (-1, t)) (Txt.sliceBy y none none (-1, v)) i) = (List.range (x.length + 1 - y.length)).find? (fun (i : Nat) => standsT x y ((x.length : Int) - (y.length : Int) - (i : Int))) := by
    refine find_congr fun i hi => ?_
    have := List.mem_range.mp hi
    exact rev_stands (by omega)
  unfold findT backT
  rw [step_rev_len, step_rev_len, e]
  cases (List.range (x.length + 1 - y.length)).find? (fun (i : Nat) => standsT x y ((x.length : Int) - (y.length : Int) - (i : Int))) with
  | none => exact ⟨fun h => absurd h (by decide), fun _ => rfl⟩
  | some i => exact ⟨fun _ => rfl, fun h => absurd (Int.natCast_nonneg i) h⟩
theorem facts6 (hx : x.length ≤ 8) (habc : ∀ c ∈ x.cps.toList, c = 97 ∨ c = 98 ∨ c = 45) {f : Int} :
    (∀ p ∈ splitT x y, p.length ≤ 8) ∧ (∀ p ∈ splitT x y, PyData.strOk p = true) ∧ Txt.join y ((splitT x y).take 99) = x ∧ (splitT x y).take f.toNat = ((splitT x y).take 99).take f.toNat := by
  have h99 : (splitT x y).take 99 = splitT x y := List.take_of_length_le (by have := split_short (x := x) (y := y); omega)
  refine ⟨fun p hp => ?_, fun p hp => ?_, ?_, ?_⟩
  · obtain ⟨i, j, rfl⟩ := split_are hp
    exact Nat.le_trans (sub_len' x i j) hx
  · obtain ⟨i, j, rfl⟩ := split_are hp
    unfold PyData.strOk
    rw [← Array.all_toList, List.all_eq_true]
    intro c hc
    have := habc c (sub_mem hc)
    simp
    omega
  · rw [h99]
    exact (eq_of_beq (join_closes rfl)).trans split_join
  · rw [h99]
theorem facts7 (hx : x.length ≤ 8) : (∀ p ∈ splitT x y, p.length ≤ 8) ∧ (1 ≤ y.length → (∀ p ∈ splitT x y, findT p y = -1) ∧ (((splitT x y).take 99).length : Int) = cntW x y 0 + 1 ∧
    (0 ≤ findT x y → findT (sliceT x 0 (findT x y + (y.length : Int) - 1)) y = -1) ∧
    ∀ t v : Tok, (0 ≤ findT (Txt.sliceBy x none none (-1, t)) (Txt.sliceBy y none none (-1, v)) → backT x y = (x.length : Int) - (y.length : Int) - findT (Txt.sliceBy x none none (-1, t)) (Txt.sliceBy y none none (-1, v))) ∧
      (¬ 0 ≤ findT (Txt.sliceBy x none none (-1, t)) (Txt.sliceBy y none none (-1, v)) → backT x y = -1)) := by
  have h99 : (splitT x y).take 99 = splitT x y := List.take_of_length_le (by have := split_short (x := x) (y := y); omega)
  refine ⟨fun p hp => ?_, fun h1 => ⟨split_none h1, ?_, first_ahead h1, back_find⟩⟩
  · obtain ⟨i, j, rfl⟩ := split_are hp
    exact Nat.le_trans (sub_len' x i j) hx
  · rw [h99, split_count h1]; rfl
end

end

section
structure TextP (x : Str) (r : Int) : Prop where
  low : r < 3 ^ (8 - x.length)
  abc : ∀ c ∈ x.cps.toList, c = 97 ∨ c = 98 ∨ c = 45
theorem item_abc {i : Int} (h0 : 0 ≤ i) (h1 : i < 3) : ∃ c : Nat, Txt.item (Str.ofString "ab-") i = ⟨#[c]⟩ ∧ (c = 97 ∨ c = 98 ∨ c = 45) := by
  have : i = 0 ∨ i = 1 ∨ i = 2 := by omega
  rcases this with rfl | rfl | rfl
  · exact ⟨97, by decide +kernel, by decide⟩
  · exact ⟨98, by decide +kernel, by decide⟩
  · exact ⟨45, by decide +kernel, by decide⟩
theorem text_init (c : Int) : 0 ≤ c.fmod 6561 ∧ (Str.ofString "").length ≤ 8 ∧ TextP (Str.ofString "") (c.fmod 6561) := by
  have h0 : 0 ≤ c.fmod 6561 := by rw [Int.fmod_eq_emod_of_nonneg _ (by decide)]; omega
  have h1 : c.fmod 6561 < 6561 := by rw [Int.fmod_eq_emod_of_nonneg _ (by decide)]; omega
  have e : (Str.ofString "") = ⟨#[]⟩ := empty_str
  have e2 : (⟨#[]⟩ : Str).length = 0 := rfl
  refine ⟨h0, by rw [e, e2]; omega, ⟨?_, ?_⟩⟩
  · rw [e, e2]; exact h1
  · rw [e]; intro c hc; simp at hc
theorem text_step {x : Str} {r : Int} (h0 : 0 ≤ r) (hr : 0 < r) (hl : x.length ≤ 8) (P : TextP x r) :
    0 ≤ r.fdiv 3 ∧ (x ++ Txt.item (Str.ofString "ab-") (r.fmod 3)).length ≤ 8 ∧ TextP (x ++ Txt.item (Str.ofString "ab-") (r.fmod 3)) (r.fdiv 3) := by
  have em : r.fmod 3 = r % 3 := Int.fmod_eq_emod_of_nonneg _ (by decide)
  have ed : r.fdiv 3 = r / 3 := Int.fdiv_eq_ediv_of_nonneg _ (by decide)
  rw [em, ed]
  obtain ⟨c, hc, hv⟩ := item_abc (i := r % 3) (by omega) (by omega)
  rw [hc]
  have hlen : (x ++ (⟨#[c]⟩ : Str)).length = x.length + 1 := by rw [Str.length_append]; rfl
  have h8 : x.length ≠ 8 := by
    intro h
    have := P.low
    rw [h] at this
    have e : (3 : Int) ^ (8 - 8) = 1 := rfl
    omega
  have hp : (3 : Int) ^ (8 - x.length) = 3 ^ (8 - (x.length + 1)) * 3 := by
    have : 8 - x.length = (8 - (x.length + 1)) + 1 := by omega
    rw [this, Int.pow_succ]

  have hlow := P.low
  rw [hp] at hlow
  refine ⟨by omega, by omega, ⟨?_, ?_⟩⟩
  · rw [hlen]
    generalize (3 : Int) ^ (8 - (x.length + 1)) = q at hlow
    omega
  · intro d hd
    rw [Str.cps_append, Array.toList_append] at hd
    rcases List.mem_append.mp hd with h | h
    · exact P.abc d h
    · have : d = c := by simpa using h
      rw [this]; exact hv
theorem text_less {r : Int} (hr : 0 < r) : (r.fdiv 3).toNat < r.toNat := by
  have ed : r.fdiv 3 = r / 3 := Int.fdiv_eq_ediv_of_nonneg _ (by decide)
  rw [ed]; omega

end

section
def blankC (c : Nat) : Bool := whiteZ (c : Nat) || lineZ (c : Nat)
theorem blank_list (x : Str) (i : Nat) : blankAt x i = blankC (x.cps.toList.getD i 0) := by
  unfold blankAt blankC
  have : x.cps.getD i 0 = x.cps.toList.getD i 0 := by
    obtain ⟨⟨l⟩⟩ := x
    simp [Array.getD, List.getD]
    split <;> simp_all
  rw [this]
theorem abc_not (c : Nat) (h : c = 97 ∨ c = 98 ∨ c = 45) : blankC c = false := by
  rcases h with h | h | h <;> subst h <;> decide
theorem pad_list (x : Str) : (Str.ofString " \n" ++ x ++ Str.ofString "\ufeff ").cps.toList = [32, 10] ++ (x.cps.toList ++ [65279, 32]) := by
  have h1 : Str.ofString " \n" = ⟨#[32, 10]⟩ := by decide +kernel
  have h2 : Str.ofString "\ufeff " = ⟨#[65279, 32]⟩ := by decide +kernel
  rw [h1, h2]
  simp [Str.cps_append]
theorem pad_len (x : Str) : (Str.ofString " \n" ++ x ++ Str.ofString "\ufeff ").length = x.length + 4 := by
  rw [← len_list, pad_list]
  simp only [List.length_append, List.length_cons, List.length_nil, len_list]
  omega
section
variable {x : Str}
theorem pad_lo : ∀ k, k < 2 → blankAt (Str.ofString " \n" ++ x ++ Str.ofString "\ufeff ") k = true := by
  intro k hk
  rw [blank_list, pad_list]
  have : k = 0 ∨ k = 1 := by omega
  rcases this with rfl | rfl
  · show blankC 32 = true; decide
  · show blankC 10 = true; decide
theorem getD_mid {l : List Nat} {k : Nat} {r : List Nat} (h : k < l.length) : ([32, 10] ++ (l ++ r)).getD (k + 2) 0 = l.getD k 0 := by
  show (l ++ r).getD k 0 = _
  simp [List.getD, List.getElem?_append_left h]
theorem getD_hi {l : List Nat} {k : Nat} {r : List Nat} : ([32, 10] ++ (l ++ r)).getD (l.length + k + 2) 0 = r.getD k 0 := by
  show (l ++ r).getD (l.length + k) 0 = _
  simp [List.getD, List.getElem?_append_right]
theorem pad_hi : ∀ k, x.length + 2 ≤ k → k < (Str.ofString " \n" ++ x ++ Str.ofString "\ufeff ").length → blankAt (Str.ofString " \n" ++ x ++ Str.ofString "\ufeff ") k = true := by
  intro k h1 h2
  rw [pad_len] at h2
  rw [blank_list, pad_list]
  obtain ⟨j, rfl⟩ : ∃ j, k = x.cps.toList.length + j + 2 := ⟨k - 2 - x.length, by rw [len_list]; omega⟩
  rw [getD_hi]
  rw [len_list] at h1 h2
  have : j = 0 ∨ j = 1 := by omega
  rcases this with rfl | rfl
  · show blankC 65279 = true; decide
  · show blankC 32 = true; decide
theorem abc_at (habc : ∀ c ∈ x.cps.toList, c = 97 ∨ c = 98 ∨ c = 45) {k : Nat} (h : k < x.length) : blankC (x.cps.toList.getD k 0) = false := by
  have hk : k < x.cps.toList.length := by rw [len_list]; exact h
  refine abc_not _ (habc _ ?_)
  have : x.cps.toList.getD k 0 = x.cps.toList[k] := by rw [List.getD_eq_getElem?_getD, List.getElem?_eq_getElem hk]; rfl
  rw [this]
  exact List.getElem_mem hk
theorem pad_in (habc : ∀ c ∈ x.cps.toList, c = 97 ∨ c = 98 ∨ c = 45) (h : 2 < x.length + 2) :
    blankAt (Str.ofString " \n" ++ x ++ Str.ofString "\ufeff ") 2 = false ∧ blankAt (Str.ofString " \n" ++ x ++ Str.ofString "\ufeff ") (x.length + 2 - 1) = false := by
  constructor
  · rw [blank_list, pad_list, show (2 : Nat) = 0 + 2 from rfl, getD_mid (by rw [len_list]; omega)]
    exact abc_at habc (by omega)
  · rw [blank_list, pad_list, show x.length + 2 - 1 = (x.length - 1) + 2 by omega, getD_mid (by rw [len_list]; omega)]
    exact abc_at habc (by omega)
theorem pad_sub : sub (Str.ofString " \n" ++ x ++ Str.ofString "\ufeff ") (2 : Nat) ((x.length + 2 : Nat) : Int) = x := by
  unfold sub
  rw [pad_list]
  have e : (((x.length + 2 : Nat) : Int) - ((2 : Nat) : Int)).toNat = x.cps.toList.length := by rw [len_list]; omega
  have e2 : (((2 : Nat) : Int)).toNat = 2 := rfl
  rw [e, e2]
  show (⟨((x.cps.toList ++ [65279, 32]).take x.cps.toList.length).toArray⟩ : Str) = x
  rw [List.take_left' rfl]
theorem own_in (habc : ∀ c ∈ x.cps.toList, c = 97 ∨ c = 98 ∨ c = 45) (h : 0 < x.length) : blankAt x 0 = false ∧ blankAt x (x.length - 1) = false := by
  rw [blank_list, blank_list]
  exact ⟨abc_at habc h, abc_at habc (by omega)⟩
theorem own_sub : sub x (0 : Nat) ((x.length : Nat) : Int) = x := by
  unfold sub
  have e : (((x.length : Nat) : Int) - ((0 : Nat) : Int)).toNat = x.cps.toList.length := by rw [len_list]; omega
  have e2 : (((0 : Nat) : Int)).toNat = 0 := rfl
  rw [e, e2, List.drop_zero, List.take_length]
end

end

section
/-- what a call of the def at f with vs hands back, whatever frame it is called from -/
def Cl (d : Nat) (w : World) (mean : ExcName → Option Value) (mg mb : Str → Option Value) (f : Addr) (vs : List Value) (R : Tok → Value) : Prop :=
  ∀ (dp un : Nat) (gd : Option (List Code)) (cn : Str) (cs : Scope) (a : Addr) (ccd : Value) (cl : List (Str × Addr)) (outer : List Env) (A₀ : Around) (base h₀ : Heap) (L : Addr) (m : Str → Option Value) (news : List (Addr × Obj)) (s : Shared) (Q E : Value → Shared → Prop),
    Below A₀ base outer h₀ → Fr h₀ L s.heap m → (hd.heap_39 w.params).In h₀ → News h₀ L s.heap news →
    Top hd.view_39 (looseW hd.view_39 [Str.ofString "BLANKS", Str.ofString "LINE_ENDS"]) mean mg mb h₀ → cs.kind = .function →
    dp + d < recursionLimit → un + 8 * d < cLine →
    (∀ (t : Tok) (h' : Heap) (tk' : Nat), Fr h₀ L h' m → News h₀ L h' news → Q (R t) { s with heap := h', toks := tk' }) →
    wpAny (model PySem.Challenge.rw_sa0355_01.row.prog w) (ktrTop dp un gd cn cs L a ccd cl outer) (call (.ref f) vs) Q E s

section
variable {h₀ h' : Heap} {L : Addr} {m : Str → Option Value} {news : List (Addr × Obj)} {s : Shared} {Q E : Value → Shared → Prop} {t : Tok} {tk' : Nat} {R : Tok → Value}
theorem retI {x y : Int} (hret : ∀ (t : Tok) (h' : Heap) (tk' : Nat), Fr h₀ L h' m → News h₀ L h' news → Q ((fun t => .int x t) t) { s with heap := h', toks := tk' }) (F : Fr h₀ L h' m) (N : News h₀ L h' news) (e : y = x) : Q (.int y t) { s with heap := h', toks := tk' } := by
  subst e
  exact hret t h' tk' F N
theorem retS {x y : Str} (hret : ∀ (t : Tok) (h' : Heap) (tk' : Nat), Fr h₀ L h' m → News h₀ L h' news → Q ((fun t => .str x t) t) { s with heap := h', toks := tk' }) (F : Fr h₀ L h' m) (N : News h₀ L h' news) (e : y = x) : Q (.str y t) { s with heap := h', toks := tk' } := by
  subst e
  exact hret t h' tk' F N
theorem retB {x y : Bool} (hret : ∀ (t : Tok) (h' : Heap) (tk' : Nat), Fr h₀ L h' m → News h₀ L h' news → Q ((fun _ => .bool x) t) { s with heap := h', toks := tk' }) (F : Fr h₀ L h' m) (N : News h₀ L h' news) (e : y = x) : Q (.bool y) { s with heap := h', toks := tk' } := by
  subst e
  exact hret 0 h' tk' F N
theorem Cl.use {d : Nat} {w : World} {mean : ExcName → Option Value} {mg mb : Str → Option Value} {f : Addr} {vs : List Value} (C : Cl d w mean mg mb f vs R)
    {dp un : Nat} {gd : Option (List Code)} {cn : Str} {cs : Scope} {a : Addr} {ccd : Value} {cl : List (Str × Addr)} {outer : List Env} {A₀ : Around} {base : Heap}
    (B : Below A₀ base outer h₀) (F : Fr h₀ L s.heap m) (X : (hd.heap_39 w.params).In h₀) (N : News h₀ L s.heap news)
    (T : Top hd.view_39 (looseW hd.view_39 [Str.ofString "BLANKS", Str.ofString "LINE_ENDS"]) mean mg mb h₀) (hk : cs.kind = .function)
    (hd : dp + d < recursionLimit) (hu : un + 8 * d < cLine)
    (ret : ∀ (t : Tok) (h' : Heap) (tk' : Nat), Fr h₀ L h' m → News h₀ L h' news → Q (R t) { s with heap := h', toks := tk' }) :
    wpAny (model PySem.Challenge.rw_sa0355_01.row.prog w) (ktrTop dp un gd cn cs L a ccd cl outer) (call (.ref f) vs) Q E s := C _ _ _ _ _ _ _ _ _ _ _ _ _ _ _ _ _ _ B F X N T hk hd hu ret
end

theorem drop1 {h₀ h : Heap} {L : Addr} {p : Addr × Obj} {news : List (Addr × Obj)} (N : News h₀ L h (p :: news)) : News h₀ L h news := fun q hq => N q (.tail _ hq)
theorem dropA {h₀ h : Heap} {L : Addr} {own news : List (Addr × Obj)} (N : News h₀ L h (news ++ own)) : News h₀ L h news := fun q hq => N q (List.mem_append_left _ hq)
set_option maxRecDepth 100000 in
set_option maxHeartbeats 4000000 in
theorem clamp_cl (w : World) (mean : ExcName → Option Value) (mg mb : Str → Option Value) (p n : Int) (tp tn : Tok) :
    Cl 1 w mean mg mb 37 [.int p tp, .int n tn] (fun t => .int (clampZ p n) t) := by
  unfold Cl
  k_fill
  k_with_none
  w_top off
  intro dp un gd cn cs a ccd cl outer A₀ base h₀ L m news s Q E B F X N T hk hd hu hret
  refine wpAny_call ?_
  k_dflt cell_enter
  k_steps
  refine retI hret (by k_asm) (by k_asm) ?_
  unfold clampZ
  (repeat' split) <;> omega

set_option maxRecDepth 100000 in
set_option maxHeartbeats 4000000 in
theorem either_cl (w : World) (mean : ExcName → Option Value) (mg mb : Str → Option Value) (p n : Int) (tp tn : Tok) :
    Cl 1 w mean mg mb 44 [.int p tp, .int n tn] (fun t => .int (eitherZ p n) t) := by
  unfold Cl
  k_fill
  k_with_none
  w_top off
  intro dp un gd cn cs a ccd cl outer A₀ base h₀ L m news s Q E B F X N T hk hd hu hret
  refine wpAny_call ?_
  k_dflt cell_enter
  k_steps
  all_goals (refine retI hret (by k_asm) (by k_asm) ?_)
  all_goals (simp only [decide_eq_true_eq, decide_eq_false_iff_not] at *)
  all_goals (unfold eitherZ; (repeat' split) <;> omega)

end

section
local macro_rules | `(tactic| walk_at "call ref") => `(tactic| (k_here; (with_reducible show wpAny _ _ (call (Value.ref 37) _) _ _ _); k_dflt (refine' Cl.use (clamp_cl _ _ _ _ _ _ _ _) ?B ?F ?X ?N ?T ?hk ?hd ?hu ?_; (case B => k_asm); (case F => k_asm); (case X => k_asm); (case N => k_asm); (case T => k_asm); (case hk => first | exact rfl | assumption); (case hd => ktr_room); (case hu => ktr_units); k_whole); intro t9 h9 tk9 F9 N9; (try dsimp only); (try k_sweep); (try k_fold)))
local macro_rules | `(tactic| walk_at "call ref") => `(tactic| (k_here; (with_reducible show wpAny _ _ (call (Value.ref 44) _) _ _ _); k_dflt (refine' Cl.use (either_cl _ _ _ _ _ _ _ _) ?B ?F ?X ?N ?T ?hk ?hd ?hu ?_; (case B => k_asm); (case F => k_asm); (case X => k_asm); (case N => k_asm); (case T => k_asm); (case hk => first | exact rfl | assumption); (case hd => ktr_room); (case hu => ktr_units); k_whole); intro t9 h9 tk9 F9 N9; (try dsimp only); (try k_sweep); (try k_fold)))
set_option maxRecDepth 100000 in
set_option maxHeartbeats 4000000 in
theorem slice_cl (w : World) (mean : ExcName → Option Value) (mg mb : Str → Option Value) (x : Str) (hx : x.length ≤ 1000) (p q : Int) (tx tp tq : Tok) :
    Cl 2 w mean mg mb 51 [.str x tx, .int p tp, .int q tq] (fun t => .str (sliceT x p q) t) := by
  unfold Cl
  k_fill
  k_with_none
  w_top off
  intro dp un gd cn cs a ccd cl outer A₀ base h₀ L m news s Q E B F X N T hk hd hu hret
  refine wpAny_call ?_
  k_dflt cell_enter
  k_steps
  all_goals (refine retS hret (by k_asm) (by k_asm) ?_)
  all_goals (simp only [decide_eq_true_eq, decide_eq_false_iff_not] at *)
  all_goals (unfold sliceT)
  · exact slice_sub x (either_ge _ _) (either_ge _ _)
  · rw [sub_lo x (by omega), empty_str]
set_option maxRecDepth 100000 in
set_option maxHeartbeats 4000000 in
theorem sliceN_cl (w : World) (mean : ExcName → Option Value) (mg mb : Str → Option Value) (x : Str) (hx : x.length ≤ 1000) (p : Int) (tx tp : Tok) :
    Cl 2 w mean mg mb 51 [.str x tx, .int p tp, .none] (fun t => .str (sliceN x p) t) := by
  unfold Cl
  k_fill
  k_with_none
  w_top off
  intro dp un gd cn cs a ccd cl outer A₀ base h₀ L m news s Q E B F X N T hk hd hu hret
  refine wpAny_call ?_
  k_dflt cell_enter
  k_steps
  all_goals (refine retS hret (by k_asm) (by k_asm) ?_)
  all_goals (simp only [decide_eq_true_eq, decide_eq_false_iff_not] at *)
  all_goals (unfold sliceN)
  · exact slice_sub x (either_ge _ _) (by omega)
  · rw [sub_lo x (by omega), empty_str]
set_option maxRecDepth 100000 in
set_option maxHeartbeats 4000000 in
theorem substring_cl (w : World) (mean : ExcName → Option Value) (mg mb : Str → Option Value) (x : Str) (hx : x.length ≤ 1000) (p q : Int) (tx tp tq : Tok) :
    Cl 2 w mean mg mb 58 [.str x tx, .int p tp, .int q tq] (fun t => .str (substringT x p q) t) := by
  unfold Cl
  k_fill
  k_with_none
  w_top off
  intro dp un gd cn cs a ccd cl outer A₀ base h₀ L m news s Q E B F X N T hk hd hu hret
  refine wpAny_call ?_
  k_dflt cell_enter
  k_steps
  all_goals (refine retS hret (by k_asm) (by k_asm) ?_)
  unfold substringT
  have h1 := clamp_ge p x.length
  have h2 := clamp_ge q x.length
  rw [slice_sub x (by split <;> omega) (by split <;> omega)]
  congr 1
  · split <;> omega
  · split <;> omega
set_option maxRecDepth 100000 in
set_option maxHeartbeats 4000000 in
theorem substr_cl (w : World) (mean : ExcName → Option Value) (mg mb : Str → Option Value) (x : Str) (hx : x.length ≤ 1000) (p q : Int) (tx tp tq : Tok) :
    Cl 2 w mean mg mb 65 [.str x tx, .int p tp, .int q tq] (fun t => .str (substrT x p q) t) := by
  unfold Cl
  k_fill
  k_with_none
  w_top off
  intro dp un gd cn cs a ccd cl outer A₀ base h₀ L m news s Q E B F X N T hk hd hu hret
  refine wpAny_call ?_
  k_dflt cell_enter
  k_steps
  all_goals (refine retS hret (by k_asm) (by k_asm) ?_)
  all_goals (simp only [decide_eq_true_eq, decide_eq_false_iff_not] at *)
  all_goals (unfold substrT)
  all_goals (have h1 := either_ge p x.length)
  all_goals (have h2 := either_le p x.length)
  · rw [slice_sub x (by omega) (by (repeat' split) <;> omega)]
    congr 1
    (repeat' split) <;> omega
  · rw [sub_lo x ?_, empty_str]
    rename_i hc _ _ _
    revert hc
    (repeat' split) <;> omega
set_option maxRecDepth 100000 in
set_option maxHeartbeats 4000000 in
theorem stands_cl (w : World) (mean : ExcName → Option Value) (mg mb : Str → Option Value) (x y : Str) (hx : x.length ≤ 1000) (hy : y.length ≤ 1000) (p : Int) (hp : 0 ≤ p) (tx ty tp : Tok) :
    Cl 1 w mean mg mb 72 [.str x tx, .str y ty, .int p tp] (fun _ => .bool (standsT x y p)) := by
  unfold Cl
  k_fill
  k_with_none
  w_top off
  intro dp un gd cn cs a ccd cl outer A₀ base h₀ L m news s Q E B F X N T hk hd hu hret
  refine wpAny_call ?_
  k_dflt cell_enter
  k_steps
  all_goals (refine retB hret (by k_asm) (by k_asm) ?_)
  unfold standsT
  rw [slice_sub x hp (by omega)]
set_option maxRecDepth 100000 in
set_option maxHeartbeats 4000000 in
theorem put_cl (w : World) (mean : ExcName → Option Value) (mg mb : Str → Option Value) (x y : Str) (hx : x.length ≤ 1000) (hy : y.length ≤ 1000) (p q : Int) (hp : 0 ≤ p) (hq : 0 ≤ q) (tx ty tp tq : Tok) :
    Cl 1 w mean mg mb 114 [.str x tx, .int p tp, .int q tq, .str y ty] (fun t => .str (putT x p q y) t) := by
  unfold Cl
  k_fill
  k_with_none
  w_top off
  intro dp un gd cn cs a ccd cl outer A₀ base h₀ L m news s Q E B F X N T hk hd hu hret
  refine wpAny_call ?_
  k_dflt cell_enter
  k_steps
  all_goals (refine retS hret (by k_asm) (by k_asm) ?_)
  unfold putT
  rw [slice_to x hp, slice_from x (by omega)]
set_option maxRecDepth 100000 in
set_option maxHeartbeats 4000000 in
theorem white_cl (w : World) (mean : ExcName → Option Value) (mg mb : Str → Option Value) (p : Int) (tp : Tok) :
    Cl 1 w mean mg mb 23 [.int p tp] (fun _ => .bool (whiteZ p)) := by
  unfold Cl
  k_fill
  k_with_none
  w_top off
  intro dp un gd cn cs a ccd cl outer A₀ base h₀ L m news s Q E B F X N T hk hd hu hret
  refine wpAny_call ?_
  k_dflt cell_enter
  k_steps
  all_goals (refine retB hret (by k_asm) (by k_asm) ?_)
  all_goals (rw [Bool.eq_iff_iff])
  all_goals (simp only [whiteZ, List.contains_cons, List.contains_nil, Bool.or_eq_true, Bool.and_eq_true, Bool.or_false, decide_eq_true_eq, decide_eq_false_iff_not, beq_iff_eq, Bool.not_eq_true, ← Bool.not_eq_true] at *)
  all_goals omega
set_option maxRecDepth 100000 in
set_option maxHeartbeats 4000000 in
theorem lineend_cl (w : World) (mean : ExcName → Option Value) (mg mb : Str → Option Value) (p : Int) (tp : Tok) :
    Cl 1 w mean mg mb 30 [.int p tp] (fun _ => .bool (lineZ p)) := by
  unfold Cl
  k_fill
  k_with_none
  w_top off
  intro dp un gd cn cs a ccd cl outer A₀ base h₀ L m news s Q E B F X N T hk hd hu hret
  refine wpAny_call ?_
  k_dflt cell_enter
  k_steps
  all_goals (refine retB hret (by k_asm) (by k_asm) ?_)
  all_goals (rw [Bool.eq_iff_iff])
  all_goals (simp only [lineZ, List.contains_cons, List.contains_nil, Bool.or_eq_true, Bool.and_eq_true, Bool.or_false, decide_eq_true_eq, decide_eq_false_iff_not, beq_iff_eq])
local macro_rules | `(tactic| walk_at "call ref") => `(tactic| (k_here; (with_reducible show wpAny _ _ (call (Value.ref 23) _) _ _ _); k_dflt (refine' Cl.use (white_cl _ _ _ _ _ _) ?B ?F ?X ?N ?T ?hk ?hd ?hu ?_; (case B => k_asm); (case F => k_asm); (case X => k_asm); (case N => k_asm); (case T => k_asm); (case hk => first | exact rfl | assumption); (case hd => ktr_room); (case hu => ktr_units); k_whole); intro t9 h9 tk9 F9 N9; (try dsimp only); (try k_sweep); (try k_fold)))
local macro_rules | `(tactic| walk_at "call ref") => `(tactic| (k_here; (with_reducible show wpAny _ _ (call (Value.ref 30) _) _ _ _); k_dflt (refine' Cl.use (lineend_cl _ _ _ _ _ _) ?B ?F ?X ?N ?T ?hk ?hd ?hu ?_; (case B => k_asm); (case F => k_asm); (case X => k_asm); (case N => k_asm); (case T => k_asm); (case hk => first | exact rfl | assumption); (case hd => ktr_room); (case hu => ktr_units); k_whole); intro t9 h9 tk9 F9 N9; (try dsimp only); (try k_sweep); (try k_fold)))
set_option maxRecDepth 100000 in
set_option maxHeartbeats 4000000 in
theorem blank_cl (w : World) (mean : ExcName → Option Value) (mg mb : Str → Option Value) (y : Str) (c : Nat) (hy : y = ⟨#[c]⟩) (tp : Tok) :
    Cl 2 w mean mg mb 100 [.str y tp] (fun _ => .bool (whiteZ c || lineZ c)) := by
  subst hy
  unfold Cl
  k_fill
  k_with_none
  w_top off
  intro dp un gd cn cs a ccd cl outer A₀ base h₀ L m news s Q E B F X N T hk hd hu hret
  refine wpAny_call ?_
  k_dflt cell_enter
  k_steps
  all_goals (refine retB hret (by k_asm) (by k_asm) ?_)
  all_goals simp_all

end

section
theorem blank_item (w : World) (mean : ExcName → Option Value) (mg mb : Str → Option Value) (x : Str) (i : Int) (h0 : 0 ≤ i) (h1 : i < x.length) (tp : Tok) :
    Cl 2 w mean mg mb 100 [.str (Txt.item x i) tp] (fun _ => .bool (blankAt x i.toNat)) :=
  blank_cl w mean mg mb _ _ (item_at h0 h1 rfl) tp
local macro_rules | `(tactic| walk_at "call ref") => `(tactic| (k_here; (with_reducible show wpAny _ _ (call (Value.ref 100) _) _ _ _); k_dflt (refine' Cl.use (blank_item _ _ _ _ _ _ (by omega) (by omega) _) ?B ?F ?X ?N ?T ?hk ?hd ?hu ?_; (case B => k_asm); (case F => k_asm); (case X => k_asm); (case N => k_asm); (case T => k_asm); (case hk => first | exact rfl | assumption); (case hd => ktr_room); (case hu => ktr_units); k_whole); intro t9 h9 tk9 F9 N9; (try dsimp only); (try k_sweep); (try k_fold)))

section
variable {x : Str} {i j : Nat} {f l : Int}
theorem trim_up (h3 : i < j → blankAt x i = false ∧ blankAt x (j - 1) = false) (P0 : 0 ≤ f) (P2 : i < j → f ≤ i) (hb : blankAt x f.toNat = true) (hl : f < x.length) :
    0 ≤ f + 1 ∧ f + 1 ≤ (x.length : Int) ∧ (i < j → f + 1 ≤ i) := by
  refine ⟨by omega, by omega, fun h => ?_⟩
  have a := P2 h
  by_cases e : f = i
  · have := (h3 h).1
    rw [show i = f.toNat by omega, hb] at this
    cases this
  · omega
theorem trim_dn (h3 : i < j → blankAt x i = false ∧ blankAt x (j - 1) = false) (P1 : l ≤ (x.length : Int)) (P2 : i < j → (j : Int) ≤ l) (hb : blankAt x (l - 1).toNat = true) (hl : l > f) (h0 : 0 ≤ f) :
    f ≤ l - 1 ∧ l - 1 ≤ (x.length : Int) ∧ (i < j → (j : Int) ≤ l - 1) := by
  refine ⟨by omega, by omega, fun h => ?_⟩
  have a := P2 h
  by_cases e : l = j
  · have := (h3 h).2
    rw [show j - 1 = (l - 1).toNat by omega, hb] at this
    cases this
  · omega
theorem trim_end (hij : i ≤ j) (hj : j ≤ x.length) (h1 : ∀ k, k < i → blankAt x k = true) (h2 : ∀ k, j ≤ k → k < x.length → blankAt x k = true)
    (P0 : 0 ≤ f) (P1 : f ≤ (x.length : Int)) (P2 : i < j → f ≤ i) (R0 : f ≤ l) (R1 : l ≤ (x.length : Int)) (R2 : i < j → (j : Int) ≤ l)
    (hf : ¬ f < x.length ∨ blankAt x f.toNat = false) (hl : ¬ l > f ∨ blankAt x (l - 1).toNat = false) : Txt.slice x (some f) (some l) = sub x i j := by
  rw [slice_sub x P0 (by omega)]
  by_cases h : i < j
  · have a := P2 h
    have b := R2 h
    have ef : f = i := by
      rcases hf with hf | hf
      · omega
      · by_cases e : f = i
        · exact e
        · rw [h1 f.toNat (by omega)] at hf; cases hf
    have el : l = j := by
      rcases hl with hl | hl
      · omega
      · by_cases e : l = j
        · exact e
        · rw [h2 (l - 1).toNat (by omega) (by omega)] at hl; cases hl
    rw [ef, el]
  · have e : i = j := by omega
    subst e
    have ef : ¬ f < x.length := by
      rcases hf with hf | hf
      · exact hf
      · intro hlt
        by_cases q : f.toNat < i
        · rw [h1 _ q] at hf; cases hf
        · rw [h2 f.toNat (by omega) (by omega)] at hf; cases hf
    rw [sub_over x (by omega), sub_lo x (by omega)]
end
set_option maxRecDepth 100000 in
set_option maxHeartbeats 4000000 in
theorem trim_cl (w : World) (mean : ExcName → Option Value) (mg mb : Str → Option Value) (x : Str) (hx : x.length ≤ 1000) (i j : Nat) (hij : i ≤ j) (hj : j ≤ x.length)
    (h1 : ∀ k, k < i → blankAt x k = true) (h2 : ∀ k, j ≤ k → k < x.length → blankAt x k = true)
    (h3 : i < j → blankAt x i = false ∧ blankAt x (j - 1) = false) (tx : Tok) :
    Cl 3 w mean mg mb 107 [.str x tx] (fun t => .str (sub x i j) t) := by
  unfold Cl
  k_fill
  k_with_none
  w_top off
  intro dp un gd cn cs a ccd cl outer A₀ base h₀ L m news s Q E B F X N T hk hd hu hret
  refine wpAny_call ?_
  k_dflt cell_enter
  (k_with "exec While BoolOp cons nil" => k_while (fun _ f => 0 ≤ f ∧ f ≤ (x.length : Int) ∧ (i < j → f ≤ i)) (fun _ f => (x.length - f).toNat) "first")
  (k_with "exec While BoolOp cons nil" => k_while_given ["first"] (fun f _ l => f ≤ l ∧ l ≤ (x.length : Int) ∧ (i < j → (j : Int) ≤ l)) (fun f _ l => (l - f).toNat) "last")
  (k_with "state" => ((try simp only [decide_eq_true_eq] at *); first | omega | exact trim_up h3 (by assumption) (by assumption) (by assumption) (by assumption) | exact trim_dn h3 (by assumption) (by assumption) (by assumption) (by assumption) (by assumption)))
  (k_with "measure" => ((try simp only [decide_eq_true_eq] at *); omega))
  k_steps
  all_goals (refine retS hret (by k_asm) (drop1 (by assumption)) ?_)
  all_goals (simp only [decide_eq_true_eq, decide_eq_false_iff_not] at *)
  all_goals (exact trim_end hij hj h1 h2 (by assumption) (by assumption) (by assumption) (by assumption) (by assumption) (by assumption) (by first | exact .inl (by omega) | exact .inr (by assumption)) (by first | exact .inl (by omega) | exact .inr (by assumption)))

end

section
theorem clamp_zero (w : World) (mean : ExcName → Option Value) (mg mb : Str → Option Value) (n : Nat) (tp tn : Tok) : Cl 1 w mean mg mb 37 [.int 0 tp, .int n tn] (fun t => .int 0 t) := by
  have h := clamp_cl w mean mg mb 0 n tp tn
  have e : clampZ 0 n = 0 := by unfold clampZ; omega
  rw [e] at h
  exact h
theorem clamp_top (w : World) (mean : ExcName → Option Value) (mg mb : Str → Option Value) (n : Nat) (tp tn : Tok) : Cl 1 w mean mg mb 37 [.int n tp, .int n tn] (fun t => .int n t) := by
  have h := clamp_cl w mean mg mb n n tp tn
  have e : clampZ n n = n := by unfold clampZ; omega
  rw [e] at h
  exact h
local macro_rules | `(tactic| walk_at "call ref") => `(tactic| (k_here; (with_reducible show wpAny _ _ (call (Value.ref 37) _) _ _ _); k_dflt (refine' Cl.use (clamp_zero _ _ _ _ _ _ _) ?B ?F ?X ?N ?T ?hk ?hd ?hu ?_; (case B => k_asm); (case F => k_asm); (case X => k_asm); (case N => k_asm); (case T => k_asm); (case hk => first | exact rfl | assumption); (case hd => ktr_room); (case hu => ktr_units); k_whole); intro t9 h9 tk9 F9 N9; (try dsimp only); (try k_sweep); (try k_fold)))
local macro_rules | `(tactic| walk_at "call ref") => `(tactic| (k_here; (with_reducible show wpAny _ _ (call (Value.ref 37) _) _ _ _); k_dflt (refine' Cl.use (clamp_top _ _ _ _ _ _ _) ?B ?F ?X ?N ?T ?hk ?hd ?hu ?_; (case B => k_asm); (case F => k_asm); (case X => k_asm); (case N => k_asm); (case T => k_asm); (case hk => first | exact rfl | assumption); (case hd => ktr_room); (case hu => ktr_units); k_whole); intro t9 h9 tk9 F9 N9; (try dsimp only); (try k_sweep); (try k_fold)))
local macro_rules | `(tactic| walk_at "call ref") => `(tactic| (k_here; (with_reducible show wpAny _ _ (call (Value.ref 72) _) _ _ _); k_dflt (refine' Cl.use (stands_cl _ _ _ _ _ _ (by first | assumption | omega) (by first | assumption | omega) _ (by first | assumption | omega | (split at * <;> omega)) _ _ _) ?B ?F ?X ?N ?T ?hk ?hd ?hu ?_; (case B => k_asm); (case F => k_asm); (case X => k_asm); (case N => k_asm); (case T => k_asm); (case hk => first | exact rfl | assumption); (case hd => ktr_room); (case hu => ktr_units); k_whole); intro t9 h9 tk9 F9 N9; (try dsimp only); (try k_sweep); (try k_fold)))
local macro_rules | `(tactic| walk_at "pyIter ref") => `(tactic| k_extra "pyIter ref")
section
variable {x y : Str} {pre : List Int} {k a : Int}
theorem find_step (hk : k = 0 + (pre.length : Int)) (P : ∀ v : Int, 0 ≤ v → v < (pre.length : Int) → standsT x y v = false) (h : standsT x y k = false) :
    ∀ v : Int, 0 ≤ v → v < ((pre ++ [k]).length : Int) → standsT x y v = false := by
  intro v h0 h1
  by_cases e : v = k
  · rw [e]; exact h
  · refine P v h0 ?_
    simp only [List.length_append, List.length_cons, List.length_nil] at h1
    omega
theorem find_hit (hk : k = 0 + (pre.length : Int)) (hl : pre.length < ((x.length : Int) - y.length + 1 - 0).toNat) (P : ∀ v : Int, 0 ≤ v → v < (pre.length : Int) → standsT x y v = false) (h : standsT x y k = true) :
    k = findT x y := by
  have e : (List.range (x.length + 1 - y.length)).find? (fun (i : Nat) => standsT x y i) = some pre.length := by
    rw [List.find?_range_eq_some]
    refine ⟨?_, List.mem_range.mpr (by omega), fun j hj => ?_⟩
    · rw [← h, hk]; congr 1; omega
    · rw [P j (by omega) (by omega)]; rfl
  unfold findT
  rw [e, hk]
  simp
theorem find_miss (P : ∀ v : Int, 0 ≤ v → v < ((rangeKs 0 ((x.length : Int) - y.length + 1 - 0).toNat).length : Int) → standsT x y v = false) : -1 = findT x y := by
  have e : (List.range (x.length + 1 - y.length)).find? (fun (i : Nat) => standsT x y i) = none := by
    rw [List.find?_range_eq_none]
    intro i hi
    rw [P i (by omega) (by rw [rangeKs_length]; omega)]; rfl
  unfold findT
  rw [e]
theorem back_step (hk : k = a - (pre.length : Int)) (ha : a = (x.length : Int) - y.length) (P : ∀ v : Int, (x.length : Int) - y.length - (pre.length : Int) < v → v ≤ (x.length : Int) - y.length → standsT x y v = false) (h : standsT x y k = false) :
    ∀ v : Int, (x.length : Int) - y.length - ((pre ++ [k]).length : Int) < v → v ≤ (x.length : Int) - y.length → standsT x y v = false := by
  intro v h0 h1
  by_cases e : v = k
  · rw [e]; exact h
  · refine P v ?_ h1
    simp only [List.length_append, List.length_cons, List.length_nil] at h0
    omega
theorem back_hit (hk : k = a - (pre.length : Int)) (ha : a = (x.length : Int) - y.length) (hl : pre.length < (a - (-1)).toNat) (P : ∀ v : Int, (x.length : Int) - y.length - (pre.length : Int) < v → v ≤ (x.length : Int) - y.length → standsT x y v = false) (h : standsT x y k = true) :
    k = backT x y := by
  have e : (List.range (x.length + 1 - y.length)).find? (fun (i : Nat) => standsT x y ((x.length : Int) - y.length - i)) = some pre.length := by
    rw [List.find?_range_eq_some]
    refine ⟨?_, List.mem_range.mpr (by omega), fun j hj => ?_⟩
    · rw [← h, hk, ha]
    · rw [P _ (by omega) (by omega)]; rfl
  unfold backT
  rw [e, hk, ha]
theorem back_miss (P : ∀ v : Int, (x.length : Int) - y.length - ((downKs a (a - (-1)).toNat).length : Int) < v → v ≤ (x.length : Int) - y.length → standsT x y v = false) (ha : a = (x.length : Int) - y.length) : -1 = backT x y := by
  have e : (List.range (x.length + 1 - y.length)).find? (fun (i : Nat) => standsT x y ((x.length : Int) - y.length - i)) = none := by
    rw [List.find?_range_eq_none]
    intro i hi
    rw [P _ (by rw [downKs_length]; omega) (by omega)]; rfl
  unfold backT
  rw [e]
end
set_option maxRecDepth 100000 in
set_option maxHeartbeats 4000000 in
theorem find_cl (w : World) (mean : ExcName → Option Value) (mg mb : Str → Option Value) (x y : Str) (hx : x.length ≤ 1000) (hy : y.length ≤ 1000) (tx ty t0 : Tok) :
    Cl 2 w mean mg mb 79 [.str x tx, .str y ty, .int 0 t0] (fun t => .int (findT x y) t) := by
  unfold Cl
  k_fill
  k_with_none
  w_top off
  intro dp un gd cn cs a ccd cl outer A₀ base h₀ L m news s Q E B F X N T hk hd hu hret
  refine wpAny_call ?_
  k_dflt cell_enter
  (k_with "pyIter ref" => k_search (fun pre => ∀ v : Int, 0 ≤ v → v < (pre.length : Int) → standsT x y v = false))
  (k_with "state" => first | (intro v h0 h1; exfalso; simp at h1; omega) | exact find_step (by assumption) (by assumption) (by assumption))
  k_steps
  all_goals (refine retI hret (by k_asm) (by first | k_asm | exact dropA (by assumption) | exact drop1 (by assumption)) ?_)
  all_goals (first | exact find_hit (by assumption) (by assumption) (by assumption) (by assumption) | exact find_miss (by assumption))
set_option maxRecDepth 100000 in
set_option maxHeartbeats 4000000 in
theorem back_cl (w : World) (mean : ExcName → Option Value) (mg mb : Str → Option Value) (x y : Str) (hx : x.length ≤ 1000) (hy : y.length ≤ 1000) (tx ty t0 : Tok) :
    Cl 2 w mean mg mb 86 [.str x tx, .str y ty, .int x.length t0] (fun t => .int (backT x y) t) := by
  unfold Cl
  k_fill
  k_with_none
  w_top off
  intro dp un gd cn cs a ccd cl outer A₀ base h₀ L m news s Q E B F X N T hk hd hu hret
  refine wpAny_call ?_
  k_dflt cell_enter
  k_with_none
  k_with "pyIter ref" =>
    rename Fr _ _ _ _ => lF'
    rename News _ _ _ _ => lN'
    rename IsRange _ _ _ _ _ _ _ _ => rgX
    (with_unfolding_all refine' kst_rangeD (σ := Unit) (fun _ => _) (fun _ => []) (fun _ => True) [] (fun pre _ => ∀ v : Int, (x.length : Int) - y.length - (pre.length : Int) < v → v ≤ (x.length : Int) - y.length → standsT x y v = false) () (by rfl) rgX ?ks (rangeSize_downNat _ _) lF' lN' trivial (fun _ h => nomatch h) ?kp ?_ ?_)
    case ks => (refine small_down ?_ ?_ ?_ ?_ <;> (try split) <;> omega)
    case kp => (intro v h0 h1; exfalso; simp at h0; omega)
    rotate_left
    (intro kC kU kH kTk kFacts kInv kFr kNews; (try dsimp only [kstB] at kFr); (try dsimp only at kNews); (try dsimp only at kInv); (try k_fold))
    rotate_left
    (intro kC kPre kN kT kU kH kTk kOwn kEq kLt kOff kFacts kInv kFr kNews; (try dsimp only [kstB] at kFr); (try dsimp only at kNews); (try dsimp only at kInv); (try dsimp only at kOff); (try k_fold))
  (k_with "state" => exact back_step (by assumption) (by split <;> omega) (by assumption) (by assumption))
  k_steps
  all_goals (refine retI hret (by k_asm) (by first | k_asm | exact dropA (by assumption) | exact drop1 (by assumption)) ?_)
  all_goals (first | exact back_hit (by assumption) (by split <;> omega) (by assumption) (by assumption) (by assumption) | exact back_miss (by assumption) (by split <;> omega))

end

section
local macro_rules | `(tactic| walk_at "exec While Compare cons nil") => `(tactic| k_extra "exec While Compare cons nil")
theorem cut_meas {x y : Str} {i a n : Int} {m : Nat} (h0 : 0 ≤ a) (P : CutP x y i a) (h : n = -1 ∨ a < n) (hm : m = x.length) : (if n < 0 then 0 else (x.length - n).toNat) < (if a < 0 then 0 else (x.length - a).toNat) := by
  rcases P with ⟨h, _⟩ | ⟨_, hl, _⟩
  · omega
  · (repeat' split) <;> omega
set_option maxRecDepth 100000 in
set_option maxHeartbeats 4000000 in
theorem cuts_cl (w : World) (mean : ExcName → Option Value) (mg mb : Str → Option Value) (x y : Str) (hx : x.length ≤ 1000) (hy : y.length ≤ 1000) (h1 : 1 ≤ y.length) (tx ty : Tok) :
    Cl 1 w mean mg mb 121 [.str x tx, .str y ty] (fun t => .int (cntW x y 0) t) := by
  unfold Cl
  k_fill
  k_with_none
  w_top off
  intro dp un gd cn cs a ccd cl outer A₀ base h₀ L m news s Q E B F X N T hk hd hu hret
  refine wpAny_call ?_
  k_dflt cell_enter
  k_with_none
  (k_with "exec While Compare cons nil" => k_while (fun _ i a => CutP x y i a) (fun _ i a => if a < 0 then 0 else (x.length - a).toNat) "many" "at")
  (k_with "state" => (first | exact cut_init h1 | exact (cut_step h1 (by assumption) (by assumption)).1))
  (k_with "measure" => (first | exact cut_meas (by assumption) (by assumption) (cut_step h1 (by assumption) (by assumption)).2 rfl))
  k_steps
  all_goals (refine retI hret (by k_asm) (by first | k_asm | exact drop1 (by assumption)) ?_)
  all_goals (simp only [decide_eq_true_eq, decide_eq_false_iff_not, ge_iff_le] at *)
  all_goals (exact cut_stop (by first | assumption | omega) (by assumption))

end

section
structure Stop (P : Prop) : Prop where
  out : P
local macro_rules | `(tactic| walk_at "exec While Compare cons nil") => `(tactic| refine Stop.out ?_)
local macro_rules | `(tactic| walk_at "call ref") => `(tactic| (k_here; (with_reducible show wpAny _ _ (call (Value.ref 72) _) _ _ _); k_dflt (refine' Cl.use (stands_cl _ _ _ _ _ _ (by first | assumption | omega) (by first | assumption | omega) _ (by first | assumption | omega) _ _ _) ?B ?F ?X ?N ?T ?hk ?hd ?hu ?_; (case B => k_asm); (case F => k_asm); (case X => k_asm); (case N => k_asm); (case T => k_asm); (case hk => first | exact rfl | assumption); (case hd => ktr_room); (case hu => ktr_units); k_whole); intro t9 h9 tk9 F9 N9; (try dsimp only); (try k_sweep); (try k_fold)))
def ClL (d : Nat) (w : World) (mean : ExcName → Option Value) (mg mb : Str → Option Value) (f : Addr) (vs : List Value) (ws : List Str) : Prop :=
  ∀ (dp un : Nat) (gd : Option (List Code)) (cn : Str) (cs : Scope) (a : Addr) (ccd : Value) (cl : List (Str × Addr)) (outer : List Env) (A₀ : Around) (base h₀ : Heap) (L : Addr) (m : Str → Option Value) (news : List (Addr × Obj)) (s : Shared) (Q E : Value → Shared → Prop),
    Below A₀ base outer h₀ → Fr h₀ L s.heap m → (hd.heap_39 w.params).In h₀ → News h₀ L s.heap news →
    Top hd.view_39 (looseW hd.view_39 [Str.ofString "BLANKS", Str.ofString "LINE_ENDS"]) mean mg mb h₀ → cs.kind = .function →
    dp + d < recursionLimit → un + 8 * d < cLine →
    (∀ (D : Addr) (us : List Value) (k : Nat) (h' : Heap) (tk' : Nat), Fr h₀ L h' m → News h₀ L h' ((D, listOf us.toArray k) :: news) → StrsAre us ws → Q (.ref D) { s with heap := h', toks := tk' }) →
    wpAny (model PySem.Challenge.rw_sa0355_01.row.prog w) (ktrTop dp un gd cn cs L a ccd cl outer) (call (.ref f) vs) Q E s
structure SplitS where
  us : List Value
  ws : List Str
  k : Nat
  b : Int
  tb : Tok
  a : Int
  ta : Tok
structure SplitR (x y : Str) (ws : List Str) (b a : Int) : Prop where
  eq : ws ++ partsW x y b.toNat a.toNat = partsW x y 0 0
theorem split_init {x y : Str} {n : Int} (h : ¬ n = 0) (h0 : 0 ≤ n) : (0 : Int) ≤ 0 ∧ (0 : Int) ≤ 0 ∧ (0 : Int) ≤ x.length ∧ (([] : List Str).length : Int) ≤ 0 ∧ (([] : List Str).length : Int) < n ∧ SplitR x y [] 0 0 :=
  ⟨by omega, by omega, by omega, by simp, by simp; omega, ⟨rfl⟩⟩
section
variable {x y : Str} {n a b : Int} {ws : List Str}
theorem split_on (h : a < x.length) (hs : standsT x y a = false ∨ a + y.length = b) (p0 : 0 ≤ b) (p1 : b ≤ a) (p3 : (ws.length : Int) ≤ b) (p4 : (ws.length : Int) < n) (p5 : SplitR x y ws b a) :
    0 ≤ b ∧ b ≤ a + 1 ∧ a + 1 ≤ (x.length : Int) ∧ (ws.length : Int) ≤ b ∧ (ws.length : Int) < n ∧ SplitR x y ws b (a + 1) := by
  refine ⟨p0, by omega, by omega, p3, p4, ⟨?_⟩⟩
  have e : (a.toNat : Int) = a := by omega
  have e2 : (a + 1).toNat = a.toNat + 1 := by omega
  have q := parts_on (x := x) (y := y) (b := b.toNat) (a := a.toNat) (by omega) (by rw [e]; rcases hs with hs | hs; exact .inl hs; exact .inr (by omega))
  rw [e2, ← q]
  exact p5.eq
theorem split_hit (h : a < x.length) (hs : standsT x y a = true) (hb : ¬ a + y.length = b) (hl : ¬ ((ws ++ [Txt.slice x (some b) (some a)]).length : Int) = n) (p0 : 0 ≤ b) (p1 : b ≤ a) (p3 : (ws.length : Int) ≤ b) (p4 : (ws.length : Int) < n) (p5 : SplitR x y ws b a) :
    0 ≤ a + (y.length : Int) ∧ a + (y.length : Int) ≤ a + (y.length : Int) ∧ a + (y.length : Int) ≤ (x.length : Int) ∧ ((ws ++ [Txt.slice x (some b) (some a)]).length : Int) ≤ a + (y.length : Int) ∧ ((ws ++ [Txt.slice x (some b) (some a)]).length : Int) < n ∧ SplitR x y (ws ++ [Txt.slice x (some b) (some a)]) (a + (y.length : Int)) (a + (y.length : Int)) := by
  have e : (a.toNat : Int) = a := by omega
  have eb : (b.toNat : Int) = b := by omega
  have e2 : (a + (y.length : Int)).toNat = a.toNat + y.length := by omega
  have q := parts_hit (x := x) (y := y) (b := b.toNat) (a := a.toNat) (by omega) (by rw [e]; exact hs) (by omega)
  have g := stands_le' (x := x) (y := y) (i := a.toNat) (by rw [e]; exact hs) (by omega)
  simp only [List.length_append, List.length_cons, List.length_nil] at hl ⊢
  refine ⟨by omega, by omega, by omega, by omega, by omega, ⟨?_⟩⟩
  rw [e2, slice_sub x p0 (by omega), ← p5.eq, q, e, eb]
  simp
theorem split_less1 (h : a < x.length) (p0 : 0 ≤ a) : 2 * ((x.length : Int) - (a + 1)).toNat + (if a + 1 + (y.length : Int) = b then 0 else 1) < 2 * ((x.length : Int) - a).toNat + (if a + (y.length : Int) = b then 0 else 1) := by
  (repeat' split) <;> omega
theorem split_less2 (h : a < x.length) (p0 : 0 ≤ a) (hb : ¬ a + y.length = b) : 2 * ((x.length : Int) - (a + (y.length : Int))).toNat + (if a + (y.length : Int) + (y.length : Int) = a + (y.length : Int) then 0 else 1) < 2 * ((x.length : Int) - a).toNat + (if a + (y.length : Int) = b then 0 else 1) := by
  (repeat' split) <;> omega
/-- the first ones, when as many stand as the limit says -/
theorem split_full (h : a < x.length) (hs : standsT x y a = true) (hb : ¬ a + y.length = b) (hl : ((ws ++ [Txt.slice x (some b) (some a)]).length : Int) = n) (p0 : 0 ≤ b) (p1 : b ≤ a) (p5 : SplitR x y ws b a) :
    ws ++ [Txt.slice x (some b) (some a)] = (partsW x y 0 0).take n.toNat := by
  have e : (a.toNat : Int) = a := by omega
  have eb : (b.toNat : Int) = b := by omega
  have q := parts_hit (x := x) (y := y) (b := b.toNat) (a := a.toNat) (by omega) (by rw [e]; exact hs) (by omega)
  rw [slice_sub x p0 (by omega)] at hl ⊢
  rw [← p5.eq, q, e, eb, ← hl]
  have : ws ++ sub x b a :: partsW x y (a.toNat + y.length) (a.toNat + y.length) = (ws ++ [sub x b a]) ++ partsW x y (a.toNat + y.length) (a.toNat + y.length) := by simp
  rw [this]
  exact (List.take_left' (by omega)).symm
theorem split_last (h : ¬ a < x.length) (p0 : 0 ≤ b) (p4 : (ws.length : Int) < n) (p5 : SplitR x y ws b a) :
    ws ++ [Txt.slice x (some b) none] = (partsW x y 0 0).take n.toNat := by
  have eb : (b.toNat : Int) = b := by omega
  have q := parts_end (x := x) (y := y) (b := b.toNat) (a := a.toNat) (by omega)
  rw [slice_from x p0, ← p5.eq, q, eb]
  exact (List.take_of_length_le (by simp; omega)).symm
end
section
variable {h₀ h' : Heap} {L : Addr} {m : Str → Option Value} {news : List (Addr × Obj)} {s : Shared} {Q : Value → Shared → Prop} {tk' : Nat} {D : Addr} {us : List Value} {k : Nat} {vs ws : List Str}
theorem retL (hret : ∀ (D : Addr) (us : List Value) (k : Nat) (h' : Heap) (tk' : Nat), Fr h₀ L h' m → News h₀ L h' ((D, listOf us.toArray k) :: news) → StrsAre us ws → Q (.ref D) { s with heap := h', toks := tk' })
    (F : Fr h₀ L h' m) (N : News h₀ L h' ((D, listOf us.toArray k) :: news)) (S : StrsAre us vs) (e : vs = ws) : Q (.ref D) { s with heap := h', toks := tk' } := by
  subst e
  exact hret D us k h' tk' F N S
end
theorem take_nil' {x y : Str} {n : Int} (h : n = 0) : [] = (splitT x y).take n.toNat := by subst h; simp
theorem len_nil {x : Str} (h : x.length = 0) : x = ⟨#[]⟩ := Str.ext' (Array.eq_empty_of_size_eq_zero h)
theorem len_of_eq {x : Str} (h : (x == Str.ofString "") = true) : x.length = 0 := by rw [beq_iff_eq.mp h, empty_str]; rfl
theorem len_of_ne {x : Str} (h : (x == Str.ofString "") = false) : ¬ x.length = 0 := fun q => by
  rw [len_nil q, empty_str] at h
  exact absurd h (by decide)
theorem split_empty {x y : Str} {n : Int} (hx : (x == Str.ofString "") = true) (hy : (y == Str.ofString "") = true) : [] = (splitT x y).take n.toNat := by
  unfold splitT
  rw [if_pos (len_of_eq hx), if_pos (len_of_eq hy)]; simp
theorem split_whole {x y : Str} {n : Int} (hn : ¬ n = 0) (h0 : 0 ≤ n) (hx : (x == Str.ofString "") = true) (hy : (y == Str.ofString "") = false) : [x] = (splitT x y).take n.toNat := by
  unfold splitT
  rw [if_pos (len_of_eq hx), if_neg (len_of_ne hy)]
  exact (List.take_of_length_le (by simp; omega)).symm
theorem split_full' {x y : Str} (hx : (x == Str.ofString "") = false) : partsW x y 0 0 = splitT x y := by
  unfold splitT
  rw [if_neg (len_of_ne hx)]
local macro_rules | `(tactic| walk_at "call builtin:len") => `(tactic| (k_here; (with_reducible show wpAny _ _ (call (Value.builtin "len") [Value.ref _]) _ _ _); k_dflt (refine' len_strsA (News.isList (by k_asm) (by k_mem)) ?hi ?hf ?_; (case hi => first | assumption | exact StrsAre.append' (by assumption) (.cons _ _ .nil)); (case hf => ((try simp only [List.length_append, List.length_cons, List.length_nil]); omega)))))
set_option maxRecDepth 100000 in
set_option maxHeartbeats 4000000 in
theorem split_cl (w : World) (mean : ExcName → Option Value) (mg mb : Str → Option Value) (x y : Str) (hx : x.length ≤ 1000) (hy : y.length ≤ 1000) (n : Int) (h0 : 0 ≤ n) (tx ty tn : Tok) :
    ClL 2 w mean mg mb 93 [.str x tx, .str y ty, .int n tn] ((splitT x y).take n.toNat) := by
  unfold ClL
  k_fill
  k_with_none
  w_top off
  intro dp un gd cn cs a ccd cl outer A₀ base h₀ L m news s Q E B F X N T hk hd hu hret
  refine wpAny_call ?_
  k_dflt cell_enter
  k_with_none
  k_steps
  rotate_right
  · refine Stop.mk ?_
    rename Fr _ _ _ _ => lF'
    rename News _ _ _ _ => lN'
    refine' ksw_while (σ := SplitS) (fun c => (_, listOf c.us.toArray c.k) :: news) (fun c => [(Str.ofString "begin", .int c.b c.tb), (Str.ofString "at", .int c.a c.ta)]) (fun c => StrsAre c.us c.ws) [Str.ofString "end"]
      (fun c => 0 ≤ c.b ∧ c.b ≤ c.a ∧ c.a ≤ (x.length : Int) ∧ (c.ws.length : Int) ≤ c.b ∧ (c.ws.length : Int) < n ∧ SplitR x y c.ws c.b c.a)
      (fun c => 2 * ((x.length : Int) - c.a).toNat + if c.a + (y.length : Int) = c.b then 0 else 1) ⟨[], [], 0, 0, _, 0, _⟩ lF' (drop1 lN') StrsAre.nil ?kk ?kp ?_
    case kk => kst_all
    case kp => exact split_init (by assumption) (by assumption)
    rintro ⟨us, ws, k, b, tb, a, ta⟩ kU kH kTk hS kInv kFr kNews
    (try dsimp only [kstB] at kFr)
    (try dsimp only at hS kInv kNews)
    obtain ⟨p0, p1, p2, p3, p4, p5⟩ := kInv
    dsimp only
    (try k_fold)
    k_steps
    all_goals first
      | refine retL hret (by k_asm) (by (simp only [List.push_toArray] at *); assumption) (StrsAre.append' (by assumption) (.cons _ _ .nil)) ?_
      | skip
    all_goals first
      | exact (split_full (by assumption) (by assumption) (by assumption) (by assumption) (by assumption) (by assumption) (by assumption)).trans (by rw [split_full' (by assumption)])
      | exact (split_last (by assumption) (by assumption) (by assumption) (by assumption)).trans (by rw [split_full' (by assumption)])
      | ((rename News _ _ _ _ => nE'); (try simp only [List.push_toArray] at nE')
         refine ksw_end (SplitS.mk _ _ _ _ _ _ _) (by assumption) nE' (by kst_in) (by first | assumption | exact StrsAre.append' (by assumption) (.cons _ _ .nil)) (by kst_all) (by ksw_same) ?state ?less
         case state =>
           (try dsimp only)
           first
             | exact split_on (by assumption) (by first | exact .inl (by assumption) | exact .inr (by assumption)) (by assumption) (by assumption) (by assumption) (by assumption) (by assumption)
             | exact split_hit (by assumption) (by assumption) (by assumption) (by assumption) (by assumption) (by assumption) (by assumption) (by assumption) (by assumption)
         case less =>
           (try dsimp only)
           first
             | exact split_less1 (by assumption) (by omega)
             | exact split_less2 (by assumption) (by omega) (by assumption))
  · exact retL hret (by k_asm) (by assumption) .nil (take_nil' (by assumption))
  · exact retL hret (by k_asm) (by assumption) .nil (split_empty (by assumption) (by assumption))
  · exact retL hret (by k_asm) (by assumption) (.cons _ _ .nil) (split_whole (by assumption) (by assumption) (by assumption) (by assumption))

end

section
theorem texts_canLay : ∀ ns : List Str, (∀ p ∈ ns, PyData.strOk p = true) → PyData.canLayAll0 (ns.map PyData.str) = true
  | [], _ => rfl
  | p :: r, h => by
    have h1 := h p (List.mem_cons_self ..)
    have h2 := texts_canLay r fun q hq => h q (List.mem_cons_of_mem _ hq)
    simp [PyData.canLayAll0, PyData.canLay0, h1, h2]
theorem texts_depth : ∀ ns : List Str, PyData.depthAll (ns.map PyData.str) = 0
  | [] => rfl
  | _ :: r => by simp [PyData.depthAll, PyData.depth, texts_depth r]
theorem texts_shaped {ns : List Str} (h : ∀ p ∈ ns, PyData.strOk p = true) : SeqAt.shaped (.list (ns.map PyData.str)) = true := by
  simp [SeqAt.shaped, PyData.canLay0, PyData.depth, texts_canLay ns h, texts_depth]
theorem texts_sameAll : ∀ ns ms : List Str, PySem.Spec.sameAll (ns.map PyData.str) (ms.map PyData.str) = decide (ns = ms)
  | [], [] => by simp [PySem.Spec.sameAll]
  | [], _ :: _ => by simp [PySem.Spec.sameAll]
  | _ :: _, [] => by simp [PySem.Spec.sameAll]
  | a :: r, b :: t => by
    simp only [List.map_cons, PySem.Spec.sameAll, PySem.Spec.same, texts_sameAll r t]
    by_cases h : a = b <;> by_cases h' : r = t <;> simp [h, h']
theorem texts_same (ns ms : List Str) : PySem.Spec.same (.list (ns.map PyData.str)) (.list (ms.map PyData.str)) = decide (ns = ms) := by
  simp only [PySem.Spec.same]; exact texts_sameAll ns ms
theorem texts_ne {prog : Program} {w : World} {A : Around} {E : Value → Shared → Prop} {s : Shared} {a b : Addr} {xs ys : List Value} {ns ms : List Str} {Q : Value → Shared → Prop}
    (ha : s.heap.IsList a xs.toArray) (hb : s.heap.IsList b ys.toArray) (hi : StrsAre xs ns) (hj : StrsAre ys ms) (oi : ∀ p ∈ ns, PyData.strOk p = true) (oj : ∀ p ∈ ms, PyData.strOk p = true) (hu : A.units + 64 < cLine) (h : Q (.bool (!decide (ns = ms))) s) :
    wpAny (model prog w) A (compareOp .NotEq (.ref a) (.ref b)) Q E s :=
  ne_dataH_same (reads_newData ha hi.carried) (reads_newData hb hj.carried) (texts_shaped oi) (texts_shaped oj) hu (SeqAt.noMix_of_shape (.list .str) rfl _ _ (list_map_has fun _ => rfl) (list_map_has fun _ => rfl)) (by rw [texts_same]; exact h)

def lawBody : List Stmt := match PySem.Challenge.pw_sa0355_01.main.body.drop 20 with
  | .FunctionDef _ _ b _ _ _ _ _ _ _ :: _ => b
  | _ => []
def lawScope : Scope := match PySem.Challenge.pw_sa0355_01.main.body.drop 20 with
  | .FunctionDef _ _ _ _ _ _ sc _ _ _ :: _ => sc
  | _ => { kind := .module, names := [], isGenerator := false, isCoroutine := false }
def atStmt (k : Nat) : List Stmt := (lawBody.drop k).take 1
/-- the frame of the law behind its first lines -/
def lawMap (x : Str) (f g : Int) (tx ts tf tg : Tok) (D : Addr) (u : Str → Option Value) : Str → Option Value := fun z =>
  if z = Str.ofString "text" then some (.str x tx) else if z = Str.ofString "size" then some (.int x.length ts) else if z = Str.ofString "first" then some (.int f tf)
  else if z = Str.ofString "last" then some (.int g tg) else if z = Str.ofString "pieces" then some (.ref D) else u z
/-- a line of the law goes on, and all that the next ones look at stands as it stood -/
def LineOn (k : Nat) (P : Str → Str → Int → Int → Prop) : Prop :=
  ∀ (w : World) (mean : ExcName → Option Value) (mg mb : Str → Option Value) (dp un : Nat) (gd : Option (List Code)) (a : Addr) (ccd : Value) (outer : List Env) (A₀ : Around) (base h₀ : Heap) (L : Addr) (s : Shared) (Q : Flow → Shared → Prop) (E : Value → Shared → Prop)
    (x y : Str) (f g : Int) (tx ty ts tf tg : Tok) (D c : Addr) (o : Obj) (us : List Value) (n : Nat) (u : Str → Option Value),
    Below A₀ base outer h₀ → (hd.heap_39 w.params).In h₀ →
    Top hd.view_39 (looseW hd.view_39 [Str.ofString "BLANKS", Str.ofString "LINE_ENDS"]) mean mg mb h₀ →
    dp + 4 < recursionLimit → un + 100 < cLine →
    Fr h₀ L s.heap (lawMap x f g tx ts tf tg D u) → News h₀ L s.heap [(D, listOf us.toArray n), (c, o)] → o.data = .cell (some (.str y ty)) → StrsAre us ((splitT x y).take 99) →
    x.length ≤ 8 → (∀ c ∈ x.cps.toList, c = 97 ∨ c = 98 ∨ c = 45) → y.length ≤ 2 → 0 ≤ f → f ≤ 8 → 0 ≤ g → g ≤ 8 → P x y f g →
    (∀ (h' : Heap) (tk' : Nat) (u' : Str → Option Value), Fr h₀ L h' (lawMap x f g tx ts tf tg D u') → News h₀ L h' [(D, listOf us.toArray n), (c, o)] → Q .next { s with heap := h', toks := tk' }) →
    wpAny (model PySem.Challenge.rw_sa0355_01.row.prog w) (ktrTop dp un gd (Str.ofString "law") lawScope L a ccd [(Str.ofString "separator", c)] outer)
      (execs (atStmt k) (envX (Str.ofString "law") lawScope L a ccd [(Str.ofString "separator", c)])) Q E s
/-- the law's last line hands back True -/
def LineRet (k : Nat) : Prop :=
  ∀ (w : World) (mean : ExcName → Option Value) (mg mb : Str → Option Value) (dp un : Nat) (gd : Option (List Code)) (a : Addr) (ccd : Value) (outer : List Env) (A₀ : Around) (base h₀ : Heap) (L : Addr) (s : Shared) (Q : Flow → Shared → Prop) (E : Value → Shared → Prop)
    (x y : Str) (f g : Int) (tx ty ts tf tg : Tok) (D c : Addr) (o : Obj) (us : List Value) (n : Nat) (u : Str → Option Value),
    Below A₀ base outer h₀ → (hd.heap_39 w.params).In h₀ →
    Top hd.view_39 (looseW hd.view_39 [Str.ofString "BLANKS", Str.ofString "LINE_ENDS"]) mean mg mb h₀ →
    dp + 4 < recursionLimit → un + 100 < cLine →
    Fr h₀ L s.heap (lawMap x f g tx ts tf tg D u) → News h₀ L s.heap [(D, listOf us.toArray n), (c, o)] → o.data = .cell (some (.str y ty)) → StrsAre us ((splitT x y).take 99) →
    x.length ≤ 8 → (∀ c ∈ x.cps.toList, c = 97 ∨ c = 98 ∨ c = 45) → y.length ≤ 2 → 0 ≤ f → f ≤ 8 → 0 ≤ g → g ≤ 8 → 
    (∀ (h' : Heap) (tk' : Nat) (m' : Str → Option Value), Fr h₀ L h' m' → Q (.ret (.bool true)) { s with heap := h', toks := tk' }) →
    wpAny (model PySem.Challenge.rw_sa0355_01.row.prog w) (ktrTop dp un gd (Str.ofString "law") lawScope L a ccd [(Str.ofString "separator", c)] outer)
      (execs (atStmt k) (envX (Str.ofString "law") lawScope L a ccd [(Str.ofString "separator", c)])) Q E s
theorem sub_len (x : Str) (i j : Int) : (sub x i j).length ≤ x.length := by
  show ((x.cps.toList.drop i.toNat).take (j - i).toNat).toArray.size ≤ _
  rw [List.size_toArray, List.length_take, List.length_drop, len_list]
  omega
theorem room8 {x y : Str} (hx : x.length ≤ 8) (hy : y.length ≤ 8) : x.length + y.length ≤ 16777216 := by omega
theorem room88 {x y : Str} (hx : x.length ≤ 80) (hy : y.length ≤ 80) : x.length + y.length ≤ 16777216 := by omega
theorem slice_len8 {x : Str} (h : x.length ≤ 8) (p q : Int) : (sliceT x p q).length ≤ 8 := Nat.le_trans (sub_len x _ _) h
theorem sliceN_len8 {x : Str} (h : x.length ≤ 8) (p : Int) : (sliceN x p).length ≤ 8 := Nat.le_trans (sub_len x _ _) h
theorem ne_absurd {a b : Str} (e : a = b) (h : (a != b) = true) : False := by
  subst e
  simp at h
theorem ne_absurdL {a b : List Str} (e : a = b) (h : (!decide (a = b)) = true) : False := by
  subst e
  simp at h
theorem ClL.use {d : Nat} {w : World} {mean : ExcName → Option Value} {mg mb : Str → Option Value} {f : Addr} {vs : List Value} {ws : List Str} (C : ClL d w mean mg mb f vs ws)
    {h₀ : Heap} {L : Addr} {m : Str → Option Value} {news : List (Addr × Obj)} {s : Shared} {Q E : Value → Shared → Prop}
    {dp un : Nat} {gd : Option (List Code)} {cn : Str} {cs : Scope} {a : Addr} {ccd : Value} {cl : List (Str × Addr)} {outer : List Env} {A₀ : Around} {base : Heap}
    (B : Below A₀ base outer h₀) (F : Fr h₀ L s.heap m) (X : (hd.heap_39 w.params).In h₀) (N : News h₀ L s.heap news)
    (T : Top hd.view_39 (looseW hd.view_39 [Str.ofString "BLANKS", Str.ofString "LINE_ENDS"]) mean mg mb h₀) (hk : cs.kind = .function)
    (hd : dp + d < recursionLimit) (hu : un + 8 * d < cLine)
    (ret : ∀ (D : Addr) (us : List Value) (k : Nat) (h' : Heap) (tk' : Nat), Fr h₀ L h' m → News h₀ L h' ((D, listOf us.toArray k) :: news) → StrsAre us ws → Q (.ref D) { s with heap := h', toks := tk' }) :
    wpAny (model PySem.Challenge.rw_sa0355_01.row.prog w) (ktrTop dp un gd cn cs L a ccd cl outer) (call (.ref f) vs) Q E s := C _ _ _ _ _ _ _ _ _ _ _ _ _ _ _ _ _ _ B F X N T hk hd hu ret

end

section
local macro_rules | `(tactic| walk_at "call ref") => `(tactic| (k_here; (with_reducible show wpAny _ _ (call (Value.ref 51) _) _ _ _); k_dflt (refine' Cl.use (slice_cl _ _ _ _ _ (by omega) _ _ _ _ _) ?B ?F ?X ?N ?T ?hk ?hd ?hu ?_; (case B => k_asm); (case F => k_asm); (case X => k_asm); (case N => k_asm); (case T => k_asm); (case hk => first | exact rfl | assumption); (case hd => ktr_room); (case hu => ktr_units); k_whole); intro t9 h9 tk9 F9 N9; (try dsimp only); (try k_sweep); (try k_fold)))
local macro_rules | `(tactic| walk_at "call ref") => `(tactic| (k_here; (with_reducible show wpAny _ _ (call (Value.ref 51) _) _ _ _); k_dflt (refine' Cl.use (sliceN_cl _ _ _ _ _ (by omega) _ _ _) ?B ?F ?X ?N ?T ?hk ?hd ?hu ?_; (case B => k_asm); (case F => k_asm); (case X => k_asm); (case N => k_asm); (case T => k_asm); (case hk => first | exact rfl | assumption); (case hd => ktr_room); (case hu => ktr_units); k_whole); intro t9 h9 tk9 F9 N9; (try dsimp only); (try k_sweep); (try k_fold)))
local macro_rules | `(tactic| walk_at "call ref") => `(tactic| (k_here; (with_reducible show wpAny _ _ (call (Value.ref 65) _) _ _ _); k_dflt (refine' Cl.use (substr_cl _ _ _ _ _ (by omega) _ _ _ _ _) ?B ?F ?X ?N ?T ?hk ?hd ?hu ?_; (case B => k_asm); (case F => k_asm); (case X => k_asm); (case N => k_asm); (case T => k_asm); (case hk => first | exact rfl | assumption); (case hd => ktr_room); (case hu => ktr_units); k_whole); intro t9 h9 tk9 F9 N9; (try dsimp only); (try k_sweep); (try k_fold)))
local macro_rules | `(tactic| walk_at "call ref") => `(tactic| (k_here; (with_reducible show wpAny _ _ (call (Value.ref 58) _) _ _ _); k_dflt (refine' Cl.use (substring_cl _ _ _ _ _ (by omega) _ _ _ _ _) ?B ?F ?X ?N ?T ?hk ?hd ?hu ?_; (case B => k_asm); (case F => k_asm); (case X => k_asm); (case N => k_asm); (case T => k_asm); (case hk => first | exact rfl | assumption); (case hd => ktr_room); (case hu => ktr_units); k_whole); intro t9 h9 tk9 F9 N9; (try dsimp only); (try k_sweep); (try k_fold)))
local macro_rules | `(tactic| walk_at "call ref") => `(tactic| (k_here; (with_reducible show wpAny _ _ (call (Value.ref 114) _) _ _ _); k_dflt (refine' Cl.use (put_cl _ _ _ _ _ _ (by omega) (by omega) _ _ (by omega) (by omega) _ _ _ _) ?B ?F ?X ?N ?T ?hk ?hd ?hu ?_; (case B => k_asm); (case F => k_asm); (case X => k_asm); (case N => k_asm); (case T => k_asm); (case hk => first | exact rfl | assumption); (case hd => ktr_room); (case hu => ktr_units); k_whole); intro t9 h9 tk9 F9 N9; (try dsimp only); (try k_sweep); (try k_fold)))
local macro_rules | `(tactic| walk_at "call ref") => `(tactic| (k_here; (with_reducible show wpAny _ _ (call (Value.ref 79) _) _ _ _); k_dflt (refine' Cl.use (find_cl _ _ _ _ _ _ (by omega) (by omega) _ _ _) ?B ?F ?X ?N ?T ?hk ?hd ?hu ?_; (case B => k_asm); (case F => k_asm); (case X => k_asm); (case N => k_asm); (case T => k_asm); (case hk => first | exact rfl | assumption); (case hd => ktr_room); (case hu => ktr_units); k_whole); intro t9 h9 tk9 F9 N9; (try dsimp only); (try k_sweep); (try k_fold)))
local macro_rules | `(tactic| walk_at "call ref") => `(tactic| (k_here; (with_reducible show wpAny _ _ (call (Value.ref 86) _) _ _ _); k_dflt (refine' Cl.use (back_cl _ _ _ _ _ _ (by omega) (by omega) _ _ _) ?B ?F ?X ?N ?T ?hk ?hd ?hu ?_; (case B => k_asm); (case F => k_asm); (case X => k_asm); (case N => k_asm); (case T => k_asm); (case hk => first | exact rfl | assumption); (case hd => ktr_room); (case hu => ktr_units); k_whole); intro t9 h9 tk9 F9 N9; (try dsimp only); (try k_sweep); (try k_fold)))
local macro_rules | `(tactic| walk_at "call ref") => `(tactic| (k_here; (with_reducible show wpAny _ _ (call (Value.ref 121) _) _ _ _); k_dflt (refine' Cl.use (cuts_cl _ _ _ _ _ _ (by omega) (by omega) (by omega) _ _) ?B ?F ?X ?N ?T ?hk ?hd ?hu ?_; (case B => k_asm); (case F => k_asm); (case X => k_asm); (case N => k_asm); (case T => k_asm); (case hk => first | exact rfl | assumption); (case hd => ktr_room); (case hu => ktr_units); k_whole); intro t9 h9 tk9 F9 N9; (try dsimp only); (try k_sweep); (try k_fold)))
local macro_rules | `(tactic| walk_at "binaryOp Add str str") => `(tactic| (k_here; (with_reducible show wpAny _ _ (binaryOp Operator.Add (Value.str _ _) (Value.str _ _)) _ _ _); (refine KOpn.add (room8 (by first | exact slice_len8 (by assumption) _ _ | exact sliceN_len8 (by assumption) _) (by first | exact slice_len8 (by assumption) _ _ | exact sliceN_len8 (by assumption) _)) ?_); intro _ _ _))
section
variable {prog : Program} {w : World} {A : Around} {E : Value → Shared → Prop} {s : Shared} {h₀ : Heap} {L l : Addr} {m : Str → Option Value} {news : List (Addr × Obj)} {value slice : PySem.Expr} {vs : List Value} {ns : List Str} {vu : Value} {y : Int} {Q : Value → Shared → Prop}
theorem texts_upto (hi' : StrsAre vs ns) (h : 0 ≤ y) : StrsAre (slicePick vs.toArray none (some y) none).toList (ns.take y.toNat) := by
  rw [kmk_pick_nat _ (kms_bounds none (some y) vs.toArray.size)]
  have e : kms_hi (some y) vs.toArray.size = min y.toNat vs.length := by unfold kms_hi; simp only [List.size_toArray]; rw [if_neg (by omega)]
  rw [e]
  show StrsAre ((vs.drop 0).take (min y.toNat vs.length - 0)) _
  rw [List.drop_zero, Nat.sub_zero, kmk_take_min]
  exact hi'.take' _
theorem slice_texts (F : Fr h₀ L s.heap m) (N : News h₀ L s.heap news) (hl : s.heap.IsList l vs.toArray) (hi' : StrsAre vs ns) (pu : IsPart vu (some y)) (h0 : 0 ≤ y)
    (h : ∀ D ws h', Fr h₀ L h' m → News h₀ L h' ((D, listOf (List.toArray ws) 0) :: news) → StrsAre ws (ns.take y.toNat) → Q (.ref D) { s with heap := h' })
    (hs : subscripted slice false (.ref l) (.ref s.heap.objs.size) = operate [.ref s.heap.objs.size, .ref l] (getItem (.ref l) (.ref s.heap.objs.size))) (ht : ∀ r, letTemporaryGo value (.ref l) r = pure ()) (hz : vs.toArray.size ≤ sizeLine) :
    wpAny (model prog w) A (subscriptTail value slice (.ref l) (.ref s.heap.objs.size)) Q E { s with heap := s.heap.push { cls := .type "slice", data := .fields #[.none, vu, .none] } } := by
  refine kmk_slice F N hl IsPart.none pu (fun D h' F' N' l1 => h D (slicePick vs.toArray none (some y) none).toList h' F' ?_ (texts_upto hi' h0)) hs ht hz
  rw [Array.toArray_toList]
  exact N'
theorem join_room {l : List Str} (h : ∀ p ∈ l, p.length ≤ 8) : ∀ {k : Nat}, l.length ≤ k → (l.map (·.length)).sum ≤ 8 * k := by
  induction l with
  | nil => intro k _; simp
  | cons p r ih =>
    intro k hk
    have := ih (fun q hq => h q (List.mem_cons_of_mem _ hq)) (k := k - 1) (by simp at hk; omega)
    have h1 := h p (List.mem_cons_self ..)
    simp only [List.map_cons, List.sum_cons, List.length_cons] at hk ⊢
    omega
theorem join_room' {l : List Str} {k : Nat} (hk : k ≤ 2) (h : ∀ p ∈ l, p.length ≤ 8) : ((l.take 99).map (·.length)).sum + (l.take 99).length * k ≤ 16777216 := by
  have h2 : (l.take 99).length ≤ 99 := by rw [List.length_take]; omega
  have h1 := join_room (l := l.take 99) (fun p hp => h p (List.mem_of_mem_take hp)) h2
  have h3 := Nat.mul_le_mul h2 hk
  omega
theorem texts_size {us : List Value} {l : List Str} (h : StrsAre us (l.take 99)) : us.toArray.size ≤ sizeLine := by
  rw [List.size_toArray, h.length, List.length_take, sizeLine_eq]
  omega
theorem ok_take {P : Str → Prop} {l : List Str} {k : Nat} (h : ∀ p ∈ l, P p) : ∀ p ∈ l.take k, P p := fun p hp => h p (List.mem_of_mem_take hp)
end
local macro_rules | `(tactic| walk_at "call ref") => `(tactic| (k_here; (with_reducible show wpAny _ _ (call (Value.ref 93) _) _ _ _); k_dflt (refine' ClL.use (split_cl _ _ _ _ _ _ (by omega) (by omega) _ (by omega) _ _ _) ?B ?F ?X ?N ?T ?hk ?hd ?hu ?_; (case B => k_asm); (case F => k_asm); (case X => k_asm); (case N => k_asm); (case T => k_asm); (case hk => first | exact rfl | assumption); (case hd => ktr_room); (case hu => ktr_units); k_whole); intro D9 us9 k9 h9 tk9 F9 N9 S9; (try dsimp only); (try k_sweep); (try k_fold)))
local macro_rules | `(tactic| walk_at "call builtin:str.join") => `(tactic| (k_here; (with_reducible show wpAny _ _ (call (Value.builtin "str.join") [Value.str _ _, Value.ref _]) _ _ _); k_dflt (refine' join_list (News.isList (by k_asm) (by k_mem)) (by assumption) (join_room' (by assumption) (by assumption)) ?_); intro _ _))
local macro_rules | `(tactic| walk_at "subscriptTail Name Slice ref ref") => `(tactic| (k_here; (with_reducible show wpAny _ _ (subscriptTail _ (PySem.Expr.Slice none _ none _) (Value.ref _) (Value.ref _)) _ _ _); k_dflt (refine' slice_texts ?F ?N ?l ?i ?q ?y ?_ ?s ?t ?z; (case F => k_asm); (case N => k_asm); (case l => kmk_list); (case i => assumption); (case q => kmk_part); (case y => assumption); (case s => with_unfolding_all rfl); (case t => kmk_pure); (case z => exact texts_size (by assumption))); intro D' ws' h' F' N' S'; (try k_sweep)))
local macro_rules | `(tactic| walk_at "compareOp NotEq ref ref") => `(tactic| (k_here; (with_reducible show wpAny _ _ (compareOp CmpOp.NotEq (Value.ref _) (Value.ref _)) _ _ _); k_dflt (refine' texts_ne (News.isList (by k_asm) (by k_mem)) (News.isList (by k_asm) (by k_mem)) (by assumption) (by assumption) ?oi ?oj (by ke_room) ?_; (case oi => exact ok_take (by assumption)); (case oj => exact ok_take (ok_take (by assumption))))))
set_option maxRecDepth 100000 in
set_option maxHeartbeats 4000000 in
theorem line6 : LineOn 6 (fun x y f g => (∀ p ∈ splitT x y, p.length ≤ 8) ∧ (∀ p ∈ splitT x y, PyData.strOk p = true) ∧ Txt.join y ((splitT x y).take 99) = x ∧ (splitT x y).take f.toNat = ((splitT x y).take 99).take f.toNat) := by
  unfold LineOn
  k_fill
  k_with_none
  w_top off
  intro w mean mg mb dp un gd a ccd outer A₀ base h₀ L s Q E x y f g tx ty ts tf tg D c o us n u B X T hd hu F N hc hS hx habc hy hf0 hf hg0 hg hP hQ
  obtain ⟨b, hb⟩ : ∃ b, b = atStmt 6 := ⟨_, rfl⟩
  obtain ⟨sc, hsc⟩ : ∃ sc, sc = lawScope := ⟨_, rfl⟩
  rw [← hb, ← hsc]
  dsimp only [atStmt, lawBody, PySem.Challenge.pw_sa0355_01, List.drop, List.take] at hb
  dsimp only [lawScope, PySem.Challenge.pw_sa0355_01, List.drop] at hsc
  subst hb
  subst hsc
  delta lawMap at F
  obtain ⟨hP1, hP2, hP3, hP4⟩ := hP
  k_steps
  all_goals first
    | exact (ne_absurd hP3 (by assumption)).elim
    | exact absurd hP4 (by assumption)
    | exact hQ _ _ u (by k_asm) (drop1 (drop1 (by assumption)))

end

section
local macro_rules | `(tactic| walk_at "call ref") => `(tactic| (k_here; (with_reducible show wpAny _ _ (call (Value.ref 51) _) _ _ _); k_dflt (refine' Cl.use (slice_cl _ _ _ _ _ (by omega) _ _ _ _ _) ?B ?F ?X ?N ?T ?hk ?hd ?hu ?_; (case B => k_asm); (case F => k_asm); (case X => k_asm); (case N => k_asm); (case T => k_asm); (case hk => first | exact rfl | assumption); (case hd => ktr_room); (case hu => ktr_units); k_whole); intro t9 h9 tk9 F9 N9; (try dsimp only); (try k_sweep); (try k_fold)))
local macro_rules | `(tactic| walk_at "call ref") => `(tactic| (k_here; (with_reducible show wpAny _ _ (call (Value.ref 51) _) _ _ _); k_dflt (refine' Cl.use (sliceN_cl _ _ _ _ _ (by omega) _ _ _) ?B ?F ?X ?N ?T ?hk ?hd ?hu ?_; (case B => k_asm); (case F => k_asm); (case X => k_asm); (case N => k_asm); (case T => k_asm); (case hk => first | exact rfl | assumption); (case hd => ktr_room); (case hu => ktr_units); k_whole); intro t9 h9 tk9 F9 N9; (try dsimp only); (try k_sweep); (try k_fold)))
local macro_rules | `(tactic| walk_at "call ref") => `(tactic| (k_here; (with_reducible show wpAny _ _ (call (Value.ref 65) _) _ _ _); k_dflt (refine' Cl.use (substr_cl _ _ _ _ _ (by omega) _ _ _ _ _) ?B ?F ?X ?N ?T ?hk ?hd ?hu ?_; (case B => k_asm); (case F => k_asm); (case X => k_asm); (case N => k_asm); (case T => k_asm); (case hk => first | exact rfl | assumption); (case hd => ktr_room); (case hu => ktr_units); k_whole); intro t9 h9 tk9 F9 N9; (try dsimp only); (try k_sweep); (try k_fold)))
local macro_rules | `(tactic| walk_at "call ref") => `(tactic| (k_here; (with_reducible show wpAny _ _ (call (Value.ref 58) _) _ _ _); k_dflt (refine' Cl.use (substring_cl _ _ _ _ _ (by omega) _ _ _ _ _) ?B ?F ?X ?N ?T ?hk ?hd ?hu ?_; (case B => k_asm); (case F => k_asm); (case X => k_asm); (case N => k_asm); (case T => k_asm); (case hk => first | exact rfl | assumption); (case hd => ktr_room); (case hu => ktr_units); k_whole); intro t9 h9 tk9 F9 N9; (try dsimp only); (try k_sweep); (try k_fold)))
local macro_rules | `(tactic| walk_at "call ref") => `(tactic| (k_here; (with_reducible show wpAny _ _ (call (Value.ref 114) _) _ _ _); k_dflt (refine' Cl.use (put_cl _ _ _ _ _ _ (by omega) (by omega) _ _ (by omega) (by omega) _ _ _ _) ?B ?F ?X ?N ?T ?hk ?hd ?hu ?_; (case B => k_asm); (case F => k_asm); (case X => k_asm); (case N => k_asm); (case T => k_asm); (case hk => first | exact rfl | assumption); (case hd => ktr_room); (case hu => ktr_units); k_whole); intro t9 h9 tk9 F9 N9; (try dsimp only); (try k_sweep); (try k_fold)))
local macro_rules | `(tactic| walk_at "call ref") => `(tactic| (k_here; (with_reducible show wpAny _ _ (call (Value.ref 79) _) _ _ _); k_dflt (refine' Cl.use (find_cl _ _ _ _ _ _ (by first | omega | exact Nat.le_trans (slice_len8 (by assumption) _ _) (by decide) | (rw [step_rev_len]; omega)) (by first | omega | (rw [step_rev_len]; omega)) _ _ _) ?B ?F ?X ?N ?T ?hk ?hd ?hu ?_; (case B => k_asm); (case F => k_asm); (case X => k_asm); (case N => k_asm); (case T => k_asm); (case hk => first | exact rfl | assumption); (case hd => ktr_room); (case hu => ktr_units); k_whole); intro t9 h9 tk9 F9 N9; (try dsimp only); (try k_sweep); (try k_fold)))
local macro_rules | `(tactic| walk_at "call ref") => `(tactic| (k_here; (with_reducible show wpAny _ _ (call (Value.ref 86) _) _ _ _); k_dflt (refine' Cl.use (back_cl _ _ _ _ _ _ (by omega) (by omega) _ _ _) ?B ?F ?X ?N ?T ?hk ?hd ?hu ?_; (case B => k_asm); (case F => k_asm); (case X => k_asm); (case N => k_asm); (case T => k_asm); (case hk => first | exact rfl | assumption); (case hd => ktr_room); (case hu => ktr_units); k_whole); intro t9 h9 tk9 F9 N9; (try dsimp only); (try k_sweep); (try k_fold)))
local macro_rules | `(tactic| walk_at "call ref") => `(tactic| (k_here; (with_reducible show wpAny _ _ (call (Value.ref 121) _) _ _ _); k_dflt (refine' Cl.use (cuts_cl _ _ _ _ _ _ (by omega) (by omega) (by omega) _ _) ?B ?F ?X ?N ?T ?hk ?hd ?hu ?_; (case B => k_asm); (case F => k_asm); (case X => k_asm); (case N => k_asm); (case T => k_asm); (case hk => first | exact rfl | assumption); (case hd => ktr_room); (case hu => ktr_units); k_whole); intro t9 h9 tk9 F9 N9; (try dsimp only); (try k_sweep); (try k_fold)))
local macro_rules | `(tactic| walk_at "binaryOp Add str str") => `(tactic| (k_here; (with_reducible show wpAny _ _ (binaryOp Operator.Add (Value.str _ _) (Value.str _ _)) _ _ _); (refine KOpn.add (room8 (by first | exact slice_len8 (by assumption) _ _ | exact sliceN_len8 (by assumption) _) (by first | exact slice_len8 (by assumption) _ _ | exact sliceN_len8 (by assumption) _)) ?_); intro _ _ _))
section
open LCg LCt
variable {prog : Program} {w : World} {A : Around} {h₀ : Heap} {L : Addr} {m : Str → Option Value} {env : Env} {ct elt : Expr} {x : Str} {scope : Scope} {cl : List (Str × Addr)} {s : Shared} {S : List (Addr × Obj) → Prop} {Fin : List Value → List (Addr × Obj) → Prop} {news : List (Addr × Obj)} {vs : List Value} {ns : List Str}
theorem comp_none (hi : StrsAre vs ns) (fin : Fin [] news)
    (turn : ∀ p t I oI C oC D m₂ h tk (E' : Value → Shared → Prop), p ∈ ns → NsObj oC m₂ → m₂ x = some (.str p t) → Fr h₀ L h m → News h₀ L h ((I, oI) :: (C, oC) :: (D, lst []) :: news) → Off3 I C D news → ((@Ne Nat I C) ∧ (@Ne Nat I D) ∧ (@Ne Nat C D)) →
      wpAny (model prog w) A (isTrue ct (compEnvC scope cl C env) (eval ct (compEnvC scope cl C env))) (fun b s' => b = false ∧ CompEnd h₀ L m { s with heap := h, toks := tk } I oI C oC D (lst []) S (fun _ news' => news' = news) Value.none s') E' { s with heap := h, toks := tk }) :
    CompRestT prog w A h₀ L m env ct elt x scope cl s S (fun i v => vs.toArray[i]? = some v) Fin vs.toArray.size 0 [] news := by
  have key : ∀ (j i : Nat), i + j = vs.toArray.size → CompRestT prog w A h₀ L m env ct elt x scope cl s S (fun i v => vs.toArray[i]? = some v) Fin j i [] news := by
    intro j
    induction j with
    | zero => intro i hi'; exact CompRestT.zero fin
    | succ j ih =>
      intro i hi'
      refine CompRestT.succ ?_
      intro v I oI C oC D m₂ h tk E' hv hC hx F N off ne
      have hv' : vs[i]? = some v := by simpa using hv
      obtain ⟨p, t, rfl, hp⟩ := StrsAre.item hi i v hv'
      refine wpAny_mono (turn p t I oI C oC D m₂ h tk E' (List.mem_of_getElem? hp) hC hx F N off ne) (fun b s' hq => ?_) fun _ _ e => e
      obtain ⟨hb, h', tk', nw, e, F', N', off', hS, hn⟩ := hq
      subst hb
      subst hn
      simp only [Bool.false_eq_true, if_false]
      exact ⟨h', tk', _, e, F', N', off', hS, ih (i + 1) (by omega)⟩
  exact key _ 0 (by omega)
end
theorem map_two {x : Str} {f g : Int} {tx ts tf tg : Tok} {D : Addr} {u : Str → Option Value} {va vb : Value} :
    (fun z => if z = Str.ofString "back" then some vb else if z = Str.ofString "at" then some va else lawMap x f g tx ts tf tg D u z) = lawMap x f g tx ts tf tg D (fun z => if z = Str.ofString "back" then some vb else if z = Str.ofString "at" then some va else u z) := by
  funext z
  unfold lawMap
  by_cases h1 : z = Str.ofString "text"
  · subst h1; rfl
  by_cases h2 : z = Str.ofString "size"
  · subst h2; rfl
  by_cases h3 : z = Str.ofString "first"
  · subst h3; rfl
  by_cases h4 : z = Str.ofString "last"
  · subst h4; rfl
  by_cases h5 : z = Str.ofString "pieces"
  · subst h5; rfl
  simp only [if_neg h1, if_neg h2, if_neg h3, if_neg h4, if_neg h5]
theorem fr_two {h₀ h : Heap} {L : Addr} {x : Str} {f g : Int} {tx ts tf tg : Tok} {D : Addr} {u : Str → Option Value} {va vb : Value}
    (F : Fr h₀ L h (fun z => if z = Str.ofString "back" then some vb else if z = Str.ofString "at" then some va else lawMap x f g tx ts tf tg D u z)) :
    Fr h₀ L h (lawMap x f g tx ts tf tg D (fun z => if z = Str.ofString "back" then some vb else if z = Str.ofString "at" then some va else u z)) := by
  rw [← map_two]; exact F
local macro_rules | `(tactic| walk_at "CompSrcT") => `(tactic| refine Stop.out ?_)
theorem len_of_ne' {y : Str} (h : (y != Str.ofString "") = true) : 1 ≤ y.length := by
  by_cases q : y.length = 0
  · rw [len_nil q, empty_str] at h
    exact absurd h (by decide)
  · omega
local macro_rules | `(tactic| walk_at "compareOp NotEq ref ref") => `(tactic| (k_here; (with_reducible show wpAny _ _ (compareOp CmpOp.NotEq (Value.ref _) (Value.ref _)) _ _ _); k_dflt (refine' texts_ne (News.isList (by k_asm) (by k_mem)) (News.isList (by k_asm) (by k_mem)) .nil .nil (fun _ h => nomatch h) (fun _ h => nomatch h) (by ke_room) ?_)))
local macro_rules | `(tactic| walk_at "call builtin:len") => `(tactic| (k_here; (with_reducible show wpAny _ _ (call (Value.builtin "len") [Value.ref _]) _ _ _); k_dflt (refine' len_strsA (News.isList (by k_asm) (by k_mem)) (by assumption) ?hf ?_; (case hf => (rw [List.length_take]; omega)))))
set_option maxRecDepth 100000 in
set_option maxHeartbeats 4000000 in
theorem line7 : LineOn 7 (fun x y f g => (∀ p ∈ splitT x y, p.length ≤ 8) ∧ (1 ≤ y.length → (∀ p ∈ splitT x y, findT p y = -1) ∧ (((splitT x y).take 99).length : Int) = cntW x y 0 + 1 ∧
    (0 ≤ findT x y → findT (sliceT x 0 (findT x y + (y.length : Int) - 1)) y = -1) ∧
    ∀ t v : Tok, (0 ≤ findT (Txt.sliceBy x none none (-1, t)) (Txt.sliceBy y none none (-1, v)) → backT x y = (x.length : Int) - (y.length : Int) - findT (Txt.sliceBy x none none (-1, t)) (Txt.sliceBy y none none (-1, v))) ∧
      (¬ 0 ≤ findT (Txt.sliceBy x none none (-1, t)) (Txt.sliceBy y none none (-1, v)) → backT x y = -1))) := by
  unfold LineOn
  k_fill
  k_with_none
  w_top off
  intro w mean mg mb dp un gd a ccd outer A₀ base h₀ L s Q E x y f g tx ty ts tf tg D c o us n u B X T hd hu F N hc hS hx habc hy hf0 hf hg0 hg hP hQ
  obtain ⟨b, hb⟩ : ∃ b, b = atStmt 7 := ⟨_, rfl⟩
  obtain ⟨sc, hsc⟩ : ∃ sc, sc = lawScope := ⟨_, rfl⟩
  rw [← hb, ← hsc]
  dsimp only [atStmt, lawBody, PySem.Challenge.pw_sa0355_01, List.drop, List.take] at hb
  dsimp only [lawScope, PySem.Challenge.pw_sa0355_01, List.drop] at hsc
  subst hb
  subst hsc
  delta lawMap at F
  obtain ⟨hP1, hP2⟩ := hP
  replace hP2 := Stop.mk hP2
  k_steps
  rotate_left
  · exact hQ _ _ u (by k_asm) (by k_asm)
  refine Stop.mk ?_
  have hy1 : 1 ≤ y.length := len_of_ne' (by assumption)
  obtain ⟨hP3, hP4, hP5, hP6⟩ := hP2.out hy1
  clear hP2
  replace hP4 := Stop.mk hP4
  replace hP5 := Stop.mk hP5
  replace hP6 := Stop.mk hP6
  k_dflt (refine LCt.CompSrcT.ledger (by rfl) (by k_asm) (by k_asm) (by k_mem) (texts_size hS) ?_)
  intro g'
  refine comp_none hS ?_ ?_
  rotate_left
  · intro p t I oI C oC D2 m₂ h tk E' hp hCo hxp Fp Np off ne
    have hp8 := hP1 p (List.mem_of_mem_take hp)
    have hp1 := hP3 p (List.mem_of_mem_take hp)
    k_steps
    · rw [hp1]; decide
    · exact ⟨_, _, _, rfl, by k_asm, by k_asm, off, .inr ⟨_, .head _, rfl, _, rfl⟩, rfl⟩
  k_steps
  all_goals first
    | ((with_reducible show Q Flow.next _)
       rename Fr _ _ _ _ => F8
       exact hQ _ _ _ (fr_two F8) (drop1 (drop1 (by assumption))))
    | exact ((by with_reducible assumption : ((List.take 99 (splitT x y)).length : Int) ≠ (cntW x y 0 : Int) + 1) hP4.out).elim
    | (exfalso; have q := hP5.out (by with_reducible assumption); omega)
    | exact ((by assumption : backT x y ≠ -1) ((hP6.out _ _).2 (by assumption))).elim
    | exact ((by assumption : backT x y ≠ (x.length : Int) - (y.length : Int) - findT (Txt.sliceBy x none none (-1, _)) (Txt.sliceBy y none none (-1, _))) ((hP6.out _ _).1 (by assumption))).elim

end

section
local macro_rules | `(tactic| walk_at "call ref") => `(tactic| (k_here; (with_reducible show wpAny _ _ (call (Value.ref 51) _) _ _ _); k_dflt (refine' Cl.use (slice_cl _ _ _ _ _ (by omega) _ _ _ _ _) ?B ?F ?X ?N ?T ?hk ?hd ?hu ?_; (case B => k_asm); (case F => k_asm); (case X => k_asm); (case N => k_asm); (case T => k_asm); (case hk => first | exact rfl | assumption); (case hd => ktr_room); (case hu => ktr_units); k_whole); intro t9 h9 tk9 F9 N9; (try dsimp only); (try k_sweep); (try k_fold)))
local macro_rules | `(tactic| walk_at "call ref") => `(tactic| (k_here; (with_reducible show wpAny _ _ (call (Value.ref 51) _) _ _ _); k_dflt (refine' Cl.use (sliceN_cl _ _ _ _ _ (by omega) _ _ _) ?B ?F ?X ?N ?T ?hk ?hd ?hu ?_; (case B => k_asm); (case F => k_asm); (case X => k_asm); (case N => k_asm); (case T => k_asm); (case hk => first | exact rfl | assumption); (case hd => ktr_room); (case hu => ktr_units); k_whole); intro t9 h9 tk9 F9 N9; (try dsimp only); (try k_sweep); (try k_fold)))
local macro_rules | `(tactic| walk_at "call ref") => `(tactic| (k_here; (with_reducible show wpAny _ _ (call (Value.ref 65) _) _ _ _); k_dflt (refine' Cl.use (substr_cl _ _ _ _ _ (by omega) _ _ _ _ _) ?B ?F ?X ?N ?T ?hk ?hd ?hu ?_; (case B => k_asm); (case F => k_asm); (case X => k_asm); (case N => k_asm); (case T => k_asm); (case hk => first | exact rfl | assumption); (case hd => ktr_room); (case hu => ktr_units); k_whole); intro t9 h9 tk9 F9 N9; (try dsimp only); (try k_sweep); (try k_fold)))
local macro_rules | `(tactic| walk_at "call ref") => `(tactic| (k_here; (with_reducible show wpAny _ _ (call (Value.ref 58) _) _ _ _); k_dflt (refine' Cl.use (substring_cl _ _ _ _ _ (by omega) _ _ _ _ _) ?B ?F ?X ?N ?T ?hk ?hd ?hu ?_; (case B => k_asm); (case F => k_asm); (case X => k_asm); (case N => k_asm); (case T => k_asm); (case hk => first | exact rfl | assumption); (case hd => ktr_room); (case hu => ktr_units); k_whole); intro t9 h9 tk9 F9 N9; (try dsimp only); (try k_sweep); (try k_fold)))
local macro_rules | `(tactic| walk_at "call ref") => `(tactic| (k_here; (with_reducible show wpAny _ _ (call (Value.ref 114) _) _ _ _); k_dflt (refine' Cl.use (put_cl _ _ _ _ _ _ (by omega) (by omega) _ _ (by omega) (by omega) _ _ _ _) ?B ?F ?X ?N ?T ?hk ?hd ?hu ?_; (case B => k_asm); (case F => k_asm); (case X => k_asm); (case N => k_asm); (case T => k_asm); (case hk => first | exact rfl | assumption); (case hd => ktr_room); (case hu => ktr_units); k_whole); intro t9 h9 tk9 F9 N9; (try dsimp only); (try k_sweep); (try k_fold)))
local macro_rules | `(tactic| walk_at "call ref") => `(tactic| (k_here; (with_reducible show wpAny _ _ (call (Value.ref 79) _) _ _ _); k_dflt (refine' Cl.use (find_cl _ _ _ _ _ _ (by omega) (by omega) _ _ _) ?B ?F ?X ?N ?T ?hk ?hd ?hu ?_; (case B => k_asm); (case F => k_asm); (case X => k_asm); (case N => k_asm); (case T => k_asm); (case hk => first | exact rfl | assumption); (case hd => ktr_room); (case hu => ktr_units); k_whole); intro t9 h9 tk9 F9 N9; (try dsimp only); (try k_sweep); (try k_fold)))
local macro_rules | `(tactic| walk_at "call ref") => `(tactic| (k_here; (with_reducible show wpAny _ _ (call (Value.ref 86) _) _ _ _); k_dflt (refine' Cl.use (back_cl _ _ _ _ _ _ (by omega) (by omega) _ _ _) ?B ?F ?X ?N ?T ?hk ?hd ?hu ?_; (case B => k_asm); (case F => k_asm); (case X => k_asm); (case N => k_asm); (case T => k_asm); (case hk => first | exact rfl | assumption); (case hd => ktr_room); (case hu => ktr_units); k_whole); intro t9 h9 tk9 F9 N9; (try dsimp only); (try k_sweep); (try k_fold)))
local macro_rules | `(tactic| walk_at "call ref") => `(tactic| (k_here; (with_reducible show wpAny _ _ (call (Value.ref 121) _) _ _ _); k_dflt (refine' Cl.use (cuts_cl _ _ _ _ _ _ (by omega) (by omega) (by omega) _ _) ?B ?F ?X ?N ?T ?hk ?hd ?hu ?_; (case B => k_asm); (case F => k_asm); (case X => k_asm); (case N => k_asm); (case T => k_asm); (case hk => first | exact rfl | assumption); (case hd => ktr_room); (case hu => ktr_units); k_whole); intro t9 h9 tk9 F9 N9; (try dsimp only); (try k_sweep); (try k_fold)))
local macro_rules | `(tactic| walk_at "binaryOp Add str str") => `(tactic| (k_here; (with_reducible show wpAny _ _ (binaryOp Operator.Add (Value.str _ _) (Value.str _ _)) _ _ _); (refine KOpn.add (room8 (by first | exact slice_len8 (by assumption) _ _ | exact sliceN_len8 (by assumption) _) (by first | exact slice_len8 (by assumption) _ _ | exact sliceN_len8 (by assumption) _)) ?_); intro _ _ _))
set_option maxRecDepth 100000 in
set_option maxHeartbeats 4000000 in
theorem line8 : LineOn 8 (fun x _ f g => sliceT x 0 f ++ sliceN x f = x ∧ substrT x f g = sliceT x f (f + g)) := by
  unfold LineOn
  k_fill
  k_with_none
  w_top off
  intro w mean mg mb dp un gd a ccd outer A₀ base h₀ L s Q E x y f g tx ty ts tf tg D c o us n u B X T hd hu F N hc hS hx habc hy hf0 hf hg0 hg hP hQ
  obtain ⟨b, hb⟩ : ∃ b, b = atStmt 8 := ⟨_, rfl⟩
  obtain ⟨sc, hsc⟩ : ∃ sc, sc = lawScope := ⟨_, rfl⟩
  rw [← hb, ← hsc]
  dsimp only [atStmt, lawBody, PySem.Challenge.pw_sa0355_01, List.drop, List.take] at hb
  dsimp only [lawScope, PySem.Challenge.pw_sa0355_01, List.drop] at hsc
  subst hb
  subst hsc
  delta lawMap at F
  k_steps
  all_goals first
    | exact (ne_absurd hP.1 (by assumption)).elim
    | exact (ne_absurd hP.2 (by assumption)).elim
    | exact hQ _ _ u (by k_asm) (by k_asm)

end

section
local macro_rules | `(tactic| walk_at "call ref") => `(tactic| (k_here; (with_reducible show wpAny _ _ (call (Value.ref 51) _) _ _ _); k_dflt (refine' Cl.use (slice_cl _ _ _ _ _ (by omega) _ _ _ _ _) ?B ?F ?X ?N ?T ?hk ?hd ?hu ?_; (case B => k_asm); (case F => k_asm); (case X => k_asm); (case N => k_asm); (case T => k_asm); (case hk => first | exact rfl | assumption); (case hd => ktr_room); (case hu => ktr_units); k_whole); intro t9 h9 tk9 F9 N9; (try dsimp only); (try k_sweep); (try k_fold)))
local macro_rules | `(tactic| walk_at "call ref") => `(tactic| (k_here; (with_reducible show wpAny _ _ (call (Value.ref 51) _) _ _ _); k_dflt (refine' Cl.use (sliceN_cl _ _ _ _ _ (by omega) _ _ _) ?B ?F ?X ?N ?T ?hk ?hd ?hu ?_; (case B => k_asm); (case F => k_asm); (case X => k_asm); (case N => k_asm); (case T => k_asm); (case hk => first | exact rfl | assumption); (case hd => ktr_room); (case hu => ktr_units); k_whole); intro t9 h9 tk9 F9 N9; (try dsimp only); (try k_sweep); (try k_fold)))
local macro_rules | `(tactic| walk_at "call ref") => `(tactic| (k_here; (with_reducible show wpAny _ _ (call (Value.ref 65) _) _ _ _); k_dflt (refine' Cl.use (substr_cl _ _ _ _ _ (by omega) _ _ _ _ _) ?B ?F ?X ?N ?T ?hk ?hd ?hu ?_; (case B => k_asm); (case F => k_asm); (case X => k_asm); (case N => k_asm); (case T => k_asm); (case hk => first | exact rfl | assumption); (case hd => ktr_room); (case hu => ktr_units); k_whole); intro t9 h9 tk9 F9 N9; (try dsimp only); (try k_sweep); (try k_fold)))
local macro_rules | `(tactic| walk_at "call ref") => `(tactic| (k_here; (with_reducible show wpAny _ _ (call (Value.ref 58) _) _ _ _); k_dflt (refine' Cl.use (substring_cl _ _ _ _ _ (by omega) _ _ _ _ _) ?B ?F ?X ?N ?T ?hk ?hd ?hu ?_; (case B => k_asm); (case F => k_asm); (case X => k_asm); (case N => k_asm); (case T => k_asm); (case hk => first | exact rfl | assumption); (case hd => ktr_room); (case hu => ktr_units); k_whole); intro t9 h9 tk9 F9 N9; (try dsimp only); (try k_sweep); (try k_fold)))
local macro_rules | `(tactic| walk_at "call ref") => `(tactic| (k_here; (with_reducible show wpAny _ _ (call (Value.ref 114) _) _ _ _); k_dflt (refine' Cl.use (put_cl _ _ _ _ _ _ (by omega) (by omega) _ _ (by omega) (by omega) _ _ _ _) ?B ?F ?X ?N ?T ?hk ?hd ?hu ?_; (case B => k_asm); (case F => k_asm); (case X => k_asm); (case N => k_asm); (case T => k_asm); (case hk => first | exact rfl | assumption); (case hd => ktr_room); (case hu => ktr_units); k_whole); intro t9 h9 tk9 F9 N9; (try dsimp only); (try k_sweep); (try k_fold)))
local macro_rules | `(tactic| walk_at "call ref") => `(tactic| (k_here; (with_reducible show wpAny _ _ (call (Value.ref 79) _) _ _ _); k_dflt (refine' Cl.use (find_cl _ _ _ _ _ _ (by omega) (by omega) _ _ _) ?B ?F ?X ?N ?T ?hk ?hd ?hu ?_; (case B => k_asm); (case F => k_asm); (case X => k_asm); (case N => k_asm); (case T => k_asm); (case hk => first | exact rfl | assumption); (case hd => ktr_room); (case hu => ktr_units); k_whole); intro t9 h9 tk9 F9 N9; (try dsimp only); (try k_sweep); (try k_fold)))
local macro_rules | `(tactic| walk_at "call ref") => `(tactic| (k_here; (with_reducible show wpAny _ _ (call (Value.ref 86) _) _ _ _); k_dflt (refine' Cl.use (back_cl _ _ _ _ _ _ (by omega) (by omega) _ _ _) ?B ?F ?X ?N ?T ?hk ?hd ?hu ?_; (case B => k_asm); (case F => k_asm); (case X => k_asm); (case N => k_asm); (case T => k_asm); (case hk => first | exact rfl | assumption); (case hd => ktr_room); (case hu => ktr_units); k_whole); intro t9 h9 tk9 F9 N9; (try dsimp only); (try k_sweep); (try k_fold)))
local macro_rules | `(tactic| walk_at "call ref") => `(tactic| (k_here; (with_reducible show wpAny _ _ (call (Value.ref 121) _) _ _ _); k_dflt (refine' Cl.use (cuts_cl _ _ _ _ _ _ (by omega) (by omega) (by omega) _ _) ?B ?F ?X ?N ?T ?hk ?hd ?hu ?_; (case B => k_asm); (case F => k_asm); (case X => k_asm); (case N => k_asm); (case T => k_asm); (case hk => first | exact rfl | assumption); (case hd => ktr_room); (case hu => ktr_units); k_whole); intro t9 h9 tk9 F9 N9; (try dsimp only); (try k_sweep); (try k_fold)))
local macro_rules | `(tactic| walk_at "binaryOp Add str str") => `(tactic| (k_here; (with_reducible show wpAny _ _ (binaryOp Operator.Add (Value.str _ _) (Value.str _ _)) _ _ _); (refine KOpn.add (room8 (by first | exact slice_len8 (by assumption) _ _ | exact sliceN_len8 (by assumption) _) (by first | exact slice_len8 (by assumption) _ _ | exact sliceN_len8 (by assumption) _)) ?_); intro _ _ _))
set_option maxRecDepth 100000 in
set_option maxHeartbeats 4000000 in
theorem line9 : LineOn 9 (fun x _ f g => 0 < f → sliceT x 0 (0 - f) ++ sliceN x (0 - f) = x) := by
  unfold LineOn
  k_fill
  k_with_none
  w_top off
  intro w mean mg mb dp un gd a ccd outer A₀ base h₀ L s Q E x y f g tx ty ts tf tg D c o us n u B X T hd hu F N hc hS hx habc hy hf0 hf hg0 hg hP hQ
  obtain ⟨b, hb⟩ : ∃ b, b = atStmt 9 := ⟨_, rfl⟩
  obtain ⟨sc, hsc⟩ : ∃ sc, sc = lawScope := ⟨_, rfl⟩
  rw [← hb, ← hsc]
  dsimp only [atStmt, lawBody, PySem.Challenge.pw_sa0355_01, List.drop, List.take] at hb
  dsimp only [lawScope, PySem.Challenge.pw_sa0355_01, List.drop] at hsc
  subst hb
  subst hsc
  delta lawMap at F
  k_steps
  all_goals first
    | exact (ne_absurd (hP (by assumption)) (by assumption)).elim
    | exact hQ _ _ u (by k_asm) (by k_asm)

end

section
local macro_rules | `(tactic| walk_at "call ref") => `(tactic| (k_here; (with_reducible show wpAny _ _ (call (Value.ref 51) _) _ _ _); k_dflt (refine' Cl.use (slice_cl _ _ _ _ _ (by omega) _ _ _ _ _) ?B ?F ?X ?N ?T ?hk ?hd ?hu ?_; (case B => k_asm); (case F => k_asm); (case X => k_asm); (case N => k_asm); (case T => k_asm); (case hk => first | exact rfl | assumption); (case hd => ktr_room); (case hu => ktr_units); k_whole); intro t9 h9 tk9 F9 N9; (try dsimp only); (try k_sweep); (try k_fold)))
local macro_rules | `(tactic| walk_at "call ref") => `(tactic| (k_here; (with_reducible show wpAny _ _ (call (Value.ref 51) _) _ _ _); k_dflt (refine' Cl.use (sliceN_cl _ _ _ _ _ (by omega) _ _ _) ?B ?F ?X ?N ?T ?hk ?hd ?hu ?_; (case B => k_asm); (case F => k_asm); (case X => k_asm); (case N => k_asm); (case T => k_asm); (case hk => first | exact rfl | assumption); (case hd => ktr_room); (case hu => ktr_units); k_whole); intro t9 h9 tk9 F9 N9; (try dsimp only); (try k_sweep); (try k_fold)))
local macro_rules | `(tactic| walk_at "call ref") => `(tactic| (k_here; (with_reducible show wpAny _ _ (call (Value.ref 65) _) _ _ _); k_dflt (refine' Cl.use (substr_cl _ _ _ _ _ (by omega) _ _ _ _ _) ?B ?F ?X ?N ?T ?hk ?hd ?hu ?_; (case B => k_asm); (case F => k_asm); (case X => k_asm); (case N => k_asm); (case T => k_asm); (case hk => first | exact rfl | assumption); (case hd => ktr_room); (case hu => ktr_units); k_whole); intro t9 h9 tk9 F9 N9; (try dsimp only); (try k_sweep); (try k_fold)))
local macro_rules | `(tactic| walk_at "call ref") => `(tactic| (k_here; (with_reducible show wpAny _ _ (call (Value.ref 58) _) _ _ _); k_dflt (refine' Cl.use (substring_cl _ _ _ _ _ (by omega) _ _ _ _ _) ?B ?F ?X ?N ?T ?hk ?hd ?hu ?_; (case B => k_asm); (case F => k_asm); (case X => k_asm); (case N => k_asm); (case T => k_asm); (case hk => first | exact rfl | assumption); (case hd => ktr_room); (case hu => ktr_units); k_whole); intro t9 h9 tk9 F9 N9; (try dsimp only); (try k_sweep); (try k_fold)))
local macro_rules | `(tactic| walk_at "call ref") => `(tactic| (k_here; (with_reducible show wpAny _ _ (call (Value.ref 114) _) _ _ _); k_dflt (refine' Cl.use (put_cl _ _ _ _ _ _ (by omega) (by omega) _ _ (by omega) (by omega) _ _ _ _) ?B ?F ?X ?N ?T ?hk ?hd ?hu ?_; (case B => k_asm); (case F => k_asm); (case X => k_asm); (case N => k_asm); (case T => k_asm); (case hk => first | exact rfl | assumption); (case hd => ktr_room); (case hu => ktr_units); k_whole); intro t9 h9 tk9 F9 N9; (try dsimp only); (try k_sweep); (try k_fold)))
local macro_rules | `(tactic| walk_at "call ref") => `(tactic| (k_here; (with_reducible show wpAny _ _ (call (Value.ref 79) _) _ _ _); k_dflt (refine' Cl.use (find_cl _ _ _ _ _ _ (by omega) (by omega) _ _ _) ?B ?F ?X ?N ?T ?hk ?hd ?hu ?_; (case B => k_asm); (case F => k_asm); (case X => k_asm); (case N => k_asm); (case T => k_asm); (case hk => first | exact rfl | assumption); (case hd => ktr_room); (case hu => ktr_units); k_whole); intro t9 h9 tk9 F9 N9; (try dsimp only); (try k_sweep); (try k_fold)))
local macro_rules | `(tactic| walk_at "call ref") => `(tactic| (k_here; (with_reducible show wpAny _ _ (call (Value.ref 86) _) _ _ _); k_dflt (refine' Cl.use (back_cl _ _ _ _ _ _ (by omega) (by omega) _ _ _) ?B ?F ?X ?N ?T ?hk ?hd ?hu ?_; (case B => k_asm); (case F => k_asm); (case X => k_asm); (case N => k_asm); (case T => k_asm); (case hk => first | exact rfl | assumption); (case hd => ktr_room); (case hu => ktr_units); k_whole); intro t9 h9 tk9 F9 N9; (try dsimp only); (try k_sweep); (try k_fold)))
local macro_rules | `(tactic| walk_at "call ref") => `(tactic| (k_here; (with_reducible show wpAny _ _ (call (Value.ref 121) _) _ _ _); k_dflt (refine' Cl.use (cuts_cl _ _ _ _ _ _ (by omega) (by omega) (by omega) _ _) ?B ?F ?X ?N ?T ?hk ?hd ?hu ?_; (case B => k_asm); (case F => k_asm); (case X => k_asm); (case N => k_asm); (case T => k_asm); (case hk => first | exact rfl | assumption); (case hd => ktr_room); (case hu => ktr_units); k_whole); intro t9 h9 tk9 F9 N9; (try dsimp only); (try k_sweep); (try k_fold)))
local macro_rules | `(tactic| walk_at "binaryOp Add str str") => `(tactic| (k_here; (with_reducible show wpAny _ _ (binaryOp Operator.Add (Value.str _ _) (Value.str _ _)) _ _ _); (refine KOpn.add (room8 (by first | exact slice_len8 (by assumption) _ _ | exact sliceN_len8 (by assumption) _) (by first | exact slice_len8 (by assumption) _ _ | exact sliceN_len8 (by assumption) _)) ?_); intro _ _ _))
set_option maxRecDepth 100000 in
set_option maxHeartbeats 4000000 in
theorem line10 : LineOn 10 (fun x _ f g => substringT x f g = substringT x g f ∧ substringT x 0 f = sliceT x 0 f) := by
  unfold LineOn
  k_fill
  k_with_none
  w_top off
  intro w mean mg mb dp un gd a ccd outer A₀ base h₀ L s Q E x y f g tx ty ts tf tg D c o us n u B X T hd hu F N hc hS hx habc hy hf0 hf hg0 hg hP hQ
  obtain ⟨b, hb⟩ : ∃ b, b = atStmt 10 := ⟨_, rfl⟩
  obtain ⟨sc, hsc⟩ : ∃ sc, sc = lawScope := ⟨_, rfl⟩
  rw [← hb, ← hsc]
  dsimp only [atStmt, lawBody, PySem.Challenge.pw_sa0355_01, List.drop, List.take] at hb
  dsimp only [lawScope, PySem.Challenge.pw_sa0355_01, List.drop] at hsc
  subst hb
  subst hsc
  delta lawMap at F
  k_steps
  all_goals first
    | exact (ne_absurd hP.1 (by assumption)).elim
    | exact (ne_absurd hP.2 (by assumption)).elim
    | exact hQ _ _ u (by k_asm) (by k_asm)

end

section
local macro_rules | `(tactic| walk_at "call ref") => `(tactic| (k_here; (with_reducible show wpAny _ _ (call (Value.ref 51) _) _ _ _); k_dflt (refine' Cl.use (slice_cl _ _ _ _ _ (by omega) _ _ _ _ _) ?B ?F ?X ?N ?T ?hk ?hd ?hu ?_; (case B => k_asm); (case F => k_asm); (case X => k_asm); (case N => k_asm); (case T => k_asm); (case hk => first | exact rfl | assumption); (case hd => ktr_room); (case hu => ktr_units); k_whole); intro t9 h9 tk9 F9 N9; (try dsimp only); (try k_sweep); (try k_fold)))
local macro_rules | `(tactic| walk_at "call ref") => `(tactic| (k_here; (with_reducible show wpAny _ _ (call (Value.ref 51) _) _ _ _); k_dflt (refine' Cl.use (sliceN_cl _ _ _ _ _ (by omega) _ _ _) ?B ?F ?X ?N ?T ?hk ?hd ?hu ?_; (case B => k_asm); (case F => k_asm); (case X => k_asm); (case N => k_asm); (case T => k_asm); (case hk => first | exact rfl | assumption); (case hd => ktr_room); (case hu => ktr_units); k_whole); intro t9 h9 tk9 F9 N9; (try dsimp only); (try k_sweep); (try k_fold)))
local macro_rules | `(tactic| walk_at "call ref") => `(tactic| (k_here; (with_reducible show wpAny _ _ (call (Value.ref 65) _) _ _ _); k_dflt (refine' Cl.use (substr_cl _ _ _ _ _ (by omega) _ _ _ _ _) ?B ?F ?X ?N ?T ?hk ?hd ?hu ?_; (case B => k_asm); (case F => k_asm); (case X => k_asm); (case N => k_asm); (case T => k_asm); (case hk => first | exact rfl | assumption); (case hd => ktr_room); (case hu => ktr_units); k_whole); intro t9 h9 tk9 F9 N9; (try dsimp only); (try k_sweep); (try k_fold)))
local macro_rules | `(tactic| walk_at "call ref") => `(tactic| (k_here; (with_reducible show wpAny _ _ (call (Value.ref 58) _) _ _ _); k_dflt (refine' Cl.use (substring_cl _ _ _ _ _ (by omega) _ _ _ _ _) ?B ?F ?X ?N ?T ?hk ?hd ?hu ?_; (case B => k_asm); (case F => k_asm); (case X => k_asm); (case N => k_asm); (case T => k_asm); (case hk => first | exact rfl | assumption); (case hd => ktr_room); (case hu => ktr_units); k_whole); intro t9 h9 tk9 F9 N9; (try dsimp only); (try k_sweep); (try k_fold)))
local macro_rules | `(tactic| walk_at "call ref") => `(tactic| (k_here; (with_reducible show wpAny _ _ (call (Value.ref 114) _) _ _ _); k_dflt (refine' Cl.use (put_cl _ _ _ _ _ _ (by omega) (by omega) _ _ (by omega) (by omega) _ _ _ _) ?B ?F ?X ?N ?T ?hk ?hd ?hu ?_; (case B => k_asm); (case F => k_asm); (case X => k_asm); (case N => k_asm); (case T => k_asm); (case hk => first | exact rfl | assumption); (case hd => ktr_room); (case hu => ktr_units); k_whole); intro t9 h9 tk9 F9 N9; (try dsimp only); (try k_sweep); (try k_fold)))
local macro_rules | `(tactic| walk_at "call ref") => `(tactic| (k_here; (with_reducible show wpAny _ _ (call (Value.ref 79) _) _ _ _); k_dflt (refine' Cl.use (find_cl _ _ _ _ _ _ (by omega) (by omega) _ _ _) ?B ?F ?X ?N ?T ?hk ?hd ?hu ?_; (case B => k_asm); (case F => k_asm); (case X => k_asm); (case N => k_asm); (case T => k_asm); (case hk => first | exact rfl | assumption); (case hd => ktr_room); (case hu => ktr_units); k_whole); intro t9 h9 tk9 F9 N9; (try dsimp only); (try k_sweep); (try k_fold)))
local macro_rules | `(tactic| walk_at "call ref") => `(tactic| (k_here; (with_reducible show wpAny _ _ (call (Value.ref 86) _) _ _ _); k_dflt (refine' Cl.use (back_cl _ _ _ _ _ _ (by omega) (by omega) _ _ _) ?B ?F ?X ?N ?T ?hk ?hd ?hu ?_; (case B => k_asm); (case F => k_asm); (case X => k_asm); (case N => k_asm); (case T => k_asm); (case hk => first | exact rfl | assumption); (case hd => ktr_room); (case hu => ktr_units); k_whole); intro t9 h9 tk9 F9 N9; (try dsimp only); (try k_sweep); (try k_fold)))
local macro_rules | `(tactic| walk_at "call ref") => `(tactic| (k_here; (with_reducible show wpAny _ _ (call (Value.ref 121) _) _ _ _); k_dflt (refine' Cl.use (cuts_cl _ _ _ _ _ _ (by omega) (by omega) (by omega) _ _) ?B ?F ?X ?N ?T ?hk ?hd ?hu ?_; (case B => k_asm); (case F => k_asm); (case X => k_asm); (case N => k_asm); (case T => k_asm); (case hk => first | exact rfl | assumption); (case hd => ktr_room); (case hu => ktr_units); k_whole); intro t9 h9 tk9 F9 N9; (try dsimp only); (try k_sweep); (try k_fold)))
local macro_rules | `(tactic| walk_at "binaryOp Add str str") => `(tactic| (k_here; (with_reducible show wpAny _ _ (binaryOp Operator.Add (Value.str _ _) (Value.str _ _)) _ _ _); (refine KOpn.add (room8 (by first | exact slice_len8 (by assumption) _ _ | exact sliceN_len8 (by assumption) _) (by first | exact slice_len8 (by assumption) _ _ | exact sliceN_len8 (by assumption) _)) ?_); intro _ _ _))
set_option maxRecDepth 100000 in
set_option maxHeartbeats 4000000 in
theorem line11 : LineOn 11 (fun x _ f g => putT x (if (x.length : Int) < f then (x.length : Int) else f) g (Txt.slice x (some (if (x.length : Int) < f then (x.length : Int) else f)) (some ((if (x.length : Int) < f then (x.length : Int) else f) + g))) = x) := by
  unfold LineOn
  k_fill
  k_with_none
  w_top off
  intro w mean mg mb dp un gd a ccd outer A₀ base h₀ L s Q E x y f g tx ty ts tf tg D c o us n u B X T hd hu F N hc hS hx habc hy hf0 hf hg0 hg hP hQ
  obtain ⟨b, hb⟩ : ∃ b, b = atStmt 11 := ⟨_, rfl⟩
  obtain ⟨sc, hsc⟩ : ∃ sc, sc = lawScope := ⟨_, rfl⟩
  rw [← hb, ← hsc]
  dsimp only [atStmt, lawBody, PySem.Challenge.pw_sa0355_01, List.drop, List.take] at hb
  dsimp only [lawScope, PySem.Challenge.pw_sa0355_01, List.drop] at hsc
  subst hb
  subst hsc
  delta lawMap at F
  k_steps
  all_goals first
    | exact (ne_absurd hP (by assumption)).elim
    | exact hQ _ _ u (by k_asm) (by k_asm)

end

section
local macro_rules | `(tactic| walk_at "call ref") => `(tactic| (k_here; (with_reducible show wpAny _ _ (call (Value.ref 51) _) _ _ _); k_dflt (refine' Cl.use (slice_cl _ _ _ _ _ (by omega) _ _ _ _ _) ?B ?F ?X ?N ?T ?hk ?hd ?hu ?_; (case B => k_asm); (case F => k_asm); (case X => k_asm); (case N => k_asm); (case T => k_asm); (case hk => first | exact rfl | assumption); (case hd => ktr_room); (case hu => ktr_units); k_whole); intro t9 h9 tk9 F9 N9; (try dsimp only); (try k_sweep); (try k_fold)))
local macro_rules | `(tactic| walk_at "call ref") => `(tactic| (k_here; (with_reducible show wpAny _ _ (call (Value.ref 51) _) _ _ _); k_dflt (refine' Cl.use (sliceN_cl _ _ _ _ _ (by omega) _ _ _) ?B ?F ?X ?N ?T ?hk ?hd ?hu ?_; (case B => k_asm); (case F => k_asm); (case X => k_asm); (case N => k_asm); (case T => k_asm); (case hk => first | exact rfl | assumption); (case hd => ktr_room); (case hu => ktr_units); k_whole); intro t9 h9 tk9 F9 N9; (try dsimp only); (try k_sweep); (try k_fold)))
local macro_rules | `(tactic| walk_at "call ref") => `(tactic| (k_here; (with_reducible show wpAny _ _ (call (Value.ref 65) _) _ _ _); k_dflt (refine' Cl.use (substr_cl _ _ _ _ _ (by omega) _ _ _ _ _) ?B ?F ?X ?N ?T ?hk ?hd ?hu ?_; (case B => k_asm); (case F => k_asm); (case X => k_asm); (case N => k_asm); (case T => k_asm); (case hk => first | exact rfl | assumption); (case hd => ktr_room); (case hu => ktr_units); k_whole); intro t9 h9 tk9 F9 N9; (try dsimp only); (try k_sweep); (try k_fold)))
local macro_rules | `(tactic| walk_at "call ref") => `(tactic| (k_here; (with_reducible show wpAny _ _ (call (Value.ref 58) _) _ _ _); k_dflt (refine' Cl.use (substring_cl _ _ _ _ _ (by omega) _ _ _ _ _) ?B ?F ?X ?N ?T ?hk ?hd ?hu ?_; (case B => k_asm); (case F => k_asm); (case X => k_asm); (case N => k_asm); (case T => k_asm); (case hk => first | exact rfl | assumption); (case hd => ktr_room); (case hu => ktr_units); k_whole); intro t9 h9 tk9 F9 N9; (try dsimp only); (try k_sweep); (try k_fold)))
local macro_rules | `(tactic| walk_at "call ref") => `(tactic| (k_here; (with_reducible show wpAny _ _ (call (Value.ref 114) _) _ _ _); k_dflt (refine' Cl.use (put_cl _ _ _ _ _ _ (by omega) (by omega) _ _ (by omega) (by omega) _ _ _ _) ?B ?F ?X ?N ?T ?hk ?hd ?hu ?_; (case B => k_asm); (case F => k_asm); (case X => k_asm); (case N => k_asm); (case T => k_asm); (case hk => first | exact rfl | assumption); (case hd => ktr_room); (case hu => ktr_units); k_whole); intro t9 h9 tk9 F9 N9; (try dsimp only); (try k_sweep); (try k_fold)))
local macro_rules | `(tactic| walk_at "call ref") => `(tactic| (k_here; (with_reducible show wpAny _ _ (call (Value.ref 79) _) _ _ _); k_dflt (refine' Cl.use (find_cl _ _ _ _ _ _ (by omega) (by omega) _ _ _) ?B ?F ?X ?N ?T ?hk ?hd ?hu ?_; (case B => k_asm); (case F => k_asm); (case X => k_asm); (case N => k_asm); (case T => k_asm); (case hk => first | exact rfl | assumption); (case hd => ktr_room); (case hu => ktr_units); k_whole); intro t9 h9 tk9 F9 N9; (try dsimp only); (try k_sweep); (try k_fold)))
local macro_rules | `(tactic| walk_at "call ref") => `(tactic| (k_here; (with_reducible show wpAny _ _ (call (Value.ref 86) _) _ _ _); k_dflt (refine' Cl.use (back_cl _ _ _ _ _ _ (by omega) (by omega) _ _ _) ?B ?F ?X ?N ?T ?hk ?hd ?hu ?_; (case B => k_asm); (case F => k_asm); (case X => k_asm); (case N => k_asm); (case T => k_asm); (case hk => first | exact rfl | assumption); (case hd => ktr_room); (case hu => ktr_units); k_whole); intro t9 h9 tk9 F9 N9; (try dsimp only); (try k_sweep); (try k_fold)))
local macro_rules | `(tactic| walk_at "call ref") => `(tactic| (k_here; (with_reducible show wpAny _ _ (call (Value.ref 121) _) _ _ _); k_dflt (refine' Cl.use (cuts_cl _ _ _ _ _ _ (by omega) (by omega) (by omega) _ _) ?B ?F ?X ?N ?T ?hk ?hd ?hu ?_; (case B => k_asm); (case F => k_asm); (case X => k_asm); (case N => k_asm); (case T => k_asm); (case hk => first | exact rfl | assumption); (case hd => ktr_room); (case hu => ktr_units); k_whole); intro t9 h9 tk9 F9 N9; (try dsimp only); (try k_sweep); (try k_fold)))
theorem trim_pad (w : World) (mean : ExcName → Option Value) (mg mb : Str → Option Value) (x : Str) (hx : x.length ≤ 8) (habc : ∀ c ∈ x.cps.toList, c = 97 ∨ c = 98 ∨ c = 45) (tx : Tok) :
    Cl 3 w mean mg mb 107 [.str (Str.ofString " \n" ++ x ++ Str.ofString "\ufeff ") tx] (fun t => .str x t) := by
  have h := trim_cl w mean mg mb (Str.ofString " \n" ++ x ++ Str.ofString "\ufeff ") (by rw [pad_len]; omega) 2 (x.length + 2) (by omega) (by rw [pad_len]; omega) pad_lo pad_hi (pad_in habc) tx
  rw [pad_sub] at h
  exact h
theorem trim_own (w : World) (mean : ExcName → Option Value) (mg mb : Str → Option Value) (x : Str) (hx : x.length ≤ 8) (habc : ∀ c ∈ x.cps.toList, c = 97 ∨ c = 98 ∨ c = 45) (tx : Tok) :
    Cl 3 w mean mg mb 107 [.str x tx] (fun t => .str x t) := by
  have h := trim_cl w mean mg mb x (by omega) 0 x.length (by omega) (Nat.le_refl _) (fun k hk => absurd hk (Nat.not_lt_zero _)) (fun k h1 h2 => absurd h2 (by omega)) (own_in habc) tx
  rw [own_sub] at h
  exact h
local macro_rules | `(tactic| walk_at "call ref") => `(tactic| (k_here; (with_reducible show wpAny _ _ (call (Value.ref 107) _) _ _ _); k_dflt (refine' Cl.use (trim_own _ _ _ _ _ (by assumption) (by assumption) _) ?B ?F ?X ?N ?T ?hk ?hd ?hu ?_; (case B => k_asm); (case F => k_asm); (case X => k_asm); (case N => k_asm); (case T => k_asm); (case hk => first | exact rfl | assumption); (case hd => ktr_room); (case hu => ktr_units); k_whole); intro t9 h9 tk9 F9 N9; (try dsimp only); (try k_sweep); (try k_fold)))
local macro_rules | `(tactic| walk_at "call ref") => `(tactic| (k_here; (with_reducible show wpAny _ _ (call (Value.ref 107) _) _ _ _); k_dflt (refine' Cl.use (trim_pad _ _ _ _ _ (by assumption) (by assumption) _) ?B ?F ?X ?N ?T ?hk ?hd ?hu ?_; (case B => k_asm); (case F => k_asm); (case X => k_asm); (case N => k_asm); (case T => k_asm); (case hk => first | exact rfl | assumption); (case hd => ktr_room); (case hu => ktr_units); k_whole); intro t9 h9 tk9 F9 N9; (try dsimp only); (try k_sweep); (try k_fold)))
theorem len_ends {x : Str} (h : x.length ≤ 8) : (Str.ofString " \n").length + x.length ≤ 16777216 := by
  have : (Str.ofString " \n").length = 2 := by decide +kernel
  omega
theorem len_ends2 {x : Str} (h : x.length ≤ 8) : (Str.ofString " \n" ++ x).length + (Str.ofString "\ufeff ").length ≤ 16777216 := by
  have h1 : (Str.ofString " \n").length = 2 := by decide +kernel
  have h2 : (Str.ofString "\ufeff ").length = 2 := by decide +kernel
  rw [Str.length_append]
  omega
local macro_rules | `(tactic| walk_at "binaryOp Add str str") => `(tactic| (k_here; (with_reducible show wpAny _ _ (binaryOp Operator.Add (Value.str _ _) (Value.str _ _)) _ _ _); (refine KOpn.add (by first | exact len_ends (by assumption) | exact len_ends2 (by assumption)) ?_); intro _ _ _))
set_option maxRecDepth 100000 in
set_option maxHeartbeats 4000000 in
theorem line12 : LineRet 12 := by
  unfold LineRet
  k_fill
  k_with_none
  w_top off
  intro w mean mg mb dp un gd a ccd outer A₀ base h₀ L s Q E x y f g tx ty ts tf tg D c o us n u B X T hd hu F N hc hS hx habc hy hf0 hf hg0 hg hQ
  obtain ⟨b, hb⟩ : ∃ b, b = atStmt 12 := ⟨_, rfl⟩
  obtain ⟨sc, hsc⟩ : ∃ sc, sc = lawScope := ⟨_, rfl⟩
  rw [← hb, ← hsc]
  dsimp only [atStmt, lawBody, PySem.Challenge.pw_sa0355_01, List.drop, List.take] at hb
  dsimp only [lawScope, PySem.Challenge.pw_sa0355_01, List.drop] at hsc
  subst hb
  subst hsc
  delta lawMap at F
  k_steps
  all_goals (rw [beq_self_eq_true x])
  all_goals exact hQ _ _ _ (by k_asm)

end

section
theorem execs_step {M : Model} {A : Around} {env : Env} {E : Value → Shared → Prop} {s : Shared} {st : Stmt} {rest : List Stmt} {Q : Flow → Shared → Prop}
    (h : wpAny M A (execs [st] env) (fun f s' => match f with | .next => wpAny M A (execs rest env) Q E s' | f => Q f s') E s) :
    wpAny M A (execs (st :: rest) env) Q E s := fun Γ p hΓ => by
  have h1 := h Γ p hΓ
  rw [execs_cons, Sem.wp_bind'] at h1
  rw [execs_cons, Sem.wp_bind']
  refine Sem.wp_mono M Γ _ (fun f p' s' h' => ?_) (fun _ _ _ h' => h') _ _ h1
  cases f with
  | next => exact h' Γ p' hΓ
  | brk => exact h'
  | cont => exact h'
  | ret v => exact h'
structure LawFacts (x y : Str) (f g : Int) : Prop where
  f6 : (∀ p ∈ splitT x y, p.length ≤ 8) ∧ (∀ p ∈ splitT x y, PyData.strOk p = true) ∧ Txt.join y ((splitT x y).take 99) = x ∧ (splitT x y).take f.toNat = ((splitT x y).take 99).take f.toNat
  f7 : (∀ p ∈ splitT x y, p.length ≤ 8) ∧ (1 ≤ y.length → (∀ p ∈ splitT x y, findT p y = -1) ∧ (((splitT x y).take 99).length : Int) = cntW x y 0 + 1 ∧
    (0 ≤ findT x y → findT (sliceT x 0 (findT x y + (y.length : Int) - 1)) y = -1) ∧
    ∀ t v : Tok, (0 ≤ findT (Txt.sliceBy x none none (-1, t)) (Txt.sliceBy y none none (-1, v)) → backT x y = (x.length : Int) - (y.length : Int) - findT (Txt.sliceBy x none none (-1, t)) (Txt.sliceBy y none none (-1, v))) ∧
      (¬ 0 ≤ findT (Txt.sliceBy x none none (-1, t)) (Txt.sliceBy y none none (-1, v)) → backT x y = -1))
  f8 : sliceT x 0 f ++ sliceN x f = x ∧ substrT x f g = sliceT x f (f + g)
  f9 : 0 < f → sliceT x 0 (0 - f) ++ sliceN x (0 - f) = x
  f10 : substringT x f g = substringT x g f ∧ substringT x 0 f = sliceT x 0 f
  f11 : putT x (if (x.length : Int) < f then (x.length : Int) else f) g (Txt.slice x (some (if (x.length : Int) < f then (x.length : Int) else f)) (some ((if (x.length : Int) < f then (x.length : Int) else f) + g))) = x

theorem tail6 (w : World) (mean : ExcName → Option Value) (mg mb : Str → Option Value) (dp un : Nat) (gd : Option (List Code)) (a : Addr) (ccd : Value) (outer : List Env) (A₀ : Around) (base h₀ : Heap) (L : Addr) (s : Shared) (Q : Flow → Shared → Prop) (E : Value → Shared → Prop)
    (x y : Str) (f g : Int) (tx ty ts tf tg : Tok) (D c : Addr) (o : Obj) (us : List Value) (n : Nat) (u : Str → Option Value)
    (B : Below A₀ base outer h₀) (X : (hd.heap_39 w.params).In h₀)
    (T : Top hd.view_39 (looseW hd.view_39 [Str.ofString "BLANKS", Str.ofString "LINE_ENDS"]) mean mg mb h₀)
    (hd : dp + 4 < recursionLimit) (hu : un + 100 < cLine)
    (F : Fr h₀ L s.heap (lawMap x f g tx ts tf tg D u)) (N : News h₀ L s.heap [(D, listOf us.toArray n), (c, o)]) (hc : o.data = .cell (some (.str y ty))) (hS : StrsAre us ((splitT x y).take 99))
    (hx : x.length ≤ 8) (habc : ∀ c ∈ x.cps.toList, c = 97 ∨ c = 98 ∨ c = 45) (hy : y.length ≤ 2) (hf0 : 0 ≤ f) (hf : f ≤ 8) (hg0 : 0 ≤ g) (hg : g ≤ 8) (P : LawFacts x y f g)
    (hQ : ∀ (h' : Heap) (tk' : Nat) (m' : Str → Option Value), Fr h₀ L h' m' → Q (.ret (.bool true)) { s with heap := h', toks := tk' }) :
    wpAny (model PySem.Challenge.rw_sa0355_01.row.prog w) (ktrTop dp un gd (Str.ofString "law") lawScope L a ccd [(Str.ofString "separator", c)] outer)
      (execs (lawBody.drop 6) (envX (Str.ofString "law") lawScope L a ccd [(Str.ofString "separator", c)])) Q E s := by
  show wpAny _ _ (execs (_ :: lawBody.drop 7) _) _ _ _
  refine execs_step (line6 w mean mg mb dp un gd a ccd outer A₀ base h₀ L s _ E x y f g tx ty ts tf tg D c o us n u B X T hd hu F N hc hS hx habc hy hf0 hf hg0 hg P.f6 fun h1 tk1 u1 F1 N1 => ?_)
  show wpAny _ _ (execs (_ :: lawBody.drop 8) _) _ _ _
  refine execs_step (line7 w mean mg mb dp un gd a ccd outer A₀ base h₀ L _ _ E x y f g tx ty ts tf tg D c o us n u1 B X T hd hu F1 N1 hc hS hx habc hy hf0 hf hg0 hg P.f7 fun h2 tk2 u2 F2 N2 => ?_)
  show wpAny _ _ (execs (_ :: lawBody.drop 9) _) _ _ _
  refine execs_step (line8 w mean mg mb dp un gd a ccd outer A₀ base h₀ L _ _ E x y f g tx ty ts tf tg D c o us n u2 B X T hd hu F2 N2 hc hS hx habc hy hf0 hf hg0 hg P.f8 fun h3 tk3 u3 F3 N3 => ?_)
  show wpAny _ _ (execs (_ :: lawBody.drop 10) _) _ _ _
  refine execs_step (line9 w mean mg mb dp un gd a ccd outer A₀ base h₀ L _ _ E x y f g tx ty ts tf tg D c o us n u3 B X T hd hu F3 N3 hc hS hx habc hy hf0 hf hg0 hg P.f9 fun h4 tk4 u4 F4 N4 => ?_)
  show wpAny _ _ (execs (_ :: lawBody.drop 11) _) _ _ _
  refine execs_step (line10 w mean mg mb dp un gd a ccd outer A₀ base h₀ L _ _ E x y f g tx ty ts tf tg D c o us n u4 B X T hd hu F4 N4 hc hS hx habc hy hf0 hf hg0 hg P.f10 fun h5 tk5 u5 F5 N5 => ?_)
  show wpAny _ _ (execs (_ :: lawBody.drop 12) _) _ _ _
  refine execs_step (line11 w mean mg mb dp un gd a ccd outer A₀ base h₀ L _ _ E x y f g tx ty ts tf tg D c o us n u5 B X T hd hu F5 N5 hc hS hx habc hy hf0 hf hg0 hg P.f11 fun h6 tk6 u6 F6 N6 => ?_)
  exact line12 w mean mg mb dp un gd a ccd outer A₀ base h₀ L _ _ E x y f g tx ty ts tf tg D c o us n u6 B X T hd hu F6 N6 hc hS hx habc hy hf0 hf hg0 hg fun h7 tk7 m7 F7 => hQ h7 tk7 m7 F7

end

section
theorem law_facts {x y : Str} {f g : Int} (hx : x.length ≤ 8) (habc : ∀ c ∈ x.cps.toList, c = 97 ∨ c = 98 ∨ c = 45) (hy : y.length ≤ 2) (hf0 : 0 ≤ f) (hf : f ≤ 8) (hg0 : 0 ≤ g) (hg : g ≤ 8) : LawFacts x y f g :=
  ⟨facts6 hx habc, facts7 hx, facts8 hf0 hg0, fun h => facts9 h, facts10 hf0, facts11 hf0 hg0⟩
theorem fr_law {h₀ h : Heap} {L : Addr} {m : Str → Option Value} {x : Str} {f g : Int} {tx ts tf tg : Tok} {D : Addr} (F : Fr h₀ L h m) (h1 : m (Str.ofString "text") = some (.str x tx)) (h2 : m (Str.ofString "size") = some (.int x.length ts))
    (h3 : m (Str.ofString "first") = some (.int f tf)) (h4 : m (Str.ofString "last") = some (.int g tg)) (h5 : m (Str.ofString "pieces") = some (.ref D)) : Fr h₀ L h (lawMap x f g tx ts tf tg D m) := by
  have e : lawMap x f g tx ts tf tg D m = m := by
    funext z
    unfold lawMap
    by_cases q1 : z = Str.ofString "text"
    · rw [if_pos q1, q1, h1]
    by_cases q2 : z = Str.ofString "size"
    · rw [if_neg q1, if_pos q2, q2, h2]
    by_cases q3 : z = Str.ofString "first"
    · rw [if_neg q1, if_neg q2, if_pos q3, q3, h3]
    by_cases q4 : z = Str.ofString "last"
    · rw [if_neg q1, if_neg q2, if_neg q3, if_pos q4, q4, h4]
    by_cases q5 : z = Str.ofString "pieces"
    · rw [if_neg q1, if_neg q2, if_neg q3, if_neg q4, if_pos q5, q5, h5]
    rw [if_neg q1, if_neg q2, if_neg q3, if_neg q4, if_neg q5]
  rw [e]
  exact F
theorem news_two {h₀ h : Heap} {L : Addr} {news : List (Addr × Obj)} {p q : Addr × Obj} (N : News h₀ L h news) (h1 : p ∈ news) (h2 : q ∈ news) : News h₀ L h [p, q] := fun r hr => by
  rcases List.mem_cons.mp hr with rfl | hr
  · exact N _ h1
  · rcases List.mem_cons.mp hr with rfl | hr
    · exact N _ h2
    · cases hr
theorem fmod9 (c : Int) : 0 ≤ c.fmod 9 ∧ c.fmod 9 ≤ 8 := by
  rw [Int.fmod_eq_emod_of_nonneg _ (by decide)]
  omega
end

theorem cells_src (t1 t2 t3 t4 : Tok) : IntsAre [Value.int 2500 t1, Value.int 5 t2, Value.int 3 t3, Value.int 6 t4] [2500, 5, 3, 6] := .cons _ _ (.cons _ _ (.cons _ _ (.cons _ _ .nil)))
end Mine

open Mine
local macro_rules | `(tactic| walk_at "subscriptTail Name Slice ref ref") => `(tactic| (k_here; (with_reducible show wpAny _ _ (subscriptTail _ (PySem.Expr.Slice _ none none _) (Value.ref _) (Value.ref _)) _ _ _); k_dflt (refine' kmk_slice_ints ?mwF ?mwN ?mwl ?mwp ?mwq (cells_src _ _ _ _) (kmk_from (cells_src _ _ _ _) ?mwx) ?mwc ?_ ?mws ?mwt ?mwz; (case mwF => k_asm); (case mwN => k_asm); (case mwl => kmk_list); (case mwp => kmk_part); (case mwq => kmk_part); (case mwx => omega); (case mwc => kmk_len); (case mws => with_unfolding_all rfl); (case mwt => kmk_pure); (case mwz => exact Nat.le_of_ble_eq_true rfl)); intro D' ws' h' F' N' l1 hI' hC' hL'; (try k_lt l1); (try k_sweep)))
local macro_rules | `(tactic| walk_at "subscriptTail List cons Slice ref ref") => `(tactic| (k_here; k_dflt (refine kba_turn (value' := PySem.Expr.Name (PySem.Str.ofString "cells") ⟨0, 0, 0, 0⟩) (fun _ => rfl) ?_)))
local macro_rules | `(tactic| walk_at "exec While Compare cons nil") => `(tactic| k_extra "exec While Compare cons nil")
local macro_rules | `(tactic| walk_at "execs cons") => `(tactic| ((with_reducible show wpAny _ _ (execs (Stmt.If _ _ _ _ :: _) _) _ _ _); (refine Stop.out ?_)))
local macro_rules | `(tactic| walk_at "call ref") => `(tactic| (k_here; (with_reducible show wpAny _ _ (call (Value.ref 93) _) _ _ _); k_dflt (refine' ClL.use (split_cl _ _ _ _ _ _ (by omega) (by first | omega | exact Nat.le_trans (KOpn.len_getD (M := 2) (by decide +kernel)) (by decide)) _ (by omega) _ _ _) ?B ?F ?X ?N ?T ?hk ?hd ?hu ?_; (case B => k_asm); (case F => k_asm); (case X => k_asm); (case N => k_asm); (case T => k_asm); (case hk => first | exact rfl | assumption); (case hd => ktr_room); (case hu => ktr_units); k_whole); intro D9 us9 k9 h9 tk9 F9 N9 S9; (try dsimp only); (try k_sweep); (try k_fold)))
set_option maxRecDepth 100000 in
set_option maxHeartbeats 8000000 in
theorem PySem.Challenge.cw_sa0355_01_holds : PySem.Challenge.rw_sa0355_01.Holds := by
  apply hd
  k_go0
  (all_goals try k_fold)
  k_with_none
  k_with "table" => skip
  (k_with "exec While Compare cons nil" => k_while (fun _ x r => 0 ≤ r ∧ x.length ≤ 8 ∧ TextP x r) (fun _ x r => r.toNat) "text" "rest")
  (k_with "state" => first | exact text_init _ | exact text_step (by assumption) (by assumption) (by assumption) (by assumption))
  (k_with "measure" => exact text_less (by assumption))
  k_steps
  refine Stop.mk ?_
  rename Fr _ _ _ _ => F8
  rename News _ _ _ _ => N8
  k_dflt (have F9 := fr_law F8 rfl rfl rfl rfl rfl)
  k_dflt (refine' tail6 _ _ _ _ _ _ _ _ _ _ _ _ _ _ _ _ _ _ _ _ _ _ _ _ _ _ _ _ _ _ _ _ ?B ?X ?T ?hd ?hu F9 ?N ?hc ?hS ?hx ?habc ?hy ?f0 ?f8 ?g0 ?g8 ?P ?Q)
  case B => k_asm
  case X => k_asm
  case T => k_asm
  case hd => ktr_room
  case hu => ktr_units
  case N => exact news_two N8 (by k_mem) (by k_mem)
  case hc => assumption
  case hS => assumption
  case hx => assumption
  case habc => exact TextP.abc (by assumption)
  case hy => exact KOpn.len_getD (M := 2) (by decide +kernel)
  case f0 => exact (fmod9 _).1
  case f8 => exact (fmod9 _).2
  case g0 => exact (fmod9 _).1
  case g8 => exact (fmod9 _).2
  case P => exact law_facts (by assumption) (TextP.abc (by assumption)) (KOpn.len_getD (M := 2) (by decide +kernel)) (fmod9 _).1 (fmod9 _).2 (fmod9 _).1 (fmod9 _).2
  case Q =>
    intro h7 tk7 m7 F7
    k_steps
  all_goals (try k_data)

