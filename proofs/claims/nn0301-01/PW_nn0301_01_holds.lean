import PyProof.Rows.All
import Wide.All
import OpenK.AllK
import Wide.FinOn
import PySem.Challenge.RW_nn0301_01
set_option Elab.async false
set_option linter.unusedVariables false
local macro_rules | `(tactic| walk_at $s:str) => `(tactic| k_extra $s)
local macro_rules | `(tactic| k_mem) => `(tactic| k_extra "mem")

noncomputable section
open PySem PySem.W PyProof.Rows
namespace Mine
set_option maxRecDepth 100000 in
set_option maxHeartbeats 8000000 in
open_top hd for PySem.Challenge.rw_nn0301_01
end Mine
end

noncomputable section
open PySem PySem.W PySem.Calls PyProof.Rows
namespace Mine
/-! plain words: a row of bit codes (0, 1, 2 = z, 3 = x), the least first -/
def low : List Nat → Nat
  | [] => 0
  | b :: r => b % 2 + 2 * low r
def high : List Nat → Nat
  | [] => 0
  | b :: r => b / 2 + 2 * high r
def ones : List Nat → Nat
  | [] => 0
  | b :: r => (if b = 1 then 1 else 0) + 2 * ones r
def Four (bits : List Nat) : Prop := ∀ b ∈ bits, b < 4

theorem Four.take {bits : List Nat} (h : Four bits) (k : Nat) : Four (bits.take k) := fun b hb => h b (List.mem_of_mem_take hb)
theorem Four.drop {bits : List Nat} (h : Four bits) (k : Nat) : Four (bits.drop k) := fun b hb => h b (List.mem_of_mem_drop hb)
theorem Four.tail {b : Nat} {r : List Nat} (h : Four (b :: r)) : Four r := fun x hx => h x (.tail _ hx)
theorem Four.head {b : Nat} {r : List Nat} (h : Four (b :: r)) : b < 4 := h b (.head _)

theorem low_drop : ∀ (i : Nat) (bits : List Nat), low (bits.drop i) = low bits / 2 ^ i
  | 0, bits => by simp
  | i + 1, [] => by simp [low]
  | i + 1, b :: r => by
    rw [List.drop_succ_cons, low_drop i r, low, Nat.pow_succ, Nat.mul_comm (2 ^ i) 2, ← Nat.div_div_eq_div_mul]
    congr 1
    omega
theorem high_drop : ∀ (i : Nat) (bits : List Nat), Four bits → high (bits.drop i) = high bits / 2 ^ i
  | 0, bits, _ => by simp
  | i + 1, [], _ => by simp [high]
  | i + 1, b :: r, h => by
    rw [List.drop_succ_cons, high_drop i r h.tail, high, Nat.pow_succ, Nat.mul_comm (2 ^ i) 2, ← Nat.div_div_eq_div_mul]
    congr 1
    have := h.head
    omega
theorem low_take : ∀ (i : Nat) (bits : List Nat), low (bits.take i) = low bits % 2 ^ i
  | 0, bits => by simp [low, Nat.mod_one]
  | i + 1, [] => by simp [low]
  | i + 1, b :: r => by
    have e : (b % 2 + 2 * low r) / 2 = low r := by omega
    rw [List.take_succ_cons, low, low, low_take i r, Nat.pow_succ, Nat.mul_comm (2 ^ i) 2, Nat.mod_mul, e]
    omega
theorem high_take : ∀ (i : Nat) (bits : List Nat), Four bits → high (bits.take i) = high bits % 2 ^ i
  | 0, bits, _ => by simp [high, Nat.mod_one]
  | i + 1, [], _ => by simp [high]
  | i + 1, b :: r, h => by
    have h4 := h.head
    have e : (b / 2 + 2 * high r) / 2 = high r := by omega
    rw [List.take_succ_cons, high, high, high_take i r h.tail, Nat.pow_succ, Nat.mul_comm (2 ^ i) 2, Nat.mod_mul, e]
    omega
theorem low_lt : ∀ bits : List Nat, low bits < 2 ^ bits.length
  | [] => by simp [low]
  | b :: r => by
    have := low_lt r
    rw [low, List.length_cons, Nat.pow_succ]
    omega
theorem high_lt : ∀ bits : List Nat, Four bits → high bits < 2 ^ bits.length
  | [], _ => by simp [high]
  | b :: r, h => by
    have := high_lt r h.tail
    have := h.head
    rw [high, List.length_cons, Nat.pow_succ]
    omega
theorem low_head (bits : List Nat) : low bits % 2 = bits.getD 0 0 % 2 := by
  cases bits with
  | nil => simp [low]
  | cons b r => simp [low]
theorem high_head (bits : List Nat) (h : Four bits) : high bits % 2 = bits.getD 0 0 / 2 := by
  cases bits with
  | nil => simp [high]
  | cons b r => have := h.head; simp [high]; omega
theorem getD_drop0 (bits : List Nat) (i : Nat) : (bits.drop i).getD 0 0 = bits.getD i 0 := by
  simp [List.getD_eq_getElem?_getD]
theorem low_bit (bits : List Nat) (i : Nat) : low bits / 2 ^ i % 2 = bits.getD i 0 % 2 := by
  rw [← low_drop, low_head, getD_drop0]
theorem high_bit (bits : List Nat) (h : Four bits) (i : Nat) : high bits / 2 ^ i % 2 = bits.getD i 0 / 2 := by
  rw [← high_drop i bits h, high_head _ (h.drop i), getD_drop0]
theorem code_bit (bits : List Nat) (h : Four bits) (i : Nat) : low bits / 2 ^ i % 2 + 2 * (high bits / 2 ^ i % 2) = bits.getD i 0 := by
  rw [low_bit, high_bit bits h]
  omega
theorem fdiv_pow_nat (a i : Nat) : (a : Int).fdiv (2 ^ i) = ((a / 2 ^ i : Nat) : Int) := by
  have h2 : (0 : Int) ≤ 2 ^ i := Int.pow_nonneg (by decide)
  rw [Int.fdiv_eq_ediv_of_nonneg _ h2]
  push_cast
  rfl
theorem code_int (bits : List Nat) (h : Four bits) (i : Nat) :
    PySem.Builtin.bitAnd ((low bits : Int).fdiv (2 ^ i)) 1 + 2 * PySem.Builtin.bitAnd ((high bits : Int).fdiv (2 ^ i)) 1 = ((bits.getD i 0 : Nat) : Int) := by
  rw [bitAnd_m1, bitAnd_m1, fdiv_pow_nat, fdiv_pow_nat, ← code_bit bits h i]
  push_cast
  rfl
end Mine
namespace Mine
open PySem
theorem bitAnd_zero (x : Int) : Builtin.bitAnd x 0 = 0 := by
  have h1 := bitXor_zero x
  rw [bitXor_and] at h1
  omega
theorem bitOr_zero (x : Int) : Builtin.bitOr x 0 = x := by rw [bitOr_and, bitAnd_zero]; omega
theorem toNat_len_pred {n : Nat} (h : 1 ≤ n) : ((n : Int) - 1).toNat = n - 1 := by omega
theorem low_cut (bits : List Nat) (lo wd : Nat) : Builtin.bitAnd ((low bits : Int).fdiv (2 ^ lo)) (2 ^ wd - 1) = ((low ((bits.drop lo).take wd) : Nat) : Int) := by
  rw [kbt_mask, fdiv_pow_nat, low_take, low_drop]
  push_cast
  rfl
theorem high_cut (bits : List Nat) (h : Four bits) (lo wd : Nat) : Builtin.bitAnd ((high bits : Int).fdiv (2 ^ lo)) (2 ^ wd - 1) = ((high ((bits.drop lo).take wd) : Nat) : Int) := by
  rw [kbt_mask, fdiv_pow_nat, high_take _ _ (h.drop lo), high_drop _ _ h]
  push_cast
  rfl
theorem nat_bits {x : Nat} (h : x < 2 ^ 200) : (Builtin.Int.intBits (x : Int) : Int) + 0 ≤ 2 ^ 27 := by
  have := (intBits_le_iff (m := 200) (x := (x : Int))).mpr (by simpa using h)
  omega
theorem pow_le_200 {x n : Nat} (h : x < 2 ^ n) (hn : n ≤ 200) : x < 2 ^ 200 := Nat.lt_of_lt_of_le h (Nat.pow_le_pow_right (by decide) hn)
end Mine
end

noncomputable section
open PySem PySem.W PySem.Calls PyProof.Rows
namespace Mine
/-- a text by its signs' codes -/
def T (l : List Nat) : Str := ⟨l.toArray⟩
theorem T_append (a b : List Nat) : T a ++ T b = T (a ++ b) := by
  show Str.mk (a.toArray ++ b.toArray) = Str.mk (a ++ b).toArray
  simp
theorem T_len (a : List Nat) : (T a).length = a.length := by simp [T, Str.length]
theorem T_cps (a : List Nat) : (T a).cps = a.toArray := rfl
theorem T_of (x : Str) : T x.cps.toList = x := by simp [T]
theorem T_inj {a b : List Nat} (h : T a = T b) : a = b := by
  have := congrArg (fun x => x.cps.toList) h
  simpa [T] using this
theorem T_nil : T [] = Str.ofString "" := by decide +kernel
def sgc (b : Nat) : Nat := if b = 0 then 48 else if b = 1 then 49 else if b = 2 then 122 else 120
def hexc (k : Nat) : Nat := if k < 10 then 48 + k else 87 + k
theorem item_sg {b : Nat} (hb : b < 4) : Txt.item (Str.ofString "01zx") (b : Int) = T [sgc b] := by
  have h : ∀ b ∈ List.range 4, Txt.item (Str.ofString "01zx") (b : Int) = T [sgc b] := by decide +kernel
  exact h b (List.mem_range.mpr hb)
theorem item_hex {b : Nat} (hb : b < 16) : Txt.item (Str.ofString "0123456789abcdef") (b : Int) = T [hexc b] := by
  have h : ∀ b ∈ List.range 16, Txt.item (Str.ofString "0123456789abcdef") (b : Int) = T [hexc b] := by decide +kernel
  exact h b (List.mem_range.mpr hb)
theorem join_T_aux : ∀ (ls : List (List Nat)), Str.join (Str.ofString "") (ls.map T) = T ls.flatten
  | [] => rfl
  | [x] => by simp [Str.join]
  | x :: y :: r => by
    have ih := join_T_aux (y :: r)
    show T x ++ Str.ofString "" ++ Str.join (Str.ofString "") ((y :: r).map T) = _
    rw [ih, ← T_nil, T_append, T_append]
    simp
theorem join_T (ls : List (List Nat)) : Txt.join (Str.ofString "") (ls.map T) = T ls.flatten := by
  show Builtin.Str.glued _ _ = _
  rw [StrLaws.glued_eq_join, join_T_aux]
end Mine
namespace Mine
open PySem
/-- the code of the sign of a group that is no digit -/
def signC (bits : List Nat) : Nat := if 0 < bits.count 3 then (if bits.count 3 = bits.length then 120 else 88) else if bits.count 2 = bits.length then 122 else 90
/-- one digit -/
def digitL (bits : List Nat) : List Nat := if high bits = 0 then [hexc (low bits)] else [signC bits]
def grp (k : Nat) (bits : List Nat) (i : Nat) : List Nat := (bits.drop (k * i)).take k
/-- the digits, the least first -/
def digs (k : Nat) (bits : List Nat) : List (List Nat) := (List.range ((bits.length + k - 1) / k)).map fun j => digitL (grp k bits j)
/-- the text of the digits -/
def digT (k : Nat) (bits : List Nat) : List Nat := (digs k bits).reverse.flatten
theorem digitL_len (bits : List Nat) : (digitL bits).length = 1 := by unfold digitL; split <;> rfl
def GrInv (k : Nat) (bits : List Nat) (lo : Int) (xs : List Str) : Prop := ∃ i : Nat, lo = ((k * i : Nat) : Int) ∧ xs = ((List.range i).map fun j => digitL (grp k bits j)).map T ∧ k * i < bits.length + k
theorem GrInv.zero {k : Nat} {bits : List Nat} (hk : k = 1 ∨ k = 3 ∨ k = 4) : GrInv k bits 0 [] := ⟨0, by simp, rfl, by rcases hk with rfl | rfl | rfl <;> omega⟩
theorem GrInv.nonneg {k : Nat} {bits : List Nat} {lo : Int} {xs : List Str} (h : GrInv k bits lo xs) : 0 ≤ lo := by
  obtain ⟨i, e, _⟩ := h
  omega
theorem grp_cut {k : Nat} {bits : List Nat} {lo : Int} {i : Nat} (e : lo = ((k * i : Nat) : Int)) (hl : lo < bits.length) :
    (bits.drop lo.toNat).take (if (bits.length : Int) - lo < (k : Int) then (bits.length : Int) - lo else (k : Int)).toNat = grp k bits i := by
  have e1 : lo.toNat = k * i := by omega
  unfold grp
  rw [e1]
  split
  · rw [List.take_of_length_le (i := k) (by rw [List.length_drop]; omega), List.take_of_length_le (by rw [List.length_drop]; omega)]
  · simp
theorem GrInv.next {k : Nat} {bits : List Nat} {lo : Int} {xs : List Str} (h : GrInv k bits lo xs) (hl : lo < bits.length) :
    GrInv k bits (lo + k) (xs ++ [T (digitL ((bits.drop lo.toNat).take (if (bits.length : Int) - lo < (k : Int) then (bits.length : Int) - lo else (k : Int)).toNat))]) := by
  obtain ⟨i, e, rfl, hi⟩ := h
  have e2 : k * (i + 1) = k * i + k := Nat.mul_succ k i
  refine ⟨i + 1, by rw [e2]; omega, ?_, by rw [e2]; omega⟩
  rw [grp_cut e hl, List.range_succ]
  simp
theorem GrInv.all {k : Nat} {bits : List Nat} {lo : Int} {xs : List Str} (hk : k = 1 ∨ k = 3 ∨ k = 4) (h : GrInv k bits lo xs) (hl : ¬ lo < bits.length) : xs = (digs k bits).map T := by
  obtain ⟨i, e, rfl, hi⟩ := h
  have e2 : i = (bits.length + k - 1) / k := by rcases hk with rfl | rfl | rfl <;> omega
  rw [e2]
  rfl
theorem GrInv.len {k : Nat} {bits : List Nat} {lo : Int} {xs : List Str} (hk : k = 1 ∨ k = 3 ∨ k = 4) (h : GrInv k bits lo xs) : xs.length ≤ bits.length + 1 := by
  obtain ⟨i, e, rfl, hi⟩ := h
  simp only [List.length_map, List.length_range]
  rcases hk with rfl | rfl | rfl <;> omega
theorem cut16 {l : List Nat} {b : Nat} (h : b ≤ 4) : low (l.take b) < 16 :=
  Nat.lt_of_lt_of_le (low_lt _) (Nat.le_trans (Nat.pow_le_pow_right (n := 2) (by decide) (Nat.le_trans (List.length_take_le b l) h)) (by decide))
theorem cut_short {l : List Nat} {a b n : Nat} (h : l.length < n) : ((l.drop a).take b).length < n := by
  have h1 := List.length_take_le' b (l.drop a)
  rw [List.length_drop] at h1
  omega
theorem digT_len (k : Nat) (bits : List Nat) : (digT k bits).length = (bits.length + k - 1) / k := by
  have h : ∀ l : List (List Nat), (∀ x ∈ l, x.length = 1) → l.flatten.length = l.length := fun l hl => by
    induction l with
    | nil => rfl
    | cons a r ih => rw [List.flatten_cons, List.length_append, hl a (.head _), ih fun x hx => hl x (.tail _ hx), List.length_cons]; omega
  unfold digT
  rw [h, List.length_reverse, digs, List.length_map, List.length_range]
  intro x hx
  obtain ⟨j, _, rfl⟩ := List.mem_map.mp (List.mem_reverse.mp hx)
  exact digitL_len _
end Mine
end

noncomputable section
open PySem PySem.W PySem.Calls PyProof.Rows
namespace Mine
/-- a number's decimal digits, their codes -/
def decL (m : Nat) : List Nat := (Nat.toDigits 10 m).map Char.toNat
def decI (a : Int) : List Nat := if a < 0 then 45 :: decL a.natAbs else decL a.natAbs
theorem ofString_T (x : String) : Str.ofString x = T (x.toList.map Char.toNat) := by rw [Str.ofString_eq_toList]; rfl
theorem nat_text (m : Nat) : Str.ofString (toString m) = T (decL m) := by
  rw [ofString_T]
  show T ((Nat.repr m).toList.map Char.toNat) = _
  rw [Nat.repr_eq_ofList_toDigits, String.toList_ofList]
  rfl
theorem int_text (a : Int) : Str.ofString (toString a) = T (decI a) := by
  cases a with
  | ofNat m =>
    have e : toString (Int.ofNat m) = toString m := rfl
    have h : ¬ (Int.ofNat m) < 0 := by have := Int.natCast_nonneg m; simp
    rw [e, nat_text, decI, if_neg h]
    rfl
  | negSucc m =>
    have e : toString (Int.negSucc m) = "-" ++ toString (m + 1) := rfl
    have h : (Int.negSucc m) < 0 := Int.negSucc_lt_zero m
    rw [e, ofString_T, String.toList_append, List.map_append, decI, if_pos h]
    have e2 : T (List.map Char.toNat (toString (m + 1)).toList) = T (decL (m + 1)) := by rw [← nat_text, ofString_T]
    rw [T_inj e2]
    rfl
def digC (d : Nat) : Nat := (Nat.digitChar d).toNat
theorem decL_small {m : Nat} (h : m < 10) : decL m = [digC m] := by unfold decL; rw [Nat.toDigits_of_lt_base h]; rfl
theorem decL_big {m : Nat} (h : 10 ≤ m) : decL m = decL (m / 10) ++ [digC (m % 10)] := by
  unfold decL
  rw [Nat.toDigits_of_base_le (by decide) h, List.map_append]
  rfl
theorem digC_zero : digC 0 = 48 := rfl
theorem decL_pos : ∀ m : Nat, 1 ≤ (decL m).length := fun m => by
  by_cases h : m < 10
  · rw [decL_small h]; simp
  · rw [decL_big (by omega), List.length_append]; simp
theorem decL_len_le : ∀ (j m : Nat), 1 ≤ j → m < 10 ^ j → (decL m).length ≤ j
  | 0, _, h, _ => by omega
  | j + 1, m, _, hm => by
    by_cases h : m < 10
    · rw [decL_small h]; simp
    · have h1 : 1 ≤ j := by
        rcases Nat.eq_zero_or_pos j with rfl | h1
        · simp at hm; omega
        · exact h1
      have h2 : m / 10 < 10 ^ j := by rw [Nat.pow_succ] at hm; omega
      have ih := decL_len_le j (m / 10) h1 h2
      rw [decL_big (by omega), List.length_append]
      simp
      omega
/-- at least j digits -/
def padz (j : Nat) (l : List Nat) : List Nat := List.replicate (j - l.length) 48 ++ l
theorem padz_zero : ∀ j, 1 ≤ j → padz j (decL 0) = List.replicate j 48 := fun j hj => by
  rw [decL_small (by decide), padz, digC_zero]
  obtain ⟨i, rfl⟩ : ∃ i, j = i + 1 := ⟨j - 1, by omega⟩
  rw [List.replicate_succ']
  rfl
theorem padz_snoc {j a d : Nat} (hj : 1 ≤ j) (ha : a < 10 ^ j) (hd : d < 10) : padz j (decL a) ++ [digC d] = padz (j + 1) (decL (10 * a + d)) := by
  by_cases h0 : a = 0
  · subst h0
    rw [padz_zero j hj, Nat.mul_zero, Nat.zero_add, decL_small hd, padz]
    rfl
  · have e1 : (10 * a + d) / 10 = a := by omega
    have e2 : (10 * a + d) % 10 = d := by omega
    rw [decL_big (m := 10 * a + d) (by omega), e1, e2, padz, padz, List.length_append, List.append_assoc]
    congr 2
    simp
theorem decL_chunk : ∀ (j m : Nat), 1 ≤ j → 10 ^ j ≤ m → decL m = decL (m / 10 ^ j) ++ padz j (decL (m % 10 ^ j))
  | 0, _, h, _ => by omega
  | 1, m, _, hm => by
    rw [decL_big (by simpa using hm), Nat.pow_one, padz, decL_small (m := m % 10) (by omega)]
    rfl
  | j + 2, m, _, hm => by
    have hp : 1 ≤ 10 ^ (j + 1) := Nat.pos_of_ne_zero (by simp)
    have e0 : 10 ^ (j + 2) = 10 * 10 ^ (j + 1) := by rw [Nat.pow_succ (m := j + 1), Nat.mul_comm]
    have h1 : 10 ^ (j + 1) ≤ m / 10 := by rw [e0] at hm; omega
    have ih := decL_chunk (j + 1) (m / 10) (by omega) h1
    have e1 : m / 10 / 10 ^ (j + 1) = m / 10 ^ (j + 2) := by rw [Nat.div_div_eq_div_mul, e0]
    have e2 : m % 10 ^ (j + 2) = 10 * (m / 10 % 10 ^ (j + 1)) + m % 10 := by rw [e0, Nat.mod_mul]; omega
    rw [decL_big (by omega), ih, e1, e2, List.append_assoc, padz_snoc (by omega) (Nat.mod_lt _ hp) (by omega)]
end Mine
namespace Mine
open PySem
theorem rjust_T (l : List Nat) (j : Nat) : Txt.rjustF (T l) (j : Int) 48 = T (padz j l) := by
  unfold Txt.rjustF padz
  rw [T_len]
  by_cases h : (j : Int) ≤ l.length
  · rw [if_pos h]
    have e : j - l.length = 0 := by omega
    rw [e]
    rfl
  · rw [if_neg h]
    unfold Builtin.Str.padded
    rw [T_cps, Int.toNat_natCast]
    unfold T
    simp
theorem padz_len (j : Nat) (l : List Nat) : j ≤ (padz j l).length := by unfold padz; rw [List.length_append, List.length_replicate]; omega
theorem decI_nat (m : Nat) : decI (m : Int) = decL m := by
  unfold decI
  rw [if_neg (by omega)]
  rfl
theorem fdiv_nat (m d : Nat) : (m : Int).fdiv (d : Int) = ((m / d : Nat) : Int) := by
  rw [Int.fdiv_eq_ediv_of_nonneg _ (Int.natCast_nonneg d), Int.natCast_ediv]
theorem fmod_nat (m d : Nat) : (m : Int).fmod (d : Int) = ((m % d : Nat) : Int) := by
  rw [Int.fmod_eq_emod_of_nonneg _ (Int.natCast_nonneg d), Int.natCast_emod]
def WtInv (N : Nat) (rest : Int) (xs : List Str) : Prop := ∃ (m : Nat) (ls : List (List Nat)), rest = (m : Int) ∧ xs = ls.map T ∧ decL m ++ ls.reverse.flatten = decL N ∧ (∀ l ∈ ls, 1 ≤ l.length) ∧ m ≤ N
theorem WtInv.zero (n : Int) : WtInv n.natAbs (if n < 0 then -n else n) [] := ⟨n.natAbs, [], by split <;> omega, rfl, by simp, by simp, Nat.le_refl _⟩
theorem WtInv.next {N : Nat} {rest : Int} {xs : List Str} (h : WtInv N rest xs) (hr : 10 ^ 18 ≤ rest) : WtInv N (rest.fdiv (10 ^ 18)) (xs ++ [T (padz 18 (decI (rest.fmod (10 ^ 18))))]) := by
  obtain ⟨m, ls, rfl, rfl, e, hl, hm⟩ := h
  have h0 : (0 : Int) ≤ 10 ^ 18 := by decide
  have hm2 : 10 ^ 18 ≤ m := by omega
  have e18 : ((10 ^ 18 : Int)) = ((10 ^ 18 : Nat) : Int) := by decide +kernel
  have e1 : (m : Int).fdiv (10 ^ 18) = ((m / 10 ^ 18 : Nat) : Int) := by rw [e18, fdiv_nat]
  have e2 : (m : Int).fmod (10 ^ 18) = ((m % 10 ^ 18 : Nat) : Int) := by rw [e18, fmod_nat]
  refine ⟨m / 10 ^ 18, ls ++ [padz 18 (decL (m % 10 ^ 18))], e1, ?_, ?_, ?_, Nat.le_trans (Nat.div_le_self _ _) hm⟩
  · rw [e2, decI_nat]; simp
  · rw [List.reverse_append, List.reverse_cons, List.reverse_nil, List.nil_append, List.cons_append, List.nil_append, List.flatten_cons, ← List.append_assoc, ← decL_chunk 18 m (by decide) hm2, e]
  · intro l hl'
    rcases List.mem_append.mp hl' with h | h
    · exact hl l h
    · rw [List.mem_singleton.mp h]; exact Nat.le_trans (by decide) (padz_len 18 _)
theorem flat_ge : ∀ (ls : List (List Nat)), (∀ l ∈ ls, 1 ≤ l.length) → ls.length ≤ ls.flatten.length
  | [], _ => by simp
  | a :: r, h => by
    have := flat_ge r fun x hx => h x (.tail _ hx)
    have := h a (.head _)
    rw [List.flatten_cons, List.length_append, List.length_cons]
    omega
theorem pow200 : (2 : Nat) ^ 200 ≤ 10 ^ 61 := by decide +kernel
theorem decL_61 {N : Nat} (h : N < 2 ^ 200) : (decL N).length ≤ 61 := decL_len_le 61 N (by decide) (Nat.lt_of_lt_of_le h pow200)
theorem WtInv.small {N : Nat} {rest : Int} {xs : List Str} (h : WtInv N rest xs) (hN : N < 2 ^ 200) : xs.length ≤ 61 ∧ 0 ≤ rest ∧ rest.natAbs ≤ N := by
  obtain ⟨m, ls, rfl, rfl, e, hl, hm⟩ := h
  have h1 := flat_ge ls.reverse (fun l h => hl l (List.mem_reverse.mp h))
  have h2 := congrArg List.length e
  have h3 := decL_61 hN
  rw [List.length_append] at h2
  simp only [List.length_map, List.length_reverse] at h1 ⊢
  omega
end Mine
end

noncomputable section
open PySem PySem.W PySem.Calls PyProof.Rows
namespace Mine
theorem xor_mask {h n : Nat} (hh : h < 2 ^ n) : Builtin.bitXor (h : Int) (2 ^ n - 1) = 2 ^ n - 1 - (h : Int) := by
  have e : ((2 : Int) ^ n) = ((2 ^ n : Nat) : Int) := by push_cast; rfl
  rw [bitXor_and, kbt_mask, e, ← Int.natCast_emod, Nat.mod_eq_of_lt hh]
  omega
theorem and_ones : ∀ bits : List Nat, Four bits → Builtin.bitAnd (low bits : Int) (2 ^ bits.length - 1 - (high bits : Int)) = (ones bits : Int)
  | [], _ => by simp [low, high, ones]; exact bitAnd_zero 0
  | b :: r, h => by
    have ih := and_ones r h.tail
    have hb := h.head
    have hh := high_lt r h.tail
    have e : ((2 : Int) ^ r.length) = ((2 ^ r.length : Nat) : Int) := by push_cast; rfl
    have e2 : ((2 : Int) ^ (r.length + 1)) = 2 * ((2 ^ r.length : Nat) : Int) := by rw [Int.pow_succ, e]; omega
    rw [kbt_halves, List.length_cons, low, high, ones, e2]
    have e3 : (((b % 2 + 2 * low r : Nat) : Int)) / 2 = (low r : Int) := by omega
    have e4 : (2 * ((2 ^ r.length : Nat) : Int) - 1 - ((b / 2 + 2 * high r : Nat) : Int)) / 2 = ((2 ^ r.length : Nat) : Int) - 1 - (high r : Int) := by omega
    rw [e3, e4]
    rw [e] at ih
    rw [ih]
    by_cases h1 : b = 1
    · subst h1
      rw [if_pos (by omega), if_pos rfl]
      omega
    · rw [if_neg (by omega), if_neg h1]
      omega
theorem ones_int (bits : List Nat) (h : Four bits) : Builtin.bitAnd (low bits : Int) (Builtin.bitXor (high bits : Int) (2 ^ (bits.length : Int).toNat - 1)) = (ones bits : Int) := by
  rw [Int.toNat_natCast, xor_mask (high_lt bits h), and_ones bits h]
theorem ones_lt : ∀ bits : List Nat, ones bits < 2 ^ bits.length
  | [] => by simp [ones]
  | b :: r => by
    have := ones_lt r
    rw [ones, List.length_cons, Nat.pow_succ]
    split <;> omega
/-- a number's octets, the greatest first, none in front that is empty -/
def octL (m : Nat) : List Nat := if _h : m = 0 then [] else octL (m / 256) ++ [m % 256]
termination_by m
decreasing_by omega
theorem octL_zero : octL 0 = [] := by rw [octL]; rfl
theorem octL_pos {m : Nat} (h : m ≠ 0) : octL m = octL (m / 256) ++ [m % 256] := by rw [octL, dif_neg h]
theorem octL_len : ∀ (k m : Nat), m < 256 ^ k → (octL m).length ≤ k
  | 0, m, h => by
    have : m = 0 := by simpa using h
    rw [this, octL_zero]
    exact Nat.le_refl _
  | k + 1, m, h => by
    by_cases h0 : m = 0
    · rw [h0, octL_zero]; simp
    · have ih := octL_len k (m / 256) (by rw [Nat.pow_succ] at h; omega)
      rw [octL_pos h0, List.length_append]
      simp
      omega
def StInv (M : Nat) (rest : Int) (xs : List Str) : Prop := ∃ (m : Nat) (ls : List (List Nat)), rest = (m : Int) ∧ xs = ls.map T ∧ octL m ++ ls.reverse.flatten = octL M ∧ (∀ l ∈ ls, 1 ≤ l.length)
theorem StInv.zero (bits : List Nat) (h : Four bits) : StInv (ones bits) (Builtin.bitAnd (low bits : Int) (Builtin.bitXor (high bits : Int) (2 ^ (bits.length : Int).toNat - 1))) [] := ⟨ones bits, [], ones_int bits h, rfl, by simp, by simp⟩
theorem StInv.next {M : Nat} {rest : Int} {xs : List Str} (h : StInv M rest xs) (hr : 0 < rest) : StInv M (rest.fdiv (2 ^ Int.toNat 8)) (xs ++ [T [(rest % 256).toNat]]) := by
  obtain ⟨m, ls, rfl, rfl, e, hl⟩ := h
  have e8 : ((2 : Int) ^ Int.toNat 8) = ((256 : Nat) : Int) := by decide +kernel
  refine ⟨m / 256, ls ++ [[m % 256]], by rw [e8, fdiv_nat], ?_, ?_, ?_⟩
  · have e2 : ((m : Int) % 256).toNat = m % 256 := by omega
    rw [e2]
    simp
  · rw [List.reverse_append, List.reverse_cons, List.reverse_nil, List.nil_append, List.cons_append, List.nil_append, List.flatten_cons, ← List.append_assoc, ← octL_pos (by omega), e]
  · intro l hl'
    rcases List.mem_append.mp hl' with h | h
    · exact hl l h
    · rw [List.mem_singleton.mp h]; simp
theorem StInv.small {M : Nat} {rest : Int} {xs : List Str} (h : StInv M rest xs) (hM : M < 2 ^ 200) : xs.length ≤ 25 := by
  obtain ⟨m, ls, rfl, rfl, e, hl⟩ := h
  have h1 := flat_ge ls.reverse (fun l h => hl l (List.mem_reverse.mp h))
  have h2 := congrArg List.length e
  have h3 := octL_len 25 M (Nat.lt_of_lt_of_le hM (by decide +kernel))
  rw [List.length_append] at h2
  simp only [List.length_map, List.length_reverse] at h1 ⊢
  omega
theorem StInv.all {M : Nat} {rest : Int} {xs : List Str} (h : StInv M rest xs) (hr : ¬ 0 < rest) : ∃ ls : List (List Nat), xs = ls.map T ∧ ls.reverse.flatten = octL M := by
  obtain ⟨m, ls, rfl, rfl, e, hl⟩ := h
  have h0 : m = 0 := by omega
  rw [h0, octL_zero, List.nil_append] at e
  exact ⟨ls, rfl, e⟩
theorem st_less {rest : Int} (h : 0 < rest) : (rest.fdiv (2 ^ Int.toNat 8)).toNat < rest.toNat := by
  have e8 : ((2 : Int) ^ Int.toNat 8) = 256 := by decide +kernel
  rw [e8, Int.fdiv_eq_ediv_of_nonneg _ (by decide)]
  omega
end Mine
end

noncomputable section
open PySem PySem.W PySem.Calls PyProof.Rows
namespace Mine
/-- without the noughts in front -/
def shortL (l : List Nat) : List Nat := if l.dropWhile (· == 48) = [] then [48] else l.dropWhile (· == 48)
theorem slice_T {l : List Nat} {i : Int} (h0 : 0 ≤ i) (h2 : i ≤ l.length) : Txt.slice (T l) (some i) none = T (l.drop i.toNat) := by
  rw [slice_from_eq h0 (by rw [T_len]; exact h2) (b := (l.length : Int)) (by rw [T_len]), T_cps]
  unfold T
  rw [List.take_of_length_le (by rw [List.length_drop]; simp; omega)]
theorem takeWhile_drop (p : Nat → Bool) : ∀ l : List Nat, l.drop (l.takeWhile p).length = l.dropWhile p
  | [] => rfl
  | a :: r => by
    rw [List.takeWhile_cons, List.dropWhile_cons]
    split
    · exact takeWhile_drop p r
    · rfl
theorem lstrip_T (l : List Nat) (y : Str) (c : Nat) (hy : y.cps = #[c]) : Txt.lstripChars (T l) y = T (l.dropWhile (· == c)) := by
  have e : (fun x => y.cps.contains x) = fun x => x == c := by
    funext x
    rw [hy]
    by_cases h : x = c <;> simp [h]
  unfold Txt.lstripChars
  rw [PyProof.Rows.stripBy_eq]
  show Builtin.Str.strSub (T l) (stripLo (fun x => y.cps.contains x) true (T l)) (stripHi (fun x => y.cps.contains x) false (T l) _) = _
  rw [e]
  have e1 : stripLo (fun x => x == c) true (T l) = (l.takeWhile (fun x => x == c)).length := by simp [stripLo, T_cps]
  have e2 : ∀ k, stripHi (fun x => x == c) false (T l) k = l.length := fun k => by simp [stripHi, T_len]
  rw [e1, e2, ← T_of (Builtin.Str.strSub _ _ _), StrLaws.strSub_toList, T_cps]
  have h := takeWhile_drop (fun x => x == c) l
  simp only [List.toList_toArray] at h ⊢
  rw [h, List.take_of_length_le]
  have h1 := congrArg List.length h
  rw [List.length_drop] at h1
  omega
theorem item_T {l : List Nat} {i : Int} (h0 : 0 ≤ i) (h2 : i < l.length) : Txt.item (T l) i = T [l.getD i.toNat 0] := by
  have hi : i.toNat < l.length := by omega
  have e : seqIndex? i (T l).length = some i.toNat := by
    rw [T_len]
    unfold seqIndex?
    have e1 : (if i < 0 then i + (l.length : Int) else i) = i := if_neg (by omega)
    simp only [e1]
    rw [if_pos (by simp; omega)]
  unfold Txt.item Txt.charAt
  rw [e, T_cps]
  show Str.mk #[((l.toArray[i.toNat]?).getD 0)] = _
  rw [List.getElem?_toArray, List.getD_eq_getElem?_getD]
  rfl
def WzInv (l : List Nat) (start : Int) : Prop := ∃ i : Nat, start = (i : Int) ∧ i < l.length ∧ shortL (l.drop i) = shortL l
theorem WzInv.zero {l : List Nat} (h : l ≠ []) : WzInv l 0 := ⟨0, rfl, List.length_pos_iff.mpr h, rfl⟩
theorem WzInv.range {l : List Nat} {st : Int} (h : WzInv l st) : 0 ≤ st ∧ st < l.length := by
  obtain ⟨i, rfl, hi, _⟩ := h
  omega
theorem shortL_cons (r : List Nat) : shortL (48 :: r) = shortL r := by
  have e : (48 :: r).dropWhile (· == 48) = r.dropWhile (· == 48) := by simp
  unfold shortL
  rw [e]
theorem shortL_no (c : Nat) (r : List Nat) (hc : ¬ c = 48) : shortL (c :: r) = c :: r := by
  have e : (c :: r).dropWhile (· == 48) = c :: r := by simp [hc]
  unfold shortL
  rw [e, if_neg (by simp)]
theorem WzInv.next {l : List Nat} {st : Int} (h : WzInv l st) (h1 : st < (l.length : Int) - 1) (h2 : l.getD st.toNat 0 = 48) : WzInv l (st + 1) := by
  obtain ⟨i, rfl, hi, e⟩ := h
  have hg : l[i]'hi = 48 := by
    rw [Int.toNat_natCast, List.getD_eq_getElem?_getD, List.getElem?_eq_getElem hi] at h2
    exact h2
  refine ⟨i + 1, by push_cast; rfl, by omega, ?_⟩
  rw [List.drop_eq_getElem_cons hi, hg, shortL_cons] at e
  exact e
theorem WzInv.all {l : List Nat} {st : Int} (h : WzInv l st) (h1 : ¬ st < (l.length : Int) - 1 ∨ l.getD st.toNat 0 ≠ 48) : l.drop st.toNat = shortL l := by
  obtain ⟨i, rfl, hi, e⟩ := h
  rw [Int.toNat_natCast] at h1 ⊢
  rw [← e]
  have ed := List.drop_eq_getElem_cons hi
  by_cases hg : l[i]'hi = 48
  · have hl : l.drop (i + 1) = [] := by
      rcases h1 with h1 | h1
      · exact List.drop_eq_nil_of_le (by omega)
      · rw [List.getD_eq_getElem?_getD, List.getElem?_eq_getElem hi] at h1
        exact absurd hg h1
    rw [ed, hg, hl]
    rfl
  · rw [ed]
    exact (shortL_no _ _ hg).symm
theorem shortL_len (l : List Nat) : (shortL l).length ≤ l.length + 1 := by
  unfold shortL
  split
  · simp
  · have := (List.dropWhile_suffix (l := l) (· == 48)).length_le
    omega
end Mine
end

noncomputable section
open PySem PySem.W PySem.Calls PyProof.Rows
namespace Mine
theorem digitL_one {b : Nat} (h : b < 4) : digitL [b] = [sgc b] := by
  have h' : ∀ b ∈ List.range 4, digitL [b] = [sgc b] := by decide +kernel
  exact h' b (List.mem_range.mpr h)
theorem digT_one (bits : List Nat) (h : Four bits) : digT 1 bits = bits.reverse.map sgc := by
  have e : digs 1 bits = bits.map fun b => [sgc b] := by
    refine List.ext_getElem? fun i => ?_
    unfold digs
    have e1 : (bits.length + 1 - 1) / 1 = bits.length := by simp
    rw [e1, List.getElem?_map, List.getElem?_map]
    by_cases hi : i < bits.length
    · rw [List.getElem?_range hi, List.getElem?_eq_getElem hi]
      have e2 : grp 1 bits i = [bits[i]] := by
        unfold grp
        rw [Nat.one_mul, List.drop_eq_getElem_cons hi]
        rfl
      show some (digitL (grp 1 bits i)) = some [sgc bits[i]]
      rw [e2, digitL_one (h _ (List.getElem_mem hi))]
    · rw [List.getElem?_eq_none (by simpa using hi), List.getElem?_eq_none (by simpa using hi)]
      rfl
  unfold digT
  rw [e, ← List.map_reverse]
  induction bits.reverse with
  | nil => rfl
  | cons a r ih => simp [ih]
/-- right aligned -/
def padS (w : Nat) (l : List Nat) : List Nat := List.replicate (w - l.length) 32 ++ l
theorem rjust_S (l : List Nat) (w : Nat) : Txt.rjust (T l) (w : Int) = T (padS w l) := by
  unfold Txt.rjust padS
  rw [T_len]
  by_cases h : (w : Int) ≤ l.length
  · rw [if_pos h]
    have e : w - l.length = 0 := by omega
    rw [e]
    rfl
  · rw [if_neg h]
    unfold Builtin.Str.padded
    rw [T_cps, Int.toNat_natCast]
    unfold T
    simp
theorem digT_ne {k : Nat} {bits : List Nat} (hk : k = 1 ∨ k = 3 ∨ k = 4) (h : 1 ≤ bits.length) : digT k bits ≠ [] := by
  intro e
  have h1 := congrArg List.length e
  rw [digT_len, List.length_nil] at h1
  rcases hk with rfl | rfl | rfl <;> omega
theorem digT_fit {k : Nat} {bits : List Nat} (hk : k = 1 ∨ k = 3 ∨ k = 4) (h : bits.length < 200) : (digT k bits).length ≤ 200 := by
  rw [digT_len]
  rcases hk with rfl | rfl | rfl <;> omega
end Mine
end

noncomputable section
open PySem PySem.W PySem.Calls PyProof.Rows
namespace Mine
abbrev castL (bits : List Nat) : List Int := List.map (fun (b : Nat) => (b : Int)) bits
def numI (l : List Int) : Int := l.foldl (fun a b => 2 * a + b) 0
theorem numI_snoc (l : List Int) (n : Int) : numI (l ++ [n]) = 2 * numI l + n := by unfold numI; rw [List.foldl_append]; rfl
theorem high_zero : ∀ {bits : List Nat}, high bits = 0 → ∀ b ∈ bits, b < 2
  | [], _, _, h => nomatch h
  | a :: r, h, b, hb => by
    rw [high] at h
    rcases List.mem_cons.mp hb with rfl | hb
    · omega
    · exact high_zero (by omega) b hb
theorem zero_high : ∀ {bits : List Nat}, (∀ b ∈ bits, b < 2) → high bits = 0
  | [], _ => rfl
  | a :: r, h => by
    have h1 := h a (.head _)
    have h2 := zero_high fun b hb => h b (.tail _ hb)
    rw [high, h2]
    omega
theorem numI_low : ∀ {bits : List Nat}, (∀ b ∈ bits, b < 2) → numI (castL bits).reverse = (low bits : Int)
  | [], _ => rfl
  | a :: r, h => by
    have h1 := h a (.head _)
    have h2 := numI_low fun b hb => h b (.tail _ hb)
    show numI (((a : Int) :: castL r).reverse) = _
    rw [List.reverse_cons, numI_snoc, h2, low]
    omega
theorem high_three {bits : List Nat} {c : Nat} (hc : 2 ≤ c) (h : 0 < bits.count c) : high bits ≠ 0 := fun e => by
  have := high_zero e c (List.count_pos_iff.mp h)
  omega
theorem high_none {bits : List Nat} (h4 : Four bits) (h3 : ¬ 0 < bits.count 3) (h2 : ¬ 0 < bits.count 2) : high bits = 0 := zero_high fun b hb => by
  have h := h4 b hb
  have a3 : b ≠ 3 := fun e => h3 (List.count_pos_iff.mpr (e ▸ hb))
  have a2 : b ≠ 2 := fun e => h2 (List.count_pos_iff.mpr (e ▸ hb))
  omega
def FgInv (pre : List Int) (fig : Int) : Prop := fig = numI pre ∧ 0 ≤ fig ∧ fig < 2 ^ pre.length
theorem FgInv.zero : FgInv [] 0 := ⟨rfl, by decide, by decide⟩
theorem FgInv.next {pre : List Int} {fig n : Int} (h : FgInv pre fig) (h0 : 0 ≤ n) (h1 : n < 2) : FgInv (pre ++ [n]) (2 * fig + n) := by
  obtain ⟨e, a, b⟩ := h
  refine ⟨by rw [numI_snoc, e], by omega, ?_⟩
  rw [List.length_append, List.length_cons, List.length_nil, Int.pow_succ]
  omega
theorem FgInv.small {pre : List Int} {fig : Int} (h : FgInv pre fig) (hl : pre.length < 200) : fig.natAbs < 2 ^ 200 := by
  obtain ⟨e, a, b⟩ := h
  have e2 : ((2 : Int) ^ pre.length) = ((2 ^ pre.length : Nat) : Int) := by push_cast; rfl
  have h3 : 2 ^ pre.length < 2 ^ 200 := Nat.pow_lt_pow_right (by decide) hl
  omega
end Mine
namespace Mine
def DgInv (k : Nat) (f : List Nat → List Nat) (bits bs l : List Nat) : Prop := ∃ i : Nat, bs = bits.drop (k * i) ∧ l = ((List.range i).map fun j => f (grp k bits j)).reverse.flatten ∧ k * i < bits.length + k
theorem DgInv.zero {k : Nat} (f : List Nat → List Nat) (bits : List Nat) (hk : 1 ≤ k) : DgInv k f bits bits [] := ⟨0, by simp, rfl, by omega⟩
theorem DgInv.next {k : Nat} {f : List Nat → List Nat} {bits bs l : List Nat} (h : DgInv k f bits bs l) (hb : bs ≠ []) : DgInv k f bits (bs.drop k) (f (bs.take k) ++ l) := by
  obtain ⟨i, e, rfl, hi⟩ := h
  have e2 : k * (i + 1) = k * i + k := Nat.mul_succ k i
  have hl : k * i < bits.length := by
    have h1 := List.length_pos_iff.mpr hb
    rw [e, List.length_drop] at h1
    omega
  refine ⟨i + 1, by rw [e, List.drop_drop, e2], ?_, by rw [e2]; omega⟩
  rw [List.range_succ, List.map_append, List.reverse_append, List.flatten_append, e]
  simp [grp]
theorem DgInv.len {k : Nat} {f : List Nat → List Nat} {bits bs l : List Nat} (hk : 1 ≤ k) (hf : ∀ x, (f x).length = 1) (h : DgInv k f bits bs l) : bs.length ≤ bits.length ∧ l.length ≤ bits.length + 1 := by
  obtain ⟨i, e, rfl, hi⟩ := h
  have h1 : ∀ ls : List (List Nat), (∀ x ∈ ls, x.length = 1) → ls.flatten.length = ls.length := fun ls hl => by
    induction ls with
    | nil => rfl
    | cons a r ih => rw [List.flatten_cons, List.length_append, hl a (.head _), ih fun x hx => hl x (.tail _ hx), List.length_cons]; omega
  constructor
  · rw [e, List.length_drop]; omega
  · rw [h1, List.length_reverse, List.length_map, List.length_range]
    · rcases Nat.eq_zero_or_pos i with rfl | hp
      · omega
      · have := Nat.le_mul_of_pos_left (i - 1) hk
        have e2 : k * i = k * (i - 1) + k := by rw [← Nat.mul_succ]; congr 1; omega
        omega
    · intro x hx
      obtain ⟨j, _, rfl⟩ := List.mem_map.mp (List.mem_reverse.mp hx)
      exact hf _
theorem DgInv.all {k : Nat} {f : List Nat → List Nat} {bits bs l : List Nat} (hk : k = 1 ∨ k = 3 ∨ k = 4 ∨ k = 8) (h : DgInv k f bits bs l) (hb : bs = []) : l = ((List.range ((bits.length + k - 1) / k)).map fun j => f (grp k bits j)).reverse.flatten := by
  obtain ⟨i, e, rfl, hi⟩ := h
  have hl : bits.length ≤ k * i := by
    have h1 := congrArg List.length (e.symm.trans hb)
    rw [List.length_drop, List.length_nil] at h1
    omega
  have e2 : i = (bits.length + k - 1) / k := by rcases hk with rfl | rfl | rfl | rfl <;> omega
  rw [e2]
theorem DgInv.sub {k : Nat} {f : List Nat → List Nat} {bits bs l : List Nat} (h : DgInv k f bits bs l) (h4 : Four bits) : Four bs := by
  obtain ⟨i, e, _⟩ := h
  rw [e]
  exact h4.drop _
end Mine
end

noncomputable section
open PySem PySem.W PySem.Calls PyProof.Rows
namespace Mine
def o1 (b : Int) : Int := if b = 1 then 1 else 0
def OgInv (pre : List Int) (fig : Int) : Prop := FgInv (pre.map o1) fig
theorem OgInv.zero : OgInv [] 0 := FgInv.zero
theorem OgInv.next {pre : List Int} {fig n : Int} (h : OgInv pre fig) : OgInv (pre ++ [n]) (2 * fig + o1 n) := by
  unfold OgInv
  rw [List.map_append]
  refine FgInv.next h ?_ ?_ <;> (unfold o1; split <;> decide)
theorem OgInv.one {pre : List Int} {fig n : Int} (h : OgInv pre fig) (e : n = 1) : OgInv (pre ++ [n]) (2 * fig + 1) := by
  have := h.next (n := n)
  rwa [o1, if_pos e] at this
theorem OgInv.other {pre : List Int} {fig n : Int} (h : OgInv pre fig) (e : n ≠ 1) : OgInv (pre ++ [n]) (2 * fig + 0) := by
  have := h.next (n := n)
  rwa [o1, if_neg e] at this
theorem OgInv.small {pre : List Int} {fig : Int} (h : OgInv pre fig) (hl : pre.length < 200) : fig.natAbs < 2 ^ 200 := FgInv.small h (by rw [List.length_map]; exact hl)
theorem numI_ones : ∀ bits : List Nat, numI ((castL bits).reverse.map o1) = (ones bits : Int)
  | [] => rfl
  | a :: r => by
    have h2 := numI_ones r
    show numI ((((a : Int) :: castL r).reverse).map o1) = _
    rw [List.reverse_cons, List.map_append, List.map_singleton, numI_snoc, h2, ones, o1]
    by_cases h : a = 1
    · subst h; rw [if_pos rfl]; simp; omega
    · rw [if_neg (by omega), if_neg h]; omega
theorem OgInv.all {bits : List Nat} {fig : Int} (h : OgInv (castL bits).reverse fig) : fig = (ones bits : Int) := by rw [h.1, numI_ones]
theorem ones_drop : ∀ (i : Nat) (bits : List Nat), ones (bits.drop i) = ones bits / 2 ^ i
  | 0, bits => by simp
  | i + 1, [] => by simp [ones]
  | i + 1, b :: r => by
    rw [List.drop_succ_cons, ones_drop i r, ones, Nat.pow_succ, Nat.mul_comm (2 ^ i) 2, ← Nat.div_div_eq_div_mul]
    congr 1
    split <;> omega
theorem ones_take : ∀ (i : Nat) (bits : List Nat), ones (bits.take i) = ones bits % 2 ^ i
  | 0, bits => by simp [ones, Nat.mod_one]
  | i + 1, [] => by simp [ones]
  | i + 1, b :: r => by
    have e : ((if b = 1 then 1 else 0) + 2 * ones r) / 2 = ones r := by split <;> omega
    rw [List.take_succ_cons, ones, ones, ones_take i r, Nat.pow_succ, Nat.mul_comm (2 ^ i) 2, Nat.mod_mul, e]
    split <;> omega
theorem ones_grp (bits : List Nat) (j : Nat) : ones (grp 8 bits j) = ones bits / 256 ^ j % 256 := by
  rw [grp, ones_take, ones_drop, Nat.pow_mul]
theorem oct_all : ∀ (n m : Nat), m < 256 ^ n → ((((List.range n).map fun j => [m / 256 ^ j % 256]).reverse.flatten).dropWhile (· == 0)) = octL m
  | 0, m, h => by
    have : m = 0 := by simpa using h
    rw [this, octL_zero]
    rfl
  | n + 1, m, h => by
    have ih := oct_all n (m / 256) (by rw [Nat.pow_succ] at h; omega)
    have e : ((List.range (n + 1)).map fun j => [m / 256 ^ j % 256]).reverse.flatten = ((List.range n).map fun j => [m / 256 / 256 ^ j % 256]).reverse.flatten ++ [m % 256] := by
      rw [List.range_succ_eq_map, List.map_cons, List.reverse_cons, List.flatten_append, List.map_map]
      congr 1
      · congr 3
        funext j
        simp only [Function.comp, Nat.pow_succ]
        rw [Nat.mul_comm (256 ^ j) 256, ← Nat.div_div_eq_div_mul]
      · simp
    rw [e, List.dropWhile_append, ih]
    by_cases h0 : m = 0
    · subst h0; rw [octL_zero]; rfl
    · rw [octL_pos h0]
      by_cases h1 : m / 256 = 0
      · rw [h1, octL_zero]
        have h2 : (m % 256 == 0) = false := by rw [beq_eq_false_iff_ne]; omega
        simp [h2]
      · rw [octL_pos h1]
        simp
theorem str_done {bits bs l : List Nat} (h : DgInv 8 (fun g => [ones g]) bits bs l) (hb : bs = []) : l.dropWhile (· == 0) = octL (ones bits) := by
  rw [h.all (by omega) hb]
  have e : (fun j => [ones (grp 8 bits j)]) = fun j => [ones bits / 256 ^ j % 256] := funext fun j => by rw [ones_grp]
  rw [e]
  refine oct_all _ _ (Nat.lt_of_lt_of_le (ones_lt bits) ?_)
  rw [show (256 : Nat) = 2 ^ 8 from rfl, ← Nat.pow_mul]
  exact Nat.pow_le_pow_right (by decide) (by omega)
theorem ones_8 {bits : List Nat} : ones (bits.take 8) < 256 := Nat.lt_of_lt_of_le (ones_lt _) (Nat.le_trans (Nat.pow_le_pow_right (n := 2) (by decide) (List.length_take_le _ _)) (by decide))
theorem ones_len (x : List Nat) : ((fun g : List Nat => [ones g]) x).length = 1 := rfl
end Mine
end

noncomputable section
open PySem PySem.W PySem.Calls PyProof.Rows
namespace Mine
abbrev Led := List (Addr × Obj)
/-- what a call of a function of the text does: whoever calls it, in whatever frame, with whatever ledger `news` -/
def Ctr (prog : Program) (w : World) (f : Addr) (vs : List Value) (dk uk : Nat) (news : Led) (Post : Value → Led → Prop) : Prop :=
  ∀ (p : Program) (loose : List Str) (mean : ExcName → Option Value) (mg mb : Str → Option Value)
    (dp un : Nat) (gd : Option (List Code)) (cn : Str) (cs : Scope) (a : Addr) (ccd : Value) (cl : List (Str × Addr)) (outer : List Env) (A₀ : Around) (base h₀ : Heap) (L : Addr) (m : Str → Option Value) (s : Shared)
    (Q E : Value → Shared → Prop),
    Below A₀ base outer h₀ → Fr h₀ L s.heap m → (hd.heap_39 w.params).In h₀ → News h₀ L s.heap news → Top p loose mean mg mb h₀ → cs.kind = .function → dp + dk < recursionLimit → un + uk < cLine →
    (∀ v news' h' tk', Post v news' → Fr h₀ L h' m → News h₀ L h' news' → Q v { s with heap := h', toks := tk' }) →
    wpAny (model prog w) (ktrTop dp un gd cn cs L a ccd cl outer) (call (.ref f) vs) Q E s
/-- nothing is made that stays, nothing is changed -/
abbrev Cal (prog : Program) (w : World) (f : Addr) (vs : List Value) (dk uk : Nat) (news : Led) (P : Value → Prop) : Prop :=
  Ctr prog w f vs dk uk news fun v news' => news' = news ∧ P v
theorem Ctr.use {prog : Program} {w : World} {f : Addr} {vs : List Value} {dk uk : Nat} {news : Led} {Post : Value → Led → Prop} (C : Ctr prog w f vs dk uk news Post)
    {p : Program} {loose : List Str} {mean : ExcName → Option Value} {mg mb : Str → Option Value}
    {dp un : Nat} {gd : Option (List Code)} {cn : Str} {cs : Scope} {a : Addr} {ccd : Value} {cl : List (Str × Addr)} {outer : List Env} {A₀ : Around} {base h₀ : Heap} {L : Addr} {m : Str → Option Value} {s : Shared}
    {Q E : Value → Shared → Prop}
    (B : Below A₀ base outer h₀) (F : Fr h₀ L s.heap m) (X : (hd.heap_39 w.params).In h₀) (N : News h₀ L s.heap news) (T : Top p loose mean mg mb h₀) (hk : cs.kind = .function) (hdp : dp + dk < recursionLimit) (hu : un + uk < cLine)
    (h : ∀ v news' h' tk', Post v news' → Fr h₀ L h' m → News h₀ L h' news' → Q v { s with heap := h', toks := tk' }) :
    wpAny (model prog w) (ktrTop dp un gd cn cs L a ccd cl outer) (call (.ref f) vs) Q E s := C _ _ _ _ _ _ _ _ _ _ _ _ _ _ _ _ _ _ _ _ _ _ B F X N T hk hdp hu h
section
variable {prog : Program} {w : World} {f : Addr} {vs : List Value} {dk uk : Nat} {news : Led}
    {p : Program} {loose : List Str} {mean : ExcName → Option Value} {mg mb : Str → Option Value}
    {dp un : Nat} {gd : Option (List Code)} {cn : Str} {cs : Scope} {a : Addr} {ccd : Value} {cl : List (Str × Addr)} {outer : List Env} {A₀ : Around} {base h₀ : Heap} {L : Addr} {m : Str → Option Value} {s : Shared}
    {Q E : Value → Shared → Prop}
abbrev CalI (prog : Program) (w : World) (f : Addr) (vs : List Value) (dk uk : Nat) (news : Led) (x : Int) : Prop := Cal prog w f vs dk uk news fun v => ∃ t, v = .int x t
abbrev CalS (prog : Program) (w : World) (f : Addr) (vs : List Value) (dk uk : Nat) (news : Led) (x : Str) : Prop := Cal prog w f vs dk uk news fun v => ∃ t, v = .str x t
abbrev CalB (prog : Program) (w : World) (f : Addr) (vs : List Value) (dk uk : Nat) (news : Led) (x : Bool) : Prop := Cal prog w f vs dk uk news fun v => v = .bool x
theorem Cal.useI {x : Int} (C : CalI prog w f vs dk uk news x)
    (B : Below A₀ base outer h₀) (F : Fr h₀ L s.heap m) (X : (hd.heap_39 w.params).In h₀) (N : News h₀ L s.heap news) (T : Top p loose mean mg mb h₀) (hk : cs.kind = .function) (hdp : dp + dk < recursionLimit) (hu : un + uk < cLine)
    (h : ∀ t h' tk', Fr h₀ L h' m → News h₀ L h' news → Q (.int x t) { s with heap := h', toks := tk' }) :
    wpAny (model prog w) (ktrTop dp un gd cn cs L a ccd cl outer) (call (.ref f) vs) Q E s :=
  C.use B F X N T hk hdp hu fun v n h' tk' q F' N' => by
    obtain ⟨rfl, t, rfl⟩ := q
    exact h t h' tk' F' N'
theorem Cal.useS {x : Str} (C : CalS prog w f vs dk uk news x)
    (B : Below A₀ base outer h₀) (F : Fr h₀ L s.heap m) (X : (hd.heap_39 w.params).In h₀) (N : News h₀ L s.heap news) (T : Top p loose mean mg mb h₀) (hk : cs.kind = .function) (hdp : dp + dk < recursionLimit) (hu : un + uk < cLine)
    (h : ∀ t h' tk', Fr h₀ L h' m → News h₀ L h' news → Q (.str x t) { s with heap := h', toks := tk' }) :
    wpAny (model prog w) (ktrTop dp un gd cn cs L a ccd cl outer) (call (.ref f) vs) Q E s :=
  C.use B F X N T hk hdp hu fun v n h' tk' q F' N' => by
    obtain ⟨rfl, t, rfl⟩ := q
    exact h t h' tk' F' N'
theorem Cal.useB {x : Bool} (C : CalB prog w f vs dk uk news x)
    (B : Below A₀ base outer h₀) (F : Fr h₀ L s.heap m) (X : (hd.heap_39 w.params).In h₀) (N : News h₀ L s.heap news) (T : Top p loose mean mg mb h₀) (hk : cs.kind = .function) (hdp : dp + dk < recursionLimit) (hu : un + uk < cLine)
    (h : ∀ h' tk', Fr h₀ L h' m → News h₀ L h' news → Q (.bool x) { s with heap := h', toks := tk' }) :
    wpAny (model prog w) (ktrTop dp un gd cn cs L a ccd cl outer) (call (.ref f) vs) Q E s :=
  C.use B F X N T hk hdp hu fun v n h' tk' q F' N' => by
    obtain ⟨rfl, rfl⟩ := q
    exact h h' tk' F' N'
end
abbrev vec (wd a b : Int) (t1 t2 t3 : Tok) : Obj := { cls := .type "tuple", data := .seq [Value.int wd t1, Value.int a t2, Value.int b t3].toArray }
abbrev bvec (bits : List Nat) (t1 t2 t3 : Tok) : Obj := vec (bits.length : Int) (low bits : Int) (high bits : Int) t1 t2 t3
end Mine
end

noncomputable section
open PySem PySem.W PySem.Calls PyProof.Rows
namespace Mine
set_option maxRecDepth 100000
set_option maxHeartbeats 8000000
variable {prog : Program} {w : World}
/-- a step that is to be taken by hand -/
structure Hold (P : Prop) : Prop where
  out : P
theorem getD_four {bits : List Nat} (h : Four bits) (i : Nat) : bits.getD i 0 < 4 := by
  rw [List.getD_eq_getElem?_getD]
  cases e : bits[i]? with
  | none => decide
  | some b => exact h b (List.mem_of_getElem? e)
theorem app_ne {l : Addr} {o : Obj} {news own : Led} (l1 : ∀ p ∈ news, p.1 < l) (hoff : OwnOff own (List.map (fun x => x.1) ((l, o) :: news))) : ∀ p ∈ news ++ own, p.1 ≠ l := fun p hp =>
  (List.mem_append.mp hp).elim (fun h => Nat.ne_of_lt (l1 p h)) fun h => hoff p h _ (.head _)
theorem flat_single {α β : Type} (f : α → β) (l : List α) : (l.map fun b => [f b]).flatten = l.map f := by induction l with
  | nil => rfl
  | cons a r ih => simp [ih]
theorem join_made {A : Around} {E : Value → Shared → Prop} {s : Shared} {Q : Value → Shared → Prop} {t : Tok} {h₀ : Heap} {L D : Addr} {news : Led} {vs : List Value} {xs : List Str} {n : Nat} {ls : List (List Nat)} (N : News h₀ L s.heap news) (hm : (D, listOf vs.toArray n) ∈ news) (hs : StrsAre vs xs) (e : xs = ls.map T) (hz : ls.flatten.length ≤ 16777216)
    (h : ∀ t' k, Q (.str (T ls.flatten) t') { s with toks := k }) : wpAny (model prog w) A (call (.builtin "str.join") [.str (Str.ofString "") t, .ref D]) Q E s := by
  subst e
  refine join_list (News.isList N hm) hs ?_ fun t' k => by rw [join_T]; exact h t' k
  have e1 : ((ls.map T).map (·.length)).sum = ls.flatten.length := by
    rw [List.map_map, List.length_flatten]
    rfl
  have e2 : (Str.ofString "").length = 0 := by decide +kernel
  rw [e1, e2]
  omega
/-- an entry ahead, the rest behind -/
theorem led_cons {p : Addr × Obj} {l r : Led} (h : ∀ q ∈ l, q ∈ r) (hp : p ∈ r) : ∀ q ∈ p :: l, q ∈ r := fun q hq => (List.mem_cons.mp hq).elim (fun e => e ▸ hp) (h q)
theorem fr_gen1 {base h : Heap} {L : Addr} {m : Str → Option Value} {a : Str} {x : Value} (e1 : m a = some x) (F : Fr base L h m) : ∃ m0 : Str → Option Value, Fr base L h (fun n => if n = a then some x else m0 n) := by
  refine ⟨m, ?_⟩
  have e : (fun n => if n = a then some x else m n) = m := funext fun n => by
    by_cases h : n = a
    · rw [if_pos h, h, e1]
    · rw [if_neg h]
  rw [e]
  exact F
theorem fr_gen2 {base h : Heap} {L : Addr} {m : Str → Option Value} {a b : Str} {x y : Value} (e1 : m a = some x) (e2 : m b = some y) (F : Fr base L h m) : ∃ m0 : Str → Option Value, Fr base L h (fun n => if n = a then some x else if n = b then some y else m0 n) := by
  refine ⟨m, ?_⟩
  have e : (fun n => if n = a then some x else if n = b then some y else m n) = m := funext fun n => by
    by_cases h : n = a
    · rw [if_pos h, h, e1]
    · rw [if_neg h]
      by_cases h : n = b
      · rw [if_pos h, h, e2]
      · rw [if_neg h]
  rw [e]
  exact F
theorem fr_gen3 {base h : Heap} {L : Addr} {m : Str → Option Value} {a b c : Str} {x y z : Value} (e1 : m a = some x) (e2 : m b = some y) (e3 : m c = some z) (F : Fr base L h m) : ∃ m0 : Str → Option Value, Fr base L h (fun n => if n = a then some x else if n = b then some y else if n = c then some z else m0 n) := by
  refine ⟨m, ?_⟩
  have e : (fun n => if n = a then some x else if n = b then some y else if n = c then some z else m n) = m := funext fun n => by
    by_cases h : n = a
    · rw [if_pos h, h, e1]
    · rw [if_neg h]
      by_cases h : n = b
      · rw [if_pos h, h, e2]
      · rw [if_neg h]
        by_cases h : n = c
        · rw [if_pos h, h, e3]
        · rw [if_neg h]
  rw [e]
  exact F
theorem fr_gen4 {base h : Heap} {L : Addr} {m : Str → Option Value} {a b c d : Str} {x y z u : Value} (e1 : m a = some x) (e2 : m b = some y) (e3 : m c = some z) (e4 : m d = some u) (F : Fr base L h m) : ∃ m0 : Str → Option Value, Fr base L h (fun n => if n = a then some x else if n = b then some y else if n = c then some z else if n = d then some u else m0 n) := by
  refine ⟨m, ?_⟩
  have e : (fun n => if n = a then some x else if n = b then some y else if n = c then some z else if n = d then some u else m n) = m := funext fun n => by
    by_cases h : n = a
    · rw [if_pos h, h, e1]
    · rw [if_neg h]
      by_cases h : n = b
      · rw [if_pos h, h, e2]
      · rw [if_neg h]
        by_cases h : n = c
        · rw [if_pos h, h, e3]
        · rw [if_neg h]
          by_cases h : n = d
          · rw [if_pos h, h, e4]
          · rw [if_neg h]
  rw [e]
  exact F
end Mine
end

noncomputable section
open PySem PySem.W PySem.Calls PyProof.Rows
namespace Mine
set_option maxRecDepth 100000
set_option maxHeartbeats 8000000
theorem lines_V1_1 : True := by
  w_top off
  k_with_none
  trivial
theorem fillFrag : hd.heap_39 = hd.heap_39 ∧ PySem.Challenge.rw_nn0301_01 = PySem.Challenge.rw_nn0301_01 := by
  k_fill
  exact ⟨rfl, rfl⟩
variable {prog : Program} {w : World}
theorem lines_V1_2 : True := by
  k_with "mem" => (assumption)
  trivial
theorem mask_c (n : Int) (t : Tok) (h0 : 0 ≤ n) (h1 : n ≤ 200) (news : Led) : CalI prog w 21 [.int n t] 4 8 news (2 ^ n.toNat - 1) := by
  unfold CalI Cal Ctr
  intro p loose mean mg mb dp un gd cn cs a ccd cl outer A₀ base h₀ L m s Q E B F X N T hk hd hu hret
  refine wpAny_call ?_
  k_dflt cell_enter
  k_steps
  exact hret _ _ _ _ ⟨rfl, _, by rw [Int.one_mul]⟩ (by assumption) (by assumption)
theorem code_c (q : Addr) (bits : List Nat) (i : Int) (t1 t2 t3 t : Tok) (news : Led) (h4 : Four bits) (h0 : 0 ≤ i) (h1 : i < bits.length) (h2 : bits.length < 200) (hq : (q, bvec bits t1 t2 t3) ∈ news) :
   CalI prog w 49 [.ref q, .int i t] 4 8 news (bits.getD i.toNat 0 : Nat) := by
  unfold CalI Cal Ctr
  intro p loose mean mg mb dp un gd cn cs a ccd cl outer A₀ base h₀ L m s Q E B F X N T hk hd hu hret
  refine wpAny_call ?_
  k_dflt cell_enter
  k_steps
  exact hret _ _ _ _ ⟨rfl, _, by rw [code_int bits h4]⟩ (by assumption) (by assumption)
theorem is_known_c (q : Addr) (bits : List Nat) (t1 t2 t3 : Tok) (news : Led) (hq : (q, bvec bits t1 t2 t3) ∈ news) :
   CalB prog w 35 [.ref q] 4 8 news (decide (high bits = 0)) := by
  unfold CalB Cal Ctr
  intro p loose mean mg mb dp un gd cn cs a ccd cl outer A₀ base h₀ L m s Q E B F X N T hk hd hu hret
  refine wpAny_call ?_
  k_dflt cell_enter
  k_steps
  refine hret _ _ _ _ ⟨rfl, ?_⟩ (by assumption) (by assumption)
  congr 1
  by_cases h : high bits = 0 <;> simp [h]
/-- the number that the bits stand for -/
def numOf (bits : List Nat) (sg : Bool) : Int := if sg = true ∧ low bits / 2 ^ (bits.length - 1) = 1 then (low bits : Int) - 2 ^ bits.length else low bits
theorem to_int_c (q : Addr) (bits : List Nat) (t1 t2 t3 : Tok) (sg : Bool) (news : Led) (h4 : Four bits) (h1 : 1 ≤ bits.length) (h2 : bits.length < 200) (hq : (q, bvec bits t1 t2 t3) ∈ news) :
   Cal prog w 42 [.ref q, .bool sg] 4 8 news (fun v => (high bits = 0 ∧ ∃ t, v = .int (numOf bits sg) t) ∨ (high bits ≠ 0 ∧ v = .none)) := by
  unfold Cal Ctr
  intro p loose mean mg mb dp un gd cn cs a ccd cl outer A₀ base h₀ L m s Q E B F X N T hk hd hu hret
  refine wpAny_call ?_
  k_dflt cell_enter
  k_steps
  · have hz : (high bits : Int) ≠ 0 := by assumption
    exact hret _ _ _ _ ⟨rfl, .inr ⟨fun e => hz (by rw [e]; rfl), rfl⟩⟩ (by assumption) (by assumption)
  · have hs : sg = true := by assumption
    have ho : (low bits : Int).fdiv (2 ^ ((bits.length : Int) - 1).toNat) = 1 := by assumption
    have e : (low bits : Int) - 1 * 2 ^ (bits.length : Int).toNat = numOf bits sg := by
      rw [toNat_len_pred h1, fdiv_pow_nat] at ho
      rw [numOf, if_pos ⟨hs, by omega⟩, Int.one_mul, Int.toNat_natCast]
    exact hret _ _ _ _ ⟨rfl, .inl ⟨by omega, _, congrArg (fun x => Value.int x _) e⟩⟩ (by assumption) (by assumption)
  · have ho : (low bits : Int).fdiv (2 ^ ((bits.length : Int) - 1).toNat) ≠ 1 := by assumption
    have e : (low bits : Int) = numOf bits sg := by
      rw [toNat_len_pred h1, fdiv_pow_nat] at ho
      rw [numOf, if_neg (fun e => ho (by rw [e.2]; rfl))]
    exact hret _ _ _ _ ⟨rfl, .inl ⟨by omega, _, congrArg (fun x => Value.int x _) e⟩⟩ (by assumption) (by assumption)
  · have hs : sg = false := by assumption
    have e : (low bits : Int) = numOf bits sg := by
      rw [numOf, if_neg (fun e => by rw [hs] at e; exact absurd e.1 (by decide))]
    exact hret _ _ _ _ ⟨rfl, .inl ⟨by omega, _, congrArg (fun x => Value.int x _) e⟩⟩ (by assumption) (by assumption)
section
variable {A : Around} {E : Value → Shared → Prop} {s : Shared} {Q : Value → Shared → Prop} {t u : Tok}
theorem and_lowW {bits : List Nat} {lo wd : Nat} (h : Q (.int (low ((bits.drop lo).take wd) : Nat) s.toks) { s with toks := s.toks + 1 }) :
    wpAny (model prog w) A (binaryOp .BitAnd (.int ((low bits : Int).fdiv (2 ^ lo)) t) (.int (2 ^ wd - 1) u)) Q E s := by
  refine and_int ?_
  rw [low_cut]
  exact h
theorem and_highW {bits : List Nat} {lo wd : Nat} (h4 : Four bits) (h : Q (.int (high ((bits.drop lo).take wd) : Nat) s.toks) { s with toks := s.toks + 1 }) :
    wpAny (model prog w) A (binaryOp .BitAnd (.int ((high bits : Int).fdiv (2 ^ lo)) t) (.int (2 ^ wd - 1) u)) Q E s := by
  refine and_int ?_
  rw [high_cut bits h4]
  exact h
theorem shl_zero {x : Nat} (hx : x < 2 ^ 200) (h : Q (.int (x : Int) s.toks) { s with toks := s.toks + 1 }) :
    wpAny (model prog w) A (binaryOp .LShift (.int (x : Int) t) (.int 0 u)) Q E s := by
  refine lshift_int (Int.le_refl _) (nat_bits hx) ?_
  rw [Int.toNat_zero, Int.pow_zero, Int.mul_one]
  exact h
theorem or_zero {x : Int} (h : Q (.int x s.toks) { s with toks := s.toks + 1 }) : wpAny (model prog w) A (binaryOp .BitOr (.int x t) (.int 0 u)) Q E s := by
  refine or_int ?_
  rw [bitOr_zero]
  exact h
end
theorem add_sub_left (a b : Int) : a + b - a = b := by omega
theorem cut_len (bits : List Nat) {lo wd : Int} (h0 : 0 ≤ lo) (h1 : 1 ≤ wd) (h2 : lo + wd ≤ bits.length) : (((bits.drop lo.toNat).take wd.toNat).length : Int) = wd := by
  rw [List.length_take, List.length_drop]
  omega
theorem cut_low (bits : List Nat) {lo wd : Int} (h0 : 0 ≤ lo) (h2 : lo + wd ≤ bits.length) (h3 : bits.length < 200) : low ((bits.drop lo.toNat).take wd.toNat) < 2 ^ 200 :=
  pow_le_200 (low_lt _) (by rw [List.length_take, List.length_drop]; omega)
theorem cut_high (bits : List Nat) {lo wd : Int} (h4 : Four bits) (h0 : 0 ≤ lo) (h2 : lo + wd ≤ bits.length) (h3 : bits.length < 200) : high ((bits.drop lo.toNat).take wd.toNat) < 2 ^ 200 :=
  pow_le_200 (high_lt _ ((h4.drop _).take _)) (by rw [List.length_take, List.length_drop]; omega)
theorem lines_V1_3 : True := by
  k_with "call ref" => ((k_here; k_dflt (refine' Cal.useI (mask_c _ _ ?c1 ?c2 _) ?k1 ?k2 ?k3 ?k4 ?k5 ?k6 ?k7 ?k8 ?_; (case k1 => k_asm); (case k2 => k_asm); (case k3 => k_asm); (case k4 => k_asm); (case k5 => k_asm); (case k6 => first | exact rfl | assumption); (case k7 => ktr_room); (case k8 => ktr_units)); (case c1 => omega); (case c2 => omega); intro t9 h9 tk9 F9 N9; (try dsimp only); (try k_sweep)))
  k_with "storeName" => (((with_reducible show wpAny _ _ (storeName _ _ (Value.int (ite _ _ _) _)) _ _ _); simp (disch := omega) only [if_neg, if_pos]))
  k_with "storeName" => ((simp only [Int.sub_self, add_sub_left]))
  k_with "storeName" => (((with_reducible show wpAny _ _ (storeName _ _ (Value.int (Builtin.bitXor _ _) _)) _ _ _); simp only [Int.toNat_zero, Int.pow_zero, Int.mul_one, bitXor_self]))
  k_with "binaryOp BitAnd int int" => (first | with_reducible refine and_lowW ?_ | with_reducible refine and_highW (by assumption) ?_)
  k_with "binaryOp LShift int int" => (with_reducible refine shl_zero (by first | exact cut_low _ (by assumption) (by assumption) (by assumption) | exact cut_high _ (by assumption) (by assumption) (by assumption) (by assumption)) ?_)
  k_with "binaryOp BitOr int int" => (with_reducible refine or_zero ?_)
  trivial
theorem slice_vec_c (q : Addr) (bits : List Nat) (t1 t2 t3 t4 t5 : Tok) (lo wd : Int) (news : Led) (h4 : Four bits) (h0 : 0 ≤ lo) (h1 : 1 ≤ wd) (h2 : lo + wd ≤ bits.length) (h3 : bits.length < 200) (hq : (q, bvec bits t1 t2 t3) ∈ news) :
   Ctr prog w 56 [.ref q, .int lo t4, .int wd t5] 6 16 news (fun v news' => ∃ q' u1 u2 u3, v = .ref q' ∧ news' = (q', bvec ((bits.drop lo.toNat).take wd.toNat) u1 u2 u3) :: news ∧ ∀ p ∈ news, p.1 < q') := by
  unfold Ctr
  intro p loose mean mg mb dp un gd cn cs a ccd cl outer A₀ base h₀ L m s Q E B F X N T hk hd hu hret
  refine wpAny_call ?_
  k_dflt cell_enter
  k_steps
  refine' hret _ _ _ _ ⟨_, _, _, _, rfl, rfl, by assumption⟩ (by assumption) ?_
  show News h₀ L _ ((_, vec ((((bits.drop lo.toNat).take wd.toNat).length : Nat) : Int) _ _ _ _ _) :: news)
  rw [cut_len bits h0 h1 h2]
  assumption
end Mine
end

noncomputable section
open PySem PySem.W PySem.Calls PyProof.Rows
namespace Mine
set_option maxRecDepth 100000
set_option maxHeartbeats 8000000
theorem lines_V2_1 : True := by
  w_top off
  k_with_none
  trivial
variable {prog : Program} {w : World}
theorem lines_V2_2 : True := by
  k_with "mem" => (assumption)
  k_with "mem" => (exact List.mem_append_left _ (by assumption))
  trivial
/-- the sign of a group that is no digit -/
def signS (bits : List Nat) : Str := if 0 < bits.count 3 then (if bits.count 3 = bits.length then Str.ofString "x" else Str.ofString "X") else if bits.count 2 = bits.length then Str.ofString "z" else Str.ofString "Z"
theorem count_next (bits : List Nat) (x k : Nat) (h : k < bits.length) : (bits.take (k + 1)).count x = (bits.take k).count x + (if bits.getD k 0 = x then 1 else 0) := by
  have e : bits[k]? = some (bits.getD k 0) := by simp [List.getD_eq_getElem?_getD, h]
  rw [List.take_add_one, e, List.count_append]
  simp [List.count_cons]
theorem sg_turn {bits : List Nat} {pre : List Int} {k marks zs : Int} (ek : k = 0 + (pre.length : Int)) (hl : pre.length < bits.length) (hm : marks = ((bits.take pre.length).count 3 : Nat)) (hz : zs = ((bits.take pre.length).count 2 : Nat)) :
    marks + (if bits.getD k.toNat 0 = 3 then 1 else 0) = ((bits.take (pre ++ [k]).length).count 3 : Nat) ∧ zs + (if bits.getD k.toNat 0 = 2 then 1 else 0) = ((bits.take (pre ++ [k]).length).count 2 : Nat) := by
  have e1 : (pre ++ [k]).length = pre.length + 1 := by simp
  have e2 : k.toNat = pre.length := by omega
  rw [e1, e2, count_next bits 3 _ hl, count_next bits 2 _ hl, hm, hz]
  constructor <;> (push_cast; split <;> rfl)
theorem sg_3 {bits : List Nat} {pre : List Int} {k marks zs : Int} (ek : k = 0 + (pre.length : Int)) (hl : pre.length < bits.length) (hm : marks = ((bits.take pre.length).count 3 : Nat)) (hz : zs = ((bits.take pre.length).count 2 : Nat))
    (e : ((bits.getD k.toNat 0 : Nat) : Int) = 3) : marks + 1 = ((bits.take (pre ++ [k]).length).count 3 : Nat) ∧ zs = ((bits.take (pre ++ [k]).length).count 2 : Nat) := by
  have h := sg_turn ek hl hm hz
  rw [if_pos (by omega), if_neg (by omega)] at h
  simpa using h
theorem sg_2 {bits : List Nat} {pre : List Int} {k marks zs : Int} (ek : k = 0 + (pre.length : Int)) (hl : pre.length < bits.length) (hm : marks = ((bits.take pre.length).count 3 : Nat)) (hz : zs = ((bits.take pre.length).count 2 : Nat))
    (e : ((bits.getD k.toNat 0 : Nat) : Int) = 2) : marks = ((bits.take (pre ++ [k]).length).count 3 : Nat) ∧ zs + 1 = ((bits.take (pre ++ [k]).length).count 2 : Nat) := by
  have h := sg_turn ek hl hm hz
  rw [if_neg (by omega), if_pos (by omega)] at h
  simpa using h
theorem sg_o {bits : List Nat} {pre : List Int} {k marks zs : Int} (ek : k = 0 + (pre.length : Int)) (hl : pre.length < bits.length) (hm : marks = ((bits.take pre.length).count 3 : Nat)) (hz : zs = ((bits.take pre.length).count 2 : Nat))
    (e : ((bits.getD k.toNat 0 : Nat) : Int) ≠ 3) (e' : ((bits.getD k.toNat 0 : Nat) : Int) ≠ 2) : marks = ((bits.take (pre ++ [k]).length).count 3 : Nat) ∧ zs = ((bits.take (pre ++ [k]).length).count 2 : Nat) := by
  have h := sg_turn ek hl hm hz
  rw [if_neg (by omega), if_neg (by omega)] at h
  simpa using h
theorem sg_end {bits : List Nat} {a b : Int} (ha : a = ((bits.take (rangeKs 0 ((bits.length : Int) - 0).toNat).length).count 3 : Nat)) (hb : b = ((bits.take (rangeKs 0 ((bits.length : Int) - 0).toNat).length).count 2 : Nat)) :
    signS bits = if 0 < a then (if a = bits.length then Str.ofString "x" else Str.ofString "X") else if b = bits.length then Str.ofString "z" else Str.ofString "Z" := by
  have e1 : (rangeKs 0 ((bits.length : Int) - 0).toNat).length = bits.length := by rw [rangeKs_length]; omega
  rw [e1, List.take_length] at ha hb
  subst ha hb
  unfold signS
  simp only [Int.natCast_pos, Int.natCast_inj]
theorem rangeKs_len (n : Nat) : (rangeKs 0 ((n : Int) - 0).toNat).length = n := by rw [rangeKs_length]; omega
theorem lines_V2_3 : True := by
  k_with "call ref" => ((k_here; k_dflt (refine' Cal.useI (code_c _ _ _ _ _ _ _ _ ?c1 ?c2 ?c3 ?c4 ?c5) ?k1 ?k2 ?k3 ?k4 ?k5 ?k6 ?k7 ?k8 ?_; (case k1 => k_asm); (case k2 => k_asm); (case k3 => k_asm); (case k4 => k_asm); (case c5 => k_mem); (case k5 => k_asm); (case k6 => first | exact rfl | assumption); (case k7 => ktr_room); (case k8 => ktr_units)); (case c1 => assumption); (case c2 => omega); (case c3 => omega); (case c4 => omega); intro t9 h9 tk9 F9 N9; (try dsimp only); (try k_sweep)))
  trivial
theorem group_sign_c (q : Addr) (bits : List Nat) (t1 t2 t3 : Tok) (news : Led) (h4 : Four bits) (h2 : bits.length < 200) (hq : (q, bvec bits t1 t2 t3) ∈ news) :
   CalS prog w 70 [.ref q] 6 16 news (signS bits) := by
  unfold CalS Cal Ctr
  intro p loose mean mg mb dp un gd cn cs a ccd cl outer A₀ base h₀ L m s Q E B F X N T hk hd hu hret
  k_with "pyIter ref" => k_state (fun pre marks zs => marks = ((bits.take pre.length).count 3 : Nat) ∧ zs = ((bits.take pre.length).count 2 : Nat)) "marks" "zs"
  k_with "state" => first | exact sg_3 (by assumption) (by omega) (by assumption) (by assumption) (by assumption) | exact sg_2 (by assumption) (by omega) (by assumption) (by assumption) (by assumption) | exact sg_o (by assumption) (by omega) (by assumption) (by assumption) (by assumption) (by assumption) | exact ⟨rfl, rfl⟩
  refine wpAny_call ?_
  k_dflt cell_enter
  k_steps
  all_goals have e := sg_end (bits := bits) (by assumption) (by assumption)
  · rw [if_pos (by assumption), if_pos (by assumption)] at e
    exact hret _ _ _ _ ⟨rfl, _, congrArg (fun x => Value.str x _) e.symm⟩ (by assumption) (by assumption)
  · rw [if_pos (by assumption), if_neg (by assumption)] at e
    exact hret _ _ _ _ ⟨rfl, _, congrArg (fun x => Value.str x _) e.symm⟩ (by assumption) (by assumption)
  · rw [if_neg (by assumption), if_pos (by assumption)] at e
    exact hret _ _ _ _ ⟨rfl, _, congrArg (fun x => Value.str x _) e.symm⟩ (by assumption) (by assumption)
  · rw [if_neg (by assumption), if_neg (by assumption)] at e
    exact hret _ _ _ _ ⟨rfl, _, congrArg (fun x => Value.str x _) e.symm⟩ (by assumption) (by assumption)
end Mine
end

noncomputable section
open PySem PySem.W PySem.Calls PyProof.Rows
namespace Mine
set_option maxRecDepth 100000
set_option maxHeartbeats 8000000
theorem lines_V3_1 : True := by
  w_top off
  k_with_none
  trivial
variable {prog : Program} {w : World}
theorem lines_V3_2 : True := by
  k_with "mem" => (assumption)
  k_with "mem" => (exact List.mem_append_left _ (by assumption))
  k_with "mem" => (exact List.mem_append_left _ (List.Mem.tail _ (by assumption)))
  trivial
def SgRow (bits : List Nat) (n : Nat) (row : List Str) : Prop := row = (bits.reverse.take n).map fun b => T [sgc b]
theorem SgRow.zero (bits : List Nat) : SgRow bits (List.length ([] : List Int)) [] := by unfold SgRow; simp
theorem SgRow.next {bits : List Nat} {pre : List Int} {k : Int} {row : List Str} (h : SgRow bits pre.length row) (hl : pre.length < bits.length) (ek : k = (bits.length : Int) - 1 - pre.length) :
    SgRow bits (pre ++ [k]).length (row ++ [T [sgc (bits.getD k.toNat 0)]]) := by
  unfold SgRow at *
  have e1 : (pre ++ [k]).length = pre.length + 1 := by simp
  have e2 : k.toNat = bits.length - 1 - pre.length := by omega
  have hb : pre.length < bits.reverse.length := by simpa using hl
  have e3 : bits.reverse[pre.length]? = some (bits.getD k.toNat 0) := by
    rw [List.getElem?_eq_getElem hb, List.getElem_reverse, e2, List.getD_eq_getElem?_getD, List.getElem?_eq_getElem (by omega), Option.getD_some]
  rw [e1, List.take_add_one, e3, h]
  simp
theorem SgRow.len {bits : List Nat} {n : Nat} {row : List Str} (h : SgRow bits n row) : row.length ≤ bits.length := by
  unfold SgRow at h
  rw [h, List.length_map, List.length_take, List.length_reverse]
  omega
theorem SgRow.all {bits : List Nat} {row : List Str} (h : SgRow bits (downKs ((bits.length : Int) - 1) ((bits.length : Int) - 1 - -1).toNat).length row) : row = (bits.reverse.map fun b => [sgc b]).map T := by
  have e : (downKs ((bits.length : Int) - 1) ((bits.length : Int) - 1 - -1).toNat).length = bits.reverse.length := by rw [downKs_length, List.length_reverse]; omega
  unfold SgRow at h
  rw [e, List.take_length] at h
  rw [h, List.map_map]
  rfl
section
variable {A : Around} {E : Value → Shared → Prop} {s : Shared} {Q : Value → Shared → Prop} {t u : Tok} {value slice : PySem.Expr}
theorem item_sgW {b : Nat} (hb : b < 4) (h : Q (.str (T [sgc b]) s.toks) { s with toks := s.toks + 1 })
    (hs : subscripted slice false (.str (Str.ofString "01zx") t) (.int (b : Int) u) = operate [.str (Str.ofString "01zx") t, .int (b : Int) u] (getItem (.str (Str.ofString "01zx") t) (.int (b : Int) u)) := by with_unfolding_all rfl)
    (ht : ∀ r, letTemporaryGo value (.str (Str.ofString "01zx") t) r = pure () := by intro _; with_unfolding_all rfl) :
    wpAny (model prog w) A (subscriptTail value slice (.str (Str.ofString "01zx") t) (.int (b : Int) u)) Q E s := by
  refine KXi.item (n := 4) (by decide +kernel) (by omega) (by omega) (by decide) (fun _ => ?_) hs ht
  rw [item_sg hb]
  exact h
end
theorem lines_V3_3 : True := by
  k_with "call builtin:list.append" => (((refine' append_K ?k1 ?k2 (Upd.head ?k3) ?_ ?z; (case k1 => assumption); (case k2 => assumption); (case k3 => assumption); (case z => assumption)); intro h9 F9 N9; (try k_sweep)))
  k_with "call builtin:str.join" => ((refine' join_made ?n9 ?m9 ?s9 ?e9 ?z9 ?_; (case n9 => assumption); (case m9 => exact List.Mem.head _); (case s9 => assumption); (case e9 => assumption); (case z9 => assumption); intro t9 k9))
  k_with "subscriptTail" => ((with_reducible refine item_sgW (getD_four (by assumption) _) ?_))
  k_with "call ref" => ((k_here; k_dflt (refine' Cal.useI (code_c _ _ _ _ _ _ _ _ ?c1 ?c2 ?c3 ?c4 ?c5) ?k1 ?k2 ?k3 ?k4 ?k5 ?k6 ?k7 ?k8 ?_; (case k1 => k_asm); (case k2 => k_asm); (case k3 => k_asm); (case k4 => k_asm); (case c5 => k_mem); (case k5 => k_asm); (case k6 => first | exact rfl | assumption); (case k7 => ktr_room); (case k8 => ktr_units)); (case c1 => assumption); (case c2 => omega); (case c3 => omega); (case c4 => omega); intro t9 h9 tk9 F9 N9; (try dsimp only); (try k_sweep)))
  k_with "pyIter ref" => (refine Hold.out ?_)
  k_with "InvEndN" => (refine Hold.out ?_)
  trivial
theorem bits_text_c (q : Addr) (bits : List Nat) (t1 t2 t3 : Tok) (news : Led) (h4 : Four bits) (h2 : bits.length < 200) (hq : (q, bvec bits t1 t2 t3) ∈ news) :
   CalS prog w 63 [.ref q] 6 16 news (T (bits.reverse.map sgc)) := by
  unfold CalS Cal Ctr
  intro p loose mean mg mb dp un gd cn cs a ccd cl outer A₀ base h₀ L m s Q E B F X N T hk hd hu hret
  refine wpAny_call ?_
  k_dflt cell_enter
  k_steps
  refine Hold.mk ?_
  rename Fr _ _ _ _ => lF'
  rename News _ _ _ _ => lN'
  replace lF' := fr_gen3 (a := Str.ofString "signs") (b := Str.ofString "row") (c := Str.ofString "v") (by with_unfolding_all rfl) (by with_unfolding_all rfl) (by with_unfolding_all rfl) lF'
  obtain ⟨mG, lF'⟩ := lF'
  rename IsRange _ _ _ _ _ _ _ _ => rgX
  refine' kst_rangeD (fun c : List Value × List Str × Nat => (_, listOf c.1.toArray c.2.2) :: news) (fun _ => []) (fun c => StrsAre c.1 c.2.1) [] (fun pre c => SgRow bits pre.length c.2.1) ([], [], 0) rfl rgX ?small ?size lF' lN' StrsAre.nil (List.forall_mem_nil _) (SgRow.zero bits) ?turn ?done
  case small => exact small_down (by omega) (by omega) (by omega) (by omega)
  case size => exact rangeSize_downNat _ _
  rename ∀ p ∈ news, p.1 < _ => l1
  clear lN'
  case turn =>
    intro c pre k t u h tk own ek hlt hoff hS hP F1 N1
    obtain ⟨vs, xs, n⟩ := c
    dsimp only at *
    have hMk := kstMark
    have hvl : vs.length ≤ 200 := by have := hP.len; have := StrsAre.length hS; omega
    rw [List.cons_append] at N1
    have hne := app_ne l1 hoff
    have hsz : vs.toArray.size ≤ sizeLine := by rw [List.size_toArray, sizeLine_eq]; omega
    try k_fold
    clear lF'
    k_steps
    refine Hold.mk ?_
    rename News _ _ _ ((_, listOf (Array.push _ _) _) :: _) => N9
    simp only [List.push_toArray] at N9
    exact kst_end (_, _, _) (by assumption) N9 (fun p hp => (List.mem_cons.mp hp).elim (fun e => e ▸ .head _) fun h => .tail _ (List.mem_append_left _ h)) (fun p hp => .tail _ (List.mem_append_right _ hp)) rfl (StrsAre.append' hS (.cons _ _ .nil)) (List.forall_mem_nil _) (fun z h1 _ _ => by simp [h1, kstB]) (SgRow.next hP (by omega) ek)
  case done =>
    intro c u h tk hS hP F1 N1
    obtain ⟨vs, xs, n⟩ := c
    dsimp only at *
    have hj := hP.all
    have hz : (bits.reverse.map fun b => [sgc b]).flatten.length ≤ 16777216 := by rw [flat_single, List.length_map, List.length_reverse]; omega
    have hMk := kstMark
    try k_fold
    clear lF'
    k_steps
    exact hret _ _ _ _ ⟨rfl, _, by rw [flat_single]⟩ (by assumption) (cb_drop (by assumption) fun p hp => .tail _ hp)
end Mine
end

noncomputable section
open PySem PySem.W PySem.Calls PyProof.Rows
namespace Mine
set_option maxRecDepth 100000
set_option maxHeartbeats 8000000
theorem lines_V4_1 : True := by
  w_top off
  k_with_none
  trivial
variable {prog : Program} {w : World}
theorem lines_V4_2 : True := by
  k_with "mem" => (assumption)
  k_with "mem" => (exact List.mem_append_left _ (by assumption))
  k_with "mem" => (exact List.Mem.tail _ (by assumption))
  trivial
theorem lit_x : Str.ofString "x" = T [120] := by decide +kernel
theorem lit_X : Str.ofString "X" = T [88] := by decide +kernel
theorem lit_z : Str.ofString "z" = T [122] := by decide +kernel
theorem lit_Z : Str.ofString "Z" = T [90] := by decide +kernel
theorem signS_T (bits : List Nat) : signS bits = T [signC bits] := by
  unfold signS signC
  rw [lit_x, lit_X, lit_z, lit_Z]
  split
  · split <;> rfl
  · split <;> rfl
section
variable {A : Around} {E : Value → Shared → Prop} {s : Shared} {Q : Value → Shared → Prop} {t u : Tok} {value slice : PySem.Expr}
theorem item_hexW {b : Nat} (hb : b < 16) (h : Q (.str (T [hexc b]) s.toks) { s with toks := s.toks + 1 })
    (hs : subscripted slice false (.str (Str.ofString "0123456789abcdef") t) (.int (b : Int) u) = operate [.str (Str.ofString "0123456789abcdef") t, .int (b : Int) u] (getItem (.str (Str.ofString "0123456789abcdef") t) (.int (b : Int) u)) := by with_unfolding_all rfl)
    (ht : ∀ r, letTemporaryGo value (.str (Str.ofString "0123456789abcdef") t) r = pure () := by intro _; with_unfolding_all rfl) :
    wpAny (model prog w) A (subscriptTail value slice (.str (Str.ofString "0123456789abcdef") t) (.int (b : Int) u)) Q E s := by
  refine KXi.item (n := 16) (by decide +kernel) (by omega) (by omega) (by decide) (fun _ => ?_) hs ht
  rw [item_hex hb]
  exact h
theorem append_in {its : Array Value} {n : Nat} {x : Value} {h₀ : Heap} {L D : Addr} {m : Str → Option Value} {news R : Led} (F : Fr h₀ L s.heap m) (N : News h₀ L s.heap news) (hm : (D, listOf its n) ∈ news) (hR : ∀ p ∈ R, p.1 ≠ D) (hsub : ∀ p ∈ R, p ∈ news) (hsz : its.size ≤ sizeLine)
    (h : ∀ h', Fr h₀ L h' m → News h₀ L h' ((D, listOf (its.push x) (n + 1)) :: R) → Q .none { s with heap := h' }) : wpAny (model prog w) A (call (.builtin "list.append") [.ref D, x]) Q E s :=
  append_K F (cb_drop N (led_cons hsub hm)) (Upd.head hR) h hsz
end
theorem lines_V4_3 : True := by
  k_with "exec While Compare cons nil" => (refine Hold.out ?_)
  k_with "KswEnd" => (refine Hold.out ?_)
  k_with "subscriptTail" => ((with_reducible refine item_hexW (cut16 (by split <;> omega)) ?_))
  k_with "call builtin:list.append" => (((refine' append_in ?k1 ?k2 ?k3 ?k4 ?k5 ?k6 ?_; (case k1 => assumption); (case k2 => assumption); (case k3 => k_mem); (case k6 => assumption); (case k4 => assumption); (case k5 => first | exact fun p hp => .tail _ hp | exact fun p hp => .tail _ (.tail _ hp))); intro h9 F9 N9; (try k_sweep)))
  trivial
-- slice_vec
theorem lines_V4_4 : True := by
  k_with "call ref" => ((k_here; k_dflt (refine' Ctr.use (slice_vec_c _ _ _ _ _ _ _ _ _ _ ?c1 ?c2 ?c3 ?c4 ?c5 ?c6) ?k1 ?k2 ?k3 ?k4 ?k5 ?k6 ?k7 ?k8 ?_; (case k1 => k_asm); (case k2 => k_asm); (case k3 => k_asm); (case k4 => k_asm); (case c6 => k_mem); (case k5 => k_asm); (case k6 => first | exact rfl | assumption); (case k7 => ktr_room); (case k8 => ktr_units)); (case c1 => assumption); (case c2 => assumption); (case c3 => split <;> omega); (case c4 => split <;> omega); (case c5 => omega); intro v9 n9 h9 tk9 P9 F9 N9; obtain ⟨q9, u1, u2, u3, e1, e2, l9⟩ := P9; subst e1; subst e2; (try dsimp only); (try k_sweep)))
  trivial
-- is_known
theorem lines_V4_5 : True := by
  k_with "call ref" => ((k_here; k_dflt (refine' Cal.useB (is_known_c _ _ _ _ _ _ ?c5) ?k1 ?k2 ?k3 ?k4 ?k5 ?k6 ?k7 ?k8 ?_; (case k1 => k_asm); (case k2 => k_asm); (case k3 => k_asm); (case k4 => k_asm); (case c5 => k_mem); (case k5 => k_asm); (case k6 => first | exact rfl | assumption); (case k7 => ktr_room); (case k8 => ktr_units)); intro h9 tk9 F9 N9; (try dsimp only); (try k_sweep)))
  trivial
-- group_sign
theorem lines_V4_6 : True := by
  k_with "call ref" => ((k_here; k_dflt (refine' Cal.useS (group_sign_c _ _ _ _ _ _ ?c1 ?c2 ?c5) ?k1 ?k2 ?k3 ?k4 ?k5 ?k6 ?k7 ?k8 ?_; (case k1 => k_asm); (case k2 => k_asm); (case k3 => k_asm); (case k4 => k_asm); (case c5 => k_mem); (case k5 => k_asm); (case k6 => first | exact rfl | assumption); (case k7 => ktr_room); (case k8 => ktr_units)); (case c1 => exact Four.take (Four.drop (by assumption) _) _); (case c2 => exact cut_short (by assumption)); intro t9 h9 tk9 F9 N9; (try dsimp only); (try k_sweep)))
  trivial
theorem strs_rev : ∀ {vs : List Value} {xs : List Str}, StrsAre vs xs → StrsAre vs.reverse xs.reverse
  | _, _, .nil => .nil
  | _, _, .cons y t r => by
    rw [List.reverse_cons, List.reverse_cons]
    exact StrsAre.append' (strs_rev r) (.cons y t .nil)
theorem rev_all {xs : List Str} {ls : List (List Nat)} (e : xs = ls.map T) : xs.reverse = ls.reverse.map T := by rw [e, List.map_reverse]
theorem digT_small {k : Nat} {bits : List Nat} (hk : k = 1 ∨ k = 3 ∨ k = 4) (h : bits.length < 200) : (digT k bits).length ≤ 16777216 := by
  rw [digT_len]
  have := Nat.div_le_self (bits.length + k - 1) k
  omega
theorem no_digit {bits : List Nat} (h : ¬ high bits = 0) : T [signC bits] = T (digitL bits) := by rw [digitL, if_neg h]
theorem a_digit {bits : List Nat} (h : high bits = 0) : T [hexc (low bits)] = T (digitL bits) := by rw [digitL, if_pos h]
theorem lines_V4_7 : True := by
  k_with "call builtin:list.reverse" => (((refine' reverse_head ?k1 ?k2 ?k3 ?_ ?z; (case k1 => assumption); (case k2 => assumption); (case k3 => assumption); (case z => assumption)); intro h9 F9 N9; (try k_sweep)))
  k_with "call builtin:str.join" => ((refine' join_made ?n9 ?m9 ?s9 ?e9 ?z9 ?_; (case n9 => assumption); (case m9 => exact List.Mem.head _); (case s9 => exact strs_rev (by assumption)); (case e9 => exact rev_all (GrInv.all (by assumption) (by assumption) (by assumption))); (case z9 => exact digT_small (by assumption) (by assumption)); intro t9 k9; (try k_sweep)))
  trivial
theorem grouped_c (q : Addr) (bits : List Nat) (k : Nat) (t1 t2 t3 t4 : Tok) (news : Led) (hk0 : k = 3 ∨ k = 4) (h4 : Four bits) (h2 : bits.length < 200) (hq : (q, bvec bits t1 t2 t3) ∈ news) :
   CalS prog w 77 [.ref q, .int (k : Int) t4] 8 24 news (T (digT k bits)) := by
  unfold CalS Cal Ctr
  intro p loose mean mg mb dp un gd cn cs a ccd cl outer A₀ base h₀ L m s Q E B F X N T' hk hd hu hret
  refine wpAny_call ?_
  k_dflt cell_enter
  k_steps
  refine Hold.mk ?_
  have hk3 : k = 1 ∨ k = 3 ∨ k = 4 := .inr hk0
  have hkk : 1 ≤ (k : Int) ∧ (k : Int) ≤ 4 := by omega
  rename Fr _ _ _ _ => lF'
  rename News _ _ _ _ => lN'
  replace lF' := fr_gen4 (a := Str.ofString "v") (b := Str.ofString "size") (c := Str.ofString "row") (d := Str.ofString "lo") (by with_unfolding_all rfl) (by with_unfolding_all rfl) (by with_unfolding_all rfl) (by with_unfolding_all rfl) lF'
  obtain ⟨mG, lF'⟩ := lF'
  rename ∀ p ∈ news, p.1 < _ => l1
  have hne : ∀ p ∈ news, p.1 ≠ _ := fun p hp => Nat.ne_of_lt (l1 p hp)
  refine' ksw_while (fun c : Int × Tok × List Value × List Str × Nat => (_, listOf c.2.2.1.toArray c.2.2.2.2) :: news) (fun c => [(Str.ofString "lo", .int c.1 c.2.1)]) (fun c => StrsAre c.2.2.1 c.2.2.2.1) [Str.ofString "group"] (fun c => GrInv k bits c.1 c.2.2.2.1) (fun c => 300 - c.1.toNat) (0, _, [], [], 0) lF' lN' StrsAre.nil ?hk9 (GrInv.zero hk3) ?turn
  case hk9 => exact List.forall_mem_cons.mpr ⟨by with_unfolding_all rfl, List.forall_mem_nil _⟩
  clear lN'
  intro c u h tk hS hP F1 N1
  obtain ⟨lo, tl, vs, xs, n⟩ := c
  dsimp only at *
  have hMk := kstMark
  have h0 := hP.nonneg
  have hsz : vs.toArray.size ≤ sizeLine := by have := hP.len hk3; have := StrsAre.length hS; rw [List.size_toArray, sizeLine_eq]; omega
  try k_fold
  clear lF'
  k_steps
  · refine Hold.mk ?_
    rename News _ _ _ ((_, listOf (Array.push _ _) _) :: _) => N9
    rename high _ = 0 => hi
    rw [a_digit hi, List.push_toArray] at N9
    refine ksw_end (_, _, _, _, _) (by assumption) N9 (fun p hp => hp) (StrsAre.append' hS (.cons _ _ .nil)) (List.forall_mem_cons.mpr ⟨by with_unfolding_all rfl, List.forall_mem_nil _⟩) ?_ (GrInv.next hP (by assumption)) (by dsimp only; omega)
    intro z h2 h3
    have a2 : z ≠ Str.ofString "lo" := h2 _ (.head _)
    have a3 : z ≠ Str.ofString "group" := by simpa using h3
    simp [kstB, a2, a3]
  · refine Hold.mk ?_
    rename News _ _ _ ((_, listOf (Array.push _ _) _) :: _) => N9
    rename ¬ high _ = 0 => hi
    rw [signS_T, no_digit hi, List.push_toArray] at N9
    refine ksw_end (_, _, _, _, _) (by assumption) N9 (fun p hp => hp) (StrsAre.append' hS (.cons _ _ .nil)) (List.forall_mem_cons.mpr ⟨by with_unfolding_all rfl, List.forall_mem_nil _⟩) ?_ (GrInv.next hP (by assumption)) (by dsimp only; omega)
    intro z h2 h3
    have a2 : z ≠ Str.ofString "lo" := h2 _ (.head _)
    have a3 : z ≠ Str.ofString "group" := by simpa using h3
    simp [kstB, a2, a3]
  · exact hret _ _ _ _ ⟨rfl, _, rfl⟩ (by assumption) (cb_drop (by assumption) fun p hp => .tail _ hp)
end Mine
end

noncomputable section
open PySem PySem.W PySem.Calls PyProof.Rows
namespace Mine
set_option maxRecDepth 100000
set_option maxHeartbeats 8000000
theorem lines_V5_1 : True := by
  w_top off
  k_with_none
  trivial
variable {prog : Program} {w : World}
theorem lines_V5_2 : True := by
  k_with "mem" => (assumption)
  k_with "mem" => (exact List.Mem.tail _ (by assumption))
  k_with "exec While Compare cons nil" => (refine Hold.out ?_)
  k_with "KswEnd" => (refine Hold.out ?_)
  trivial
section
variable {A : Around} {E : Value → Shared → Prop} {s : Shared} {Q : Value → Shared → Prop} {t u v : Tok}
theorem str_intW {a : Int} (h2 : a.natAbs < 2 ^ 200) (h : Q (.str (T (decI a)) s.toks) { s with toks := s.toks + 1 }) : wpAny (model prog w) A (call (.type "str") [.int a t]) Q E s := by
  refine P.str_of_int ?_ (by rw [int_text]; exact h)
  by_cases h0 : a.natAbs = 0
  · rw [h0]; decide
  · exact Nat.lt_trans ((Nat.log2_lt h0).mpr h2) (by decide)
theorem rjust18 {l : List Nat} (h : ∀ t' k, Q (.str (T (padz 18 l)) t') { s with toks := k }) : wpAny (model prog w) A (call (.builtin "str.rjust") [.str (T l) t, .int 18 u, .str (Str.ofString "0") v]) Q E s := by
  refine rjust_fill (padOk_of (by decide) (by decide)) (by decide +kernel) fun t' k => ?_
  have e : (Str.ofString "0").cps.getD 0 0 = 48 := by decide +kernel
  rw [e, show ((18 : Int)) = ((18 : Nat) : Int) from rfl, rjust_T]
  exact h t' k
end
theorem fmod_small {a : Int} (h : 0 ≤ a) : (a.fmod (10 ^ 18)).natAbs < 2 ^ 200 := by
  rw [Int.fmod_eq_emod_of_nonneg _ (by decide)]
  have h1 := Int.emod_nonneg a (b := 10 ^ 18) (by decide)
  have h2 := Int.emod_lt_of_pos a (b := 10 ^ 18) (by decide)
  have h3 : (10 ^ 18 : Nat) < 2 ^ 200 := by decide +kernel
  omega
theorem lines_V5_3 : True := by
  k_with "call type:str" => ((refine str_intW ?_ ?_; first | exact fmod_small (by assumption) | omega))
  k_with "call builtin:str.rjust" => ((with_reducible refine rjust18 ?_; intro t9 k9))
  k_with "call builtin:list.append" => (((refine' append_in ?k1 ?k2 ?k3 ?k4 ?k5 ?k6 ?_; (case k1 => assumption); (case k2 => assumption); (case k3 => k_mem); (case k6 => first | assumption | (simp only [List.size_toArray, Array.size_push, sizeLine_eq]; omega)); (case k4 => assumption); (case k5 => first | exact fun p hp => .tail _ hp | exact fun p hp => .tail _ (.tail _ hp))); intro h9 F9 N9; (try k_sweep)))
  k_with "call builtin:list.reverse" => (((refine' reverse_head ?k1 ?k2 ?k3 ?_ ?z; (case k1 => assumption); (case k2 => assumption); (case k3 => assumption); (case z => (simp only [List.size_toArray, Array.size_push, sizeLine_eq]; omega))); intro h9 F9 N9; (try k_sweep)))
  trivial
theorem strs_push {its : Array Value} {xs : List Str} {x : Str} {t : Tok} (h : StrsAre its.toList xs) : StrsAre (its.push (.str x t)).toList (xs ++ [x]) := by
  rw [Array.toList_push]
  exact StrsAre.append' h (.cons x t .nil)
theorem wt_less {rest : Int} (h : 10 ^ 18 ≤ rest) : (rest.fdiv (10 ^ 18)).toNat < rest.toNat := by
  rw [Int.fdiv_eq_ediv_of_nonneg _ (by decide)]
  have h1 : (10 : Int) ^ 18 = 1000000000000000000 := by decide +kernel
  rw [h1] at h ⊢
  omega
theorem lit_minus : Str.ofString "-" = T [45] := by decide +kernel
theorem lines_V5_4 : True := by
  k_with "call builtin:str.join" => ((refine' join_made ?n9 ?m9 ?s9 ?e9 ?z9 ?_; (case n9 => assumption); (case m9 => exact List.Mem.head _); (case s9 => first | exact strs_rev (strs_push (strs_push (by assumption))) | exact strs_rev (strs_push (by assumption))); (case e9 => exact rev_all (by assumption)); (case z9 => assumption); intro t9 k9; (try k_sweep)))
  trivial
theorem whole_text_c (n : Int) (t : Tok) (news : Led) (hn : n.natAbs < 2 ^ 200) :
   CalS prog w 105 [.int n t] 8 24 news (T (decI n)) := by
  unfold CalS Cal Ctr
  intro p loose mean mg mb dp un gd cn cs a ccd cl outer A₀ base h₀ L m s Q E B F X N T' hk hd hu hret
  refine wpAny_call ?_
  k_dflt cell_enter
  k_steps
  refine Hold.mk ?_
  rename Fr _ _ _ _ => lF'
  rename News _ _ _ _ => lN'
  replace lF' := fr_gen3 (a := Str.ofString "n") (b := Str.ofString "rest") (c := Str.ofString "row") (by with_unfolding_all rfl) (by with_unfolding_all rfl) (by with_unfolding_all rfl) lF'
  obtain ⟨mG, lF'⟩ := lF'
  rename ∀ p ∈ news, p.1 < _ => l1
  have hne : ∀ p ∈ news, p.1 ≠ _ := fun p hp => Nat.ne_of_lt (l1 p hp)
  refine' ksw_while (fun c : Int × Tok × List Value × List Str × Nat => (_, listOf c.2.2.1.toArray c.2.2.2.2) :: news) (fun c => [(Str.ofString "rest", .int c.1 c.2.1)]) (fun c => StrsAre c.2.2.1 c.2.2.2.1) [Str.ofString "part"] (fun c => WtInv n.natAbs c.1 c.2.2.2.1) (fun c => c.1.toNat) (_, _, [], [], 0) lF' lN' StrsAre.nil ?hk9 (WtInv.zero n) ?turn
  case hk9 => exact List.forall_mem_cons.mpr ⟨by with_unfolding_all rfl, List.forall_mem_nil _⟩
  clear lN'
  intro c u h tk hS hP F1 N1
  obtain ⟨rest, tl, vs, xs, n1⟩ := c
  dsimp only at *
  have hMk := kstMark
  obtain ⟨hx, h0, hr⟩ := hP.small hn
  have hsz : vs.toArray.size ≤ sizeLine := by have := StrsAre.length hS; rw [List.size_toArray, sizeLine_eq]; omega
  try k_fold
  clear lF'
  obtain ⟨mm, ls, em, ex, ed, _, _⟩ := id hP
  have hr1 : rest.natAbs < 2 ^ 200 := Nat.lt_of_le_of_lt hr hn
  have hvs : vs.length ≤ 61 := by have := StrsAre.length hS; omega
  have hf1 : (ls ++ [decI rest]).reverse.flatten = decL n.natAbs := by rw [em, decI_nat]; simp [ed]
  have hf2 : (ls ++ [decI rest] ++ [[45]]).reverse.flatten = 45 :: decL n.natAbs := by rw [em, decI_nat]; simp [ed]
  have he1 : xs ++ [T (decI rest)] = (ls ++ [decI rest]).map T := by rw [ex]; simp
  have he2 : xs ++ [T (decI rest)] ++ [Str.ofString "-"] = (ls ++ [decI rest] ++ [[45]]).map T := by rw [he1, lit_minus]; simp
  have hl := decL_61 hn
  have hz1 : (ls ++ [decI rest]).reverse.flatten.length ≤ 16777216 := by rw [hf1]; omega
  have hz2 : (ls ++ [decI rest] ++ [[45]]).reverse.flatten.length ≤ 16777216 := by rw [hf2, List.length_cons]; omega
  k_steps
  · refine Hold.mk ?_
    rename News _ _ _ ((_, listOf (Array.push _ _) _) :: _) => N9
    rename 10 ^ Int.toNat 18 ≤ rest => hi
    rw [List.push_toArray] at N9
    refine ksw_end (_, _, _, _, _) (by assumption) N9 (fun p hp => hp) (StrsAre.append' hS (.cons _ _ .nil)) (List.forall_mem_cons.mpr ⟨by with_unfolding_all rfl, List.forall_mem_nil _⟩) ?_ (WtInv.next hP hi) (wt_less hi)
    intro z h2 h3
    have a2 : z ≠ Str.ofString "rest" := h2 _ (.head _)
    have a3 : z ≠ Str.ofString "part" := by simpa using h3
    simp [kstB, a2, a3]
  · rename n < 0 => hneg
    exact hret _ _ _ _ ⟨rfl, _, by rw [hf2, decI, if_pos hneg]⟩ (by assumption) (cb_drop (by assumption) fun p hp => .tail _ hp)
  · rename ¬ n < 0 => hneg
    exact hret _ _ _ _ ⟨rfl, _, by rw [hf1, decI, if_neg hneg]⟩ (by assumption) (cb_drop (by assumption) fun p hp => .tail _ hp)
end Mine
end

noncomputable section
open PySem PySem.W PySem.Calls PyProof.Rows
namespace Mine
set_option maxRecDepth 100000
set_option maxHeartbeats 8000000
theorem lines_V6_1 : True := by
  w_top off
  k_with_none
  trivial
variable {prog : Program} {w : World}
theorem lines_V6_2 : True := by
  k_with "mem" => (assumption)
  trivial
/-- the text of the number that the bits stand for -/
def decT (bits : List Nat) (sg : Bool) : List Nat := if high bits = 0 then decI (numOf bits sg) else [signC bits]
theorem numOf_small {bits : List Nat} {sg : Bool} (h2 : bits.length < 200) : (numOf bits sg).natAbs < 2 ^ 200 := by
  have h1 := low_lt bits
  have h3 : 2 ^ bits.length ≤ 2 ^ 199 := Nat.pow_le_pow_right (by decide) (by omega)
  have h4 : 2 ^ 199 < 2 ^ 200 := by decide +kernel
  have e : ((2 : Int) ^ bits.length) = ((2 ^ bits.length : Nat) : Int) := by push_cast; rfl
  unfold numOf
  split
  · rw [e]; omega
  · omega
theorem grouped3_c (q : Addr) (bits : List Nat) (t1 t2 t3 t4 : Tok) (news : Led) (h4 : Four bits) (h2 : bits.length < 200) (hq : (q, bvec bits t1 t2 t3) ∈ news) :
   CalS prog w 77 [.ref q, .int 3 t4] 8 24 news (T (digT 3 bits)) := grouped_c q bits 3 t1 t2 t3 t4 news (.inl rfl) h4 h2 hq
theorem grouped4_c (q : Addr) (bits : List Nat) (t1 t2 t3 t4 : Tok) (news : Led) (h4 : Four bits) (h2 : bits.length < 200) (hq : (q, bvec bits t1 t2 t3) ∈ news) :
   CalS prog w 77 [.ref q, .int 4 t4] 8 24 news (T (digT 4 bits)) := grouped_c q bits 4 t1 t2 t3 t4 news (.inr rfl) h4 h2 hq
theorem lines_V6_3 : True := by
  k_with "call ref" => ((k_here; k_dflt (refine' Cal.useS (bits_text_c _ _ _ _ _ _ ?c1 ?c2 ?c5) ?k1 ?k2 ?k3 ?k4 ?k5 ?k6 ?k7 ?k8 ?_; (case k1 => k_asm); (case k2 => k_asm); (case k3 => k_asm); (case k4 => k_asm); (case c5 => k_mem); (case k5 => k_asm); (case k6 => first | exact rfl | assumption); (case k7 => ktr_room); (case k8 => ktr_units)); (case c1 => assumption); (case c2 => assumption); intro t9 h9 tk9 F9 N9; (try dsimp only); (try k_sweep)))
  trivial
theorem binary_c (q : Addr) (bits : List Nat) (t1 t2 t3 : Tok) (news : Led) (h4 : Four bits) (h2 : bits.length < 200) (hq : (q, bvec bits t1 t2 t3) ∈ news) :
   CalS prog w 84 [.ref q] 10 32 news (T (bits.reverse.map sgc)) := by
  unfold CalS Cal Ctr
  intro p loose mean mg mb dp un gd cn cs a ccd cl outer A₀ base h₀ L m s Q E B F X N T' hk hd hu hret
  refine wpAny_call ?_
  k_dflt cell_enter
  k_steps
  exact hret _ _ _ _ ⟨rfl, _, rfl⟩ (by assumption) (by assumption)
theorem lines_V6_4 : True := by
  k_with "call ref" => ((k_here; k_dflt (refine' Cal.useS (grouped3_c _ _ _ _ _ _ _ ?c1 ?c2 ?c5) ?k1 ?k2 ?k3 ?k4 ?k5 ?k6 ?k7 ?k8 ?_; (case k1 => k_asm); (case k2 => k_asm); (case k3 => k_asm); (case k4 => k_asm); (case c5 => k_mem); (case k5 => k_asm); (case k6 => first | exact rfl | assumption); (case k7 => ktr_room); (case k8 => ktr_units)); (case c1 => assumption); (case c2 => assumption); intro t9 h9 tk9 F9 N9; (try dsimp only); (try k_sweep)))
  trivial
theorem octal_c (q : Addr) (bits : List Nat) (t1 t2 t3 : Tok) (news : Led) (h4 : Four bits) (h2 : bits.length < 200) (hq : (q, bvec bits t1 t2 t3) ∈ news) :
   CalS prog w 91 [.ref q] 10 32 news (T (digT 3 bits)) := by
  unfold CalS Cal Ctr
  intro p loose mean mg mb dp un gd cn cs a ccd cl outer A₀ base h₀ L m s Q E B F X N T' hk hd hu hret
  refine wpAny_call ?_
  k_dflt cell_enter
  k_steps
  exact hret _ _ _ _ ⟨rfl, _, rfl⟩ (by assumption) (by assumption)
theorem lines_V6_5 : True := by
  k_with "call ref" => ((k_here; k_dflt (refine' Cal.useS (grouped4_c _ _ _ _ _ _ _ ?c1 ?c2 ?c5) ?k1 ?k2 ?k3 ?k4 ?k5 ?k6 ?k7 ?k8 ?_; (case k1 => k_asm); (case k2 => k_asm); (case k3 => k_asm); (case k4 => k_asm); (case c5 => k_mem); (case k5 => k_asm); (case k6 => first | exact rfl | assumption); (case k7 => ktr_room); (case k8 => ktr_units)); (case c1 => assumption); (case c2 => assumption); intro t9 h9 tk9 F9 N9; (try dsimp only); (try k_sweep)))
  trivial
theorem hex_c (q : Addr) (bits : List Nat) (t1 t2 t3 : Tok) (news : Led) (h4 : Four bits) (h2 : bits.length < 200) (hq : (q, bvec bits t1 t2 t3) ∈ news) :
   CalS prog w 98 [.ref q] 10 32 news (T (digT 4 bits)) := by
  unfold CalS Cal Ctr
  intro p loose mean mg mb dp un gd cn cs a ccd cl outer A₀ base h₀ L m s Q E B F X N T' hk hd hu hret
  refine wpAny_call ?_
  k_dflt cell_enter
  k_steps
  exact hret _ _ _ _ ⟨rfl, _, rfl⟩ (by assumption) (by assumption)
-- group_sign
theorem lines_V6_6 : True := by
  k_with "call ref" => ((k_here; k_dflt (refine' Cal.useS (group_sign_c _ _ _ _ _ _ ?c1 ?c2 ?c5) ?k1 ?k2 ?k3 ?k4 ?k5 ?k6 ?k7 ?k8 ?_; (case k1 => k_asm); (case k2 => k_asm); (case k3 => k_asm); (case k4 => k_asm); (case c5 => k_mem); (case k5 => k_asm); (case k6 => first | exact rfl | assumption); (case k7 => ktr_room); (case k8 => ktr_units)); (case c1 => assumption); (case c2 => assumption); intro t9 h9 tk9 F9 N9; (try dsimp only); (try k_sweep)))
  trivial
-- to_int
theorem lines_V6_7 : True := by
  k_with "call ref" => ((k_here; k_dflt (refine' Ctr.use (to_int_c _ _ _ _ _ _ _ ?c1 ?c2 ?c3 ?c5) ?k1 ?k2 ?k3 ?k4 ?k5 ?k6 ?k7 ?k8 ?_; (case k1 => k_asm); (case k2 => k_asm); (case k3 => k_asm); (case k4 => k_asm); (case c5 => k_mem); (case k5 => k_asm); (case k6 => first | exact rfl | assumption); (case k7 => ktr_room); (case k8 => ktr_units)); (case c1 => assumption); (case c2 => assumption); (case c3 => assumption); intro v9 n9 h9 tk9 P9 F9 N9; obtain ⟨e9, P9⟩ := P9; subst e9; rcases P9 with ⟨z9, t9, e9⟩ | ⟨z9, e9⟩ <;> (subst e9; (try dsimp only); (try k_sweep))))
  trivial
-- whole_text
theorem lines_V6_8 : True := by
  k_with "call ref" => ((k_here; k_dflt (refine' Cal.useS (whole_text_c _ _ _ ?c1) ?k1 ?k2 ?k3 ?k4 ?k5 ?k6 ?k7 ?k8 ?_; (case k1 => k_asm); (case k2 => k_asm); (case k3 => k_asm); (case k4 => k_asm); (case k5 => k_asm); (case k6 => first | exact rfl | assumption); (case k7 => ktr_room); (case k8 => ktr_units)); (case c1 => exact numOf_small (by assumption)); intro t9 h9 tk9 F9 N9; (try dsimp only); (try k_sweep)))
  trivial
theorem decimal_c (q : Addr) (bits : List Nat) (t1 t2 t3 : Tok) (sg : Bool) (news : Led) (h4 : Four bits) (h1 : 1 ≤ bits.length) (h2 : bits.length < 200) (hq : (q, bvec bits t1 t2 t3) ∈ news) :
   CalS prog w 112 [.ref q, .bool sg] 10 32 news (T (decT bits sg)) := by
  unfold CalS Cal Ctr
  intro p loose mean mg mb dp un gd cn cs a ccd cl outer A₀ base h₀ L m s Q E B F X N T' hk hd hu hret
  refine wpAny_call ?_
  k_dflt cell_enter
  k_steps
  · rename high bits = 0 => hz
    exact hret _ _ _ _ ⟨rfl, _, by rw [decT, if_pos hz]⟩ (by assumption) (by assumption)
  · rename high bits ≠ 0 => hz
    exact hret _ _ _ _ ⟨rfl, _, by rw [decT, if_neg hz, signS_T]⟩ (by assumption) (by assumption)
/-- the width of the decimal text -/
def decW (wd : Nat) (sg : Bool) : Nat := if sg = true then (decI (2 ^ (wd - 1))).length + 1 else (decI (2 ^ wd - 1)).length
theorem lines_V6_9 : True := by
  k_with "call ref" => ((k_here; k_dflt (refine' Cal.useI (mask_c _ _ ?c1 ?c2 _) ?k1 ?k2 ?k3 ?k4 ?k5 ?k6 ?k7 ?k8 ?_; (case k1 => k_asm); (case k2 => k_asm); (case k3 => k_asm); (case k4 => k_asm); (case k5 => k_asm); (case k6 => first | exact rfl | assumption); (case k7 => ktr_room); (case k8 => ktr_units)); (case c1 => omega); (case c2 => omega); intro t9 h9 tk9 F9 N9; (try dsimp only); (try k_sweep)))
  trivial
theorem pow_abs {k : Nat} (h : k < 200) : ((2 : Int) ^ k).natAbs < 2 ^ 200 := by
  have e : ((2 : Int) ^ k) = ((2 ^ k : Nat) : Int) := by push_cast; rfl
  rw [e, Int.natAbs_natCast]
  exact Nat.pow_lt_pow_right (by decide) h
theorem pow_abs1 {k : Int} (h : k < 200) : (1 * (2 : Int) ^ k.toNat).natAbs < 2 ^ 200 := by rw [Int.one_mul]; exact pow_abs (by omega)
theorem pow_abs2 {k : Int} (h : k < 200) : ((2 : Int) ^ k.toNat - 1).natAbs < 2 ^ 200 := by
  have h1 := pow_abs (k := k.toNat) (by omega)
  have h2 : (0 : Int) < 2 ^ k.toNat := Int.pow_pos (by decide)
  omega
-- whole_text
theorem lines_V6_10 : True := by
  k_with "call ref" => ((k_here; k_dflt (refine' Cal.useS (whole_text_c _ _ _ ?c1) ?k1 ?k2 ?k3 ?k4 ?k5 ?k6 ?k7 ?k8 ?_; (case k1 => k_asm); (case k2 => k_asm); (case k3 => k_asm); (case k4 => k_asm); (case k5 => k_asm); (case k6 => first | exact rfl | assumption); (case k7 => ktr_room); (case k8 => ktr_units)); (case c1 => first | exact pow_abs1 (by omega) | exact pow_abs2 (by omega)); intro t9 h9 tk9 F9 N9; (try dsimp only); (try k_sweep)))
  trivial
section
variable {A : Around} {E : Value → Shared → Prop} {s : Shared} {Q : Value → Shared → Prop} {t u v : Tok}
theorem len_T {l : List Nat} (h2 : l.length ≤ 16777216) (h : Q (.int (l.length : Nat) (s.toks + 1)) { s with toks := s.toks + 1 + 1 }) : wpAny (model prog w) A (call (.builtin "len") [.str (T l) t]) Q E s :=
  PyProof.Rows.len_str (by rw [T_len]; omega) (by rw [T_len]; exact h)
end
theorem decI_62 {a : Int} (h : a.natAbs < 2 ^ 200) : (decI a).length ≤ 62 := by
  have := decL_61 h
  unfold decI
  split
  · rw [List.length_cons]; omega
  · omega
theorem decI_small {a : Int} (h : a.natAbs < 2 ^ 200) : (decI a).length ≤ 16777216 := Nat.le_trans (decI_62 h) (by decide)
theorem lines_V6_11 : True := by
  k_with "call builtin:len" => (with_reducible refine len_T (decI_small (by first | exact pow_abs1 (by omega) | exact pow_abs2 (by omega))) ?_)
  trivial
theorem decW_s {wd : Nat} (h : 1 ≤ wd) : (((decI (1 * 2 ^ ((wd : Int) - 1).toNat)).length : Nat) : Int) + 1 = (decW wd true : Nat) := by
  have e : ((wd : Int) - 1).toNat = wd - 1 := by omega
  rw [decW, if_pos rfl, Int.one_mul, e]
  push_cast
  rfl
theorem decW_u {wd : Nat} : (((decI (2 ^ (wd : Int).toNat - 1)).length : Nat) : Int) = (decW wd false : Nat) := by
  rw [decW, if_neg (by decide), Int.toNat_natCast]
theorem width_c (wd : Nat) (sg : Bool) (t : Tok) (news : Led) (h1 : 1 ≤ wd) (h2 : wd < 200) :
   CalI prog w 126 [.int (wd : Int) t, .bool sg] 10 32 news (decW wd sg : Nat) := by
  unfold CalI Cal Ctr
  intro p loose mean mg mb dp un gd cn cs a ccd cl outer A₀ base h₀ L m s Q E B F X N T' hk hd hu hret
  refine wpAny_call ?_
  k_dflt cell_enter
  k_steps
  · rename sg = true => hs
    subst hs
    exact hret _ _ _ _ ⟨rfl, _, by rw [← decW_s h1]⟩ (by assumption) (by assumption)
  · rename sg = false => hs
    subst hs
    exact hret _ _ _ _ ⟨rfl, _, by rw [← decW_u]⟩ (by assumption) (by assumption)
end Mine
end

noncomputable section
open PySem PySem.W PySem.Calls PyProof.Rows
namespace Mine
set_option maxRecDepth 100000
set_option maxHeartbeats 8000000
theorem lines_V7_1 : True := by
  w_top off
  k_with_none
  trivial
variable {prog : Program} {w : World}
theorem lines_V7_2 : True := by
  k_with "mem" => (assumption)
  k_with "mem" => (exact List.Mem.tail _ (by assumption))
  k_with "exec While Compare cons nil" => (refine Hold.out ?_)
  k_with "KswEnd" => (refine Hold.out ?_)
  k_with "call ref" => ((k_here; k_dflt (refine' Cal.useI (mask_c _ _ ?c1 ?c2 _) ?k1 ?k2 ?k3 ?k4 ?k5 ?k6 ?k7 ?k8 ?_; (case k1 => k_asm); (case k2 => k_asm); (case k3 => k_asm); (case k4 => k_asm); (case k5 => k_asm); (case k6 => first | exact rfl | assumption); (case k7 => ktr_room); (case k8 => ktr_units)); (case c1 => omega); (case c2 => omega); intro t9 h9 tk9 F9 N9; (try dsimp only); (try k_sweep)))
  k_with "call builtin:list.append" => (((refine' append_in ?k1 ?k2 ?k3 ?k4 ?k5 ?k6 ?_; (case k1 => assumption); (case k2 => assumption); (case k3 => k_mem); (case k6 => first | assumption | (simp only [List.size_toArray, Array.size_push, sizeLine_eq]; omega)); (case k4 => assumption); (case k5 => first | exact fun p hp => .tail _ hp | exact fun p hp => .tail _ (.tail _ hp))); intro h9 F9 N9; (try k_sweep)))
  k_with "call builtin:list.reverse" => (((refine' reverse_head ?k1 ?k2 ?k3 ?_ ?z; (case k1 => assumption); (case k2 => assumption); (case k3 => assumption); (case z => (simp only [List.size_toArray, Array.size_push, sizeLine_eq]; omega))); intro h9 F9 N9; (try k_sweep)))
  trivial
section
variable {A : Around} {E : Value → Shared → Prop} {s : Shared} {Q : Value → Shared → Prop} {t u v : Tok}
theorem chr_byte {a : Int} (h : Q (.str (T [(a % 256).toNat]) s.toks) { s with toks := s.toks + 1 }) : wpAny (model prog w) A (call (.builtin "chr") [.int (Builtin.bitAnd a 255) t]) Q E s := by
  rw [bitAnd_m8]
  exact P.chr_of_int (by have h1 := Int.emod_nonneg a (b := 256) (by decide); have h2 := Int.emod_lt_of_pos a (b := 256) (by decide); rw [decide_eq_false (by omega), decide_eq_false (by omega)]; rfl) h
end
theorem lines_V7_3 : True := by
  k_with "call builtin:chr" => (with_reducible refine chr_byte ?_)
  k_with "call builtin:str.join" => ((refine' join_made ?n9 ?m9 ?s9 ?e9 ?z9 ?_; (case n9 => assumption); (case m9 => exact List.Mem.head _); (case s9 => exact strs_rev (by assumption)); (case e9 => exact rev_all (by assumption)); (case z9 => assumption); intro t9 k9; (try k_sweep)))
  trivial
theorem string_text_c (q : Addr) (bits : List Nat) (t1 t2 t3 : Tok) (news : Led) (h4 : Four bits) (h2 : bits.length < 200) (hq : (q, bvec bits t1 t2 t3) ∈ news) :
   CalS prog w 119 [.ref q] 8 24 news (T (octL (ones bits))) := by
  unfold CalS Cal Ctr
  intro p loose mean mg mb dp un gd cn cs a ccd cl outer A₀ base h₀ L m s Q E B F X N T' hk hd hu hret
  refine wpAny_call ?_
  k_dflt cell_enter
  k_steps
  refine Hold.mk ?_
  have hM : ones bits < 2 ^ 200 := pow_le_200 (ones_lt bits) (by omega)
  rename Fr _ _ _ _ => lF'
  rename News _ _ _ _ => lN'
  replace lF' := fr_gen2 (a := Str.ofString "rest") (b := Str.ofString "row") (by with_unfolding_all rfl) (by with_unfolding_all rfl) lF'
  obtain ⟨mG, lF'⟩ := lF'
  rename ∀ p ∈ news, p.1 < _ => l1
  have hne : ∀ p ∈ news, p.1 ≠ _ := fun p hp => Nat.ne_of_lt (l1 p hp)
  refine' ksw_while (fun c : Int × Tok × List Value × List Str × Nat => (_, listOf c.2.2.1.toArray c.2.2.2.2) :: news) (fun c => [(Str.ofString "rest", .int c.1 c.2.1)]) (fun c => StrsAre c.2.2.1 c.2.2.2.1) [] (fun c => StInv (ones bits) c.1 c.2.2.2.1) (fun c => c.1.toNat) (_, _, [], [], 0) lF' lN' StrsAre.nil ?hk9 (StInv.zero bits h4) ?turn
  case hk9 => exact List.forall_mem_cons.mpr ⟨by with_unfolding_all rfl, List.forall_mem_nil _⟩
  clear lN'
  intro c u h tk hS hP F1 N1
  obtain ⟨rest, tl, vs, xs, n1⟩ := c
  dsimp only at *
  have hMk := kstMark
  have hx := hP.small hM
  have hvs : vs.length ≤ 25 := by have := StrsAre.length hS; omega
  try k_fold
  clear lF'
  k_steps
  · refine Hold.mk ?_
    rename News _ _ _ ((_, listOf (Array.push _ _) _) :: _) => N9
    rename 0 < rest => hi
    rw [List.push_toArray] at N9
    refine ksw_end (_, _, _, _, _) (by assumption) N9 (fun p hp => hp) (StrsAre.append' hS (.cons _ _ .nil)) (List.forall_mem_cons.mpr ⟨by with_unfolding_all rfl, List.forall_mem_nil _⟩) ?_ (StInv.next hP hi) (st_less hi)
    intro z h2 h3
    have a2 : z ≠ Str.ofString "rest" := h2 _ (.head _)
    simp [kstB, a2]
  · rename ¬ 0 < rest => hi
    obtain ⟨ls, ex, ef⟩ := hP.all hi
    have hz : ls.reverse.flatten.length ≤ 16777216 := by rw [ef]; exact Nat.le_trans (octL_len 25 _ (Nat.lt_of_lt_of_le hM (by decide +kernel))) (by decide)
    k_steps
    exact hret _ _ _ _ ⟨rfl, _, by rw [ef]⟩ (by assumption) (cb_drop (by assumption) fun p hp => .tail _ hp)
end Mine
end

noncomputable section
open PySem PySem.W PySem.Calls PyProof.Rows
namespace Mine
set_option maxRecDepth 100000
set_option maxHeartbeats 8000000
theorem lines_V8_1 : True := by
  w_top off
  k_with_none
  trivial
variable {prog : Program} {w : World}
section
variable {A : Around} {E : Value → Shared → Prop} {s : Shared} {Q : Value → Shared → Prop} {t u v : Tok} {value slice : PySem.Expr} {h₀ : Heap} {L : Addr} {m : Str → Option Value} {news : Led}
theorem item_TW {l : List Nat} {i : Int} (h0 : 0 ≤ i) (h1 : i < l.length) (hl : l.length ≤ 16777216) (h : Q (.str (T [l.getD i.toNat 0]) s.toks) { s with toks := s.toks + 1 })
    (hs : subscripted slice false (.str (T l) t) (.int i u) = operate [.str (T l) t, .int i u] (getItem (.str (T l) t) (.int i u)) := by with_unfolding_all rfl)
    (ht : ∀ r, letTemporaryGo value (.str (T l) t) r = pure () := by intro _; with_unfolding_all rfl) :
    wpAny (model prog w) A (subscriptTail value slice (.str (T l) t) (.int i u)) Q E s := by
  refine KXi.item (n := l.length) (T_len l) (by omega) (by omega) hl (fun _ => ?_) hs ht
  rw [item_T h0 h1]
  exact h
theorem slice_TW {l : List Nat} {i : Int} {ui : Tok} (hF : Fr h₀ L s.heap m) (hN : News h₀ L s.heap news) (h0 : 0 ≤ i) (h1 : i ≤ l.length) (hl : l.length ≤ 16777216) (h : ∀ h' t' k, Fr h₀ L h' m → News h₀ L h' news → Q (.str (T (l.drop i.toNat)) t') { s with heap := h', toks := k })
    (hs : subscripted slice false (.str (T l) t) (.ref s.heap.objs.size) = operate [.ref s.heap.objs.size, .str (T l) t] (getItem (.str (T l) t) (.ref s.heap.objs.size)) := by with_unfolding_all rfl)
    (ht : ∀ r, letTemporaryGo value (.str (T l) t) r = pure () := by intro _; with_unfolding_all rfl) :
    wpAny (model prog w) A (subscriptTail value slice (.str (T l) t) (.ref s.heap.objs.size)) Q E { s with heap := s.heap.push { cls := .type "slice", data := .fields #[.int i ui, .none, .none] } } := by
  refine slice_strN_sn hF hN (fun h' t' k F' N' => ?_) hs ht (by rw [T_len, sizeLine_eq]; omega)
  rw [slice_T h0 h1]
  exact h h' t' k F' N'
end
theorem lines_V8_2 : True := by
  k_with "exec While BoolOp" => (refine Hold.out ?_)
  k_with "KswEnd" => (refine Hold.out ?_)
  k_with "call builtin:len" => (with_reducible refine len_T (by assumption) ?_)
  k_with "subscriptTail Name Name str int" => (with_reducible refine item_TW (by assumption) (by omega) (by assumption) ?_)
  trivial
theorem T_beq (a b : List Nat) : (T a == T b) = decide (a = b) := by
  by_cases h : a = b
  · subst h; simp
  · rw [decide_eq_false h]
    exact beq_eq_false_iff_ne.mpr fun e => h (T_inj e)
theorem lit_0 : Str.ofString "0" = T [48] := by decide +kernel
theorem is_zero {c : Nat} (h : (T [c] == Str.ofString "0") = true) : c = 48 := by
  rw [lit_0, T_beq] at h
  simpa using h
theorem is_not_zero {c : Nat} (h : (T [c] == Str.ofString "0") = false) : c ≠ 48 := by
  rw [lit_0, T_beq] at h
  simpa using h
theorem without_zeros_c (l : List Nat) (t : Tok) (news : Led) (hl : l ≠ []) (h16 : l.length ≤ 16777216) :
   CalS prog w 133 [.str (T l) t] 6 16 news (T (shortL l)) := by
  unfold CalS Cal Ctr
  intro p loose mean mg mb dp un gd cn cs a ccd cl outer A₀ base h₀ L m s Q E B F X N T' hk hd hu hret
  refine wpAny_call ?_
  k_dflt cell_enter
  k_steps
  refine Hold.mk ?_
  rename Fr _ _ _ _ => lF'
  rename News _ _ _ _ => lN'
  refine' ksw_while (fun c : Int × Tok => news) (fun c => [(Str.ofString "start", .int c.1 c.2)]) (fun c => True) [] (fun c => WzInv l c.1) (fun c => l.length - c.1.toNat) (0, _) lF' lN' trivial ?hk9 (WzInv.zero hl) ?turn
  case hk9 => exact List.forall_mem_cons.mpr ⟨by with_unfolding_all rfl, List.forall_mem_nil _⟩
  clear lN'
  intro c u h tk hS hP F1 N1
  obtain ⟨st, tl⟩ := c
  dsimp only at *
  have hMk := kstMark
  obtain ⟨h0, h1⟩ := hP.range
  try k_fold
  clear lF'
  k_steps
  · refine Hold.mk ?_
    rename st < (l.length : Int) - 1 => ha
    rename (_ == _) = true => hi
    refine ksw_end (_, _) (by assumption) (by assumption) (fun p hp => hp) trivial (List.forall_mem_cons.mpr ⟨by with_unfolding_all rfl, List.forall_mem_nil _⟩) ?_ (WzInv.next hP ha (is_zero hi)) (by dsimp only; omega)
    intro z h2 h3
    have a2 : z ≠ Str.ofString "start" := h2 _ (.head _)
    simp [kstB, a2]
  · rename (_ == _) = false => hi
    exact hret _ _ _ _ ⟨rfl, _, by rw [slice_T h0 (by omega), hP.all (.inr (is_not_zero hi))]⟩ (by assumption) (by assumption)
  · rename ¬ st < (l.length : Int) - 1 => hi
    exact hret _ _ _ _ ⟨rfl, _, by rw [slice_T h0 (by omega), hP.all (.inl hi)]⟩ (by assumption) (by assumption)
end Mine
end

noncomputable section
open PySem PySem.W PySem.Calls PyProof.Rows
namespace Mine
set_option maxRecDepth 100000
set_option maxHeartbeats 8000000
theorem lines_V9_1 : True := by
  w_top off
  k_with_none
  trivial
variable {prog : Program} {w : World}
theorem lines_V9_2 : True := by
  k_with "mem" => (assumption)
  trivial
theorem binary1_c (q : Addr) (bits : List Nat) (t1 t2 t3 : Tok) (news : Led) (h4 : Four bits) (h2 : bits.length < 200) (hq : (q, bvec bits t1 t2 t3) ∈ news) :
   CalS prog w 84 [.ref q] 10 32 news (T (digT 1 bits)) := by
  rw [digT_one bits h4]
  exact binary_c q bits t1 t2 t3 news h4 h2 hq
theorem decW_fit {wd : Nat} {sg : Bool} (h1 : 1 ≤ wd) (h : wd < 200) : decW wd sg ≤ 100 := by
  unfold decW
  split
  · have := decI_62 (pow_abs (k := wd - 1) (by omega))
    omega
  · have := decI_62 (a := (2 : Int) ^ wd - 1) (by have := pow_abs2 (k := (wd : Int)) (by omega); simpa using this)
    omega
section
variable {A : Around} {E : Value → Shared → Prop} {s : Shared} {Q : Value → Shared → Prop} {t u v : Tok}
theorem rjust_W {l : List Nat} {wd : Nat} (hw : wd ≤ 100) (h : ∀ t' k, Q (.str (T (padS wd l)) t') { s with toks := k }) : wpAny (model prog w) A (call (.builtin "str.rjust") [.str (T l) t, .int (wd : Int) u]) Q E s := by
  refine SC.rjust (padOk_of (by omega) (by omega)) fun t' k => ?_
  rw [rjust_S]
  exact h t' k
end
theorem lines_V9_3 : True := by
  k_with "call builtin:str.rjust" => ((with_reducible refine rjust_W (decW_fit (by assumption) (by assumption)) ?_; intro t9 k9))
  k_with "call ref" => ((k_here; k_dflt (refine' Cal.useS (binary1_c _ _ _ _ _ _ ?c1 ?c2 ?c5) ?k1 ?k2 ?k3 ?k4 ?k5 ?k6 ?k7 ?k8 ?_; (case k1 => k_asm); (case k2 => k_asm); (case k3 => k_asm); (case k4 => k_asm); (case c5 => k_mem); (case k5 => k_asm); (case k6 => first | exact rfl | assumption); (case k7 => ktr_room); (case k8 => ktr_units)); (case c1 => assumption); (case c2 => assumption); intro t9 h9 tk9 F9 N9; (try dsimp only); (try k_sweep)))
  k_with "call ref" => ((k_here; k_dflt (refine' Cal.useS (octal_c _ _ _ _ _ _ ?c1 ?c2 ?c5) ?k1 ?k2 ?k3 ?k4 ?k5 ?k6 ?k7 ?k8 ?_; (case k1 => k_asm); (case k2 => k_asm); (case k3 => k_asm); (case k4 => k_asm); (case c5 => k_mem); (case k5 => k_asm); (case k6 => first | exact rfl | assumption); (case k7 => ktr_room); (case k8 => ktr_units)); (case c1 => assumption); (case c2 => assumption); intro t9 h9 tk9 F9 N9; (try dsimp only); (try k_sweep)))
  k_with "call ref" => ((k_here; k_dflt (refine' Cal.useS (hex_c _ _ _ _ _ _ ?c1 ?c2 ?c5) ?k1 ?k2 ?k3 ?k4 ?k5 ?k6 ?k7 ?k8 ?_; (case k1 => k_asm); (case k2 => k_asm); (case k3 => k_asm); (case k4 => k_asm); (case c5 => k_mem); (case k5 => k_asm); (case k6 => first | exact rfl | assumption); (case k7 => ktr_room); (case k8 => ktr_units)); (case c1 => assumption); (case c2 => assumption); intro t9 h9 tk9 F9 N9; (try dsimp only); (try k_sweep)))
  k_with "call ref" => ((k_here; k_dflt (refine' Cal.useS (decimal_c _ _ _ _ _ _ _ ?c1 ?c2 ?c3 ?c5) ?k1 ?k2 ?k3 ?k4 ?k5 ?k6 ?k7 ?k8 ?_; (case k1 => k_asm); (case k2 => k_asm); (case k3 => k_asm); (case k4 => k_asm); (case c5 => k_mem); (case k5 => k_asm); (case k6 => first | exact rfl | assumption); (case k7 => ktr_room); (case k8 => ktr_units)); (case c1 => assumption); (case c2 => assumption); (case c3 => assumption); intro t9 h9 tk9 F9 N9; (try dsimp only); (try k_sweep)))
  k_with "call ref" => ((k_here; k_dflt (refine' Cal.useI (width_c _ _ _ _ ?c1 ?c2) ?k1 ?k2 ?k3 ?k4 ?k5 ?k6 ?k7 ?k8 ?_; (case k1 => k_asm); (case k2 => k_asm); (case k3 => k_asm); (case k4 => k_asm); (case k5 => k_asm); (case k6 => first | exact rfl | assumption); (case k7 => ktr_room); (case k8 => ktr_units)); (case c1 => assumption); (case c2 => assumption); intro t9 h9 tk9 F9 N9; (try dsimp only); (try k_sweep)))
  k_with "call ref" => ((k_here; k_dflt (refine' Cal.useS (without_zeros_c _ _ _ ?c1 ?c2) ?k1 ?k2 ?k3 ?k4 ?k5 ?k6 ?k7 ?k8 ?_; (case k1 => k_asm); (case k2 => k_asm); (case k3 => k_asm); (case k4 => k_asm); (case k5 => k_asm); (case k6 => first | exact rfl | assumption); (case k7 => ktr_room); (case k8 => ktr_units)); (case c1 => assumption); (case c2 => assumption); intro t9 h9 tk9 F9 N9; (try dsimp only); (try k_sweep)))
  trivial
theorem padded_d (q : Addr) (bits : List Nat) (t1 t2 t3 t4 : Tok) (sg mn : Bool) (news : Led) (h4 : Four bits) (h1 : 1 ≤ bits.length) (h2 : bits.length < 200) (hq : (q, bvec bits t1 t2 t3) ∈ news) :
   CalS prog w 140 [.str (Str.ofString "d") t4, .ref q, .bool sg, .bool mn] 12 40 news (T (if mn = true then decT bits sg else padS (decW bits.length sg) (decT bits sg))) := by
  unfold CalS Cal Ctr
  intro p loose mean mg mb dp un gd cn cs a ccd cl outer A₀ base h₀ L m s Q E B F X N T' hk hd hu hret
  refine wpAny_call ?_
  k_dflt cell_enter
  k_steps
  · rename mn = true => hm
    exact hret _ _ _ _ ⟨rfl, _, by rw [if_pos hm]⟩ (by assumption) (by assumption)
  · rename mn = false => hm
    exact hret _ _ _ _ ⟨rfl, _, by rw [if_neg (by rw [hm]; decide)]⟩ (by assumption) (by assumption)
theorem padded_b (q : Addr) (bits : List Nat) (t1 t2 t3 t4 : Tok) (sg mn : Bool) (news : Led) (h4 : Four bits) (h1 : 1 ≤ bits.length) (h2 : bits.length < 200) (hq : (q, bvec bits t1 t2 t3) ∈ news) :
   CalS prog w 140 [.str (Str.ofString "b") t4, .ref q, .bool sg, .bool mn] 12 40 news (T (if mn = true then shortL (digT 1 bits) else digT 1 bits)) := by
  have hz := digT_ne (bits := bits) (k := 1) (.inl rfl) h1
  have hs := digT_small (bits := bits) (k := 1) (.inl rfl) h2
  unfold CalS Cal Ctr
  intro p loose mean mg mb dp un gd cn cs a ccd cl outer A₀ base h₀ L m s Q E B F X N T' hk hd hu hret
  refine wpAny_call ?_
  k_dflt cell_enter
  k_steps
  · rename mn = true => hm
    exact hret _ _ _ _ ⟨rfl, _, by rw [if_pos hm]⟩ (by assumption) (by assumption)
  · rename mn = false => hm
    exact hret _ _ _ _ ⟨rfl, _, by rw [if_neg (by rw [hm]; decide)]⟩ (by assumption) (by assumption)
theorem padded_o (q : Addr) (bits : List Nat) (t1 t2 t3 t4 : Tok) (sg mn : Bool) (news : Led) (h4 : Four bits) (h1 : 1 ≤ bits.length) (h2 : bits.length < 200) (hq : (q, bvec bits t1 t2 t3) ∈ news) :
   CalS prog w 140 [.str (Str.ofString "o") t4, .ref q, .bool sg, .bool mn] 12 40 news (T (if mn = true then shortL (digT 3 bits) else digT 3 bits)) := by
  have hz := digT_ne (bits := bits) (k := 3) (.inr (.inl rfl)) h1
  have hs := digT_small (bits := bits) (k := 3) (.inr (.inl rfl)) h2
  unfold CalS Cal Ctr
  intro p loose mean mg mb dp un gd cn cs a ccd cl outer A₀ base h₀ L m s Q E B F X N T' hk hd hu hret
  refine wpAny_call ?_
  k_dflt cell_enter
  k_steps
  · rename mn = true => hm
    exact hret _ _ _ _ ⟨rfl, _, by rw [if_pos hm]⟩ (by assumption) (by assumption)
  · rename mn = false => hm
    exact hret _ _ _ _ ⟨rfl, _, by rw [if_neg (by rw [hm]; decide)]⟩ (by assumption) (by assumption)
theorem padded_h (q : Addr) (bits : List Nat) (t1 t2 t3 t4 : Tok) (sg mn : Bool) (news : Led) (h4 : Four bits) (h1 : 1 ≤ bits.length) (h2 : bits.length < 200) (hq : (q, bvec bits t1 t2 t3) ∈ news) :
   CalS prog w 140 [.str (Str.ofString "h") t4, .ref q, .bool sg, .bool mn] 12 40 news (T (if mn = true then shortL (digT 4 bits) else digT 4 bits)) := by
  have hz := digT_ne (bits := bits) (k := 4) (.inr (.inr rfl)) h1
  have hs := digT_small (bits := bits) (k := 4) (.inr (.inr rfl)) h2
  unfold CalS Cal Ctr
  intro p loose mean mg mb dp un gd cn cs a ccd cl outer A₀ base h₀ L m s Q E B F X N T' hk hd hu hret
  refine wpAny_call ?_
  k_dflt cell_enter
  k_steps
  · rename mn = true => hm
    exact hret _ _ _ _ ⟨rfl, _, by rw [if_pos hm]⟩ (by assumption) (by assumption)
  · rename mn = false => hm
    exact hret _ _ _ _ ⟨rfl, _, by rw [if_neg (by rw [hm]; decide)]⟩ (by assumption) (by assumption)
end Mine
end

noncomputable section
open PySem PySem.W PySem.Calls PyProof.Rows
namespace Mine
set_option maxRecDepth 100000
set_option maxHeartbeats 8000000
theorem lines_VA_1 : True := by
  w_top off
  k_with_none
  trivial
variable {prog : Program} {w : World}
section
variable {A : Around} {E : Value → Shared → Prop} {s : Shared} {Q : Value → Shared → Prop} {t u v : Tok}
theorem pop_in {us : List Value} {l : List Int} {n : Nat} {h₀ : Heap} {L D : Addr} {m : Str → Option Value} {news R : Led} (F : Fr h₀ L s.heap m) (N : News h₀ L s.heap news) (hm : (D, listOf us.toArray n) ∈ news) (hR : ∀ p ∈ R, p.1 ≠ D) (hsub : ∀ p ∈ R, p ∈ news) (hi : IntsAre us l) (hne : 0 < us.length) (hsz : us.length ≤ sizeLine)
    (h : ∀ h' t, Fr h₀ L h' m → News h₀ L h' ((D, listOf us.dropLast.toArray (n + 1)) :: R) → IntsAre us.dropLast l.dropLast → Q (.int (l.getLastD 0) t) { s with heap := h' }) : wpAny (model prog w) A (call (.builtin "list.pop") [.ref D]) Q E s :=
  kpa_pop F (cb_drop N (led_cons hsub hm)) (Upd.head hR) hi hne hsz h
end
theorem pos_of_ne {vs : List Value} {ns : List Int} (h : IntsAre vs ns) (hn : ¬ ns = []) : 0 < vs.length := by
  rw [h.length]
  exact List.length_pos_iff.mpr hn
theorem lines_VA_2 : True := by
  k_with "compareOp NotEq ref ref" => ((refine' ne_intsK ?k1 ?k2 ?k3 ?k4 ?k5 ?_; (case k1 => exact News.isList (by assumption) (List.Mem.tail _ (List.Mem.head _))); (case k3 => exact News.isList (by assumption) (List.Mem.head _)); (case k2 => assumption); (case k4 => exact IntsAre.nil); (case k5 => ktr_units)))
  k_with "call builtin:list.pop" => (((refine' pop_in ?k1 ?k2 ?k3 ?k4 ?k5 ?k6 ?k7 ?k8 ?_; (case k1 => assumption); (case k2 => assumption); (case k3 => exact List.Mem.tail _ (List.Mem.head _)); (case k6 => assumption); (case k4 => assumption); (case k5 => exact fun p hp => .tail _ (.tail _ hp)); (case k7 => exact pos_of_ne (by assumption) (of_decide_eq_false (by assumption))); (case k8 => assumption)); intro h9 t9 F9 N9 i9; (try k_sweep)))
  trivial
/-- the codes of a row are below 1024 -/
def Low10 (ns : List Int) : Prop := ∀ n ∈ ns, 0 ≤ n ∧ n < 1024
theorem low10_last {ns : List Int} (h : Low10 ns) : 0 ≤ ns.getLastD 0 ∧ ns.getLastD 0 < 1024 := by
  cases ns with
  | nil => decide
  | cons a r =>
    have e : (a :: r).getLastD 0 = (a :: r).getLast (by simp) := by simp [List.getLastD]
    rw [e]
    exact h _ (List.getLast_mem _)
theorem law_next_c (r : Addr) (vs : List Value) (ns : List Int) (n : Nat) (news : Led) (hi : IntsAre vs ns) (hb : Low10 ns) (hl : ns.length ≤ 1000) (hne : ∀ p ∈ news, p.1 ≠ r) :
   Ctr prog w 154 [.ref r] 6 200 ((r, listOf vs.toArray n) :: news) (fun v news' => ∃ (vs' : List Value) (ns' : List Int) (n' : Nat) (k : Int) (t : Tok), v = .int k t ∧ news' = (r, listOf vs'.toArray n') :: news ∧ IntsAre vs' ns' ∧ Low10 ns' ∧ ns'.length ≤ ns.length ∧ 0 ≤ k ∧ k < 1024) := by
  have hsz : vs.length ≤ sizeLine := by rw [hi.length, sizeLine_eq]; omega
  unfold Ctr
  intro p loose mean mg mb dp un gd cn cs a ccd cl outer A₀ base h₀ L m s Q E B F X N T' hk hd hu hret
  refine wpAny_call ?_
  k_dflt cell_enter
  k_steps
  · exact hret _ _ _ _ ⟨vs, ns, n, 0, _, rfl, rfl, hi, hb, Nat.le_refl _, by decide, by decide⟩ (by assumption) (cb_drop (by assumption) fun p hp => .tail _ hp)
  · have hp := low10_last hb
    exact hret _ _ _ _ ⟨vs.dropLast, ns.dropLast, n + 1, _, _, rfl, rfl, by assumption, fun x hx => hb x (List.dropLast_subset _ hx), by rw [List.length_dropLast]; omega, hp.1, hp.2⟩ (by assumption) (by assumption)
end Mine
end

noncomputable section
open PySem PySem.W PySem.Calls PyProof.Rows
namespace Mine
set_option maxRecDepth 100000
set_option maxHeartbeats 8000000
theorem lines_VB_1 : True := by
  w_top off
  k_with_none
  trivial
variable {prog : Program} {w : World}
/-- a call that reads a list of the caller's caller -/
def CtrL (prog : Program) (w : World) (f : Addr) (l : Addr) (vs : List Value) (dk uk : Nat) (news : Led) (Post : Value → Led → Prop) : Prop :=
  ∀ (p : Program) (loose : List Str) (mean : ExcName → Option Value) (mg mb : Str → Option Value)
    (dp un : Nat) (gd : Option (List Code)) (cn : Str) (cs : Scope) (a : Addr) (ccd : Value) (cl : List (Str × Addr)) (outer : List Env) (A₀ : Around) (base h₀ : Heap) (L : Addr) (m : Str → Option Value) (s : Shared)
    (Q E : Value → Shared → Prop),
    Below A₀ base outer h₀ → Fr h₀ L s.heap m → (hd.heap_39 w.params).In h₀ → News h₀ L s.heap news → Top p loose mean mg mb h₀ → cs.kind = .function → base.IsList l vs.toArray → dp + dk < recursionLimit → un + uk < cLine →
    (∀ v news' h' tk', Post v news' → Fr h₀ L h' m → News h₀ L h' news' → Q v { s with heap := h', toks := tk' }) →
    wpAny (model prog w) (ktrTop dp un gd cn cs L a ccd cl outer) (call (.ref f) [.ref l]) Q E s
theorem lines_VB_2 : True := by
  k_with "pyIter ref" => (refine Hold.out ?_)
  k_with "InvEndN" => (refine Hold.out ?_)
  k_with "exec For Name Subscript cons nil" => ((k_here; (rename Fr _ _ _ _ => lF'); (with_unfolding_all refine' For_invVF lF' ?k1 ?k2 ?_; (case k1 => exact rfl); (case k2 => exact rfl); k_whole)))
  trivial
theorem split_led {h₀ h : Heap} {L D r : Addr} {o1 o2 o3 : Obj} {news own : Led} (N : News h₀ L h (((D, o1) :: (r, o2) :: news) ++ own)) (l1 : ∀ p ∈ news, p.1 < r) (l2 : r < D ∧ AllLt D news) (hoff : OwnOff own (((D, o1) :: (r, o3) :: news).map (·.1))) :
    ∃ R : Led, News h₀ L h ((r, o2) :: R) ∧ (∀ p ∈ R, p.1 ≠ r) ∧ (D, o1) ∈ R ∧ (∀ p ∈ news, p ∈ R) ∧ ∀ p ∈ own, p ∈ R := by
  refine ⟨(D, o1) :: (news ++ own), cb_drop N ?_, ?_, .head _, fun p hp => .tail _ (List.mem_append_left _ hp), fun p hp => .tail _ (List.mem_append_right _ hp)⟩
  · intro p hp
    rcases List.mem_cons.mp hp with rfl | hp
    · exact .tail _ (.head _)
    · rcases List.mem_cons.mp hp with rfl | hp
      · exact .head _
      · exact .tail _ (.tail _ hp)
  · intro p hp
    rcases List.mem_cons.mp hp with rfl | hp
    · exact Nat.ne_of_gt l2.1
    · rcases List.mem_append.mp hp with hp | hp
      · exact Nat.ne_of_lt (l1 p hp)
      · exact hoff p hp _ (.tail _ (.head _))
theorem app_ne2 {r : Addr} {o : Obj} {R own : Led} (hR : ∀ p ∈ R, p.1 ≠ r) (hoff : OwnOff own (((r, o) :: R).map (·.1))) : ∀ p ∈ R ++ own, p.1 ≠ r := fun p hp =>
  (List.mem_append.mp hp).elim (hR p) fun h => hoff p h _ (.head _)
theorem append_in' {A : Around} {E : Value → Shared → Prop} {s : Shared} {Q : Value → Shared → Prop} {its : Array Value} {n : Nat} {x : Value} {h₀ : Heap} {L D : Addr} {m : Str → Option Value} {news R : Led} (F : Fr h₀ L s.heap m) (N : News h₀ L s.heap news) (hm : (D, listOf its n) ∈ news) (hR : ∀ p ∈ R, p.1 ≠ D) (hsub : ∀ p ∈ R, p ∈ news) (hsz : its.size ≤ sizeLine)
    (h : ∀ h', Fr h₀ L h' m → News h₀ L h' ((D, listOf (its.push x) (n + 1)) :: R) → Q .none { s with heap := h' }) : wpAny (model prog w) A (call (.builtin "list.append") [.ref D, x]) Q E s :=
  append_K F (cb_drop N (led_cons hsub hm)) (Upd.head hR) h hsz
theorem fmod10 (n : Int) : 0 ≤ n.fmod 1024 ∧ n.fmod 1024 < 1024 := by
  rw [Int.fmod_eq_emod_of_nonneg _ (by decide)]
  exact ⟨Int.emod_nonneg _ (by decide), Int.emod_lt_of_pos _ (by decide)⟩
theorem Low10.push {ms : List Int} (h : Low10 ms) (n : Int) : Low10 (ms ++ [n.fmod 1024]) := fun x hx => by
  rcases List.mem_append.mp hx with hx | hx
  · exact h x hx
  · rw [List.mem_singleton.mp hx]; exact fmod10 n
theorem lines_VB_3 : True := by
  k_with "call builtin:list.append" => (((refine' append_in' ?k1 ?k2 ?k3 ?k4 ?k5 ?k6 ?_; (case k1 => assumption); (case k2 => assumption); (case k3 => exact List.Mem.head _); (case k6 => (simp only [List.size_toArray, Array.size_push, List.length_append, List.length_cons, List.length_nil, sizeLine_eq]; omega)); (case k4 => assumption); (case k5 => exact fun p hp => .tail _ hp)); intro h9 F9 N9; (try k_sweep)))
  trivial
theorem join_num {M : Model} {A : Around} {t : Sem Flow} {Q : Flow → Shared → Prop} {E : Value → Shared → Prop} {s : Shared} {base : Heap} {L : Addr} {m : Str → Option Value} {news : Led} (F : Fr base L s.heap m) (N : News base L s.heap news)
    (h1 : ∀ Q' : Flow → Shared → Prop, (∀ h' tk' k u, Fr base L h' (fun y => if y = Str.ofString "number" then some (.int k u) else m y) → News base L h' news → Q' Flow.next { s with heap := h', toks := tk' }) → wpAny M A t Q' E s)
    (h2 : ∀ h' tk' k u, Fr base L h' (fun y => if y = Str.ofString "number" then some (.int k u) else m y) → News base L h' news → Q Flow.next { s with heap := h', toks := tk' }) :
    wpAny M A t Q E s := h1 Q h2
theorem lines_VB_4 : True := by
  k_with "exec Assign" => (((rename Hold (4 = 4) => hMkA); refine Hold.out ?_))
  trivial
theorem law_row_c (l : Addr) (vs : List Value) (ns : List Int) (news : Led) (hi : IntsAre vs ns) (hl : ns.length ≤ 63) :
   CtrL prog w 147 l vs 6 200 news (fun v news' => ∃ (r : Addr) (vs' : List Value) (ns' : List Int) (n' : Nat), v = .ref r ∧ news' = (r, listOf vs'.toArray n') :: news ∧ IntsAre vs' ns' ∧ Low10 ns' ∧ ns'.length ≤ 160 ∧ ∀ p ∈ news, p.1 < r) := by
  unfold CtrL
  intro p loose mean mg mb dp un gd cn cs a ccd cl outer A₀ base h₀ L m s Q E B F X N T' hk hbl hd hu hret
  refine wpAny_call ?_
  k_dflt cell_enter
  k_steps
  refine Hold.mk ?_
  rename Fr _ _ _ _ => lF'
  rename News _ _ _ _ => lN'
  replace lF' := fr_gen1 (a := Str.ofString "row") (by with_unfolding_all rfl) lF'
  obtain ⟨mG, lF'⟩ := lF'
  rename ∀ p ∈ news, p.1 < _ => l1
  rename _ ∧ AllLt _ news => l2
  rename IntsAre _ (ns.take 40) => hi9
  refine' kst_listL (fun c : List Value × List Int × Nat => (_, listOf _ 0) :: (_, listOf c.1.toArray c.2.2) :: news) (fun c => []) (fun c => IntsAre c.1 c.2.1) [Str.ofString "number", Str.ofString "turn"] (fun pre c => Low10 c.2.1 ∧ c.2.1.length ≤ 31 * pre.length) ([], [], 0) rfl (fun c => .head _) hi9 lF' lN' IntsAre.nil (List.forall_mem_nil _) ⟨fun _ h => (nomatch h), Nat.le_refl _⟩ ?turn ?done
  clear lN'
  case turn =>
    intro c pre post n t u h tk own hpre hmem hoff hS hP F1 N1
    obtain ⟨us, ms, n1⟩ := c
    obtain ⟨R, N2, hR, hD, hn, ho⟩ := split_led N1 l1 l2 hoff
    clear N1
    dsimp only at *
    have hMk := kstMark
    try k_fold
    clear lF'
    have hpl : pre.length + 1 ≤ 40 := by have h1 := congrArg List.length hpre; rw [List.length_append, List.length_cons, List.length_take] at h1; omega
    have hvs : us.length ≤ 31 * pre.length := by rw [hS.length]; exact hP.2
    have hMkA : Hold (4 = 4) := ⟨rfl⟩
    k_steps
    refine Hold.mk ?_
    rename Fr _ _ _ _ => lFa
    rename News _ _ _ _ => lNa
    rename Hold (4 = 4) => hMkA
    clear hMkA
    refine join_num lFa lNa ?a1 ?a2
    case a1 =>
      intro Q' hQ
      k_steps
      all_goals exact hQ _ _ _ _ (by assumption) (by assumption)
    clear lFa lNa
    intro h5 tk5 k5 u5 F5 N5
    dsimp only
    k_steps
    all_goals
      refine Hold.mk ?_
      rename Fr _ _ _ _ => lF2
      rename News _ _ _ ((_, listOf (Array.push _ _) _) :: _) => lN2
      rename IsRange _ _ _ _ _ _ _ _ => rgX
      rw [List.push_toArray] at lN2
      refine' kst_range (n := 30) (fun c : Int × Tok × List Value × List Int × Nat => (_, listOf c.2.2.1.toArray c.2.2.2.2) :: R) (fun c => [(Str.ofString "number", .int c.1 c.2.1)]) (fun c => IntsAre c.2.2.1 c.2.2.2.1) [] (fun pre2 c => Low10 c.2.2.2.1 ∧ c.2.2.2.1.length ≤ 31 * pre.length + 1 + pre2.length) (_, _, _, ms ++ [_], _) rfl rgX (by decide) (by decide) lF2 lN2 (hS.append (.cons _ _ .nil)) ?kk ⟨hP.1.push _, ?len⟩ ?turn2 ?done2
      case kk => exact List.forall_mem_cons.mpr ⟨by with_unfolding_all rfl, List.forall_mem_nil _⟩
      case len => have := hP.2; simp; omega
      case turn2 =>
        intro c pre2 k2 t2 u2 h2 tk2 own2 ek2 hlt2 hoff2 hS2 hP2 F2 N2
        obtain ⟨num, tn, us2, ms2, n2⟩ := c
        dsimp only at *
        rw [List.cons_append] at N2
        have hne2 := app_ne2 hR hoff2
        have hvs2 : us2.length ≤ 31 * pre.length + 1 + pre2.length := by rw [hS2.length]; exact hP2.2
        try k_fold
        clear lF2 lN2
        k_steps
        · refine Hold.mk ?_
          rename News _ _ _ ((_, listOf (Array.push _ _) _) :: _) => N9
          rw [List.push_toArray] at N9
          refine kst_end (_, _, _, _, _) (by assumption) N9 (led_cons (fun p hp => .tail _ (List.mem_append_left _ hp)) (.head _)) (fun p hp => .tail _ (List.mem_append_right _ hp)) rfl (hS2.append (.cons _ _ .nil)) (List.forall_mem_cons.mpr ⟨by with_unfolding_all rfl, List.forall_mem_nil _⟩) ?_ ⟨hP2.1.push _, by have := hP2.2; simp; omega⟩
          intro z h1 h2 h3
          have a2 : z ≠ Str.ofString "number" := h2 _ (.head _)
          simp [kstB, h1, a2]
        · refine Hold.mk ?_
          refine kst_end (_, _, _, _, _) (by assumption) N2 (led_cons (fun p hp => .tail _ (List.mem_append_left _ hp)) (.head _)) (fun p hp => .tail _ (List.mem_append_right _ hp)) rfl hS2 (List.forall_mem_cons.mpr ⟨by with_unfolding_all rfl, List.forall_mem_nil _⟩) ?_ ⟨hP2.1, by have := hP2.2; simp; omega⟩
          intro z h1 h2 h3
          have a2 : z ≠ Str.ofString "number" := h2 _ (.head _)
          simp [kstB, h1, a2]
      case done2 =>
        intro c u2 h2 tk2 hS2 hP2 F2 N2
        obtain ⟨num, tn, us2, ms2, n2⟩ := c
        dsimp only at *
        try k_fold
        clear lF2 lN2
        k_steps
        refine Hold.mk ?_
        refine kst_end (_, _, _) (by assumption) N2 (led_cons (led_cons (fun p hp => .tail _ (hn p hp)) (.head _)) (.tail _ hD)) (fun p hp => .tail _ (ho p hp)) rfl hS2 (List.forall_mem_nil _) ?_ ⟨hP2.1, by have := hP2.2; rw [rangeKs_length] at this; simp; omega⟩
        intro z h1 h2 h3
        have a2 : z ≠ Str.ofString "number" := by intro e; subst e; simp at h3
        have a3 : z ≠ Str.ofString "turn" := by intro e; subst e; simp at h3
        simp [kstB, h1, a2, a3]
  case done =>
    intro c u h tk hS hP F1 N1
    obtain ⟨us, ms, n1⟩ := c
    dsimp only at *
    have hMk := kstMark
    try k_fold
    clear lF'
    k_steps
    rename IntsAre _ (ms.take 160) => hi3
    rename _ ∧ _ ∧ AllLt _ news => l3
    rename News _ _ _ _ => N3
    rename Fr _ _ _ _ => F3
    have hlt : ∀ p ∈ news, p.1 < _ := kst_ltOf l3.2.2
    refine reverse_head F3 (cb_drop N3 (led_cons (fun p hp => .tail _ (.tail _ (.tail _ hp))) (.head _))) (fun p hp => Nat.ne_of_lt (hlt p hp)) (fun h9 F9 N9 => ?_) (by have := hi3.length; rw [List.size_toArray, this, List.length_take, sizeLine_eq]; omega)
    k_steps
    refine' hret _ _ _ _ ⟨_, _, _, _, rfl, rfl, hi3.reverse, fun x hx => hP.1 x (List.mem_of_mem_take (List.mem_reverse.mp hx)), by rw [List.length_reverse, List.length_take]; omega, hlt⟩ (by assumption) (by assumption)
end Mine
end

noncomputable section
open PySem PySem.W PySem.Calls PyProof.Rows
namespace Mine
set_option maxRecDepth 100000
set_option maxHeartbeats 8000000
theorem lines_VC_1 : True := by
  w_top off
  k_with_none
  trivial
variable {prog : Program} {w : World}
theorem lines_VC_2 : True := by
  k_with "pyIter ref" => (refine Hold.out ?_)
  k_with "InvEndN" => (refine Hold.out ?_)
  trivial
def Quad (ns : List Int) : Prop := ∀ n ∈ ns, 0 ≤ n ∧ n < 4
theorem ne_cons {r b : Addr} {o : Obj} {R : Led} (hrb : r ≠ b) (h : ∀ p ∈ R, p.1 ≠ b) : ∀ p ∈ (r, o) :: R, p.1 ≠ b := fun p hp =>
  (List.mem_cons.mp hp).elim (fun e => e ▸ hrb) (h p)
theorem app_ne3 {r b : Addr} {o1 o2 : Obj} {R own : Led} (hR : ∀ p ∈ R, p.1 ≠ b) (hoff : OwnOff own (((r, o1) :: (b, o2) :: R).map (·.1))) : ∀ p ∈ R ++ own, p.1 ≠ b := fun p hp =>
  (List.mem_append.mp hp).elim (hR p) fun h => hoff p h _ (.tail _ (.head _))
theorem fmod4 (n : Int) : 0 ≤ n.fmod 4 ∧ n.fmod 4 < 4 := by
  rw [Int.fmod_eq_emod_of_nonneg _ (by decide)]
  exact ⟨Int.emod_nonneg _ (by decide), Int.emod_lt_of_pos _ (by decide)⟩
theorem Quad.push {ms : List Int} (h : Quad ms) (n : Int) : Quad (ms ++ [n.fmod 4]) := fun x hx => by
  rcases List.mem_append.mp hx with hx | hx
  · exact h x hx
  · rw [List.mem_singleton.mp hx]; exact fmod4 n
theorem split2 {h₀ h : Heap} {L b r : Addr} {o1 o2 o3 o4 : Obj} {news own : Led} (N : News h₀ L h (((b, o1) :: (r, o2) :: news) ++ own)) (hne : ∀ p ∈ news, p.1 ≠ r) (l1 : r < b ∧ AllLt b news) (hoff : OwnOff own (((b, o3) :: (r, o4) :: news).map (·.1))) :
    ∃ R : Led, News h₀ L h ((r, o2) :: (b, o1) :: R) ∧ (∀ p ∈ R, p.1 ≠ r) ∧ (∀ p ∈ R, p.1 ≠ b) ∧ r ≠ b ∧ (∀ p ∈ news, p ∈ R) ∧ ∀ p ∈ own, p ∈ R := by
  refine ⟨news ++ own, cb_drop N ?_, ?_, ?_, Nat.ne_of_lt l1.1, fun p hp => List.mem_append_left _ hp, fun p hp => List.mem_append_right _ hp⟩
  · intro p hp
    rcases List.mem_cons.mp hp with rfl | hp
    · exact .tail _ (.head _)
    · rcases List.mem_cons.mp hp with rfl | hp
      · exact .head _
      · exact .tail _ (.tail _ hp)
  · intro p hp
    rcases List.mem_append.mp hp with hp | hp
    · exact hne p hp
    · exact hoff p hp _ (.tail _ (.head _))
  · intro p hp
    rcases List.mem_append.mp hp with hp | hp
    · exact Nat.ne_of_lt (kst_ltOf l1.2 p hp)
    · exact hoff p hp _ (.head _)
theorem lines_VC_3 : True := by
  k_with "call ref" => ((k_here; k_dflt (refine' Ctr.use (law_next_c _ _ _ _ _ ?c1 ?c2 ?c3 ?c4) ?k1 ?k2 ?k3 ?k4 ?k5 ?k6 ?k7 ?k8 ?_; (case k1 => k_asm); (case k2 => k_asm); (case k3 => k_asm); (case k4 => k_asm); (case c1 => assumption); (case c2 => assumption); (case c3 => assumption); (case c4 => exact ne_cons (Ne.symm (by assumption)) (by assumption)); (case k5 => k_asm); (case k6 => first | exact rfl | assumption); (case k7 => ktr_room); (case k8 => ktr_units)); intro v9 n9 h9 tk9 P9 F9 N9; obtain ⟨vs9, ns9, m9, x9, t9, e1, e2, i9, b9, l9, x0, x1⟩ := P9; subst e1; subst e2; (try dsimp only); (try k_sweep)))
  trivial
theorem law_bits_c (r : Addr) (vs : List Value) (ns : List Int) (n : Nat) (wd : Int) (t0 : Tok) (news : Led) (hi : IntsAre vs ns) (hb : Low10 ns) (hl : ns.length ≤ 1000) (hne : ∀ p ∈ news, p.1 ≠ r) (hw0 : 1 ≤ wd) (hw1 : wd ≤ 140) :
   Ctr prog w 161 [.ref r, .int wd t0] 8 300 ((r, listOf vs.toArray n) :: news) (fun v news' => ∃ (b : Addr) (ws : List Value) (bs : List Int) (n1 : Nat) (vs' : List Value) (ns' : List Int) (n' : Nat), v = .ref b ∧ news' = (b, listOf ws.toArray n1) :: (r, listOf vs'.toArray n') :: news ∧ IntsAre ws bs ∧ Quad bs ∧ (bs.length : Int) = wd ∧ IntsAre vs' ns' ∧ Low10 ns' ∧ ns'.length ≤ 1000 ∧ r < b ∧ ∀ p ∈ news, p.1 < b) := by
  unfold Ctr
  intro p loose mean mg mb dp un gd cn cs a ccd cl outer A₀ base h₀ L m s Q E B F X N T' hk hd hu hret
  refine wpAny_call ?_
  k_dflt cell_enter
  k_steps
  refine Hold.mk ?_
  have e5 : (wd + 4).fdiv 5 = (wd + 4) / 5 := Int.fdiv_eq_ediv_of_nonneg _ (by decide)
  have hq : wd ≤ 5 * (wd + 4).fdiv 5 ∧ 5 * (wd + 4).fdiv 5 ≤ wd + 4 := by omega
  rename Fr _ _ _ _ => lF'
  rename News _ _ _ _ => lN'
  replace lF' := fr_gen3 (a := Str.ofString "row") (b := Str.ofString "bits") (c := Str.ofString "wide") (by with_unfolding_all rfl) (by with_unfolding_all rfl) (by with_unfolding_all rfl) lF'
  obtain ⟨mG, lF'⟩ := lF'
  rename IsRange _ _ _ _ _ _ _ _ => rgX
  rename _ ∧ AllLt _ news => l1
  refine' kst_range (fun c : (List Value × List Int × Nat) × (List Value × List Int × Nat) => (_, listOf c.1.1.toArray c.1.2.2) :: (r, listOf c.2.1.toArray c.2.2.2) :: news) (fun c => []) (fun c => IntsAre c.1.1 c.1.2.1 ∧ IntsAre c.2.1 c.2.2.1) [Str.ofString "number", Str.ofString "step"] (fun pre c => Quad c.1.2.1 ∧ c.1.2.1.length = 5 * pre.length ∧ Low10 c.2.2.1 ∧ c.2.2.1.length ≤ 1000) (([], [], 0), (vs, ns, n)) rfl rgX (small_one (by omega) (by omega) (by omega) (by omega)) (rangeSize_nat _ _) lF' lN' ⟨IntsAre.nil, hi⟩ (List.forall_mem_nil _) ⟨fun _ h => (nomatch h), rfl, hb, hl⟩ ?turn ?done
  clear lN'
  case turn =>
    intro c pre k t u h tk own ek hlt hoff hS hP F1 N1
    obtain ⟨⟨us, ms, n1⟩, ⟨vs2, ns2, n2⟩⟩ := c
    obtain ⟨R, N2, hRr, hRb, hrb, hn, ho⟩ := split2 N1 hne l1 hoff
    clear N1
    dsimp only at *
    have hMk := kstMark
    obtain ⟨hS1, hS2⟩ := hS
    obtain ⟨hP1, hP2, hP3, hP4⟩ := hP
    have hvs : us.length ≤ 5 * pre.length := by rw [hS1.length]; omega
    try k_fold
    clear lF'
    k_steps
    refine Hold.mk ?_
    rename Fr _ _ _ _ => lF2
    rename News _ _ _ _ => lN2
    rename IsRange _ _ _ _ _ _ _ _ => rgX2
    rename Low10 _ => hb9
    rename IntsAre _ _ => hi9
    rename _ ≤ ns2.length => hl9
    refine' kst_range (n := 5) (fun c : Int × Tok × List Value × List Int × Nat => (_, listOf _ _) :: (_, listOf c.2.2.1.toArray c.2.2.2.2) :: R) (fun c => [(Str.ofString "number", .int c.1 c.2.1)]) (fun c => IntsAre c.2.2.1 c.2.2.2.1) [] (fun pre2 c => Quad c.2.2.2.1 ∧ c.2.2.2.1.length = 5 * pre.length + pre2.length) (_, _, _, ms, _) rfl rgX2 (by decide) (by decide) lF2 lN2 hS1 ?kk ⟨hP1, hP2⟩ ?turn2 ?done2
    case kk => exact List.forall_mem_cons.mpr ⟨by with_unfolding_all rfl, List.forall_mem_nil _⟩
    case turn2 =>
      intro c pre2 k2 t2 u2 h2 tk2 own2 ek2 hlt2 hoff2 hS2' hP2' F2 N2
      obtain ⟨num, tn, us2, ms2, n3⟩ := c
      dsimp only at *
      rw [List.cons_append, List.cons_append] at N2
      have hne2 := app_ne3 hRb hoff2
      have hvs2 : us2.length ≤ 5 * pre.length + pre2.length := by rw [hS2'.length]; exact Nat.le_of_eq hP2'.2
      try k_fold
      clear lF2 lN2
      k_steps
      refine Hold.mk ?_
      rename News _ _ _ (_ :: (_, listOf (Array.push _ _) _) :: _) => N9
      rw [List.push_toArray] at N9
      refine kst_end (_, _, _, _, _) (by assumption) N9 (led_cons (led_cons (fun p hp => .tail _ (.tail _ (List.mem_append_left _ hp))) (.tail _ (.head _))) (.head _)) (fun p hp => .tail _ (.tail _ (List.mem_append_right _ hp))) rfl (hS2'.append (.cons _ _ .nil)) (List.forall_mem_cons.mpr ⟨by with_unfolding_all rfl, List.forall_mem_nil _⟩) ?_ ⟨hP2'.1.push _, by have := hP2'.2; simp; omega⟩
      intro z h1 h2 h3
      have a2 : z ≠ Str.ofString "number" := h2 _ (.head _)
      simp [kstB, h1, a2]
    case done2 =>
      intro c u2 h2 tk2 hS2' hP2' F2 N2
      obtain ⟨num, tn, us2, ms2, n3⟩ := c
      dsimp only at *
      try k_fold
      clear lF2 lN2
      k_steps
      refine Hold.mk ?_
      refine kst_end ((_, _, _), (_, _, _)) (by assumption) N2 (led_cons (led_cons (fun p hp => .tail _ (.tail _ (hn p hp))) (.head _)) (.tail _ (.head _))) (fun p hp => .tail _ (.tail _ (ho p hp))) rfl ⟨hS2', hi9⟩ (List.forall_mem_nil _) ?_ ⟨hP2'.1, by have := hP2'.2; rw [rangeKs_length] at this; simp; omega, hb9, Nat.le_trans hl9 hP4⟩
      intro z h1 h2 h3
      have a2 : z ≠ Str.ofString "number" := by intro e; subst e; simp at h3
      have a3 : z ≠ Str.ofString "step" := by intro e; subst e; simp at h3
      simp [kstB, h1, a2, a3]
  case done =>
    intro c u h tk hS hP F1 N1
    obtain ⟨⟨us, ms, n1⟩, ⟨vs2, ns2, n2⟩⟩ := c
    dsimp only at *
    have hMk := kstMark
    try k_fold
    clear lF'
    k_steps
    obtain ⟨hS1, hS2⟩ := hS
    obtain ⟨hP1, hP2, hP3, hP4⟩ := hP
    rw [rangeKs_length] at hP2
    have hwl : wd.toNat ≤ ms.length := by omega
    refine' kmk_slice_ints F1 N1 (News.isList N1 (.head _)) .none (.int _ _) hS1 (kmk_upto hS1 (by omega)) rfl ?_ (by with_unfolding_all rfl) (by intro _; with_unfolding_all rfl) (by rw [List.size_toArray, hS1.length, sizeLine_eq]; omega)
    intro D ws h9 F9 N9 l9 i9 _ _
    k_steps
    refine' hret _ _ _ _ ⟨_, _, _, _, _, _, _, rfl, rfl, i9, fun x hx => hP1 x (List.mem_of_mem_take hx), by rw [List.length_take]; omega, hS2, hP3, hP4, l9 _ (.tail _ (.head _)), fun p hp => l9 p (.tail _ (.tail _ hp))⟩ (by assumption) (cb_drop (by assumption) (led_cons (fun p hp => .tail _ (.tail _ hp)) (.head _)))
end Mine
end

noncomputable section
open PySem PySem.W PySem.Calls PyProof.Rows
namespace Mine
set_option maxRecDepth 100000
set_option maxHeartbeats 8000000
theorem lines_VD_1 : True := by
  w_top off
  k_with_none
  trivial
variable {prog : Program} {w : World}
theorem lines_VD_2 : True := by
  k_with "mem" => (assumption)
  k_with "mem" => (exact List.mem_append_left _ (by assumption))
  k_with "pyIter ref" => (refine Hold.out ?_)
  k_with "InvEndN" => (refine Hold.out ?_)
  trivial
section
variable {A : Around} {E : Value → Shared → Prop} {s : Shared} {Q : Value → Shared → Prop} {t u v : Tok} {h₀ : Heap} {L D : Addr} {news : Led} {vs : List Value} {ns : List Int} {n : Nat}
theorem len_in (N : News h₀ L s.heap news) (hm : (D, listOf vs.toArray n) ∈ news) (hi : IntsAre vs ns) (hl : ns.length ≤ 1000) (h : Q (.int (ns.length : Nat) (s.toks + 1)) { s with toks := s.toks + 1 + 1 }) : wpAny (model prog w) A (call (.builtin "len") [.ref D]) Q E s :=
  kst_len N hm hi.length (by omega) h
theorem item_in {bits : List Nat} {k : Int} {value slice : PySem.Expr} (N : News h₀ L s.heap news) (hm : (D, listOf vs.toArray n) ∈ news) (hi : IntsAre vs (castL bits)) (hl : bits.length ≤ 1000) (h0 : 0 ≤ k) (h1 : k < bits.length) (h : ∀ t, Q (.int (bits.getD k.toNat 0 : Nat) t) s)
    (hs : subscripted slice false (.ref D) (.int k u) = operate [.ref D, .int k u] (getItem (.ref D) (.int k u)) := by with_unfolding_all rfl) :
    wpAny (model prog w) A (subscriptTail value slice (.ref D) (.int k u)) Q E s := by
  have hx : (castL bits)[k.toNat]? = some ((bits.getD k.toNat 0 : Nat) : Int) := by
    rw [List.getElem?_map, List.getD_eq_getElem?_getD, List.getElem?_eq_getElem (by omega)]
    rfl
  obtain ⟨t, ht⟩ := hi.get _ _ hx
  have hL := News.isList N hm
  exact tail_any hL.typeIs slot_list_getitem.lookup (wpAny_getItem_list hL h0 (by omega) (by simpa using ht) (h t)) hs
theorem pow_W {k : Int} (h0 : 0 ≤ k) (h1 : k ≤ 1000) (h : Q (.int (2 ^ k.toNat) s.toks) { s with toks := s.toks + 1 }) : wpAny (model prog w) A (binaryOp .Pow (.int 2 t) (.int k u)) Q E s :=
  pow_int_small h0 (by omega) (by decide) h
theorem mul_W {a : Int} {k : Nat} (h0 : 0 ≤ a) (h4 : a < 4) (hk : k ≤ 1000) (h : Q (.int (a * 2 ^ k) s.toks) { s with toks := s.toks + 1 }) : wpAny (model prog w) A (binaryOp .Mult (.int a t) (.int (2 ^ k) u)) Q E s := by
  have e : ((2 : Int) ^ k) = ((2 ^ k : Nat) : Int) := by push_cast; rfl
  have h1 : Builtin.Int.intBits a ≤ 2 := intBits_le_iff.mpr (by omega)
  have h2 : Builtin.Int.intBits ((2 : Int) ^ k) ≤ k + 1 := intBits_le_iff.mpr (by rw [e, Int.natAbs_natCast]; exact Nat.pow_lt_pow_right (by decide) (by omega))
  exact PyProof.Rows.mul_int h (IntMulOk.of_le h1 h2 (by omega))
theorem fdiv2_ok {bits : List Nat} (h4 : Four bits) (i : Nat) : 0 ≤ ((bits.getD i 0 : Nat) : Int).fdiv 2 ∧ ((bits.getD i 0 : Nat) : Int).fdiv 2 < 4 := by
  have h := getD_four h4 i
  have e := fdiv_nat (bits.getD i 0) 2
  have e2 : ((2 : Nat) : Int) = 2 := rfl
  rw [e2] at e
  rw [e]
  omega
end
theorem low_snoc (bits : List Nat) : ∀ i : Nat, i < bits.length → low (bits.take (i + 1)) = low (bits.take i) + bits.getD i 0 % 2 * 2 ^ i := by
  induction bits with
  | nil => intro i h; simp at h
  | cons b r ih =>
    intro i h
    cases i with
    | zero => simp [low]
    | succ i =>
      have := ih i (by simpa using h)
      rw [List.take_succ_cons, List.take_succ_cons, low, low, this, List.getD_cons_succ, Nat.pow_succ]
      have e : ∀ c p : Nat, c * (p * 2) = 2 * (c * p) := fun c p => by rw [← Nat.mul_assoc, Nat.mul_comm]
      rw [e, Nat.mul_add]
      omega
theorem high_snoc (bits : List Nat) : ∀ i : Nat, i < bits.length → high (bits.take (i + 1)) = high (bits.take i) + bits.getD i 0 / 2 * 2 ^ i := by
  induction bits with
  | nil => intro i h; simp at h
  | cons b r ih =>
    intro i h
    cases i with
    | zero => simp [high]
    | succ i =>
      have := ih i (by simpa using h)
      rw [List.take_succ_cons, List.take_succ_cons, high, high, this, List.getD_cons_succ, Nat.pow_succ]
      have e : ∀ c p : Nat, c * (p * 2) = 2 * (c * p) := fun c p => by rw [← Nat.mul_assoc, Nat.mul_comm]
      rw [e, Nat.mul_add]
      omega
theorem made_turn {bits : List Nat} {pre : List Int} {k lo hi : Int} (ek : k = 0 + (pre.length : Int)) (hl : pre.length < bits.length) (h1 : lo = (low (bits.take pre.length) : Nat)) (h2 : hi = (high (bits.take pre.length) : Nat)) :
    lo + ((bits.getD k.toNat 0 : Nat) : Int).fmod 2 * 2 ^ k.toNat = (low (bits.take (pre ++ [k]).length) : Nat) ∧ hi + ((bits.getD k.toNat 0 : Nat) : Int).fdiv 2 * 2 ^ k.toNat = (high (bits.take (pre ++ [k]).length) : Nat) := by
  have e1 : (pre ++ [k]).length = pre.length + 1 := by simp
  have e2 : k.toNat = pre.length := by omega
  have e3 : ((2 : Nat) : Int) = 2 := rfl
  have e4 := fmod_nat (bits.getD pre.length 0) 2
  have e5 := fdiv_nat (bits.getD pre.length 0) 2
  rw [e3] at e4 e5
  rw [e1, e2, low_snoc bits _ hl, high_snoc bits _ hl, h1, h2, e4, e5]
  constructor <;> (push_cast; rfl)
theorem lines_VD_3 : True := by
  k_with "binaryOp Mult int int" => ((refine mul_W (fdiv2_ok (by assumption) _).1 (fdiv2_ok (by assumption) _).2 (by omega) ?_))
  k_with "subscriptTail Name Name ref int" => ((refine' item_in ?k1 ?k2 ?k3 ?k4 ?k5 ?k6 ?_; (case k1 => assumption); (case k2 => k_mem); (case k3 => assumption); (case k4 => omega); (case k5 => omega); (case k6 => omega); intro t9))
  k_with "call builtin:len" => ((refine' len_in ?k1 ?k2 ?k3 ?k4 ?_; (case k1 => assumption); (case k2 => k_mem); (case k3 => assumption); (case k4 => (simp only [List.length_map]; omega))))
  trivial
theorem law_made_c (b : Addr) (ws : List Value) (bits : List Nat) (n : Nat) (news : Led) (hm : (b, listOf ws.toArray n) ∈ news) (hi : IntsAre ws (castL bits)) (h4 : Four bits) (h2 : bits.length < 200) :
   Ctr prog w 168 [.ref b] 6 200 news (fun v news' => ∃ q u1 u2 u3, v = .ref q ∧ news' = (q, bvec bits u1 u2 u3) :: news ∧ ∀ p ∈ news, p.1 < q) := by
  unfold Ctr
  intro p loose mean mg mb dp un gd cn cs a ccd cl outer A₀ base h₀ L m s Q E B F X N T' hk hd hu hret
  refine wpAny_call ?_
  k_dflt cell_enter
  k_steps
  refine Hold.mk ?_
  rename Fr _ _ _ _ => lF'
  rename News _ _ _ _ => lN'
  replace lF' := fr_gen3 (a := Str.ofString "bits") (b := Str.ofString "low") (c := Str.ofString "high") (by with_unfolding_all rfl) (by with_unfolding_all rfl) (by with_unfolding_all rfl) lF'
  obtain ⟨mG, lF'⟩ := lF'
  rename IsRange _ _ _ _ _ _ _ _ => rgX
  have hlen : (castL bits).length = bits.length := List.length_map _
  refine' kst_range (fun c : (Int × Tok) × (Int × Tok) => news) (fun c => [(Str.ofString "low", .int c.1.1 c.1.2), (Str.ofString "high", .int c.2.1 c.2.2)]) (fun c => True) [] (fun pre c => c.1.1 = (low (bits.take pre.length) : Nat) ∧ c.2.1 = (high (bits.take pre.length) : Nat)) ((0, _), (0, _)) rfl rgX (small_one (by omega) (by omega) (by omega) (by omega)) (rangeSize_nat _ _) lF' lN' trivial ?kk ⟨rfl, rfl⟩ ?turn ?done
  case kk => exact List.forall_mem_cons.mpr ⟨by with_unfolding_all rfl, List.forall_mem_cons.mpr ⟨by with_unfolding_all rfl, List.forall_mem_nil _⟩⟩
  clear lN'
  case turn =>
    intro c pre k t u h tk own ek hlt hoff hS hP F1 N1
    obtain ⟨⟨lo, tl⟩, ⟨hi', th⟩⟩ := c
    dsimp only at *
    have hMk := kstMark
    have hk0 : 0 ≤ k := by omega
    have hk1 : k < bits.length := by omega
    try k_fold
    clear lF'
    k_steps
    refine Hold.mk ?_
    rename Fr _ _ _ _ => F9
    rename News _ _ _ _ => N9
    exact kst_end ((_, _), (_, _)) F9 N9 (fun p hp => List.mem_append_left _ hp) (fun p hp => List.mem_append_right _ hp) rfl trivial (List.forall_mem_cons.mpr ⟨by with_unfolding_all rfl, List.forall_mem_cons.mpr ⟨by with_unfolding_all rfl, List.forall_mem_nil _⟩⟩) (fun z h1 h2 h3 => by have a2 : z ≠ Str.ofString "low" := h2 _ (.head _); have a3 : z ≠ Str.ofString "high" := h2 _ (.tail _ (.head _)); simp [kstB, h1, a2, a3]) (made_turn ek (by omega) hP.1 hP.2)
  case done =>
    intro c u h tk hS hP F1 N1
    obtain ⟨⟨lo, tl⟩, ⟨hi', th⟩⟩ := c
    dsimp only at *
    have hMk := kstMark
    try k_fold
    clear lF'
    k_steps
    rw [hlen, rangeKs_length, Int.sub_zero, Int.toNat_natCast, List.take_length] at hP
    obtain ⟨e1, e2⟩ := hP
    subst e1 e2
    rw [hlen] at *
    exact hret _ _ _ _ ⟨_, _, _, _, rfl, rfl, by assumption⟩ (by assumption) (by assumption)
end Mine
end

noncomputable section
open PySem PySem.W PySem.Calls PyProof.Rows
namespace Mine
set_option maxRecDepth 100000
set_option maxHeartbeats 8000000
theorem lines_VE_1 : True := by
  w_top off
  k_with_none
  trivial
variable {prog : Program} {w : World}
theorem lines_VE_2 : True := by
  k_with "mem" => (assumption)
  k_with "mem" => (exact List.mem_append_left _ (by assumption))
  k_with "pyIter ref" => (refine Hold.out ?_)
  k_with "InvEndN" => (refine Hold.out ?_)
  k_with "call builtin:len" => ((k_dflt (refine' len_in ?k1 ?k2 ?k3 ?k4 ?_; (case k1 => assumption); (case k2 => k_mem); (case k3 => assumption); (case k4 => (simp only [List.length_map]; omega)))))
  trivial
section
variable {A : Around} {E : Value → Shared → Prop} {s : Shared} {Q : Value → Shared → Prop} {t u v : Tok} {h₀ : Heap} {L D : Addr} {m : Str → Option Value} {news : Led} {vs : List Value} {ns : List Int} {n : Nat}
theorem rep_ints (c : Int) (t : Tok) : ∀ k : Nat, IntsAre (List.replicate k [Value.int c t]).flatten (List.replicate k c)
  | 0 => .nil
  | k + 1 => by
    rw [List.replicate_succ, List.replicate_succ, List.flatten_cons]
    exact .cons c t (rep_ints c t k)
theorem rep_in {c : Int} {k : Nat} (F : Fr h₀ L s.heap m) (N : News h₀ L s.heap ((D, listOf [Value.int c t].toArray n) :: news)) (hk : k ≤ 250)
    (h : ∀ D' ws h', Fr h₀ L h' m → News h₀ L h' ((D', listOf (List.toArray ws) 0) :: news) → (∀ p ∈ news, p.1 < D') → IntsAre ws (List.replicate k c) → Q (.ref D') { s with heap := h' }) :
    wpAny (model prog w) A (binaryOp .Mult (.ref D) (.int (k : Int) u)) Q E s := by
  refine KMa.mul F N (News.isList N (.head _)) (by omega) (by omega) (by rw [Int.toNat_natCast]; simp; omega) rfl fun D' h' F' N' l' => ?_
  rw [Int.toNat_natCast] at N'
  exact h D' _ h' F' (cb_drop N' (led_cons (fun p hp => .tail _ (.tail _ hp)) (.head _))) (fun p hp => l' p (.tail _ hp)) (rep_ints c t k)
end
theorem cast_len (bits : List Nat) : (castL bits).length = bits.length := List.length_map _
theorem any_count (bits : List Nat) (c : Nat) : (castL bits).any (· == (c : Int)) = decide (0 < bits.count c) := by
  rw [Bool.eq_iff_iff, List.any_eq_true, decide_eq_true_eq, List.count_pos_iff]
  constructor
  · rintro ⟨x, hx, e⟩
    obtain ⟨b, hb, rfl⟩ := List.mem_map.mp hx
    have : b = c := by have := eq_of_beq e; omega
    exact this ▸ hb
  · intro h
    exact ⟨(c : Int), List.mem_map.mpr ⟨c, h, rfl⟩, by simp⟩
theorem all_count (bits : List Nat) (c : Nat) : castL bits = List.replicate (castL bits).length (c : Int) ↔ bits.count c = bits.length := by
  rw [List.eq_replicate_iff, List.count_eq_length]
  constructor
  · rintro ⟨_, h⟩ b hb
    have := h (b : Int) (List.mem_map.mpr ⟨b, hb, rfl⟩)
    omega
  · intro h
    refine ⟨rfl, fun x hx => ?_⟩
    obtain ⟨b, hb, rfl⟩ := List.mem_map.mp hx
    rw [h b hb]
theorem lines_VE_3 : True := by
  k_with "compareOp In int ref" => ((k_dflt (refine' in_list_ints (News.isList ?k1 ?k2) ?k3 ?_; (case k1 => assumption); (case k2 => k_mem); (case k3 => assumption))))
  k_with "binaryOp Mult ref int" => ((k_dflt (refine' rep_in ?k1 ?k2 ?k3 ?_; (case k1 => assumption); (case k2 => assumption); (case k3 => (rw [cast_len]; omega))); intro D9 w9 h9 F9 N9 l9 i9; (try k_sweep)))
  k_with "compareOp Eq ref ref" => ((k_dflt (refine' eq_intsK (News.isList ?k1 ?k2) ?k3 (News.isList ?k4 ?k5) ?k6 ?k7 ?_; (case k1 => assumption); (case k4 => assumption); (case k2 => exact List.Mem.tail _ (by assumption)); (case k5 => exact List.Mem.head _); (case k3 => assumption); (case k6 => assumption); (case k7 => ktr_units))))
  k_with "exec For Name Subscript cons nil" => ((k_here; (rename Fr _ _ _ _ => lF'); (with_unfolding_all refine' For_invVF lF' ?k1 ?k2 ?_; (case k1 => exact rfl); (case k2 => exact rfl); k_whole)))
  k_with "subscriptTail Name Slice ref ref" => (((with_reducible show wpAny _ _ (subscriptTail _ (PySem.Expr.Slice none none (some _) _) (Value.ref _) (Value.ref _)) _ _ _); k_dflt (refine' krv_ints ?F ?N (News.isList ?k1 ?k2) (IsPart.int _ _) ?i ?_ ?s ?t ?z; (case F => assumption); (case N => assumption); (case k1 => assumption); (case k2 => k_mem); (case i => assumption); (case s => with_unfolding_all rfl); (case t => (intro _; with_unfolding_all rfl)); (case z => (rw [List.size_toArray, IntsAre.length (by assumption), List.length_map, sizeLine_eq]; omega))); intro D9 w9 h9 F9 N9 l9 i9 c9; (try k_sweep)))
  trivial
theorem mul_two {A : Around} {E : Value → Shared → Prop} {s : Shared} {Q : Value → Shared → Prop} {t u : Tok} {a : Int} (ha : a.natAbs < 2 ^ 200) (h : Q (.int (2 * a) s.toks) { s with toks := s.toks + 1 }) : wpAny (model prog w) A (binaryOp .Mult (.int 2 t) (.int a u)) Q E s :=
  PyProof.Rows.mul_int h (IntMulOk.of_le (m := 2) (n := 200) (intBits_le_iff.mpr (by decide)) (intBits_le_iff.mpr ha) (by omega))
theorem lines_VE_4 : True := by
  k_with "binaryOp Mult int int" => (k_dflt (refine mul_two (by assumption) ?_))
  k_with "subscriptTail" => (k_dflt (refine item_hexW (by assumption) ?_))
  trivial
theorem dig_x {bits : List Nat} (h3 : (castL bits).any (· == 3) = true) (e : castL bits = List.replicate (castL bits).length 3) : Str.ofString "x" = T (digitL bits) := by
  have c3 := any_count bits 3
  have c4 := (all_count bits 3).mp e
  have h : 0 < bits.count 3 := by simpa using c3.symm.trans h3
  rw [digitL, if_neg (high_three (by decide) h), signC, if_pos h, if_pos c4, lit_x]
theorem dig_X {bits : List Nat} (h3 : (castL bits).any (· == 3) = true) (e : ¬ castL bits = List.replicate (castL bits).length 3) : Str.ofString "X" = T (digitL bits) := by
  have c3 := any_count bits 3
  have c4 := mt (all_count bits 3).mpr e
  have h : 0 < bits.count 3 := by simpa using c3.symm.trans h3
  rw [digitL, if_neg (high_three (by decide) h), signC, if_pos h, if_neg c4, lit_X]
theorem dig_z {bits : List Nat} (h3 : (castL bits).any (· == 3) = false) (h2 : (castL bits).any (· == 2) = true) (e : castL bits = List.replicate (castL bits).length 2) : Str.ofString "z" = T (digitL bits) := by
  have c3 := any_count bits 3
  have c2 := any_count bits 2
  have c4 := (all_count bits 2).mp e
  have n3 : ¬ 0 < bits.count 3 := of_decide_eq_false (c3.symm.trans h3)
  have h : 0 < bits.count 2 := of_decide_eq_true (c2.symm.trans h2)
  rw [digitL, if_neg (high_three (by decide) h), signC, if_neg n3, if_pos c4, lit_z]
theorem dig_Z {bits : List Nat} (h3 : (castL bits).any (· == 3) = false) (h2 : (castL bits).any (· == 2) = true) (e : ¬ castL bits = List.replicate (castL bits).length 2) : Str.ofString "Z" = T (digitL bits) := by
  have c3 := any_count bits 3
  have c2 := any_count bits 2
  have c4 := mt (all_count bits 2).mpr e
  have n3 : ¬ 0 < bits.count 3 := of_decide_eq_false (c3.symm.trans h3)
  have h : 0 < bits.count 2 := of_decide_eq_true (c2.symm.trans h2)
  rw [digitL, if_neg (high_three (by decide) h), signC, if_neg n3, if_neg c4, lit_Z]
theorem dig_none {bits : List Nat} (h4 : Four bits) (h3 : (castL bits).any (· == 3) = false) (h2 : (castL bits).any (· == 2) = false) : high bits = 0 := by
  have c3 := any_count bits 3
  have c2 := any_count bits 2
  exact high_none h4 (of_decide_eq_false (c3.symm.trans h3)) (of_decide_eq_false (c2.symm.trans h2))
theorem low_16 {bits : List Nat} (h : bits.length ≤ 4) : low bits < 16 := Nat.lt_of_lt_of_le (low_lt bits) (Nat.le_trans (Nat.pow_le_pow_right (n := 2) (by decide) h) (by decide))
theorem law_digit_c (b : Addr) (ws : List Value) (bits : List Nat) (n : Nat) (news : Led) (hm : (b, listOf ws.toArray n) ∈ news) (hi : IntsAre ws (castL bits)) (h4 : Four bits) (h2 : bits.length < 200) (h5 : bits.length ≤ 4 ∨ high bits ≠ 0) :
   CalS prog w 175 [.ref b] 6 200 news (T (digitL bits)) := by
  unfold CalS Cal Ctr
  intro p loose mean mg mb dp un gd cn cs a ccd cl outer A₀ base h₀ L m s Q E B F X N T' hk hd hu hret
  refine wpAny_call ?_
  k_dflt cell_enter
  k_steps
  · exact hret _ _ _ _ ⟨rfl, _, congrArg (fun x => Value.str x _) (dig_x (by assumption) (by assumption))⟩ (by assumption) (cb_drop (by assumption) fun p hp => .tail _ hp)
  · exact hret _ _ _ _ ⟨rfl, _, congrArg (fun x => Value.str x _) (dig_X (by assumption) (by assumption))⟩ (by assumption) (cb_drop (by assumption) fun p hp => .tail _ hp)
  · exact hret _ _ _ _ ⟨rfl, _, congrArg (fun x => Value.str x _) (dig_z (by assumption) (by assumption) (by assumption))⟩ (by assumption) (cb_drop (by assumption) fun p hp => .tail _ hp)
  · exact hret _ _ _ _ ⟨rfl, _, congrArg (fun x => Value.str x _) (dig_Z (by assumption) (by assumption) (by assumption))⟩ (by assumption) (cb_drop (by assumption) fun p hp => .tail _ hp)
  refine Hold.mk ?_
  have hz : high bits = 0 := dig_none h4 (by assumption) (by assumption)
  have h16 : low bits < 16 := low_16 (h5.resolve_right (fun e => e hz))
  have h01 := high_zero hz
  rename Fr _ _ _ _ => lF'
  rename News _ _ _ _ => lN'
  rename IntsAre _ (castL bits).reverse => hi9
  refine' kst_listL (fun c : Int × Tok => (_, listOf _ 0) :: news) (fun c => [(Str.ofString "figure", .int c.1 c.2)]) (fun c => True) [] (fun pre c => FgInv pre c.1) (0, _) rfl (fun c => .head _) hi9 lF' lN' trivial ?kk FgInv.zero ?turn ?done
  case kk => exact List.forall_mem_cons.mpr ⟨by with_unfolding_all rfl, List.forall_mem_nil _⟩
  clear lN'
  case turn =>
    intro c pre post n t u h tk own hpre hmem hoff hS hP F1 N1
    obtain ⟨fig, tf⟩ := c
    dsimp only at *
    have hMk := kstMark
    have hn : 0 ≤ n ∧ n < 2 := by
      obtain ⟨b9, hb9, rfl⟩ := List.mem_map.mp (List.mem_reverse.mp hmem)
      have := h01 b9 hb9
      omega
    have hpl : pre.length < 200 := by have h1 := congrArg List.length hpre; rw [List.length_append, List.length_reverse, cast_len] at h1; omega
    have hf := hP.small hpl
    try k_fold
    clear lF'
    k_steps
    refine Hold.mk ?_
    rename Fr _ _ _ _ => F9
    rename News _ _ _ _ => N9
    exact kst_end (_, _) F9 N9 (fun p hp => List.mem_append_left _ hp) (fun p hp => List.mem_append_right _ hp) rfl trivial (List.forall_mem_cons.mpr ⟨by with_unfolding_all rfl, List.forall_mem_nil _⟩) (fun z h1 h2 h3 => by have a2 : z ≠ Str.ofString "figure" := h2 _ (.head _); simp [kstB, h1, a2]) (hP.next hn.1 hn.2)
  case done =>
    intro c u h tk hS hP F1 N1
    obtain ⟨fig, tf⟩ := c
    dsimp only at *
    have hMk := kstMark
    have e : fig = (low bits : Int) := by rw [hP.1, numI_low h01]
    subst e
    try k_fold
    clear lF'
    k_steps
    exact hret _ _ _ _ ⟨rfl, _, by rw [digitL, if_pos hz]⟩ (by assumption) (cb_drop (by assumption) fun p hp => .tail _ hp)
end Mine
end

noncomputable section
open PySem PySem.W PySem.Calls PyProof.Rows
namespace Mine
set_option maxRecDepth 100000
set_option maxHeartbeats 8000000
theorem lines_VF_1 : True := by
  w_top off
  k_with_none
  trivial
variable {prog : Program} {w : World}
theorem lines_VF_2 : True := by
  k_with "mem" => (assumption)
  k_with "pyIter ref" => (refine Hold.out ?_)
  k_with "InvEndN" => (refine Hold.out ?_)
  k_with "exec While Compare cons nil" => (refine Hold.out ?_)
  k_with "KswEnd" => (refine Hold.out ?_)
  trivial
section
variable {A : Around} {E : Value → Shared → Prop} {s : Shared} {Q : Value → Shared → Prop} {t u v : Tok} {h₀ : Heap} {L D : Addr} {m : Str → Option Value} {news : Led} {vs : List Value} {n : Nat} {value : PySem.Expr}
theorem lstrip_0 {l : List Nat} (hl : l.length ≤ 16777216) (h : ∀ t' k, Q (.str (T (l.dropWhile (· == 48))) t') { s with toks := k }) : wpAny (model prog w) A (call (.builtin "str.lstrip") [.str (T l) t, .str (Str.ofString "0") u]) Q E s := by
  refine SCL.lstripChars (fun t' k _ => ?_) (by rw [T_len, sizeLine_eq]; omega)
  rw [lstrip_T l (Str.ofString "0") 48 (by decide +kernel)]
  exact h t' k
theorem lstrip_n {l : List Nat} (hl : l.length ≤ 16777216) (h : ∀ t' k, Q (.str (T (l.dropWhile (· == 0))) t') { s with toks := k }) : wpAny (model prog w) A (call (.builtin "str.lstrip") [.str (T l) t, .str (T [0]) u]) Q E s := by
  refine SCL.lstripChars (fun t' k _ => ?_) (by rw [T_len, sizeLine_eq]; omega)
  rw [lstrip_T l (T [0]) 0 rfl]
  exact h t' k
theorem add_T {a b : List Nat} (ha : a.length + b.length ≤ 16777216) (h : ∀ t' k, Q (.str (T (a ++ b)) t') { s with toks := k }) : wpAny (model prog w) A (binaryOp .Add (.str (T a) t) (.str (T b) u)) Q E s := by
  refine PyProof.Rows.add_str (fun t' k => ?_) (by rw [T_len, T_len, sizeLine_eq]; omega)
  rw [T_append]
  exact h t' k
theorem upto_in {bits : List Nat} {k : Nat} {pos : Pos} {e : PySem.Expr} (F : Fr h₀ L s.heap m) (N : News h₀ L s.heap news) (hm : (D, listOf vs.toArray n) ∈ news) (hi : IntsAre vs (castL bits)) (hl : bits.length ≤ 1000)
    (h : ∀ D' ws h', Fr h₀ L h' m → News h₀ L h' ((D', listOf (List.toArray ws) 0) :: news) → (∀ p ∈ news, p.1 < D') → IntsAre ws (castL (bits.take k)) → Q (.ref D') { s with heap := h' })
    (hs : subscripted (.Slice none (some e) none pos) false (.ref D) (.ref s.heap.objs.size) = operate [.ref s.heap.objs.size, .ref D] (getItem (.ref D) (.ref s.heap.objs.size))) (ht : ∀ r, letTemporaryGo value (.ref D) r = pure ()) :
    wpAny (model prog w) A (subscriptTail value (.Slice none (some e) none pos) (.ref D) (.ref s.heap.objs.size)) Q E { s with heap := s.heap.push { cls := .type "slice", data := .fields #[.none, .int (k : Int) u, .none] } } := by
  refine kmk_slice_ints F N (News.isList N hm) .none (.int _ _) hi (kmk_upto hi (by omega)) rfl (fun D' ws h' F' N' l' i' _ _ => h D' ws h' F' N' l' ?_) hs ht (by rw [List.size_toArray, hi.length, List.length_map, sizeLine_eq]; omega)
  rw [Int.toNat_natCast, ← List.map_take] at i'
  exact i'
theorem from_in {bits : List Nat} {k : Nat} {pos : Pos} {e : PySem.Expr} (F : Fr h₀ L s.heap m) (N : News h₀ L s.heap news) (hm : (D, listOf vs.toArray n) ∈ news) (hi : IntsAre vs (castL bits)) (hl : bits.length ≤ 1000)
    (h : ∀ D' ws h', Fr h₀ L h' m → News h₀ L h' ((D', listOf (List.toArray ws) 0) :: news) → (∀ p ∈ news, p.1 < D') → IntsAre ws (castL (bits.drop k)) → Q (.ref D') { s with heap := h' })
    (hs : subscripted (.Slice (some e) none none pos) false (.ref D) (.ref s.heap.objs.size) = operate [.ref s.heap.objs.size, .ref D] (getItem (.ref D) (.ref s.heap.objs.size))) (ht : ∀ r, letTemporaryGo value (.ref D) r = pure ()) :
    wpAny (model prog w) A (subscriptTail value (.Slice (some e) none none pos) (.ref D) (.ref s.heap.objs.size)) Q E { s with heap := s.heap.push { cls := .type "slice", data := .fields #[.int (k : Int) u, .none, .none] } } := by
  refine kmk_slice_ints F N (News.isList N hm) (.int _ _) .none hi (kmk_from hi (by omega)) rfl (fun D' ws h' F' N' l' i' _ _ => h D' ws h' F' N' l' ?_) hs ht (by rw [List.size_toArray, hi.length, List.length_map, sizeLine_eq]; omega)
  rw [Int.toNat_natCast, ← List.map_drop] at i'
  exact i'
end
theorem lines_VF_3 : True := by
  k_with "call builtin:str.lstrip" => ((k_dflt (refine lstrip_0 (by assumption) ?_); intro t9 k9))
  trivial
theorem ne_empty (l : List Nat) : (T l != Str.ofString "") = decide (l ≠ []) := by
  rw [← T_nil, bne, T_beq]
  by_cases h : l = [] <;> simp [h]
theorem law_short_c (l : List Nat) (t : Tok) (news : Led) (h16 : l.length ≤ 16777216) :
   CalS prog w 203 [.str (T l) t] 6 200 news (T (shortL l)) := by
  unfold CalS Cal Ctr
  intro p loose mean mg mb dp un gd cn cs a ccd cl outer A₀ base h₀ L m s Q E B F X N T' hk hd hu hret
  refine wpAny_call ?_
  k_dflt cell_enter
  k_steps
  · rename (_ != _) = true => hi
    rw [ne_empty] at hi
    exact hret _ _ _ _ ⟨rfl, _, by rw [shortL, if_neg (of_decide_eq_true hi)]⟩ (by assumption) (by assumption)
  · rename (_ != _) = false => hi
    rw [ne_empty] at hi
    exact hret _ _ _ _ ⟨rfl, _, by rw [shortL, if_pos (Decidable.not_not.mp (of_decide_eq_false hi)), lit_0]⟩ (by assumption) (by assumption)
theorem lines_VF_4 : True := by
  k_with "compareOp NotEq ref ref" => (k_dflt (refine' ne_intsK (News.isList ?k1 ?k2) ?k3 (News.isList ?k4 ?k5) ?k6 ?k7 ?_; (case k1 => assumption); (case k4 => assumption); (case k2 => exact List.Mem.tail _ (List.Mem.head _)); (case k5 => exact List.Mem.head _); (case k3 => assumption); (case k6 => exact IntsAre.nil); (case k7 => ktr_units)))
  k_with "subscriptTail Name Slice ref ref" => ((k_dflt (refine' upto_in ?F ?N ?k2 ?i ?l ?_ ?s ?t; (case F => assumption); (case N => assumption); (case k2 => first | exact List.Mem.tail _ (List.Mem.head _) | exact List.Mem.tail _ (List.Mem.tail _ (List.Mem.head _))); (case i => assumption); (case l => omega); (case s => with_unfolding_all rfl); (case t => (intro _; with_unfolding_all rfl))); intro D9 w9 h9 F9 N9 l9 i9; (try k_sweep)))
  k_with "subscriptTail Name Slice ref ref" => ((k_dflt (refine' from_in ?F ?N ?k2 ?i ?l ?_ ?s ?t; (case F => assumption); (case N => assumption); (case k2 => first | exact List.Mem.tail _ (List.Mem.head _) | exact List.Mem.tail _ (List.Mem.tail _ (List.Mem.head _))); (case i => assumption); (case l => omega); (case s => with_unfolding_all rfl); (case t => (intro _; with_unfolding_all rfl))); intro D9 w9 h9 F9 N9 l9 i9; (try k_sweep)))
  k_with "binaryOp Add str str" => ((k_dflt (refine add_T ?_ ?_; (rw [digitL_len]; omega)); intro t9 k9))
  k_with "call ref" => ((k_here; k_dflt (refine' Cal.useS (law_digit_c _ _ _ _ _ ?c1 ?c2 ?c3 ?c4 ?c5) ?k1 ?k2 ?k3 ?k4 ?k5 ?k6 ?k7 ?k8 ?_; (case k1 => k_asm); (case k2 => k_asm); (case k3 => k_asm); (case k4 => k_asm); (case c1 => exact List.Mem.head _); (case c2 => assumption); (case k5 => k_asm); (case k6 => first | exact rfl | assumption); (case k7 => ktr_room); (case k8 => ktr_units); (case c3 => exact Four.take (by assumption) _); (case c4 => exact Nat.lt_of_le_of_lt (List.length_take_le' _ _) (by omega)); (case c5 => exact Or.inl (Nat.le_trans (List.length_take_le _ _) (by omega)))); intro t9 h9 tk9 F9 N9; (try dsimp only); (try k_sweep)))
  trivial
theorem law_digits_c (b : Addr) (ws : List Value) (bits : List Nat) (n k : Nat) (t0 : Tok) (news : Led) (hk : k = 1 ∨ k = 3 ∨ k = 4) (hm : (b, listOf ws.toArray n) ∈ news) (hi : IntsAre ws (castL bits)) (h4 : Four bits) (h2 : bits.length < 200) :
   CalS prog w 182 [.ref b, .int (k : Int) t0] 10 400 news (T (digT k bits)) := by
  unfold CalS Cal Ctr
  intro p loose mean mg mb dp un gd cn cs a ccd cl outer A₀ base h₀ L m s Q E B F X N T' hkk hd hu hret
  refine wpAny_call ?_
  k_dflt cell_enter
  k_steps
  refine Hold.mk ?_
  have hk1 : 1 ≤ k ∧ k ≤ 4 := by omega
  rename Fr _ _ _ _ => lF'
  rename News _ _ _ _ => lN'
  replace lF' := fr_gen3 (a := Str.ofString "bits") (b := Str.ofString "many") (c := Str.ofString "text") (by with_unfolding_all rfl) (by with_unfolding_all rfl) (by with_unfolding_all rfl) lF'
  obtain ⟨mG, lF'⟩ := lF'
  refine' ksw_while (fun c : (Addr × List Value × List Nat × Nat) × (List Nat × Tok) => (c.1.1, listOf c.1.2.1.toArray c.1.2.2.2) :: news) (fun c => [(Str.ofString "bits", .ref c.1.1), (Str.ofString "text", .str (T c.2.1) c.2.2)]) (fun c => IntsAre c.1.2.1 (castL c.1.2.2.1)) [] (fun c => DgInv k digitL bits c.1.2.2.1 c.2.1) (fun c => c.1.2.2.1.length) ((b, ws, bits, n), ([], _)) lF' (cb_drop lN' (led_cons (fun p hp => hp) hm)) hi ?hk9 (DgInv.zero digitL bits hk1.1) ?turn
  case hk9 => exact List.forall_mem_cons.mpr ⟨by with_unfolding_all rfl, List.forall_mem_cons.mpr ⟨by with_unfolding_all rfl, List.forall_mem_nil _⟩⟩
  clear lN'
  intro c u h tk hS hP F1 N1
  obtain ⟨⟨b2, us, bs, n2⟩, ⟨l, tl⟩⟩ := c
  dsimp only at *
  have hMk := kstMark
  have hlen := hP.len hk1.1 digitL_len
  have h4' := hP.sub h4
  try k_fold
  clear lF'
  k_steps
  · rename decide _ = true => hb
    have hb0 : bs = [] := List.map_eq_nil_iff.mp (of_decide_eq_true hb)
    have e : l = digT k bits := hP.all (by omega) hb0
    exact hret _ _ _ _ ⟨rfl, _, by rw [e]⟩ (by assumption) (cb_drop (by assumption) fun p hp => .tail _ (.tail _ hp))
  · refine Hold.mk ?_
    rename decide _ = false => hb
    have hb0 : bs ≠ [] := fun e => of_decide_eq_false hb (by rw [e]; rfl)
    have hlt : (bs.drop k).length < bs.length := by have := List.length_pos_iff.mpr hb0; rw [List.length_drop]; omega
    refine ksw_end ((_, _, _, _), (_, _)) (by assumption) (by assumption) (led_cons (fun p hp => .tail _ (.tail _ (.tail _ (.tail _ hp)))) (.head _)) (by assumption) (List.forall_mem_cons.mpr ⟨by with_unfolding_all rfl, List.forall_mem_cons.mpr ⟨by with_unfolding_all rfl, List.forall_mem_nil _⟩⟩) ?_ (DgInv.next hP hb0) hlt
    intro z h2 h3
    have a2 : z ≠ Str.ofString "bits" := h2 _ (.head _)
    have a3 : z ≠ Str.ofString "text" := h2 _ (.tail _ (.head _))
    simp [kstB, a2, a3]
end Mine
end

noncomputable section
open PySem PySem.W PySem.Calls PyProof.Rows
namespace Mine
set_option maxRecDepth 100000
set_option maxHeartbeats 8000000
theorem lines_VG_1 : True := by
  w_top off
  k_with_none
  trivial
variable {prog : Program} {w : World}
theorem lines_VG_2 : True := by
  k_with "mem" => (assumption)
  trivial
theorem any_two {bits : List Nat} (h : (castL bits).any (· == 2) = true) : high bits ≠ 0 := high_three (c := 2) (by decide) (of_decide_eq_true ((any_count bits 2).symm.trans h))
theorem any_three {bits : List Nat} (h : (castL bits).any (· == 3) = true) : high bits ≠ 0 := high_three (c := 3) (by decide) (of_decide_eq_true ((any_count bits 3).symm.trans h))
theorem decT_unknown {bits : List Nat} {sg : Bool} (h : high bits ≠ 0) : digitL bits = decT bits sg := by rw [digitL, decT, if_neg h, if_neg h]
theorem decT_known {bits : List Nat} {sg : Bool} (h : high bits = 0) : decT bits sg = decI (numOf bits sg) := by rw [decT, if_pos h]
section
variable {A : Around} {E : Value → Shared → Prop} {s : Shared} {Q : Value → Shared → Prop} {t u v : Tok} {h₀ : Heap} {L D : Addr} {news : Led} {vs : List Value} {n : Nat} {value slice : PySem.Expr}
theorem item_last {bits : List Nat} (N : News h₀ L s.heap news) (hm : (D, listOf vs.toArray n) ∈ news) (hi : IntsAre vs (castL bits)) (h1 : 1 ≤ bits.length) (h : ∀ t, Q (.int (bits.getD (bits.length - 1) 0 : Nat) t) s)
    (hs : subscripted slice false (.ref D) (.int (-1) u) = operate [.ref D, .int (-1) u] (getItem (.ref D) (.int (-1) u)) := by with_unfolding_all rfl) :
    wpAny (model prog w) A (subscriptTail value slice (.ref D) (.int (-1) u)) Q E s := by
  have hx : (castL bits)[bits.length - 1]? = some ((bits.getD (bits.length - 1) 0 : Nat) : Int) := by
    rw [List.getElem?_map, List.getD_eq_getElem?_getD, List.getElem?_eq_getElem (by omega)]
    rfl
  obtain ⟨t, ht⟩ := hi.get _ _ hx
  have hL := News.isList N hm
  have hz : vs.toArray.size = bits.length := by rw [List.size_toArray, hi.length, List.length_map]
  have e : ((-1 : Int) + (vs.toArray.size : Int)).toNat = bits.length - 1 := by rw [hz]; omega
  exact tail_any hL.typeIs slot_list_getitem.lookup (wpAny_getItem_list_neg hL (by decide) (by rw [hz]; omega) (by decide) (by rw [e]; simpa using ht) (h t)) hs
end
theorem top_bit {bits : List Nat} (h4 : Four bits) (h1 : 1 ≤ bits.length) (hz : high bits = 0) : low bits / 2 ^ (bits.length - 1) = bits.getD (bits.length - 1) 0 := by
  have h2 := low_bit bits (bits.length - 1)
  have h3 := low_lt bits
  have e : 2 ^ bits.length = 2 * 2 ^ (bits.length - 1) := by rw [← Nat.pow_succ']; congr 1; omega
  have h5 : low bits / 2 ^ (bits.length - 1) < 2 := by
    rw [Nat.div_lt_iff_lt_mul (Nat.pow_pos (by decide)), ← e]
    exact h3
  have h6 : bits.getD (bits.length - 1) 0 < 2 := by
    rw [List.getD_eq_getElem?_getD, List.getElem?_eq_getElem (by omega)]
    exact high_zero hz _ (List.getElem_mem _)
  rw [Nat.mod_eq_of_lt h5, Nat.mod_eq_of_lt h6] at h2
  exact h2
theorem num_neg {bits : List Nat} {sg : Bool} (h4 : Four bits) (h1 : 1 ≤ bits.length) (hz : high bits = 0) (hs : sg = true) (hl : ((bits.getD (bits.length - 1) 0 : Nat) : Int) = 1) : (low bits : Int) - 2 ^ ((castL bits).length : Int).toNat = numOf bits sg := by
  have e := top_bit h4 h1 hz
  rw [numOf, if_pos ⟨hs, by omega⟩, Int.toNat_natCast, cast_len]
theorem num_pos {bits : List Nat} {sg : Bool} (h4 : Four bits) (h1 : 1 ≤ bits.length) (hz : high bits = 0) (h : sg = false ∨ ((bits.getD (bits.length - 1) 0 : Nat) : Int) ≠ 1) : (low bits : Int) = numOf bits sg := by
  have e := top_bit h4 h1 hz
  rw [numOf, if_neg]
  rintro ⟨a, b⟩
  rcases h with h | h
  · rw [h] at a; exact absurd a (by decide)
  · omega
theorem lines_VG_3 : True := by
  k_with "pyIter ref" => (refine Hold.out ?_)
  k_with "InvEndN" => (refine Hold.out ?_)
  k_with "exec For Name Subscript cons nil" => ((k_here; (rename Fr _ _ _ _ => lF'); (with_unfolding_all refine' For_invVF lF' ?k1 ?k2 ?_; (case k1 => exact rfl); (case k2 => exact rfl); k_whole)))
  k_with "call builtin:len" => ((k_dflt (refine' len_in ?k1 ?k2 ?k3 ?k4 ?_; (case k1 => assumption); (case k2 => first | assumption | exact List.Mem.tail _ (by assumption)); (case k3 => assumption); (case k4 => (simp only [List.length_map]; omega)))))
  k_with "compareOp In int ref" => ((k_dflt (refine' in_list_ints (News.isList ?k1 ?k2) ?k3 ?_; (case k1 => assumption); (case k2 => k_mem); (case k3 => assumption))))
  k_with "subscriptTail Name Slice ref ref" => (((with_reducible show wpAny _ _ (subscriptTail _ (PySem.Expr.Slice none none (some _) _) (Value.ref _) (Value.ref _)) _ _ _); k_dflt (refine' krv_ints ?F ?N (News.isList ?k1 ?k2) (IsPart.int _ _) ?i ?_ ?s ?t ?z; (case F => assumption); (case N => assumption); (case k1 => assumption); (case k2 => k_mem); (case i => assumption); (case s => with_unfolding_all rfl); (case t => (intro _; with_unfolding_all rfl)); (case z => (rw [List.size_toArray, IntsAre.length (by assumption), List.length_map, sizeLine_eq]; omega))); intro D9 w9 h9 F9 N9 l9 i9 c9; (try k_sweep)))
  k_with "binaryOp Mult int int" => (k_dflt (refine mul_two (by assumption) ?_))
  k_with "call ref" => ((k_here; k_dflt (refine' Cal.useS (law_digit_c _ _ _ _ _ ?c1 ?c2 ?c3 ?c4 ?c5) ?k1 ?k2 ?k3 ?k4 ?k5 ?k6 ?k7 ?k8 ?_; (case k1 => k_asm); (case k2 => k_asm); (case k3 => k_asm); (case k4 => k_asm); (case c1 => assumption); (case c2 => assumption); (case k5 => k_asm); (case k6 => first | exact rfl | assumption); (case k7 => ktr_room); (case k8 => ktr_units); (case c3 => assumption); (case c4 => assumption); (case c5 => exact Or.inr (by first | exact any_two (by assumption) | exact any_three (by assumption)))); intro t9 h9 tk9 F9 N9; (try dsimp only); (try k_sweep)))
  k_with "subscriptTail Name UnaryOp ref int" => ((k_dflt (refine' item_last ?k1 ?k2 ?k3 ?k4 ?_; (case k1 => assumption); (case k2 => exact List.Mem.tail _ (by assumption)); (case k3 => assumption); (case k4 => assumption)); intro t9))
  k_with "binaryOp Pow int int" => (k_dflt (refine pow_W (by omega) (by omega) ?_))
  trivial
theorem low_small {bits : List Nat} (h2 : bits.length < 200) : ((low bits : Nat) : Int).natAbs < 2 ^ 200 := by
  have h3 := low_lt bits
  have h4 : 2 ^ bits.length ≤ 2 ^ 200 := Nat.pow_le_pow_right (by decide) (by omega)
  omega
theorem neg_small {bits : List Nat} (h2 : bits.length < 200) : ((low bits : Int) - 2 ^ ((castL bits).length : Int).toNat).natAbs < 2 ^ 200 := by
  have h3 := low_lt bits
  have h4 : 2 ^ bits.length ≤ 2 ^ 199 := Nat.pow_le_pow_right (by decide) (by omega)
  have e : (2 : Int) ^ ((castL bits).length : Int).toNat = ((2 ^ bits.length : Nat) : Int) := by
    rw [Int.toNat_natCast, cast_len]
    exact (Int.natCast_pow 2 _).symm
  have h6 : (2 : Nat) ^ 199 < 2 ^ 200 := by decide +kernel
  rw [e]
  have h5 : 0 < 2 ^ bits.length := Nat.pow_pos (by decide)
  omega
theorem lines_VG_4 : True := by
  k_with "call type:str" => ((k_dflt (refine str_intW ?_ ?_; first | exact low_small (by assumption) | exact neg_small (by assumption))))
  trivial
theorem law_number_c (b : Addr) (ws : List Value) (bits : List Nat) (n : Nat) (sg : Bool) (news : Led) (hm : (b, listOf ws.toArray n) ∈ news) (hi : IntsAre ws (castL bits)) (h4 : Four bits) (h1 : 1 ≤ bits.length) (h2 : bits.length < 200) :
   CalS prog w 189 [.ref b, .bool sg] 10 400 news (T (decT bits sg)) := by
  unfold CalS Cal Ctr
  intro p loose mean mg mb dp un gd cn cs a ccd cl outer A₀ base h₀ L m s Q E B F X N T' hkk hd hu hret
  refine wpAny_call ?_
  k_dflt cell_enter
  k_steps
  · exact hret _ _ _ _ ⟨rfl, _, by rw [decT_unknown (any_two (by assumption))]⟩ (by assumption) (by assumption)
  · exact hret _ _ _ _ ⟨rfl, _, by rw [decT_unknown (any_three (by assumption))]⟩ (by assumption) (by assumption)
  refine Hold.mk ?_
  have hz : high bits = 0 := dig_none h4 (by assumption) (by assumption)
  have h01 := high_zero hz
  have hcl := cast_len bits
  rename Fr _ _ _ _ => lF'
  rename News _ _ _ _ => lN'
  rename IntsAre _ (castL bits).reverse => hi9
  refine' kst_listL (fun c : Int × Tok => (_, listOf _ 0) :: news) (fun c => [(Str.ofString "figure", .int c.1 c.2)]) (fun c => True) [] (fun pre c => FgInv pre c.1) (0, _) rfl (fun c => .head _) hi9 lF' lN' trivial ?kk FgInv.zero ?turn ?done
  case kk => exact List.forall_mem_cons.mpr ⟨by with_unfolding_all rfl, List.forall_mem_nil _⟩
  clear lN'
  case turn =>
    intro c pre post n t u h tk own hpre hmem hoff hS hP F1 N1
    obtain ⟨fig, tf⟩ := c
    dsimp only at *
    have hMk := kstMark
    have hn : 0 ≤ n ∧ n < 2 := by
      obtain ⟨b9, hb9, rfl⟩ := List.mem_map.mp (List.mem_reverse.mp hmem)
      have := h01 b9 hb9
      omega
    have hpl : pre.length < 200 := by have h1 := congrArg List.length hpre; rw [List.length_append, List.length_reverse, cast_len] at h1; omega
    have hf := hP.small hpl
    try k_fold
    clear lF'
    k_steps
    refine Hold.mk ?_
    rename Fr _ _ _ _ => F9
    rename News _ _ _ _ => N9
    exact kst_end (_, _) F9 N9 (fun p hp => List.mem_append_left _ hp) (fun p hp => List.mem_append_right _ hp) rfl trivial (List.forall_mem_cons.mpr ⟨by with_unfolding_all rfl, List.forall_mem_nil _⟩) (fun z h1 h2 h3 => by have a2 : z ≠ Str.ofString "figure" := h2 _ (.head _); simp [kstB, h1, a2]) (hP.next hn.1 hn.2)
  case done =>
    intro c u h tk hS hP F1 N1
    obtain ⟨fig, tf⟩ := c
    dsimp only at *
    have hMk := kstMark
    have e : fig = (low bits : Int) := by rw [hP.1, numI_low h01]
    subst e
    try k_fold
    clear lF'
    k_steps
    · exact hret _ _ _ _ ⟨rfl, _, by rw [decT_known hz, ← num_neg (sg := sg) h4 h1 hz (by assumption) (by assumption)]⟩ (by assumption) (cb_drop (by assumption) fun p hp => .tail _ hp)
    · exact hret _ _ _ _ ⟨rfl, _, by rw [decT_known hz, ← num_pos (sg := sg) h4 h1 hz (Or.inr (by assumption))]⟩ (by assumption) (cb_drop (by assumption) fun p hp => .tail _ hp)
    · exact hret _ _ _ _ ⟨rfl, _, by rw [decT_known hz, ← num_pos (sg := sg) h4 h1 hz (Or.inl (by assumption))]⟩ (by assumption) (cb_drop (by assumption) fun p hp => .tail _ hp)
end Mine
end

noncomputable section
open PySem PySem.W PySem.Calls PyProof.Rows
namespace Mine
set_option maxRecDepth 100000
set_option maxHeartbeats 8000000
theorem lines_VH_1 : True := by
  w_top off
  k_with_none
  trivial
variable {prog : Program} {w : World}
theorem lines_VH_2 : True := by
  k_with "mem" => (assumption)
  trivial
section
variable {A : Around} {E : Value → Shared → Prop} {s : Shared} {Q : Value → Shared → Prop} {t u v : Tok}
theorem chr_nat {a : Nat} (ha : a < 256) (h : Q (.str (T [a]) s.toks) { s with toks := s.toks + 1 }) : wpAny (model prog w) A (call (.builtin "chr") [.int (a : Int) t]) Q E s := by
  exact P.chr_of_int (by rw [decide_eq_false (by omega), decide_eq_false (by omega)]; rfl) h
theorem chr_zero (h : Q (.str (T [0]) s.toks) { s with toks := s.toks + 1 }) : wpAny (model prog w) A (call (.builtin "chr") [.int 0 t]) Q E s := by
  exact P.chr_of_int (by decide) h
end
theorem lines_VH_3 : True := by
  k_with "pyIter ref" => (refine Hold.out ?_)
  k_with "InvEndN" => (refine Hold.out ?_)
  k_with "exec While Compare cons nil" => (refine Hold.out ?_)
  k_with "KswEnd" => (refine Hold.out ?_)
  k_with "call builtin:chr" => ((k_dflt (refine chr_nat (by assumption) ?_)))
  k_with "call builtin:chr" => ((k_dflt (refine chr_zero ?_)))
  k_with "call builtin:str.lstrip" => ((k_dflt (refine lstrip_n (by omega) ?_); intro t9 k9))
  k_with "compareOp NotEq ref ref" => (k_dflt (refine' ne_intsK (News.isList ?k1 ?k2) ?k3 (News.isList ?k4 ?k5) ?k6 ?k7 ?_; (case k1 => assumption); (case k4 => assumption); (case k2 => exact List.Mem.tail _ (List.Mem.head _)); (case k5 => exact List.Mem.head _); (case k3 => assumption); (case k6 => exact IntsAre.nil); (case k7 => ktr_units)))
  k_with "exec For Name Subscript cons nil" => ((k_here; (rename Fr _ _ _ _ => lF'); (with_unfolding_all refine' For_invVF lF' ?k1 ?k2 ?_; (case k1 => exact rfl); (case k2 => exact rfl); k_whole)))
  k_with "subscriptTail Subscript Slice ref ref" => (((with_reducible show wpAny _ _ (subscriptTail _ (PySem.Expr.Slice none none (some _) _) (Value.ref _) (Value.ref _)) _ _ _); k_dflt (refine' krv_ints ?F ?N (News.isList ?k1 ?k2) (IsPart.int _ _) ?i ?_ ?s ?t ?z; (case F => assumption); (case N => assumption); (case k1 => assumption); (case k2 => exact List.Mem.head _); (case i => assumption); (case s => with_unfolding_all rfl); (case t => (intro _; with_unfolding_all rfl)); (case z => (rw [List.size_toArray, IntsAre.length (by assumption), List.length_map, sizeLine_eq]; omega))); intro D9 w9 h9 F9 N9 l9 i9 c9; (try k_sweep)))
  k_with "subscriptTail Name Slice ref ref" => ((k_dflt (refine' upto_in (k := 8) ?F ?N ?k2 ?i ?l ?_ ?s ?t; (case F => assumption); (case N => assumption); (case k2 => first | exact List.Mem.head _ | exact List.Mem.tail _ (List.Mem.head _) | exact List.Mem.tail _ (List.Mem.tail _ (List.Mem.head _))); (case i => assumption); (case l => omega); (case s => with_unfolding_all rfl); (case t => (intro _; with_unfolding_all rfl))); intro D9 w9 h9 F9 N9 l9 i9; (try k_sweep)))
  k_with "subscriptTail Name Slice ref ref" => ((k_dflt (refine' from_in (k := 8) ?F ?N ?k2 ?i ?l ?_ ?s ?t; (case F => assumption); (case N => assumption); (case k2 => first | exact List.Mem.head _ | exact List.Mem.tail _ (List.Mem.head _) | exact List.Mem.tail _ (List.Mem.tail _ (List.Mem.head _)) | exact List.Mem.tail _ (List.Mem.tail _ (List.Mem.tail _ (List.Mem.head _)))); (case i => assumption); (case l => omega); (case s => with_unfolding_all rfl); (case t => (intro _; with_unfolding_all rfl))); intro D9 w9 h9 F9 N9 l9 i9; (try k_sweep)))
  k_with "binaryOp Add str str" => ((k_dflt (refine add_T ?_ ?_; (simp only [List.length_cons, List.length_nil]; omega)); intro t9 k9))
  k_with "binaryOp Mult int int" => (k_dflt (refine mul_two (by assumption) ?_))
  trivial
theorem law_string_c (b : Addr) (ws : List Value) (bits : List Nat) (n : Nat) (news : Led) (hm : (b, listOf ws.toArray n) ∈ news) (hi : IntsAre ws (castL bits)) (h4 : Four bits) (h2 : bits.length < 200) :
   CalS prog w 196 [.ref b] 6 400 news (T (octL (ones bits))) := by
  unfold CalS Cal Ctr
  intro p loose mean mg mb dp un gd cn cs a ccd cl outer A₀ base h₀ L m s Q E B F X N T' hkk hd hu hret
  refine wpAny_call ?_
  k_dflt cell_enter
  k_steps
  refine Hold.mk ?_
  rename Fr _ _ _ _ => lF'
  rename News _ _ _ _ => lN'
  replace lF' := fr_gen2 (a := Str.ofString "bits") (b := Str.ofString "text") (by with_unfolding_all rfl) (by with_unfolding_all rfl) lF'
  obtain ⟨mG, lF'⟩ := lF'
  refine' ksw_while (fun c : (Addr × List Value × List Nat × Nat) × (List Nat × Tok) => (c.1.1, listOf c.1.2.1.toArray c.1.2.2.2) :: news) (fun c => [(Str.ofString "bits", .ref c.1.1), (Str.ofString "text", .str (T c.2.1) c.2.2)]) (fun c => IntsAre c.1.2.1 (castL c.1.2.2.1)) [Str.ofString "figure", Str.ofString "bit"] (fun c => DgInv 8 (fun g => [ones g]) bits c.1.2.2.1 c.2.1) (fun c => c.1.2.2.1.length) ((b, ws, bits, n), ([], _)) lF' (cb_drop lN' (led_cons (fun p hp => hp) hm)) hi ?hk9 (DgInv.zero _ bits (by decide)) ?turn
  case hk9 => exact List.forall_mem_cons.mpr ⟨by with_unfolding_all rfl, List.forall_mem_cons.mpr ⟨by with_unfolding_all rfl, List.forall_mem_nil _⟩⟩
  clear lN'
  intro c u h tk hS hP F1 N1
  obtain ⟨⟨b2, us, bs, n2⟩, ⟨l, tl⟩⟩ := c
  dsimp only at *
  have hMk := kstMark
  have hlen := hP.len (by decide) ones_len
  try k_fold
  clear lF'
  k_steps
  · rename decide _ = true => hb
    have hb0 : bs = [] := List.map_eq_nil_iff.mp (of_decide_eq_true hb)
    have e := str_done hP hb0
    exact hret _ _ _ _ ⟨rfl, _, by rw [e]⟩ (by assumption) (cb_drop (by assumption) fun p hp => .tail _ (.tail _ hp))
  refine Hold.mk ?_
  rename decide _ = false => hb
  have hb0 : bs ≠ [] := fun e => of_decide_eq_false hb (by rw [e]; rfl)
  have hlt : (bs.drop 8).length < bs.length := by have := List.length_pos_iff.mpr hb0; rw [List.length_drop]; omega
  have h256 : ones (bs.take 8) < 256 := ones_8
  have hcl := cast_len (bs.take 8)
  rename Fr _ _ _ _ => lF'
  rename News _ _ _ _ => lN'
  rename IntsAre _ (castL (List.take 8 bs)).reverse => hi9
  refine' kst_listL (fun c : Int × Tok => (_, listOf _ 0) :: (_, listOf _ 0) :: (_, listOf _ 0) :: (b2, listOf us.toArray n2) :: news) (fun c => [(Str.ofString "figure", .int c.1 c.2)]) (fun c => True) [] (fun pre c => OgInv pre c.1) (0, _) rfl (fun c => .head _) hi9 lF' lN' trivial ?kk2 OgInv.zero ?turn2 ?done2
  case kk2 => exact List.forall_mem_cons.mpr ⟨by with_unfolding_all rfl, List.forall_mem_nil _⟩
  clear lN'
  case turn2 =>
    intro c pre post n t u h tk own hpre hmem hoff hS9 hP9 F1 N1
    obtain ⟨fig, tf⟩ := c
    dsimp only at *
    have hMk := kstMark
    have hpl : pre.length < 200 := by have h1 := congrArg List.length hpre; rw [List.length_append, List.length_reverse, cast_len, List.length_take] at h1; omega
    have hf := hP9.small hpl
    try k_fold
    clear lF'
    k_steps
    · refine Hold.mk ?_
      rename Fr _ _ _ _ => F9
      rename News _ _ _ _ => N9
      exact kst_end (_, _) F9 N9 (fun p hp => List.mem_append_left _ hp) (fun p hp => List.mem_append_right _ hp) rfl trivial (List.forall_mem_cons.mpr ⟨by with_unfolding_all rfl, List.forall_mem_nil _⟩) (fun z h1 h2 h3 => by have a2 : z ≠ Str.ofString "figure" := h2 _ (.head _); simp [kstB, h1, a2]) (hP9.one (by assumption))
    · refine Hold.mk ?_
      rename Fr _ _ _ _ => F9
      rename News _ _ _ _ => N9
      exact kst_end (_, _) F9 N9 (fun p hp => List.mem_append_left _ hp) (fun p hp => List.mem_append_right _ hp) rfl trivial (List.forall_mem_cons.mpr ⟨by with_unfolding_all rfl, List.forall_mem_nil _⟩) (fun z h1 h2 h3 => by have a2 : z ≠ Str.ofString "figure" := h2 _ (.head _); simp [kstB, h1, a2]) (hP9.other (by assumption))
  case done2 =>
    intro c u h tk hS9 hP9 F1 N1
    obtain ⟨fig, tf⟩ := c
    dsimp only at *
    have hMk := kstMark
    have e := hP9.all
    subst e
    try k_fold
    clear lF'
    k_steps
    refine Hold.mk ?_
    refine ksw_end ((_, _, _, _), (_, _)) (by assumption) (by assumption) (led_cons (fun p hp => .tail _ (.tail _ (.tail _ (.tail _ (.tail _ hp))))) (.head _)) (by assumption) (List.forall_mem_cons.mpr ⟨by with_unfolding_all rfl, List.forall_mem_cons.mpr ⟨by with_unfolding_all rfl, List.forall_mem_nil _⟩⟩) ?_ (DgInv.next hP hb0) hlt
    intro z h2 h3
    have a2 : z ≠ Str.ofString "bits" := h2 _ (.head _)
    have a3 : z ≠ Str.ofString "text" := h2 _ (.tail _ (.head _))
    have a4 : z ≠ Str.ofString "figure" ∧ z ≠ Str.ofString "bit" := by simpa using h3
    simp [kstB, a2, a3, a4.1, a4.2]
end Mine
end

noncomputable section
open PySem PySem.W PySem.Calls PyProof.Rows
namespace Mine
set_option maxRecDepth 100000
set_option maxHeartbeats 8000000
variable {prog : Program} {w : World}
section
variable {f l : Addr} {vs : List Value} {dk uk : Nat} {news : Led} {Post : Value → Led → Prop}
    {p : Program} {loose : List Str} {mean : ExcName → Option Value} {mg mb : Str → Option Value}
    {dp un : Nat} {gd : Option (List Code)} {cn : Str} {cs : Scope} {a : Addr} {ccd : Value} {cl : List (Str × Addr)} {outer : List Env} {A₀ : Around} {base h₀ : Heap} {L : Addr} {m : Str → Option Value} {s : Shared}
    {Q E : Value → Shared → Prop}
theorem CtrL.use (C : CtrL prog w f l vs dk uk news Post)
    (B : Below A₀ base outer h₀) (F : Fr h₀ L s.heap m) (X : (hd.heap_39 w.params).In h₀) (N : News h₀ L s.heap news) (T : Top p loose mean mg mb h₀) (hk : cs.kind = .function) (hb : base.IsList l vs.toArray) (hdp : dp + dk < recursionLimit) (hu : un + uk < cLine)
    (h : ∀ v news' h' tk', Post v news' → Fr h₀ L h' m → News h₀ L h' news' → Q v { s with heap := h', toks := tk' }) :
    wpAny (model prog w) (ktrTop dp un gd cn cs L a ccd cl outer) (call (.ref f) [.ref l]) Q E s := C _ _ _ _ _ _ _ _ _ _ _ _ _ _ _ _ _ _ _ _ _ _ B F X N T hk hb hdp hu h
end
theorem mem0 {α : Type} {a : α} {l : List α} : a ∈ a :: l := List.Mem.head _
theorem mem1 {α : Type} {a b : α} {l : List α} : b ∈ a :: b :: l := .tail _ (.head _)
theorem mem_step {α : Type} {a b : α} {l : List α} (h : a ∈ l) : a ∈ b :: l := .tail _ h
theorem swap2 {α : Type} {a b : α} : ∀ p ∈ [a, b], p ∈ [b, a] := fun p hp => by simp at hp ⊢; exact hp.symm
theorem wd_ok (x : Int) : 1 ≤ 1 + x.fmod 140 ∧ 1 + x.fmod 140 ≤ 140 := by
  rw [Int.fmod_eq_emod_of_nonneg _ (by decide)]
  have h1 := Int.emod_nonneg x (b := 140) (by decide)
  have h2 := Int.emod_lt_of_pos x (b := 140) (by decide)
  omega
theorem wd_len {x : Int} {bits : List Nat} (h : ((castL bits).length : Int) = 1 + x.fmod 140) : 1 ≤ bits.length ∧ bits.length ≤ 140 := by
  have h1 := wd_ok x
  have h2 := cast_len bits
  omega
theorem quad_nat : ∀ {bs : List Int}, Quad bs → ∃ bits : List Nat, bs = castL bits ∧ Four bits
  | [], _ => ⟨[], rfl, fun _ h => nomatch h⟩
  | a :: r, h => by
    obtain ⟨l, e, f⟩ := quad_nat (bs := r) fun n hn => h n (.tail _ hn)
    have ha := h a (.head _)
    refine ⟨a.toNat :: l, ?_, ?_⟩
    · rw [castL, List.map_cons, ← castL, ← e]; congr 1; omega
    · intro b hb
      rcases List.mem_cons.mp hb with rfl | hb
      · omega
      · exact f b hb
theorem law_next_2 (r b : Addr) (o : Obj) (vs : List Value) (ns : List Int) (n : Nat) (hi : IntsAre vs ns) (hb : Low10 ns) (hl : ns.length ≤ 1000) (hrb : r < b) :
   Ctr prog w 154 [.ref r] 6 200 [(b, o), (r, listOf vs.toArray n)] (fun v news' => ∃ (vs' : List Value) (ns' : List Int) (n' : Nat) (k : Int) (t : Tok), v = .int k t ∧ news' = [(b, o), (r, listOf vs'.toArray n')] ∧ IntsAre vs' ns' ∧ Low10 ns' ∧ ns'.length ≤ ns.length ∧ 0 ≤ k ∧ k < 1024) := by
  intro p loose mean mg mb dp un gd cn cs a ccd cl outer A₀ base h₀ L m s Q E B F X N T' hk hd hu hret
  refine law_next_c r vs ns n [(b, o)] hi hb hl (fun p hp => by rw [List.mem_singleton.mp hp]; exact Nat.ne_of_gt hrb) p loose mean mg mb dp un gd cn cs a ccd cl outer A₀ base h₀ L m s Q E B F X (cb_drop N swap2) T' hk hd hu fun v n' h' tk' P F' N' => ?_
  obtain ⟨vs9, ns9, m9, x9, t9, e1, e2, i9, b9, l9, x0, x1⟩ := P
  subst e2
  exact hret v _ h' tk' ⟨vs9, ns9, m9, x9, t9, e1, rfl, i9, b9, l9, x0, x1⟩ F' (cb_drop N' swap2)
theorem law_digits_1 (b : Addr) (ws : List Value) (bits : List Nat) (n : Nat) (t0 : Tok) (news : Led) (hm : (b, listOf ws.toArray n) ∈ news) (hi : IntsAre ws (castL bits)) (h4 : Four bits) (h2 : bits.length < 200) :
   CalS prog w 182 [.ref b, .int 1 t0] 10 400 news (T (digT 1 bits)) := law_digits_c b ws bits n 1 t0 news (by decide) hm hi h4 h2
theorem law_digits_3 (b : Addr) (ws : List Value) (bits : List Nat) (n : Nat) (t0 : Tok) (news : Led) (hm : (b, listOf ws.toArray n) ∈ news) (hi : IntsAre ws (castL bits)) (h4 : Four bits) (h2 : bits.length < 200) :
   CalS prog w 182 [.ref b, .int 3 t0] 10 400 news (T (digT 3 bits)) := law_digits_c b ws bits n 3 t0 news (by decide) hm hi h4 h2
theorem law_digits_4 (b : Addr) (ws : List Value) (bits : List Nat) (n : Nat) (t0 : Tok) (news : Led) (hm : (b, listOf ws.toArray n) ∈ news) (hi : IntsAre ws (castL bits)) (h4 : Four bits) (h2 : bits.length < 200) :
   CalS prog w 182 [.ref b, .int 4 t0] 10 400 news (T (digT 4 bits)) := law_digits_c b ws bits n 4 t0 news (by decide) hm hi h4 h2
theorem reads_three {h : Heap} {a : Addr} {x y z : Str} {t1 t2 t3 : Tok} (hl : h.IsList a #[.str x t1, .str y t2, .str z t3]) : ∃ as, Reads h (.ref a) (.list [.str x, .str y, .str z]) as := by
  obtain ⟨o, ho, hc, n, hd⟩ := hl
  exact ⟨_, Reads.list ho hc hd (.cons (Reads.str _ _) (.cons (Reads.str _ _) (.cons (Reads.str _ _) .nil)))⟩
theorem hexc_ok {b : Nat} (h : b < 16) : hexc b < 1114112 := by unfold hexc; split <;> omega
theorem signC_ok (g : List Nat) : signC g < 1114112 := by unfold signC; split; (split <;> omega); (split <;> omega)
theorem digT_ok {k : Nat} (hk : k ≤ 4) (bits : List Nat) : PyData.strOk (T (digT k bits)) = true := by
  show (T (digT k bits)).cps.all (· < 0x110000) = true
  rw [T_cps, List.all_toArray, List.all_eq_true]
  intro c hc
  refine decide_eq_true ?_
  obtain ⟨l, hl, hc⟩ := List.mem_flatten.mp hc
  obtain ⟨j, _, rfl⟩ := List.mem_map.mp (List.mem_reverse.mp hl)
  unfold digitL at hc
  split at hc
  · rw [List.mem_singleton.mp hc]
    refine hexc_ok (low_16 ?_)
    exact Nat.le_trans (List.length_take_le _ _) hk
  · rw [List.mem_singleton.mp hc]; exact signC_ok _
theorem shaped_three {x y z : Str} (hx : PyData.strOk x = true) (hy : PyData.strOk y = true) (hz : PyData.strOk z = true) : SeqAt.shaped (.list [.str x, .str y, .str z]) = true := by
  show (PyData.canLay0 (.list [.str x, .str y, .str z]) && decide (PyData.depth (.list [.str x, .str y, .str z]) ≤ 64)) = true
  rw [Bool.and_eq_true]
  refine ⟨?_, by simp [PyData.depth, PyData.depthAll]⟩
  simp [PyData.canLay0, PyData.canLayAll0, hx, hy, hz]
theorem ne_three {prog : Program} {w : World} {A : Around} {E : Value → Shared → Prop} {s : Shared} {a b : Addr} {bits : List Nat} {t1 t2 t3 u1 u2 u3 : Tok} {Q : Value → Shared → Prop} (hl : s.heap.IsList a #[.str (T (digT 1 bits)) t1, .str (T (digT 3 bits)) t2, .str (T (digT 4 bits)) t3]) (hl' : s.heap.IsList b #[.str (T (digT 1 bits)) u1, .str (T (digT 3 bits)) u2, .str (T (digT 4 bits)) u3]) (hu : A.units + 64 < cLine)
    (h : Q (.bool false) s) : wpAny (model prog w) A (compareOp .NotEq (.ref a) (.ref b)) Q E s := by
  obtain ⟨_, r1⟩ := reads_three hl
  obtain ⟨_, r2⟩ := reads_three hl'
  have hs := shaped_three (digT_ok (k := 1) (by decide) bits) (digT_ok (k := 3) (by decide) bits) (digT_ok (k := 4) (by decide) bits)
  exact ne_dataH_same r1 r2 hs hs hu (by simp [SeqAt.noMix, SeqAt.noMixAll]) (by rw [PySem.Spec.same_self]; exact h)
theorem ne_str_same {prog : Program} {w : World} {A : Around} {E : Value → Shared → Prop} {s : Shared} {x : Str} {t u : Tok} {Q : Value → Shared → Prop} (h : Q (.bool false) s) : wpAny (model prog w) A (compareOp .NotEq (.str x t) (.str x u)) Q E s :=
  ne_str (by simpa using h)
theorem padded_b_false (q : Addr) (bits : List Nat) (t1 t2 t3 t4 : Tok) (sg : Bool) (news : Led) (h4 : Four bits) (h1 : 1 ≤ bits.length) (h2 : bits.length < 200) (hq : (q, bvec bits t1 t2 t3) ∈ news) :
   CalS prog w 140 [.str (Str.ofString "b") t4, .ref q, .bool sg, .bool false] 12 40 news (T (digT 1 bits)) := padded_b q bits t1 t2 t3 t4 sg false news h4 h1 h2 hq
theorem padded_b_true (q : Addr) (bits : List Nat) (t1 t2 t3 t4 : Tok) (sg : Bool) (news : Led) (h4 : Four bits) (h1 : 1 ≤ bits.length) (h2 : bits.length < 200) (hq : (q, bvec bits t1 t2 t3) ∈ news) :
   CalS prog w 140 [.str (Str.ofString "b") t4, .ref q, .bool sg, .bool true] 12 40 news (T (shortL (digT 1 bits))) := padded_b q bits t1 t2 t3 t4 sg true news h4 h1 h2 hq
theorem padded_o_false (q : Addr) (bits : List Nat) (t1 t2 t3 t4 : Tok) (sg : Bool) (news : Led) (h4 : Four bits) (h1 : 1 ≤ bits.length) (h2 : bits.length < 200) (hq : (q, bvec bits t1 t2 t3) ∈ news) :
   CalS prog w 140 [.str (Str.ofString "o") t4, .ref q, .bool sg, .bool false] 12 40 news (T (digT 3 bits)) := padded_o q bits t1 t2 t3 t4 sg false news h4 h1 h2 hq
theorem padded_o_true (q : Addr) (bits : List Nat) (t1 t2 t3 t4 : Tok) (sg : Bool) (news : Led) (h4 : Four bits) (h1 : 1 ≤ bits.length) (h2 : bits.length < 200) (hq : (q, bvec bits t1 t2 t3) ∈ news) :
   CalS prog w 140 [.str (Str.ofString "o") t4, .ref q, .bool sg, .bool true] 12 40 news (T (shortL (digT 3 bits))) := padded_o q bits t1 t2 t3 t4 sg true news h4 h1 h2 hq
theorem padded_h_false (q : Addr) (bits : List Nat) (t1 t2 t3 t4 : Tok) (sg : Bool) (news : Led) (h4 : Four bits) (h1 : 1 ≤ bits.length) (h2 : bits.length < 200) (hq : (q, bvec bits t1 t2 t3) ∈ news) :
   CalS prog w 140 [.str (Str.ofString "h") t4, .ref q, .bool sg, .bool false] 12 40 news (T (digT 4 bits)) := padded_h q bits t1 t2 t3 t4 sg false news h4 h1 h2 hq
theorem padded_h_true (q : Addr) (bits : List Nat) (t1 t2 t3 t4 : Tok) (sg : Bool) (news : Led) (h4 : Four bits) (h1 : 1 ≤ bits.length) (h2 : bits.length < 200) (hq : (q, bvec bits t1 t2 t3) ∈ news) :
   CalS prog w 140 [.str (Str.ofString "h") t4, .ref q, .bool sg, .bool true] 12 40 news (T (shortL (digT 4 bits))) := padded_h q bits t1 t2 t3 t4 sg true news h4 h1 h2 hq
theorem padded_d_false (q : Addr) (bits : List Nat) (t1 t2 t3 t4 : Tok) (sg : Bool) (news : Led) (h4 : Four bits) (h1 : 1 ≤ bits.length) (h2 : bits.length < 200) (hq : (q, bvec bits t1 t2 t3) ∈ news) :
   CalS prog w 140 [.str (Str.ofString "d") t4, .ref q, .bool sg, .bool false] 12 40 news (T (padS (decW bits.length sg) (decT bits sg))) := padded_d q bits t1 t2 t3 t4 sg false news h4 h1 h2 hq
theorem padded_d_true (q : Addr) (bits : List Nat) (t1 t2 t3 t4 : Tok) (sg : Bool) (news : Led) (h4 : Four bits) (h1 : 1 ≤ bits.length) (h2 : bits.length < 200) (hq : (q, bvec bits t1 t2 t3) ∈ news) :
   CalS prog w 140 [.str (Str.ofString "d") t4, .ref q, .bool sg, .bool true] 12 40 news (T (decT bits sg)) := padded_d q bits t1 t2 t3 t4 sg true news h4 h1 h2 hq
theorem dig_room {k : Nat} {bits : List Nat} (hk : k = 1 ∨ k = 3 ∨ k = 4) (h2 : bits.length < 200) : (digT k bits).length ≤ 16777216 := by
  have := digT_small hk h2
  omega
theorem width_l {bits : List Nat} (sg : Bool) (t : Tok) (news : Led) (h1 : 1 ≤ bits.length) (h2 : bits.length < 200) :
   CalI prog w 126 [.int ((castL bits).length : Int) t, .bool sg] 10 32 news (decW bits.length sg : Nat) := by
  rw [cast_len]
  exact width_c _ sg t news h1 h2
end Mine
end

noncomputable section
open PySem PySem.W PySem.Calls PyProof.Rows
namespace Mine
set_option maxRecDepth 100000
set_option maxHeartbeats 8000000
theorem join_bits {M : Model} {A : Around} {t : Sem Flow} {Q : Flow → Shared → Prop} {E : Value → Shared → Prop} {s : Shared} {base : Heap} {L : Addr} {m : Str → Option Value} {news : Led} (F : Fr base L s.heap m) (N : News base L s.heap news)
    (h1 : ∀ Q' : Flow → Shared → Prop, (∀ h' tk' D ws bits n, Fr base L h' (fun y => if y = Str.ofString "bits" then some (.ref D) else m y) → News base L h' [(D, listOf ws.toArray n)] → IntsAre ws (castL bits) → Four bits → 1 ≤ bits.length ∧ bits.length ≤ 140 → Q' Flow.next { s with heap := h', toks := tk' }) → wpAny M A t Q' E s)
    (h2 : ∀ h' tk' D ws bits n, Fr base L h' (fun y => if y = Str.ofString "bits" then some (.ref D) else m y) → News base L h' [(D, listOf ws.toArray n)] → IntsAre ws (castL bits) → Four bits → 1 ≤ bits.length ∧ bits.length ≤ 140 → Q Flow.next { s with heap := h', toks := tk' }) :
    wpAny M A t Q E s := h1 Q h2
theorem mod_two (bits : List Nat) : List.map (fun k' => k'.fmod 2) (castL bits) = castL (bits.map (· % 2)) := by
  rw [castL, castL, List.map_map, List.map_map]
  refine List.map_congr_left fun b _ => ?_
  show ((b : Int).fmod 2) = ((b % 2 : Nat) : Int)
  rw [Int.fmod_eq_emod_of_nonneg _ (by decide)]
  push_cast
  rfl
theorem four_two (bits : List Nat) : Four (bits.map (· % 2)) := fun b hb => by
  obtain ⟨a, _, rfl⟩ := List.mem_map.mp hb
  show a % 2 < 4
  omega
theorem fr_same {base h : Heap} {L : Addr} {m : Str → Option Value} {x : Str} {v : Value} (e : m x = some v) (F : Fr base L h m) : Fr base L h (fun y => if y = x then some v else m y) := by
  have e1 : (fun y => if y = x then some v else m y) = m := funext fun y => by
    split
    · rename y = x => e2
      rw [e2, e]
    · rfl
  rw [e1]
  exact F
theorem len_bits {bits : List Nat} (h : 1 ≤ bits.length ∧ bits.length ≤ 140) : 1 ≤ (bits.map (· % 2)).length ∧ (bits.map (· % 2)).length ≤ 140 := by rw [List.length_map]; exact h
variable {prog : Program} {w : World}
section
variable {A : Around} {E : Value → Shared → Prop} {s : Shared} {Q : Value → Shared → Prop} {t u v : Tok}
theorem ne_int_same {a b : Int} (e : a = b) (h : Q (.bool false) s) : wpAny (model prog w) A (compareOp .NotEq (.int a t) (.int b u)) Q E s := PyProof.Rows.ne_int (by subst e; simpa using h)
theorem eq_str_same {x : Str} (h : Q (.bool true) s) : wpAny (model prog w) A (compareOp .Eq (.str x t) (.str x u)) Q E s := PyProof.Rows.eq_str (by simpa using h)
theorem ne_pad {a b : Nat} {l : List Nat} (e : a = b) (h : Q (.bool false) s) : wpAny (model prog w) A (compareOp .NotEq (.str (T (padS a l)) t) (.str (T (List.replicate (b - l.length) 32 ++ l)) u)) Q E s := by
  subst e
  exact ne_str_same h
theorem str_U {wd : Nat} (h2 : wd < 200) (h : Q (.str (T (decI ((2 : Int) ^ wd - 1))) s.toks) { s with toks := s.toks + 1 }) : wpAny (model prog w) A (call (.type "str") [.int ((2 : Int) ^ (wd : Int).toNat - 1) t]) Q E s := by
  have e := pow_abs2 (k := (wd : Int)) (by omega)
  rw [Int.toNat_natCast] at e ⊢
  exact str_intW e h
theorem len_U {wd : Nat} (h2 : wd < 200) (h : Q (.int (decW wd false : Nat) (s.toks + 1)) { s with toks := s.toks + 1 + 1 }) : wpAny (model prog w) A (call (.builtin "len") [.str (T (decI ((2 : Int) ^ wd - 1))) t]) Q E s := by
  have e := pow_abs2 (k := (wd : Int)) (by omega)
  rw [Int.toNat_natCast] at e
  refine len_T (decI_small e) ?_
  rw [decW, if_neg (by decide)] at h
  exact h
theorem neg_pow_abs {k : Nat} (h : k < 200) : (-(2 : Int) ^ k).natAbs < 2 ^ 200 := by rw [Int.natAbs_neg]; exact pow_abs h
theorem str_S {a : Int} {wd : Nat} (e : a = -(2 : Int) ^ (wd - 1)) (h2 : wd < 200) (h : Q (.str (T (decI (-(2 : Int) ^ (wd - 1)))) s.toks) { s with toks := s.toks + 1 }) : wpAny (model prog w) A (call (.type "str") [.int a t]) Q E s := by
  subst e
  exact str_intW (neg_pow_abs (by omega)) h
theorem len_S {wd : Nat} (h2 : wd < 200) (h : Q (.int (decW wd true : Nat) (s.toks + 1)) { s with toks := s.toks + 1 + 1 }) : wpAny (model prog w) A (call (.builtin "len") [.str (T (decI (-(2 : Int) ^ (wd - 1)))) t]) Q E s := by
  refine len_T (decI_small (neg_pow_abs (by omega))) ?_
  have hp : (0 : Int) < 2 ^ (wd - 1) := Int.pow_pos (by decide)
  have e : (decI (-(2 : Int) ^ (wd - 1))).length = decW wd true := by
    rw [decW, if_pos rfl, decI, if_pos (by omega), decI, if_neg (by omega), Int.natAbs_neg, List.length_cons]
  rw [e]
  exact h
theorem low_decT {bits : List Nat} (sg : Bool) (h2 : bits.length < 200) : (decT bits sg).length ≤ 100 := by
  unfold decT
  split
  · have h3 := low_lt bits
    have h4 : 2 ^ bits.length ≤ 2 ^ 199 := Nat.pow_le_pow_right (by decide) (by omega)
    have h6 : (2 : Nat) ^ 199 < 2 ^ 200 := by decide +kernel
    have e : (2 : Int) ^ bits.length = ((2 ^ bits.length : Nat) : Int) := (Int.natCast_pow 2 _).symm
    have := decI_62 (a := numOf bits sg) (by unfold numOf; split <;> (try rw [e]) <;> omega)
    omega
  · simp
theorem len_D {bits : List Nat} {sg : Bool} (h2 : bits.length < 200) (h : Q (.int ((decT bits sg).length : Nat) (s.toks + 1)) { s with toks := s.toks + 1 + 1 }) : wpAny (model prog w) A (call (.builtin "len") [.str (T (decT bits sg)) t]) Q E s :=
  len_T (Nat.le_trans (low_decT sg h2) (by decide)) h
theorem mul_chars (c : Nat) (n : Nat) : (List.replicate n #[c]).foldl (fun (x y : Array Nat) => x ++ y) #[] = (List.replicate n c).toArray := by
  have h : ∀ (n : Nat) (a : Array Nat), (List.replicate n #[c]).foldl (fun (x y : Array Nat) => x ++ y) a = a ++ (List.replicate n c).toArray := fun n => by
    induction n with
    | zero => intro a; simp
    | succ n ih => intro a; rw [List.replicate_succ, List.foldl_cons, ih, List.replicate_succ]; apply Array.ext'; simp
  rw [h]; simp
theorem mul_space {a b : Nat} (ha : a ≤ 1000) (hb : b ≤ 1000) (h : ∀ t' k, Q (.str (T (List.replicate (a - b) 32)) t') { s with toks := k }) : wpAny (model prog w) A (binaryOp .Mult (.str (Str.ofString " ") t) (.int ((a : Int) - (b : Int)) u)) Q E s := by
  have e1 : (Str.ofString " ").length = 1 := by decide +kernel
  have e2 : (Str.ofString " ").cps = #[32] := by decide +kernel
  refine SB.mul ⟨by simp; omega, fun h1 h2 => ?_, fun h1 h2 => ?_⟩ fun t' k => ?_
  · rw [e1]
    have : (1 : Int) ≤ (2 ^ 63 - 1) / ((a : Int) - b) := (Int.le_ediv_iff_mul_le (by omega)).mpr (by omega)
    omega
  · rw [e1]
    refine decide_eq_false ?_
    rw [sizeLine_eq]
    omega
  · have e : Txt.mul (Str.ofString " ") ((a : Int) - b) = T (List.replicate (a - b) 32) := by
      unfold Txt.mul
      have e3 : ((a : Int) - b).toNat = a - b := by omega
      split
      · have : a - b = 0 := by omega
        rw [this]
        rfl
      · split
        · rename_i h5
          have : a - b = 1 := by rw [e1] at h5; simp at h5; omega
          rw [this]
          decide +kernel
        · rw [e2, e3, mul_chars]
          rfl
    rw [e]
    exact h t' k
end
end Mine
end

noncomputable section
open PySem PySem.W PySem.Calls PyProof.Rows
namespace Mine
set_option maxRecDepth 100000
set_option maxHeartbeats 8000000
theorem lines_TK_1 : True := by
  w_top off
  k_with_none
  trivial
variable {prog : Program} {w : World}
theorem lines_TK_2 : True := by
  k_with "mem" => (first | assumption | exact mem0 | (refine mem_step ?_; k_mem))
  trivial
theorem toNat_neg {wd : Nat} (h : 1 ≤ wd) : -(2 : Int) ^ ((wd : Int) - 1).toNat = -(2 : Int) ^ (wd - 1) := by rw [toNat_len_pred h]
theorem rep_len {a b : Nat} {l : List Nat} (ha : a ≤ 100) (hl : l.length ≤ 100) : (List.replicate (a - b) 32).length + l.length ≤ 16777216 := by rw [List.length_replicate]; omega
theorem same3 {m : Str → Option Value} {a b c : Str} {x y z : Value} (e1 : m a = some x) (e2 : m b = some y) (e3 : m c = some z) : (fun n => if n = a then some x else if n = b then some y else if n = c then some z else m n) = m := funext fun n => by
  by_cases h1 : n = a
  · rw [if_pos h1, h1, e1]
  · rw [if_neg h1]
    by_cases h2 : n = b
    · rw [if_pos h2, h2, e2]
    · rw [if_neg h2]
      by_cases h3 : n = c
      · rw [if_pos h3, h3, e3]
      · rw [if_neg h3]
theorem fr_in {base h : Heap} {L : Addr} {m : Str → Option Value} {a b c : Str} {x y z : Value} (e1 : m a = some x) (e2 : m b = some y) (e3 : m c = some z) (F : Fr base L h m) : Fr base L h (fun n => if n = a then some x else if n = b then some y else if n = c then some z else m n) := by
  rw [same3 e1 e2 e3]; exact F
theorem fr_out {base h : Heap} {L : Addr} {m : Str → Option Value} {a b c d : Str} {x y z u v : Value} (e1 : m a = some x) (e2 : m b = some y) (e3 : m c = some z) (F : Fr base L h (fun n => if n = d then some u else if n = d then some v else if n = a then some x else if n = b then some y else if n = c then some z else m n)) : Fr base L h (fun n => if n = d then some u else m n) := by
  have e : (fun n => if n = d then some u else if n = d then some v else if n = a then some x else if n = b then some y else if n = c then some z else m n) = (fun n => if n = d then some u else m n) := funext fun n => by
    by_cases h : n = d
    · rw [if_pos h, if_pos h]
    · rw [if_neg h, if_neg h, if_neg h]
      exact congrFun (same3 e1 e2 e3) n
  rw [← e]; exact F
theorem join_bits2 {M : Model} {A : Around} {t : Sem Flow} {Q : Flow → Shared → Prop} {E : Value → Shared → Prop} {s : Shared} {base : Heap} {L : Addr} {m : Str → Option Value} {news : Led} (F : Fr base L s.heap m) (N : News base L s.heap news)
    (h1 : ∀ Q' : Flow → Shared → Prop, (∀ h' tk' D ws bits n, Fr base L h' (fun y => if y = Str.ofString "bits" then some (.ref D) else m y) → News base L h' [(D, listOf ws.toArray n)] → IntsAre ws (castL bits) → Four bits → 1 ≤ bits.length ∧ bits.length ≤ 140 → Q' Flow.next { s with heap := h', toks := tk' }) → wpAny M A t Q' E s)
    (h2 : ∀ (m0 : Str → Option Value) h' tk' D ws bits n, Fr base L h' (fun y => if y = Str.ofString "bits" then some (.ref D) else m0 y) → News base L h' [(D, listOf ws.toArray n)] → IntsAre ws (castL bits) → Four bits → 1 ≤ bits.length ∧ bits.length ≤ 140 → Q Flow.next { s with heap := h', toks := tk' }) :
    wpAny M A t Q E s := h1 Q (h2 m)
theorem upd_ne {m : Str → Option Value} {a b : Str} {v : Value} {r : Option Value} (h : b ≠ a) (e : m b = r) : (fun y => if y = a then some v else m y) b = r := by
  show (if b = a then some v else m b) = r
  rw [if_neg h]
  exact e
theorem fr_back {base h : Heap} {L : Addr} {m : Str → Option Value} {a b c : Str} {x y z : Value} (e1 : m a = some x) (e2 : m b = some y) (e3 : m c = some z) (F : Fr base L h (fun n => if n = a then some x else if n = b then some y else if n = c then some z else m n)) : Fr base L h m := by
  rw [same3 e1 e2 e3] at F; exact F
/-- a loop over the two truths, each turn alike -/
theorem list_bools {prog : Program} {w : World} {A : Around} {E : Value → Shared → Prop} {h₀ : Heap} {env : Env} {x : Str} {body : List Stmt} {Q : Flow → Shared → Prop} {s : Shared} {I : Addr} {lp : Addr × Obj} {news : Led} {m : Str → Option Value} (hm : lp ∈ news) (off : ∀ p ∈ news, p.1 ≠ I) (Pm : (Str → Option Value) → Prop) (h0 : Pm m) (hs : ∀ m' v, Pm m' → Pm (fun y => if y = x then some v else m' y))
    (turn : ∀ (sg : Bool) (m' : Str → Option Value) (it : Obj) (h : Heap) (tk : Nat) (Q2 : Flow → Shared → Prop), Pm (fun y => if y = x then some (.bool sg) else m' y) → Fr h₀ env.locals h (fun y => if y = x then some (.bool sg) else m' y) → News h₀ env.locals h ((I, it) :: news) →
      (∀ h' tk', Fr h₀ env.locals h' (fun y => if y = x then some (.bool sg) else m' y) → News h₀ env.locals h' ((I, it) :: news) → Q2 .next { s with heap := h', toks := tk' }) → wpAny (model prog w) A (execs body env) Q2 E { s with heap := h, toks := tk })
    (done : ∀ h tk, Fr h₀ env.locals h (fun y => if y = x then some (.bool true) else if y = x then some (.bool false) else m y) → News h₀ env.locals h news → Q .next { s with heap := h, toks := tk }) :
    ListRest prog w A E h₀ env x body Q s I lp [.bool false, .bool true] m news :=
  ListRest.succ fun it h tk _ F N => turn false m it h tk _ (hs _ _ h0) F N fun h' tk' F' N' =>
    UnrEnd.intro (s₁ := { s with heap := h, toks := tk }) F' N' news (fun _ hp => hp) off ⟨hm, ListRest.succ fun it2 h2 tk2 _ F2 N2 => turn true _ it2 h2 tk2 _ (hs _ _ (hs _ _ h0)) F2 N2 fun h3 tk3 F3 N3 =>
      UnrEnd.intro (s₁ := { s with heap := h2, toks := tk2 }) F3 N3 news (fun _ hp => hp) off ⟨hm, ListRest.zero done⟩⟩
/-- the same, where a turn may store names that the word `Pm` does not speak of -/
theorem list_bools2 {prog : Program} {w : World} {A : Around} {E : Value → Shared → Prop} {h₀ : Heap} {env : Env} {x : Str} {body : List Stmt} {Q : Flow → Shared → Prop} {s : Shared} {I : Addr} {lp : Addr × Obj} {news : Led} {m : Str → Option Value} (hm : lp ∈ news) (off : ∀ p ∈ news, p.1 ≠ I) (Pm : (Str → Option Value) → Prop) (h0 : Pm m) (hs : ∀ m' v, Pm m' → Pm (fun y => if y = x then some v else m' y))
    (turn : ∀ (sg : Bool) (m' : Str → Option Value) (it : Obj) (h : Heap) (tk : Nat) (Q2 : Flow → Shared → Prop), Pm (fun y => if y = x then some (.bool sg) else m' y) → Fr h₀ env.locals h (fun y => if y = x then some (.bool sg) else m' y) → News h₀ env.locals h ((I, it) :: news) →
      (∀ h' tk' m2, Pm m2 → Fr h₀ env.locals h' m2 → News h₀ env.locals h' ((I, it) :: news) → Q2 .next { s with heap := h', toks := tk' }) → wpAny (model prog w) A (execs body env) Q2 E { s with heap := h, toks := tk })
    (done : ∀ h tk m2, Pm m2 → Fr h₀ env.locals h m2 → News h₀ env.locals h news → Q .next { s with heap := h, toks := tk }) :
    ListRest prog w A E h₀ env x body Q s I lp [.bool false, .bool true] m news :=
  ListRest.succ fun it h tk _ F N => turn false m it h tk _ (hs _ _ h0) F N fun h' tk' m2 P2 F' N' =>
    UnrEnd.intro (s₁ := { s with heap := h, toks := tk }) F' N' news (fun _ hp => hp) off ⟨hm, ListRest.succ fun it2 h2 tk2 _ F2 N2 => turn true m2 it2 h2 tk2 _ (hs _ _ P2) F2 N2 fun h3 tk3 m3 P3 F3 N3 =>
      UnrEnd.intro (s₁ := { s with heap := h2, toks := tk2 }) F3 N3 news (fun _ hp => hp) off ⟨hm, ListRest.zero fun h4 tk4 F4 N4 => done h4 tk4 m3 P3 F4 N4⟩⟩
theorem join_long {M : Model} {A : Around} {t : Sem Flow} {Q : Flow → Shared → Prop} {E : Value → Shared → Prop} {s : Shared} {base : Heap} {L : Addr} {m : Str → Option Value} {news : Led} (wd : Nat) (sg : Bool) (F : Fr base L s.heap m) (N : News base L s.heap news)
    (h1 : ∀ Q' : Flow → Shared → Prop, (∀ h' tk' u, Fr base L h' (fun y => if y = Str.ofString "longest" then some (.int (decW wd sg : Nat) u) else m y) → News base L h' news → Q' Flow.next { s with heap := h', toks := tk' }) → wpAny M A t Q' E s)
    (h2 : ∀ h' tk' u, Fr base L h' (fun y => if y = Str.ofString "longest" then some (.int (decW wd sg : Nat) u) else m y) → News base L h' news → Q Flow.next { s with heap := h', toks := tk' }) :
    wpAny M A t Q E s := h1 Q h2
/-- what the inner loop of the law does, whatever the kind -/
def Inner (prog : Program) (w : World) (A : Around) (base : Heap) (L q : Addr) (ob : Obj) (bits : List Nat) (E : Value → Shared → Prop) (X : Sem Flow) : Prop :=
  ∀ (kd : Str) (k : Nat) (tk tt : Tok) (m : Str → Option Value) (news : Led) (s : Shared) (h : Heap) (tk0 : Nat) (Q : Flow → Shared → Prop),
    (∀ (t4 : Tok) (sg : Bool) (news : Led), (q, ob) ∈ news → CalS prog w 140 [.str kd t4, .ref q, .bool sg, .bool false] 12 40 news (T (digT k bits))) →
    (∀ (t4 : Tok) (sg : Bool) (news : Led), (q, ob) ∈ news → CalS prog w 140 [.str kd t4, .ref q, .bool sg, .bool true] 12 40 news (T (shortL (digT k bits)))) →
    (digT k bits).length ≤ 16777216 → Fr base L h m → News base L h news → (q, ob) ∈ news →
    m (Str.ofString "kind") = some (.str kd tk) → m (Str.ofString "text") = some (.str (T (digT k bits)) tt) → m (Str.ofString "v") = some (.ref q) →
    (∀ h' tk', Fr base L h' (fun y => if y = Str.ofString "signed" then some (.bool true) else m y) → News base L h' news → Q Flow.next { s with heap := h', toks := tk' }) →
    wpAny (model prog w) A X Q E { s with heap := h, toks := tk0 }
theorem with_inner {prog : Program} {w : World} {A : Around} {env : Env} {tg it : PySem.Expr} {S : Stmt} {els : List Stmt} {pos : Pos} {Q : Flow → Shared → Prop} {E : Value → Shared → Prop} {s : Shared} {base : Heap} {L q : Addr} {m : Str → Option Value} {news : Led} {ob : Obj} (bits : List Nat) (F : Fr base L s.heap m) (N : News base L s.heap news) (hq : (q, ob) ∈ news)
    (h1 : Inner prog w A base L q ob bits E (exec S env)) (h2 : Inner prog w A base L q ob bits E (exec S env) → wpAny (model prog w) A (exec (.For tg it [S] els pos) env) Q E s) : wpAny (model prog w) A (exec (.For tg it [S] els pos) env) Q E s := h2 h1
theorem lines_TK : True := by
  k_with "call ref" => ((k_here; k_dflt (refine' CtrL.use (law_row_c _ _ _ _ ?c1 ?c2) ?k1 ?k2 ?k3 ?k4 ?k5 ?k6 ?kb ?k7 ?k8 ?_; (case k1 => k_asm); (case k2 => k_asm); (case k3 => k_asm); (case k4 => k_asm); (case k5 => k_asm); (case k6 => first | exact rfl | assumption); (case k7 => ktr_room); (case k8 => ktr_units); (case c1 => assumption); (case c2 => omega); (case kb => assumption)); intro v9 n9 h9 tk9 P9 F9 N9; obtain ⟨r9, vs9, ns9, m9, e1, e2, i9, b9, l9, x0⟩ := P9; subst e1; subst e2; (try dsimp only); (try k_sweep)))
  k_with "call ref" => ((k_here; k_dflt (refine' Ctr.use (law_next_c _ _ _ _ _ ?c1 ?c2 ?c3 ?c4) ?k1 ?k2 ?k3 ?k4 ?k5 ?k6 ?k7 ?k8 ?_; (case k1 => k_asm); (case k2 => k_asm); (case k3 => k_asm); (case k4 => k_asm); (case k5 => k_asm); (case k6 => first | exact rfl | assumption); (case k7 => ktr_room); (case k8 => ktr_units); (case c1 => assumption); (case c2 => assumption); (case c3 => omega); (case c4 => exact List.forall_mem_nil _)); intro v9 n9 h9 tk9 P9 F9 N9; obtain ⟨vs9, ns9, m9, x9, t9, e1, e2, i9, b9, l9, x0, x1⟩ := P9; subst e1; subst e2; (try dsimp only); (try k_sweep)))
  k_with "call ref" => ((k_here; k_dflt (refine' Ctr.use (law_next_2 _ _ _ _ _ _ ?c1 ?c2 ?c3 ?c4) ?k1 ?k2 ?k3 ?k4 ?k5 ?k6 ?k7 ?k8 ?_; (case k1 => k_asm); (case k2 => k_asm); (case k3 => k_asm); (case k4 => k_asm); (case k5 => k_asm); (case k6 => first | exact rfl | assumption); (case k7 => ktr_room); (case k8 => ktr_units); (case c1 => assumption); (case c2 => assumption); (case c3 => omega); (case c4 => assumption)); intro v9 n9 h9 tk9 P9 F9 N9; obtain ⟨vs9, ns9, m9, x9, t9, e1, e2, i9, b9, l9, x0, x1⟩ := P9; subst e1; subst e2; (try dsimp only); (try k_sweep)))
  k_with "call ref" => ((k_here; k_dflt (refine' Ctr.use (law_bits_c _ _ _ _ _ _ _ ?c1 ?c2 ?c3 ?c4 ?c5 ?c6) ?k1 ?k2 ?k3 ?k4 ?k5 ?k6 ?k7 ?k8 ?_; (case k1 => k_asm); (case k2 => k_asm); (case k3 => k_asm); (case k4 => k_asm); (case k5 => k_asm); (case k6 => first | exact rfl | assumption); (case k7 => ktr_room); (case k8 => ktr_units); (case c1 => assumption); (case c2 => assumption); (case c3 => omega); (case c4 => exact List.forall_mem_nil _); (case c5 => exact (wd_ok _).1); (case c6 => exact (wd_ok _).2)); intro v9 n9 h9 tk9 P9 F9 N9; obtain ⟨b9, ws9, bs9, n1, vs9, ns9, m9, e1, e2, i9, q9, l9, j9, w9, g9, x0, x1⟩ := P9; subst e1; subst e2; obtain ⟨bits9, e3, f9⟩ := quad_nat q9; subst e3; have l8 := wd_len l9; (try dsimp only); (try k_sweep)))
  k_with "call ref" => ((k_here; k_dflt (refine' Ctr.use (law_made_c _ _ _ _ _ ?c0 ?c1 ?c2 ?c3) ?k1 ?k2 ?k3 ?k4 ?k5 ?k6 ?k7 ?k8 ?_; (case k1 => k_asm); (case k2 => k_asm); (case k3 => k_asm); (case k4 => k_asm); (case k5 => k_asm); (case k6 => first | exact rfl | assumption); (case k7 => ktr_room); (case k8 => ktr_units); (case c0 => k_mem); (case c1 => assumption); (case c2 => assumption); (case c3 => omega)); intro v9 n9 h9 tk9 P9 F9 N9; obtain ⟨q9, t7, t8, t9, e1, e2, l9⟩ := P9; subst e1; subst e2; (try dsimp only); (try k_sweep)))
  k_with "call ref" => ((k_here; k_dflt (refine' Cal.useS (law_digits_1 _ _ _ _ _ _ ?c1 ?c2 ?c3 ?c4) ?k1 ?k2 ?k3 ?k4 ?k5 ?k6 ?k7 ?k8 ?_; (case k1 => k_asm); (case k2 => k_asm); (case k3 => k_asm); (case k4 => k_asm); (case k5 => k_asm); (case k6 => first | exact rfl | assumption); (case k7 => ktr_room); (case k8 => ktr_units); (case c1 => k_mem); (case c2 => assumption); (case c3 => assumption); (case c4 => omega)); intro t9 h9 tk9 F9 N9; (try dsimp only); (try k_sweep)))
  k_with "call ref" => ((k_here; k_dflt (refine' Cal.useS (law_digits_3 _ _ _ _ _ _ ?c1 ?c2 ?c3 ?c4) ?k1 ?k2 ?k3 ?k4 ?k5 ?k6 ?k7 ?k8 ?_; (case k1 => k_asm); (case k2 => k_asm); (case k3 => k_asm); (case k4 => k_asm); (case k5 => k_asm); (case k6 => first | exact rfl | assumption); (case k7 => ktr_room); (case k8 => ktr_units); (case c1 => k_mem); (case c2 => assumption); (case c3 => assumption); (case c4 => omega)); intro t9 h9 tk9 F9 N9; (try dsimp only); (try k_sweep)))
  k_with "call ref" => ((k_here; k_dflt (refine' Cal.useS (law_digits_4 _ _ _ _ _ _ ?c1 ?c2 ?c3 ?c4) ?k1 ?k2 ?k3 ?k4 ?k5 ?k6 ?k7 ?k8 ?_; (case k1 => k_asm); (case k2 => k_asm); (case k3 => k_asm); (case k4 => k_asm); (case k5 => k_asm); (case k6 => first | exact rfl | assumption); (case k7 => ktr_room); (case k8 => ktr_units); (case c1 => k_mem); (case c2 => assumption); (case c3 => assumption); (case c4 => omega)); intro t9 h9 tk9 F9 N9; (try dsimp only); (try k_sweep)))
  k_with "call ref" => ((k_here; k_dflt (refine' Cal.useS (binary1_c _ _ _ _ _ _ ?c1 ?c2 ?c3) ?k1 ?k2 ?k3 ?k4 ?k5 ?k6 ?k7 ?k8 ?_; (case k1 => k_asm); (case k2 => k_asm); (case k3 => k_asm); (case k4 => k_asm); (case k5 => k_asm); (case k6 => first | exact rfl | assumption); (case k7 => ktr_room); (case k8 => ktr_units); (case c3 => k_mem); (case c1 => assumption); (case c2 => omega)); intro t9 h9 tk9 F9 N9; (try dsimp only); (try k_sweep)))
  k_with "call ref" => ((k_here; k_dflt (refine' Cal.useS (octal_c _ _ _ _ _ _ ?c1 ?c2 ?c3) ?k1 ?k2 ?k3 ?k4 ?k5 ?k6 ?k7 ?k8 ?_; (case k1 => k_asm); (case k2 => k_asm); (case k3 => k_asm); (case k4 => k_asm); (case k5 => k_asm); (case k6 => first | exact rfl | assumption); (case k7 => ktr_room); (case k8 => ktr_units); (case c3 => k_mem); (case c1 => assumption); (case c2 => omega)); intro t9 h9 tk9 F9 N9; (try dsimp only); (try k_sweep)))
  k_with "call ref" => ((k_here; k_dflt (refine' Cal.useS (hex_c _ _ _ _ _ _ ?c1 ?c2 ?c3) ?k1 ?k2 ?k3 ?k4 ?k5 ?k6 ?k7 ?k8 ?_; (case k1 => k_asm); (case k2 => k_asm); (case k3 => k_asm); (case k4 => k_asm); (case k5 => k_asm); (case k6 => first | exact rfl | assumption); (case k7 => ktr_room); (case k8 => ktr_units); (case c3 => k_mem); (case c1 => assumption); (case c2 => omega)); intro t9 h9 tk9 F9 N9; (try dsimp only); (try k_sweep)))
  k_with "compareOp NotEq str str" => ((k_dflt (refine ne_str_same ?_)))
  k_with "compareOp NotEq ref ref" => ((k_dflt (refine' ne_three (News.isList ?k1 ?k2) (News.isList ?k4 ?k5) ?k7 ?_; (case k1 => assumption); (case k4 => assumption); (case k2 => exact mem0); (case k5 => exact mem1); (case k7 => ktr_units))))
  k_with "call ref" => ((k_here; k_dflt (refine' Cal.useS (padded_d_false _ _ _ _ _ _ _ _ ?c1 ?c2 ?c3 ?c4) ?k1 ?k2 ?k3 ?k4 ?k5 ?k6 ?k7 ?k8 ?_; (case k1 => k_asm); (case k2 => k_asm); (case k3 => k_asm); (case k4 => k_asm); (case k5 => k_asm); (case k6 => first | exact rfl | assumption); (case k7 => ktr_room); (case k8 => ktr_units); (case c4 => k_mem); (case c1 => assumption); (case c2 => omega); (case c3 => omega)); intro t9 h9 tk9 F9 N9; (try dsimp only); (try k_sweep)))
  k_with "call ref" => ((k_here; k_dflt (refine' Cal.useS (padded_d_true _ _ _ _ _ _ _ _ ?c1 ?c2 ?c3 ?c4) ?k1 ?k2 ?k3 ?k4 ?k5 ?k6 ?k7 ?k8 ?_; (case k1 => k_asm); (case k2 => k_asm); (case k3 => k_asm); (case k4 => k_asm); (case k5 => k_asm); (case k6 => first | exact rfl | assumption); (case k7 => ktr_room); (case k8 => ktr_units); (case c4 => k_mem); (case c1 => assumption); (case c2 => omega); (case c3 => omega)); intro t9 h9 tk9 F9 N9; (try dsimp only); (try k_sweep)))
  k_with "call ref" => ((k_here; k_dflt (refine' Cal.useS (law_short_c _ _ _ ?c1) ?k1 ?k2 ?k3 ?k4 ?k5 ?k6 ?k7 ?k8 ?_; (case k1 => k_asm); (case k2 => k_asm); (case k3 => k_asm); (case k4 => k_asm); (case k5 => k_asm); (case k6 => first | exact rfl | assumption); (case k7 => ktr_room); (case k8 => ktr_units); (case c1 => assumption)); intro t9 h9 tk9 F9 N9; (try dsimp only); (try k_sweep)))
  k_with "call ref" => ((k_here; k_dflt (refine' Cal.useS (law_number_c _ _ _ _ _ _ ?c1 ?c2 ?c3 ?c4 ?c5) ?k1 ?k2 ?k3 ?k4 ?k5 ?k6 ?k7 ?k8 ?_; (case k1 => k_asm); (case k2 => k_asm); (case k3 => k_asm); (case k4 => k_asm); (case k5 => k_asm); (case k6 => first | exact rfl | assumption); (case k7 => ktr_room); (case k8 => ktr_units); (case c1 => k_mem); (case c2 => assumption); (case c3 => assumption); (case c4 => omega); (case c5 => omega)); intro t9 h9 tk9 F9 N9; (try dsimp only); (try k_sweep)))
  k_with "call ref" => ((k_here; k_dflt (refine' Cal.useS (decimal_c _ _ _ _ _ _ _ ?c1 ?c2 ?c3 ?c4) ?k1 ?k2 ?k3 ?k4 ?k5 ?k6 ?k7 ?k8 ?_; (case k1 => k_asm); (case k2 => k_asm); (case k3 => k_asm); (case k4 => k_asm); (case k5 => k_asm); (case k6 => first | exact rfl | assumption); (case k7 => ktr_room); (case k8 => ktr_units); (case c4 => k_mem); (case c1 => assumption); (case c2 => omega); (case c3 => omega)); intro t9 h9 tk9 F9 N9; (try dsimp only); (try k_sweep)))
  k_with "call ref" => ((k_here; k_dflt (refine' Cal.useS (string_text_c _ _ _ _ _ _ ?c1 ?c2 ?c3) ?k1 ?k2 ?k3 ?k4 ?k5 ?k6 ?k7 ?k8 ?_; (case k1 => k_asm); (case k2 => k_asm); (case k3 => k_asm); (case k4 => k_asm); (case k5 => k_asm); (case k6 => first | exact rfl | assumption); (case k7 => ktr_room); (case k8 => ktr_units); (case c3 => k_mem); (case c1 => assumption); (case c2 => omega)); intro t9 h9 tk9 F9 N9; (try dsimp only); (try k_sweep)))
  k_with "call ref" => ((k_here; k_dflt (refine' Cal.useS (law_string_c _ _ _ _ _ ?c1 ?c2 ?c3 ?c4) ?k1 ?k2 ?k3 ?k4 ?k5 ?k6 ?k7 ?k8 ?_; (case k1 => k_asm); (case k2 => k_asm); (case k3 => k_asm); (case k4 => k_asm); (case k5 => k_asm); (case k6 => first | exact rfl | assumption); (case k7 => ktr_room); (case k8 => ktr_units); (case c1 => k_mem); (case c2 => assumption); (case c3 => assumption); (case c4 => omega)); intro t9 h9 tk9 F9 N9; (try dsimp only); (try k_sweep)))
  k_with "call ref" => ((k_here; k_dflt (refine' Cal.useI (width_l _ _ _ ?c1 ?c2) ?k1 ?k2 ?k3 ?k4 ?k5 ?k6 ?k7 ?k8 ?_; (case k1 => k_asm); (case k2 => k_asm); (case k3 => k_asm); (case k4 => k_asm); (case k5 => k_asm); (case k6 => first | exact rfl | assumption); (case k7 => ktr_room); (case k8 => ktr_units); (case c1 => omega); (case c2 => omega)); intro t9 h9 tk9 F9 N9; (try dsimp only); (try k_sweep)))
  k_with "exec If" => (((rename Hold True => hMk1); refine Hold.out ?_))
  k_with "storeName" => ((rw [cast_len]))
  k_with "call ref" => ((k_here; k_dflt (refine' Cal.useI (width_c _ _ _ _ ?c1 ?c2) ?k1 ?k2 ?k3 ?k4 ?k5 ?k6 ?k7 ?k8 ?_; (case k1 => k_asm); (case k2 => k_asm); (case k3 => k_asm); (case k4 => k_asm); (case k5 => k_asm); (case k6 => first | exact rfl | assumption); (case k7 => ktr_room); (case k8 => ktr_units); (case c1 => omega); (case c2 => omega)); intro t9 h9 tk9 F9 N9; (try dsimp only); (try k_sweep)))
  k_with "call type:str" => ((k_dflt first | refine str_U (by omega) ?_ | refine str_S (toNat_neg (by omega)) (by omega) ?_))
  k_with "call builtin:len" => (first | with_reducible refine len_U (by omega) ?_ | with_reducible refine len_S (by omega) ?_ | with_reducible refine len_D (by omega) ?_)
  k_with "compareOp NotEq int int" => ((k_dflt (refine ne_int_same (by exact rfl) ?_)))
  k_with "compareOp Eq str str" => ((k_dflt (refine eq_str_same ?_)))
  k_with "binaryOp Mult str int" => ((k_dflt (refine mul_space (Nat.le_trans (decW_fit (by omega) (by omega)) (by decide)) (Nat.le_trans (low_decT _ (by omega)) (by decide)) ?_); intro t9 k9))
  k_with "binaryOp Add str str" => ((k_dflt (refine add_T (rep_len (decW_fit (by omega) (by omega)) (low_decT _ (by omega))) ?_); intro t9 k9))
  k_with "call ref" => (k_here; k_dflt (refine' Cal.useS (hp0 _ _ _ ?c1) ?k1 ?k2 ?k3 ?k4 ?k5 ?k6 ?k7 ?k8 ?_; (case k1 => k_asm); (case k2 => k_asm); (case k3 => k_asm); (case k4 => k_asm); (case k5 => k_asm); (case k6 => first | exact rfl | assumption); (case k7 => ktr_room); (case k8 => ktr_units); (case c1 => k_mem)); intro t9 h9 tk9 F9 N9; (try dsimp only); (try k_sweep))
  k_with "call ref" => (k_here; k_dflt (refine' Cal.useS (hp1 _ _ _ ?c1) ?k1 ?k2 ?k3 ?k4 ?k5 ?k6 ?k7 ?k8 ?_; (case k1 => k_asm); (case k2 => k_asm); (case k3 => k_asm); (case k4 => k_asm); (case k5 => k_asm); (case k6 => first | exact rfl | assumption); (case k7 => ktr_room); (case k8 => ktr_units); (case c1 => k_mem)); intro t9 h9 tk9 F9 N9; (try dsimp only); (try k_sweep))
  k_with "exec For Name List cons nil" => ((rename Hold (1 = 1) => hMk3); refine Hold.out ?_)
  k_with "exec For Name List cons nil" => (k_dflt (first | (refine' hin (Str.ofString "b") 1 _ _ _ _ _ _ _ _ (fun t4 sg nw hq => padded_b_false _ _ _ _ _ _ _ _ h4 hl.1 (by omega) hq) (fun t4 sg nw hq => padded_b_true _ _ _ _ _ _ _ _ h4 hl.1 (by omega) hq) (dig_room (by decide) (by omega)) ?f1 ?n1 ?q1 ?e1 ?e2 ?e3 ?_; (case f1 => k_asm); (case e1 => with_unfolding_all rfl)) | (refine' hin (Str.ofString "o") 3 _ _ _ _ _ _ _ _ (fun t4 sg nw hq => padded_o_false _ _ _ _ _ _ _ _ h4 hl.1 (by omega) hq) (fun t4 sg nw hq => padded_o_true _ _ _ _ _ _ _ _ h4 hl.1 (by omega) hq) (dig_room (by decide) (by omega)) ?f1 ?n1 ?q1 ?e1 ?e2 ?e3 ?_; (case f1 => k_asm); (case e1 => with_unfolding_all rfl)) | (refine' hin (Str.ofString "h") 4 _ _ _ _ _ _ _ _ (fun t4 sg nw hq => padded_h_false _ _ _ _ _ _ _ _ h4 hl.1 (by omega) hq) (fun t4 sg nw hq => padded_h_true _ _ _ _ _ _ _ _ h4 hl.1 (by omega) hq) (dig_room (by decide) (by omega)) ?f1 ?n1 ?q1 ?e1 ?e2 ?e3 ?_; (case f1 => k_asm); (case e1 => with_unfolding_all rfl))); (case n1 => k_asm); (case q1 => k_mem); (case e2 => with_unfolding_all rfl); (case e3 => with_unfolding_all rfl); intro h9 tk9 F9 N9; (try dsimp only); (try k_sweep))
  k_with "pyIter ref" => ((rename Hold (2 = 2) => hMk4); refine Hold.out ?_)
  k_with "exec Assign" => ((rename Hold (3 = 3) => hMk5); refine Hold.out ?_)
  k_with "exec For Tuple Call cons nil" => ((rename Hold (0 = 0) => hMk2); refine Hold.out ?_)
  trivial
theorem walked : PySem.Challenge.rw_nn0301_01.Holds := hd (by
  k_go0
  show wpAny _ _ _ _ _ _
  k_fold
  rename Fr _ _ _ _ => lF0
  rename News _ _ _ _ => lN0
  rename Below _ _ _ _ => lB0
  dsimp only [PyProof.Rows.Top.heap] at lF0 lN0 lB0
  have hMk1 : Hold True := ⟨trivial⟩
  k_steps
  refine Hold.mk ?_
  rename Hold True => hMk1
  rename Fr _ _ _ _ => lF'
  rename News _ _ _ _ => lN'
  refine join_bits2 lF' lN' ?one ?two
  case one =>
    intro Q' hQ
    clear hMk1
    k_steps
    · have N9 := cb_drop (by assumption) (fun p hp => by rw [List.mem_singleton.mp hp]; exact mem0)
      refine hQ _ _ _ _ (List.map (· % 2) _) _ (by assumption) N9 (by rw [← mod_two]; assumption) (four_two _) (len_bits (by assumption))
    · have N9 := cb_drop (by assumption) (fun p hp => by rw [List.mem_singleton.mp hp]; exact mem0)
      refine hQ _ _ _ _ _ _ (fr_same (by exact rfl) (by assumption)) N9 (by assumption) (by assumption) (by assumption)
  case two =>
    clear lN' hMk1 lF'
    intro m0 h' tk' D ws bits n F1 N1 hi h4 hl
    dsimp only
    try k_fold
    have hMk2 : Hold (0 = 0) := ⟨rfl⟩
    k_steps
    refine Hold.mk ?_
    rename Fr _ _ _ _ => lF'
    rename News _ _ _ _ => lN'
    clear hMk2
    have N2 := cb_drop lN' (led_cons (led_cons (led_cons (l := []) (fun _ h => nomatch h) (mem_step (mem_step mem1))) (mem_step mem1)) mem1)
    obtain ⟨m1, F2⟩ := fr_gen4 (a := Str.ofString "bits") (b := Str.ofString "v") (c := Str.ofString "wide") (d := Str.ofString "texts") (by with_unfolding_all rfl) (by with_unfolding_all rfl) (by with_unfolding_all rfl) (by with_unfolding_all rfl) lF'
    clear lF' lN'
    refine with_inner (ob := bvec bits _ _ _) bits F2 N2 mem1 ?inner ?outer
    case inner =>
      clear F2 N2
      intro kd k tk tt m news s h tk0 Q hp0 hp1 hlen F N hm e1 e2 e3 hret
      try k_fold
      k_steps
      rename Fr _ _ _ _ => lF2
      rename News _ _ _ _ => lN2
      rename ∀ p ∈ news, p.1 < _ => lt0
      try clear F
      try clear N
      (with_unfolding_all refine iter_listUnr (lo := listOf #[Value.bool false, Value.bool true] 0) (vs := [Value.bool false, Value.bool true]) (by rfl) lF2 lN2 mem0 (by rfl) (by rfl) ?_)
      clear lF2 lN2
      intro I lt1
      refine list_bools mem0 (fun p hp => Nat.ne_of_lt (lt1 p hp)) (fun m' => m' (Str.ofString "kind") = some (.str kd tk) ∧ m' (Str.ofString "text") = some (.str (T (digT k bits)) tt) ∧ m' (Str.ofString "v") = some (.ref _)) ⟨e1, e2, e3⟩ (fun m' v h => ⟨upd_ne (by decide +kernel) h.1, upd_ne (by decide +kernel) h.2.1, upd_ne (by decide +kernel) h.2.2⟩) ?turn ?done
      case turn =>
        intro sg m' it h2 tk2 Q2 hp F2 N2 hret2
        obtain ⟨f1, f2, f3⟩ := hp
        replace F2 := fr_in (m := fun y => if y = Str.ofString "signed" then some (.bool sg) else m' y) f1 f2 f3 F2
        try k_fold
        k_steps
        exact hret2 _ _ (fr_back (m := fun y => if y = Str.ofString "signed" then some (.bool sg) else m' y) f1 f2 f3 (by assumption)) (by assumption)
      case done =>
        intro h2 tk2 F2 N2
        refine hret _ _ ?_ (cb_drop N2 fun p hp => .tail _ hp)
        have e : (fun y => if y = Str.ofString "signed" then some (Value.bool true) else if y = Str.ofString "signed" then some (Value.bool false) else m y) = (fun y => if y = Str.ofString "signed" then some (Value.bool true) else m y) := funext fun y => by
          by_cases h : y = Str.ofString "signed"
          · rw [if_pos h, if_pos h]
          · rw [if_neg h, if_neg h, if_neg h]
        rw [← e]
        exact F2
    case outer =>
      intro hin
      have hMk3 : Hold (1 = 1) := ⟨rfl⟩
      k_steps
      refine Hold.mk ?_
      rename Fr _ _ _ _ => lF3
      rename News _ _ _ _ => lN3
      clear hMk3 hin
      have N3 := cb_drop lN3 (led_cons (p := (_, bvec bits _ _ _)) (led_cons (p := (D, listOf ws.toArray n)) (l := []) (fun _ h => nomatch h) (by k_mem)) (by k_mem))
      obtain ⟨m2, F3⟩ := fr_gen3 (a := Str.ofString "bits") (b := Str.ofString "v") (c := Str.ofString "wide") (by with_unfolding_all rfl) (by with_unfolding_all rfl) (by with_unfolding_all rfl) lF3
      clear lF3 lN3
      have hMk4 : Hold (2 = 2) := ⟨rfl⟩
      k_steps
      refine Hold.mk ?_
      rename Fr _ _ _ _ => lF4
      rename News _ _ _ _ => lN4
      clear hMk4
      (with_unfolding_all refine iter_listUnr (lo := listOf #[Value.bool false, Value.bool true] 0) (vs := [Value.bool false, Value.bool true]) (by rfl) lF4 lN4 mem0 (by rfl) (by rfl) ?_)
      clear lF4 lN4
      intro I lt1
      refine list_bools2 mem0 (fun p hp => Nat.ne_of_lt (lt1 p hp)) (fun m' => m' (Str.ofString "bits") = some (.ref D) ∧ m' (Str.ofString "v") = some (.ref _) ∧ ∃ t, m' (Str.ofString "wide") = some (.int (bits.length : Int) t)) ⟨by with_unfolding_all rfl, by with_unfolding_all rfl, _, by with_unfolding_all rfl⟩ (fun m' v h => ⟨upd_ne (by decide +kernel) h.1, upd_ne (by decide +kernel) h.2.1, h.2.2.elim fun t h => ⟨t, upd_ne (by decide +kernel) h⟩⟩) ?turn ?done
      case turn =>
        intro sg m' it h2 tk2 Q2 hp F2 N2 hret2
        obtain ⟨f1, f2, t3, f3⟩ := hp
        replace F2 := fr_in (m := fun y => if y = Str.ofString "signed" then some (.bool sg) else m' y) f1 f2 f3 F2
        clear f1 f2 f3
        try k_fold
        have hMk5 : Hold (3 = 3) := ⟨rfl⟩
        k_steps
        refine Hold.mk ?_
        rename Fr _ _ _ _ => lF5
        rename News _ _ _ _ => lN5
        clear hMk5
        refine join_long bits.length sg lF5 lN5 ?a1 ?a2
        case a1 =>
          intro Q' hQ
          k_steps
          all_goals first
            | (rename sg = true => hs; subst hs; exact hQ _ _ _ (by assumption) (by assumption))
            | (rename sg = false => hs; subst hs; exact hQ _ _ _ (by assumption) (by assumption))
        case a2 =>
          clear lF5 lN5
          intro h6 tk6 u6 F6 N6
          dsimp only
          k_steps
          refine hret2 _ _ _ ?pmLast (by assumption) (by assumption)
          exact ⟨by with_unfolding_all rfl, by with_unfolding_all rfl, _, by with_unfolding_all rfl⟩
      case done =>
        intro h2 tk2 m2 hp F2 N2
        obtain ⟨f1, f2, t3, f3⟩ := hp
        replace F2 := fr_in f1 f2 f3 F2
        clear f1 f2 f3
        k_steps)
end Mine
end

set_option maxRecDepth 100000 in
set_option maxHeartbeats 8000000 in
theorem PySem.Challenge.cw_nn0301_01_holds : PySem.Challenge.rw_nn0301_01.Holds :=
  Mine.walked
