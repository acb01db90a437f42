import PyProof.Rows.All
import Wide.All
import OpenK.AllK
import Wide.FinOn
import HandS.ForMost
import HandS.ForExc
import HandS.IsInst
import HandS.Walk
import HandS.Rev
import HandS.RevRange
import HandS.SetFor
import HandS.Deep
import HandS.Wide
import PySem.Challenge.RW_halfrows_k01_words_and_marks
set_option Elab.async false
set_option maxRecDepth 100000
set_option linter.all false
namespace Hf
/-! Plain lists of bits: words of 32, marks, ones counted. -/
def wordOf : List Bool → Nat
  | [] => 0
  | b :: l => b.toNat + 2 * wordOf l
def cnt (l : List Bool) : Nat := l.count true
def popc : Nat → Nat → Nat
  | 0, _ => 0
  | k + 1, w => w % 2 + popc k (w / 2)

theorem toNat_lt2 (b : Bool) : b.toNat < 2 := by cases b <;> decide
theorem wordOf_lt : ∀ l : List Bool, wordOf l < 2 ^ l.length
  | [] => by decide
  | b :: l => by
    have h := wordOf_lt l
    have hb := toNat_lt2 b
    rw [List.length_cons, Nat.pow_succ]
    show b.toNat + 2 * wordOf l < _
    omega
theorem wordOf_app : ∀ l m : List Bool, wordOf (l ++ m) = wordOf l + 2 ^ l.length * wordOf m
  | [], m => by simp [wordOf]
  | b :: l, m => by
    have h := wordOf_app l m
    show b.toNat + 2 * wordOf (l ++ m) = b.toNat + 2 * wordOf l + _
    rw [h, List.length_cons, Nat.pow_succ, Nat.mul_add, Nat.add_assoc]
    congr 2
    rw [← Nat.mul_assoc, Nat.mul_comm 2]
theorem wordOf_bit : ∀ (l : List Bool) (i : Nat), wordOf l / 2 ^ i % 2 = (l.getD i false).toNat
  | [], i => by simp [wordOf]
  | b :: l, 0 => by
    have hb := toNat_lt2 b
    show (b.toNat + 2 * wordOf l) / 2 ^ 0 % 2 = b.toNat
    omega
  | b :: l, i + 1 => by
    have h := wordOf_bit l i
    have hb := toNat_lt2 b
    have e : (b.toNat + 2 * wordOf l) / 2 ^ (i + 1) = wordOf l / 2 ^ i := by
      have e2 : (b.toNat + 2 * wordOf l) / 2 = wordOf l := by omega
      rw [Nat.pow_succ', ← Nat.div_div_eq_div_mul, e2]
    show (b.toNat + 2 * wordOf l) / 2 ^ (i + 1) % 2 = (l.getD i false).toNat
    rw [e, h]
theorem wordOf_mod : ∀ (l : List Bool) (k : Nat), wordOf l % 2 ^ k = wordOf (l.take k) := by
  intro l k
  by_cases h : k ≤ l.length
  · have e : wordOf l = wordOf (l.take k) + 2 ^ k * wordOf (l.drop k) := by
      have := wordOf_app (l.take k) (l.drop k)
      rw [List.take_append_drop, List.length_take, Nat.min_eq_left h] at this
      exact this
    have lt := wordOf_lt (l.take k)
    rw [List.length_take, Nat.min_eq_left h] at lt
    rw [e, Nat.add_mul_mod_self_left, Nat.mod_eq_of_lt lt]
  · have h' : l.length ≤ k := by omega
    rw [List.take_of_length_le h']
    exact Nat.mod_eq_of_lt (Nat.lt_of_lt_of_le (wordOf_lt l) (Nat.pow_le_pow_right (by decide) h'))
theorem popc_zero : ∀ k, popc k 0 = 0
  | 0 => rfl
  | k + 1 => by show 0 % 2 + popc k (0 / 2) = 0; rw [Nat.zero_div, popc_zero k]
theorem cnt_cons (b : Bool) (l : List Bool) : cnt (b :: l) = b.toNat + cnt l := by
  cases b <;> simp [cnt] <;> omega
theorem cnt_app (l m : List Bool) : cnt (l ++ m) = cnt l + cnt m := List.count_append ..
theorem cnt_le (l : List Bool) : cnt l ≤ l.length := List.count_le_length ..
theorem popc_wordOf : ∀ (l : List Bool) (k : Nat), l.length ≤ k → popc k (wordOf l) = cnt l
  | [], k, _ => popc_zero k
  | b :: l, 0, h => by simp at h
  | b :: l, k + 1, h => by
    have hb := toNat_lt2 b
    have ih := popc_wordOf l k (by simpa using h)
    show (b.toNat + 2 * wordOf l) % 2 + popc k ((b.toNat + 2 * wordOf l) / 2) = _
    have e1 : (b.toNat + 2 * wordOf l) % 2 = b.toNat := by omega
    have e2 : (b.toNat + 2 * wordOf l) / 2 = wordOf l := by omega
    rw [e1, e2, ih, cnt_cons]
theorem popc_add : ∀ (a b w : Nat), popc (a + b) w = popc a (w % 2 ^ a) + popc b (w / 2 ^ a)
  | 0, b, w => by simp [popc]
  | a + 1, b, w => by
    have h := popc_add a b (w / 2)
    have e : a + 1 + b = (a + b) + 1 := by omega
    rw [e]
    show w % 2 + popc (a + b) (w / 2) = (w % 2 ^ (a + 1) % 2 + popc a (w % 2 ^ (a + 1) / 2)) + popc b (w / 2 ^ (a + 1))
    have e1 : w % 2 ^ (a + 1) % 2 = w % 2 := Nat.mod_mod_of_dvd _ ⟨2 ^ a, by rw [Nat.pow_succ, Nat.mul_comm]⟩
    have e2 : w % 2 ^ (a + 1) / 2 = w / 2 % 2 ^ a := by
      rw [Nat.pow_succ, Nat.mul_comm, Nat.mod_mul_right_div_self]
    have e3 : w / 2 ^ (a + 1) = w / 2 / 2 ^ a := by rw [Nat.pow_succ, Nat.mul_comm, Nat.div_div_eq_div_mul]
    rw [e1, e2, e3, h]
    omega

/-! ### the bits of a word counted side by side -/
theorem and_split {x m y n : Nat} (hx : x < 256) (hm : m < 256) : (x + 256 * y) &&& (m + 256 * n) = (x &&& m) + 256 * (y &&& n) := by
  have h1 : x + 256 * y = 2 ^ 8 * y + x := by omega
  have h2 : m + 256 * n = 2 ^ 8 * n + m := by omega
  have h3 : (x &&& m) + 256 * (y &&& n) = 2 ^ 8 * (y &&& n) + (x &&& m) := by omega
  have hxm : x &&& m < 2 ^ 8 := Nat.lt_of_le_of_lt Nat.and_le_left hx
  rw [h1, h2, h3]
  apply Nat.eq_of_testBit_eq
  intro i
  rw [Nat.testBit_and, Nat.testBit_two_pow_mul_add _ hx, Nat.testBit_two_pow_mul_add _ hm, Nat.testBit_two_pow_mul_add _ hxm]
  split <;> rw [Nat.testBit_and]
def ga (x : Nat) : Nat := x - (x / 2 &&& 0x55)
def gb (x : Nat) : Nat := (ga x &&& 0x33) + (ga x / 4 &&& 0x33)
def gc (x : Nat) : Nat := (gb x + gb x / 16) &&& 0x0F
theorem t1 : ∀ x : Fin 256, ∀ t : Fin 2, ((x.val / 2 + 128 * t.val) &&& 0x55) = (x.val / 2 &&& 0x55) := by decide +kernel
theorem t2 : ∀ x : Fin 256, (x.val / 2 &&& 0x55) ≤ x.val := by decide +kernel
theorem t3 : ∀ x : Fin 256, ∀ t : Fin 4, ((x.val / 4 + 64 * t.val) &&& 0x33) = (x.val / 4 &&& 0x33) := by decide +kernel
theorem t4 : ∀ x : Fin 256, ga x.val < 256 := by decide +kernel
theorem t5 : ∀ x : Fin 256, gb x.val ≤ 0x44 ∧ gb x.val % 16 ≤ 4 := by decide +kernel
theorem t6 : ∀ x : Fin 256, gc x.val = popc 8 x.val ∧ gc x.val ≤ 8 := by decide +kernel
theorem t7 : ∀ x : Fin 256, ∀ t : Fin 8, ((x.val + 16 * t.val) &&& 0x0F) = (x.val &&& 0x0F) := by decide +kernel
theorem s1 {x y n : Nat} (hx : x < 256) : (x + 256 * y) / 2 &&& (0x55 + 256 * n) = (x / 2 &&& 0x55) + 256 * (y / 2 &&& n) := by
  have e : (x + 256 * y) / 2 = (x / 2 + 128 * (y % 2)) + 256 * (y / 2) := by omega
  rw [e, and_split (by omega) (by decide), t1 ⟨x, hx⟩ ⟨y % 2, by omega⟩]
theorem s3 {x y n : Nat} (hx : x < 256) : (x + 256 * y) / 4 &&& (0x33 + 256 * n) = (x / 4 &&& 0x33) + 256 * (y / 4 &&& n) := by
  have e : (x + 256 * y) / 4 = (x / 4 + 64 * (y % 4)) + 256 * (y / 4) := by omega
  rw [e, and_split (by omega) (by decide), t3 ⟨x, hx⟩ ⟨y % 4, by omega⟩]
theorem s5 {x y n : Nat} (hx : x ≤ 0x44) (hy : y % 16 ≤ 4) : (x + 256 * y) + (x + 256 * y) / 16 &&& (0x0F + 256 * n) = ((x + x / 16) &&& 0x0F) + 256 * ((y + y / 16) &&& n) := by
  have e : (x + 256 * y) + (x + 256 * y) / 16 = (x + x / 16 + 16 * (y % 16)) + 256 * (y + y / 16) := by omega
  rw [e, and_split (by omega) (by decide), t7 ⟨x + x / 16, by omega⟩ ⟨y % 16, by omega⟩]
def swar (w : Nat) : Nat :=
  let a := w - (w / 2 &&& 0x55555555)
  let b := (a &&& 0x33333333) + (a / 4 &&& 0x33333333)
  let c := (b + b / 16) &&& 0x0F0F0F0F
  let d := c + c / 256
  (d + d / 65536) &&& 0x3F
theorem swarA {x y z u : Nat} (hx : x < 256) (hy : y < 256) (hz : z < 256) (hu : u < 256) : (x + 256 * (y + 256 * (z + 256 * u))) - ((x + 256 * (y + 256 * (z + 256 * u))) / 2 &&& 0x55555555) = ga x + 256 * (ga y + 256 * (ga z + 256 * ga u)) := by
  have e : (0x55555555 : Nat) = 0x55 + 256 * (0x55 + 256 * (0x55 + 256 * 0x55)) := by decide
  have a1 := t2 ⟨x, hx⟩
  have a2 := t2 ⟨y, hy⟩
  have a3 := t2 ⟨z, hz⟩
  have a4 := t2 ⟨u, hu⟩
  rw [e, s1 hx, s1 hy, s1 hz]
  simp only [ga]
  simp only at a1 a2 a3 a4
  omega
theorem swarB {x y z u : Nat} (hx : x < 256) (hy : y < 256) (hz : z < 256) : ((x + 256 * (y + 256 * (z + 256 * u))) &&& 0x33333333) + ((x + 256 * (y + 256 * (z + 256 * u))) / 4 &&& 0x33333333) =
    ((x &&& 0x33) + (x / 4 &&& 0x33)) + 256 * (((y &&& 0x33) + (y / 4 &&& 0x33)) + 256 * (((z &&& 0x33) + (z / 4 &&& 0x33)) + 256 * ((u &&& 0x33) + (u / 4 &&& 0x33)))) := by
  have e : (0x33333333 : Nat) = 0x33 + 256 * (0x33 + 256 * (0x33 + 256 * 0x33)) := by decide
  rw [e, s3 hx, s3 hy, s3 hz, and_split hx (by decide), and_split hy (by decide), and_split hz (by decide)]
  omega
theorem swarC {x y z u : Nat} (hx : x ≤ 0x44) (hy : y ≤ 0x44) (hz : z ≤ 0x44) (my : y % 16 ≤ 4) (mz : z % 16 ≤ 4) (mu : u % 16 ≤ 4) : ((x + 256 * (y + 256 * (z + 256 * u))) + (x + 256 * (y + 256 * (z + 256 * u))) / 16) &&& 0x0F0F0F0F =
    ((x + x / 16) &&& 0x0F) + 256 * (((y + y / 16) &&& 0x0F) + 256 * (((z + z / 16) &&& 0x0F) + 256 * ((u + u / 16) &&& 0x0F))) := by
  have e : (0x0F0F0F0F : Nat) = 0x0F + 256 * (0x0F + 256 * (0x0F + 256 * 0x0F)) := by decide
  rw [e, s5 hx (by omega), s5 hy (by omega), s5 hz (by omega)]
theorem swarD {x y z u : Nat} (hx : x ≤ 8) (hy : y ≤ 8) (hz : z ≤ 8) (hu : u ≤ 8) : (x + 256 * (y + 256 * (z + 256 * u)) + (x + 256 * (y + 256 * (z + 256 * u))) / 256 + (x + 256 * (y + 256 * (z + 256 * u)) + (x + 256 * (y + 256 * (z + 256 * u))) / 256) / 65536) % 64 = x + y + z + u := by
  have e1 : (x + 256 * (y + 256 * (z + 256 * u))) / 256 = y + 256 * (z + 256 * u) := by omega
  rw [e1]
  have e2 : (x + 256 * (y + 256 * (z + 256 * u)) + (y + 256 * (z + 256 * u))) / 65536 = z + u + 256 * u := by omega
  rw [e2]
  omega
theorem swar_eq {w : Nat} (h : w < 2 ^ 32) : swar w = popc 32 w := by
  obtain ⟨x, hx⟩ : ∃ x, x = w % 256 := ⟨_, rfl⟩
  obtain ⟨y, hy⟩ : ∃ y, y = w / 256 % 256 := ⟨_, rfl⟩
  obtain ⟨z, hz⟩ : ∃ z, z = w / 65536 % 256 := ⟨_, rfl⟩
  obtain ⟨u, hu⟩ : ∃ u, u = w / 16777216 := ⟨_, rfl⟩
  have ew : w = x + 256 * (y + 256 * (z + 256 * u)) := by omega
  have lx : x < 256 := by omega
  have ly : y < 256 := by omega
  have lz : z < 256 := by omega
  have lu : u < 256 := by omega
  obtain ⟨bx, mx⟩ := t5 ⟨x, lx⟩
  obtain ⟨by', my⟩ := t5 ⟨y, ly⟩
  obtain ⟨bz, mz⟩ := t5 ⟨z, lz⟩
  obtain ⟨bu, mu⟩ := t5 ⟨u, lu⟩
  obtain ⟨px, qx⟩ := t6 ⟨x, lx⟩
  obtain ⟨py, qy⟩ := t6 ⟨y, ly⟩
  obtain ⟨pz, qz⟩ := t6 ⟨z, lz⟩
  obtain ⟨pu, qu⟩ := t6 ⟨u, lu⟩
  have ep : popc 32 w = popc 8 x + popc 8 y + popc 8 z + popc 8 u := by
    have e1 : (32 : Nat) = 8 + 24 := rfl
    have e2 : (24 : Nat) = 8 + 16 := rfl
    have e3 : (16 : Nat) = 8 + 8 := rfl
    rw [e1, popc_add, e2, popc_add 8 16, e3, popc_add 8 8]
    have f1 : w % 2 ^ 8 = x := by omega
    have f2 : w / 2 ^ 8 % 2 ^ 8 = y := by omega
    have f3 : w / 2 ^ 8 / 2 ^ 8 % 2 ^ 8 = z := by omega
    have f4 : w / 2 ^ 8 / 2 ^ 8 / 2 ^ 8 = u := by omega
    rw [f1, f2, f3, f4]
    omega
  simp only at px py pz pu qx qy qz qu bx by' bz bu mx my mz mu
  rw [ep, ← px, ← py, ← pz, ← pu]
  unfold swar
  simp only
  rw [ew, swarA lx ly lz lu, swarB (t4 ⟨x, lx⟩) (t4 ⟨y, ly⟩) (t4 ⟨z, lz⟩)]
  show (_ : Nat) = _
  have eC := swarC (x := gb x) (y := gb y) (z := gb z) (u := gb u) bx by' bz my mz mu
  simp only [gb] at eC
  rw [eC]
  have e63 : ∀ n : Nat, n &&& 63 = n % 64 := fun n => Nat.and_two_pow_sub_one_eq_mod n 6
  rw [e63]
  exact swarD qx qy qz qu
/-- how many words -/
def wn (n : Nat) : Nat := (n + 31) / 32
def words (l : List Bool) : List Nat := (List.range (wn l.length)).map fun k => wordOf ((l.drop (32 * k)).take 32)
def marks (l : List Bool) : List Nat := (List.range (wn l.length)).map fun k => cnt (l.take (32 * k))
theorem words_len (l : List Bool) : (words l).length = wn l.length := by simp [words]
theorem marks_len (l : List Bool) : (marks l).length = wn l.length := by simp [marks]
theorem words_at {l : List Bool} {k : Nat} (h : k < wn l.length) : (words l)[k]? = some (wordOf ((l.drop (32 * k)).take 32)) := by
  simp [words, h]
theorem marks_at {l : List Bool} {k : Nat} (h : k < wn l.length) : (marks l)[k]? = some (cnt (l.take (32 * k))) := by
  simp [marks, h]
theorem chunk_len (l : List Bool) (k : Nat) : ((l.drop (32 * k)).take 32).length ≤ 32 := by simp; omega
theorem word_lt (l : List Bool) (k : Nat) : wordOf ((l.drop (32 * k)).take 32) < 2 ^ 32 :=
  Nat.lt_of_lt_of_le (wordOf_lt _) (Nat.pow_le_pow_right (by decide) (chunk_len l k))
theorem words_lt {l : List Bool} {w : Nat} (h : w ∈ words l) : w < 2 ^ 32 := by
  obtain ⟨k, _, rfl⟩ := List.mem_map.mp h
  exact word_lt l k
/-- a word begun -/
theorem words_new {l : List Bool} (h : l.length % 32 = 0) (b : Bool) : words (l ++ [b]) = words l ++ [b.toNat] := by
  have e : wn (l ++ [b]).length = wn l.length + 1 := by simp [wn]; omega
  unfold words
  rw [e, List.range_succ, List.map_append]
  congr 1
  · apply List.map_congr_left
    intro k hk
    have hk := List.mem_range.mp hk
    have hk2 : 32 * k + 32 ≤ l.length := by unfold wn at hk; omega
    rw [List.drop_append_of_le_length (by omega), List.take_append_of_le_length (by rw [List.length_drop]; omega)]
  · have e2 : 32 * wn l.length = l.length := by unfold wn; omega
    show [wordOf (((l ++ [b]).drop (32 * wn l.length)).take 32)] = [b.toNat]
    rw [e2, List.drop_left]
    cases b <;> rfl
/-- a word that goes on -/
theorem words_on {l : List Bool} (h : l.length % 32 ≠ 0) (b : Bool) : words (l ++ [b]) = (words l).set (wn l.length - 1) (wordOf (l.drop (32 * (wn l.length - 1))) + b.toNat * 2 ^ (l.length % 32)) := by
  have e : wn (l ++ [b]).length = wn l.length := by simp [wn]; omega
  have p : 0 < wn l.length := by unfold wn; omega
  apply List.ext_getElem?
  intro k
  by_cases hk : k < wn l.length
  · rw [words_at (by rw [e]; exact hk), List.getElem?_set]
    by_cases hl : k = wn l.length - 1
    · subst hl
      rw [if_pos rfl, if_pos (by rw [words_len]; exact hk)]
      have lo : 32 * (wn l.length - 1) ≤ l.length := by unfold wn; omega
      have hd : (l.drop (32 * (wn l.length - 1))).length = l.length % 32 := by rw [List.length_drop]; unfold wn; omega
      rw [List.drop_append_of_le_length lo, List.take_of_length_le (by simp [hd]; omega), wordOf_app, hd]
      cases b <;> simp [wordOf]
    · rw [if_neg (fun z => hl z.symm), words_at hk]
      have hk2 : 32 * k + 32 ≤ l.length := by unfold wn at hk hl; omega
      rw [List.drop_append_of_le_length (by omega), List.take_append_of_le_length (by rw [List.length_drop]; omega)]
  · rw [List.getElem?_eq_none (by rw [words_len, e]; omega), List.getElem?_eq_none (by rw [List.length_set, words_len]; omega)]
theorem words_last {l : List Bool} (h : l.length % 32 ≠ 0) : (words l)[wn l.length - 1]? = some (wordOf (l.drop (32 * (wn l.length - 1)))) := by
  rw [words_at (by unfold wn; omega), List.take_of_length_le]
  rw [List.length_drop]
  unfold wn
  omega
theorem last_lt {l : List Bool} (h : l.length % 32 ≠ 0) : wordOf (l.drop (32 * (wn l.length - 1))) < 2 ^ (l.length % 32) := by
  have e : (l.drop (32 * (wn l.length - 1))).length = l.length % 32 := by rw [List.length_drop]; unfold wn; omega
  have := wordOf_lt (l.drop (32 * (wn l.length - 1)))
  rwa [e] at this
/-- the bit at a place, out of its word -/
theorem bit_of {l : List Bool} {i : Nat} (_h : i < l.length) : wordOf ((l.drop (32 * (i / 32))).take 32) / 2 ^ (i % 32) % 2 = (l.getD i false).toNat := by
  rw [wordOf_bit]
  congr 1
  rw [List.getD_eq_getElem?_getD, List.getD_eq_getElem?_getD, List.getElem?_take, if_pos (by omega), List.getElem?_drop]
  congr 2
  omega
/-- ones ahead of a place, by its word -/
theorem ones_of {l : List Bool} {i : Nat} (_h : i ≤ l.length) (k : Nat) (hk : 32 * k ≤ i) (hk2 : i ≤ 32 * k + 32) : cnt (l.take (32 * k)) + popc 32 (wordOf ((l.drop (32 * k)).take 32) % 2 ^ (i - 32 * k)) = cnt (l.take i) := by
  rw [wordOf_mod, List.take_take, popc_wordOf _ _ (by rw [List.length_take]; omega), ← cnt_app]
  congr 1
  have e : min (i - 32 * k) 32 = i - 32 * k := by omega
  rw [e]
  have := (List.take_add (l := l) (i := 32 * k) (j := i - 32 * k)).symm
  rw [this]
  congr 1
  omega
theorem marks_step {l : List Bool} {k : Nat} (_h : k < wn l.length) : cnt (l.take (32 * (k + 1))) = cnt (l.take (32 * k)) + popc 32 (wordOf ((l.drop (32 * k)).take 32)) := by
  rw [popc_wordOf _ _ (chunk_len l k), ← cnt_app, ← List.take_add]
  rfl
/-! Found by halving; a bit put. -/
/-- how many of the bit b stand ahead of a place -/
def cb (b : Bool) (l : List Bool) (p : Nat) : Nat := (l.take p).count b
theorem cb_true (l : List Bool) (p : Nat) : cb true l p = cnt (l.take p) := rfl
theorem count_two : ∀ l : List Bool, l.count false + l.count true = l.length
  | [] => rfl
  | b :: l => by
    have h := count_two l
    cases b <;> simp <;> omega
theorem cb_sum (l : List Bool) {p : Nat} (h : p ≤ l.length) : cb false l p + cb true l p = p := by
  unfold cb
  have e : (l.take p).length = p := by rw [List.length_take]; omega
  have := count_two (l.take p)
  omega
theorem cb_false (l : List Bool) {p : Nat} (h : p ≤ l.length) : cb false l p = p - cnt (l.take p) := by
  have := cb_sum l h
  rw [cb_true] at this
  omega
theorem cb_succ {b : Bool} {l : List Bool} {p : Nat} (h : p < l.length) : cb b l (p + 1) = cb b l p + (if l[p]? = some b then 1 else 0) := by
  unfold cb
  rw [List.take_add_one, List.count_append]
  congr 1
  rw [List.getElem?_eq_getElem h]
  simp [List.count_singleton]
theorem cb_mono {b : Bool} {l : List Bool} {p q : Nat} (h : p ≤ q) : cb b l p ≤ cb b l q := by
  unfold cb
  have e : l.take q = l.take p ++ (l.drop p).take (q - p) := by
    rw [← List.take_add]
    congr 1
    omega
  rw [e, List.count_append]
  omega
theorem cb_all (b : Bool) (l : List Bool) : cb b l l.length = l.count b := by
  unfold cb
  rw [List.take_length]
/-- the place that halving has found -/
theorem found_at {b : Bool} {l : List Bool} {t r : Nat} (h : r < l.length) (h1 : cb b l r ≤ t) (h2 : t < cb b l (r + 1)) : l[r]? = some b ∧ cb b l r = t := by
  rw [cb_succ h] at h2
  by_cases e : l[r]? = some b
  · rw [if_pos e] at h2
    exact ⟨e, by omega⟩
  · rw [if_neg e] at h2
    omega
/-- there is but one such place -/
theorem found_one {b : Bool} {l : List Bool} {r q : Nat} (h1 : l[r]? = some b) (h2 : l[q]? = some b) (h : cb b l r = cb b l q) : r = q := by
  have lr : r < l.length := (List.getElem?_eq_some_iff.mp h1).1
  have lq : q < l.length := (List.getElem?_eq_some_iff.mp h2).1
  have a := cb_succ (b := b) lr
  have c := cb_succ (b := b) lq
  rw [if_pos h1] at a
  rw [if_pos h2] at c
  rcases Nat.lt_trichotomy r q with e | e | e
  · have := cb_mono (b := b) (l := l) (show r + 1 ≤ q by omega)
    omega
  · exact e
  · have := cb_mono (b := b) (l := l) (show q + 1 ≤ r by omega)
    omega
/-- each turn below the bit's number is found -/
theorem found_is {b : Bool} : ∀ {l : List Bool} {t : Nat}, t < l.count b → ∃ r, l[r]? = some b ∧ cb b l r = t := by
  intro l
  induction l with
  | nil => intro t h; simp at h
  | cons x l ih =>
    intro t h
    by_cases e : x = b
    · subst e
      cases t with
      | zero => exact ⟨0, rfl, by simp [cb]⟩
      | succ t =>
        obtain ⟨r, h1, h2⟩ := ih (t := t) (by simpa using h)
        exact ⟨r + 1, by simpa using h1, by simpa [cb] using h2⟩
    · obtain ⟨r, h1, h2⟩ := ih (t := t) (by simpa [List.count_cons, e] using h)
      exact ⟨r + 1, by simpa using h1, by simpa [cb, List.count_cons, e] using h2⟩

theorem wordOf_set : ∀ {l : List Bool} {j : Nat} {c b : Bool}, l[j]? = some c → wordOf (l.set j b) + c.toNat * 2 ^ j = wordOf l + b.toNat * 2 ^ j
  | [], j, c, b, h => by simp at h
  | x :: l, 0, c, b, h => by
    have e : x = c := Option.some.inj h
    subst e
    show b.toNat + 2 * wordOf l + x.toNat * 2 ^ 0 = x.toNat + 2 * wordOf l + b.toNat * 2 ^ 0
    omega
  | x :: l, j + 1, c, b, h => by
    have ih := wordOf_set (l := l) (j := j) (c := c) (b := b) (by simpa using h)
    show x.toNat + 2 * wordOf (l.set j b) + c.toNat * 2 ^ (j + 1) = x.toNat + 2 * wordOf l + b.toNat * 2 ^ (j + 1)
    have e1 : c.toNat * 2 ^ (j + 1) = 2 * (c.toNat * 2 ^ j) := by rw [Nat.pow_succ', ← Nat.mul_assoc, Nat.mul_comm c.toNat 2, Nat.mul_assoc]
    have e2 : b.toNat * 2 ^ (j + 1) = 2 * (b.toNat * 2 ^ j) := by rw [Nat.pow_succ', ← Nat.mul_assoc, Nat.mul_comm b.toNat 2, Nat.mul_assoc]
    rw [e1, e2]
    omega
theorem chunk_set {l : List Bool} {i : Nat} {b : Bool} (h : i < l.length) (k : Nat) : (((l.set i b).drop (32 * k)).take 32) = if k = i / 32 then ((l.drop (32 * k)).take 32).set (i % 32) b else (l.drop (32 * k)).take 32 := by
  apply List.ext_getElem?
  intro j
  by_cases hk : k = i / 32
  · rw [if_pos hk]
    subst hk
    rw [List.getElem?_take, List.getElem?_drop, List.getElem?_set, List.getElem?_set]
    by_cases hj : j < 32
    · rw [if_pos hj]
      by_cases e : i % 32 = j
      · rw [if_pos (by omega), if_pos e, if_pos h, if_pos (by rw [List.length_take, List.length_drop]; omega)]
      · rw [if_neg (by omega), if_neg e, List.getElem?_take, if_pos hj, List.getElem?_drop]
    · rw [if_neg hj, if_neg (by omega), List.getElem?_take, if_neg hj]
  · rw [if_neg hk, List.getElem?_take, List.getElem?_take, List.getElem?_drop, List.getElem?_drop]
    by_cases hj : j < 32
    · rw [if_pos hj, if_pos hj, List.getElem?_set_ne (by omega)]
    · rw [if_neg hj, if_neg hj]
/-- the one word that a bit put otherwise changes -/
theorem words_set {l : List Bool} {i : Nat} {b : Bool} (h : l[i]? = some (!b)) :
    words (l.set i b) = (words l).set (i / 32) (wordOf ((l.drop (32 * (i / 32))).take 32) + 2 ^ (i % 32) - 2 * (wordOf ((l.drop (32 * (i / 32))).take 32) / 2 ^ (i % 32) % 2) * 2 ^ (i % 32)) := by
  have hi : i < l.length := (List.getElem?_eq_some_iff.mp h).1
  have hw : wn (l.set i b).length = wn l.length := by rw [List.length_set]
  have hc : ((l.drop (32 * (i / 32))).take 32)[i % 32]? = some (!b) := by
    rw [List.getElem?_take, if_pos (by omega), List.getElem?_drop, ← h]
    congr 1
    omega
  apply List.ext_getElem?
  intro k
  by_cases hk : k < wn l.length
  · rw [words_at (by rw [hw]; exact hk), List.getElem?_set, chunk_set hi]
    by_cases e : k = i / 32
    · subst e
      rw [if_pos rfl, if_pos rfl, if_pos (by rw [words_len]; exact hk)]
      congr 1
      have a := wordOf_set (b := b) hc
      have c : wordOf ((l.drop (32 * (i / 32))).take 32) / 2 ^ (i % 32) % 2 = (!b).toNat := by
        rw [wordOf_bit, List.getD_eq_getElem?_getD, hc]
        rfl
      rw [c]
      cases b with
      | false => simp only [Bool.not_false, Bool.toNat_true, Bool.toNat_false] at a ⊢; omega
      | true => simp only [Bool.not_true, Bool.toNat_true, Bool.toNat_false] at a ⊢; omega
    · rw [if_neg e, if_neg (fun z => e z.symm), words_at hk]
  · rw [List.getElem?_eq_none (by rw [words_len, hw]; omega), List.getElem?_eq_none (by rw [List.length_set, words_len]; omega)]
theorem cnt_set_take {l : List Bool} {i : Nat} {b : Bool} (h : l[i]? = some (!b)) (p : Nat) : (cnt ((l.set i b).take p) : Int) = cnt (l.take p) + (if i < p then 2 * (b.toNat : Int) - 1 else 0) := by
  have hi : i < l.length := (List.getElem?_eq_some_iff.mp h).1
  induction p with
  | zero => simp [cnt]
  | succ p ih =>
    by_cases hp : p < l.length
    · have a := cb_succ (b := true) hp
      have c := cb_succ (b := true) (l := l.set i b) (p := p) (by rw [List.length_set]; exact hp)
      rw [cb_true, cb_true] at a c
      by_cases e : i = p
      · subst e
        rw [List.getElem?_set_self hi] at c
        rw [h] at a
        rw [if_neg (by omega)] at ih
        rw [if_pos (by omega)]
        cases b <;> simp at a c ih ⊢ <;> omega
      · rw [List.getElem?_set_ne e] at c
        by_cases e2 : i < p
        · rw [if_pos e2] at ih
          rw [if_pos (by omega)]
          omega
        · rw [if_neg e2] at ih
          rw [if_neg (by omega)]
          omega
    · have e1 : (l.set i b).take (p + 1) = (l.set i b).take p := by rw [List.take_of_length_le (by rw [List.length_set]; omega), List.take_of_length_le (by rw [List.length_set]; omega)]
      have e2 : l.take (p + 1) = l.take p := by rw [List.take_of_length_le (by omega), List.take_of_length_le (by omega)]
      rw [e1, e2, ih, if_pos (by omega), if_pos (by omega)]

end Hf
namespace Hf
open PySem L2
def top (i : Nat) : Stmt := PySem.Challenge.pw_halfrows_k01_words_and_marks.main.body.getD i (.Pass ⟨0, 0, 0, 0⟩)
abbrev s_is_whole : Stmt := top 7
abbrev s_is_among : Stmt := top 8
abbrev s_ones_in : Stmt := top 9
abbrev s_packed : Stmt := top 10
abbrev s_B_init : Stmt := inClass (top 13) 0
abbrev s_B_words : Stmt := inClass (top 13) 1
abbrev s_B_marks : Stmt := inClass (top 13) 2
abbrev s_B_bits : Stmt := inClass (top 13) 3
abbrev s_B_bit_at : Stmt := inClass (top 13) 4
abbrev s__law_next : Stmt := top 15
abbrev s__law_great : Stmt := top 16
abbrev s__law_bits : Stmt := top 17
abbrev s__law_words : Stmt := top 18
abbrev s__law_row_right : Stmt := top 19
abbrev s_law : Stmt := top 20
/-- where everything stands -/
structure Adr where
  is_whole : Addr
  is_whole_d : FuncData
  is_among : Addr
  is_among_d : FuncData
  ones_in : Addr
  ones_in_d : FuncData
  packed : Addr
  packed_d : FuncData
  B_init : Addr
  B_init_d : FuncData
  B_words : Addr
  B_words_d : FuncData
  B_marks : Addr
  B_marks_d : FuncData
  B_bits : Addr
  B_bits_d : FuncData
  B_bit_at : Addr
  B_bit_at_d : FuncData
  _law_next : Addr
  _law_next_d : FuncData
  _law_great : Addr
  _law_great_d : FuncData
  _law_bits : Addr
  _law_bits_d : FuncData
  _law_words : Addr
  _law_words_d : FuncData
  _law_row_right : Addr
  _law_row_right_d : FuncData
  law : Addr
  law_d : FuncData
  cB : Addr
  xBadRow : Addr
  xNoPlace : Addr
structure Def (K : PySem.W.Frag) (mg : Str → Option Value) (x : Str) (st : Stmt) (ps : List Str) (f : Addr) (fd : FuncData) : Prop where
  F : Fun K x x st f fd
  b : Binds K fd ps []
  g : mg x = some (.ref f)
structure Met (K : PySem.W.Frag) (C : Addr) (x qual : Str) (st : Stmt) (ps : List Str) (f : Addr) (fd : FuncData) : Prop where
  F : Fun K x qual st f fd
  b : Binds K fd ps []
  m : Meth K C x f
structure Exc (K : PySem.W.Frag) (mg : Str → Option Value) (x : Str) (C : Addr) : Prop where
  g : mg x = some (.ref C)
  x : PySem.W.excIn K C [.type "ValueError", .type "Exception", .type "BaseException", .type "object"] "ValueError.__new__" = true
  k : PySem.W.keepIn K (.ref C) = true
  b : PySem.W.subIn K (.ref C) (.type "BaseException") = some true
  t : PySem.W.typeIn K (.ref C) = some (.type "type")
structure Tx (K : PySem.W.Frag) (mg : Str → Option Value) (A : Adr) : Prop where
  is_whole : Def K mg "is_whole" s_is_whole ["thing"] A.is_whole A.is_whole_d
  is_among : Def K mg "is_among" s_is_among ["thing", "least", "most"] A.is_among A.is_among_d
  ones_in : Def K mg "ones_in" s_ones_in ["word"] A.ones_in A.ones_in_d
  packed : Def K mg "packed" s_packed ["bits"] A.packed A.packed_d
  B_init : Met K A.cB "__init__" "BitRow.__init__" s_B_init ["self", "bits"] A.B_init A.B_init_d
  B_words : Met K A.cB "words" "BitRow.words" s_B_words ["self"] A.B_words A.B_words_d
  B_marks : Met K A.cB "marks" "BitRow.marks" s_B_marks ["self"] A.B_marks A.B_marks_d
  B_bits : Met K A.cB "bits" "BitRow.bits" s_B_bits ["self"] A.B_bits A.B_bits_d
  B_bit_at : Met K A.cB "bit_at" "BitRow.bit_at" s_B_bit_at ["self", "place"] A.B_bit_at A.B_bit_at_d
  _law_next : Def K mg "_law_next" s__law_next ["_law_state"] A._law_next A._law_next_d
  _law_great : Def K mg "_law_great" s__law_great ["_law_state", "_law_wide"] A._law_great A._law_great_d
  _law_bits : Def K mg "_law_bits" s__law_bits ["_law_state"] A._law_bits A._law_bits_d
  _law_words : Def K mg "_law_words" s__law_words ["_law_bits_here"] A._law_words A._law_words_d
  _law_row_right : Def K mg "_law_row_right" s__law_row_right ["_law_row", "_law_bits_here"] A._law_row_right A._law_row_right_d
  law : Def K mg "law" s_law ["_law_script"] A.law A.law_d
  clB : Cls K A.cB
  mkB : Mk K A.cB A.B_init
  gB : mg "BitRow" = some (.ref A.cB)
  nB_size : NoAttr K A.cB "size"
  nB_packs : NoAttr K A.cB "packs"
  nB_heads : NoAttr K A.cB "heads"
  xBadRow : Exc K mg "BadRow" A.xBadRow
  xNoPlace : Exc K mg "NoPlace" A.xNoPlace
  kWORD : ∃ t, mg "WORD" = some (.int 32 t)
  kMOST_BITS : ∃ t, mg "MOST_BITS" = some (.int 4000 t)
  b_isinstance : mg "isinstance" = none
  b_int : mg "int" = none
  b_bool : mg "bool" = none
  b_list : mg "list" = none
  b_len : mg "len" = none
  b_enumerate : mg "enumerate" = none
  b_range : mg "range" = none
  b_all : mg "all" = none
  b_sum : mg "sum" = none
  b_reversed : mg "reversed" = none
section
variable {P : Program} {w : World} {K : PySem.W.Frag} {mg : Str → Option Value} {base : Heap} {A : Adr}
abbrev n_is_whole : List Str := ["thing"]
theorem sc_is_whole : FnScope n_is_whole ["thing"] (defScope s_is_whole) := ⟨rfl, rfl, rfl, by decide +kernel, rfl, by decide +kernel, by decide +kernel⟩
abbrev n_is_among : List Str := ["thing", "least", "most"]
theorem sc_is_among : FnScope n_is_among ["thing", "least", "most"] (defScope s_is_among) := ⟨rfl, rfl, rfl, by decide +kernel, rfl, by decide +kernel, by decide +kernel⟩
abbrev n_ones_in : List Str := ["word"]
theorem sc_ones_in : FnScope n_ones_in ["word"] (defScope s_ones_in) := ⟨rfl, rfl, rfl, by decide +kernel, rfl, by decide +kernel, by decide +kernel⟩
abbrev n_packed : List Str := ["bits", "found", "place", "bit"]
theorem sc_packed : FnScope n_packed ["bits"] (defScope s_packed) := ⟨rfl, rfl, rfl, by decide +kernel, rfl, by decide +kernel, by decide +kernel⟩
abbrev n_B_init : List Str := ["self", "bits", "bit", "many", "word"]
theorem sc_B_init : FnScope n_B_init ["self", "bits"] (defScope s_B_init) := ⟨rfl, rfl, rfl, by decide +kernel, rfl, by decide +kernel, by decide +kernel⟩
abbrev n_B_words : List Str := ["self"]
theorem sc_B_words : FnScope n_B_words ["self"] (defScope s_B_words) := ⟨rfl, rfl, rfl, by decide +kernel, rfl, by decide +kernel, by decide +kernel⟩
abbrev n_B_marks : List Str := ["self"]
theorem sc_B_marks : FnScope n_B_marks ["self"] (defScope s_B_marks) := ⟨rfl, rfl, rfl, by decide +kernel, rfl, by decide +kernel, by decide +kernel⟩
abbrev n_B_bits : List Str := ["self", "place"]
theorem sc_B_bits : FnScope n_B_bits ["self"] (defScope s_B_bits) := ⟨rfl, rfl, rfl, by decide +kernel, rfl, by decide +kernel, by decide +kernel⟩
abbrev n_B_bit_at : List Str := ["self", "place"]
theorem sc_B_bit_at : FnScope n_B_bit_at ["self", "place"] (defScope s_B_bit_at) := ⟨rfl, rfl, rfl, by decide +kernel, rfl, by decide +kernel, by decide +kernel⟩
abbrev n__law_next : List Str := ["_law_state", "_law_k", "_law_cells", "_law_base"]
theorem sc__law_next : FnScope n__law_next ["_law_state"] (defScope s__law_next) := ⟨rfl, rfl, rfl, by decide +kernel, rfl, by decide +kernel, by decide +kernel⟩
abbrev n__law_great : List Str := ["_law_state", "_law_wide", "_law_n", "_law_all_of", "_law_any_one"]
theorem sc__law_great : FnScope n__law_great ["_law_state", "_law_wide"] (defScope s__law_great) := ⟨rfl, rfl, rfl, by decide +kernel, rfl, by decide +kernel, by decide +kernel⟩
abbrev n__law_bits : List Str := ["_law_state", "_law_n", "_law_size", "_law_part", "_law_bits_here", "_law_k", "_law_bit"]
theorem sc__law_bits : FnScope n__law_bits ["_law_state"] (defScope s__law_bits) := ⟨rfl, rfl, rfl, by decide +kernel, rfl, by decide +kernel, by decide +kernel⟩
abbrev n__law_words : List Str := ["_law_bits_here", "_law_words_here", "_law_marks", "_law_first", "_law_word", "_law_bit"]
theorem sc__law_words : FnScope n__law_words ["_law_bits_here"] (defScope s__law_words) := ⟨rfl, rfl, rfl, by decide +kernel, rfl, by decide +kernel, by decide +kernel⟩
abbrev n__law_row_right : List Str := ["_law_row", "_law_bits_here", "_law_words_here", "_law_marks", "_law_told", "_law_due", "_law_one", "_law_place"]
theorem sc__law_row_right : FnScope n__law_row_right ["_law_row", "_law_bits_here"] (defScope s__law_row_right) := ⟨rfl, rfl, rfl, by decide +kernel, rfl, by decide +kernel, by decide +kernel⟩
abbrev n_law : List Str := ["_law_script", "_law_state", "_law_bits_here", "_law_others", "_law_handed", "_law_row", "_law_other", "_law_k", "_law_word", "_law_many", "_law_place"]
theorem sc_law : FnScope n_law ["_law_script"] (defScope s_law) := ⟨rfl, rfl, rfl, by decide +kernel, rfl, by decide +kernel, by decide +kernel⟩
/-! ### values, kinds of values -/
def nV (n : Nat) : V := .int (n : Int)
def bV (b : Bool) : V := .int (b.toNat : Int)
def known : List String := ["NoneType", "bool", "int", "str", "list", "tuple", "dict"]
/-- v is of the built-in kind n -/
def TyN (K : PySem.W.Frag) (H : Hp) (v : V) (n : String) : Prop := TyX K H v (.type n) ∧ n ∈ known
def amongV (v : V) (lo hi : Int) : Bool := match v with
  | .int i => decide (lo ≤ i) && decide (i ≤ hi)
  | _ => false
theorem TyN.int {K : PySem.W.Frag} {H : Hp} (i : Int) : TyN K H (.int i) "int" := ⟨.base (.int i), by decide⟩
theorem TyN.bl {K : PySem.W.Frag} {H : Hp} (b : Bool) : TyN K H (.bl b) "bool" := ⟨.base (.bl b), by decide⟩
theorem TyN.non {K : PySem.W.Frag} {H : Hp} : TyN K H .non "NoneType" := ⟨.base .non, by decide⟩
theorem TyN.str {K : PySem.W.Frag} {H : Hp} (z : Str) : TyN K H (.str z) "str" := ⟨.base (.str z), by decide⟩
theorem TyN.lst {K : PySem.W.Frag} {H : Hp} {a : Addr} {xs : List V} (h : SqL K H a xs) : TyN K H (.ref a) "list" := by
  refine ⟨?_, by decide⟩
  rcases h with (h | ⟨o, h⟩) | ⟨o, its, n, h, c, _⟩
  · exact .base (.lst h)
  · exact .base (.frz h)
  · exact .kList h c
theorem TyN.tup {K : PySem.W.Frag} {H : Hp} {a : Addr} {xs : List V} (h : SqT K H a xs) : TyN K H (.ref a) "tuple" := by
  refine ⟨?_, by decide⟩
  rcases h with (h | ⟨o, h⟩) | ⟨o, its, n, h, c, _⟩
  · exact .base (.tup h)
  · exact .fTuple h
  · exact .kTuple h c
theorem TyN.dct {K : PySem.W.Frag} {H : Hp} {a : Addr} {kvs : List (Key × V)} (h : H a = some (.dK kvs)) : TyN K H (.ref a) "dict" := ⟨.base (.dK h), by decide⟩
theorem tyx_int0 {K : PySem.W.Frag} {H : Hp} {v : V} {t : Value} (h : TyX K H v t) (e : t = .type "int") : ∃ i, v = .int i := by
  cases h with
  | base b => cases b <;> first | exact ⟨_, rfl⟩ | (injection e with e; exact absurd e (by decide)) | cases e
  | _ => first | (injection e with e; exact absurd e (by decide)) | cases e
theorem tyx_int {K : PySem.W.Frag} {H : Hp} {v : V} {n : String} (h : TyX K H v (.type n)) (e : n = "int") : ∃ i, v = .int i := tyx_int0 h (by rw [e])
theorem tyx_of_int0 {K : PySem.W.Frag} {H : Hp} {v : V} {t : Value} (h : TyX K H v t) {i : Int} (e : v = .int i) : t = .type "int" := by
  cases h with
  | base b => cases b <;> first | rfl | cases e
  | _ => cases e
theorem tyx_of_int {K : PySem.W.Frag} {H : Hp} {i : Int} {n : String} (h : TyX K H (.int i) (.type n)) : n = "int" := by
  have e := tyx_of_int0 h rfl
  injection e
theorem kit_int {n : String} (h : n ∈ known) : kitB n "int" = some (n == "int" || n == "bool") := by
  simp only [known, List.mem_cons, List.not_mem_nil, or_false] at h
  rcases h with rfl | rfl | rfl | rfl | rfl | rfl | rfl <;> decide +kernel
theorem kit_bool {n : String} (h : n ∈ known) : kitB n "bool" = some (n == "bool") := by
  simp only [known, List.mem_cons, List.not_mem_nil, or_false] at h
  rcases h with rfl | rfl | rfl | rfl | rfl | rfl | rfl <;> decide +kernel
theorem kit_list {n : String} (h : n ∈ known) : kitB n "list" = some (n == "list") := by
  simp only [known, List.mem_cons, List.not_mem_nil, or_false] at h
  rcases h with rfl | rfl | rfl | rfl | rfl | rfl | rfl <;> decide +kernel
theorem among_not {K : PySem.W.Frag} {H : Hp} {v : V} {n : String} (h : TyN K H v n) (e : ¬ n = "int") (lo hi : Int) : amongV v lo hi = false := by
  cases v with
  | int i => exact absurd (tyx_of_int h.1) e
  | _ => rfl
theorem among_in {i lo hi : Int} (h : lo ≤ i) (h2 : i ≤ hi) : amongV (.int i) lo hi = true := by
  simp [amongV, h, h2]
theorem among_yes {v : V} {lo hi : Int} (h : amongV v lo hi = true) : ∃ i, v = .int i ∧ lo ≤ i ∧ i ≤ hi := by
  cases v with
  | int i =>
    simp only [amongV, Bool.and_eq_true, decide_eq_true_eq] at h
    exact ⟨i, rfl, h.1, h.2⟩
  | _ => simp [amongV] at h
theorem bAnd (a b : Nat) : Builtin.bitAnd (a : Int) (b : Int) = ((a &&& b : Nat) : Int) := by
  rw [PyProof.Rows.bitAnd_pp (by omega) (by omega), Int.toNat_natCast, Int.toNat_natCast]
theorem cast_pow (k : Nat) : ((2 : Int) ^ k) = ((2 ^ k : Nat) : Int) := (PySem.W.kbt_cast k).symm
theorem swar_int {n : Nat} {a b c d : Int} (ha : a = (n : Int) - Builtin.bitAnd ((n : Int) / 2 ^ (1 : Int).toNat) 1431655765)
    (hb : b = Builtin.bitAnd a 858993459 + Builtin.bitAnd (a / 2 ^ (2 : Int).toNat) 858993459) (hc : c = Builtin.bitAnd (b + b / 2 ^ (4 : Int).toNat) 252645135)
    (hd : d = c + c / 2 ^ (8 : Int).toNat) : Builtin.bitAnd (d + d / 2 ^ (16 : Int).toNat) 63 = ((swar n : Nat) : Int) := by
  have e1 : a = ((n - (n / 2 &&& 0x55555555) : Nat) : Int) := by
    have h1 : (n : Int) / 2 ^ (1 : Int).toNat = ((n / 2 : Nat) : Int) := by show (n : Int) / 2 ^ 1 = _; omega
    have h2 : (n / 2 &&& 0x55555555) ≤ n / 2 := Nat.and_le_left
    have h3 : Builtin.bitAnd ((n / 2 : Nat) : Int) 1431655765 = ((n / 2 &&& 0x55555555 : Nat) : Int) := bAnd _ 1431655765
    rw [ha, h1, h3]
    omega
  obtain ⟨an, han⟩ : ∃ an : Nat, an = n - (n / 2 &&& 0x55555555) := ⟨_, rfl⟩
  rw [← han] at e1
  have e2 : b = (((an &&& 0x33333333) + (an / 4 &&& 0x33333333) : Nat) : Int) := by
    have h1 : (an : Int) / 2 ^ (2 : Int).toNat = ((an / 4 : Nat) : Int) := by show (an : Int) / 2 ^ 2 = _; omega
    have h3 : Builtin.bitAnd ((an / 4 : Nat) : Int) 858993459 = ((an / 4 &&& 0x33333333 : Nat) : Int) := bAnd _ 858993459
    have h4 : Builtin.bitAnd (an : Int) 858993459 = ((an &&& 0x33333333 : Nat) : Int) := bAnd _ 858993459
    rw [hb, e1, h1, h3, h4]
    omega
  obtain ⟨bn, hbn⟩ : ∃ bn : Nat, bn = (an &&& 0x33333333) + (an / 4 &&& 0x33333333) := ⟨_, rfl⟩
  rw [← hbn] at e2
  have e3 : c = (((bn + bn / 16) &&& 0x0F0F0F0F : Nat) : Int) := by
    have h1 : (bn : Int) + (bn : Int) / 2 ^ (4 : Int).toNat = ((bn + bn / 16 : Nat) : Int) := by show (bn : Int) + (bn : Int) / 2 ^ 4 = _; omega
    have h3 : Builtin.bitAnd ((bn + bn / 16 : Nat) : Int) 252645135 = (((bn + bn / 16) &&& 0x0F0F0F0F : Nat) : Int) := bAnd _ 252645135
    rw [hc, e2, h1, h3]
  obtain ⟨cn, hcn⟩ : ∃ cn : Nat, cn = (bn + bn / 16) &&& 0x0F0F0F0F := ⟨_, rfl⟩
  rw [← hcn] at e3
  have e4 : d = ((cn + cn / 256 : Nat) : Int) := by
    rw [hd, e3]
    show (cn : Int) + (cn : Int) / 2 ^ 8 = _
    omega
  obtain ⟨dn, hdn⟩ : ∃ dn : Nat, dn = cn + cn / 256 := ⟨_, rfl⟩
  rw [← hdn] at e4
  have h1 : (dn : Int) + (dn : Int) / 2 ^ (16 : Int).toNat = ((dn + dn / 65536 : Nat) : Int) := by show (dn : Int) + (dn : Int) / 2 ^ 16 = _; omega
  have h3 : Builtin.bitAnd ((dn + dn / 65536 : Nat) : Int) 63 = (((dn + dn / 65536) &&& 0x3F : Nat) : Int) := bAnd _ 63
  rw [e4, h1, h3, hdn, hcn, hbn, han]
  rfl

/-! ### the promises -/
def spWhole (K : PySem.W.Frag) : Sp := fun vs H Q _ => ∃ (v : V) (n : String), vs = [v] ∧ TyN K H v n ∧ Q (.bl (n == "int")) H
def spAmong (K : PySem.W.Frag) : Sp := fun vs H Q _ => ∃ (v : V) (n : String) (lo hi : Int), vs = [v, .int lo, .int hi] ∧ TyN K H v n ∧ Q (.bl (amongV v lo hi)) H
def spOnes (K : PySem.W.Frag) (C : Addr) : Sp := fun vs H Q E => ∃ (v : V) (n : String), vs = [v] ∧ TyN K H v n ∧
  (amongV v 0 4294967295 = false → E (.ref C) none H) ∧ (∀ m : Nat, v = nV m → m < 2 ^ 32 → Q (nV (popc 32 m)) H)
def spPacked (K : PySem.W.Frag) : Sp := fun vs H Q _ => ∃ (a : Addr) (l : List Bool), vs = [.ref a] ∧ SqL K H a (l.map bV) ∧ l.length ≤ 4000 ∧
  ∀ (p : Addr) (H' : Hp), Same H H' → H p = none → H' p = some (.lst ((words l).map nV)) → Q (.ref p) H'
theorem ok_is_whole (T : Tx K mg A) : FnOk P w K mg base CX0 1 A.is_whole A.is_whole_d ["thing"] (spWhole K) := by
  refine T.is_whole.F.ok sc_is_whole (fun vs H Q E h => ?_) (fun cdv Ar outer s H vs Q E hr h => ?_)
  · obtain ⟨v, n, rfl, _⟩ := h
    rfl
  · obtain ⟨v, n, rfl, hk, k⟩ := h
    refine ⟨_, (pss_one (ps_ret (pe_and (pe_callB call_isi (by rfl) T.b_isinstance (by decide +kernel) (pa_cons (pv 0) (pa_cons (pe_bltn (u := .type "int") (v := .ty "int") (by rfl) T.b_int (by decide +kernel) rfl) pa_nil))) (pe_one (pe_not (pe_callB call_isi (by rfl) T.b_isinstance (by decide +kernel) (pa_cons (pv 0) (pa_cons (pe_bltn (u := .type "bool") (v := .ty "bool") (by rfl) T.b_bool (by decide +kernel) rfl) pa_nil)))))))), ?_⟩
    refine ⟨_, rfl, _, _, _, _, _, rfl, .ty _, hk.1, kit_ty (kit_int hk.2), _, rfl, ?_⟩
    by_cases e1 : (n == "int" || n == "bool") = true
    · rw [if_pos e1]
      refine ⟨_, rfl, _, _, _, _, _, rfl, .ty _, hk.1, kit_ty (kit_bool hk.2), _, rfl, ?_⟩
      have e2 : (!(n == "bool")) = (n == "int") := by
        by_cases h1 : n = "bool"
        · subst h1; rfl
        · have h2 : n = "int" := by simpa [h1] using e1
          subst h2; rfl
      show Q (.bl (!(n == "bool"))) H
      rw [e2]
      exact k
    · rw [if_neg e1]
      have e2 : (n == "int") = false := by
        cases h : (n == "int") with
        | false => rfl
        | true => rw [h] at e1; exact absurd rfl e1
      rw [e2] at k
      exact k
theorem ok_is_among (T : Tx K mg A) : FnOk P w K mg base CX0 2 A.is_among A.is_among_d ["thing", "least", "most"] (spAmong K) := by
  refine T.is_among.F.ok sc_is_among (fun vs H Q E h => ?_) (fun cdv Ar outer s H vs Q E hr h => ?_)
  · obtain ⟨v, n, lo, hi, rfl, _⟩ := h
    rfl
  · obtain ⟨v, n, lo, hi, rfl, hk, k⟩ := h
    refine ⟨_, (pss_one (ps_ret (pe_and (pe_call (E := E0) (ok_is_whole T) (hr.mono (by decide)) rfl T.is_whole.g T.is_whole.F.kp T.is_whole.b .nil pass0 (pa_cons (pv 0) pa_nil)) (pe_one (pe_chain op_le op_le (pv 1) (pv 0) (pv 2)))))), ?_⟩
    refine ⟨_, rfl, v, n, rfl, hk, _, rfl, ?_⟩
    by_cases e1 : n = "int"
    · obtain ⟨i, rfl⟩ := tyx_int hk.1 e1
      rw [if_pos (by rw [e1]; rfl)]
      refine ⟨_, rfl, _, rfl, _, _, rfl, rfl, _, rfl, ?_⟩
      by_cases h1 : lo ≤ i
      · rw [if_pos (decide_eq_true h1)]
        refine ⟨_, rfl, _, _, rfl, rfl, ?_⟩
        have e : amongV (.int i) lo hi = decide (i ≤ hi) := by simp [amongV, h1]
        rw [e] at k
        exact k
      · rw [if_neg (by simp [h1])]
        have e : amongV (.int i) lo hi = false := by simp [amongV, h1]
        rw [e] at k
        exact k
    · rw [if_neg (by simpa using e1)]
      rw [among_not hk e1] at k
      exact k
theorem ok_ones_in (T : Tx K mg A) : FnOk P w K mg base (L2.CX P w) 3 A.ones_in A.ones_in_d ["word"] (spOnes K A.xBadRow) := by
  refine T.ones_in.F.okX sc_ones_in (fun vs H Q E h => ?_) (fun cdv Ar outer s H vs Q E hr h => ?_)
  · obtain ⟨v, n, rfl, _⟩ := h
    rfl
  · obtain ⟨v, n, rfl, hk, kE, kQ⟩ := h
    refine ⟨_, (pss_cons (ps_if (pt_not (pt_val (pe_call (E := E0) (ok_is_among T) (hr.mono (by decide)) rfl T.is_among.g T.is_among.F.kp T.is_among.b .nil pass0 (pa_cons (pv 0) (pa_cons pe_int (pa_cons (pe_op op_sub (pe_op op_shl pe_int (pe_glob (v := V.int 32) rfl T.kWORD.choose_spec ⟨_, rfl⟩)) pe_int) pa_nil)))))) (pss_one (ps_raise rfl (takes_of rfl rfl rfl rfl) (pmk_own PySem.F.excBase_ValueError T.xBadRow.x T.xBadRow.g T.xBadRow.k (raises_own T.xBadRow.b T.xBadRow.t) rfl))) pss_nil)
      (PSs.nox (pss_cons (ps_set (i := 0) sc_ones_in.nd rfl (by first | exact Or.inl rfl | exact Or.inr rfl) (pe_op op_sub (pv 0) (pe_op op_and (pe_op op_shr (pv 0) pe_int) pe_int)))
      (pss_cons (ps_set (i := 0) sc_ones_in.nd rfl (by first | exact Or.inl rfl | exact Or.inr rfl) (pe_op op_add (pe_op op_and (pv 0) pe_int) (pe_op op_and (pe_op op_shr (pv 0) pe_int) pe_int)))
      (pss_cons (ps_set (i := 0) sc_ones_in.nd rfl (by first | exact Or.inl rfl | exact Or.inr rfl) (pe_op op_and (pe_op op_add (pv 0) (pe_op op_shr (pv 0) pe_int)) pe_int))
      (pss_cons (ps_set (i := 0) sc_ones_in.nd rfl (by first | exact Or.inl rfl | exact Or.inr rfl) (pe_op op_add (pv 0) (pe_op op_shr (pv 0) pe_int)))
      (pss_one (ps_ret (pe_op op_and (pe_op op_add (pv 0) (pe_op op_shr (pv 0) pe_int)) pe_int))))))))), ?_⟩
    refine ⟨_, rfl, _, _, rfl, rfl, ⟨by decide, by decide, by decide⟩, _, _, rfl, rfl, v, n, _, _, rfl, hk, _, rfl, ?_⟩
    have e0 : ((1 : Int) * 2 ^ (32 : Int).toNat - 1) = 4294967295 := by decide
    rw [e0]
    by_cases c : amongV v 0 4294967295 = true
    · rw [c]
      refine iteF ?_
      obtain ⟨i, rfl, i0, i1⟩ := among_yes c
      obtain ⟨m, rfl⟩ := Int.eq_ofNat_of_zero_le i0
      have hm : m < 2 ^ 32 := by omega
      refine ⟨_, rfl, _, rfl, _, _, rfl, rfl, (by show (0 : Int) ≤ _; decide), _, _, rfl, rfl, _, _, rfl, rfl, ?_⟩
      refine ⟨_, rfl, _, _, rfl, rfl, _, rfl, _, _, rfl, rfl, (by show (0 : Int) ≤ _; decide), _, _, rfl, rfl, _, _, rfl, rfl, ?_⟩
      refine ⟨_, rfl, _, rfl, _, _, rfl, rfl, (by show (0 : Int) ≤ _; decide), _, _, rfl, rfl, _, _, rfl, rfl, ?_⟩
      refine ⟨_, rfl, _, rfl, _, _, rfl, rfl, (by show (0 : Int) ≤ _; decide), _, _, rfl, rfl, ?_⟩
      refine ⟨_, rfl, _, rfl, _, _, rfl, rfl, (by show (0 : Int) ≤ _; decide), _, _, rfl, rfl, _, _, rfl, rfl, ?_⟩
      have q := kQ m rfl hm
      rw [← swar_eq hm] at q
      have e := swar_int (n := m) rfl rfl rfl rfl
      refine cast ?_ q
      unfold nV
      rw [← e]
    · have c' : amongV v 0 4294967295 = false := by simpa using c
      rw [c']
      refine iteT ?_
      exact kE c'
theorem bOr_bit {w k : Nat} (b : Bool) (h : w < 2 ^ k) : Builtin.bitOr (w : Int) ((b.toNat : Int) * 2 ^ k) = ((w + b.toNat * 2 ^ k : Nat) : Int) := by
  rw [Bits.bitOr_join (by omega) (by rw [cast_pow]; omega) (by omega), cast_pow]
  simp
theorem words_nil : words [] = [] := by decide
theorem ixN_m1 {n : Nat} (h : 0 < n) : ixN n (-1) = some (n - 1) := by
  unfold ixN
  rw [if_neg (by decide), if_pos (by omega)]
  congr 1
  omega
theorem atI_m1 {α : Type} {xs : List α} {v : α} (h : xs[xs.length - 1]? = some v) : atI xs (-1) = some v := by
  have hl : 0 < xs.length := by
    have := (List.getElem?_eq_some_iff.mp h).1
    omega
  unfold atI
  rw [ixN_m1 hl]
  exact h
theorem ok_packed (T : Tx K mg A) : FnOk P w K mg base CX0 1 A.packed A.packed_d ["bits"] (spPacked K) := by
  refine T.packed.F.ok sc_packed (fun vs H Q E h => ?_) (fun cdv Ar outer s H vs Q E hr h => ?_)
  · obtain ⟨a, l, rfl, _⟩ := h
    rfl
  · obtain ⟨a, l, rfl, hS, hl, k⟩ := h
    refine ⟨_, (pss_cons (ps_set (i := 1) sc_packed.nd rfl (by first | exact Or.inl rfl | exact Or.inr rfl) (pe_lst pa_nil))
      (pss_cons (ps_for PassesOwn.never rfl (pi_enum (by rfl) T.b_enumerate (pa_cons (pv 0) pa_nil)) (pg_tup (by rfl) (pgs_cons (pg_name (i := 2) sc_packed.nd rfl (by first | exact Or.inl rfl | exact Or.inr rfl)) (pgs_cons (pg_name (i := 3) sc_packed.nd rfl (by first | exact Or.inl rfl | exact Or.inr rfl)) pgs_nil))) (pss_cons (ps_if (pt_cmpR op_eq (pe_op op_mod (pv 2) (pe_glob (v := V.int 32) rfl T.kWORD.choose_spec ⟨_, rfl⟩)) pe_int (nomark _)) (pss_one (ps_expr (pe_bm PySem.F.plainAttrs_list PySem.F.slot_list_append PySem.F.type_list_append mt_append (pv 1) (pa_cons pe_int pa_nil)))) pss_nil)
      (pss_one (ps_asg (pe_op op_or (pe_ix ix_list (pv 1) (pe_un un_neg pe_int) (fun _ _ => rfl)) (pe_op op_shl (pv 3) (pe_op op_mod (pv 2) (pe_glob (v := V.int 32) rfl T.kWORD.choose_spec ⟨_, rfl⟩)))) (pg_sub (pv 1) (pe_un un_neg pe_int) set_list)))))
      (pss_one (ps_ret (pv 1))))), ?_⟩
    refine ⟨Nat.zero_le _, fun p hp => ?_⟩
    refine ⟨_, rfl, a, _, rfl, (Same.seq (fun b o e => by rw [upd_ne (ne_of_none e hp)]; exact e) hS), for_it (walk_enum (xs := l.map bV))
      (fun i σ H2 => ∃ (u v : Option V), σ = [some (.ref a), some (.ref p), u, v] ∧ Same H H2 ∧ H2 p = some (.lst ((words (l.take i)).map nV)))
      ⟨none, none, rfl, fun b o e => by rw [upd_ne (ne_of_none e hp)]; exact e, by rw [upd_same, List.take_zero, words_nil]; rfl⟩ (fun i σ H2 _ ⟨_, _, _, s2, _⟩ => s2.seq hS) ?_ ?_⟩
    · rintro i x σ H2 H3 hi ⟨u, v, rfl, s2, h2⟩ ⟨t, x1, y1, rfl, ht, rfl, e1, e2⟩
      cases e1
      rw [List.length_map] at hi
      have hb : (l.map bV)[i]? = some (bV l[i]) := by rw [List.getElem?_map, List.getElem?_eq_getElem hi]; rfl
      have e2 : bV l[i] = y1 := Option.some.inj (hb.symm.trans e2)
      subst e2
      have npt : p ≠ t := ne_of_none h2 ht
      have s3 : Same H (upd H2 t (.tup [.int (i : Nat), bV l[i]])) := fun b o e => by
        rw [upd_ne (ne_of_none (s2 _ _ e) ht)]
        exact s2 _ _ e
      have h3 : upd H2 t (.tup [.int (i : Nat), bV l[i]]) p = some (.lst ((words (l.take i)).map nV)) := by rw [upd_ne npt]; exact h2
      have len : (l.take i).length = i := by rw [List.length_take]; omega
      have tk : l.take (i + 1) = l.take i ++ [l[i]] := by rw [List.take_add_one, List.getElem?_eq_getElem hi]; rfl
      have hbb := toNat_lt2 l[i]
      refine ⟨t, _, rfl, SqT.of upd_same, rfl, _, _, rfl, _, _, rfl, rfl, ?_⟩
      refine ⟨_, rfl, _, _, rfl, rfl, (by show (0 : Int) < 32; decide), rfl, _, rfl, ?_⟩
      have hmod : ((i : Int) % 32).toNat = i % 32 := by omega
      refine ite2 (fun c => ?_) (fun c => ?_)
      · -- a new word
        have c' : (l.take i).length % 32 = 0 := by
          have q : V.int (((i : Nat) : Int) % 32) = V.int 0 := of_decide_eq_true c
          injection q with q
          omega
        refine ⟨_, rfl, .inl ⟨rfl, _, SqL.of h3⟩, p, _, _, rfl, rfl, h3, ?_, ?_⟩
        · rw [List.length_map, words_len, len]
          exact Nat.lt_of_le_of_lt (show wn i ≤ 200 by unfold wn; omega) (by decide)
        refine ⟨_, rfl, _, rfl, p, _, _, (.int 0), rfl, rfl, SqL.of upd_same, atI_last _ _, _, rfl, _, rfl, _, _, rfl, rfl, (by show (0 : Int) < 32; decide), _, _, rfl, rfl, ⟨by omega, by omega, by omega⟩, _, _, rfl, rfl, ?_⟩
        refine ⟨_, rfl, _, rfl, p, _, _, _, rfl, rfl, upd_same, ixN_m1 (by rw [List.length_append]; exact Nat.succ_pos _), ?_⟩
        have hb2 := bOr_bit (w := 0) (k := 0) l[i] (Nat.two_pow_pos _)
        refine ⟨_, _, rfl, fun b o e => ?_, ?_⟩
        · have np : b ≠ p := ne_of_none e hp
          rw [upd_ne np, upd_ne np]
          exact s3 _ _ e
        · rw [upd_same, tk, words_new c', hmod, show i % 32 = 0 by omega, List.length_append, List.length_singleton, Nat.add_sub_cancel, List.set_append_right _ _ (Nat.le_refl _), Nat.sub_self, List.map_append]
          simp at hb2
          show some (HO.lst (_ ++ [V.int (Builtin.bitOr 0 ((l[i].toNat : Int) * 1))])) = _
          rw [Int.mul_one, hb2]
          rfl
      · have c' : (l.take i).length % 32 ≠ 0 := by
          intro z
          apply c
          have e : ((i : Nat) : Int) % 32 = 0 := by omega
          show decide (V.int (((i : Nat) : Int) % 32) = V.int 0) = true
          rw [e]
          rfl
        have hl2 := words_last c'
        have hlen : 0 < ((words (l.take i)).map nV).length := by rw [List.length_map, words_len]; unfold wn; omega
        refine ⟨_, rfl, _, rfl, p, _, _, _, rfl, rfl, SqL.of h3, atI_m1 (v := nV (wordOf ((l.take i).drop (32 * (wn (l.take i).length - 1))))) ?_, _, rfl, _, rfl, _, _, rfl, rfl, (by show (0 : Int) < 32; decide), _, _, rfl, rfl, ⟨by omega, by omega, by omega⟩, _, _, rfl, rfl, ?_⟩
        · rw [List.length_map, words_len, List.getElem?_map, hl2]
          rfl
        refine ⟨_, rfl, _, rfl, p, _, _, _, rfl, rfl, h3, ixN_m1 hlen, ?_⟩
        have hb2 := bOr_bit (k := (l.take i).length % 32) l[i] (last_lt c')
        refine ⟨_, _, rfl, fun b o e => ?_, ?_⟩
        · rw [upd_ne (ne_of_none e hp)]
          exact s3 _ _ e
        · rw [upd_same, tk, words_on c', hmod, List.length_map, words_len, List.map_set]
          rw [len] at hb2 ⊢
          show some (HO.lst (((words (l.take i)).map nV).set _ (V.int (Builtin.bitOr (wordOf ((l.take i).drop (32 * (wn i - 1))) : Int) ((l[i].toNat : Int) * 2 ^ (i % 32)))))) = _
          rw [hb2]
          rfl
    · rintro σ H2 ⟨u, v, rfl, s2, h2⟩
      rw [List.length_map, List.take_length] at h2
      refine ⟨_, rfl, ?_⟩
      exact k p _ s2 hp h2

/-! ### comprehensions whose elements are reckoned apart -/
theorem same_new {H H' : Hp} {p : Addr} {o : HO} (s : Same H H') (h : H' p = none) : Same H (upd H' p o) := fun b u e => by
  rw [upd_ne (ne_of_none (s _ _ e) h)]
  exact s _ _ e
theorem same_mut {H H' : Hp} {p : Addr} {o : HO} (s : Same H H') (h : H p = none) : Same H (upd H' p o) := fun b u e => by
  rw [upd_ne (ne_of_none e h)]
  exact s _ _ e
theorem seqT_of {K : PySem.W.Frag} {H H' : Hp} {a : Addr} {xs : List V} (e : Same H H') (h : SqT K H a xs) : SqT K H' a xs := by
  rcases h with (h | ⟨o, h⟩) | h
  · exact .inl (.inl (e _ _ h))
  · exact .inl (.inr ⟨o, e _ _ h⟩)
  · exact .inr h
theorem tyx_same {K : PySem.W.Frag} {H H' : Hp} {v : V} {t : Value} (s : Same H H') (h : TyX K H v t) : TyX K H' v t := by
  cases h with
  | base b => exact .base (by
      cases b with
      | non => exact .non
      | bl x => exact .bl x
      | int i => exact .int i
      | str x => exact .str x
      | flt x => exact .flt x
      | lst e => exact .lst (s _ _ e)
      | frz e => exact .frz (s _ _ e)
      | tup e => exact .tup (s _ _ e)
      | dK e => exact .dK (s _ _ e)
      | dT e => exact .dT (s _ _ e)
      | ins e cl ha hn htk hm => exact .ins (s _ _ e) cl ha hn htk hm)
  | byt b => exact .byt b
  | set e => exact .set (s _ _ e)
  | kList e c => exact .kList e c
  | kTuple e c => exact .kTuple e c
  | kDict e c => exact .kDict e c
  | fTuple e => exact .fTuple (s _ _ e)
  | fDict e => exact .fDict (s _ _ e)
theorem TyN.same {K : PySem.W.Frag} {H H' : Hp} {v : V} {n : String} (s : Same H H') (h : TyN K H v n) : TyN K H' v n := ⟨tyx_same s h.1, h.2⟩
theorem line5 {n : Nat} (h : n ≤ 100000) : n < sizeLine := Nat.lt_of_le_of_lt h (by decide)
/-- in a comprehension's block the written part is the def's -/
theorem pe_fldK {X : Cx} {KK : PySem.W.Frag} {e : Expr} {f : Str} {pos : Pos} {ta : TE} (hK : X.K = KK) (he : PE X e ta) (hb : attributeBase e f X.env (eval e X.env) = eval e X.env) : PE X (.Attribute e f pos) (tFld KK ta f) := by
  subst hK
  exact pe_fld he hb
abbrev rLenK (K : PySem.W.Frag) : List V → Hp → VK → Prop := fun xs H Q => ∃ p ys, xs = [.ref p] ∧ (SqL K H p ys ∨ SqT K H p ys) ∧ Q (.int ys.length) H
theorem tYes_i {σ : St} {H : Hp} {Q : Bool → Hp → Prop} (h : Q true H) : tYes σ H Q := h
/-- [e for x in xs] -/
theorem lc_map {a : Addr} {xs : List V} {te : TE} {vs : List Nat} {j : Nat} {σ : St} {H1 : Hp} {D : Addr} {Qd : Hp → Prop} (f : V → V) (hq : SqL K H1 a xs) (hz : xs.length ≤ 100000) (hD : H1 D = none)
    (hw : ∀ x, wipe ((wipe σ vs).set j (some x)) vs = wipe σ vs)
    (he : ∀ (i : Nat) (x : V) (H' : Hp), xs[i]? = some x → Same H1 H' → ∀ Q : VK, (∀ H'', Same H' H'' → Q (f x) H'') → te ((wipe σ vs).set j (some x)) H' Q)
    (hd : ∀ H', Same H1 H' → H' D = some (.lst (xs.map f)) → Qd H') :
    ∃ W : Nat → Nat → Hp → Prop, (∃ m, W 0 m (upd H1 D (.lst []))) ∧ ∀ i m H, W i m H →
      ((Itl K a).stop i H ∧ Qd H) ∨ ((Itl K a).go i H ∧ ∃ Nx : Hp → Prop, (∀ H', Nx H' → ∃ m', m' < m ∧ W (i + 1) m' H') ∧ ∀ x H', (Itl K a).yld i H x H' → gName j x (wipe σ vs) H' fun σ2 H2 => wipe σ2 vs = wipe σ vs ∧ tYes σ2 H2 fun b H3 =>
        if b = true then te σ2 H3 fun y H4 => ∃ acc, H4 D = some (.lst acc) ∧ acc.length < sizeLine ∧ Nx (upd H4 D (.lst (acc ++ [y]))) else Nx H3) := by
  refine lc_list (K := K) (a := a) (xs := xs) (fun i H => Same H1 H ∧ H D = some (.lst ((xs.take i).map f))) ⟨same_mut (Same.refl _) hD, by rw [upd_same]; rfl⟩ (fun i H _ h => h.1.seq hq) (fun i x H hi h => ?_) (fun H h => hd H h.1 (by rw [h.2, List.take_length]))
  refine ⟨hw x, ?_⟩
  refine tYes_i ?_
  rw [if_pos rfl]
  have hil : i < xs.length := (List.getElem?_eq_some_iff.mp hi).1
  refine he i x H hi h.1 _ fun H'' s2 => ⟨(xs.take i).map f, s2 _ _ h.2, ?_, same_mut (h.1.trans s2) hD, ?_⟩
  · rw [List.length_map, List.length_take]
    exact line5 (by omega)
  · rw [upd_same, List.take_add_one, hi, List.map_append]
    rfl
/-- [e for x in range(n)] -/
theorem lc_rng {te : TE} {vs : List Nat} {j : Nat} {n : Nat} {σ : St} {H1 : Hp} {D : Addr} {Qd : Hp → Prop} (f : Nat → V) (hz : n ≤ 100000) (hD : H1 D = none)
    (hw : ∀ x, wipe ((wipe σ vs).set j (some x)) vs = wipe σ vs)
    (he : ∀ (i : Nat) (H' : Hp), i < n → Same H1 H' → ∀ Q : VK, (∀ H'', Same H' H'' → Q (f i) H'') → te ((wipe σ vs).set j (some (.int (i : Nat)))) H' Q)
    (hd : ∀ H', Same H1 H' → H' D = some (.lst ((List.range n).map f)) → Qd H') :
    ∃ W : Nat → Nat → Hp → Prop, (∃ m, W 0 m (upd H1 D (.lst []))) ∧ ∀ i m H, W i m H →
      ((Itr 0 n).stop i H ∧ Qd H) ∨ ((Itr 0 n).go i H ∧ ∃ Nx : Hp → Prop, (∀ H', Nx H' → ∃ m', m' < m ∧ W (i + 1) m' H') ∧ ∀ x H', (Itr 0 n).yld i H x H' → gName j x (wipe σ vs) H' fun σ2 H2 => wipe σ2 vs = wipe σ vs ∧ tYes σ2 H2 fun b H3 =>
        if b = true then te σ2 H3 fun y H4 => ∃ acc, H4 D = some (.lst acc) ∧ acc.length < sizeLine ∧ Nx (upd H4 D (.lst (acc ++ [y]))) else Nx H3) := by
  refine lc_range (lo := 0) (n := n) (fun i H => Same H1 H ∧ H D = some (.lst ((List.range i).map f))) ⟨same_mut (Same.refl _) hD, by rw [upd_same]; rfl⟩ (fun i H hi h => ?_) (fun H h => hd H h.1 h.2)
  refine ⟨hw _, ?_⟩
  refine tYes_i ?_
  rw [if_pos rfl]
  have e0 : (0 : Int) + (i : Nat) = ((i : Nat) : Int) := by omega
  rw [e0]
  refine he i H hi h.1 _ fun H'' s2 => ⟨(List.range i).map f, s2 _ _ h.2, ?_, same_mut (h.1.trans s2) hD, ?_⟩
  · rw [List.length_map, List.length_range]
    exact line5 (by omega)
  · rw [upd_same, List.range_succ, List.map_append]
    rfl
/-- [x for x in xs if t] -/
theorem lc_filt {a : Addr} {xs : List V} {tt : TT} {vs : List Nat} {j : Nat} {σ : St} {H1 : Hp} {D : Addr} {Qd : Hp → Prop} {te : TE} (f : V → Bool) (hq : SqL K H1 a xs) (hz : xs.length ≤ 100000) (hD : H1 D = none)
    (hw : ∀ x, wipe ((wipe σ vs).set j (some x)) vs = wipe σ vs)
    (ht : ∀ (i : Nat) (x : V) (H' : Hp), xs[i]? = some x → Same H1 H' → ∀ Q : Bool → Hp → Prop, (∀ H'', Same H' H'' → Q (f x) H'') → tt ((wipe σ vs).set j (some x)) H' Q)
    (he : ∀ (i : Nat) (x : V) (H' : Hp), xs[i]? = some x → Same H1 H' → ∀ Q : VK, Q x H' → te ((wipe σ vs).set j (some x)) H' Q)
    (hd : ∀ H', Same H1 H' → H' D = some (.lst (xs.filter f)) → Qd H') :
    ∃ W : Nat → Nat → Hp → Prop, (∃ m, W 0 m (upd H1 D (.lst []))) ∧ ∀ i m H, W i m H →
      ((Itl K a).stop i H ∧ Qd H) ∨ ((Itl K a).go i H ∧ ∃ Nx : Hp → Prop, (∀ H', Nx H' → ∃ m', m' < m ∧ W (i + 1) m' H') ∧ ∀ x H', (Itl K a).yld i H x H' → gName j x (wipe σ vs) H' fun σ2 H2 => wipe σ2 vs = wipe σ vs ∧ tt σ2 H2 fun b H3 =>
        if b = true then te σ2 H3 fun y H4 => ∃ acc, H4 D = some (.lst acc) ∧ acc.length < sizeLine ∧ Nx (upd H4 D (.lst (acc ++ [y]))) else Nx H3) := by
  refine lc_list (K := K) (a := a) (xs := xs) (fun i H => Same H1 H ∧ H D = some (.lst ((xs.take i).filter f))) ⟨same_mut (Same.refl _) hD, by rw [upd_same]; rfl⟩ (fun i H _ h => h.1.seq hq) (fun i x H hi h => ?_) (fun H h => hd H h.1 (by rw [h.2, List.take_length]))
  refine ⟨hw x, ?_⟩
  have hil : i < xs.length := (List.getElem?_eq_some_iff.mp hi).1
  have tk : xs.take (i + 1) = xs.take i ++ [x] := by rw [List.take_add_one, hi]; rfl
  refine ht i x H hi h.1 _ fun H'' s2 => ?_
  cases hf : f x with
  | true =>
    rw [if_pos rfl]
    refine he i x H'' hi (h.1.trans s2) _ ⟨(xs.take i).filter f, s2 _ _ h.2, ?_, same_mut (h.1.trans s2) hD, ?_⟩
    · have := List.length_filter_le f (xs.take i)
      rw [List.length_take] at this
      exact line5 (by omega)
    · rw [upd_same, tk, List.filter_append]
      simp [hf]
  | false =>
    rw [if_neg Bool.false_ne_true]
    refine ⟨h.1.trans s2, ?_⟩
    rw [s2 _ _ h.2, tk, List.filter_append]
    simp [hf]
/-- [i for i in range(n) if t] -/
theorem lc_rngf {te : TE} {tt : TT} {vs : List Nat} {j : Nat} {n : Nat} {σ : St} {H1 : Hp} {D : Addr} {Qd : Hp → Prop} (f : Nat → Bool) (hz : n ≤ 100000) (hD : H1 D = none)
    (hw : ∀ x, wipe ((wipe σ vs).set j (some x)) vs = wipe σ vs)
    (ht : ∀ (i : Nat) (H' : Hp), i < n → Same H1 H' → ∀ Q : Bool → Hp → Prop, (∀ H'', Same H' H'' → Q (f i) H'') → tt ((wipe σ vs).set j (some (.int (i : Nat)))) H' Q)
    (he : ∀ (i : Nat) (H' : Hp), i < n → Same H1 H' → ∀ Q : VK, Q (nV i) H' → te ((wipe σ vs).set j (some (.int (i : Nat)))) H' Q)
    (hd : ∀ H', Same H1 H' → H' D = some (.lst (((List.range n).filter f).map nV)) → Qd H') :
    ∃ W : Nat → Nat → Hp → Prop, (∃ m, W 0 m (upd H1 D (.lst []))) ∧ ∀ i m H, W i m H →
      ((Itr 0 n).stop i H ∧ Qd H) ∨ ((Itr 0 n).go i H ∧ ∃ Nx : Hp → Prop, (∀ H', Nx H' → ∃ m', m' < m ∧ W (i + 1) m' H') ∧ ∀ x H', (Itr 0 n).yld i H x H' → gName j x (wipe σ vs) H' fun σ2 H2 => wipe σ2 vs = wipe σ vs ∧ tt σ2 H2 fun b H3 =>
        if b = true then te σ2 H3 fun y H4 => ∃ acc, H4 D = some (.lst acc) ∧ acc.length < sizeLine ∧ Nx (upd H4 D (.lst (acc ++ [y]))) else Nx H3) := by
  refine lc_range (lo := 0) (n := n) (fun i H => Same H1 H ∧ H D = some (.lst (((List.range i).filter f).map nV))) ⟨same_mut (Same.refl _) hD, by rw [upd_same]; rfl⟩ (fun i H hi h => ?_) (fun H h => hd H h.1 h.2)
  refine ⟨hw _, ?_⟩
  have e0 : (0 : Int) + (i : Nat) = ((i : Nat) : Int) := by omega
  rw [e0]
  refine ht i H hi h.1 _ fun H'' s2 => ?_
  cases hf : f i with
  | true =>
    rw [if_pos rfl]
    refine he i H'' hi (h.1.trans s2) _ ⟨((List.range i).filter f).map nV, s2 _ _ h.2, ?_, same_mut (h.1.trans s2) hD, ?_⟩
    · have := List.length_filter_le f (List.range i)
      rw [List.length_range] at this
      rw [List.length_map]
      exact line5 (by omega)
    · rw [upd_same, List.range_succ, List.filter_append]
      simp [hf]
  | false =>
    rw [if_neg Bool.false_ne_true]
    refine ⟨h.1.trans s2, ?_⟩
    rw [s2 _ _ h.2, List.range_succ, List.filter_append]
    simp [hf]

/-! ### a row of bits: the object -/
theorem f_sp : ¬ (("size" : Str) = "packs") := by decide +kernel
theorem f_sh : ¬ (("size" : Str) = "heads") := by decide +kernel
theorem f_ph : ¬ (("packs" : Str) = "heads") := by decide +kernel
theorem f_hp : ¬ (("heads" : Str) = "packs") := by decide +kernel
def brf (n : Nat) (a b : Addr) : List (Str × V) := putF "heads" (.ref b) (putF "packs" (.ref a) (putF "size" (.int (n : Int)) []))
theorem brf_size (n : Nat) (a b : Addr) : (brf n a b).lookup ("size" : Str) = some (.int (n : Int)) := by
  unfold brf
  rw [lookup_putF, if_neg f_sh, lookup_putF, if_neg f_sp, lookup_putF, if_pos rfl]
theorem brf_packs (n : Nat) (a b : Addr) : (brf n a b).lookup ("packs" : Str) = some (.ref a) := by
  unfold brf
  rw [lookup_putF, if_neg f_ph, lookup_putF, if_pos rfl]
theorem brf_heads (n : Nat) (a b : Addr) : (brf n a b).lookup ("heads" : Str) = some (.ref b) := by
  unfold brf
  rw [lookup_putF, if_pos rfl]
theorem brf_no (n : Nat) (a b : Addr) {m : Str} (h1 : ¬ m = "heads") (h2 : ¬ m = "packs") (h3 : ¬ m = "size") : (brf n a b).lookup m = none := by
  unfold brf
  rw [lookup_putF, if_neg h1, lookup_putF, if_neg h2, lookup_putF, if_neg h3]
  rfl
structure BRowAt (C : Addr) (H : Hp) (p a b : Addr) (l : List Bool) : Prop where
  ob : ∃ dx, H p = some (.ins C dx (brf l.length a b))
  pk : H a = some (.lst ((words l).map nV))
  hd : H b = some (.lst ((marks l).map nV))
  ne : a ≠ b
  len : l.length ≤ 4000
def BRow (C : Addr) (H : Hp) (p : Addr) (l : List Bool) : Prop := ∃ a b, BRowAt C H p a b l
theorem BRowAt.same {C : Addr} {H H' : Hp} {p a b : Addr} {l : List Bool} (s : Same H H') (R : BRowAt C H p a b l) : BRowAt C H' p a b l :=
  ⟨R.ob.imp fun _ h => s _ _ h, s _ _ R.pk, s _ _ R.hd, R.ne, R.len⟩
theorem BRow.same {C : Addr} {H H' : Hp} {p : Addr} {l : List Bool} (s : Same H H') (R : BRow C H p l) : BRow C H' p l := by
  obtain ⟨a, b, R⟩ := R
  exact ⟨a, b, R.same s⟩
/-- all but the object at p stands as before -/
def Keep (p : Addr) (H H' : Hp) : Prop := ∀ b o, H b = some o → b ≠ p → H' b = some o
theorem Keep.upd {p : Addr} {H H' : Hp} (k : Keep p H H') (o : HO) : Keep p H (upd H' p o) := fun b u e n => by
  rw [upd_ne n]
  exact k b u e n
theorem Keep.same {p : Addr} {H H' H'' : Hp} (k : Keep p H H') (s : Same H' H'') : Keep p H H'' := fun b u e n => s _ _ (k b u e n)
theorem keep_of {p : Addr} {H H' : Hp} (s : Same H H') : Keep p H H' := fun b u e _ => s _ _ e
theorem Keep.trans {p : Addr} {H H' H'' : Hp} (k : Keep p H H') (s : Keep p H' H'') : Keep p H H'' := fun b u e n => s _ _ (k b u e n) n
theorem sql_keep {K : PySem.W.Frag} {H H' : Hp} {p a C dx : Addr} {fs : List (Str × V)} {xs : List V} (k : Keep p H H') (hp : H p = some (.ins C dx fs)) (h : SqL K H a xs) : SqL K H' a xs := by
  rcases h with (h | ⟨o, h⟩) | h
  · exact .inl (.inl (k _ _ h (ne_of h hp (by intro z; cases z))))
  · exact .inl (.inr ⟨o, k _ _ h (ne_of h hp (by intro z; cases z))⟩)
  · exact .inr h
theorem bits_of : ∀ {xs : List V}, (∀ x ∈ xs, amongV x 0 1 = true) → ∃ l : List Bool, xs = l.map bV
  | [], _ => ⟨[], rfl⟩
  | x :: xs, h => by
    obtain ⟨l, e⟩ := bits_of (xs := xs) fun y hy => h y (List.mem_cons_of_mem _ hy)
    obtain ⟨i, rfl, h0, h1⟩ := among_yes (h x List.mem_cons_self)
    by_cases e0 : i = 0
    · exact ⟨false :: l, by rw [e, e0]; rfl⟩
    · have e1 : i = 1 := by omega
      exact ⟨true :: l, by rw [e, e1]; rfl⟩
theorem bV_among (b : Bool) : amongV (bV b) 0 1 = true := by cases b <;> decide

def spBInit (K : PySem.W.Frag) (C X : Addr) : Sp := fun vs H Q E => ∃ (p dx : Addr) (v : V) (n : String), vs = [.ref p, v] ∧ H p = some (.ins C dx []) ∧ TyN K H v n ∧
  (n ≠ "list" → ∀ H', Same H H' → E (.ref X) none H') ∧
  (n = "list" → ∃ (a : Addr) (xs : List V), v = .ref a ∧ SqL K H a xs ∧ (∀ x ∈ xs, ∃ m, TyN K H x m) ∧
    ((4000 < xs.length ∨ ∃ x ∈ xs, amongV x 0 1 = false) → ∀ H', Same H H' → E (.ref X) none H') ∧
    (∀ l : List Bool, xs = l.map bV → l.length ≤ 4000 → ∀ (H' : Hp) (q b : Addr), Keep p H H' → H q = none → H b = none → BRowAt C H' p q b l → Q .non H'))
theorem hdwords {l : List Bool} {i : Nat} {w : Nat} (h : (words l)[i]? = some w) : i < wn l.length ∧ w = wordOf ((l.drop (32 * i)).take 32) := by
  have hi : i < (words l).length := (List.getElem?_eq_some_iff.mp h).1
  rw [words_len] at hi
  rw [words_at hi] at h
  exact ⟨hi, (Option.some.inj h).symm⟩
set_option maxHeartbeats 1000000 in
theorem ok_B_init (T : Tx K mg A) : FnOk P w K mg base (L2.CX P w) 4 A.B_init A.B_init_d ["self", "bits"] (spBInit K A.cB A.xBadRow) := by
  refine T.B_init.F.okX sc_B_init (fun vs H Q E h => ?_) (fun cdv Ar outer s H vs Q E hr h => ?_)
  · obtain ⟨p, dx, v, n, rfl, _⟩ := h
    rfl
  · obtain ⟨p, dx, v, n, rfl, hp, hk, kN, kL⟩ := h
    refine ⟨_, (pss_cons (ps_if (PW.pt (pw_or (pt_not (pt_val (pe_callB call_isi (by rfl) T.b_isinstance (by decide +kernel) (pa_cons (pv 1) (pa_cons (pe_bltn (u := .type "list") (v := .ty "list") (by rfl) T.b_list (by decide +kernel) rfl) pa_nil))))) (pw_or (pt_cmpR op_gt (pe_callB call_len_seq (by rfl) T.b_len (by decide +kernel) (pa_cons (pv 1) pa_nil)) (pe_glob (v := V.int 4000) rfl T.kMOST_BITS.choose_spec ⟨_, rfl⟩) (nomark _)) (pw_or1 (pt_not (pt_val (pe_callB (cr_all rfl) (by rfl) T.b_all (by decide +kernel) (pa_cons (pe_lc (own := [("bit", 2)]) (g := gName 2) (tt := tYes) rfl sc_B_init.nd (pi_list (pv 1)) (blkOk_by (N := n_B_init) (sc := defScope s_B_init) (by decide +kernel)) (fun _ _ _ _ _ => (pg_name (i := 2) sc_B_init.nd rfl (by first | exact Or.inl rfl | exact Or.inr rfl))) (fun _ _ _ _ _ => pts_nil) (fun _ _ _ _ _ => (pe_call (E := E0) (ok_is_among T) (hr.mono (by decide)) rfl T.is_among.g T.is_among.F.kp T.is_among.b .nil pass0 (pa_cons (pv 2) (pa_cons pe_int (pa_cons pe_int pa_nil)))))) pa_nil)))))))) (pss_one (ps_raise rfl (takes_of rfl rfl rfl rfl) (pmk_own PySem.F.excBase_ValueError T.xBadRow.x T.xBadRow.g T.xBadRow.k (raises_own T.xBadRow.b T.xBadRow.t) rfl))) pss_nil)
      (PSs.nox (pss_cons (ps_fld (pv 0) (pe_callB call_len_seq (by rfl) T.b_len (by decide +kernel) (pa_cons (pv 1) pa_nil)) rfl)
      (pss_cons (ps_fld (pv 0) (pe_call (E := E0) (ok_packed T) (hr.mono (by decide)) rfl T.packed.g T.packed.F.kp T.packed.b .nil pass0 (pa_cons (pv 1) pa_nil)) rfl)
      (pss_cons (ps_fld (pv 0) (pe_lst pa_nil) rfl)
      (pss_cons (ps_set (i := 3) sc_B_init.nd rfl (by first | exact Or.inl rfl | exact Or.inr rfl) pe_int)
      (pss_one (ps_for PassesOwn.never rfl (pi_list (pe_fld (pv 0) rfl)) (pg_name (i := 4) sc_B_init.nd rfl (by first | exact Or.inl rfl | exact Or.inr rfl)) (pss_cons (ps_expr (pe_bm PySem.F.plainAttrs_list PySem.F.slot_list_append PySem.F.type_list_append mt_append (pe_fld (pv 0) rfl) (pa_cons (pv 3) pa_nil)))
      (pss_one (ps_set (i := 3) sc_B_init.nd rfl (by first | exact Or.inl rfl | exact Or.inr rfl) (pe_op op_add (pv 3) (pe_call (E := E0) (ok_ones_in T) (hr.mono (by decide)) rfl T.ones_in.g T.ones_in.F.kp T.ones_in.b .nil passL (pa_cons (pv 4) pa_nil)))))))))))))), ?_⟩
    refine ⟨_, rfl, _, _, _, _, _, rfl, .ty _, hk.1, kit_ty (kit_list hk.2), _, rfl, ?_⟩
    by_cases en : n = "list"
    · obtain ⟨a, xs, rfl, hS, hty, kE, kQ⟩ := kL en
      have e1 : (n == "list") = true := by rw [en]; rfl
      rw [e1]
      refine iteF ?_
      refine ⟨_, rfl, a, xs, rfl, .inl hS, _, _, rfl, rfl, _, rfl, ?_⟩
      refine ite2 (fun c => ?_) (fun c => ?_)
      · refine iteT ?_
        exact kE (.inl (by have := of_decide_eq_true c; omega)) H (Same.refl H)
      · have hz : xs.length ≤ 4000 := by
          have : ¬ ((4000 : Int) < (xs.length : Nat)) := fun z => c (decide_eq_true z)
          omega
        refine ⟨_, rfl, a, rfl, ⟨_, hS⟩, fun D hD => lc_map (xs := xs) (fun x => V.bl (amongV x 0 1)) hS (by omega) hD (fun _ => rfl) (fun i x H' hx s1 Q' kq => ?_) (fun H1 s1 hD1 => ?_)⟩
        · obtain ⟨m, hm⟩ := hty x (List.mem_of_getElem? hx)
          exact ⟨_, rfl, x, m, 0, 1, rfl, hm.same s1, kq H' (Same.refl H')⟩
        · have eD : xs.map (fun x => V.bl (amongV x 0 1)) = (xs.map fun x => amongV x 0 1).map V.bl := by rw [List.map_map]; rfl
          rw [eD] at hD1
          refine ⟨D, _, rfl, SqL.of hD1, _, rfl, ?_⟩
          by_cases ca : ((xs.map fun x => amongV x 0 1).all id) = true
          · rw [ca]
            refine iteF ?_
            have hall : ∀ x ∈ xs, amongV x 0 1 = true := fun x hx => by
              rw [List.all_map, List.all_eq_true] at ca
              exact ca x hx
            obtain ⟨l, rfl⟩ := bits_of hall
            rw [List.length_map] at hz
            have hp1 := s1 _ _ hp
            have hS1 := s1.seq hS
            -- self.size = len(bits)
            refine ⟨_, rfl, a, _, rfl, .inl hS1, _, rfl, p, A.cB, dx, [], rfl, hp1, T.clB, T.nB_size, (by show 0 < 1000; decide), ?_⟩
            -- self.packs = packed(bits)
            refine ⟨_, rfl, a, l, rfl, sql_keep ((keep_of (Same.refl H1)).upd _) hp1 hS1, hz, fun q H2 s2 hq hq2 => ?_⟩
            have npq : p ≠ q := ne_of_none upd_same hq
            refine ⟨_, rfl, p, A.cB, dx, _, rfl, s2 _ _ upd_same, T.clB, T.nB_packs, (by show 1 < 1000; decide), ?_⟩
            -- self.heads = []
            refine ⟨Nat.zero_le _, fun b hb => ?_⟩
            have npb : p ≠ b := ne_of_none upd_same hb
            have hb2 : H2 b = none := by rw [upd_ne npb.symm] at hb; exact hb
            have nqb : q ≠ b := ne_of_none hq2 hb2
            refine ⟨_, rfl, p, A.cB, dx, _, rfl, (by rw [upd_ne npb]; exact upd_same), T.clB, T.nB_heads, (by show 2 < 1000; decide), ?_⟩
            have hq0 : H q = none := by
              have : H1 q = none := by rw [upd_ne npq.symm] at hq; exact hq
              exact s1.free this
            have hb0 : H b = none := by
              have e : (upd H1 p (.ins A.cB dx (putF "size" (V.int (((l.map bV).length : Nat) : Int)) []))) b = none := s2.free hb2
              rw [upd_ne npb.symm] at e
              exact s1.free e
            have kp : Keep p H H2 := ((keep_of s1).upd _).same s2
            have ebr : putF "heads" (V.ref b) (putF "packs" (V.ref q) (putF "size" (V.int (((l.map bV).length : Nat) : Int)) [])) = brf l.length q b := by rw [List.length_map]; rfl
            -- many = 0; for word in self.packs
            refine ⟨_, rfl, p, A.cB, dx, _, _, rfl, upd_same, T.clB, T.nB_packs, (by rw [ebr]; exact brf_packs _ _ _), q, rfl, ⟨_, SqL.of (by rw [upd_ne npq.symm, upd_ne nqb, upd_ne npq.symm]; exact hq2)⟩, ?_⟩
            refine for_list (K := K) (a := q) (xs := (words l).map nV) (fun i σ H3 => ∃ u : Option V, σ = [some (.ref p), some (.ref a), none, some (.int (cnt (l.take (32 * i)) : Nat)), u] ∧ Keep p H H3 ∧ H3 p = some (.ins A.cB dx (brf l.length q b)) ∧
              H3 q = some (.lst ((words l).map nV)) ∧ H3 b = some (.lst (((List.range i).map fun k => cnt (l.take (32 * k))).map nV)) ∧ H q = none ∧ H b = none)
              ⟨none, rfl, ?_, by rw [upd_same, ebr], by rw [upd_ne npq.symm, upd_ne nqb, upd_ne npq.symm]; exact hq2, by rw [upd_ne npb.symm, upd_same]; rfl, hq0, hb0⟩ (fun i σ H3 _ ⟨_, _, _, _, h3, _⟩ => SqL.of h3) ?_ ?_
            · refine Keep.upd (fun b' o e n => ?_) _
              have nb : b' ≠ b := ne_of_none e hb0
              rw [upd_ne nb, upd_ne n]
              exact kp b' o e n
            · rintro i y σ H3 hi ⟨u, rfl, k3, hp3, hq3, hb3, q0, b0⟩
              rw [List.getElem?_map] at hi
              obtain ⟨w0, hw0, ey⟩ : ∃ w0, (words l)[i]? = some w0 ∧ nV w0 = y := by
                cases e : (words l)[i]? with
                | none => rw [e] at hi; cases hi
                | some w0 => rw [e] at hi; exact ⟨w0, rfl, Option.some.inj hi⟩
              subst ey
              obtain ⟨hi2, ew⟩ := hdwords hw0
              have wl : w0 < 2 ^ 32 := by rw [ew]; exact word_lt l i
              have n2 : p ≠ b := ne_of hp3 hb3 (by intro z; cases z)
              -- self.heads.append(many); many = many + ones_in(word)
              refine ⟨_, rfl, p, A.cB, dx, _, _, rfl, hp3, T.clB, T.nB_heads, brf_heads _ _ _, .inl ⟨rfl, _, SqL.of hb3⟩, _, rfl, b, _, _, rfl, rfl, hb3, ?_, ?_⟩
              · rw [List.length_map, List.length_map, List.length_range]
                exact line5 (by unfold wn at hi2; omega)
              refine ⟨_, rfl, _, rfl, _, "int", rfl, TyN.int _, ?_, fun m em hm => ⟨_, _, rfl, rfl, ?_⟩⟩
              · intro z
                rw [show amongV (nV w0) 0 4294967295 = true from among_in (by omega) (by omega)] at z
                cases z
              · have em : w0 = m := by
                  unfold nV at em
                  injection em with em
                  omega
                subst em
                refine ⟨some (nV w0), ?_, fun b' o e n => ?_, by rw [upd_ne n2]; exact hp3, by rw [upd_ne nqb]; exact hq3, ?_, q0, b0⟩
                · rw [marks_step hi2, ← ew]
                  rfl
                · have nb : b' ≠ b := ne_of_none e b0
                  rw [upd_ne nb]
                  exact k3 b' o e n
                · rw [upd_same, List.range_succ, List.map_append, List.map_append]
                  rfl
            · rintro σ H3 ⟨u, rfl, k3, hp3, hq3, hb3, q0, b0⟩
              rw [List.length_map, words_len] at hb3
              exact kQ l rfl hz H3 q b k3 q0 b0 ⟨⟨dx, hp3⟩, hq3, hb3, nqb, hz⟩
          · have cf : ((xs.map fun x => amongV x 0 1).all id) = false := by simpa using ca
            rw [cf]
            refine iteT ?_
            have hex : ∃ x ∈ xs, amongV x 0 1 = false := by
              rw [List.all_map] at cf
              obtain ⟨x, hx, e⟩ := List.all_eq_false.mp cf
              exact ⟨x, hx, by simpa using e⟩
            exact kE (.inr hex) H1 s1
    · have e1 : (n == "list") = false := by simpa using en
      rw [e1]
      refine iteT ?_
      exact kN en H (Same.refl H)

def spBWords (C : Addr) : Sp := fun vs H Q _ => ∃ (p : Addr) (l : List Bool), vs = [.ref p] ∧ BRow C H p l ∧ ∀ (q : Addr) (H' : Hp), Same H H' → H q = none → H' q = some (.lst ((words l).map nV)) → Q (.ref q) H'
def spBMarks (C : Addr) : Sp := fun vs H Q _ => ∃ (p : Addr) (l : List Bool), vs = [.ref p] ∧ BRow C H p l ∧ ∀ (q : Addr) (H' : Hp), Same H H' → H q = none → H' q = some (.lst ((marks l).map nV)) → Q (.ref q) H'
def spBBits (C : Addr) : Sp := fun vs H Q _ => ∃ (p : Addr) (l : List Bool), vs = [.ref p] ∧ BRow C H p l ∧ ∀ (q : Addr) (H' : Hp), Same H H' → H q = none → H' q = some (.lst (l.map bV)) → Q (.ref q) H'
def spBitAt (K : PySem.W.Frag) (C X : Addr) : Sp := fun vs H Q E => ∃ (p : Addr) (l : List Bool) (v : V) (n : String), vs = [.ref p, v] ∧ BRow C H p l ∧ TyN K H v n ∧
  (amongV v 0 ((l.length : Int) - 1) = false → E (.ref X) none H) ∧ (∀ (i : Nat) (b : Bool), v = nV i → l[i]? = some b → Q (bV b) H)
def spBOnes (K : PySem.W.Frag) (C X : Addr) : Sp := fun vs H Q E => ∃ (p : Addr) (l : List Bool) (v : V) (n : String), vs = [.ref p, v] ∧ BRow C H p l ∧ TyN K H v n ∧
  (amongV v 0 (l.length : Int) = false → E (.ref X) none H) ∧ (∀ i : Nat, v = nV i → i ≤ l.length → Q (nV (cnt (l.take i))) H)
theorem among_nat {v : V} {m : Nat} (h : amongV v 0 (m : Int) = true) : ∃ i : Nat, v = nV i ∧ i ≤ m := by
  obtain ⟨i, rfl, h0, h1⟩ := among_yes h
  obtain ⟨k, rfl⟩ := Int.eq_ofNat_of_zero_le h0
  exact ⟨k, rfl, by omega⟩
theorem among_lt {v : V} {m : Nat} (h : amongV v 0 ((m : Int) - 1) = true) : ∃ i : Nat, v = nV i ∧ i < m := by
  obtain ⟨i, rfl, h0, h1⟩ := among_yes h
  obtain ⟨k, rfl⟩ := Int.eq_ofNat_of_zero_le h0
  exact ⟨k, rfl, by omega⟩
theorem nat_among {i m : Nat} (h : i ≤ m) : amongV (nV i) 0 (m : Int) = true := among_in (by omega) (by omega)
theorem lt_among {i m : Nat} (h : i < m) : amongV (nV i) 0 ((m : Int) - 1) = true := among_in (by omega) (by omega)
theorem not_false {b : Bool} {p : Prop} (h : b = true) : b = false → p := fun e => by rw [h] at e; cases e
theorem nV_inj {i j : Nat} (h : nV i = nV j) : i = j := by
  unfold nV at h
  injection h with h
  omega
theorem bV_inj {i j : Bool} (h : bV i = bV j) : i = j := by
  unfold bV at h
  injection h with h
  cases i <;> cases j <;> first | rfl | (exact absurd h (by decide))
theorem range_getD {α β : Type} (f : α → β) (d : α) (l : List α) : (List.range l.length).map (fun i => f (l.getD i d)) = l.map f := by
  apply List.ext_getElem?
  intro i
  rw [List.getElem?_map, List.getElem?_map]
  by_cases h : i < l.length
  · rw [List.getElem?_range h, List.getElem?_eq_getElem h, Option.map_some, Option.map_some, List.getD_eq_getElem?_getD, List.getElem?_eq_getElem h]
    rfl
  · rw [List.getElem?_eq_none (by rw [List.length_range]; omega), List.getElem?_eq_none (by omega)]
    rfl
theorem ok_B_words (T : Tx K mg A) : FnOk P w K mg base CX0 1 A.B_words A.B_words_d ["self"] (spBWords A.cB) := by
  refine T.B_words.F.ok sc_B_words (fun vs H Q E h => ?_) (fun cdv Ar outer s H vs Q E hr h => ?_)
  · obtain ⟨p, l, rfl, _⟩ := h
    rfl
  · obtain ⟨p, l, rfl, ⟨a, b, ⟨dx, hp⟩, ha, hb, _, _⟩, k⟩ := h
    refine ⟨_, (pss_one (ps_ret (pe_callTy call_list_of (by rfl) T.b_list (by decide +kernel) (pa_cons (pe_fld (pv 0) rfl) pa_nil)))), ?_⟩
    refine ⟨_, rfl, p, A.cB, dx, _, _, rfl, hp, T.clB, T.nB_packs, brf_packs _ _ _, a, _, rfl, .inl (SqL.of ha), fun q hq => ?_⟩
    exact k q _ (same_new (Same.refl H) hq) hq upd_same
theorem ok_B_marks (T : Tx K mg A) : FnOk P w K mg base CX0 1 A.B_marks A.B_marks_d ["self"] (spBMarks A.cB) := by
  refine T.B_marks.F.ok sc_B_marks (fun vs H Q E h => ?_) (fun cdv Ar outer s H vs Q E hr h => ?_)
  · obtain ⟨p, l, rfl, _⟩ := h
    rfl
  · obtain ⟨p, l, rfl, ⟨a, b, ⟨dx, hp⟩, ha, hb, _, _⟩, k⟩ := h
    refine ⟨_, (pss_one (ps_ret (pe_callTy call_list_of (by rfl) T.b_list (by decide +kernel) (pa_cons (pe_fld (pv 0) rfl) pa_nil)))), ?_⟩
    refine ⟨_, rfl, p, A.cB, dx, _, _, rfl, hp, T.clB, T.nB_heads, brf_heads _ _ _, b, _, rfl, .inl (SqL.of hb), fun q hq => ?_⟩
    exact k q _ (same_new (Same.refl H) hq) hq upd_same
theorem ok_B_bit_at (T : Tx K mg A) : FnOk P w K mg base (L2.CX P w) 3 A.B_bit_at A.B_bit_at_d ["self", "place"] (spBitAt K A.cB A.xNoPlace) := by
  refine T.B_bit_at.F.okX sc_B_bit_at (fun vs H Q E h => ?_) (fun cdv Ar outer s H vs Q E hr h => ?_)
  · obtain ⟨p, l, v, n, rfl, _⟩ := h
    rfl
  · obtain ⟨p, l, v, n, rfl, ⟨a, b, ⟨dx, hp⟩, ha, hb, _, _⟩, hk, kE, kQ⟩ := h
    refine ⟨_, (pss_cons (ps_if (pt_not (pt_val (pe_call (E := E0) (ok_is_among T) (hr.mono (by decide)) rfl T.is_among.g T.is_among.F.kp T.is_among.b .nil pass0 (pa_cons (pv 1) (pa_cons pe_int (pa_cons (pe_op op_sub (pe_fld (pv 0) rfl) pe_int) pa_nil)))))) (pss_one (ps_raise rfl (takes_of rfl rfl rfl rfl) (pmk_own PySem.F.excBase_ValueError T.xNoPlace.x T.xNoPlace.g T.xNoPlace.k (raises_own T.xNoPlace.b T.xNoPlace.t) rfl))) pss_nil)
      (PSs.nox (pss_one (ps_ret (pe_op op_and (pe_op op_shr (pe_ix ix_list (pe_fld (pv 0) rfl) (pe_op op_fdiv (pv 1) (pe_glob (v := V.int 32) rfl T.kWORD.choose_spec ⟨_, rfl⟩)) (fun _ _ => rfl)) (pe_op op_mod (pv 1) (pe_glob (v := V.int 32) rfl T.kWORD.choose_spec ⟨_, rfl⟩))) pe_int))))), ?_⟩
    refine ⟨_, rfl, _, rfl, p, A.cB, dx, _, _, rfl, hp, T.clB, T.nB_size, brf_size _ _ _, _, _, rfl, rfl, v, n, 0, _, rfl, hk, _, rfl, ?_⟩
    by_cases c : amongV v 0 ((l.length : Int) - 1) = true
    · rw [c]
      refine iteF ?_
      obtain ⟨i, rfl, hi⟩ := among_lt c
      have hw : i / 32 < wn l.length := by unfold wn; omega
      have e1 : ((i : Int) / 32) = ((i / 32 : Nat) : Int) := by omega
      refine ⟨_, rfl, p, A.cB, dx, _, _, rfl, hp, T.clB, T.nB_packs, brf_packs _ _ _, _, rfl, _, _, rfl, rfl, ⟨by decide, by decide⟩, a, _, _, nV (wordOf ((l.drop (32 * (i / 32))).take 32)), rfl, rfl, SqL.of ha, at_of e1 ?_, ?_⟩
      · rw [List.getElem?_map, words_at hw]
        rfl
      refine ⟨_, rfl, _, _, rfl, rfl, (by show (0 : Int) < 32; decide), _, _, rfl, rfl, ?_, _, _, rfl, rfl, ?_⟩
      · show (0 : Int) ≤ (i : Int) % 32
        omega
      have q := kQ i l[i] rfl (List.getElem?_eq_getElem hi)
      refine cast ?_ q
      congr 1
      have e2 : ((i : Int) % 32).toNat = i % 32 := by omega
      have e3 := bit_of hi
      rw [List.getD_eq_getElem?_getD, List.getElem?_eq_getElem hi] at e3
      show bV l[i] = V.int (Builtin.bitAnd ((wordOf ((l.drop (32 * (i / 32))).take 32) : Int) / 2 ^ ((i : Int) % 32).toNat) 1)
      rw [e2, PyProof.Rows.bitAnd_m1, cast_pow]
      unfold bV
      congr 1
      have e4 : (l[i].toNat : Int) = ((wordOf ((l.drop (32 * (i / 32))).take 32) / 2 ^ (i % 32) % 2 : Nat) : Int) := by rw [e3]; rfl
      rw [e4]
      simp
    · have c' : amongV v 0 ((l.length : Int) - 1) = false := by simpa using c
      rw [c']
      refine iteT ?_
      exact kE c'
theorem ok_B_bits (T : Tx K mg A) : FnOk P w K mg base CX0 4 A.B_bits A.B_bits_d ["self"] (spBBits A.cB) := by
  refine T.B_bits.F.ok sc_B_bits (fun vs H Q E h => ?_) (fun cdv Ar outer s H vs Q E hr h => ?_)
  · obtain ⟨p, l, rfl, _⟩ := h
    rfl
  · obtain ⟨p, l, rfl, R, k⟩ := h
    obtain ⟨a, b, ⟨dx, hp⟩, ha, hb, hne, hl⟩ := id R
    refine ⟨_, (pss_one (ps_ret (pe_lc (own := [("place", 1)]) (g := gName 1) (tt := tYes) rfl sc_B_bits.nd (pi_range1 (by rfl) T.b_range (pa_cons (pe_fld (pv 0) rfl) pa_nil)) (blkOk_by (N := n_B_bits) (sc := defScope s_B_bits) (by decide +kernel)) (fun _ _ _ _ _ => (pg_name (i := 1) sc_B_bits.nd rfl (by first | exact Or.inl rfl | exact Or.inr rfl))) (fun _ _ _ _ _ => pts_nil) (fun _ _ _ _ _ => (pe_meth (E := E0) (pv 0) T.clB T.B_bit_at.m (ok_B_bit_at T) (hr.mono (by decide)) T.B_bit_at.b .nil passL (pa_cons (pv 1) pa_nil)))))), ?_⟩
    refine ⟨_, rfl, p, A.cB, dx, _, _, rfl, hp, T.clB, T.nB_size, brf_size _ _ _, _, rfl, by omega, by omega, fun D hD => ?_⟩
    refine lc_rng (n := ((l.length : Nat) : Int).toNat) (fun i => bV (l.getD i false)) (by omega) hD (fun _ => rfl) (fun i H' hi s1 Q' kq => ?_) (fun H' s1 hD1 => ?_)
    · have hi2 : i < l.length := by omega
      refine ⟨_, rfl, p, dx, _, rfl, s1 _ _ hp, brf_no _ _ _ (by decide +kernel) (by decide +kernel) (by decide +kernel), _, rfl, p, l, _, "int", rfl, R.same s1, TyN.int _, not_false (lt_among hi2), fun j b' ej hb' => ?_⟩
      have ej := nV_inj (i := i) (j := j) ej
      subst ej
      have q := kq H' (Same.refl H')
      rw [List.getD_eq_getElem?_getD, hb'] at q
      exact q
    · refine k D H' s1 hD ?_
      rw [hD1, Int.toNat_natCast, range_getD]

/-! ### a row of bits: noughts, found, put -/
def spNoughts (K : PySem.W.Frag) (C X : Addr) : Sp := fun vs H Q E => ∃ (p : Addr) (l : List Bool) (v : V) (n : String), vs = [.ref p, v] ∧ BRow C H p l ∧ TyN K H v n ∧
  (amongV v 0 (l.length : Int) = false → E (.ref X) none H) ∧ (∀ i : Nat, v = nV i → i ≤ l.length → Q (nV (i - cnt (l.take i))) H)
def spPlaceOf (K : PySem.W.Frag) (C X : Addr) : Sp := fun vs H Q E => ∃ (p : Addr) (l : List Bool) (u v : V) (m n : String), vs = [.ref p, u, v] ∧ BRow C H p l ∧ TyN K H u m ∧ TyN K H v n ∧
  ((amongV u 0 1 = false ∨ amongV v 0 ((l.length : Int) - 1) = false) → E (.ref X) none H) ∧
  (∀ (b : Bool) (t : Nat), u = bV b → v = nV t → t < l.length → (l.count b ≤ t → E (.ref X) none H) ∧ (∀ r : Nat, l[r]? = some b → cb b l r = t → Q (nV r) H))
theorem bV_of {v : V} (h : amongV v 0 1 = true) : ∃ b, v = bV b := by
  obtain ⟨i, rfl, h0, h1⟩ := among_yes h
  by_cases e0 : i = 0
  · exact ⟨false, by rw [e0]; rfl⟩
  · exact ⟨true, by rw [show i = 1 by omega]; rfl⟩
theorem cb_le_len (b : Bool) (l : List Bool) {p : Nat} (h : p ≤ l.length) : cb b l p ≤ p := by
  have := cb_sum l h
  cases b <;> omega
/-- a bit is put: C the refusal of what is no bit, D of what is no place -/
def spBPut (K : PySem.W.Frag) (C X Y : Addr) : Sp := fun vs H Q E => ∃ (p a b : Addr) (l : List Bool) (v u : V) (n m : String), vs = [.ref p, v, u] ∧ BRowAt C H p a b l ∧ TyN K H v n ∧ TyN K H u m ∧
  (amongV u 0 1 = false → E (.ref X) none H) ∧
  (∀ c : Bool, u = bV c → (amongV v 0 ((l.length : Int) - 1) = false → E (.ref Y) none H) ∧
    (∀ i : Nat, v = nV i →
      (l[i]? = some c → ∀ (q : Addr) (H' : Hp), Same H H' → H q = none → H' q = some (.lst []) → Q (.ref q) H') ∧
      (l[i]? = some (!c) → ∀ (q : Addr) (H' : Hp), (∀ b' o, H b' = some o → b' ≠ a → b' ≠ b → H' b' = some o) → H q = none → H' q = some (.lst [nV (i / 32)]) → BRowAt C H' p a b (l.set i c) → Q (.ref q) H')))
/-- the marks while they are put right: those below j are new -/
def mmix (l l' : List Bool) (j : Nat) : List Nat := (List.range (wn l.length)).map fun k => if k < j then cnt (l'.take (32 * k)) else cnt (l.take (32 * k))
theorem mmix_len (l l' : List Bool) (j : Nat) : (mmix l l' j).length = wn l.length := by simp [mmix]
theorem mmix_at {l l' : List Bool} {j k : Nat} (h : k < wn l.length) : (mmix l l' j)[k]? = some (if k < j then cnt (l'.take (32 * k)) else cnt (l.take (32 * k))) := by simp [mmix, h]
theorem mmix_set {l l' : List Bool} {j : Nat} (h : j < wn l.length) : (mmix l l' j).set j (cnt (l'.take (32 * j))) = mmix l l' (j + 1) := by
  apply List.ext_getElem?
  intro k
  rw [List.getElem?_set]
  by_cases hk : k < wn l.length
  · by_cases e : j = k
    · subst e
      rw [if_pos rfl, if_pos (by rw [mmix_len]; exact h), mmix_at hk, if_pos (by omega)]
    · rw [if_neg e, mmix_at hk, mmix_at hk]
      by_cases e2 : k < j
      · rw [if_pos e2, if_pos (by omega)]
      · rw [if_neg e2, if_neg (by omega)]
  · have e2 : (mmix l l' (j + 1))[k]? = none := List.getElem?_eq_none (by rw [mmix_len]; omega)
    rw [e2]
    by_cases e : j = k
    · omega
    · rw [if_neg e]
      exact List.getElem?_eq_none (by rw [mmix_len]; omega)
theorem mmix_old {l : List Bool} {i : Nat} {c : Bool} (h : l[i]? = some (!c)) : mmix l (l.set i c) (i / 32 + 1) = marks l := by
  unfold mmix marks
  apply List.map_congr_left
  intro k _
  by_cases e : k < i / 32 + 1
  · rw [if_pos e]
    have := cnt_set_take h (32 * k)
    rw [if_neg (by omega)] at this
    omega
  · rw [if_neg e]
theorem mmix_new {l l' : List Bool} (hl : l'.length = l.length) {j : Nat} (h : wn l.length ≤ j) : mmix l l' j = marks l' := by
  unfold mmix marks
  rw [hl]
  apply List.map_congr_left
  intro k hk
  have := List.mem_range.mp hk
  rw [if_pos (by omega)]
theorem ixN_nat {n j : Nat} (hj : j < n) : ixN n (j : Int) = some j := by
  unfold ixN
  rw [if_pos (by omega), if_pos (by omega)]
  simp

/-! ### data compared -/
theorem dp_ints {K : PySem.W.Frag} {H : Hp} : ∀ ns : List Int, DpAll K H (ns.map V.int) (ns.map PyData.int)
  | [] => .nil
  | n :: ns => .cons (.int n) (dp_ints ns)
theorem lay_ints : ∀ ns : List Int, PyData.canLayAll0 (ns.map PyData.int) = true
  | [] => by simp [PyData.canLayAll0]
  | n :: ns => by
    rw [List.map_cons, PyData.canLayAll0, lay_ints ns]
    simp [PyData.canLay0]
theorem depth_ints : ∀ ns : List Int, PyData.depthAll (ns.map PyData.int) ≤ 1
  | [] => by simp [PyData.depthAll]
  | n :: ns => by
    have := depth_ints ns
    rw [List.map_cons, PyData.depthAll]
    simp only [PyData.depth]
    omega
theorem shaped_ints (ns : List Int) : SeqAt.shaped (.list (ns.map PyData.int)) = true := by
  unfold SeqAt.shaped
  rw [PyData.canLay0, lay_ints, PyData.depth]
  have := depth_ints ns
  simp only [Bool.true_and, decide_eq_true_eq]
  omega
theorem eqv_ints : ∀ ns ms : List Int, PyData.eqvAll (ns.map PyData.int) (ms.map PyData.int) = decide (ns = ms)
  | [], [] => by simp [PyData.eqvAll]
  | [], m :: ms => by simp [PyData.eqvAll]
  | n :: ns, [] => by simp [PyData.eqvAll]
  | n :: ns, m :: ms => by
    rw [List.map_cons, List.map_cons, PyData.eqvAll, eqv_ints ns ms, PyData.eqv]
    by_cases h : n = m
    · by_cases h2 : ns = ms <;> simp [h, h2]
    · simp [h]
theorem ne_ints {K : PySem.W.Frag} {H : Hp} {p q : Addr} {ns ms : List Int} {Q : VK} (h1 : SqL K H p (ns.map V.int)) (h2 : SqL K H q (ms.map V.int)) (k : Q (.bl (!decide (ns = ms))) H) : rNeD K (.ref p) (.ref q) H Q :=
  ⟨_, _, .lst h1 (dp_ints ns), .lst h2 (dp_ints ms), shaped_ints ns, shaped_ints ms, by rw [PyData.eqv, eqv_ints]; exact k⟩
theorem eq_ints {K : PySem.W.Frag} {H : Hp} {p q : Addr} {ns ms : List Int} {Q : VK} (h1 : SqL K H p (ns.map V.int)) (h2 : SqL K H q (ms.map V.int)) (k : Q (.bl (decide (ns = ms))) H) : rEqD K (.ref p) (.ref q) H Q :=
  ⟨_, _, .lst h1 (dp_ints ns), .lst h2 (dp_ints ms), shaped_ints ns, shaped_ints ms, by rw [PyData.eqv, eqv_ints]; exact k⟩
theorem ints_nV (l : List Nat) : l.map nV = (l.map fun (n : Nat) => ((n : Nat) : Int)).map V.int := by rw [List.map_map]; rfl
theorem ints_bV (l : List Bool) : l.map bV = (l.map fun b => (b.toNat : Int)).map V.int := by rw [List.map_map]; rfl
/-- two lists of naturals, the same -/
theorem ne_same {K : PySem.W.Frag} {H : Hp} {p q : Addr} {l : List Nat} {Q : VK} (h1 : SqL K H p (l.map nV)) (h2 : SqL K H q (l.map nV)) (k : Q (.bl false) H) : rNeD K (.ref p) (.ref q) H Q := by
  rw [ints_nV] at h1 h2
  exact ne_ints h1 h2 (by simpa using k)
theorem eq_same {K : PySem.W.Frag} {H : Hp} {p q : Addr} {l : List Nat} {Q : VK} (h1 : SqL K H p (l.map nV)) (h2 : SqL K H q (l.map nV)) (k : Q (.bl true) H) : rEqD K (.ref p) (.ref q) H Q := by
  rw [ints_nV] at h1 h2
  exact eq_ints h1 h2 (by simpa using k)
theorem ne_sameB {K : PySem.W.Frag} {H : Hp} {p q : Addr} {l : List Bool} {Q : VK} (h1 : SqL K H p (l.map bV)) (h2 : SqL K H q (l.map bV)) (k : Q (.bl false) H) : rNeD K (.ref p) (.ref q) H Q := by
  rw [ints_bV] at h1 h2
  exact ne_ints h1 h2 (by simpa using k)
theorem eq_sameB {K : PySem.W.Frag} {H : Hp} {p q : Addr} {l : List Bool} {Q : VK} (h1 : SqL K H p (l.map bV)) (h2 : SqL K H q (l.map bV)) (k : Q (.bl true) H) : rEqD K (.ref p) (.ref q) H Q := by
  rw [ints_bV] at h1 h2
  exact eq_ints h1 h2 (by simpa using k)

/-! ### the law's row of numbers: a dict with the script and a counter -/
def kAt : Key := Sum.inr ("at" : Str)
def kCe : Key := Sum.inr ("cells" : Str)
theorem k_ca : ¬ (kCe = kAt) := by
  intro h
  injection h with h
  exact absurd h (by decide +kernel)
def stD (a : Addr) (k : Nat) : List (Key × V) := [(kCe, .ref a), (kAt, nV k)]
theorem st_at (a : Addr) (k : Nat) : valV (stD a k) kAt = some (nV k) := by
  unfold stD
  rw [valV_neg k_ca, valV_pos rfl]
theorem st_cells (a : Addr) (k : Nat) : valV (stD a k) kCe = some (.ref a) := by
  unfold stD
  rw [valV_pos rfl]
theorem st_put (a : Addr) (k j : Nat) : putK (stD a k) kAt (nV j) = stD a j := by
  unfold putK stD
  rw [if_pos (by simp)]
  simp [k_ca]
theorem dget_at {H : Hp} {d a : Addr} {k : Nat} (h : H d = some (.dK (stD a k))) : DGet H d (.str "at") (some (nV k)) := by
  have := DGet.k (k := kAt) h
  rw [st_at] at this
  exact this
theorem dget_cells {H : Hp} {d a : Addr} {k : Nat} (h : H d = some (.dK (stD a k))) : DGet H d (.str "cells") (some (.ref a)) := by
  have := DGet.k (k := kCe) h
  rw [st_cells] at this
  exact this
theorem dput_at {H : Hp} {d a : Addr} {k j : Nat} {v : V} (h : H d = some (.dK (stD a k))) (hv : v = nV j) : DPut H d (.str "at") v (upd H d (.dK (stD a j))) := by
  have := DPut.k (k := kAt) (v := v) h (Nat.lt_of_le_of_lt (show (stD a k).length ≤ 2 from Nat.le_refl _) (by decide))
  rw [hv, st_put] at this
  rw [hv]
  exact this
structure St (K : PySem.W.Frag) (H : Hp) (d a : Addr) (ns : List Int) (k : Nat) : Prop where
  dict : H d = some (.dK (stD a k))
  cells : SqL K H a (ns.map V.int)
  len : ns.length ≤ 63
  few : k ≤ 1000000
theorem sql_keepD {K : PySem.W.Frag} {H H' : Hp} {d a : Addr} {kvs : List (Key × V)} {xs : List V} (k : Keep d H H') (hd : H d = some (.dK kvs)) (h : SqL K H a xs) : SqL K H' a xs := by
  rcases h with (h | ⟨o, h⟩) | h
  · exact .inl (.inl (k _ _ h (ne_of h hd (by intro z; cases z))))
  · exact .inl (.inr ⟨o, k _ _ h (ne_of h hd (by intro z; cases z))⟩)
  · exact .inr h
theorem St.same {K : PySem.W.Frag} {H H' : Hp} {d a : Addr} {ns : List Int} {k : Nat} (s : Same H H') (h : St K H d a ns k) : St K H' d a ns k := ⟨s _ _ h.dict, s.seq h.cells, h.len, h.few⟩
theorem Keep.free {p x : Addr} {H H' : Hp} {o : HO} (k : Keep p H H') (h : H' x = none) (hp : H' p = some o) : H x = none := by
  cases e : H x with
  | none => rfl
  | some u =>
    by_cases z : x = p
    · rw [z, hp] at h; cases h
    · rw [k _ _ e z] at h; cases h
theorem St.keep {K : PySem.W.Frag} {H H' : Hp} {d a : Addr} {ns : List Int} {k k' : Nat} (h : St K H d a ns k) (kp : Keep d H H') (hd : H' d = some (.dK (stD a k'))) (hk : k' ≤ 1000000) : St K H' d a ns k' :=
  ⟨hd, sql_keepD kp h.dict h.cells, h.len, hk⟩
/-- one more number drawn: some number below 306783379 -/
def spNext (K : PySem.W.Frag) : Sp := fun vs H Q _ => ∃ (d a : Addr) (ns : List Int) (k : Nat), vs = [.ref d] ∧ St K H d a ns k ∧ k < 900000 ∧
  ∀ (n : Nat) (H' : Hp), n < 306783379 → Keep d H H' → St K H' d a ns (k + 1) → Q (nV n) H'
theorem draw_nat {z : Int} : ∃ n : Nat, z % 2147483647 / 7 = (n : Int) ∧ n < 306783379 := by
  refine ⟨(z % 2147483647 / 7).toNat, ?_, ?_⟩ <;> omega
theorem emod_at {α : Type} {xs : List α} {k : Int} (h : 0 < xs.length) : ∃ j : Nat, k % (xs.length : Int) = (j : Int) ∧ j < xs.length := by
  have h1 := Int.emod_nonneg k (b := (xs.length : Int)) (by omega)
  have h2 := Int.emod_lt_of_pos k (b := (xs.length : Int)) (by omega)
  exact ⟨(k % (xs.length : Int)).toNat, by omega, by omega⟩
theorem if_t {c : Bool} {A B : Prop} (hc : c = true) (h : A) : if c = true then A else B := by
  rw [if_pos hc]
  exact h
theorem if_f {c : Bool} {A B : Prop} (hc : c = false) (h : B) : if c = true then A else B := by
  rw [hc, if_neg Bool.false_ne_true]
  exact h
theorem same_new_seq {K : PySem.W.Frag} {H : Hp} {a p : Addr} {xs : List V} {o : HO} (h : SqL K H a xs) (hp : H p = none) : SqL K (upd H p o) a xs := (same_new (Same.refl H) hp).seq h
set_option maxHeartbeats 1000000 in
theorem ok__law_next (T : Tx K mg A) : FnOk P w K mg base CX0 1 A._law_next A._law_next_d ["_law_state"] (spNext K) := by
  refine T._law_next.F.ok sc__law_next (fun vs H Q E h => ?_) (fun cdv Ar outer s H vs Q E hr h => ?_)
  · obtain ⟨d, a, ns, k, rfl, _⟩ := h
    rfl
  · obtain ⟨d, a, ns, k, rfl, S, hk, kQ⟩ := h
    have hu := hu_of hr
    refine ⟨_, (pss_cons (ps_dput hu (pv 0) pe_str (pe_op op_add (pe_dget hu (pv 0) pe_str (fun _ _ => rfl)) pe_int) rfl)
      (pss_cons (ps_set (i := 1) sc__law_next.nd rfl (by first | exact Or.inl rfl | exact Or.inr rfl) (pe_dget hu (pv 0) pe_str (fun _ _ => rfl)))
      (pss_cons (ps_set (i := 2) sc__law_next.nd rfl (by first | exact Or.inl rfl | exact Or.inr rfl) (pe_dget hu (pv 0) pe_str (fun _ _ => rfl)))
      (pss_cons (ps_set (i := 3) sc__law_next.nd rfl (by first | exact Or.inl rfl | exact Or.inr rfl) (pe_op op_add (pe_op op_mul (pe_op op_mul pe_int (pv 1)) (pv 1)) (pe_op op_mul pe_int (pv 1))))
      (pss_cons (ps_if (pt_cmpR (op_neD (hr.units)) (pv 2) (pe_lst pa_nil) (nomark _)) (pss_one (ps_set (i := 3) sc__law_next.nd rfl (by first | exact Or.inl rfl | exact Or.inr rfl) (pe_op op_add (pv 3) (pe_op op_mul (pe_op op_mod (pe_ix ix_list (pv 2) (pe_op op_mod (pv 1) (pe_callB call_len_seq (by rfl) T.b_len (by decide +kernel) (pa_cons (pv 2) pa_nil))) (fun _ _ => rfl)) pe_int) (pe_op op_add pe_int (pe_op op_fdiv (pv 1) (pe_callB call_len_seq (by rfl) T.b_len (by decide +kernel) (pa_cons (pv 2) pa_nil)))))))) pss_nil)
      (pss_one (ps_ret (pe_op op_fdiv (pe_op op_mod (pe_op op_mul (pv 3) pe_int) pe_int) pe_int)))))))), ?_⟩
    obtain ⟨hd, hc, hl, hf⟩ := id S
    -- _law_state["at"] = _law_state["at"] + 1
    refine ⟨_, rfl, d, _, rfl, dget_at hd, _, _, rfl, rfl, _, rfl, d, _, rfl, dput_at (j := k + 1) hd rfl, ?_⟩
    have kp : Keep d H (upd H d (.dK (stD a (k + 1)))) := (keep_of (Same.refl H)).upd _
    have hc1 := sql_keepD kp hd hc
    have S1' : St K (upd H d (.dK (stD a (k + 1)))) d a ns (k + 1) := ⟨upd_same, hc1, hl, by omega⟩
    refine ⟨_, rfl, d, _, rfl, dget_at upd_same, _, rfl, d, _, rfl, dget_cells upd_same, ?_⟩
    refine ⟨_, rfl, _, _, rfl, rfl, .inl ⟨by decide, by decide⟩, _, rfl, _, _, rfl, rfl, .inl ⟨?_, ?_⟩, _, rfl, _, _, rfl, rfl, .inl ⟨by decide, by decide⟩, _, _, rfl, rfl, ?_⟩
    · show -(2 ^ 64) < (31 : Int) * ((k + 1 : Nat) : Int)
      omega
    · show (31 : Int) * ((k + 1 : Nat) : Int) < 2 ^ 64
      omega
    -- if _law_cells != []
    refine ⟨_, rfl, Nat.zero_le _, fun e he => ne_ints (ns := ns) (ms := []) (same_new_seq hc1 he) (SqL.of upd_same) ⟨_, rfl, ?_⟩⟩
    have s0 := same_new (Same.refl (upd H d (.dK (stD a (k + 1))))) (o := .lst []) he
    have kp0 := kp.same s0
    have S1 := S1'.same s0
    by_cases hns : ns = []
    · refine if_f (by simp [hns]) ?_
      refine ⟨_, rfl, _, _, rfl, rfl, .inr ⟨by decide, by decide⟩, _, _, rfl, rfl, (by show (0 : Int) < 2147483647; decide), _, _, rfl, rfl, ⟨by decide, by decide⟩, ?_⟩
      obtain ⟨n, en, hn⟩ := draw_nat (z := (31 * ((k + 1 : Nat) : Int) * ((k + 1 : Nat) : Int) + 7919 * ((k + 1 : Nat) : Int)) * 48271)
      have q := kQ n _ hn kp0 S1
      refine cast ?_ q
      unfold nV
      congr 2
      exact en.symm
    · refine if_t (by simp [hns]) ?_
      have hlen : 0 < ns.length := List.length_pos_iff.mpr hns
      obtain ⟨j, ej, hj⟩ := emod_at (xs := ns) (k := ((k + 1 : Nat) : Int)) hlen
      have hlm : (ns.map V.int).length = ns.length := List.length_map ..
      refine ⟨_, rfl, _, rfl, _, rfl, _, rfl, a, _, rfl, .inl S1.cells, _, _, rfl, rfl, (by show (0 : Int) < ((ns.map V.int).length : Nat); omega), a, _, _, V.int ns[j], rfl, rfl, S1.cells, at_of (j := j) (by show ((k + 1 : Nat) : Int) % ((ns.map V.int).length : Nat) = _; rw [hlm]; exact ej) ?_, ?_⟩
      · rw [List.getElem?_map, List.getElem?_eq_getElem hj]
        rfl
      refine ⟨_, _, rfl, rfl, (by show (0 : Int) < 2147483647; decide), _, rfl, _, rfl, a, _, rfl, .inl S1.cells, _, _, rfl, rfl, ⟨by rw [hlm]; omega, by rw [hlm]; omega⟩, _, _, rfl, rfl, _, _, rfl, rfl, .inl ⟨?_, ?_⟩, _, _, rfl, rfl, ?_⟩
      · show -(2 ^ 64) < ns[j] % 2147483647
        omega
      · show ns[j] % 2147483647 < 2 ^ 64
        omega
      refine ⟨_, rfl, _, _, rfl, rfl, .inr ⟨by decide, by decide⟩, _, _, rfl, rfl, (by show (0 : Int) < 2147483647; decide), _, _, rfl, rfl, ⟨by decide, by decide⟩, ?_⟩
      obtain ⟨n, en, hn⟩ := draw_nat (z := (31 * ((k + 1 : Nat) : Int) * ((k + 1 : Nat) : Int) + 7919 * ((k + 1 : Nat) : Int) + ns[j] % 2147483647 * (1 + ((k + 1 : Nat) : Int) / (((ns.map V.int).length : Nat) : Int))) * 48271)
      have q := kQ n _ hn kp0 S1
      refine cast ?_ q
      unfold nV
      congr 2
      exact en.symm
theorem nn {z : Int} {m : Nat} (h0 : 0 ≤ z) (h1 : z < (m : Int)) : ∃ v : Nat, V.int z = nV v ∧ v < m := ⟨z.toNat, by unfold nV; congr 1; omega, by omega⟩
theorem pick {xs : List V} {z : Int} {R : Nat → Prop} (h0 : 0 ≤ z) (h1 : z < (xs.length : Int)) (hall : ∀ x ∈ xs, ∃ v : Nat, x = nV v ∧ R v) : ∃ v, atI xs z = some (nV v) ∧ R v := by
  have hj : z.toNat < xs.length := by omega
  obtain ⟨v, e, hv⟩ := hall xs[z.toNat] (List.getElem_mem hj)
  exact ⟨v, at_of (j := z.toNat) (by omega) (by rw [List.getElem?_eq_getElem hj, e]), hv⟩
/-- a number of so many bits -/
def spGreat (K : PySem.W.Frag) : Sp := fun vs H Q _ => ∃ (d a : Addr) (ns : List Int) (k wd : Nat), vs = [.ref d, nV wd] ∧ St K H d a ns k ∧ k < 890000 ∧ wd ≤ 64 ∧
  ∀ (v : Nat) (H' : Hp), v < 2 ^ wd → Keep d H H' → St K H' d a ns (k + 3) → Q (nV v) H'
set_option maxHeartbeats 1000000 in
theorem ok__law_great (T : Tx K mg A) : FnOk P w K mg base CX0 2 A._law_great A._law_great_d ["_law_state", "_law_wide"] (spGreat K) := by
  refine T._law_great.F.ok sc__law_great (fun vs H Q E h => ?_) (fun cdv Ar outer s H vs Q E hr h => ?_)
  · obtain ⟨d, a, ns, k, wd, rfl, _⟩ := h
    rfl
  · obtain ⟨d, a, ns, k, wd, rfl, S, hk, hw, kQ⟩ := h
    refine ⟨_, (pss_cons (ps_set (i := 2) sc__law_great.nd rfl (by first | exact Or.inl rfl | exact Or.inr rfl) (pe_call (E := E0) (ok__law_next T) (hr.mono (by decide)) rfl T._law_next.g T._law_next.F.kp T._law_next.b .nil pass0 (pa_cons (pv 0) pa_nil)))
      (pss_cons (ps_set (i := 3) sc__law_great.nd rfl (by first | exact Or.inl rfl | exact Or.inr rfl) (pe_op op_shl pe_int (pv 1)))
      (pss_cons (ps_set (i := 4) sc__law_great.nd rfl (by first | exact Or.inl rfl | exact Or.inr rfl) (pe_op op_mod (pe_op op_add (pe_op op_mul (pe_op op_add (pe_op op_mul (pv 2) pe_int) (pe_call (E := E0) (ok__law_next T) (hr.mono (by decide)) rfl T._law_next.g T._law_next.F.kp T._law_next.b .nil pass0 (pa_cons (pv 0) pa_nil))) pe_int) (pe_call (E := E0) (ok__law_next T) (hr.mono (by decide)) rfl T._law_next.g T._law_next.F.kp T._law_next.b .nil pass0 (pa_cons (pv 0) pa_nil))) (pv 3)))
      (pss_one (ps_ret (pe_ix ix_list (pe_lst (pa_cons (pv 4) (pa_cons (pe_op op_mod (pe_op op_mod (pe_op op_fdiv (pv 2) pe_int) pe_int) (pv 3)) (pa_cons (pe_op op_sub (pe_op op_sub (pv 3) pe_int) (pe_op op_mod (pe_op op_mod (pe_op op_fdiv (pv 2) pe_int) pe_int) (pv 3))) (pa_cons (pe_op op_shr (pv 4) (pe_op op_fdiv (pv 1) pe_int)) pa_nil))))) (pe_op op_mod (pv 2) pe_int) (fun _ _ => rfl))))))), ?_⟩
    refine ⟨_, rfl, d, a, ns, k, rfl, S, by omega, fun n1 H1 hn1 kp1 S1 => ?_⟩
    refine ⟨_, rfl, _, _, rfl, rfl, ⟨by omega, by omega, by decide⟩, ?_⟩
    obtain ⟨M, eM⟩ : ∃ M : Nat, M = 2 ^ wd := ⟨_, rfl⟩
    have hM : 0 < M := by rw [eM]; exact Nat.two_pow_pos wd
    have e1 : (1 : Int) * 2 ^ ((wd : Nat) : Int).toNat = ((M : Nat) : Int) := by rw [Int.one_mul, Int.toNat_natCast, eM, cast_pow]
    dsimp only
    rw [e1]
    rw [← eM] at kQ
    refine ⟨_, rfl, _, _, rfl, rfl, .inr ⟨by decide, by decide⟩, _, rfl, d, a, ns, k + 1, rfl, S1, by omega, fun n2 H2 hn2 kp2 S2 => ?_⟩
    refine ⟨_, _, rfl, rfl, _, _, rfl, rfl, .inr ⟨by decide, by decide⟩, _, rfl, d, a, ns, k + 2, rfl, S2, by omega, fun n3 H3 hn3 kp3 S3 => ?_⟩
    have hMi : (0 : Int) < ((M : Nat) : Int) := by omega
    refine ⟨_, _, rfl, rfl, _, rfl, _, _, rfl, rfl, hMi, ?_⟩
    dsimp only
    obtain ⟨X, eX⟩ : ∃ X : Int, X = (((n1 : Int) * 268435399 + (n2 : Int)) * 268435399 + (n3 : Int)) % ((M : Nat) : Int) := ⟨_, rfl⟩
    have hX0 : 0 ≤ X := by rw [eX]; exact Int.emod_nonneg _ (by omega)
    have hX1 : X < ((M : Nat) : Int) := by rw [eX]; exact Int.emod_lt_of_pos _ hMi
    rw [← eX]
    refine ⟨_, rfl, _, rfl, _, _, rfl, rfl, ⟨by decide, by decide⟩, _, _, rfl, rfl, (by show (0 : Int) < 5; decide), _, rfl, _, _, rfl, rfl, hMi, ?_⟩
    refine ⟨_, rfl, _, _, rfl, rfl, _, rfl, _, _, rfl, rfl, ⟨by decide, by decide⟩, _, _, rfl, rfl, (by show (0 : Int) < 3; decide), _, rfl, _, _, rfl, rfl, hMi, _, _, rfl, rfl, ?_⟩
    refine ⟨_, rfl, _, rfl, _, _, rfl, rfl, ⟨by decide, by decide⟩, _, _, rfl, rfl, (by show (0 : Int) ≤ ((wd : Nat) : Int) / 2; omega), (by show 4 ≤ sizeLine; decide), fun q hq => ?_⟩
    obtain ⟨v, ev, hv⟩ := pick (xs := [V.int X, V.int ((n1 : Int) / 7 % 5 % (M : Int)), V.int ((M : Int) - 1 - (n1 : Int) / 7 % 3 % (M : Int)), V.int (X / 2 ^ (((wd : Nat) : Int) / 2).toNat)])
      (z := (n1 : Int) % 4) (R := fun v => v < M) (by omega) (by show (n1 : Int) % 4 < 4; omega) (fun x hx => by
        have g1 := Int.emod_nonneg ((n1 : Int) / 7 % 5) (b := ((M : Nat) : Int)) (by omega)
        have g2 := Int.emod_lt_of_pos ((n1 : Int) / 7 % 5) hMi
        have g3 := Int.emod_nonneg ((n1 : Int) / 7 % 3) (b := ((M : Nat) : Int)) (by omega)
        have g4 := Int.emod_lt_of_pos ((n1 : Int) / 7 % 3) hMi
        have g5 : 0 ≤ X / 2 ^ (((wd : Nat) : Int) / 2).toNat := Int.ediv_nonneg hX0 (Int.le_of_lt (PySem.W.kbt_pos _))
        have g6 : X / 2 ^ (((wd : Nat) : Int) / 2).toNat ≤ X := Int.ediv_le_self _ hX0
        simp only [List.mem_cons, List.not_mem_nil, or_false] at hx
        rcases hx with rfl | rfl | rfl | rfl
        · exact nn hX0 hX1
        · exact nn g1 g2
        · exact nn (by omega) (by omega)
        · exact nn g5 (by omega))
    refine ⟨_, rfl, _, _, rfl, rfl, (by show (0 : Int) < 4; decide), q, _, _, _, rfl, rfl, SqL.of upd_same, ev, ?_⟩
    have s4 := same_new (Same.refl H3) (o := .lst [V.int X, V.int ((n1 : Int) / 7 % 5 % (M : Int)), V.int ((M : Int) - 1 - (n1 : Int) / 7 % 3 % (M : Int)), V.int (X / 2 ^ (((wd : Nat) : Int) / 2).toNat)]) hq
    exact kQ v _ hv (((kp1.trans kp2).trans kp3).same s4) (S3.same s4)

/-! ### the law's row of bits -/
/-- none to 330 bits in a new list -/
def spLBits (K : PySem.W.Frag) : Sp := fun vs H Q _ => ∃ (d a : Addr) (ns : List Int) (k : Nat), vs = [.ref d] ∧ St K H d a ns k ∧ k < 890000 ∧
  ∀ (l : List Bool) (q : Addr) (H' : Hp) (k' : Nat), l.length ≤ 330 → k' ≤ k + 340 → Keep d H H' → St K H' d a ns k' → H q = none → H' q = some (.lst (l.map bV)) → Q (.ref q) H'
theorem int_bit {b : Bool} : V.int (if b = true then 1 else 0) = bV b := by cases b <;> rfl
set_option maxHeartbeats 1000000 in
theorem ok__law_bits (T : Tx K mg A) : FnOk P w K mg base CX0 2 A._law_bits A._law_bits_d ["_law_state"] (spLBits K) := by
  refine T._law_bits.F.ok sc__law_bits (fun vs H Q E h => ?_) (fun cdv Ar outer s H vs Q E hr h => ?_)
  · obtain ⟨d, a, ns, k, rfl, _⟩ := h
    rfl
  · obtain ⟨d, a, ns, k, rfl, S, hk, kQ⟩ := h
    refine ⟨_, (pss_cons (ps_set (i := 1) sc__law_bits.nd rfl (by first | exact Or.inl rfl | exact Or.inr rfl) (pe_call (E := E0) (ok__law_next T) (hr.mono (by decide)) rfl T._law_next.g T._law_next.F.kp T._law_next.b .nil pass0 (pa_cons (pv 0) pa_nil)))
      (pss_cons (ps_set (i := 2) sc__law_bits.nd rfl (by first | exact Or.inl rfl | exact Or.inr rfl) (pe_ix ix_list (pe_lst (pa_cons (pe_op op_mod (pe_op op_fdiv (pv 1) pe_int) pe_int) (pa_cons (pe_op op_mul pe_int (pe_op op_mod (pe_op op_fdiv (pv 1) pe_int) pe_int)) (pa_cons (pe_op op_mod (pe_op op_fdiv (pv 1) pe_int) pe_int) (pa_cons (pe_op op_add pe_int (pe_op op_mod (pe_op op_fdiv (pv 1) pe_int) pe_int)) (pa_cons pe_int (pa_cons pe_int pa_nil))))))) (pe_op op_mod (pv 1) pe_int) (fun _ _ => rfl)))
      (pss_cons (ps_set (i := 3) sc__law_bits.nd rfl (by first | exact Or.inl rfl | exact Or.inr rfl) (pe_ix ix_list (pe_lst (pa_cons pe_int (pa_cons pe_int (pa_cons pe_int (pa_cons pe_int pa_nil))))) (pe_op op_mod (pe_op op_fdiv (pv 1) pe_int) pe_int) (fun _ _ => rfl)))
      (pss_cons (ps_setLc (i := 4) (own := [("_law_k", 5)]) (g := gName 5) (tt := tYes) rfl sc__law_bits.nd rfl rfl (sw_true rfl rfl rfl (by decide +kernel)) (pi_range1 (by rfl) T.b_range (pa_cons (pv 2) pa_nil)) (blkOk_by (N := n__law_bits) (sc := defScope s__law_bits) (by decide +kernel)) (fun _ _ _ _ _ => (pg_name (i := 5) sc__law_bits.nd rfl (by first | exact Or.inl rfl | exact Or.inr rfl))) (fun _ _ _ _ _ => pts_nil) (fun _ _ _ _ _ => (pe_callTy call_int1 (by rfl) T.b_int (by decide +kernel) (pa_cons (pe_cmpR op_eq (pe_op op_mod (pe_op op_fdiv (pe_call (E := E0) (ok__law_next T) (hr.mono (by decide)) rfl T._law_next.g T._law_next.F.kp T._law_next.b .nil pass0 (pa_cons (pv 0) pa_nil)) pe_int) (pv 3)) pe_int (nomark _)) pa_nil))))
      (pss_cons (ps_if (pt_cmpR op_eq (pe_op op_mod (pe_op op_fdiv (pv 1) pe_int) pe_int) pe_int (nomark _)) (pss_one (ps_setLc (i := 4) (own := [("_law_bit", 6)]) (g := gName 6) (tt := tYes) rfl sc__law_bits.nd rfl rfl (sw_true rfl rfl rfl (by decide +kernel)) (pi_list (pv 4)) (blkOk_by (N := n__law_bits) (sc := defScope s__law_bits) (by decide +kernel)) (fun _ _ _ _ _ => (pg_name (i := 6) sc__law_bits.nd rfl (by first | exact Or.inl rfl | exact Or.inr rfl))) (fun _ _ _ _ _ => pts_nil) (fun _ _ _ _ _ => (pe_op op_sub pe_int (pv 6))))) pss_nil)
      (pss_one (ps_ret (pv 4)))))))), ?_⟩
    refine ⟨_, rfl, d, a, ns, k, rfl, S, by omega, fun n H1 hn kp1 S1 => ?_⟩
    -- _law_size
    refine ⟨_, rfl, _, _, rfl, rfl, ⟨by decide, by decide⟩, _, _, rfl, rfl, (by show (0 : Int) < 70; decide), ?_⟩
    refine ⟨_, rfl, _, _, rfl, rfl, ⟨by decide, by decide⟩, _, _, rfl, rfl, (by show (0 : Int) < 5; decide), _, _, rfl, rfl, .inl ⟨by decide, by decide⟩, ?_⟩
    refine ⟨_, rfl, _, _, rfl, rfl, ⟨by decide, by decide⟩, _, _, rfl, rfl, (by show (0 : Int) < 330; decide), ?_⟩
    refine ⟨_, rfl, _, _, rfl, rfl, ⟨by decide, by decide⟩, _, _, rfl, rfl, (by show (0 : Int) < 3; decide), _, _, rfl, rfl, (by show 6 ≤ sizeLine; decide), fun q1 hq1 => ?_⟩
    obtain ⟨sz, esz, hsz⟩ := pick (xs := [V.int ((n : Int) / 9 % 70), V.int (32 * ((n : Int) / 9 % 5)), V.int ((n : Int) / 9 % 330), V.int (31 + (n : Int) / 9 % 3), V.int 0, V.int 64])
      (z := (n : Int) % 6) (R := fun v => v < 331) (by omega) (by show (n : Int) % 6 < 6; omega) (fun x hx => by
        simp only [List.mem_cons, List.not_mem_nil, or_false] at hx
        rcases hx with rfl | rfl | rfl | rfl | rfl | rfl <;> exact nn (by omega) (by omega))
    refine ⟨_, rfl, _, _, rfl, rfl, (by show (0 : Int) < 6; decide), q1, _, _, _, rfl, rfl, SqL.of upd_same, esz, ?_⟩
    generalize hH2 : upd H1 q1 (.lst [V.int ((n : Int) / 9 % 70), V.int (32 * ((n : Int) / 9 % 5)), V.int ((n : Int) / 9 % 330), V.int (31 + (n : Int) / 9 % 3), V.int 0, V.int 64]) = H2
    have s2 : Same H1 H2 := by rw [← hH2]; exact same_new (Same.refl H1) hq1
    -- _law_part
    refine ⟨(by show 4 ≤ sizeLine; decide), fun q2 hq2 => ?_⟩
    obtain ⟨pt, ept, hpt⟩ := pick (xs := [V.int 2, V.int 2, V.int 9, V.int 40]) (z := (n : Int) / 4000 % 4) (R := fun v => 0 < v) (by omega) (by show (n : Int) / 4000 % 4 < 4; omega) (fun x hx => by
        simp only [List.mem_cons, List.not_mem_nil, or_false] at hx
        rcases hx with rfl | rfl | rfl | rfl
        · exact ⟨2, rfl, by decide⟩
        · exact ⟨2, rfl, by decide⟩
        · exact ⟨9, rfl, by decide⟩
        · exact ⟨40, rfl, by decide⟩)
    refine ⟨_, rfl, _, _, rfl, rfl, ⟨by decide, by decide⟩, _, _, rfl, rfl, (by show (0 : Int) < 4; decide), q2, _, _, _, rfl, rfl, SqL.of upd_same, ept, ?_⟩
    generalize hH3 : upd H2 q2 (.lst [V.int 2, V.int 2, V.int 9, V.int 40]) = H3
    have s3 : Same H2 H3 := by rw [← hH3]; exact same_new (Same.refl H2) hq2
    have S3 := (S1.same s2).same s3
    have kp3 : Keep d H H3 := (kp1.same s2).same s3
    -- the bits
    refine ⟨_, rfl, sz, rfl, by omega, by omega, fun D hD => ?_⟩
    have hdD : d ≠ D := ne_of_none S3.dict hD
    refine lc_range (lo := 0) (n := ((sz : Nat) : Int).toNat) (fun i H' => Keep d H3 H' ∧ St K H' d a ns (k + 1 + i) ∧ ∃ l : List Bool, l.length = i ∧ H' D = some (.lst (l.map bV)))
      ⟨(same_new (Same.refl H3) hD |> keep_of), S3.same (same_new (Same.refl H3) hD), [], rfl, upd_same⟩ (fun i H' hi h => ?_) (fun H' h => ?_)
    · obtain ⟨kp4, S4, l, hl, hD4⟩ := h
      refine ⟨rfl, ?_⟩
      refine tYes_i ?_
      rw [if_pos rfl]
      refine ⟨_, rfl, d, a, ns, k + 1 + i, rfl, S4, by omega, fun m H5 hm kp5 S5 => ?_⟩
      refine ⟨_, _, rfl, rfl, ⟨by decide, by decide⟩, _, rfl, _, _, rfl, rfl, (by show (0 : Int) < (pt : Nat); omega), rfl, .inr ⟨_, rfl, ?_⟩⟩
      have hD5 := kp5 D _ hD4 hdD.symm
      have kp6 : ∀ o : HO, Keep d H3 (upd H5 D o) := fun o b u e n => by
        rw [upd_ne (ne_of_none e hD)]
        exact kp5 _ _ (kp4 _ _ e n) n
      refine ⟨_, hD5, by rw [List.length_map]; exact line5 (by omega), kp6 _, S3.keep (kp6 _) (by rw [upd_ne hdD]; exact S5.dict) S5.few, l ++ [decide (V.int ((m : Int) / 3 % (pt : Int)) = V.int 0)], by simp [hl], ?_⟩
      · rw [upd_same, List.map_append]
        exact congrArg (fun z => some (HO.lst (l.map bV ++ [z]))) int_bit
    · obtain ⟨kp4, S4, l, hl, hD4⟩ := h
      have q0 : H D = none := by
        have e3 := s3.free hD
        have e2 := s2.free e3
        exact kp1.free e2 S1.dict
      have kpA : Keep d H H' := (kp3.trans kp4)
      -- if _law_n // 16000 % 3 == 1
      refine ⟨_, rfl, _, _, rfl, rfl, ⟨by decide, by decide⟩, _, _, rfl, rfl, (by show (0 : Int) < 3; decide), rfl, _, rfl, ?_⟩
      refine ite2 (fun c => ?_) (fun c => ?_)
      · refine ⟨_, rfl, D, rfl, ⟨_, SqL.of hD4⟩, fun D2 hD2 => ?_⟩
        refine lc_map (xs := l.map bV) (fun x => match x with | .int i => .int (1 - i) | _ => x) (SqL.of hD4) (by rw [List.length_map]; omega) hD2 (fun _ => rfl) (fun i x H5 hx s5 Q' kq => ?_) (fun H5 s5 hD5 => ?_)
        · rw [List.getElem?_map] at hx
          obtain ⟨b, hb, ex⟩ : ∃ b, l[i]? = some b ∧ bV b = x := by
            cases e : l[i]? with
            | none => rw [e] at hx; cases hx
            | some b => rw [e] at hx; exact ⟨b, rfl, Option.some.inj hx⟩
          subst ex
          exact ⟨_, rfl, _, _, rfl, rfl, kq H5 (Same.refl H5)⟩
        · refine ⟨_, rfl, ?_⟩
          have em : (l.map bV).map (fun x => match x with | .int i => V.int (1 - i) | _ => x) = (l.map fun b => !b).map bV := by
            rw [List.map_map, List.map_map]
            apply List.map_congr_left
            intro b _
            cases b <;> rfl
          rw [em] at hD5
          have q2 : H D2 = none := kpA.free hD2 S4.dict
          exact kQ (l.map fun b => !b) D2 H5 _ (by rw [List.length_map]; omega) (by omega) (kpA.same s5) (S4.same s5) q2 hD5
      · refine ⟨_, rfl, ?_⟩
        exact kQ l D H' _ (by omega) (by omega) kpA S4 q0 hD4
/-! ### what the laws about rows of bits hold -/
def spLaw (K : PySem.W.Frag) : Sp := fun vs H Q _ => ∃ (a : Addr) (ns : List Int), vs = [.ref a] ∧ SqL K H a (ns.map V.int) ∧ ns.length ≤ 63 ∧ ∀ H', Q (.bl true) H'
theorem st_merge (a : Addr) (k : Nat) : mergeK [] (stD a k) = stD a k := by
  unfold mergeK stD
  show putK (putK [] kCe (.ref a)) kAt (nV k) = _
  have e1 : putK ([] : List (Key × V)) kCe (.ref a) = [(kCe, .ref a)] := by simp [putK]
  rw [e1]
  simp [putK, k_ca]
theorem mk_brow {K : PySem.W.Frag} {C X : Addr} {H1 : Hp} {a x dx : Addr} {l : List Bool} {Q : VK} (hS : SqL K H1 a (l.map bV)) (hl : l.length ≤ 4000) (nx : H1 x = none) (ndx : H1 dx = none)
    (k : ∀ (H' : Hp) (pa pb : Addr), Same H1 H' → H1 pa = none → H1 pb = none → BRowAt C H' x pa pb l → Q .non H') :
    spBInit K C X [.ref x, .ref a] (upd (upd H1 dx (.own x)) x (.ins C dx [])) Q E0 := by
  have s0 : Same H1 (upd (upd H1 dx (.own x)) x (.ins C dx [])) := fun b o e => by
    rw [upd_ne (ne_of_none e nx), upd_ne (ne_of_none e ndx)]
    exact e
  refine ⟨x, dx, .ref a, "list", rfl, upd_same, TyN.lst (s0.seq hS), fun z => absurd rfl z, fun _ => ⟨a, _, rfl, s0.seq hS, fun y hy => ?_, fun z => ?_, fun l' el hl' H' q b kp hq hb R => ?_⟩⟩
  · obtain ⟨b, _, rfl⟩ := List.mem_map.mp hy
    exact ⟨"int", TyN.int _⟩
  · exfalso
    rcases z with z | ⟨y, hy, z⟩
    · rw [List.length_map] at z
      omega
    · obtain ⟨b, _, rfl⟩ := List.mem_map.mp hy
      rw [bV_among] at z
      cases z
  · have el : l = l' := by
      have := congrArg (List.map (fun v : V => decide (v = bV true))) el
      rw [List.map_map, List.map_map] at this
      have e : ((fun v : V => decide (v = bV true)) ∘ bV) = id := by
        funext b
        cases b <;> decide
      rw [e, List.map_id, List.map_id] at this
      exact this
    subst el
    exact k H' q b (fun b' o e => kp b' o (s0 b' o e) (ne_of_none e nx)) (s0.free hq) (s0.free hb) R
theorem same_keep {d : Addr} {H0 H H' : Hp} (s : Same H0 H) (k : Keep d H H') (f : H0 d = none) : Same H0 H' := fun b o e => k _ _ (s _ _ e) (ne_of_none e f)
/-- a row of bits with its bits in a list beside, and the law's numbers -/
structure RJ (K : PySem.W.Frag) (C : Addr) (H0 H : Hp) (d a L p pa pb : Addr) (ns : List Int) (l : List Bool) (k : Nat) : Prop where
  same : Same H0 H
  st : St K H d a ns k
  bits : H L = some (.lst (l.map bV))
  row : BRowAt C H p pa pb l
  fd : H0 d = none
  fL : H0 L = none
  fa : H0 pa = none
  fb : H0 pb = none
  na : L ≠ pa
  nb : L ≠ pb
section
variable {C : Addr} {H0 H H' : Hp} {d a L p pa pb : Addr} {ns : List Int} {l l' : List Bool} {k k' : Nat}
theorem RJ.to (J : RJ K C H0 H d a L p pa pb ns l k) (s : Same H H') : RJ K C H0 H' d a L p pa pb ns l k :=
  ⟨J.same.trans s, J.st.same s, s _ _ J.bits, J.row.same s, J.fd, J.fL, J.fa, J.fb, J.na, J.nb⟩
theorem BRowAt.keep {dd : Addr} {kvs : List (Key × V)} (R : BRowAt C H p pa pb l) (hd : H dd = some (.dK kvs)) (kp : Keep dd H H') : BRowAt C H' p pa pb l :=
  ⟨R.ob.imp fun _ h => kp _ _ h (ne_of h hd (by intro z; cases z)), kp _ _ R.pk (ne_of R.pk hd (by intro z; cases z)), kp _ _ R.hd (ne_of R.hd hd (by intro z; cases z)), R.ne, R.len⟩
theorem RJ.drawn (J : RJ K C H0 H d a L p pa pb ns l k) (kp : Keep d H H') (S : St K H' d a ns k') : RJ K C H0 H' d a L p pa pb ns l k' :=
  ⟨same_keep J.same kp J.fd, S, kp _ _ J.bits (ne_of J.bits J.st.dict (by intro z; cases z)), J.row.keep J.st.dict kp, J.fd, J.fL, J.fa, J.fb, J.na, J.nb⟩
theorem RJ.step (J : RJ K C H0 H d a L p pa pb ns l k) (fr : ∀ b o, H b = some o → b ≠ L → b ≠ pa → b ≠ pb → H' b = some o) (hL : H' L = some (.lst (l'.map bV))) (R : BRowAt C H' p pa pb l') (cs : SqL K H0 a (ns.map V.int)) :
    RJ K C H0 H' d a L p pa pb ns l' k := by
  have s0 : Same H0 H' := fun b o e => fr _ _ (J.same _ _ e) (ne_of_none e J.fL) (ne_of_none e J.fa) (ne_of_none e J.fb)
  exact ⟨s0, ⟨fr _ _ J.st.dict (ne_of J.st.dict J.bits (by intro z; cases z)) (ne_of J.st.dict J.row.pk (by intro z; cases z)) (ne_of J.st.dict J.row.hd (by intro z; cases z)), s0.seq cs, J.st.len, J.st.few⟩, hL, R, J.fd, J.fL, J.fa, J.fb, J.na, J.nb⟩
/-- one more object is held fast -/
theorem RJ.hold {z : Addr} {o : HO} (J : RJ K C H0 H d a L p pa pb ns l k) (hz : H z = none) : RJ K C (upd H0 z o) (upd H z o) d a L p pa pb ns l k := by
  have s := same_new (Same.refl H) (o := o) hz
  have ne : ∀ {x : Addr} {u : HO}, H x = some u → H0 x = none → (upd H0 z o) x = none := fun e f => by rw [upd_ne (ne_of_none e hz)]; exact f
  refine ⟨fun b u e => ?_, J.st.same s, s _ _ J.bits, J.row.same s, ne J.st.dict J.fd, ne J.bits J.fL, ne J.row.pk J.fa, ne J.row.hd J.fb, J.na, J.nb⟩
  by_cases q : b = z
  · subst q
    rw [upd_same] at e ⊢
    exact e
  · rw [upd_ne q] at e ⊢
    exact J.same _ _ e
end
/-- the words that a bit put at i changes -/
def putW (l : List Bool) (i : Nat) (c : Bool) : List Nat := if l[i]? = some c then [] else [i / 32]
theorem put_any {K : PySem.W.Frag} {C X Y : Addr} {H : Hp} {p a b : Addr} {l : List Bool} {i : Nat} {c : Bool} {Q : VK} {E : XK} (R : BRowAt C H p a b l) (hi : i < l.length)
    (k : ∀ (q : Addr) (H' : Hp), (∀ b' o, H b' = some o → b' ≠ a → b' ≠ b → H' b' = some o) → H q = none → H' q = some (.lst ((putW l i c).map nV)) → BRowAt C H' p a b (l.set i c) → Q (.ref q) H') :
    spBPut K C X Y [.ref p, nV i, bV c] H Q E := by
  refine ⟨p, a, b, l, nV i, bV c, "int", "int", rfl, R, TyN.int _, TyN.int _, not_false (bV_among c), fun c' ec => ⟨not_false (lt_among hi), fun i' ei => ?_⟩⟩
  have ec := bV_inj ec
  have ei := nV_inj ei
  subst ec ei
  refine ⟨fun h q H' s hq hq' => k q H' (fun b' o e _ _ => s _ _ e) hq (by rw [hq', putW, if_pos h]; rfl) ?_, fun h q H' s hq hq' R' => k q H' s hq (by rw [hq', putW, if_neg (by rw [h]; intro z; cases c <;> cases z)]; rfl) R'⟩
  have e : l.set i c = l := by
    apply List.ext_getElem?
    intro j
    rw [List.getElem?_set]
    by_cases q : i = j
    · subst q
      rw [if_pos rfl, if_pos hi, h]
    · rw [if_neg q]
  rw [e]
  exact R.same s
theorem sum_bits : ∀ l : List Bool, (l.map fun b => (b.toNat : Int)).sum = (cnt l : Int)
  | [] => rfl
  | b :: l => by
    rw [List.map_cons, List.sum_cons, sum_bits l, cnt_cons]
    omega
/-- the places of the ones -/
def onesOf (l : List Bool) : List Nat := (List.range l.length).filter fun i => decide (l[i]? = some true)
theorem onesOf_to (l : List Bool) : ∀ n, n ≤ l.length → ((List.range n).filter fun i => decide (l[i]? = some true)).length = cb true l n ∧
    ∀ t r, ((List.range n).filter fun i => decide (l[i]? = some true))[t]? = some r → l[r]? = some true ∧ cb true l r = t
  | 0, _ => ⟨by simp [cb], fun t r h => by simp at h⟩
  | n + 1, hn => by
    obtain ⟨h1, h2⟩ := onesOf_to l n (by omega)
    have hc := cb_succ (b := true) (l := l) (p := n) (by omega)
    rw [List.range_succ, List.filter_append]
    by_cases e : l[n]? = some true
    · rw [if_pos e] at hc
      have ef : [n].filter (fun i => decide (l[i]? = some true)) = [n] := by simp [e]
      rw [ef]
      refine ⟨by rw [List.length_append, h1, hc]; rfl, fun t r h => ?_⟩
      rw [List.getElem?_append] at h
      by_cases q : t < ((List.range n).filter fun i => decide (l[i]? = some true)).length
      · rw [if_pos q] at h
        exact h2 t r h
      · rw [if_neg q] at h
        have hz : t - ((List.range n).filter fun i => decide (l[i]? = some true)).length = 0 := by
          have := (List.getElem?_eq_some_iff.mp h).1
          simp at this
          omega
        rw [hz] at h
        have er : n = r := Option.some.inj h
        subst er
        exact ⟨e, by omega⟩
    · rw [if_neg e] at hc
      have ef : [n].filter (fun i => decide (l[i]? = some true)) = [] := by simp [e]
      rw [ef, List.append_nil]
      exact ⟨by rw [h1, hc]; rfl, h2⟩
theorem onesOf_len (l : List Bool) : (onesOf l).length = l.count true := by
  rw [← cb_all]
  exact (onesOf_to l l.length (Nat.le_refl _)).1
theorem onesOf_at {l : List Bool} {t r : Nat} (h : (onesOf l)[t]? = some r) : l[r]? = some true ∧ cb true l r = t := (onesOf_to l l.length (Nat.le_refl _)).2 t r h

/-! ### slices of lists, a stepped range -/
theorem cut_nat {xs : List V} {i j : Nat} (h : i ≤ j) : cutV xs (some (i : Int)) (some (j : Int)) = (xs.drop i).take (j - i) := by
  unfold cutV
  rw [HT.sIx_nat, HT.sIx_nat]
  by_cases hi : i ≤ xs.length
  · rw [Nat.min_eq_left hi]
    by_cases hj : j ≤ xs.length
    · rw [Nat.min_eq_left hj]
    · rw [Nat.min_eq_right (by omega), List.take_of_length_le (by rw [List.length_drop]; omega), List.take_of_length_le (by rw [List.length_drop]; omega)]
  · have e : min i xs.length = xs.length := by omega
    rw [e, List.drop_of_length_le (Nat.le_refl xs.length), List.drop_of_length_le (show xs.length ≤ i by omega)]
    simp
theorem cut_to {xs : List V} {j : Nat} : cutV xs none (some (j : Int)) = xs.take j := by
  unfold cutV
  rw [HT.sIx_nat, HT.sIx_none, List.drop_zero]
  show xs.take (min j xs.length - 0) = _
  by_cases hj : j ≤ xs.length
  · rw [Nat.min_eq_left hj, Nat.sub_zero]
  · rw [Nat.min_eq_right (by omega), List.take_of_length_le (by omega), List.take_of_length_le (by omega)]
theorem rg32 {n : Nat} (h : n ≤ 100000) : RgC 0 (n : Int) 32 (wn n) := by
  have e : Builtin.Range.rangeSize 0 (n : Int) 32 = (wn n : Int) := by
    unfold Builtin.Range.rangeSize wn
    rw [if_pos (by decide)]
    split <;> omega
  refine ⟨by decide, by decide, ?_, e⟩
  unfold Builtin.Range.small
  rw [e]
  unfold Builtin.Range.rangeFitsLong wn
  rw [if_pos (by decide)]
  simp only [Bool.and_eq_true, decide_eq_true_eq, Bool.or_eq_true, beq_iff_eq]
  omega
theorem popc_sum : ∀ (k w : Nat), ((List.range k).map fun i => ((w / 2 ^ i % 2 : Nat) : Int)).sum = (popc k w : Int)
  | 0, _ => rfl
  | k + 1, w => by
    have ih := popc_sum k (w / 2)
    rw [List.range_succ_eq_map, List.map_cons, List.sum_cons, List.map_map]
    have e : ((fun i => ((w / 2 ^ i % 2 : Nat) : Int)) ∘ Nat.succ) = fun i => ((w / 2 / 2 ^ i % 2 : Nat) : Int) := by
      funext i
      show ((w / 2 ^ (i + 1) % 2 : Nat) : Int) = _
      rw [Nat.pow_succ', Nat.div_div_eq_div_mul]
    rw [e, ih, Nat.pow_zero, Nat.div_one]
    show _ = ((w % 2 + popc k (w / 2) : Nat) : Int)
    omega
/-! ### the law's own going -/
def spLWords (K : PySem.W.Frag) : Sp := fun vs H Q _ => ∃ (a : Addr) (l : List Bool), vs = [.ref a] ∧ SqL K H a (l.map bV) ∧ l.length ≤ 4000 ∧
  ∀ (t p q : Addr) (H' : Hp), Same H H' → H' t = some (.tup [.ref p, .ref q]) → H' p = some (.lst ((words l).map nV)) → H' q = some (.lst ((marks l).map nV)) → Q (.ref t) H'
set_option maxHeartbeats 2000000 in
theorem ok__law_words (T : Tx K mg A) : FnOk P w K mg base CX0 1 A._law_words A._law_words_d ["_law_bits_here"] (spLWords K) := by
  refine T._law_words.F.ok sc__law_words (fun vs H Q E h => ?_) (fun cdv Ar outer s H vs Q E hr h => ?_)
  · obtain ⟨a, l, rfl, _⟩ := h
    rfl
  · obtain ⟨a, l, rfl, hS, hl, kQ⟩ := h
    refine ⟨_, (pss_cons (ps_set (i := 1) sc__law_words.nd rfl (by first | exact Or.inl rfl | exact Or.inr rfl) (pe_lst pa_nil))
      (pss_cons (ps_set (i := 2) sc__law_words.nd rfl (by first | exact Or.inl rfl | exact Or.inr rfl) (pe_lst pa_nil))
      (pss_cons (ps_for PassesOwn.never rfl (pi_range3 (by rfl) T.b_range (pa_cons pe_int (pa_cons (pe_callB call_len_seq (by rfl) T.b_len (by decide +kernel) (pa_cons (pv 0) pa_nil)) (pa_cons pe_int pa_nil)))) (pg_name (i := 3) sc__law_words.nd rfl (by first | exact Or.inl rfl | exact Or.inr rfl)) (pss_cons (ps_set (i := 4) sc__law_words.nd rfl (by first | exact Or.inl rfl | exact Or.inr rfl) pe_int)
      (pss_cons (ps_for PassesOwn.never rfl (pi_reversed (by rfl) T.b_reversed (pa_cons (pe_slice sl_list (pv 0) (po_some (pv 3)) (po_some (pe_op op_add (pv 3) pe_int))) pa_nil)) (pg_name (i := 5) sc__law_words.nd rfl (by first | exact Or.inl rfl | exact Or.inr rfl)) (pss_one (ps_set (i := 4) sc__law_words.nd rfl (by first | exact Or.inl rfl | exact Or.inr rfl) (pe_op op_add (pe_op op_mul pe_int (pv 4)) (pv 5)))))
      (pss_cons (ps_expr (pe_bm PySem.F.plainAttrs_list PySem.F.slot_list_append PySem.F.type_list_append mt_append (pv 1) (pa_cons (pv 4) pa_nil)))
      (pss_one (ps_expr (pe_bm PySem.F.plainAttrs_list PySem.F.slot_list_append PySem.F.type_list_append mt_append (pv 2) (pa_cons (pe_callB (cr_sum rfl) (by rfl) T.b_sum (by decide +kernel) (pa_cons (pe_slice sl_list (pv 0) po_none (po_some (pv 3))) pa_nil)) pa_nil))))))))
      (pss_one (ps_ret (pe_tup (pa_cons (pv 1) (pa_cons (pv 2) pa_nil)))))))), ?_⟩
    refine ⟨Nat.zero_le _, fun p hp => ⟨Nat.zero_le _, fun q hq => ?_⟩⟩
    have s0 : Same H (upd (upd H p (.lst [])) q (.lst [])) := (same_new (Same.refl H) hp).trans (same_new (Same.refl _) hq)
    have npq : p ≠ q := ne_of_none upd_same hq
    have hq0 : H q = none := (same_new (Same.refl H) hp).free hq
    refine ⟨_, rfl, a, _, rfl, .inl (s0.seq hS), 0, _, 32, wn l.length, rfl, (by rw [List.length_map]; exact rg32 (by omega)), ?_⟩
    refine for_rangeC (lo := 0) (c := 32) (n := wn l.length) (fun i σ H' => ∃ v3 v4 v5 : Option V, σ = [some (.ref a), some (.ref p), some (.ref q), v3, v4, v5] ∧ Same H H' ∧
      H' p = some (.lst (((List.range i).map fun k => wordOf ((l.drop (32 * k)).take 32)).map nV)) ∧ H' q = some (.lst (((List.range i).map fun k => cnt (l.take (32 * k))).map nV)))
      ⟨none, none, none, rfl, s0, by rw [upd_ne npq, upd_same]; rfl, upd_same⟩ (fun i σ H' hi h => ?_) (fun σ H' h => ?_)
    · obtain ⟨v3, v4, v5, rfl, s1, hp1, hq1⟩ := h
      have e0 : (0 : Int) + (i : Nat) * 32 = ((32 * i : Nat) : Int) := by omega
      rw [e0]
      -- reversed(bits[first:first + 32])
      refine ⟨_, rfl, _, rfl, _, rfl, _, rfl, _, _, rfl, rfl, _, rfl, a, _, rfl, s1.seq hS, fun z hz => ?_⟩
      have e1 : (((32 * i : Nat) : Int) + 32) = ((32 * i + 32 : Nat) : Int) := by omega
      have ecut : cutV (l.map bV) (some ((32 * i : Nat) : Int)) (some (((32 * i : Nat) : Int) + 32)) = ((l.drop (32 * i)).take 32).map bV := by
        rw [e1, cut_nat (by omega), ← List.map_drop, ← List.map_take, Nat.add_sub_cancel_left]
      have s2 := s1.trans (same_new (Same.refl H') (o := .lst (cutV (l.map bV) (some ((32 * i : Nat) : Int)) (some (((32 * i : Nat) : Int) + 32)))) hz)
      have hz2 : upd H' z (.lst (cutV (l.map bV) (some ((32 * i : Nat) : Int)) (some (((32 * i : Nat) : Int) + 32)))) z = some (.lst (((l.drop (32 * i)).take 32).map bV)) := by rw [upd_same, ecut]
      have hp2 : upd H' z (.lst (cutV (l.map bV) (some ((32 * i : Nat) : Int)) (some (((32 * i : Nat) : Int) + 32)))) p = _ := (upd_ne (ne_of_none hp1 hz)).trans hp1
      have hq2 : upd H' z (.lst (cutV (l.map bV) (some ((32 * i : Nat) : Int)) (some (((32 * i : Nat) : Int) + 32)))) q = _ := (upd_ne (ne_of_none hq1 hz)).trans hq1
      refine ⟨z, ((l.drop (32 * i)).take 32).map bV, rfl, SqL.of hz2, ?_⟩
      generalize upd H' z (.lst (cutV (l.map bV) (some ((32 * i : Nat) : Int)) (some (((32 * i : Nat) : Int) + 32)))) = H2 at s2 hz2 hp2 hq2
      refine for_it (walk_rev (K := K) (a := z) (xs := ((l.drop (32 * i)).take 32).map bV)) (fun j σ H3 => ∃ v5 : Option V, σ = [some (.ref a), some (.ref p), some (.ref q), some (nV (32 * i)), some (nV (wordOf (((l.drop (32 * i)).take 32).drop (((l.drop (32 * i)).take 32).length - j)))), v5] ∧ H3 = H2)
        ⟨v5, by rw [Nat.sub_zero, List.drop_length]; rfl, rfl⟩ (fun j σ H3 _ h => ?_) (fun j x σ H3 H4 hj h y => ?_) (fun σ H3 h => ?_)
      · obtain ⟨_, _, rfl⟩ := h
        exact SqL.of hz2
      · obtain ⟨u5, rfl, rfl⟩ := h
        obtain ⟨rfl, hx⟩ := y
        rw [List.length_map] at hj hx
        obtain ⟨ch, ech⟩ : ∃ ch, ch = (l.drop (32 * i)).take 32 := ⟨_, rfl⟩
        rw [← ech] at hj hx ⊢
        have hlt : ch.length - 1 - j < ch.length := by omega
        have ex : bV ch[ch.length - 1 - j] = x := by
          rw [List.getElem?_map, List.getElem?_eq_getElem hlt] at hx
          exact Option.some.inj hx
        subst ex
        refine ⟨_, rfl, _, _, rfl, rfl, .inl ⟨by decide, by decide⟩, _, rfl, _, _, rfl, rfl, ?_⟩
        refine ⟨some (bV ch[ch.length - 1 - j]), ?_, rfl⟩
        have ed : ch.drop (ch.length - (j + 1)) = ch[ch.length - 1 - j] :: ch.drop (ch.length - j) := by
          have e1 : ch.length - (j + 1) = ch.length - 1 - j := by omega
          have e2 : ch.length - j = ch.length - 1 - j + 1 := by omega
          rw [e1, e2, List.drop_eq_getElem_cons hlt]
        rw [ed]
        have ev : V.int (2 * (wordOf (ch.drop (ch.length - j)) : Int) + (ch[ch.length - 1 - j].toNat : Int)) = nV (wordOf (ch[ch.length - 1 - j] :: ch.drop (ch.length - j))) := by
          unfold nV
          congr 1
          show _ = ((ch[ch.length - 1 - j].toNat + 2 * wordOf (ch.drop (ch.length - j)) : Nat) : Int)
          omega
        rw [← ev]
        rfl
      · obtain ⟨u5, rfl, rfl⟩ := h
        rw [List.length_map, Nat.sub_self, List.drop_zero]
        -- words_here.append(word); marks.append(sum(bits[:first]))
        refine ⟨_, rfl, .inl ⟨rfl, _, SqL.of hp2⟩, _, rfl, p, _, _, rfl, rfl, hp2, ?_, ?_⟩
        · rw [List.length_map, List.length_map, List.length_range]
          exact line5 (by unfold wn at hi; omega)
        have nqp : q ≠ p := npq.symm
        have hq3 : upd H3 p (.lst (((List.range i).map fun k => wordOf ((l.drop (32 * k)).take 32)).map nV ++ [nV (wordOf ((l.drop (32 * i)).take 32))])) q = some (.lst (((List.range i).map fun k => cnt (l.take (32 * k))).map nV)) := by rw [upd_ne nqp]; exact hq2
        have s3 : Same H (upd H3 p (.lst (((List.range i).map fun k => wordOf ((l.drop (32 * k)).take 32)).map nV ++ [nV (wordOf ((l.drop (32 * i)).take 32))]))) := same_mut s2 hp
        refine ⟨_, rfl, .inl ⟨rfl, _, SqL.of hq3⟩, _, rfl, _, rfl, _, rfl, a, _, rfl, s3.seq hS, fun y hy => ?_⟩
        have nqy : q ≠ y := ne_of_none hq3 hy
        have npy : p ≠ y := ne_of_none upd_same hy
        refine ⟨y, (l.take (32 * i)).map fun b => (b.toNat : Int), rfl, (by rw [cut_to, ← List.map_take, ints_bV]; exact SqL.of upd_same), q, _, _, rfl, rfl, (by rw [upd_ne nqy]; exact hq3), ?_, ?_⟩
        · rw [List.length_map, List.length_map, List.length_range]
          exact line5 (by unfold wn at hi; omega)
        refine ⟨_, _, _, rfl, same_mut (same_new s3 hy) hq0, ?_, ?_⟩
        · rw [upd_ne npq, upd_ne npy, upd_same, List.range_succ, List.map_append, List.map_append]
          rfl
        · rw [upd_same, sum_bits, List.range_succ, List.map_append, List.map_append]
          rfl
    · obtain ⟨v3, v4, v5, rfl, s1, hp1, hq1⟩ := h
      refine ⟨_, rfl, _, rfl, (by show 2 ≤ sizeLine; decide), fun t ht => ?_⟩
      exact kQ t p q _ (same_new s1 ht) upd_same (by rw [upd_ne (ne_of_none hp1 ht)]; exact hp1) (by rw [upd_ne (ne_of_none hq1 ht)]; exact hq1)
def spRight (K : PySem.W.Frag) (C : Addr) : Sp := fun vs H Q _ => ∃ (p L : Addr) (l : List Bool), vs = [.ref p, .ref L] ∧ BRow C H p l ∧ SqL K H L (l.map bV) ∧ ∀ H', Same H H' → Q (.bl true) H'
theorem bits_nV (l : List Bool) : l.map bV = (l.map Bool.toNat).map nV := by rw [List.map_map]; rfl
set_option maxHeartbeats 2000000 in
theorem ok__law_row_right (T : Tx K mg A) : FnOk P w K mg base CX0 6 A._law_row_right A._law_row_right_d ["_law_row", "_law_bits_here"] (spRight K A.cB) := by
  refine T._law_row_right.F.ok sc__law_row_right (fun vs H Q E h => ?_) (fun cdv Ar outer s H vs Q E hr h => ?_)
  · obtain ⟨p, L, l, rfl, _⟩ := h
    rfl
  · obtain ⟨p, L, l, rfl, R, hL, kQ⟩ := h
    have hlen : l.length ≤ 4000 := let ⟨_, _, r⟩ := R; r.len
    refine ⟨_, (pss_cons (ps_asg (pe_call (E := E0) (ok__law_words T) (hr.mono (by decide)) rfl T._law_words.g T._law_words.F.kp T._law_words.b .nil pass0 (pa_cons (pv 1) pa_nil)) (pg_tup (by rfl) (pgs_cons (pg_name (i := 2) sc__law_row_right.nd rfl (by first | exact Or.inl rfl | exact Or.inr rfl)) (pgs_cons (pg_name (i := 3) sc__law_row_right.nd rfl (by first | exact Or.inl rfl | exact Or.inr rfl)) pgs_nil))))
      (pss_cons (ps_for PassesOwn.never rfl (pi_tup (pe_tup (pa_cons (pe_tup (pa_cons (pe_meth0 (E := E0) (pv 0) T.clB T.B_words.m (ok_B_words T) (hr.mono (by decide)) T.B_words.b .nil pass0) (pa_cons (pv 2) pa_nil))) (pa_cons (pe_tup (pa_cons (pe_meth0 (E := E0) (pv 0) T.clB T.B_marks.m (ok_B_marks T) (hr.mono (by decide)) T.B_marks.b .nil pass0) (pa_cons (pv 3) pa_nil))) (pa_cons (pe_tup (pa_cons (pe_meth0 (E := E0) (pv 0) T.clB T.B_bits.m (ok_B_bits T) (hr.mono (by decide)) T.B_bits.b .nil pass0) (pa_cons (pv 1) pa_nil))) pa_nil))))) (pg_tup (by rfl) (pgs_cons (pg_name (i := 4) sc__law_row_right.nd rfl (by first | exact Or.inl rfl | exact Or.inr rfl)) (pgs_cons (pg_name (i := 5) sc__law_row_right.nd rfl (by first | exact Or.inl rfl | exact Or.inr rfl)) pgs_nil))) (pss_cons (ps_if (PW.pt (pw_or (pt_not (pt_val (pe_callB call_isi (by rfl) T.b_isinstance (by decide +kernel) (pa_cons (pv 4) (pa_cons (pe_bltn (u := .type "list") (v := .ty "list") (by rfl) T.b_list (by decide +kernel) rfl) pa_nil))))) (pw_or (pt_cmpR (op_neD (hr.units)) (pv 4) (pv 5) (nomark _)) (pw_or1 (pt_cmpR (op_neD (hr.units)) (pe_lc (own := [("_law_one", 6)]) (g := gName 6) rfl sc__law_row_right.nd (pi_list (pv 4)) (blkOk_by (N := n__law_row_right) (sc := defScope s__law_row_right) (by decide +kernel)) (fun _ _ _ _ _ => (pg_name (i := 6) sc__law_row_right.nd rfl (by first | exact Or.inl rfl | exact Or.inr rfl))) (fun _ _ _ _ _ => pts_one (pt_val (pe_callB (r := rIsi K) call_isi (by rfl) T.b_isinstance (by decide +kernel) (pa_cons (pv 6) (pa_cons (pe_bltn (u := .type "bool") (v := .ty "bool") (by rfl) T.b_bool (by decide +kernel) rfl) pa_nil))))) (fun _ _ _ _ _ => (pv 6))) (pe_lst pa_nil) (nomark _)))))) (pss_one (ps_ret pe_bl)) pss_nil)
      (pss_one (ps_expr (pe_bm PySem.F.plainAttrs_list PySem.F.slot_list_append PySem.F.type_list_append mt_append (pv 4) (pa_cons pe_int pa_nil))))))
      (pss_cons (ps_if (pt_cmpR (op_neD (hr.units)) (pe_lc (own := [("_law_place", 7)]) (g := gName 7) (tt := tYes) rfl sc__law_row_right.nd (pi_range1 (by rfl) T.b_range (pa_cons (pe_callB call_len_seq (by rfl) T.b_len (by decide +kernel) (pa_cons (pv 1) pa_nil)) pa_nil)) (blkOk_by (N := n__law_row_right) (sc := defScope s__law_row_right) (by decide +kernel)) (fun _ _ _ _ _ => (pg_name (i := 7) sc__law_row_right.nd rfl (by first | exact Or.inl rfl | exact Or.inr rfl))) (fun _ _ _ _ _ => pts_nil) (fun _ _ _ _ _ => (pe_meth (E := E0) (pv 0) T.clB T.B_bit_at.m (ok_B_bit_at T) (hr.mono (by decide)) T.B_bit_at.b .nil passL (pa_cons (pv 7) pa_nil)))) (pv 1) (nomark _)) (pss_one (ps_ret pe_bl)) pss_nil)
      (pss_one (ps_ret (pe_and (pe_cmpR (op_eqD (hr.units)) (pe_meth0 (E := E0) (pv 0) T.clB T.B_words.m (ok_B_words T) (hr.mono (by decide)) T.B_words.b .nil pass0) (pv 2) (nomark _)) (pe_and (pe_cmpR (op_eqD (hr.units)) (pe_meth0 (E := E0) (pv 0) T.clB T.B_marks.m (ok_B_marks T) (hr.mono (by decide)) T.B_marks.b .nil pass0) (pv 3) (nomark _)) (pe_one (pe_cmpR (op_eqD (hr.units)) (pe_meth0 (E := E0) (pv 0) T.clB T.B_bits.m (ok_B_bits T) (hr.mono (by decide)) T.B_bits.b .nil pass0) (pv 1) (nomark _)))))))))), ?_⟩
    -- _law_words_here, _law_marks = _law_words(_law_bits_here)
    refine ⟨_, rfl, L, l, rfl, hL, hlen, fun t0 W M H1 s1 ht0 hW hM => ?_⟩
    refine ⟨t0, _, rfl, SqT.of ht0, rfl, _, _, rfl, _, _, rfl, rfl, ?_⟩
    -- the three pairs
    have obj : ∀ {H' : Hp}, Same H H' → ∃ dx pa pb, H' p = some (.ins A.cB dx (brf l.length pa pb)) := fun s => by
      obtain ⟨pa, pb, ⟨dx, h⟩, _⟩ := R
      exact ⟨dx, pa, pb, s _ _ h⟩
    obtain ⟨dx, pa, pb, hp⟩ := obj s1
    refine ⟨_, rfl, p, dx, _, rfl, hp, brf_no _ _ _ (by decide +kernel) (by decide +kernel) (by decide +kernel), p, l, rfl, R.same s1, fun q1 H2 s2 hq1 hq1' => ?_⟩
    refine ⟨_, rfl, (by show 2 ≤ sizeLine; decide), fun t1 ht1 => ?_⟩
    have s2' := s2.trans (same_new (Same.refl H2) (o := .tup [.ref q1, .ref W]) ht1)
    have ht1' : upd H2 t1 (.tup [.ref q1, .ref W]) t1 = some (.tup [.ref q1, .ref W]) := upd_same
    have hq1'' : upd H2 t1 (.tup [.ref q1, .ref W]) q1 = some (.lst ((words l).map nV)) := (upd_ne (ne_of_none hq1' ht1)).trans hq1'
    generalize upd H2 t1 (.tup [.ref q1, .ref W]) = H3 at s2' ht1' hq1''
    refine ⟨_, rfl, p, dx, _, rfl, s2' _ _ hp, brf_no _ _ _ (by decide +kernel) (by decide +kernel) (by decide +kernel), p, l, rfl, R.same (s1.trans s2'), fun q2 H4 s4 hq2 hq2' => ?_⟩
    refine ⟨_, rfl, (by show 2 ≤ sizeLine; decide), fun t2 ht2 => ?_⟩
    have s4' := s4.trans (same_new (Same.refl H4) (o := .tup [.ref q2, .ref M]) ht2)
    have ht2' : upd H4 t2 (.tup [.ref q2, .ref M]) t2 = some (.tup [.ref q2, .ref M]) := upd_same
    have hq2'' : upd H4 t2 (.tup [.ref q2, .ref M]) q2 = some (.lst ((marks l).map nV)) := (upd_ne (ne_of_none hq2' ht2)).trans hq2'
    generalize upd H4 t2 (.tup [.ref q2, .ref M]) = H5 at s4' ht2' hq2''
    refine ⟨_, rfl, p, dx, _, rfl, s4' _ _ (s2' _ _ hp), brf_no _ _ _ (by decide +kernel) (by decide +kernel) (by decide +kernel), p, l, rfl, R.same ((s1.trans s2').trans s4'), fun q3 H6 s6 hq3 hq3' => ?_⟩
    refine ⟨_, rfl, (by show 2 ≤ sizeLine; decide), fun t3 ht3 => ?_⟩
    have s6' := s6.trans (same_new (Same.refl H6) (o := .tup [.ref q3, .ref L]) ht3)
    have ht3' : upd H6 t3 (.tup [.ref q3, .ref L]) t3 = some (.tup [.ref q3, .ref L]) := upd_same
    have hq3'' : upd H6 t3 (.tup [.ref q3, .ref L]) q3 = some (.lst (l.map bV)) := (upd_ne (ne_of_none hq3' ht3)).trans hq3'
    generalize upd H6 t3 (.tup [.ref q3, .ref L]) = H7 at s6' ht3' hq3''
    refine ⟨(by show 3 ≤ sizeLine; decide), fun t4 ht4 => ?_⟩
    have s7 := same_new (Same.refl H7) (o := .tup [.ref t1, .ref t2, .ref t3]) ht4
    have ht4' : upd H7 t4 (.tup [.ref t1, .ref t2, .ref t3]) t4 = some (.tup [.ref t1, .ref t2, .ref t3]) := upd_same
    generalize upd H7 t4 (.tup [.ref t1, .ref t2, .ref t3]) = H8 at s7 ht4'
    -- distinct, and what stands in the last heap
    have n12 : q1 ≠ q2 := ne_of_none (hq1'') hq2
    have n13 : q1 ≠ q3 := ne_of_none (s4' _ _ hq1'') hq3
    have n23 : q2 ≠ q3 := ne_of_none hq2'' hq3
    have sH : Same H H8 := (((s1.trans s2').trans s4').trans s6').trans s7
    have e1 : H8 q1 = some (.lst ((words l).map nV)) := s7 _ _ (s6' _ _ (s4' _ _ hq1''))
    have e2 : H8 q2 = some (.lst ((marks l).map nV)) := s7 _ _ (s6' _ _ hq2'')
    have e3 : H8 q3 = some (.lst ((l.map Bool.toNat).map nV)) := by rw [← bits_nV]; exact s7 _ _ hq3''
    have hH1 : H q1 = none := s1.free hq1
    have hH2 : H q2 = none := (s1.trans s2').free hq2
    have hH3 : H q3 = none := ((s1.trans s2').trans s4').free hq3
    have nW1 : W ≠ q1 := ne_of_none hW hq1
    have nW2 : W ≠ q2 := ne_of_none (s2' _ _ hW) hq2
    have nW3 : W ≠ q3 := ne_of_none (s4' _ _ (s2' _ _ hW)) hq3
    have nM1 : M ≠ q1 := ne_of_none hM hq1
    have nM2 : M ≠ q2 := ne_of_none (s2' _ _ hM) hq2
    have nM3 : M ≠ q3 := ne_of_none (s4' _ _ (s2' _ _ hM)) hq3
    have hW8 : H8 W = some (.lst ((words l).map nV)) := s7 _ _ (s6' _ _ (s4' _ _ (s2' _ _ hW)))
    have hM8 : H8 M = some (.lst ((marks l).map nV)) := s7 _ _ (s6' _ _ (s4' _ _ (s2' _ _ hM)))
    have hT1 : H8 t1 = some (.tup [.ref q1, .ref W]) := s7 _ _ (s6' _ _ (s4' _ _ ht1'))
    have hT2 : H8 t2 = some (.tup [.ref q2, .ref M]) := s7 _ _ (s6' _ _ ht2')
    have hT3 : H8 t3 = some (.tup [.ref q3, .ref L]) := s7 _ _ ht3'
    have hL8 : SqL K H8 L ((l.map Bool.toNat).map nV) := by rw [← bits_nV]; exact sH.seq hL
    -- the heap without the told lists
    obtain ⟨B, eB⟩ : ∃ B : Hp, B = fun b => if b = q1 ∨ b = q2 ∨ b = q3 then none else H8 b := ⟨_, rfl⟩
    have Bn : ∀ {b : Addr} {o : HO}, H8 b = some o → b ≠ q1 → b ≠ q2 → b ≠ q3 → B b = some o := fun {b o} h a b' c => by
      rw [eB]
      show (if _ then _ else _) = _
      rw [if_neg (by rintro (z | z | z) <;> contradiction)]
      exact h
    have B8 : Same B H8 := fun b o h => by
      rw [eB] at h
      dsimp only at h
      split at h
      · cases h
      · exact h
    have Bq : ∀ {b : Addr}, (b = q1 ∨ b = q2 ∨ b = q3) → B b = none := fun h => by
      rw [eB]
      show (if _ then _ else _) = _
      rw [if_pos h]
    have HB : Same H B := fun b o h => Bn (sH _ _ h) (ne_of_none h hH1) (ne_of_none h hH2) (ne_of_none h hH3)
    have tq : ∀ {t : Addr} {xs : List V}, H8 t = some (.tup xs) → B t = some (.tup xs) := fun h => Bn h (ne_of h e1 (by intro z; cases z)) (ne_of h e2 (by intro z; cases z)) (ne_of h e3 (by intro z; cases z))
    have hLB : SqL K B L ((l.map Bool.toNat).map nV) := by rw [← bits_nV]; exact HB.seq hL
    obtain ⟨qs, eqs⟩ : ∃ qs : List (Addr × Addr × Addr × List Nat), qs = [(t1, q1, W, words l), (t2, q2, M, marks l), (t3, q3, L, l.map Bool.toNat)] := ⟨_, rfl⟩
    refine ⟨t4, rfl, ⟨_, SqT.of ht4'⟩, for_tup (xs := [.ref t1, .ref t2, .ref t3]) (fun i σ H' => ∃ v4 v5 : Option V, σ = [some (.ref p), some (.ref L), some (.ref W), some (.ref M), v4, v5, none, none] ∧ Same B H' ∧
      ∀ j t q D c, i ≤ j → qs[j]? = some (t, q, D, c) → H' q = some (.lst (c.map nV)))
      ⟨none, none, rfl, B8, ?_⟩ (fun i σ H' _ h => ?_) (fun i x σ H' hi h => ?_) (fun σ H' h => ?_)⟩
    · intro j t q D c _ hj
      rw [eqs] at hj
      match j, hj with
      | 0, hj => cases hj; exact e1
      | 1, hj => cases hj; exact e2
      | 2, hj => cases hj; exact e3
    · obtain ⟨_, _, _, sB, _⟩ := h
      exact SqT.of (sB _ _ (tq ht4'))
    · obtain ⟨v4, v5, rfl, sB, hq⟩ := h
      obtain ⟨t, q, D, c, hj, ex, hT, hD, hc⟩ : ∃ t q D c, qs[i]? = some (t, q, D, c) ∧ x = .ref t ∧ B t = some (.tup [.ref q, .ref D]) ∧ SqL K B D (c.map nV) ∧ c.length ≤ 4000 := by
        rw [eqs]
        match i, hi with
        | 0, hi => exact ⟨t1, q1, W, words l, rfl, (Option.some.inj hi).symm, tq hT1, SqL.of (Bn hW8 nW1 nW2 nW3), by rw [words_len]; unfold wn; omega⟩
        | 1, hi => exact ⟨t2, q2, M, marks l, rfl, (Option.some.inj hi).symm, tq hT2, SqL.of (Bn hM8 nM1 nM2 nM3), by rw [marks_len]; unfold wn; omega⟩
        | 2, hi => exact ⟨t3, q3, L, _, rfl, (Option.some.inj hi).symm, tq hT3, hLB, by rw [List.length_map]; exact hlen⟩
      subst ex
      have hqn : q = q1 ∨ q = q2 ∨ q = q3 := by
        rw [eqs] at hj
        match i, hj with
        | 0, hj => cases hj; exact .inl rfl
        | 1, hj => cases hj; exact .inr (.inl rfl)
        | 2, hj => cases hj; exact .inr (.inr rfl)
      have hq' := hq i t q D c (Nat.le_refl _) hj
      refine ⟨t, _, rfl, SqT.of (sB _ _ hT), rfl, _, _, rfl, _, _, rfl, rfl, ?_⟩
      -- isinstance(told, list)
      refine ⟨_, rfl, _, _, _, _, _, rfl, .ty _, (TyN.lst (SqL.of hq')).1, kit_ty (kit_list (by decide)), _, rfl, if_f rfl ?_⟩
      refine ⟨_, rfl, _, rfl, ne_same (SqL.of hq') (sB.seq hD) ⟨_, rfl, if_f rfl ?_⟩⟩
      -- [one for one in told if isinstance(one, bool)] != []
      refine ⟨_, rfl, q, rfl, ⟨_, SqL.of hq'⟩, fun E1 hE1 => ?_⟩
      refine lc_filt (xs := c.map nV) (fun _ => false) (SqL.of hq') (by rw [List.length_map]; omega) hE1 (fun _ => rfl) (fun j x H9 hx s9 Q' kq => ?_) (fun j x H9 hx s9 Q' kq => ⟨_, rfl, kq⟩) (fun H9 s9 hE9 => ?_)
      · obtain ⟨z, _, ez⟩ := List.mem_map.mp (List.mem_of_getElem? hx)
        subst ez
        exact ⟨_, rfl, _, _, _, _, _, rfl, .ty _, (TyN.int _).1, kit_ty (kit_bool (n := "int") (by decide)), _, rfl, kq H9 (Same.refl H9)⟩
      · have ef : (c.map nV).filter (fun _ => false) = ([] : List Nat).map nV := by simp
        rw [ef] at hE9
        refine ⟨Nat.zero_le _, fun E2 hE2 => ne_same (l := []) (same_new_seq (SqL.of hE9) hE2) (SqL.of upd_same) ⟨_, rfl, if_f rfl ?_⟩⟩
        -- told.append(7)
        have s10 := same_new s9 (o := .lst []) hE2
        have hq10 := s10 _ _ hq'
        refine ⟨_, rfl, .inl ⟨rfl, _, SqL.of hq10⟩, q, _, _, rfl, rfl, hq10, by rw [List.length_map]; exact line5 (by omega), ?_⟩
        refine ⟨_, _, rfl, same_mut (sB.trans s10) (Bq hqn), fun j t' q' D' c' hij hj' => ?_⟩
        have nqq : q' ≠ q := by
          rw [eqs] at hj hj'
          match i, j, hij, hj, hj' with
          | 0, 1, _, hj, hj' => cases hj; cases hj'; exact n12.symm
          | 0, 2, _, hj, hj' => cases hj; cases hj'; exact n13.symm
          | 1, 2, _, hj, hj' => cases hj; cases hj'; exact n23.symm
          | i + 2, j, hij, hj, hj' =>
            have z := (List.getElem?_eq_some_iff.mp hj').1
            simp at z
            omega
        rw [upd_ne nqq]
        exact s10 _ _ (hq j t' q' D' c' (by omega) hj')
    · obtain ⟨v4, v5, rfl, sB, _⟩ := h
      have sHB := HB.trans sB
      have hL9 := sHB.seq hL
      -- [row.bit_at(place) for place in range(len(bits))] != bits
      refine ⟨_, rfl, L, _, rfl, .inl hL9, _, rfl, by omega, by rw [List.length_map]; omega, fun D hD => ?_⟩
      rw [List.length_map]
      refine lc_rng (n := ((l.length : Nat) : Int).toNat) (fun i => bV (l.getD i false)) (by omega) hD (fun _ => rfl) (fun i H9 hi s9 Q' kq => ?_) (fun H9 s9 hD9 => ?_)
      · have hi2 : i < l.length := by omega
        obtain ⟨dy, pc, pd, hp9⟩ := obj (sHB.trans s9)
        refine ⟨_, rfl, p, dy, _, rfl, hp9, brf_no _ _ _ (by decide +kernel) (by decide +kernel) (by decide +kernel), _, rfl, p, l, _, "int", rfl, R.same (sHB.trans s9), TyN.int _, not_false (lt_among hi2), fun j b' ej hb' => ?_⟩
        have ej := nV_inj (i := i) (j := j) ej
        subst ej
        have q := kq H9 (Same.refl H9)
        rw [List.getD_eq_getElem?_getD, hb'] at q
        exact q
      · rw [Int.toNat_natCast, range_getD] at hD9
        refine ⟨_, rfl, ne_sameB (SqL.of hD9) (s9.seq hL9) ⟨_, rfl, if_f rfl ?_⟩⟩
        -- the last three
        have sA := sHB.trans s9
        obtain ⟨dy, pc, pd, hp9⟩ := obj sA
        refine ⟨_, rfl, p, dy, _, rfl, hp9, brf_no _ _ _ (by decide +kernel) (by decide +kernel) (by decide +kernel), p, l, rfl, R.same sA, fun r1 H10 s10 _ hr1 => ?_⟩
        have hW10 := s10 _ _ (s9 _ _ (sB _ _ (Bn hW8 nW1 nW2 nW3)))
        refine ⟨_, rfl, eq_same (SqL.of hr1) (SqL.of hW10) ⟨_, rfl, if_t rfl ?_⟩⟩
        refine ⟨_, rfl, p, dy, _, rfl, s10 _ _ hp9, brf_no _ _ _ (by decide +kernel) (by decide +kernel) (by decide +kernel), p, l, rfl, R.same (sA.trans s10), fun r2 H11 s11 _ hr2 => ?_⟩
        have hM11 := s11 _ _ (s10 _ _ (s9 _ _ (sB _ _ (Bn hM8 nM1 nM2 nM3))))
        refine ⟨_, rfl, eq_same (SqL.of hr2) (SqL.of hM11) ⟨_, rfl, if_t rfl ?_⟩⟩
        refine ⟨_, rfl, p, dy, _, rfl, s11 _ _ (s10 _ _ hp9), brf_no _ _ _ (by decide +kernel) (by decide +kernel) (by decide +kernel), p, l, rfl, R.same ((sA.trans s10).trans s11), fun r3 H12 s12 _ hr3 => ?_⟩
        refine ⟨_, rfl, eq_sameB (SqL.of hr3) (((sA.trans s10).trans s11).trans s12 |>.seq hL) ?_⟩
        exact kQ _ (((sA.trans s10).trans s11).trans s12)

set_option maxHeartbeats 4000000 in
theorem ok_law (T : Tx K mg A) : FnOk P w K mg base CX0 20 A.law A.law_d ["_law_script"] (spLaw K) := by
  refine T.law.F.ok sc_law (fun vs H Q E h => ?_) (fun cdv Ar outer s H vs Q E hr h => ?_)
  · obtain ⟨a, ns, rfl, _⟩ := h
    rfl
  · obtain ⟨a, ns, rfl, hS, hlen, kQ⟩ := h
    have hu := hu_of hr
    refine ⟨_, (pss_cons (ps_set (i := 1) sc_law.nd rfl (by first | exact Or.inl rfl | exact Or.inr rfl) (pe_disp (pps_cons pe_str (pv 0) (pps_cons pe_str pe_int pps_nil)) (by rfl) (by rfl) (fun z => by cases z) (by decide)))
      (pss_cons (ps_set (i := 2) sc_law.nd rfl (by first | exact Or.inl rfl | exact Or.inr rfl) (pe_call (E := E0) (ok__law_bits T) (hr.mono (by decide)) rfl T._law_bits.g T._law_bits.F.kp T._law_bits.b .nil pass0 (pa_cons (pv 1) pa_nil)))
      (pss_cons (ps_set (i := 3) sc_law.nd rfl (by first | exact Or.inl rfl | exact Or.inr rfl) (pe_call (E := E0) (ok__law_bits T) (hr.mono (by decide)) rfl T._law_bits.g T._law_bits.F.kp T._law_bits.b .nil pass0 (pa_cons (pv 1) pa_nil)))
      (pss_cons (ps_set (i := 4) sc_law.nd rfl (by first | exact Or.inl rfl | exact Or.inr rfl) (pe_callTy call_list_of (by rfl) T.b_list (by decide +kernel) (pa_cons (pv 2) pa_nil)))
      (pss_cons (ps_set (i := 5) sc_law.nd rfl (by first | exact Or.inl rfl | exact Or.inr rfl) (pe_make (E := E0) T.mkB (ok_B_init T) (hr.mono (by decide)) rfl T.gB T.B_init.b .nil passL (pa_cons (pv 4) pa_nil)))
      (pss_cons (ps_set (i := 6) sc_law.nd rfl (by first | exact Or.inl rfl | exact Or.inr rfl) (pe_make (E := E0) T.mkB (ok_B_init T) (hr.mono (by decide)) rfl T.gB T.B_init.b .nil passL (pa_cons (pe_callTy call_list_of (by rfl) T.b_list (by decide +kernel) (pa_cons (pv 3) pa_nil)) pa_nil)))
      (pss_cons (ps_if (pt_cmpR (op_neD (hr.units)) (pv 4) (pv 2) (nomark _)) (pss_one (ps_ret pe_bl)) pss_nil)
      (pss_cons (ps_expr (pe_bm PySem.F.plainAttrs_list PySem.F.slot_list_append PySem.F.type_list_append mt_append (pv 4) (pa_cons pe_int pa_nil)))
      (pss_cons (ps_if (PW.pt (pw_or (pt_not (pt_val (pe_call (E := E0) (ok__law_row_right T) (hr.mono (by decide)) rfl T._law_row_right.g T._law_row_right.F.kp T._law_row_right.b .nil pass0 (pa_cons (pv 5) (pa_cons (pv 2) pa_nil))))) (pw_or (pt_not (pt_val (pe_call (E := E0) (ok__law_row_right T) (hr.mono (by decide)) rfl T._law_row_right.g T._law_row_right.F.kp T._law_row_right.b .nil pass0 (pa_cons (pv 6) (pa_cons (pv 3) pa_nil))))) (pw_or1 (pt_not (pt_val (pe_call (E := E0) (ok__law_row_right T) (hr.mono (by decide)) rfl T._law_row_right.g T._law_row_right.F.kp T._law_row_right.b .nil pass0 (pa_cons (pv 5) (pa_cons (pv 2) pa_nil))))))))) (pss_one (ps_ret pe_bl)) pss_nil)
      (pss_cons (ps_for PassesOwn.never rfl (pi_range1 (by rfl) T.b_range (pa_cons pe_int pa_nil)) (pg_name (i := 7) sc_law.nd rfl (by first | exact Or.inl rfl | exact Or.inr rfl)) (pss_cons (ps_set (i := 8) sc_law.nd rfl (by first | exact Or.inl rfl | exact Or.inr rfl) (pe_call (E := E0) (ok__law_great T) (hr.mono (by decide)) rfl T._law_great.g T._law_great.F.kp T._law_great.b .nil pass0 (pa_cons (pv 1) (pa_cons pe_int pa_nil))))
      (pss_cons (ps_set (i := 9) sc_law.nd rfl (by first | exact Or.inl rfl | exact Or.inr rfl) (pe_call (E := E0) (ok_ones_in T) (hr.mono (by decide)) rfl T.ones_in.g T.ones_in.F.kp T.ones_in.b .nil passL (pa_cons (pv 8) pa_nil)))
      (pss_one (ps_if (PW.pt (pw_or (pt_val (pe_callB call_isi (by rfl) T.b_isinstance (by decide +kernel) (pa_cons (pv 9) (pa_cons (pe_bltn (u := .type "bool") (v := .ty "bool") (by rfl) T.b_bool (by decide +kernel) rfl) pa_nil)))) (pw_or1 (pt_cmpR op_ne (pv 9) (pe_callB (cr_sum rfl) (by rfl) T.b_sum (by decide +kernel) (pa_cons (pe_lc (own := [("_law_place", 10)]) (g := gName 10) (tt := tYes) rfl sc_law.nd (pi_range1 (by rfl) T.b_range (pa_cons pe_int pa_nil)) (blkOk_by (N := n_law) (sc := defScope s_law) (by decide +kernel)) (fun _ _ _ _ _ => (pg_name (i := 10) sc_law.nd rfl (by first | exact Or.inl rfl | exact Or.inr rfl))) (fun _ _ _ _ _ => pts_nil) (fun _ _ _ _ _ => (pe_op op_and (pe_op op_shr (pv 8) (pv 10)) pe_int))) pa_nil)) (nomark _))))) (pss_one (ps_ret pe_bl)) pss_nil)))))
      (pss_one (ps_ret (pe_and (pe_cmpR op_eq (pe_call (E := E0) (ok_ones_in T) (hr.mono (by decide)) rfl T.ones_in.g T.ones_in.F.kp T.ones_in.b .nil passL (pa_cons pe_int pa_nil)) pe_int (nomark _)) (pe_one (pe_cmpR op_eq (pe_call (E := E0) (ok_ones_in T) (hr.mono (by decide)) rfl T.ones_in.g T.ones_in.F.kp T.ones_in.b .nil passL (pa_cons (pe_op op_sub (pe_op op_pow pe_int pe_int) pe_int) pa_nil)) pe_int (nomark _)))))))))))))))), ?_⟩
    -- _law_state
    refine fun d hd => ⟨_, rfl, upd_same, stD a 0, rfl, (by show 2 ≤ 15; decide), ?_⟩
    rw [st_merge]
    have s1 : Same H (upd (upd H d (.dK [])) d (.dK (stD a 0))) := by rw [upd_upd]; exact same_new (Same.refl H) hd
    -- _law_bits_here, _law_others
    refine ⟨_, rfl, d, a, ns, 0, rfl, ⟨upd_same, s1.seq hS, hlen, by omega⟩, by omega, fun l L H1 k1 hl hk1 kp1 S1 hL hL1 => ?_⟩
    refine ⟨_, rfl, d, a, ns, k1, rfl, S1, by omega, fun l2 L2 H2 k2 hl2 hk2 kp2 S2 hL2 hL21 => ?_⟩
    have hL12 : H2 L = some (.lst (l.map bV)) := kp2 _ _ hL1 (ne_of hL1 S1.dict (by intro z; cases z))
    -- _law_handed = list(_law_bits_here); _law_row = BitRow(_law_handed)
    refine ⟨_, rfl, L, _, rfl, .inl (SqL.of hL12), fun M hM => ?_⟩
    have sM := same_new (Same.refl H2) (o := .lst (l.map bV)) hM
    have hMM : upd H2 M (.lst (l.map bV)) M = some (.lst (l.map bV)) := upd_same
    generalize upd H2 M (.lst (l.map bV)) = H3 at sM hMM
    refine ⟨_, rfl, fun p dx np ndx _ => mk_brow (SqL.of hMM) (by omega) np ndx fun H4 pa pb s4 npa npb R => ⟨rfl, ?_⟩⟩
    -- _law_other = BitRow(list(_law_others))
    refine ⟨_, rfl, L2, _, rfl, .inl (SqL.of (s4 _ _ (sM _ _ hL21))), fun M2 hM2 => fun p2 dx2 np2 ndx2 _ => mk_brow (SqL.of upd_same) (by omega) np2 ndx2 fun H5 pc pd s5 npc npd R2 => ⟨rfl, ?_⟩⟩
    have s45 : Same H4 H5 := (same_new (Same.refl H4) hM2).trans s5
    have hL5 : H5 L = some (.lst (l.map bV)) := s45 _ _ (s4 _ _ (sM _ _ hL12))
    have hL25 : H5 L2 = some (.lst (l2.map bV)) := s45 _ _ (s4 _ _ (sM _ _ hL21))
    have hM5 : H5 M = some (.lst (l.map bV)) := s45 _ _ (s4 _ _ hMM)
    have R5 := R.same s45
    have S5 := ((S2.same sM).same s4).same s45
    have nLM : L ≠ M := ne_of_none hL12 hM
    have nL2M : L2 ≠ M := ne_of_none hL21 hM
    have npM : p ≠ M := let ⟨_, h⟩ := R5.ob; ne_of h hM5 (by intro z; cases z)
    have np2M : p2 ≠ M := let ⟨_, h⟩ := R2.ob; ne_of h hM5 (by intro z; cases z)
    have npaM : pa ≠ M := (ne_of_none hMM npa).symm
    have npbM : pb ≠ M := (ne_of_none hMM npb).symm
    have hMM2 : upd H4 M2 (.lst (l2.map bV)) M = some (.lst (l.map bV)) := (upd_ne (ne_of_none (s4 _ _ hMM) hM2)).trans (s4 _ _ hMM)
    have npcM : pc ≠ M := (ne_of_none hMM2 npc).symm
    have npdM : pd ≠ M := (ne_of_none hMM2 npd).symm
    have ndM : d ≠ M := ne_of S5.dict hM5 (by intro z; cases z)
    -- if _law_handed != _law_bits_here
    refine ⟨_, rfl, _, rfl, ne_sameB (SqL.of hM5) (SqL.of hL5) ⟨_, rfl, if_f rfl ?_⟩⟩
    -- _law_handed.append(1)
    refine ⟨_, rfl, .inl ⟨rfl, _, SqL.of hM5⟩, M, _, _, rfl, rfl, hM5, by rw [List.length_map]; exact line5 (by omega), ?_⟩
    have kM : Keep M H5 (upd H5 M (.lst (l.map bV ++ [.int 1]))) := (keep_of (Same.refl H5)).upd _
    generalize upd H5 M (.lst (l.map bV ++ [.int 1])) = H6 at kM
    have hL6 := kM _ _ hL5 nLM
    have hL26 := kM _ _ hL25 nL2M
    have R6 : BRow A.cB H6 p l := ⟨pa, pb, R5.ob.imp fun _ h => kM _ _ h npM, kM _ _ R5.pk npaM, kM _ _ R5.hd npbM, R5.ne, R5.len⟩
    have R26 : BRow A.cB H6 p2 l2 := ⟨pc, pd, R2.ob.imp fun _ h => kM _ _ h np2M, kM _ _ R2.pk npcM, kM _ _ R2.hd npdM, R2.ne, R2.len⟩
    have aM : SqL K H6 a (ns.map V.int) := by
      have hM0 : H M = none := by
        have e2 := sM
        have q1 : (upd (upd H d (.dK [])) d (.dK (stD a 0))) M = none := kp1.free (kp2.free hM S2.dict) S1.dict
        exact s1.free q1
      rcases hS with (h | ⟨o, h⟩) | h
      · exact .inl (.inl (kM _ _ (s45 _ _ (s4 _ _ (sM _ _ (kp2 _ _ (kp1 _ _ (s1 _ _ h) (ne_of_none h hd)) (ne_of_none h hd))))) (ne_of_none h hM0)))
      · exact .inl (.inr ⟨o, kM _ _ (s45 _ _ (s4 _ _ (sM _ _ (kp2 _ _ (kp1 _ _ (s1 _ _ h) (ne_of_none h hd)) (ne_of_none h hd))))) (ne_of_none h hM0)⟩)
      · exact .inr h
    have S6 : St K H6 d a ns k2 := ⟨kM _ _ S5.dict ndM, aM, hlen, S5.few⟩
    -- the three looks
    refine ⟨_, rfl, _, rfl, p, L, l, rfl, R6, SqL.of hL6, fun H7 s7 => ⟨_, rfl, if_f rfl ?_⟩⟩
    refine ⟨_, rfl, _, rfl, p2, L2, l2, rfl, R26.same s7, SqL.of (s7 _ _ hL26), fun H8 s8 => ⟨_, rfl, if_f rfl ?_⟩⟩
    refine ⟨_, rfl, _, rfl, p, L, l, rfl, R6.same (s7.trans s8), SqL.of (s8 _ _ (s7 _ _ hL6)), fun H9 s9 => ⟨_, rfl, if_f rfl ?_⟩⟩
    have S9 := S6.same ((s7.trans s8).trans s9)
    -- for _law_k in range(4)
    refine ⟨4, rfl, by decide, by decide, ?_⟩
    refine for_range (lo := 0) (n := (4 : Int).toNat) (fun i σ H' => ∃ v7 v8 v9 : Option V, σ = [some (.ref a), some (.ref d), some (.ref L), some (.ref L2), some (.ref M), some (.ref p), some (.ref p2), v7, v8, v9, none] ∧ St K H' d a ns (k2 + 3 * i))
      ⟨none, none, none, rfl, S9⟩ (fun i σ H' hi h => ?_) (fun σ H' h => ?_)
    · obtain ⟨v7, v8, v9, rfl, S'⟩ := h
      have hi : i < 4 := hi
      refine ⟨_, rfl, d, a, ns, _, 32, rfl, S', by omega, by decide, fun v H10 hv kp10 S10 => ?_⟩
      -- _law_many
      refine ⟨_, rfl, _, "int", rfl, TyN.int _, not_false (among_in (by omega) (by omega)), fun m em hm => ?_⟩
      have em := nV_inj em
      subst em
      obtain ⟨pc, epc⟩ : ∃ pc, popc 32 v = pc := ⟨_, rfl⟩
      rw [epc]
      refine ⟨_, rfl, _, _, _, _, _, rfl, .ty _, (TyN.int _).1, kit_ty (kit_bool (n := "int") (by decide)), _, rfl, if_f rfl ?_⟩
      refine ⟨_, rfl, 32, rfl, by decide, by decide, fun D hD => ?_⟩
      refine lc_rng (n := (32 : Int).toNat) (fun i => nV (v / 2 ^ i % 2)) (by decide) hD (fun _ => rfl) (fun j H11 hj s11 Q' kq => ?_) (fun H11 s11 hD11 => ?_)
      · refine ⟨_, rfl, _, rfl, _, _, rfl, rfl, (by show (0 : Int) ≤ (j : Nat); omega), _, _, rfl, rfl, ?_⟩
        have q := kq H11 (Same.refl H11)
        have ev : nV (v / 2 ^ j % 2) = V.int (Builtin.bitAnd ((v : Int) / 2 ^ ((j : Nat) : Int).toNat) 1) := by
          rw [PyProof.Rows.bitAnd_m1, Int.toNat_natCast, cast_pow]
          rfl
        rw [ev] at q
        exact q
      · obtain ⟨zs, ezs, esum⟩ : ∃ zs : List Int, (List.range (32 : Int).toNat).map (fun i => nV (v / 2 ^ i % 2)) = zs.map V.int ∧ zs.sum = (popc 32 v : Int) :=
          ⟨(List.range 32).map fun i => ((v / 2 ^ i % 2 : Nat) : Int), by rw [List.map_map]; rfl, popc_sum 32 v⟩
        rw [ezs] at hD11
        refine ⟨D, zs, rfl, SqL.of hD11, rfl, _, rfl, ?_⟩
        rw [esum, epc]
        refine if_f (by show (!decide (nV pc = nV pc)) = false; simp) ?_
        exact ⟨_, _, _, rfl, (S10.same s11)⟩
    · obtain ⟨v7, v8, v9, rfl, S'⟩ := h
      -- return ones_in(0) == 0 and ones_in(2 ** 32 - 1) == 32
      refine ⟨_, "int", rfl, TyN.int _, not_false (by decide), fun m em hm => ?_⟩
      have em : 0 = m := nV_inj em
      subst em
      refine ⟨rfl, _, rfl, if_t (by decide) ?_⟩
      refine ⟨_, _, rfl, rfl, ⟨by decide, by decide, by decide⟩, _, _, rfl, rfl, _, "int", rfl, TyN.int _, not_false (by decide), fun m em hm => ?_⟩
      have em : 4294967295 = m := by
        have z : V.int ((2 : Int) ^ (32 : Int).toNat - 1) = V.int (m : Int) := em
        injection z with z
        have : (2 : Int) ^ (32 : Int).toNat - 1 = 4294967295 := by decide
        omega
      subst em
      refine ⟨rfl, ?_⟩
      have : decide (nV (popc 32 4294967295) = V.int 32) = true := by decide
      rw [this]
      exact kQ _

end
set_option maxHeartbeats 4000000 in
theorem all_mk {l : PySem.W.OpenLaw} {w : World} {K : PySem.W.Frag} {h : Heap} {mg : Str → Option Value} {fa : Addr} (X : K.In h) (G : h.Ns mainGlobals mg) (hfa : mg "law" = some (.ref fa))
    {f_is_whole : Addr} {od_is_whole an_is_whole : Option Addr} {sl_is_whole : Array (Option Value)} {oc_is_whole kV_is_whole dc_is_whole pm_is_whole cd_is_whole ct_is_whole : Value}
    {f_is_among : Addr} {od_is_among an_is_among : Option Addr} {sl_is_among : Array (Option Value)} {oc_is_among kV_is_among dc_is_among pm_is_among cd_is_among ct_is_among : Value}
    {f_ones_in : Addr} {od_ones_in an_ones_in : Option Addr} {sl_ones_in : Array (Option Value)} {oc_ones_in kV_ones_in dc_ones_in pm_ones_in cd_ones_in ct_ones_in : Value}
    {f_packed : Addr} {od_packed an_packed : Option Addr} {sl_packed : Array (Option Value)} {oc_packed kV_packed dc_packed pm_packed cd_packed ct_packed : Value}
    {f_B_init : Addr} {od_B_init an_B_init : Option Addr} {sl_B_init : Array (Option Value)} {oc_B_init kV_B_init dc_B_init pm_B_init cd_B_init ct_B_init : Value}
    {f_B_words : Addr} {od_B_words an_B_words : Option Addr} {sl_B_words : Array (Option Value)} {oc_B_words kV_B_words dc_B_words pm_B_words cd_B_words ct_B_words : Value}
    {f_B_marks : Addr} {od_B_marks an_B_marks : Option Addr} {sl_B_marks : Array (Option Value)} {oc_B_marks kV_B_marks dc_B_marks pm_B_marks cd_B_marks ct_B_marks : Value}
    {f_B_bits : Addr} {od_B_bits an_B_bits : Option Addr} {sl_B_bits : Array (Option Value)} {oc_B_bits kV_B_bits dc_B_bits pm_B_bits cd_B_bits ct_B_bits : Value}
    {f_B_bit_at : Addr} {od_B_bit_at an_B_bit_at : Option Addr} {sl_B_bit_at : Array (Option Value)} {oc_B_bit_at kV_B_bit_at dc_B_bit_at pm_B_bit_at cd_B_bit_at ct_B_bit_at : Value}
    {f__law_next : Addr} {od__law_next an__law_next : Option Addr} {sl__law_next : Array (Option Value)} {oc__law_next kV__law_next dc__law_next pm__law_next cd__law_next ct__law_next : Value}
    {f__law_great : Addr} {od__law_great an__law_great : Option Addr} {sl__law_great : Array (Option Value)} {oc__law_great kV__law_great dc__law_great pm__law_great cd__law_great ct__law_great : Value}
    {f__law_bits : Addr} {od__law_bits an__law_bits : Option Addr} {sl__law_bits : Array (Option Value)} {oc__law_bits kV__law_bits dc__law_bits pm__law_bits cd__law_bits ct__law_bits : Value}
    {f__law_words : Addr} {od__law_words an__law_words : Option Addr} {sl__law_words : Array (Option Value)} {oc__law_words kV__law_words dc__law_words pm__law_words cd__law_words ct__law_words : Value}
    {f__law_row_right : Addr} {od__law_row_right an__law_row_right : Option Addr} {sl__law_row_right : Array (Option Value)} {oc__law_row_right kV__law_row_right dc__law_row_right pm__law_row_right cd__law_row_right ct__law_row_right : Value}
    {f_law : Addr} {od_law an_law : Option Addr} {sl_law : Array (Option Value)} {oc_law kV_law dc_law pm_law cd_law ct_law : Value}
    {cB : Addr}
    {xBadRow : Addr}
    {xNoPlace : Addr}
    {tWORD : Tok}
    {tMOST_BITS : Tok}
    (aB : PySem.W.nsIn K mainGlobals "BitRow" = some (some (.ref cB)))
    (a_is_whole : PySem.W.nsIn K mainGlobals "is_whole" = some (some (.ref f_is_whole)))
    (l_is_whole : K.lookup f_is_whole = some ⟨oc_is_whole, od_is_whole, .func (PySem.W.fnOf "is_whole" "is_whole" (defArgs s_is_whole) (defBody s_is_whole) (defScope s_is_whole) .none kV_is_whole dc_is_whole pm_is_whole an_is_whole cd_is_whole ct_is_whole), sl_is_whole⟩) (k0_is_whole : PySem.W.codeIn K cd_is_whole "is_whole" = true) (kk_is_whole : PySem.W.keepIn K (.ref f_is_whole) = true)
    (a_is_among : PySem.W.nsIn K mainGlobals "is_among" = some (some (.ref f_is_among)))
    (l_is_among : K.lookup f_is_among = some ⟨oc_is_among, od_is_among, .func (PySem.W.fnOf "is_among" "is_among" (defArgs s_is_among) (defBody s_is_among) (defScope s_is_among) .none kV_is_among dc_is_among pm_is_among an_is_among cd_is_among ct_is_among), sl_is_among⟩) (k0_is_among : PySem.W.codeIn K cd_is_among "is_among" = true) (kk_is_among : PySem.W.keepIn K (.ref f_is_among) = true)
    (a_ones_in : PySem.W.nsIn K mainGlobals "ones_in" = some (some (.ref f_ones_in)))
    (l_ones_in : K.lookup f_ones_in = some ⟨oc_ones_in, od_ones_in, .func (PySem.W.fnOf "ones_in" "ones_in" (defArgs s_ones_in) (defBody s_ones_in) (defScope s_ones_in) .none kV_ones_in dc_ones_in pm_ones_in an_ones_in cd_ones_in ct_ones_in), sl_ones_in⟩) (k0_ones_in : PySem.W.codeIn K cd_ones_in "ones_in" = true) (kk_ones_in : PySem.W.keepIn K (.ref f_ones_in) = true)
    (a_packed : PySem.W.nsIn K mainGlobals "packed" = some (some (.ref f_packed)))
    (l_packed : K.lookup f_packed = some ⟨oc_packed, od_packed, .func (PySem.W.fnOf "packed" "packed" (defArgs s_packed) (defBody s_packed) (defScope s_packed) .none kV_packed dc_packed pm_packed an_packed cd_packed ct_packed), sl_packed⟩) (k0_packed : PySem.W.codeIn K cd_packed "packed" = true) (kk_packed : PySem.W.keepIn K (.ref f_packed) = true)
    (a_B_init : PySem.W.findIn K (.ref cB) "__init__" = some (some (.ref f_B_init))) (i_B_init : PySem.W.isFn K (.ref f_B_init) = true)
    (l_B_init : K.lookup f_B_init = some ⟨oc_B_init, od_B_init, .func (PySem.W.fnOf "__init__" "BitRow.__init__" (defArgs s_B_init) (defBody s_B_init) (defScope s_B_init) .none kV_B_init dc_B_init pm_B_init an_B_init cd_B_init ct_B_init), sl_B_init⟩) (k0_B_init : PySem.W.codeIn K cd_B_init "BitRow.__init__" = true) (kk_B_init : PySem.W.keepIn K (.ref f_B_init) = true)
    (a_B_words : PySem.W.findIn K (.ref cB) "words" = some (some (.ref f_B_words))) (i_B_words : PySem.W.isFn K (.ref f_B_words) = true)
    (l_B_words : K.lookup f_B_words = some ⟨oc_B_words, od_B_words, .func (PySem.W.fnOf "words" "BitRow.words" (defArgs s_B_words) (defBody s_B_words) (defScope s_B_words) .none kV_B_words dc_B_words pm_B_words an_B_words cd_B_words ct_B_words), sl_B_words⟩) (k0_B_words : PySem.W.codeIn K cd_B_words "BitRow.words" = true) (kk_B_words : PySem.W.keepIn K (.ref f_B_words) = true)
    (a_B_marks : PySem.W.findIn K (.ref cB) "marks" = some (some (.ref f_B_marks))) (i_B_marks : PySem.W.isFn K (.ref f_B_marks) = true)
    (l_B_marks : K.lookup f_B_marks = some ⟨oc_B_marks, od_B_marks, .func (PySem.W.fnOf "marks" "BitRow.marks" (defArgs s_B_marks) (defBody s_B_marks) (defScope s_B_marks) .none kV_B_marks dc_B_marks pm_B_marks an_B_marks cd_B_marks ct_B_marks), sl_B_marks⟩) (k0_B_marks : PySem.W.codeIn K cd_B_marks "BitRow.marks" = true) (kk_B_marks : PySem.W.keepIn K (.ref f_B_marks) = true)
    (a_B_bits : PySem.W.findIn K (.ref cB) "bits" = some (some (.ref f_B_bits))) (i_B_bits : PySem.W.isFn K (.ref f_B_bits) = true)
    (l_B_bits : K.lookup f_B_bits = some ⟨oc_B_bits, od_B_bits, .func (PySem.W.fnOf "bits" "BitRow.bits" (defArgs s_B_bits) (defBody s_B_bits) (defScope s_B_bits) .none kV_B_bits dc_B_bits pm_B_bits an_B_bits cd_B_bits ct_B_bits), sl_B_bits⟩) (k0_B_bits : PySem.W.codeIn K cd_B_bits "BitRow.bits" = true) (kk_B_bits : PySem.W.keepIn K (.ref f_B_bits) = true)
    (a_B_bit_at : PySem.W.findIn K (.ref cB) "bit_at" = some (some (.ref f_B_bit_at))) (i_B_bit_at : PySem.W.isFn K (.ref f_B_bit_at) = true)
    (l_B_bit_at : K.lookup f_B_bit_at = some ⟨oc_B_bit_at, od_B_bit_at, .func (PySem.W.fnOf "bit_at" "BitRow.bit_at" (defArgs s_B_bit_at) (defBody s_B_bit_at) (defScope s_B_bit_at) .none kV_B_bit_at dc_B_bit_at pm_B_bit_at an_B_bit_at cd_B_bit_at ct_B_bit_at), sl_B_bit_at⟩) (k0_B_bit_at : PySem.W.codeIn K cd_B_bit_at "BitRow.bit_at" = true) (kk_B_bit_at : PySem.W.keepIn K (.ref f_B_bit_at) = true)
    (a__law_next : PySem.W.nsIn K mainGlobals "_law_next" = some (some (.ref f__law_next)))
    (l__law_next : K.lookup f__law_next = some ⟨oc__law_next, od__law_next, .func (PySem.W.fnOf "_law_next" "_law_next" (defArgs s__law_next) (defBody s__law_next) (defScope s__law_next) .none kV__law_next dc__law_next pm__law_next an__law_next cd__law_next ct__law_next), sl__law_next⟩) (k0__law_next : PySem.W.codeIn K cd__law_next "_law_next" = true) (kk__law_next : PySem.W.keepIn K (.ref f__law_next) = true)
    (a__law_great : PySem.W.nsIn K mainGlobals "_law_great" = some (some (.ref f__law_great)))
    (l__law_great : K.lookup f__law_great = some ⟨oc__law_great, od__law_great, .func (PySem.W.fnOf "_law_great" "_law_great" (defArgs s__law_great) (defBody s__law_great) (defScope s__law_great) .none kV__law_great dc__law_great pm__law_great an__law_great cd__law_great ct__law_great), sl__law_great⟩) (k0__law_great : PySem.W.codeIn K cd__law_great "_law_great" = true) (kk__law_great : PySem.W.keepIn K (.ref f__law_great) = true)
    (a__law_bits : PySem.W.nsIn K mainGlobals "_law_bits" = some (some (.ref f__law_bits)))
    (l__law_bits : K.lookup f__law_bits = some ⟨oc__law_bits, od__law_bits, .func (PySem.W.fnOf "_law_bits" "_law_bits" (defArgs s__law_bits) (defBody s__law_bits) (defScope s__law_bits) .none kV__law_bits dc__law_bits pm__law_bits an__law_bits cd__law_bits ct__law_bits), sl__law_bits⟩) (k0__law_bits : PySem.W.codeIn K cd__law_bits "_law_bits" = true) (kk__law_bits : PySem.W.keepIn K (.ref f__law_bits) = true)
    (a__law_words : PySem.W.nsIn K mainGlobals "_law_words" = some (some (.ref f__law_words)))
    (l__law_words : K.lookup f__law_words = some ⟨oc__law_words, od__law_words, .func (PySem.W.fnOf "_law_words" "_law_words" (defArgs s__law_words) (defBody s__law_words) (defScope s__law_words) .none kV__law_words dc__law_words pm__law_words an__law_words cd__law_words ct__law_words), sl__law_words⟩) (k0__law_words : PySem.W.codeIn K cd__law_words "_law_words" = true) (kk__law_words : PySem.W.keepIn K (.ref f__law_words) = true)
    (a__law_row_right : PySem.W.nsIn K mainGlobals "_law_row_right" = some (some (.ref f__law_row_right)))
    (l__law_row_right : K.lookup f__law_row_right = some ⟨oc__law_row_right, od__law_row_right, .func (PySem.W.fnOf "_law_row_right" "_law_row_right" (defArgs s__law_row_right) (defBody s__law_row_right) (defScope s__law_row_right) .none kV__law_row_right dc__law_row_right pm__law_row_right an__law_row_right cd__law_row_right ct__law_row_right), sl__law_row_right⟩) (k0__law_row_right : PySem.W.codeIn K cd__law_row_right "_law_row_right" = true) (kk__law_row_right : PySem.W.keepIn K (.ref f__law_row_right) = true)
    (a_law : PySem.W.nsIn K mainGlobals "law" = some (some (.ref f_law)))
    (l_law : K.lookup f_law = some ⟨oc_law, od_law, .func (PySem.W.fnOf "law" "law" (defArgs s_law) (defBody s_law) (defScope s_law) .none kV_law dc_law pm_law an_law cd_law ct_law), sl_law⟩) (k0_law : PySem.W.codeIn K cd_law "law" = true) (kk_law : PySem.W.keepIn K (.ref f_law) = true)
    (pgB : PySem.W.plainGet K cB Str.empty = true) (hdB : PySem.W.hasDictIn K cB = true) (poB : PySem.W.plainOver K cB = true) (saB : PySem.W.findIn K (.ref cB) "__setattr__" = some (some (.builtin "object.__setattr__"))) (mkB : PySem.W.makesIn K cB = true) (kcB : PySem.W.keepIn K (.ref cB) = true)
    (nB_size : PySem.W.findIn K (.ref cB) "size" = some none)
    (nB_packs : PySem.W.findIn K (.ref cB) "packs" = some none)
    (nB_heads : PySem.W.findIn K (.ref cB) "heads" = some none)
    (aeBadRow : PySem.W.nsIn K mainGlobals "BadRow" = some (some (.ref xBadRow))) (xeBadRow : PySem.W.excIn K xBadRow [.type "ValueError", .type "Exception", .type "BaseException", .type "object"] "ValueError.__new__" = true) (keBadRow : PySem.W.keepIn K (.ref xBadRow) = true) (beBadRow : PySem.W.subIn K (.ref xBadRow) (.type "BaseException") = some true) (teBadRow : PySem.W.typeIn K (.ref xBadRow) = some (.type "type"))
    (aeNoPlace : PySem.W.nsIn K mainGlobals "NoPlace" = some (some (.ref xNoPlace))) (xeNoPlace : PySem.W.excIn K xNoPlace [.type "ValueError", .type "Exception", .type "BaseException", .type "object"] "ValueError.__new__" = true) (keNoPlace : PySem.W.keepIn K (.ref xNoPlace) = true) (beNoPlace : PySem.W.subIn K (.ref xNoPlace) (.type "BaseException") = some true) (teNoPlace : PySem.W.typeIn K (.ref xNoPlace) = some (.type "type"))
    (vWORD : PySem.W.nsIn K mainGlobals "WORD" = some (some (.int 32 tWORD)))
    (vMOST_BITS : PySem.W.nsIn K mainGlobals "MOST_BITS" = some (some (.int 4000 tMOST_BITS)))
    (z_isinstance : PySem.W.nsIn K mainGlobals "isinstance" = some none)
    (z_int : PySem.W.nsIn K mainGlobals "int" = some none)
    (z_bool : PySem.W.nsIn K mainGlobals "bool" = some none)
    (z_list : PySem.W.nsIn K mainGlobals "list" = some none)
    (z_len : PySem.W.nsIn K mainGlobals "len" = some none)
    (z_enumerate : PySem.W.nsIn K mainGlobals "enumerate" = some none)
    (z_range : PySem.W.nsIn K mainGlobals "range" = some none)
    (z_all : PySem.W.nsIn K mainGlobals "all" = some none)
    (z_sum : PySem.W.nsIn K mainGlobals "sum" = some none)
    (z_reversed : PySem.W.nsIn K mainGlobals "reversed" = some none)
    : ∃ fd : FuncData, (∀ (s : Shared) (v : Value), BindsTo s fd ⟨[v], []⟩ [("_law_script", v)]) ∧ ∀ base : Heap, K.In base → base.Ns mainGlobals mg → FnOk l.prog w K mg base CX0 20 fa fd ["_law_script"] (spLaw K) := by
  have e := hfa.symm.trans (PySem.W.mg_of X G a_law)
  cases e
  have F_is_whole := fun_mk (st := s_is_whole) l_is_whole k0_is_whole kk_is_whole
  have F_is_among := fun_mk (st := s_is_among) l_is_among k0_is_among kk_is_among
  have F_ones_in := fun_mk (st := s_ones_in) l_ones_in k0_ones_in kk_ones_in
  have F_packed := fun_mk (st := s_packed) l_packed k0_packed kk_packed
  have F_B_init := fun_mk (st := s_B_init) l_B_init k0_B_init kk_B_init
  have F_B_words := fun_mk (st := s_B_words) l_B_words k0_B_words kk_B_words
  have F_B_marks := fun_mk (st := s_B_marks) l_B_marks k0_B_marks kk_B_marks
  have F_B_bits := fun_mk (st := s_B_bits) l_B_bits k0_B_bits kk_B_bits
  have F_B_bit_at := fun_mk (st := s_B_bit_at) l_B_bit_at k0_B_bit_at kk_B_bit_at
  have F__law_next := fun_mk (st := s__law_next) l__law_next k0__law_next kk__law_next
  have F__law_great := fun_mk (st := s__law_great) l__law_great k0__law_great kk__law_great
  have F__law_bits := fun_mk (st := s__law_bits) l__law_bits k0__law_bits kk__law_bits
  have F__law_words := fun_mk (st := s__law_words) l__law_words k0__law_words kk__law_words
  have F__law_row_right := fun_mk (st := s__law_row_right) l__law_row_right k0__law_row_right kk__law_row_right
  have F_law := fun_mk (st := s_law) l_law k0_law kk_law
  have T : Tx K mg ⟨f_is_whole, _, f_is_among, _, f_ones_in, _, f_packed, _, f_B_init, _, f_B_words, _, f_B_marks, _, f_B_bits, _, f_B_bit_at, _, f__law_next, _, f__law_great, _, f__law_bits, _, f__law_words, _, f__law_row_right, _, fa, _, cB, xBadRow, xNoPlace⟩ := ⟨⟨F_is_whole, F_is_whole.binds (ps := ["thing"]) fun _ _ _ _ _ _ us hl => match us, hl with | [_], _ => rfl, PySem.W.mg_of X G a_is_whole⟩,
    ⟨F_is_among, F_is_among.binds (ps := ["thing", "least", "most"]) fun _ _ _ _ _ _ us hl => match us, hl with | [_, _, _], _ => rfl, PySem.W.mg_of X G a_is_among⟩,
    ⟨F_ones_in, F_ones_in.binds (ps := ["word"]) fun _ _ _ _ _ _ us hl => match us, hl with | [_], _ => rfl, PySem.W.mg_of X G a_ones_in⟩,
    ⟨F_packed, F_packed.binds (ps := ["bits"]) fun _ _ _ _ _ _ us hl => match us, hl with | [_], _ => rfl, PySem.W.mg_of X G a_packed⟩,
    ⟨F_B_init, F_B_init.binds (ps := ["self", "bits"]) fun _ _ _ _ _ _ us hl => match us, hl with | [_, _], _ => rfl, ⟨a_B_init, i_B_init, kk_B_init⟩⟩,
    ⟨F_B_words, F_B_words.binds (ps := ["self"]) fun _ _ _ _ _ _ us hl => match us, hl with | [_], _ => rfl, ⟨a_B_words, i_B_words, kk_B_words⟩⟩,
    ⟨F_B_marks, F_B_marks.binds (ps := ["self"]) fun _ _ _ _ _ _ us hl => match us, hl with | [_], _ => rfl, ⟨a_B_marks, i_B_marks, kk_B_marks⟩⟩,
    ⟨F_B_bits, F_B_bits.binds (ps := ["self"]) fun _ _ _ _ _ _ us hl => match us, hl with | [_], _ => rfl, ⟨a_B_bits, i_B_bits, kk_B_bits⟩⟩,
    ⟨F_B_bit_at, F_B_bit_at.binds (ps := ["self", "place"]) fun _ _ _ _ _ _ us hl => match us, hl with | [_, _], _ => rfl, ⟨a_B_bit_at, i_B_bit_at, kk_B_bit_at⟩⟩,
    ⟨F__law_next, F__law_next.binds (ps := ["_law_state"]) fun _ _ _ _ _ _ us hl => match us, hl with | [_], _ => rfl, PySem.W.mg_of X G a__law_next⟩,
    ⟨F__law_great, F__law_great.binds (ps := ["_law_state", "_law_wide"]) fun _ _ _ _ _ _ us hl => match us, hl with | [_, _], _ => rfl, PySem.W.mg_of X G a__law_great⟩,
    ⟨F__law_bits, F__law_bits.binds (ps := ["_law_state"]) fun _ _ _ _ _ _ us hl => match us, hl with | [_], _ => rfl, PySem.W.mg_of X G a__law_bits⟩,
    ⟨F__law_words, F__law_words.binds (ps := ["_law_bits_here"]) fun _ _ _ _ _ _ us hl => match us, hl with | [_], _ => rfl, PySem.W.mg_of X G a__law_words⟩,
    ⟨F__law_row_right, F__law_row_right.binds (ps := ["_law_row", "_law_bits_here"]) fun _ _ _ _ _ _ us hl => match us, hl with | [_, _], _ => rfl, PySem.W.mg_of X G a__law_row_right⟩,
    ⟨F_law, F_law.binds (ps := ["_law_script"]) fun _ _ _ _ _ _ us hl => match us, hl with | [_], _ => rfl, PySem.W.mg_of X G a_law⟩,
    ⟨pgB, hdB, poB, saB⟩,
    ⟨mkB, a_B_init, i_B_init, kcB⟩,
    PySem.W.mg_of X G aB,
    nB_size,
    nB_packs,
    nB_heads,
    ⟨PySem.W.mg_of X G aeBadRow, xeBadRow, keBadRow, beBadRow, teBadRow⟩,
    ⟨PySem.W.mg_of X G aeNoPlace, xeNoPlace, keNoPlace, beNoPlace, teNoPlace⟩,
    ⟨_, PySem.W.mg_of X G vWORD⟩,
    ⟨_, PySem.W.mg_of X G vMOST_BITS⟩,
    PySem.W.mg_none_of X G z_isinstance,
    PySem.W.mg_none_of X G z_int,
    PySem.W.mg_none_of X G z_bool,
    PySem.W.mg_none_of X G z_list,
    PySem.W.mg_none_of X G z_len,
    PySem.W.mg_none_of X G z_enumerate,
    PySem.W.mg_none_of X G z_range,
    PySem.W.mg_none_of X G z_all,
    PySem.W.mg_none_of X G z_sum,
    PySem.W.mg_none_of X G z_reversed⟩
  exact ⟨_, fun s v => .of_eq rfl, fun base _ _ => ok_law T⟩
theorem walk {l : PySem.W.OpenLaw} {q : Program} {loose : List Str} {XP : (Str → Option Value) → Heap → Prop} {YP : World → Heap → Prop} {d : DefRec} {K : Params → PySem.W.Frag} (hn : l.most = some 63) (hdf : d.params.defaults = [])
    (hY : ∀ (w : World) (h : Heap), YP w h → (K w.params).In h)
    (F : ∀ (w : World) (mg : Str → Option Value) (fa : Addr) (h : Heap), (K w.params).In h → h.Ns mainGlobals mg → mg d.name = some (.ref fa) →
      ∃ fd : FuncData, (∀ (s : Shared) (u : Value), BindsTo s fd ⟨[u], []⟩ [("_law_script", u)]) ∧ ∀ base : Heap, (K w.params).In base → base.Ns mainGlobals mg → FnOk l.prog w (K w.params) mg base CX0 20 fa fd ["_law_script"] (spLaw (K w.params))) :
    PySem.W.WalkO q loose XP YP l.row.toRowW d [] (fun f vs => PySem.call f vs) :=
  L2.walk_of (n := 63) (k := 20) (x := "_law_script") (CX := fun _ => CX0) (sp := fun w => spLaw (K w.params)) hn (by decide) hdf ⟨rfl, by decide, by decide⟩ hY F (fun _ _ a ns hl _ hS => ⟨a, ns, rfl, hS, hl, fun _ => rfl⟩) fun _ _ _ _ _ z => z
end Hf
open PySem PySem.W PyProof.Rows
set_option maxRecDepth 100000 in
set_option maxHeartbeats 0 in
theorem PySem.Challenge.cw_halfrows_k01_words_and_marks_holds : PySem.Challenge.rw_halfrows_k01_words_and_marks.Holds := by
  w_on; o_law; k_head; (case hw => w_witness2)
  k_fill
  refine Hf.walk (l := PySem.Challenge.rw_halfrows_k01_words_and_marks) rfl rfl (fun w h Y => PySem.W.kIn_of Y) ?F
  case F =>
    intro w mg fa h KX G hmg
    refine' Hf.all_mk KX G hmg ?aB ?a_is_whole ?l_is_whole ?k0_is_whole ?kk_is_whole ?a_is_among ?l_is_among ?k0_is_among ?kk_is_among ?a_ones_in ?l_ones_in ?k0_ones_in ?kk_ones_in ?a_packed ?l_packed ?k0_packed ?kk_packed ?a_B_init ?i_B_init ?l_B_init ?k0_B_init ?kk_B_init ?a_B_words ?i_B_words ?l_B_words ?k0_B_words ?kk_B_words ?a_B_marks ?i_B_marks ?l_B_marks ?k0_B_marks ?kk_B_marks ?a_B_bits ?i_B_bits ?l_B_bits ?k0_B_bits ?kk_B_bits ?a_B_bit_at ?i_B_bit_at ?l_B_bit_at ?k0_B_bit_at ?kk_B_bit_at ?a__law_next ?l__law_next ?k0__law_next ?kk__law_next ?a__law_great ?l__law_great ?k0__law_great ?kk__law_great ?a__law_bits ?l__law_bits ?k0__law_bits ?kk__law_bits ?a__law_words ?l__law_words ?k0__law_words ?kk__law_words ?a__law_row_right ?l__law_row_right ?k0__law_row_right ?kk__law_row_right ?a_law ?l_law ?k0_law ?kk_law ?pgB ?hdB ?poB ?saB ?mkB ?kcB ?nB_size ?nB_packs ?nB_heads ?aeBadRow ?xeBadRow ?keBadRow ?beBadRow ?teBadRow ?aeNoPlace ?xeNoPlace ?keNoPlace ?beNoPlace ?teNoPlace ?vWORD ?vMOST_BITS ?z_isinstance ?z_int ?z_bool ?z_list ?z_len ?z_enumerate ?z_range ?z_all ?z_sum ?z_reversed
    (case aB => k_is)
    (case a_is_whole => k_is)
    (case l_is_whole => k_is)
    (case k0_is_whole => k_is)
    (case kk_is_whole => k_is)
    (case a_is_among => k_is)
    (case l_is_among => k_is)
    (case k0_is_among => k_is)
    (case kk_is_among => k_is)
    (case a_ones_in => k_is)
    (case l_ones_in => k_is)
    (case k0_ones_in => k_is)
    (case kk_ones_in => k_is)
    (case a_packed => k_is)
    (case l_packed => k_is)
    (case k0_packed => k_is)
    (case kk_packed => k_is)
    (case a_B_init => k_is)
    (case i_B_init => k_is)
    (case l_B_init => k_is)
    (case k0_B_init => k_is)
    (case kk_B_init => k_is)
    (case a_B_words => k_is)
    (case i_B_words => k_is)
    (case l_B_words => k_is)
    (case k0_B_words => k_is)
    (case kk_B_words => k_is)
    (case a_B_marks => k_is)
    (case i_B_marks => k_is)
    (case l_B_marks => k_is)
    (case k0_B_marks => k_is)
    (case kk_B_marks => k_is)
    (case a_B_bits => k_is)
    (case i_B_bits => k_is)
    (case l_B_bits => k_is)
    (case k0_B_bits => k_is)
    (case kk_B_bits => k_is)
    (case a_B_bit_at => k_is)
    (case i_B_bit_at => k_is)
    (case l_B_bit_at => k_is)
    (case k0_B_bit_at => k_is)
    (case kk_B_bit_at => k_is)
    (case a__law_next => k_is)
    (case l__law_next => k_is)
    (case k0__law_next => k_is)
    (case kk__law_next => k_is)
    (case a__law_great => k_is)
    (case l__law_great => k_is)
    (case k0__law_great => k_is)
    (case kk__law_great => k_is)
    (case a__law_bits => k_is)
    (case l__law_bits => k_is)
    (case k0__law_bits => k_is)
    (case kk__law_bits => k_is)
    (case a__law_words => k_is)
    (case l__law_words => k_is)
    (case k0__law_words => k_is)
    (case kk__law_words => k_is)
    (case a__law_row_right => k_is)
    (case l__law_row_right => k_is)
    (case k0__law_row_right => k_is)
    (case kk__law_row_right => k_is)
    (case a_law => k_is)
    (case l_law => k_is)
    (case k0_law => k_is)
    (case kk_law => k_is)
    (case pgB => k_is)
    (case hdB => k_is)
    (case poB => k_is)
    (case saB => k_is)
    (case mkB => k_is)
    (case kcB => k_is)
    (case nB_size => k_is)
    (case nB_packs => k_is)
    (case nB_heads => k_is)
    (case aeBadRow => k_is)
    (case xeBadRow => k_exc)
    (case keBadRow => k_is)
    (case beBadRow => k_is)
    (case teBadRow => k_is)
    (case aeNoPlace => k_is)
    (case xeNoPlace => k_exc)
    (case keNoPlace => k_is)
    (case beNoPlace => k_is)
    (case teNoPlace => k_is)
    (case vWORD => k_is)
    (case vMOST_BITS => k_is)
    (case z_isinstance => k_is)
    (case z_int => k_is)
    (case z_bool => k_is)
    (case z_list => k_is)
    (case z_len => k_is)
    (case z_enumerate => k_is)
    (case z_range => k_is)
    (case z_all => k_is)
    (case z_sum => k_is)
    (case z_reversed => k_is)
